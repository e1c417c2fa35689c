import PyProof.Rows.All
import Wide.All
import OpenK.AllK
import Wide.FinOn
import KE.KStateDown
import HandS.ForMost
import HandS.Exc
import HandS.TryOnly
import HandS.ExcOwn
import HandS.WordsExc
import HandS.TupAny
import HandS.TupMul
import HandS.Walk
import HandS.Lambda
import HandS.IsInst
import HandS.Style
import HandS.Zip
import HandS.Comp
import HandS.HeadHook1
import HandS.Dict
import HandS.ExcIs
import HandS.ExcValue
import HandS.Iter
import KE.KDictLaws
import HandS.HeadHook4
import HandS.Set
import HandS.SetFor
import HandS.SetTxt0
import HandS.Strs
import PyProof.Rows.SortShellAny
import HandS.HeadWalk
import HandS.EndTab
import HandS.Defaults
import Lean
import HandS.Head0
import HandS.Head1
import HandS.Head2
import HandS.HeadEnd
import HandS.HeadHook2
import PySem.Challenge.RW_stampedrows_k01_not_words
set_option Elab.async false
section
set_option linter.all false
/-! A small language with slots and data trees, and what its texts compute. Core Lean alone. -/
namespace Mn

/-- data: a value with all that it reaches; `own`, `ownd`: a list, a dict that one slot alone holds and may change; `fn`: a def by its number; `obj`: an object of the world by its number; `scr`: the script -/
inductive D where
  | non | bl (b : Bool) | int (i : Int) | str (s : List Nat) | tup (l : List D) | lst (l : List D) | dic (l : List (D × D))
  | own (l : List D) | ownd (l : List (D × D)) | fn (n : Nat) | obj (n : Nat) | scr

/-- objects of the world -/
inductive WO where
  | script (ns : List Int)
  | town (count : Int) (rests : List (Int × Int))
  | sheet (words boxes : D) (done undone : List D)
abbrev W := List WO

inductive Res (α : Type) where
  | ok (a : α) (w : W)
  | exc (c : Nat) (w : W)
  | bad
@[inline] def Res.bind {α β : Type} (r : Res α) (f : α → W → Res β) : Res β := match r with
  | .ok a w => f a w
  | .exc c w => .exc c w
  | .bad => .bad
theorem Res.bind_ok {α β : Type} {a : α} {w : W} {f : α → W → Res β} : (Res.ok a w).bind f = f a w := rfl
theorem Res.bind_exc {α β : Type} {c : Nat} {w : W} {f : α → W → Res β} : (Res.exc c w : Res α).bind f = .exc c w := rfl
theorem Res.bind_bad {α β : Type} {f : α → W → Res β} : (Res.bad : Res α).bind f = .bad := rfl
/-- an error is stuck -/
@[inline] def Res.calm {α : Type} (r : Res α) : Res α := match r with
  | .ok a w => .ok a w
  | .exc _ _ => .bad
  | .bad => .bad
/-- a value that is there, or stuck -/
def Res.of {α : Type} (o : Option α) (w : W) : Res α := match o with
  | some a => .ok a w
  | none => .bad
theorem Res.of_some {α : Type} {a : α} {w : W} : Res.of (some a) w = .ok a w := rfl

/-! ### values -/
abbrev LIM : Nat := 1000000

mutual
def eqD : D → D → Bool
  | .non, .non => true
  | .bl a, .bl b => a == b
  | .int a, .int b => a == b
  | .bl a, .int b => (if a then 1 else 0) == b
  | .int a, .bl b => a == (if b then 1 else 0)
  | .str a, .str b => a == b
  | .tup a, .tup b => eqDs a b
  | .lst a, .lst b => eqDs a b
  | _, _ => false
def eqDs : List D → List D → Bool
  | [], [] => true
  | a :: as, b :: bs => eqD a b && eqDs as bs
  | _, _ => false
end
/-- data that == may be asked of, so deep at most -/
def plain : Nat → D → Bool
  | _, .non => true
  | _, .bl _ => true
  | _, .int _ => true
  | _, .str _ => true
  | n + 1, .tup l => l.all (plain n)
  | n + 1, .lst l => l.all (plain n)
  | _, _ => false
def flat : D → Bool
  | .non => true
  | .bl _ => true
  | .int _ => true
  | .str _ => true
  | _ => false
/-- an own list as a value -/
def D.thaw : D → D
  | .own l => .lst l
  | .ownd l => .dic l
  | d => d
def isOwn : D → Bool
  | .own _ => true
  | .ownd _ => true
  | _ => false
/-- items of a list or a tuple -/
def seqOf : D → Option (List D)
  | .tup l => some l
  | .lst l => some l
  | .own l => some l
  | _ => none
def lstOf : D → Option (List D)
  | .lst l => some l
  | .own l => some l
  | _ => none
def dicOf : D → Option (List (D × D))
  | .dic l => some l
  | .ownd l => some l
  | _ => none
def strsOf : List D → Option (List (List Nat))
  | [] => some []
  | .str s :: r => (strsOf r).map (s :: ·)
  | _ => none
def intsOf : List D → Option (List Int)
  | [] => some []
  | .int s :: r => (intsOf r).map (s :: ·)
  | _ => none
def blsOf : List D → Option (List Bool)
  | [] => some []
  | .bl s :: r => (blsOf r).map (s :: ·)
  | _ => none
/-- < of code points -/
def ltS : List Nat → List Nat → Bool
  | [], [] => false
  | [], _ :: _ => true
  | _ :: _, [] => false
  | x :: xs, y :: ys => if x = y then ltS xs ys else decide (x < y)
def leS (a b : List Nat) : Bool := !ltS b a
def insS (x : List Nat) : List (List Nat) → List (List Nat)
  | [] => [x]
  | y :: r => if ltS y x then y :: insS x r else x :: y :: r
def sortS : List (List Nat) → List (List Nat)
  | [] => []
  | x :: r => insS x (sortS r)
def insI (x : Int) : List Int → List Int
  | [] => [x]
  | y :: r => if y < x then y :: insI x r else x :: y :: r
def sortI : List Int → List Int
  | [] => []
  | x :: r => insI x (sortI r)
/-- each once, the first kept -/
def onceS : List (List Nat) → List (List Nat)
  | [] => []
  | x :: r => x :: (onceS r).filter fun y => !(y == x)
/-- a slice's bound among n, d where it is left out -/
def sIx (n d : Nat) : Option Int → Nat
  | none => d
  | some v => if v < 0 then (v + (n : Int)).toNat else min v.toNat n
def cut {α : Type} (l : List α) (lo hi : Option Int) : List α := (l.drop (sIx l.length 0 lo)).take (sIx l.length l.length hi - sIx l.length 0 lo)
/-- the place that an index of any sign means -/
def ixN (n : Nat) (i : Int) : Option Nat := if 0 ≤ i then (if i < n then some i.toNat else none) else if -(n : Int) ≤ i then some (i + n).toNat else none
def atI {α : Type} (l : List α) (i : Int) : Option α := (ixN l.length i).bind fun j => l[j]?
def prefS : List Nat → List Nat → Bool
  | [], _ => true
  | _ :: _, [] => false
  | x :: xs, y :: ys => x == y && prefS xs ys
def inS (a : List Nat) : List Nat → Bool
  | [] => a.isEmpty
  | y :: ys => prefS a (y :: ys) || inS a ys
def splitGo (c : Nat) : List Nat → List Nat → List (List Nat)
  | acc, [] => [acc]
  | acc, x :: r => if x = c then acc :: splitGo c [] r else splitGo c (acc ++ [x]) r
/-- s.split(c), c one sign -/
def splitS (c : Nat) (s : List Nat) : List (List Nat) := splitGo c [] s
def joinS (sep : List Nat) : List (List Nat) → List Nat
  | [] => []
  | [x] => x
  | x :: y :: r => x ++ sep ++ joinS sep (y :: r)
/-- s.replace(c, t), c one sign -/
def replS (c : Nat) (t : List Nat) (s : List Nat) : List Nat := s.flatMap fun x => if x = c then t else [x]
/-- a dict's entry -/
def dget (k : D) : List (D × D) → Option D
  | [] => none
  | (a, v) :: r => if eqD a k then some v else dget k r
def dput (k v : D) : List (D × D) → List (D × D)
  | [] => [(k, v)]
  | (a, u) :: r => if eqD a k then (a, v) :: r else (a, u) :: dput k v r
/-- keys: ints and texts, or tuples of them, never a bool -/
def isKey1 : D → Bool
  | .int _ => true
  | .str _ => true
  | _ => false
def isKeyT : D → Bool
  | .tup l => l.all isKey1
  | _ => false
/-- all keys of one kind -/
def kindOk (k : D) (l : List (D × D)) : Bool := (isKey1 k && l.all fun p => isKey1 p.1) || (isKeyT k && !l.isEmpty && l.all fun p => isKeyT p.1)

/-! ### the texts -/
inductive BOp where | add | sub | mul | mod
  deriving DecidableEq
inductive COp where | eq | ne | lt | le | gt | ge | isin | notin | isN | notN
  deriving DecidableEq
inductive Ty where | int | bool | str | tuple
  deriving DecidableEq
inductive B where | len | isi (t : Ty) | all | dict | int | list | max | min | sorted | sortset | str | tuple
  deriving DecidableEq
inductive M where | join | replace | split | count | index | get
  deriving DecidableEq
inductive ItK where | seq | keys | range | enum | zip
  deriving DecidableEq
inductive C where | non | bl (b : Bool) | int (i : Int) | str (s : List Nat)
  deriving DecidableEq
def C.val : C → D
  | .non => .non
  | .bl b => .bl b
  | .int i => .int i
  | .str s => .str s
inductive E where
  | var (i : Nat)
  | cst (c : C)
  | fn (n : Nat)
  | tup (es : List E) | lst (es : List E) | dict (ks vs : List E)
  | bin (op : BOp) (a b : E) | neg (a : E) | not (a : E)
  | cmp (op : COp) (a b : E) | chain (o1 o2 : COp) (a b c : E)
  | and (es : List E) | or (es : List E)
  | ite (c a b : E)
  | ix (a i : E) | sl (a : E) (lo hi : List E) | rev (a : E)
  | comp (elt : E) (tg : List Nat) (one : Bool) (k : ItK) (its : List E) (cond : List E)
  | call (f : Nat) (es : List E) | callv (i : Nat) (es : List E)
  | blt (b : B) (es : List E) | mt (m : M) (o : E) (es : List E)
  | res (body : E)
  | fstr (es : List E)
inductive S where
  | asg (i : Nat) (e : E) | asgN (i : Nat) (e : E) | frz (i j : Nat)
  | par (is : List (Nat × Bool)) (es : List E) | unp (is : List Nat) (e : E)
  | setl (i : Nat) (x v : E) | setd (i : Nat) (k v : E)
  | app (i : Nat) (e : E) | ext (i : Nat) (e : E) | upd (i : Nat) (e : E) | pop0 (i j : Nat)
  | expr (e : E)
  | iff (c : E) (a b : List S)
  | for_ (tg : List Nat) (one : Bool) (k : ItK) (its : List E) (body : List S)
  | while_ (c : E) (body : List S)
  | ret (js : List Nat) (e : E) | retN | raise (c : Nat) | cont | pass | stuck
structure Fn where
  np : Nat
  ns : Nat
  body : List S

/-! ### operators -/
def addD : D → D → Option D
  | .int a, .int b => some (.int (a + b))
  | .str a, .str b => if a.length + b.length ≤ LIM then some (.str (a ++ b)) else none
  | .tup a, .tup b => if a.length + b.length ≤ LIM then some (.tup (a ++ b)) else none
  | a, b => (lstOf a).bind fun xs => (lstOf b).bind fun ys => if xs.length + ys.length ≤ LIM then some (.lst (xs ++ ys)) else none
def subD : D → D → Option D
  | .int a, .int b => some (.int (a - b))
  | _, _ => none
def mulD : D → D → Option D
  | .int a, .int b => if -1000000000 < a ∧ a < 1000000000 then some (.int (a * b)) else none
  | .str a, .int k => if a.length * k.toNat ≤ LIM ∧ -1000000 ≤ k ∧ k ≤ 1000000 then some (.str (List.replicate k.toNat a).flatten) else none
  | .tup a, .int k => if a.length ≤ 1000 ∧ a ≠ [] ∧ 2 ≤ k ∧ k ≤ 1000 then some (.tup (List.replicate k.toNat a).flatten) else none
  | .lst a, .int k => if a.length * k.toNat ≤ LIM ∧ -1000000 ≤ k ∧ k ≤ 1000000 then some (.lst (List.replicate k.toNat a).flatten) else none
  | _, _ => none
def modD : D → D → Option D
  | .int a, .int b => if 0 < b then some (.int (a % b)) else none
  | _, _ => none
def binop : BOp → D → D → Option D
  | .add => addD
  | .sub => subD
  | .mul => mulD
  | .mod => modD
/-- x in d -/
def inD (x d : D) : Option Bool := match d, x with
  | .str t, .str s => if s.isEmpty then none else some (inS s t)
  | .dic l, k => if kindOk k l then some (dget k l).isSome else none
  | .ownd l, k => if kindOk k l then some (dget k l).isSome else none
  | d, x => (seqOf d).bind fun l => if flat x && l.all flat then some (l.any fun y => eqD y x) else none
def eqOp (a b : D) : Option Bool := if plain 9 a.thaw && plain 9 b.thaw then some (eqD a.thaw b.thaw) else none
def ltOp : D → D → Option Bool
  | .str a, .str b => some (ltS a b)
  | .int a, .int b => some (decide (a < b))
  | _, _ => none
def leOp : D → D → Option Bool
  | .int a, .int b => some (decide (a ≤ b))
  | _, _ => none
def gtOp : D → D → Option Bool
  | .int a, .int b => some (decide (b < a))
  | _, _ => none
def geOp : D → D → Option Bool
  | .int a, .int b => some (decide (b ≤ a))
  | _, _ => none
def cmpop : COp → D → D → Option Bool
  | .eq => eqOp
  | .ne => fun a b => (eqOp a b).map (!·)
  | .isin => inD
  | .notin => fun a b => (inD a b).map (!·)
  | .lt => ltOp
  | .le => leOp
  | .gt => gtOp
  | .ge => geOp
  | .isN => fun _ _ => none
  | .notN => fun _ _ => none
def isNone : D → Bool
  | .non => true
  | _ => false
/-- a test's answer -/
def truth : D → Option Bool
  | .bl b => some b
  | _ => none
def index : D → D → Option D
  | .str s, .int i => (atI s i).map fun c => .str [c]
  | .tup l, .int i => atI l i
  | .lst l, .int i => atI l i
  | .own l, .int i => atI l i
  | .dic l, k => if kindOk k l then dget k l else none
  | .ownd l, k => if kindOk k l then dget k l else none
  | _, _ => none
def part : List D → Option (Option Int)
  | [] => some none
  | [.int i] => some (some i)
  | _ => none
def slice (d : D) (lo hi : Option Int) : Option D := match d with
  | .str s => some (.str (cut s lo hi))
  | .tup l => some (.tup (cut l lo hi))
  | .lst l => some (.lst (cut l lo hi))
  | .own l => some (.lst (cut l lo hi))
  | _ => none
def revD : D → Option D
  | .str s => some (.str s.reverse)
  | .tup l => some (.tup l.reverse)
  | .lst l => some (.lst l.reverse)
  | .own l => some (.lst l.reverse)
  | _ => none
def isTy : Ty → D → Bool
  | .int, .int _ => true
  | .int, .bl _ => true
  | .bool, .bl _ => true
  | .str, .str _ => true
  | .tuple, .tup _ => true
  | _, _ => false
def isTyOk : D → Bool
  | .fn _ => false
  | .obj _ => false
  | .scr => false
  | .ownd _ => false
  | .dic _ => false
  | _ => true
def lenD : D → Option Nat
  | .str s => some s.length
  | .tup l => some l.length
  | .lst l => some l.length
  | .own l => some l.length
  | _ => none
/-- pairs of two ints, of an int and a text, in order of tuples -/
def ltP : D → D → Option Bool
  | .tup [.int a, .int x], .tup [.int b, .int y] => some (if a = b then decide (x < y) else decide (a < b))
  | .tup [.int a, .str x], .tup [.int b, .str y] => some (if a = b then ltS x y else decide (a < b))
  | .int a, .int b => some (decide (a < b))
  | .str a, .str b => some (ltS a b)
  | _, _ => none
/-- the first greatest -/
def maxGo (best : D) : List D → Option D
  | [] => some best
  | x :: r => (ltP best x).bind fun b => maxGo (if b then x else best) r
def minGo (best : D) : List D → Option D
  | [] => some best
  | x :: r => (ltP x best).bind fun b => minGo (if b then x else best) r
def pairsOf : List D → Option (List (D × D))
  | [] => some []
  | .tup [k, v] :: r => (pairsOf r).map ((k, v) :: ·)
  | _ => none
def dmerge (l : List (D × D)) : List (D × D) → List (D × D)
  | [] => l
  | (k, v) :: r => dmerge (dput k v l) r
def sortedD (l : List D) : Option (List D) := match strsOf l with
  | some ss => some ((sortS ss).map .str)
  | none => (intsOf l).map fun is => (sortI is).map .int
def bLen : List D → Option D
  | [d] => (lenD d).map fun (n : Nat) => .int (n : Int)
  | _ => none
def bIsi (t : Ty) : List D → Option D
  | [d] => if isTyOk d then some (.bl (isTy t d)) else none
  | _ => none
def bAll : List D → Option D
  | [d] => (lstOf d).bind fun l => (blsOf l).map fun bs => .bl (bs.all id)
  | _ => none
def bDict : List D → Option D
  | [d] => (lstOf d).bind fun l => (pairsOf l).bind fun ps => if ps.all (fun p => isKey1 p.1) && !(ps.any fun p => isOwn p.2) then some (.dic (dmerge [] ps)) else none
  | _ => none
def bInt : List D → Option D
  | [.str [c]] => if 48 ≤ c ∧ c ≤ 57 then some (.int ((c : Int) - 48)) else none
  | _ => none
def bList : List D → Option D
  | [d] => (seqOf d).map .lst
  | _ => none
def bTuple : List D → Option D
  | [d] => (seqOf d).map .tup
  | _ => none
def maxL : List D → Option D
  | x :: r => maxGo x r
  | [] => none
def minL : List D → Option D
  | x :: r => minGo x r
  | [] => none
def bMax : List D → Option D
  | [d] => (lstOf d).bind maxL
  | [.int a, .int b] => some (.int (if b > a then b else a))
  | _ => none
def bMin : List D → Option D
  | [d] => (lstOf d).bind minL
  | [.int a, .int b] => some (.int (if b < a then b else a))
  | [.str a, .str b, .str c] => minGo (.str a) [.str b, .str c]
  | _ => none
def bSorted : List D → Option D
  | [.dic l] => (intsOf (l.map (·.1))).map fun is => .lst ((sortI is).map .int)
  | [.ownd l] => (intsOf (l.map (·.1))).map fun is => .lst ((sortI is).map .int)
  | [d] => (seqOf d).bind fun l => if l.length ≤ LIM then (sortedD l).map .lst else none
  | _ => none
def bSortset : List D → Option D
  | [d] => (lstOf d).bind fun l => if l.length ≤ 1000 then (strsOf l).map fun ss => .lst ((sortS (onceS ss)).map .str) else none
  | _ => none
def bStr : List D → Option D
  | [.int i] => if 0 ≤ i ∧ i ≤ 9 then some (.str [48 + i.toNat]) else none
  | _ => none
def blt : B → List D → Option D
  | .len => bLen
  | .isi t => bIsi t
  | .all => bAll
  | .dict => bDict
  | .int => bInt
  | .list => bList
  | .max => bMax
  | .min => bMin
  | .sorted => bSorted
  | .sortset => bSortset
  | .str => bStr
  | .tuple => bTuple
def firstAt (p : D → Bool) : Nat → List D → Option Nat
  | _, [] => none
  | n, x :: r => if p x then some n else firstAt p (n + 1) r
def mJoin : D → List D → Option D
  | .str sep, [d] => (seqOf d).bind fun l => (strsOf l).bind fun ss => if (ss.map List.length).sum + sep.length * ss.length ≤ LIM then some (.str (joinS sep ss)) else none
  | _, _ => none
def mReplace : D → List D → Option D
  | .str s, [.str [c], .str [t]] => if s.length ≤ LIM then some (.str (replS c [t] s)) else none
  | _, _ => none
def mSplit : D → List D → Option D
  | .str s, [.str [c]] => if s.length ≤ LIM then some (.lst ((splitS c s).map .str)) else none
  | _, _ => none
def mCount : D → List D → Option D
  | .str s, [.str [c]] => if s.length ≤ LIM then some (.int (s.filter (· == c)).length) else none
  | _, _ => none
def mIndex : D → List D → Option D
  | d, [x] => (seqOf d).bind fun l => if flat x && l.all flat then (firstAt (fun y => eqD y x) 0 l).map fun (n : Nat) => .int (n : Int) else none
  | _, _ => none
def mGet : D → List D → Option D
  | d, [k, x] => (dicOf d).bind fun l => if kindOk k l then some ((dget k l).getD x) else none
  | _, _ => none
def mtd : M → D → List D → Option D
  | .join => mJoin
  | .replace => mReplace
  | .split => mSplit
  | .count => mCount
  | .index => mIndex
  | .get => mGet
/-- whose method it is -/
def rcv : M → D → Bool
  | .index, d => (seqOf d).isSome
  | .get, d => (dicOf d).isSome
  | _, .str _ => true
  | _, _ => false
/-- what a loop walks -/
def itemsD : D → Option (List D)
  | .str s => some (s.map fun c => .str [c])
  | .tup l => some l
  | .lst l => some l
  | _ => none
/-- .. numbered from n on -/
def enumFrom : Nat → List D → List D
  | _, [] => []
  | n, x :: r => .tup [.int n, x] :: enumFrom (n + 1) r
def zipD : List D → List D → List D
  | x :: xs, y :: ys => .tup [x, y] :: zipD xs ys
  | _, _ => []
/-- a, a + 1, .. so many -/
def rangeD : Int → Nat → List D
  | _, 0 => []
  | a, n + 1 => .int a :: rangeD (a + 1) n
/-- walked in pairs: a list, a tuple, a text -/
def isSeqD : D → Bool
  | .str _ => true
  | .tup _ => true
  | .lst _ => true
  | _ => false
def itemsOf : ItK → List D → Option (List D)
  | .seq, [d] => itemsD d
  | .keys, [d] => (dicOf d).bind fun l => if (l.all fun p => isKey1 p.1) then some (l.map (·.1)) else none
  | .range, [.int n] => if -1000000 ≤ n ∧ n ≤ 1000000 then some (rangeD 0 n.toNat) else none
  | .range, [.int a, .int b] => if -1000000 ≤ a ∧ a ≤ 1000000 ∧ -1000000 ≤ b ∧ b ≤ 1000000 then some (rangeD a (b - a).toNat) else none
  | .enum, [d] => if isSeqD d then (itemsD d).map (enumFrom 0) else none
  | .zip, [.tup l, .tup m] => some (zipD l m)
  | .zip, [.lst l, .lst m] => some (zipD l m)
  | _, _ => none

/-! ### slots -/
abbrev Env := List (Option D)
def Env.at (ρ : Env) (i : Nat) : Option D := (ρ[i]?).bind id
def Env.put (ρ : Env) (i : Nat) (d : D) : Env := ρ.set i (some d)
def putAll : Env → List Nat → List D → Option Env
  | ρ, [], [] => some ρ
  | ρ, i :: is, d :: ds => putAll (ρ.put i d) is ds
  | _, _, _ => none
/-- a loop's target: one name, or so many at once -/
def bindT (ρ : Env) (tg : List Nat) (one : Bool) (d : D) : Option Env := match one, tg, d with
  | true, [i], d => some (ρ.put i d)
  | false, is, .tup ds => putAll ρ is ds
  | _, _, _ => none
def wipe (ρ : Env) : List Nat → Env
  | [] => ρ
  | i :: is => (wipe ρ is).set i none

/-- the errors by their numbers, as the law tells them: words, boxes, stamps, row, length, text, too many, nothing to undo -/
def errName : Nat → List Nat
  | 0 => [115, 101, 116]
  | 1 => [98, 111, 120, 101, 115]
  | 2 => [109, 97, 114, 107, 115]
  | 3 => [108, 105, 110, 101]
  | 4 => [108, 101, 110, 103, 116, 104]
  | 5 => [116, 101, 120, 116]
  | 6 => [109, 97, 110, 121]
  | _ => [117, 110, 100, 111]
/-- _law_result of a call -/
def told : Res D → Res D
  | .ok d w => if isOwn d then .bad else .ok (.tup [.str [114, 101, 116, 117, 114, 110, 115], d]) w
  | .exc c w => if c < 8 then .ok (.tup [.str (errName c)]) w else .bad
  | .bad => .bad
/-! ### what a text computes -/
def compGo (f : D → W → Res (Option D)) : List D → W → Res (List D)
  | [], w => .ok [] w
  | x :: r, w => (f x w).calm.bind fun o w => (compGo f r w).bind fun l w => .ok (match o with | some d => d :: l | none => l) w
section
variable (Φ : Nat → List D → W → Res D)
mutual
def ev : E → Env → W → Res D
  | .var i, ρ, w => .of (ρ.at i) w
  | .cst c, _, w => .ok c.val w
  | .fn n, _, w => .ok (.fn n) w
  | .tup es, ρ, w => (evs es ρ w).bind fun ds w => if ds.any isOwn then .bad else .ok (.tup ds) w
  | .lst es, ρ, w => (evs es ρ w).bind fun ds w => if ds.any isOwn then .bad else .ok (.lst ds) w
  | .dict ks vs, ρ, w => (evs ks ρ w).bind fun a w => (evs vs ρ w).bind fun b w => if a.length = b.length ∧ !(b.any isOwn) ∧ (a.all isKey1 ∨ a.all isKeyT) then .ok (.dic (dmerge [] (a.zip b))) w else .bad
  | .bin op a b, ρ, w => (ev a ρ w).bind fun x w => (ev b ρ w).bind fun y w => .of (binop op x y) w
  | .neg a, ρ, w => (ev a ρ w).bind fun x w => match x with | .int i => .ok (.int (-i)) w | _ => .bad
  | .not a, ρ, w => (ev a ρ w).bind fun x w => .of ((truth x).map fun b => .bl (!b)) w
  | .cmp .isN a _, ρ, w => (ev a ρ w).bind fun x w => .ok (.bl (isNone x)) w
  | .cmp .notN a _, ρ, w => (ev a ρ w).bind fun x w => .ok (.bl (!isNone x)) w
  | .cmp op a b, ρ, w => (ev a ρ w).bind fun x w => (ev b ρ w).bind fun y w => .of ((cmpop op x y).map .bl) w
  | .chain o1 o2 a b c, ρ, w => (ev a ρ w).bind fun x w => (ev b ρ w).bind fun y w => match cmpop o1 x y with
    | some true => (ev c ρ w).bind fun z w => .of ((cmpop o2 y z).map .bl) w
    | some false => .ok (.bl false) w
    | none => .bad
  | .and es, ρ, w => evAnd es ρ w
  | .or es, ρ, w => evOr es ρ w
  | .ite c a b, ρ, w => (ev c ρ w).bind fun x w => match truth x with
    | some true => ev a ρ w
    | some false => ev b ρ w
    | none => .bad
  | .ix a i, ρ, w => (ev a ρ w).bind fun x w => (ev i ρ w).bind fun y w => .of (index x y) w
  | .sl a lo hi, ρ, w => (ev a ρ w).bind fun x w => ((evs lo ρ w).bind fun l w => .of (part l) w).bind fun l w => ((evs hi ρ w).bind fun h w => .of (part h) w).bind fun h w => .of (slice x l h) w
  | .rev a, ρ, w => (ev a ρ w).bind fun x w => .of (revD x) w
  | .comp elt tg one k its cond, ρ, w => (evs its ρ w).bind fun ds w => match itemsOf k ds with
    | none => .bad
    | some items => if LIM < items.length then .bad else (compGo (fun x w => match bindT (wipe ρ tg) tg one x with
      | none => .bad
      | some ρ' => (evAnd cond ρ' w).bind fun c w => match truth c with
        | some true => (ev elt ρ' w).bind fun d w => if isOwn d then .bad else .ok (some d) w
        | some false => .ok none w
        | none => .bad) items w).bind fun l w => .ok (.lst l) w
  | .call f es, ρ, w => (evs es ρ w).bind fun ds w => if ds.any isOwn then .bad else Φ f ds w
  | .callv i es, ρ, w => match ρ.at i with
    | some (.fn f) => (evs es ρ w).bind fun ds w => if ds.any isOwn then .bad else Φ f ds w
    | _ => .bad
  | .blt b es, ρ, w => (evs es ρ w).bind fun ds w => .of (blt b ds) w
  | .mt m o es, ρ, w => (ev o ρ w).bind fun x w => if rcv m x then (evs es ρ w).bind fun ds w => .of (mtd m x ds) w else .bad
  | .res body, ρ, w => told (ev body ρ w)
  | .fstr es, ρ, w => evF es ρ w
def evs : List E → Env → W → Res (List D)
  | [], _, w => .ok [] w
  | e :: r, ρ, w => (ev e ρ w).bind fun d w => (evs r ρ w).bind fun l w => .ok (d :: l) w
/-- all but the last are truth values -/
def evAnd : List E → Env → W → Res D
  | [], _, w => .ok (.bl true) w
  | [e], ρ, w => ev e ρ w
  | e :: f :: r, ρ, w => (ev e ρ w).bind fun x w => match truth x with
    | some true => evAnd (f :: r) ρ w
    | some false => .ok (.bl false) w
    | none => .bad
def evOr : List E → Env → W → Res D
  | [], _, w => .ok (.bl false) w
  | [e], ρ, w => ev e ρ w
  | e :: f :: r, ρ, w => (ev e ρ w).bind fun x w => match truth x with
    | some false => evOr (f :: r) ρ w
    | some true => .ok (.bl true) w
    | none => .bad
/-- texts and digits side by side -/
def evF : List E → Env → W → Res D
  | [], _, w => .ok (.str []) w
  | e :: r, ρ, w => (ev e ρ w).bind fun x w => (evF r ρ w).bind fun y w => match x, y with
    | .str a, .str b => if a.length + b.length ≤ LIM then .ok (.str (a ++ b)) w else .bad
    | .int i, .str b => if 0 ≤ i ∧ i ≤ 9 ∧ b.length < LIM then .ok (.str ((48 + i.toNat) :: b)) w else .bad
    | _, _ => .bad
end
end

/-- a fresh list or dict as a slot's own -/
def fresh : D → Option D
  | .lst l => some (.own l)
  | .dic l => some (.ownd l)
  | _ => none
inductive SRes where
  | next (ρ : Env) (w : W)
  | ret (d : D) (w : W)
  | exc (c : Nat) (w : W)
  | cont (ρ : Env) (w : W)
  | bad
def SRes.andThen (r : SRes) (f : Env → W → SRes) : SRes := match r with
  | .next ρ w => f ρ w
  | r => r
/-- behind a turn -/
def SRes.turn (r : SRes) (f : Env → W → SRes) : SRes := match r with
  | .next ρ w => f ρ w
  | .cont ρ w => f ρ w
  | r => r
def Res.toS {α : Type} (r : Res α) (f : α → W → SRes) : SRes := match r with
  | .ok a w => f a w
  | .exc c w => .exc c w
  | .bad => .bad
def forGo (tg : List Nat) (one : Bool) (body : Env → W → SRes) : List D → Env → W → SRes
  | [], ρ, w => .next ρ w
  | x :: r, ρ, w => match bindT ρ tg one x with
    | none => .bad
    | some ρ' => (body ρ' w).turn fun ρ w => forGo tg one body r ρ w
def whileGo (test : Env → W → Res D) (body : Env → W → SRes) : Nat → Env → W → SRes
  | 0, _, _ => .bad
  | n + 1, ρ, w => (test ρ w).toS fun x w => match truth x with
    | some true => (body ρ w).turn fun ρ w => whileGo test body n ρ w
    | some false => .next ρ w
    | none => .bad
/-- these slots' lists and dicts are changed no more -/
def thawAt (ρ : Env) : List Nat → Env
  | [] => ρ
  | j :: js => thawAt (match ρ.at j with
    | some d => ρ.put j d.thaw
    | none => ρ) js
/-- fresh lists and dicts become a slot's own -/
def D.take (own : Bool) (d : D) : D := match own, d with
  | true, .lst l => .own l
  | true, .dic l => .ownd l
  | _, d => d
def putPar : Env → List (Nat × Bool) → List D → Option Env
  | ρ, [], [] => some ρ
  | ρ, (i, b) :: is, d :: ds => if isOwn d then none else putPar (ρ.put i (d.take b)) is ds
  | _, _, _ => none
section
variable (Φ : Nat → List D → W → Res D) (N : Nat)
mutual
def run : S → Env → W → SRes
  | .asg i e, ρ, w => (ev Φ e ρ w).toS fun d w => if isOwn d then .bad else .next (ρ.put i d) w
  | .asgN i e, ρ, w => ((ev Φ e ρ w).bind fun d w => .of (fresh d) w).toS fun d w => .next (ρ.put i d) w
  | .frz i j, ρ, w => match ρ.at j with
    | some d => .next ((ρ.put j d.thaw).put i d.thaw) w
    | none => .bad
  | .par is es, ρ, w => (evs Φ es ρ w).toS fun ds w => match putPar ρ is ds with
    | some ρ' => .next ρ' w
    | none => .bad
  | .unp is e, ρ, w => (ev Φ e ρ w).toS fun d w => match bindT ρ is false d with
    | some ρ' => .next ρ' w
    | none => .bad
  | .setl i x v, ρ, w => (ev Φ v ρ w).toS fun d w => match ρ.at i with
    | some (.own l) => (ev Φ x ρ w).toS fun k w => (match k with
      | .int z => (match ixN l.length z with
        | some j => if isOwn d then .bad else .next (ρ.put i (.own (l.set j d))) w
        | none => .bad)
      | _ => .bad)
    | _ => .bad
  | .setd i k v, ρ, w => (ev Φ v ρ w).toS fun d w => match ρ.at i with
    | some (.ownd l) => (ev Φ k ρ w).toS fun k w => if isOwn d || !kindOk k l || decide (LIM ≤ l.length) then .bad else .next (ρ.put i (.ownd (dput k d l))) w
    | _ => .bad
  | .app i e, ρ, w => match ρ.at i with
    | some (.own l) => (ev Φ e ρ w).toS fun d w => if isOwn d || decide (LIM ≤ l.length) then .bad else .next (ρ.put i (.own (l ++ [d]))) w
    | _ => .bad
  | .ext i e, ρ, w => match ρ.at i with
    | some (.own l) => (ev Φ e ρ w).toS fun d w => (match d with
      | .lst m => if l.length + m.length ≤ LIM then .next (ρ.put i (.own (l ++ m))) w else .bad
      | _ => .bad)
    | _ => .bad
  | .upd i e, ρ, w => match ρ.at i with
    | some (.ownd l) => (ev Φ e ρ w).toS fun d w => (match d with
      | .dic m => if (l.all fun p => isKey1 p.1) && (m.all fun p => isKey1 p.1) && decide (l.length + m.length ≤ LIM) then .next (ρ.put i (.ownd (dmerge l m))) w else .bad
      | _ => .bad)
    | _ => .bad
  | .pop0 i j, ρ, w => match ρ.at j with
    | some (.own (x :: r)) => .next ((ρ.put j (.own r)).put i x) w
    | _ => .bad
  | .expr e, ρ, w => (ev Φ e ρ w).toS fun _ w => .next ρ w
  | .iff c a b, ρ, w => (ev Φ c ρ w).toS fun x w => match truth x with
    | some true => runs a ρ w
    | some false => runs b ρ w
    | none => .bad
  | .for_ tg one k its body, ρ, w => (evs Φ its ρ w).toS fun ds w => match itemsOf k ds with
    | none => .bad
    | some items => forGo tg one (fun ρ w => runs body ρ w) items ρ w
  | .while_ c body, ρ, w => whileGo (fun ρ w => ev Φ c ρ w) (fun ρ w => runs body ρ w) N ρ w
  | .ret js e, ρ, w => (ev Φ e (thawAt ρ js) w).toS fun d w => if isOwn d then .bad else .ret d w
  | .retN, _, w => .ret .non w
  | .raise c, _, w => .exc c w
  | .cont, ρ, w => .cont ρ w
  | .pass, ρ, w => .next ρ w
  | .stuck, _, _ => .bad
def runs : List S → Env → W → SRes
  | [], ρ, w => .next ρ w
  | s :: r, ρ, w => (run s ρ w).andThen fun ρ w => runs r ρ w
end
def callF (fn : Fn) (ds : List D) (w : W) : Res D :=
  if ds.length = fn.np then match runs Φ N fn.body (ds.map some ++ List.replicate (fn.ns - fn.np) none) w with
    | .next _ w => .ok .non w
    | .ret d w => .ok d w
    | .exc c w => .exc c w
    | _ => .bad
  else .bad
end

/-! ### draws -/
def rget (k : Int) : List (Int × Int) → Option Int
  | [] => none
  | (a, v) :: r => if a = k then some v else rget k r
def rput (k v : Int) : List (Int × Int) → List (Int × Int)
  | [] => [(k, v)]
  | (a, u) :: r => if a = k then (a, v) :: r else (a, u) :: rput k v r
/-- the place that a draw looks at -/
def drawAt (ns : List Int) (c : Int) : Int := if ns = [] then 0 else c % ns.length
def drawOf (rest c many : Int) : Int :=
  if rest ≥ 1000000000000000000 then rest % many
  else (((rest + 104729 * c) % 4294967291) ^ 5 % 4294967279 / 64 * 69621 + ((rest + 104729 * c) % 4294967291) ^ 5 % 4294967279) % 4294967231 / 8 % many
def drawRest (ns : List Int) (c : Int) (rs : List (Int × Int)) : Int := (rget (drawAt ns c) rs).getD (ns.getD (drawAt ns c).toNat 0)
/-- the next draw: its number, the rests behind it -/
def drawNum (ns : List Int) (c : Int) (rs : List (Int × Int)) (many : Int) : Int := drawOf (drawRest ns c rs) c many
def drawLeft (ns : List Int) (c : Int) (rs : List (Int × Int)) (many : Int) : List (Int × Int) :=
  if drawRest ns c rs ≥ 1000000000000000000 then rput (drawAt ns c) (drawRest ns c rs / many) rs else rs
theorem drawOf_range (rest c : Int) {many : Int} (h : 0 < many) : 0 ≤ drawOf rest c many ∧ drawOf rest c many < many := by
  have h' : many ≠ 0 := by omega
  unfold drawOf
  split
  · exact ⟨Int.emod_nonneg _ h', Int.emod_lt_of_pos _ h⟩
  · exact ⟨Int.emod_nonneg _ h', Int.emod_lt_of_pos _ h⟩
theorem drawNum_range (ns : List Int) (c : Int) (rs : List (Int × Int)) {many : Int} (h : 0 < many) : 0 ≤ drawNum ns c rs many ∧ drawNum ns c rs many < many := drawOf_range _ _ h

/-- a def of the text, or one that is told by hand -/
inductive Df where
  | code (f : Fn)
  | draw | begun
def begunP (ds : List D) (w : W) : Res D := match ds with
  | [] => .ok (.obj w.length) (w ++ [.town 0 []])
  | _ => .bad
def drawP (ds : List D) (w : W) : Res D := match ds with
  | [.scr, .obj n, .int many] => (match (w[0]? : Option WO), (w[n]? : Option WO) with
    | some (WO.script ns), some (WO.town c rs) => if 0 < many ∧ many ≤ 1000000 then .ok (.int (drawNum ns (c + 1) rs many)) (w.set n (.town (c + 1) (drawLeft ns (c + 1) rs many))) else .bad
    | _, _ => .bad)
  | _ => .bad
/-- the defs by levels: level k may call those of less -/
def Phi (prog : Nat → Option Df) (N : Nat) : Nat → Nat → List D → W → Res D
  | 0, _, _, _ => .bad
  | k + 1, f, ds, w => match prog f with
    | some (.code fn) => callF (Phi prog N k) N fn ds w
    | some .draw => drawP ds w
    | some .begun => begunP ds w
    | none => .bad

end Mn
end
section
set_option linter.all false
/-! The order of texts, sorted lists of them. Core Lean alone. -/
namespace Sn
theorem ltS_eq : ∀ a b : List Nat, decide (a < b) = Mn.ltS a b
  | [], [] => by simp [Mn.ltS]
  | [], _ :: _ => by simp [Mn.ltS]
  | _ :: _, [] => by simp [Mn.ltS]
  | x :: xs, y :: ys => by
    unfold Mn.ltS
    rw [← ltS_eq xs ys]
    by_cases e : x = y
    · subst e
      rw [if_pos rfl, Bool.eq_iff_iff]
      simp [List.cons_lt_cons_iff]
    · rw [if_neg e, Bool.eq_iff_iff]
      simp [List.cons_lt_cons_iff, e]
theorem lt_iff (a b : List Nat) : Mn.ltS a b = true ↔ a < b := by rw [← ltS_eq]; simp
theorem tri {a b : List Nat} (h : ¬ b < a) (n : b ≠ a) : a < b := by
  rcases Classical.em (a < b) with z | z
  · exact z
  · exact absurd (List.le_antisymm (List.not_lt.mp z) (List.not_lt.mp h)) n
theorem same_sorted : ∀ {l m : List (List Nat)}, l.Pairwise (· < ·) → m.Pairwise (· < ·) → (∀ x, x ∈ l ↔ x ∈ m) → l = m
  | [], [], _, _, _ => rfl
  | [], y :: m, _, _, h => by have := (h y).mpr List.mem_cons_self; cases this
  | x :: l, [], _, _, h => by have := (h x).mp List.mem_cons_self; cases this
  | x :: l, y :: m, h1, h2, h => by
    obtain ⟨a1, a2⟩ := List.pairwise_cons.mp h1
    obtain ⟨b1, b2⟩ := List.pairwise_cons.mp h2
    have e : x = y := by
      rcases List.mem_cons.mp ((h x).mp List.mem_cons_self) with z | z
      · exact z
      · rcases List.mem_cons.mp ((h y).mpr List.mem_cons_self) with z2 | z2
        · exact z2.symm
        · exact absurd (List.lt_trans (b1 x z) (a1 y z2)) (List.lt_irrefl _)
    subst e
    congr 1
    refine same_sorted a2 b2 fun z => ?_
    constructor
    · intro hz
      rcases List.mem_cons.mp ((h z).mp (List.mem_cons_of_mem _ hz)) with q | q
      · subst q; exact absurd (a1 _ hz) (List.lt_irrefl _)
      · exact q
    · intro hz
      rcases List.mem_cons.mp ((h z).mpr (List.mem_cons_of_mem _ hz)) with q | q
      · subst q; exact absurd (b1 _ hz) (List.lt_irrefl _)
      · exact q
theorem mem_insS {x y : List Nat} : ∀ {l : List (List Nat)}, y ∈ Mn.insS x l ↔ y = x ∨ y ∈ l
  | [] => by simp [Mn.insS]
  | z :: r => by
    unfold Mn.insS
    split
    · rw [List.mem_cons, mem_insS, List.mem_cons]
      exact ⟨fun h => h.elim (fun h => .inr (.inl h)) fun h => h.elim .inl fun h => .inr (.inr h), fun h => h.elim (fun h => .inr (.inl h)) fun h => h.elim .inl fun h => .inr (.inr h)⟩
    · rw [List.mem_cons]
theorem mem_sortS {y : List Nat} : ∀ {l : List (List Nat)}, y ∈ Mn.sortS l ↔ y ∈ l
  | [] => by simp [Mn.sortS]
  | x :: r => by unfold Mn.sortS; rw [mem_insS, mem_sortS, List.mem_cons]
theorem insS_sorted {x : List Nat} : ∀ {l : List (List Nat)}, l.Pairwise (· < ·) → x ∉ l → (Mn.insS x l).Pairwise (· < ·)
  | [], _, _ => by simp [Mn.insS]
  | z :: r, h, n => by
    obtain ⟨h1, h2⟩ := List.pairwise_cons.mp h
    unfold Mn.insS
    split
    · rename_i c
      refine List.pairwise_cons.mpr ⟨fun y hy => ?_, insS_sorted h2 fun q => n (List.mem_cons_of_mem _ q)⟩
      rcases mem_insS.mp hy with e | e
      · subst e; exact (lt_iff _ _).mp c
      · exact h1 y e
    · rename_i c
      have c' : x < z := tri (fun q => c ((lt_iff _ _).mpr q)) fun q => n (q ▸ List.mem_cons_self)
      refine List.pairwise_cons.mpr ⟨fun y hy => ?_, h⟩
      rcases List.mem_cons.mp hy with e | e
      · subst e; exact c'
      · exact List.lt_trans c' (h1 y e)
theorem sortS_sorted : ∀ {l : List (List Nat)}, l.Nodup → (Mn.sortS l).Pairwise (· < ·)
  | [], _ => by simp [Mn.sortS]
  | x :: r, h => by
    obtain ⟨h1, h2⟩ := List.nodup_cons.mp h
    unfold Mn.sortS
    exact insS_sorted (sortS_sorted h2) fun q => h1 (mem_sortS.mp q)
theorem mem_onceS {y : List Nat} : ∀ {l : List (List Nat)}, y ∈ Mn.onceS l ↔ y ∈ l
  | [] => by simp [Mn.onceS]
  | x :: r => by
    unfold Mn.onceS
    rw [List.mem_cons, List.mem_filter, mem_onceS, List.mem_cons]
    by_cases e : y = x
    · simp [e]
    · simp [e]
theorem onceS_nodup : ∀ (l : List (List Nat)), (Mn.onceS l).Nodup
  | [] => by simp [Mn.onceS]
  | x :: r => by
    unfold Mn.onceS
    refine List.nodup_cons.mpr ⟨fun h => ?_, (onceS_nodup r).filter _⟩
    have := (List.mem_filter.mp h).2
    simp at this
end Sn
end
section
set_option linter.all false
set_option maxRecDepth 100000
set_option maxHeartbeats 4000000
/-! What a value of the machine says of a datum of the small language; what stands still. -/
namespace Sn
open PySem PySem.Spec PyProof.Rows L2

abbrev Dt := Mn.D
def mkS (s : List Nat) : Str := ⟨s.toArray⟩
theorem mkS_len (s : List Nat) : (mkS s).length = s.length := by simp [mkS, Str.length]
theorem mkS_inj {a b : List Nat} (h : mkS a = mkS b) : a = b := by
  have := congrArg (fun z => z.cps.toList) h
  simpa [mkS] using this

/-- a text that a machine can hold -/
def OkS (s : List Nat) : Prop := s.length ≤ sizeLine ∧ ∀ c ∈ s, c < 1114112
theorem OkS.app {a b : List Nat} (h : OkS a) (g : OkS b) (z : a.length + b.length ≤ sizeLine) : OkS (a ++ b) :=
  ⟨by rw [List.length_append]; exact z, fun c hc => (List.mem_append.mp hc).elim (h.2 c) (g.2 c)⟩
theorem OkS.sub {a b : List Nat} (h : OkS a) (z : b.length ≤ a.length) (m : ∀ c ∈ b, c ∈ a) : OkS b := ⟨Nat.le_trans z h.1, fun c hc => h.2 c (m c hc)⟩
theorem OkS.nil : OkS [] := ⟨Nat.zero_le _, fun c hc => by cases hc⟩
theorem OkS.one {c : Nat} (h : c < 1114112) : OkS [c] := ⟨by show 1 ≤ sizeLine; decide, fun d hd => by simp at hd; subst hd; exact h⟩
theorem OkS.small {s : List Nat} (h : s.length ≤ 1000000) (m : ∀ c ∈ s, c < 1114112) : OkS s := ⟨Nat.le_trans h (by decide), m⟩
/-- what is fixed through a law: the written part, where the defs and the errors' classes stand -/
structure Sta where
  K : PySem.W.Frag
  fn : Nat → Bool
  fa : Nat → Addr
  ca : Nat → Addr
  sa : Addr
  ns : List Int
  tab : List (Addr × Str)

def KeyIs : Dt → Key → Prop
  | .int i, k => k = .inl i
  | .str s, k => k = .inr (mkS s) ∧ OkS s
  | _, _ => False
def KeysAre : List Dt → List Key → Prop
  | [], ks => ks = []
  | d :: l, ks => ∃ k r, ks = k :: r ∧ KeyIs d k ∧ KeysAre l r
def TKeyIs : Dt → List Key → Prop
  | .tup l, ks => KeysAre l ks
  | _, _ => False

section
variable (T : Sta) (φ : List (List Addr)) (G : Hp)
mutual
/-- v is d, in the part G of the heap that never changes -/
def Rep : Dt → V → Prop
  | .non, v => v = .non
  | .bl b, v => v = .bl b
  | .int i, v => v = .int i
  | .str s, v => v = .str (mkS s) ∧ OkS s
  | .tup l, v => ∃ a vs, v = .ref a ∧ G a = some (.tup vs) ∧ Reps l vs
  | .lst l, v => ∃ a vs, v = .ref a ∧ G a = some (.lst vs) ∧ Reps l vs
  | .dic l, v => ∃ a, v = .ref a ∧ ((∃ kvs, G a = some (.dK kvs) ∧ RepK l kvs) ∨ ∃ kvs, G a = some (.dT kvs) ∧ l ≠ [] ∧ RepT l kvs)
  | .fn n, v => T.fn n = true ∧ v = .ref (T.fa n)
  | .obj n, v => ∃ a r, φ[n]? = some (a :: r) ∧ v = .ref a
  | .scr, v => v = .ref T.sa
  | .own _, _ => False
  | .ownd _, _ => False
def Reps : List Dt → List V → Prop
  | [], vs => vs = []
  | d :: l, vs => ∃ v r, vs = v :: r ∧ Rep d v ∧ Reps l r
def RepK : List (Dt × Dt) → List (Key × V) → Prop
  | [], kvs => kvs = []
  | (k, d) :: l, kvs => ∃ key v r, kvs = (key, v) :: r ∧ KeyIs k key ∧ Rep d v ∧ RepK l r
def RepT : List (Dt × Dt) → List (List Key × V) → Prop
  | [], kvs => kvs = []
  | (k, d) :: l, kvs => ∃ key v r, kvs = (key, v) :: r ∧ TKeyIs k key ∧ Rep d v ∧ RepT l r
end
end

/-- G's things stand in G' -/
def Le (G G' : Hp) : Prop := ∀ a o, G a = some o → G' a = some o
theorem Le.refl (G : Hp) : Le G G := fun _ _ h => h
theorem Le.trans {G G1 G2 : Hp} (a : Le G G1) (b : Le G1 G2) : Le G G2 := fun c o h => b c o (a c o h)
theorem Le.rd {G G' : Hp} (e : Le G G') {a : Addr} {u : HO} (h : Rd G a u) : Rd G' a u := h.elim (fun h => .inl (e _ _ h)) fun ⟨o, h⟩ => .inr ⟨o, e _ _ h⟩
theorem Le.sqL {K : PySem.W.Frag} {G G' : Hp} (e : Le G G') {a : Addr} {xs : List V} (h : SqL K G a xs) : SqL K G' a xs := h.elim (fun h => .inl (e.rd h)) .inr
theorem Le.sqT {K : PySem.W.Frag} {G G' : Hp} (e : Le G G') {a : Addr} {xs : List V} (h : SqT K G a xs) : SqT K G' a xs := h.elim (fun h => .inl (e.rd h)) .inr
theorem Le.upd {G : Hp} {p : Addr} (o : HO) (h : G p = none) : Le G (upd G p o) := fun a u e => by rw [upd_ne (ne_of_none e h)]; exact e

theorem pre_get {α : Type} {φ φ' : List α} (h : φ <+: φ') {n : Nat} {x : α} (e : φ[n]? = some x) : φ'[n]? = some x := by
  obtain ⟨r, rfl⟩ := h
  rw [List.getElem?_append_left (List.getElem?_eq_some_iff.mp e).1]
  exact e

section
variable {T : Sta} {φ φ' : List (List Addr)} {G G' : Hp}
mutual
theorem Rep.mono (hp : φ <+: φ') (hg : Le G G') : ∀ {d : Dt} {v : V}, Rep T φ G d v → Rep T φ' G' d v
  | .non, _, h => by unfold Rep at *; exact h
  | .bl _, _, h => by unfold Rep at *; exact h
  | .int _, _, h => by unfold Rep at *; exact h
  | .str _, _, h => by unfold Rep at *; exact h
  | .tup l, _, h => by
    unfold Rep at *
    obtain ⟨a, vs, e, q, r⟩ := h
    exact ⟨a, vs, e, hg _ _ q, Reps.mono hp hg r⟩
  | .lst l, _, h => by
    unfold Rep at *
    obtain ⟨a, vs, e, q, r⟩ := h
    exact ⟨a, vs, e, hg _ _ q, Reps.mono hp hg r⟩
  | .dic l, _, h => by
    unfold Rep at *
    obtain ⟨a, e, ⟨kvs, q, r⟩ | ⟨kvs, q, n, r⟩⟩ := h
    · exact ⟨a, e, .inl ⟨kvs, hg _ _ q, RepK.mono hp hg r⟩⟩
    · exact ⟨a, e, .inr ⟨kvs, hg _ _ q, n, RepT.mono hp hg r⟩⟩
  | .fn _, _, h => by unfold Rep at *; exact h
  | .obj _, _, h => by
    unfold Rep at *
    obtain ⟨a, r, e, q⟩ := h
    exact ⟨a, r, pre_get hp e, q⟩
  | .scr, _, h => by unfold Rep at *; exact h
  | .own _, _, h => by unfold Rep at h; exact h.elim
  | .ownd _, _, h => by unfold Rep at h; exact h.elim
theorem Reps.mono (hp : φ <+: φ') (hg : Le G G') : ∀ {l : List Dt} {vs : List V}, Reps T φ G l vs → Reps T φ' G' l vs
  | [], _, h => by unfold Reps at *; exact h
  | d :: l, _, h => by
    unfold Reps at *
    obtain ⟨v, r, e, q, t⟩ := h
    exact ⟨v, r, e, Rep.mono hp hg q, Reps.mono hp hg t⟩
theorem RepK.mono (hp : φ <+: φ') (hg : Le G G') : ∀ {l : List (Dt × Dt)} {vs : List (Key × V)}, RepK T φ G l vs → RepK T φ' G' l vs
  | [], _, h => by unfold RepK at *; exact h
  | (k, d) :: l, _, h => by
    unfold RepK at *
    obtain ⟨key, v, r, e, z, q, t⟩ := h
    exact ⟨key, v, r, e, z, Rep.mono hp hg q, RepK.mono hp hg t⟩
theorem RepT.mono (hp : φ <+: φ') (hg : Le G G') : ∀ {l : List (Dt × Dt)} {vs : List (List Key × V)}, RepT T φ G l vs → RepT T φ' G' l vs
  | [], _, h => by unfold RepT at *; exact h
  | (k, d) :: l, _, h => by
    unfold RepT at *
    obtain ⟨key, v, r, e, z, q, t⟩ := h
    exact ⟨key, v, r, e, z, Rep.mono hp hg q, RepT.mono hp hg t⟩
end

theorem Reps.length : ∀ {l : List Dt} {vs : List V}, Reps T φ G l vs → vs.length = l.length
  | [], _, h => by unfold Reps at h; rw [h]; rfl
  | d :: l, _, h => by
    unfold Reps at h
    obtain ⟨v, r, rfl, _, t⟩ := h
    simp [Reps.length t]
theorem Reps.get : ∀ {l : List Dt} {vs : List V} {i : Nat} {d : Dt}, Reps T φ G l vs → l[i]? = some d → ∃ v, vs[i]? = some v ∧ Rep T φ G d v
  | [], _, _, _, _, e => by simp at e
  | d :: l, _, 0, _, h, e => by
    unfold Reps at h
    obtain ⟨v, r, rfl, q, t⟩ := h
    simp at e
    subst e
    exact ⟨v, rfl, q⟩
  | d :: l, _, i + 1, _, h, e => by
    unfold Reps at h
    obtain ⟨v, r, rfl, q, t⟩ := h
    obtain ⟨v', e1, e2⟩ := Reps.get (i := i) t (by simpa using e)
    exact ⟨v', by simpa using e1, e2⟩
theorem Reps.append : ∀ {l m : List Dt} {vs us : List V}, Reps T φ G l vs → Reps T φ G m us → Reps T φ G (l ++ m) (vs ++ us)
  | [], _, _, _, h, q => by unfold Reps at h; subst h; exact q
  | d :: l, _, _, _, h, q => by
    unfold Reps at h
    obtain ⟨v, r, rfl, z, t⟩ := h
    show Reps T φ G (d :: (l ++ _)) _
    unfold Reps
    exact ⟨v, r ++ _, rfl, z, Reps.append t q⟩
theorem Reps.nil : Reps T φ G [] [] := by unfold Reps; rfl
theorem Reps.cons {d : Dt} {l : List Dt} {v : V} {vs : List V} (h : Rep T φ G d v) (t : Reps T φ G l vs) : Reps T φ G (d :: l) (v :: vs) := by
  unfold Reps; exact ⟨v, vs, rfl, h, t⟩
theorem Reps.uncons {d : Dt} {l : List Dt} {vs : List V} (h : Reps T φ G (d :: l) vs) : ∃ v r, vs = v :: r ∧ Rep T φ G d v ∧ Reps T φ G l r := by
  unfold Reps at h; exact h
theorem Reps.nil_of {vs : List V} (h : Reps T φ G [] vs) : vs = [] := by unfold Reps at h; exact h
theorem Reps.take : ∀ {l : List Dt} {vs : List V} (n : Nat), Reps T φ G l vs → Reps T φ G (l.take n) (vs.take n)
  | _, _, 0, _ => Reps.nil
  | [], _, n + 1, h => by rw [h.nil_of]; exact Reps.nil
  | d :: l, _, n + 1, h => by
    obtain ⟨v, r, rfl, q, t⟩ := h.uncons
    exact Reps.cons q (Reps.take n t)
theorem Reps.drop : ∀ {l : List Dt} {vs : List V} (n : Nat), Reps T φ G l vs → Reps T φ G (l.drop n) (vs.drop n)
  | _, _, 0, h => h
  | [], _, n + 1, h => by rw [h.nil_of]; exact Reps.nil
  | d :: l, _, n + 1, h => by
    obtain ⟨v, r, rfl, q, t⟩ := h.uncons
    exact Reps.drop n t
theorem Reps.reverse : ∀ {l : List Dt} {vs : List V}, Reps T φ G l vs → Reps T φ G l.reverse vs.reverse
  | [], _, h => by rw [h.nil_of]; exact Reps.nil
  | d :: l, _, h => by
    obtain ⟨v, r, rfl, q, t⟩ := h.uncons
    rw [List.reverse_cons, List.reverse_cons]
    exact Reps.append (Reps.reverse t) (Reps.cons q Reps.nil)
theorem Reps.set {d : Dt} {v : V} (q : Rep T φ G d v) : ∀ {l : List Dt} {vs : List V} (i : Nat), Reps T φ G l vs → Reps T φ G (l.set i d) (vs.set i v)
  | [], _, i, h => by rw [h.nil_of]; cases i <;> exact Reps.nil
  | e :: l, _, 0, h => by
    obtain ⟨u, r, rfl, z, t⟩ := h.uncons
    exact Reps.cons q t
  | e :: l, _, i + 1, h => by
    obtain ⟨u, r, rfl, z, t⟩ := h.uncons
    exact Reps.cons z (Reps.set q i t)
theorem Reps.rep {l : List Dt} {vs : List V} (h : Reps T φ G l vs) : ∀ k : Nat, Reps T φ G (List.replicate k l).flatten (List.replicate k vs).flatten
  | 0 => Reps.nil
  | k + 1 => by
    rw [List.replicate_succ, List.replicate_succ, List.flatten_cons, List.flatten_cons]
    exact Reps.append h (Reps.rep h k)
end

/-- no table of code objects -/
def NT (o : HO) : Prop := ∀ ps, o ≠ .tbl ps
/-- nothing but a table, perhaps -/
def FrT (H : Hp) (a : Addr) : Prop := ∀ o, H a = some o → ∃ ps, o = .tbl ps
theorem FrT.no {H : Hp} {a : Addr} {o : HO} (h : FrT H a) (e : H a = some o) (n : NT o) : False := by
  obtain ⟨ps, rfl⟩ := h _ e
  exact n ps rfl
theorem frT_none {H : Hp} {a : Addr} (h : H a = none) : FrT H a := fun o e => by rw [h] at e; cases e
theorem nt_lst {xs : List V} : NT (.lst xs) := fun _ z => by cases z
theorem nt_tup {xs : List V} : NT (.tup xs) := fun _ z => by cases z
theorem nt_dK {k : List (Key × V)} : NT (.dK k) := fun _ z => by cases z
theorem nt_dT {k : List (List Key × V)} : NT (.dT k) := fun _ z => by cases z
theorem nt_frz {o : Obj} {u : HO} : NT (.frz o u) := fun _ z => by cases z
/-! ### the world's objects; what stands still -/
def cntK : Key := .inr ("count" : Str)
def rstK : Key := .inr ("rests" : Str)
/-- the rests' keys are places, each once -/
def OkR (ns : List Int) (rs : List (Int × Int)) : Prop := (rs.map (·.1)).Nodup ∧ ∀ p ∈ rs, 0 ≤ p.1 ∧ p.1 < (ns.length : Int) + 1
def WObj (T : Sta) (φ : List (List Addr)) (G H : Hp) : Mn.WO → List Addr → Prop
  | .town c rs, as => ∃ a b, as = [a, b] ∧ H a = some (.dK [(cntK, .int c), (rstK, .ref b)]) ∧ H b = some (.dK (rs.map fun p => (Sum.inl p.1, V.int p.2))) ∧ OkR T.ns rs
  | .script ns, as => as = [] ∧ ns = T.ns
  | .sheet _ _ _ _, _ => False
/-- G is what never changes of the heap H, φ the addresses of the world's objects -/
structure World (T : Sta) (φ : List (List Addr)) (G H : Hp) (w : Mn.W) : Prop where
  scr : SqL T.K G T.sa (T.ns.map V.int)
  sub : ∀ a o, G a = some o → H a = some o ∨ ∃ ob kvs, o = .dK kvs ∧ H a = some (.frz ob o)
  nd : φ.flatten.Nodup
  ng : ∀ a o, G a = some o → NT o
  apart : ∀ a ∈ φ.flatten, G a = none ∧ ∃ o, H a = some o ∧ NT o
  len : w.length = φ.length
  tabs : LamX.Tabs T.tab H
  objs : ∀ (i : Nat) (o : Mn.WO) (as : List Addr), w[i]? = some o → φ[i]? = some as → WObj T φ G H o as
/-- from (φ, G, H) on: what was known is known, what was tracked stands but for the world's objects, what may change is not taken for fixed -/
structure Evo (φ : List (List Addr)) (G H : Hp) (φ' : List (List Addr)) (G' H' : Hp) : Prop where
  phi : φ <+: φ'
  g : Le G G'
  h : ∀ a o, H a = some o → NT o → a ∉ φ.flatten → H' a = some o
  dom : ∀ a o, H a = some o → NT o → ∃ o', H' a = some o' ∧ NT o'
  gn : ∀ a o, H a = some o → NT o → G a = none → G' a = none
  wn : ∀ a o, H a = some o → NT o → a ∉ φ.flatten → a ∉ φ'.flatten
theorem Evo.refl (φ : List (List Addr)) (G H : Hp) : Evo φ G H φ G H := ⟨List.prefix_refl _, Le.refl _, fun _ _ h _ _ => h, fun _ o h n => ⟨o, h, n⟩, fun _ _ _ _ h => h, fun _ _ _ _ h => h⟩
theorem Evo.trans {φ φ1 φ2 : List (List Addr)} {G G1 G2 H H1 H2 : Hp} (a : Evo φ G H φ1 G1 H1) (b : Evo φ1 G1 H1 φ2 G2 H2) : Evo φ G H φ2 G2 H2 where
  phi := a.phi.trans b.phi
  g := a.g.trans b.g
  h := fun c o e t n => b.h c o (a.h c o e t n) t (a.wn c o e t n)
  dom := fun c o e t => let ⟨o', e', t'⟩ := a.dom c o e t; b.dom c o' e' t'
  gn := fun c o e t n => let ⟨o', e', t'⟩ := a.dom c o e t; b.gn c o' e' t' (a.gn c o e t n)
  wn := fun c o e t n => b.wn c o (a.h c o e t n) t (a.wn c o e t n)
section
variable {T : Sta} {φ φ' : List (List Addr)} {G G' H H' : Hp} {w w' : Mn.W}
theorem World.rd (W : World T φ G H w) {a : Addr} {o : HO} (e : G a = some o) : Rd H a o := by
  rcases W.sub a o e with h | ⟨ob, _, _, h⟩
  · exact .inl h
  · exact .inr ⟨ob, h⟩
theorem World.rdR (W : World T φ G H w) {a : Addr} {o : HO} (hk : ∀ kvs, o ≠ .dK kvs) (r : Rd G a o) : Rd H a o := by
  rcases r with h | ⟨ob, h⟩
  · exact W.rd h
  · rcases W.sub a _ h with h | ⟨_, _, e, _⟩
    · exact .inr ⟨ob, h⟩
    · cases e
theorem World.sqL (W : World T φ G H w) {a : Addr} {xs : List V} (h : SqL T.K G a xs) : SqL T.K H a xs := h.elim (fun h => .inl (W.rdR (by intro _ z; cases z) h)) .inr
theorem World.sqT (W : World T φ G H w) {a : Addr} {xs : List V} (h : SqT T.K G a xs) : SqT T.K H a xs := h.elim (fun h => .inl (W.rdR (by intro _ z; cases z) h)) .inr
theorem World.lst (W : World T φ G H w) {a : Addr} {xs : List V} (h : G a = some (.lst xs)) : H a = some (.lst xs) := by
  rcases W.sub a _ h with h | ⟨_, _, e, _⟩
  · exact h
  · cases e
theorem World.gnone (W : World T φ G H w) {p : Addr} (h : H p = none) : G p = none := by
  cases e : G p with
  | none => rfl
  | some o =>
    rcases W.sub p o e with q | ⟨_, _, _, q⟩
    · rw [h] at q; cases q
    · rw [h] at q; cases q
theorem World.notw (W : World T φ G H w) {p : Addr} (h : H p = none) : p ∉ φ.flatten := fun hm => by
  obtain ⟨_, o, e, _⟩ := W.apart p hm
  rw [h] at e; cases e
/-- the objects' addresses: what they hold stands if these stand -/
theorem WObj.mono {o : Mn.WO} {as : List Addr} (h : WObj T φ G H o as) (hp : φ <+: φ') (hg : Le G G') (hh : ∀ a ∈ as, ∀ u, H a = some u → NT u → H' a = some u) : WObj T φ' G' H' o as := by
  cases o with
  | town c rs =>
    obtain ⟨a, b, rfl, e1, e2, e3⟩ := h
    exact ⟨a, b, rfl, hh a (by simp) _ e1 nt_dK, hh b (by simp) _ e2 nt_dK, e3⟩
  | script ns => exact h
  | sheet _ _ _ _ => exact h.elim
theorem mem_flat {φ : List (List Addr)} {i : Nat} {as : List Addr} (h : φ[i]? = some as) {a : Addr} (ha : a ∈ as) : a ∈ φ.flatten :=
  List.mem_flatten.mpr ⟨as, List.mem_of_getElem? h, ha⟩
/-- nothing of the world has changed -/
theorem World.keep (W : World T φ G H w) (hg : Le G G') (hs : ∀ a o, G' a = some o → H' a = some o ∨ ∃ ob kvs, o = .dK kvs ∧ H' a = some (.frz ob o)) (hn : ∀ a ∈ φ.flatten, G' a = none) (hh : ∀ a ∈ φ.flatten, H' a = H a) (ht : LamX.Tabs T.tab H') (hng : ∀ a o, G' a = some o → NT o) : World T φ G' H' w where
  scr := hg.sqL W.scr
  sub := hs
  nd := W.nd
  ng := hng
  apart := fun a ha => ⟨hn a ha, by rw [hh a ha]; exact (W.apart a ha).2⟩
  len := W.len
  tabs := ht
  objs := fun i o as h1 h2 => (W.objs i o as h1 h2).mono (List.prefix_refl _) hg fun a ha u e _ => by rw [hh a (mem_flat h2 ha)]; exact e
theorem ng_upd {G : Hp} {p : Addr} {o : HO} (h : ∀ a o, G a = some o → NT o) (n : NT o) : ∀ a u, upd G p o a = some u → NT u := fun a u e => by
  by_cases hp : a = p
  · subst hp; rw [upd_same] at e; cases e; exact n
  · rw [upd_ne hp] at e; exact h a u e
/-- a new object, fixed from now on -/
theorem World.fix (W : World T φ G H w) {p : Addr} (o : HO) (h : H p = none) (n : NT o) : World T φ (upd G p o) (upd H p o) w ∧ Evo φ G H φ (upd G p o) (upd H p o) := by
  have g0 := W.gnone h
  refine ⟨W.keep (Le.upd o g0) (fun a u e => ?_) (fun a ha => ?_) (fun a ha => ?_) (W.tabs.ext fun b u e => by rw [upd_ne (ne_of_none e h)]; exact e) (ng_upd W.ng n), ⟨List.prefix_refl _, Le.upd o g0, fun a u e _ _ => ?_, fun a u e t => ⟨u, ?_, t⟩, fun a u e _ n => ?_, fun _ _ _ _ n => n⟩⟩
  · by_cases hp : a = p
    · subst hp; rw [upd_same] at e ⊢; exact .inl e
    · rw [upd_ne hp] at e ⊢; exact W.sub a u e
  · have : a ≠ p := fun z => W.notw h (z ▸ ha)
    rw [upd_ne this]; exact (W.apart a ha).1
  · have : a ≠ p := fun z => W.notw h (z ▸ ha)
    rw [upd_ne this]
  · rw [upd_ne (ne_of_none e h)]; exact e
  · rw [upd_ne (ne_of_none e h)]; exact e
  · rw [upd_ne (ne_of_none e h)]; exact n
/-- a new object that may change -/
theorem World.lay (W : World T φ G H w) {p : Addr} (o : HO) (h : H p = none) : World T φ G (upd H p o) w ∧ Evo φ G H φ G (upd H p o) := by
  refine ⟨W.keep (Le.refl _) (fun a u e => ?_) (fun a ha => (W.apart a ha).1) (fun a ha => ?_) (W.tabs.ext fun b u e => by rw [upd_ne (ne_of_none e h)]; exact e) W.ng, ⟨List.prefix_refl _, Le.refl _, fun a u e _ _ => ?_, fun a u e t => ⟨u, ?_, t⟩, fun a u e _ n => n, fun _ _ _ _ n => n⟩⟩
  · have : a ≠ p := fun z => by subst z; rw [W.gnone h] at e; cases e
    rw [upd_ne this]; exact W.sub a u e
  · have : a ≠ p := fun z => W.notw h (z ▸ ha)
    rw [upd_ne this]
  · rw [upd_ne (ne_of_none e h)]; exact e
  · rw [upd_ne (ne_of_none e h)]; exact e
/-- an own object is written -/
theorem tabs_upd {t : List (Addr × Str)} {H : Hp} (h : LamX.Tabs t H) {p : Addr} {o' : HO} (o : HO) (hp : H p = some o') (n1 : ∀ ps, o' ≠ .tbl ps) (n2 : ∀ f, o' ≠ .ext f) : LamX.Tabs t (upd H p o) := fun q hq => by
  obtain ⟨ps, h1, h2, h3⟩ := h q hq
  have ne1 : q.1 ≠ p := fun z => by rw [z, hp] at h1; cases h1; exact n1 _ rfl
  refine ⟨ps, by rw [upd_ne ne1]; exact h1, h2, fun pos cv hc => ?_⟩
  obtain ⟨c, e1, e2⟩ := h3 pos cv hc
  have ne2 : c ≠ p := fun z => by rw [z, hp] at e2; cases e2; exact n2 _ rfl
  exact ⟨c, e1, by rw [upd_ne ne2]; exact e2⟩
theorem World.write (W : World T φ G H w) {p : Addr} {o' : HO} (o : HO) (hg : G p = none) (hn : p ∉ φ.flatten) (hp : H p = some o') (n1 : ∀ ps, o' ≠ .tbl ps) (n2 : ∀ f, o' ≠ .ext f) : World T φ G (upd H p o) w := by
  refine W.keep (Le.refl _) (fun a u e => ?_) (fun a ha => (W.apart a ha).1) (fun a ha => ?_) (tabs_upd W.tabs o hp n1 n2) W.ng
  · have : a ≠ p := fun z => by subst z; rw [hg] at e; cases e
    rw [upd_ne this]; exact W.sub a u e
  · have : a ≠ p := fun z => hn (z ▸ ha)
    rw [upd_ne this]
/-- an own object is fixed from now on -/
theorem World.freeze (W : World T φ G H w) {p : Addr} {o : HO} (hh : H p = some o) (hg : G p = none) (hn : p ∉ φ.flatten) (n : NT o) : World T φ (upd G p o) H w := by
  refine W.keep (Le.upd o hg) (fun a u e => ?_) (fun a ha => ?_) (fun a ha => rfl) W.tabs (ng_upd W.ng n)
  · by_cases hp : a = p
    · subst hp; rw [upd_same] at e; cases e; exact .inl hh
    · rw [upd_ne hp] at e; exact W.sub a u e
  · have : a ≠ p := fun z => hn (z ▸ ha)
    rw [upd_ne this]; exact (W.apart a ha).1
end

/-- the tables alone have grown -/
theorem World.ext {T : Sta} {φ : List (List Addr)} {G H H' : Hp} {w : Mn.W} (W : World T φ G H w) (e : LamX.ExtN H H') (tb : LamX.Tabs T.tab H') : World T φ G H' w ∧ Evo φ G H φ G H' := by
  refine ⟨?_, ⟨List.prefix_refl _, Le.refl _, fun a o h t _ => e a o h t, fun a o h t => ⟨o, e a o h t, t⟩, fun _ _ _ _ h => h, fun _ _ _ _ h => h⟩⟩
  exact
  { scr := W.scr
    sub := fun a o h => by
      rcases W.sub a o h with h1 | ⟨ob, kvs, h1, h2⟩
      · exact .inl (e a o h1 (W.ng a o h))
      · exact .inr ⟨ob, kvs, h1, e a _ h2 nt_frz⟩
    nd := W.nd, ng := W.ng
    apart := fun a ha => let ⟨h1, o, h2, t⟩ := W.apart a ha; ⟨h1, o, e a o h2 t, t⟩
    len := W.len, tabs := tb
    objs := fun i o as h1 h2 => (W.objs i o as h1 h2).mono (List.prefix_refl _) (Le.refl _) fun a _ u h t => e a u h t }
/-! ### values behind an expression -/
/-- as Rep, an own list or dict with what it holds now -/
def RepV (T : Sta) (φ : List (List Addr)) (G H : Hp) : Dt → V → Prop
  | .own l, v => ∃ a vs, v = .ref a ∧ H a = some (.lst vs) ∧ G a = none ∧ a ∉ φ.flatten ∧ Reps T φ G l vs
  | .ownd l, v => ∃ a, v = .ref a ∧ G a = none ∧ a ∉ φ.flatten ∧ ((∃ kvs, H a = some (.dK kvs) ∧ RepK T φ G l kvs) ∨ ∃ kvs, H a = some (.dT kvs) ∧ l ≠ [] ∧ RepT T φ G l kvs)
  | d, v => Rep T φ G d v
def RepVs (T : Sta) (φ : List (List Addr)) (G H : Hp) : List Dt → List V → Prop
  | [], vs => vs = []
  | d :: l, vs => ∃ v r, vs = v :: r ∧ RepV T φ G H d v ∧ RepVs T φ G H l r
section
variable {T : Sta} {φ φ' : List (List Addr)} {G G' H H' : Hp} {w w' : Mn.W} {d : Dt} {v : V}
theorem RepV.of (h : Rep T φ G d v) : RepV T φ G H d v := by
  cases d <;> first | exact h | (unfold Rep at h; exact h.elim)
theorem RepV.rep (h : RepV T φ G H d v) (n : Mn.isOwn d = false) : Rep T φ G d v := by
  cases d <;> first | exact h | (simp [Mn.isOwn] at n)
theorem RepV.evo (h : RepV T φ G H d v) (e : Evo φ G H φ' G' H') : RepV T φ' G' H' d v := by
  cases d with
  | own l =>
    obtain ⟨a, vs, rfl, hh, hg, hn, r⟩ := h
    exact ⟨a, vs, rfl, e.h a _ hh nt_lst hn, e.gn a _ hh nt_lst hg, e.wn a _ hh nt_lst hn, r.mono e.phi e.g⟩
  | ownd l =>
    obtain ⟨a, rfl, hg, hn, ⟨kvs, hh, r⟩ | ⟨kvs, hh, n, r⟩⟩ := h
    · exact ⟨a, rfl, e.gn a _ hh nt_dK hg, e.wn a _ hh nt_dK hn, .inl ⟨kvs, e.h a _ hh nt_dK hn, r.mono e.phi e.g⟩⟩
    · exact ⟨a, rfl, e.gn a _ hh nt_dT hg, e.wn a _ hh nt_dT hn, .inr ⟨kvs, e.h a _ hh nt_dT hn, n, r.mono e.phi e.g⟩⟩
  | _ => exact RepV.of (Rep.mono e.phi e.g h)
theorem RepVs.evo (e : Evo φ G H φ' G' H') : ∀ {l : List Dt} {vs : List V}, RepVs T φ G H l vs → RepVs T φ' G' H' l vs
  | [], _, h => h
  | _ :: _, _, ⟨v, r, e1, h1, h2⟩ => ⟨v, r, e1, h1.evo e, RepVs.evo e h2⟩
theorem RepVs.reps : ∀ {l : List Dt} {vs : List V}, RepVs T φ G H l vs → l.any Mn.isOwn = false → Reps T φ G l vs
  | [], _, h, _ => by cases h; exact Reps.nil
  | d :: l, _, ⟨v, r, e1, h1, h2⟩, n => by
    simp only [List.any_cons, Bool.or_eq_false_iff] at n
    subst e1
    exact Reps.cons (h1.rep n.1) (RepVs.reps h2 n.2)
/-- an own list or dict read as what it is now -/
theorem World.tup (W : World T φ G H w) {a : Addr} {xs : List V} (h : G a = some (.tup xs)) : H a = some (.tup xs) := by
  rcases W.sub a _ h with h | ⟨_, _, e, _⟩
  · exact h
  · cases e
theorem RepV.seq (W : World T φ G H w) (h : RepV T φ G H d v) {l : List Dt} (e : Mn.seqOf d = some l) : ∃ a vs, v = .ref a ∧ (H a = some (.tup vs) ∨ H a = some (.lst vs)) ∧ Reps T φ G l vs := by
  cases d <;> simp only [Mn.seqOf, Option.some.injEq, reduceCtorEq] at e
  · subst e
    unfold RepV Rep at h
    obtain ⟨a, vs, rfl, q, r⟩ := h
    exact ⟨a, vs, rfl, .inl (W.tup q), r⟩
  · subst e
    unfold RepV Rep at h
    obtain ⟨a, vs, rfl, q, r⟩ := h
    exact ⟨a, vs, rfl, .inr (W.lst q), r⟩
  · subst e
    obtain ⟨a, vs, rfl, q, _, _, r⟩ := h
    exact ⟨a, vs, rfl, .inr q, r⟩
theorem RepV.lst (W : World T φ G H w) (h : RepV T φ G H d v) {l : List Dt} (e : Mn.lstOf d = some l) : ∃ a vs, v = .ref a ∧ H a = some (.lst vs) ∧ Reps T φ G l vs := by
  cases d <;> simp only [Mn.lstOf, Option.some.injEq, reduceCtorEq] at e
  · subst e
    unfold RepV Rep at h
    obtain ⟨a, vs, rfl, q, r⟩ := h
    exact ⟨a, vs, rfl, W.lst q, r⟩
  · subst e
    obtain ⟨a, vs, rfl, q, _, _, r⟩ := h
    exact ⟨a, vs, rfl, q, r⟩
end
end Sn
end
section
set_option linter.all false
set_option maxRecDepth 100000
set_option maxHeartbeats 4000000
/-! The readings of expressions, and the small rules. -/
namespace Sn
open PySem PySem.Spec PyProof.Rows L2

structure Snap where
  φ : List (List Addr)
  G : Hp
  H : Hp
/-- the slots hold ρ, the world is w; e0: how it stood at the def's entry -/
structure StOk (T : Sta) (e0 : Snap) (φ : List (List Addr)) (G H : Hp) (σ : L2.St) (ρ : Mn.Env) (w : Mn.W) : Prop where
  world : World T φ G H w
  evo : Evo e0.φ e0.G e0.H φ G H
  len : σ.length = ρ.length
  slot : ∀ (i : Nat) (d : Dt), ρ[i]? = some (some d) → ∃ v, σ[i]? = some (some v) ∧ RepV T φ G H d v
  own : ∀ (i : Nat) (a : Addr) (d : Dt), ρ[i]? = some (some d) → Mn.isOwn d = true → σ[i]? = some (some (V.ref a)) →
    FrT e0.H a ∧ ∀ (j : Nat) (d' : Dt), j ≠ i → ρ[j]? = some (some d') → Mn.isOwn d' = true → σ[j]? ≠ some (some (V.ref a))
theorem StOk.step {T : Sta} {e0 : Snap} {φ φ' : List (List Addr)} {G G' H H' : Hp} {σ : L2.St} {ρ : Mn.Env} {w w' : Mn.W} (s : StOk T e0 φ G H σ ρ w) (e : Evo φ G H φ' G' H') (W : World T φ' G' H' w') : StOk T e0 φ' G' H' σ ρ w' :=
  ⟨W, s.evo.trans e, s.len, fun i d h => let ⟨v, h1, h2⟩ := s.slot i d h; ⟨v, h1, h2.evo e⟩, s.own⟩

/-- what is wanted behind a result -/
def Post {α γ : Type} (T : Sta) (E : XK) (R : List (List Addr) → Hp → Hp → α → γ → Prop) (φ : List (List Addr)) (G H : Hp) (Q : γ → Hp → Prop) : Mn.Res α → Prop
  | .ok d w' => ∀ v φ' G' H', Evo φ G H φ' G' H' → World T φ' G' H' w' → R φ' G' H' d v → Q v H'
  | .exc c w' => ∀ φ' G' H', Evo φ G H φ' G' H' → World T φ' G' H' w' → E (.ref (T.ca c)) none H'
  | .bad => False
section
variable {T : Sta} {E : XK} {α β γ δ : Type} {R : List (List Addr) → Hp → Hp → α → γ → Prop} {R' : List (List Addr) → Hp → Hp → β → δ → Prop} {φ φ' : List (List Addr)} {G G' H H' : Hp} {Q : γ → Hp → Prop} {Q' : δ → Hp → Prop}
theorem Post.evo (e : Evo φ G H φ' G' H') : ∀ {r : Mn.Res α}, Post T E R φ G H Q r → Post T E R φ' G' H' Q r
  | .ok _ _, h => fun v _ _ _ e' W q => h v _ _ _ (e.trans e') W q
  | .exc _ _, h => fun _ _ _ e' W => h _ _ _ (e.trans e') W
  | .bad, h => h
theorem Post.bind {k : β → Mn.W → Mn.Res α} (hk : ∀ b w1 c φ1 G1 H1, Evo φ G H φ1 G1 H1 → World T φ1 G1 H1 w1 → R' φ1 G1 H1 b c → Post T E R φ1 G1 H1 Q (k b w1) → Q' c H1) : ∀ {r : Mn.Res β}, Post T E R φ G H Q (r.bind k) → Post T E R' φ G H Q' r
  | .ok b w1, h => fun c φ1 G1 H1 e W q => hk b w1 c φ1 G1 H1 e W q (Post.evo e (show Post T E R φ G H Q (k b w1) from h))
  | .exc _ _, h => h
  | .bad, h => h
theorem Post.mono {Q2 : γ → Hp → Prop} (hq : ∀ v H, Q v H → Q2 v H) : ∀ {r : Mn.Res α}, Post T E R φ G H Q r → Post T E R φ G H Q2 r
  | .ok _ _, h => fun v _ _ _ e' W q => hq _ _ (h v _ _ _ e' W q)
  | .exc _ _, h => h
  | .bad, h => h
/-- a value that is there -/
theorem Post.ok_of {o : Option α} {w : Mn.W} (h : Post T E R φ G H Q (Mn.Res.of o w)) : ∃ d, o = some d ∧ Post T E R φ G H Q (.ok d w) := by
  cases o with
  | none => exact False.elim h
  | some d => exact ⟨d, rfl, h⟩
end
theorem PE.imp {X : Cx} {e : Expr} {t t' : TE} (h : PE X e t) (i : ∀ σ H Q, t' σ H Q → t σ H Q) : PE X e t' := ⟨fun pins s σ H Q I q => h.run pins s σ H Q I (i σ H Q q)⟩
theorem PT.imp {X : Cx} {e : Expr} {t t' : TT} (h : PT X e t) (i : ∀ σ H Q, t' σ H Q → t σ H Q) : PT X e t' := ⟨fun pins s σ H Q I q => h.run pins s σ H Q I (i σ H Q q)⟩
theorem PW.imp {X : Cx} {e : Expr} {t t' : TT} (h : PW X e t) (i : ∀ σ H Q, t' σ H Q → t σ H Q) : PW X e t' := ⟨fun wh pins s σ H Q I q => h.run wh pins s σ H Q I (i σ H Q q)⟩
theorem PA.imp {X : Cx} {e : List Expr} {t t' : TA} (h : PA X e t) (i : ∀ σ H Q, t' σ H Q → t σ H Q) : PA X e t' := ⟨fun pos pins s σ H Q I q => h.run pos pins s σ H Q I (i σ H Q q)⟩
theorem PS.imp {X : Cx} {e : Stmt} {t t' : TS} (h : PS X e t) (i : ∀ D σ H, t' D σ H → t D σ H) : PS X e t' := ⟨fun pins s σ H D I q => h.run pins s σ H D I (i D σ H q)⟩
theorem PSs.imp {X : Cx} {e : List Stmt} {t t' : TS} (h : PSs X e t) (i : ∀ D σ H, t' D σ H → t D σ H) : PSs X e t' := ⟨fun pins s σ H D I q => h.run pins s σ H D I (i D σ H q)⟩

/-! ### readings -/
abbrev FE := Mn.Env → Mn.W → Mn.Res Dt
def tEx (T : Sta) (e0 : Snap) (E : XK) (f : FE) : TE := fun σ H Q => ∃ φ G ρ w, StOk T e0 φ G H σ ρ w ∧ Post T E (RepV T) φ G H Q (f ρ w)
def tAr (T : Sta) (e0 : Snap) (E : XK) (f : Mn.Env → Mn.W → Mn.Res (List Dt)) : TA := fun σ H Q => ∃ φ G ρ w, StOk T e0 φ G H σ ρ w ∧ Post T E (RepVs T) φ G H Q (f ρ w)
def RBool : List (List Addr) → Hp → Hp → Bool → Bool → Prop := fun _ _ _ b c => b = c
def tBo (T : Sta) (e0 : Snap) (E : XK) (f : Mn.Env → Mn.W → Mn.Res Bool) : TT := fun σ H Q => ∃ φ G ρ w, StOk T e0 φ G H σ ρ w ∧ Post T E RBool φ G H Q (f ρ w)
/-- a value's truth -/
def tru (f : FE) : Mn.Env → Mn.W → Mn.Res Bool := fun ρ w => (f ρ w).bind fun x w => .of (Mn.truth x) w
theorem tru_bl {d : Dt} {b : Bool} (h : Mn.truth d = some b) : d = .bl b := by
  cases d <;> simp [Mn.truth] at h
  rw [h]

/-- a rule by values does what g says -/
def OpS (T : Sta) (r : R2) (g : Dt → Dt → Option Dt) : Prop := ∀ φ G H w x y dx dy d (Q : VK), World T φ G H w → RepV T φ G H dx x → RepV T φ G H dy y → g dx dy = some d →
  (∀ v φ' G' H', Evo φ G H φ' G' H' → World T φ' G' H' w → RepV T φ' G' H' d v → Q v H') → r x y H Q
def UnS (T : Sta) (r : V → Hp → VK → Prop) (g : Dt → Option Dt) : Prop := ∀ φ G H w x dx d (Q : VK), World T φ G H w → RepV T φ G H dx x → g dx = some d →
  (∀ v φ' G' H', Evo φ G H φ' G' H' → World T φ' G' H' w → RepV T φ' G' H' d v → Q v H') → r x H Q
def CallS (T : Sta) (r : List V → Hp → VK → Prop) (g : List Dt → Option Dt) : Prop := ∀ φ G H w xs ds d (Q : VK), World T φ G H w → RepVs T φ G H ds xs → g ds = some d →
  (∀ v φ' G' H', Evo φ G H φ' G' H' → World T φ' G' H' w → RepV T φ' G' H' d v → Q v H') → r xs H Q
def MtS (T : Sta) (r : V → List V → Hp → VK → Prop) (g : Dt → List Dt → Option Dt) : Prop := ∀ φ G H w x xs dx ds d (Q : VK), World T φ G H w → RepV T φ G H dx x → RepVs T φ G H ds xs → g dx ds = some d →
  (∀ v φ' G' H', Evo φ G H φ' G' H' → World T φ' G' H' w → RepV T φ' G' H' d v → Q v H') → r x xs H Q

section
variable {T : Sta} {e0 : Snap} {E : XK} {X : Cx} {a b c : Expr} {fa fb fc : FE} {pos : Pos}

theorem pd_var {i : Nat} (h : PE X a (tVar i)) : PE X a (tEx T e0 E fun ρ w => .of (ρ.at i) w) := by
  refine PE.imp h fun σ H Q ⟨φ, G, ρ, w, st, p⟩ => ?_
  obtain ⟨d, e, p⟩ := p.ok_of
  have e' : ρ[i]? = some (some d) := by
    unfold Mn.Env.at at e
    cases q : ρ[i]? with
    | none => rw [q] at e; simp at e
    | some o => rw [q] at e; simp at e; rw [e]
  obtain ⟨v, h1, h2⟩ := st.slot i d e'
  exact ⟨v, h1, p v φ G H (Evo.refl _ _ _) st.world h2⟩
/-- a value that is the same in every state -/
theorem pd_cst {v : V} {d : Dt} (h : PE X a (tC v)) (r : ∀ φ G H, RepV T φ G H d v) : PE X a (tEx T e0 E fun _ w => .ok d w) :=
  PE.imp h fun σ H Q ⟨φ, G, ρ, w, st, p⟩ => p v φ G H (Evo.refl _ _ _) st.world (r φ G H)
theorem pd_bin {op : Operator} {r : R2} {g : Dt → Dt → Option Dt} (ho : OpR X (binaryOp op) r) (hs : OpS T r g) (ha : PE X a (tEx T e0 E fa)) (hb : PE X b (tEx T e0 E fb)) :
    PE X (.BinOp a op b pos) (tEx T e0 E fun ρ w => (fa ρ w).bind fun x w => (fb ρ w).bind fun y w => .of (g x y) w) := by
  refine PE.imp (pe_op ho ha hb) fun σ H Q ⟨φ, G, ρ, w, st, p⟩ => ?_
  refine ⟨φ, G, ρ, w, st, p.bind fun dx w1 x φ1 G1 H1 e1 W1 r1 p1 => ?_⟩
  refine ⟨φ1, G1, ρ, w1, st.step e1 W1, p1.bind fun dy w2 y φ2 G2 H2 e2 W2 r2 p2 => ?_⟩
  obtain ⟨d, e, p3⟩ := p2.ok_of
  exact hs φ2 G2 H2 w2 x y dx dy d Q W2 (r1.evo e2) r2 e fun v φ' G' H' e' W' r' => p3 v φ' G' H' e' W' r'
theorem pd_un {op : UnaryOp} {r : V → Hp → VK → Prop} {g : Dt → Option Dt} (ho : UnR X (unaryOp op) r) (hs : UnS T r g) (ha : PE X a (tEx T e0 E fa)) :
    PE X (.UnaryOp op a pos) (tEx T e0 E fun ρ w => (fa ρ w).bind fun x w => .of (g x) w) := by
  refine PE.imp (pe_un ho ha) fun σ H Q ⟨φ, G, ρ, w, st, p⟩ => ?_
  refine ⟨φ, G, ρ, w, st, p.bind fun dx w1 x φ1 G1 H1 e1 W1 r1 p1 => ?_⟩
  obtain ⟨d, e, p3⟩ := p1.ok_of
  exact hs φ1 G1 H1 w1 x dx d Q W1 r1 e fun v φ' G' H' e' W' r' => p3 v φ' G' H' e' W' r'
/-- a comparison, by its operator's rule -/
theorem pd_cmp {op : CmpOp} {r : R2} {g : Dt → Dt → Option Dt} (ho : OpR X (compareOp op) r) (hs : OpS T r g) (ha : PE X a (tEx T e0 E fa)) (hb : PE X b (tEx T e0 E fb)) (h1 : behindInMarks op b = false) :
    PE X (.Compare a [op] [b] pos) (tEx T e0 E fun ρ w => (fa ρ w).bind fun x w => (fb ρ w).bind fun y w => .of (g x y) w) := by
  refine PE.imp (pe_cmpR ho ha hb h1) fun σ H Q ⟨φ, G, ρ, w, st, p⟩ => ?_
  refine ⟨φ, G, ρ, w, st, p.bind fun dx w1 x φ1 G1 H1 e1 W1 r1 p1 => ?_⟩
  refine ⟨φ1, G1, ρ, w1, st.step e1 W1, p1.bind fun dy w2 y φ2 G2 H2 e2 W2 r2 p2 => ?_⟩
  obtain ⟨d, e, p3⟩ := p2.ok_of
  exact hs φ2 G2 H2 w2 x y dx dy d Q W2 (r1.evo e2) r2 e fun v φ' G' H' e' W' r' => p3 v φ' G' H' e' W' r'
/-- .. as a test -/
theorem pd_cmpT {op : CmpOp} {r : R2} {g : Dt → Dt → Option Bool} (ho : OpR X (compareOp op) r) (hs : OpS T r fun x y => (g x y).map .bl) (ha : PE X a (tEx T e0 E fa)) (hb : PE X b (tEx T e0 E fb)) (h1 : behindInMarks op b = false) :
    PT X (.Compare a [op] [b] pos) (tBo T e0 E fun ρ w => (fa ρ w).bind fun x w => (fb ρ w).bind fun y w => .of (g x y) w) := by
  refine PT.imp (pt_cmpR ho ha hb h1) fun σ H Q ⟨φ, G, ρ, w, st, p⟩ => ?_
  refine ⟨φ, G, ρ, w, st, p.bind fun dx w1 x φ1 G1 H1 e1 W1 r1 p1 => ?_⟩
  refine ⟨φ1, G1, ρ, w1, st.step e1 W1, p1.bind fun dy w2 y φ2 G2 H2 e2 W2 r2 p2 => ?_⟩
  obtain ⟨d, e, p3⟩ := p2.ok_of
  refine hs φ2 G2 H2 w2 x y dx dy (.bl d) _ W2 (r1.evo e2) r2 (by show Option.map Mn.D.bl (g dx dy) = _; rw [e]; rfl) fun v φ' G' H' e' W' r' => ?_
  unfold RepV Rep at r'
  exact ⟨d, r', p3 d φ' G' H' e' W' rfl⟩
/-- a test by its value -/
theorem pd_val (ha : PE X a (tEx T e0 E fa)) (he : ∀ whole, isTrue a X.env whole = (do let v ← whole; standAt a.pos; holding [v] (truthy v))) : PT X a (tBo T e0 E (tru fa)) := by
  refine PT.imp (pt_val ha he) fun σ H Q ⟨φ, G, ρ, w, st, p⟩ => ?_
  refine ⟨φ, G, ρ, w, st, p.bind fun dx w1 x φ1 G1 H1 e1 W1 r1 p1 => ?_⟩
  obtain ⟨b, e, p2⟩ := p1.ok_of
  have := tru_bl e
  subst this
  unfold RepV Rep at r1
  exact ⟨b, r1, p2 b φ1 G1 H1 (Evo.refl _ _ _) W1 rfl⟩
theorem pd_isN {j pos'} (ha : PE X a (tEx T e0 E fa)) : PE X (.Compare a [.Is] [.Constant .none j pos'] pos) (tEx T e0 E fun ρ w => (fa ρ w).bind fun x w => .ok (.bl (Mn.isNone x)) w) := by
  refine PE.imp (pe_cmp (pc_isN ha) rfl) fun σ H Q ⟨φ, G, ρ, w, st, p⟩ => ?_
  refine ⟨φ, G, ρ, w, st, p.bind fun dx w1 x φ1 G1 H1 e1 W1 r1 p1 => ?_⟩
  refine p1 _ φ1 G1 H1 (Evo.refl _ _ _) W1 (RepV.of ?_)
  unfold Rep
  cases dx <;> unfold RepV at r1 <;> try unfold Rep at r1
  all_goals first
    | (subst r1; rfl)
    | (obtain ⟨rfl, _⟩ := r1; rfl)
    | (obtain ⟨_, _, rfl, _⟩ := r1; rfl)
    | (obtain ⟨_, rfl, _⟩ := r1; rfl)
    | (obtain ⟨_, rfl⟩ := r1; rfl)
    | (obtain ⟨_, _, _, rfl⟩ := r1; rfl)
theorem isN_of {φ : List (List Addr)} {G H : Hp} {d : Dt} {x : V} (r1 : RepV T φ G H d x) : decide (x = .non) = Mn.isNone d := by
  cases d <;> unfold RepV at r1 <;> try unfold Rep at r1
  all_goals first
    | (subst r1; rfl)
    | (obtain ⟨rfl, _⟩ := r1; rfl)
    | (obtain ⟨_, _, rfl, _⟩ := r1; rfl)
    | (obtain ⟨_, rfl, _⟩ := r1; rfl)
    | (obtain ⟨_, rfl⟩ := r1; rfl)
    | (obtain ⟨_, _, _, rfl⟩ := r1; rfl)
theorem pd_notN {j pos'} (ha : PE X a (tEx T e0 E fa)) : PE X (.Compare a [.IsNot] [.Constant .none j pos'] pos) (tEx T e0 E fun ρ w => (fa ρ w).bind fun x w => .ok (.bl (!Mn.isNone x)) w) := by
  refine PE.imp (pe_cmp (pc_notN ha) rfl) fun σ H Q ⟨φ, G, ρ, w, st, p⟩ => ?_
  refine ⟨φ, G, ρ, w, st, p.bind fun dx w1 x φ1 G1 H1 e1 W1 r1 p1 => ?_⟩
  refine p1 _ φ1 G1 H1 (Evo.refl _ _ _) W1 (RepV.of ?_)
  unfold Rep
  rw [isN_of r1]
/-- .. as tests -/
theorem pd_isNT {j pos'} (ha : PE X a (tEx T e0 E fa)) : PT X (.Compare a [.Is] [.Constant .none j pos'] pos) (tBo T e0 E fun ρ w => (fa ρ w).bind fun x w => .ok (Mn.isNone x) w) := by
  refine PT.imp (pt_cmp (pc_isN ha) rfl) fun σ H Q ⟨φ, G, ρ, w, st, p⟩ => ?_
  refine ⟨φ, G, ρ, w, st, p.bind fun dx w1 x φ1 G1 H1 e1 W1 r1 p1 => ?_⟩
  exact ⟨_, rfl, by rw [isN_of r1]; exact p1 _ φ1 G1 H1 (Evo.refl _ _ _) W1 rfl⟩
theorem pd_notNT {j pos'} (ha : PE X a (tEx T e0 E fa)) : PT X (.Compare a [.IsNot] [.Constant .none j pos'] pos) (tBo T e0 E fun ρ w => (fa ρ w).bind fun x w => .ok (!Mn.isNone x) w) := by
  refine PT.imp (pt_cmp (pc_notN ha) rfl) fun σ H Q ⟨φ, G, ρ, w, st, p⟩ => ?_
  refine ⟨φ, G, ρ, w, st, p.bind fun dx w1 x φ1 G1 H1 e1 W1 r1 p1 => ?_⟩
  exact ⟨_, rfl, by rw [isN_of r1]; exact p1 _ φ1 G1 H1 (Evo.refl _ _ _) W1 rfl⟩
/-- not -/
theorem pd_not (ha : PE X a (tEx T e0 E fa)) : PE X (.UnaryOp .Not a pos) (tEx T e0 E fun ρ w => (fa ρ w).bind fun x w => .of ((Mn.truth x).map fun b => .bl (!b)) w) := by
  refine PE.imp (pe_not ha) fun σ H Q ⟨φ, G, ρ, w, st, p⟩ => ?_
  refine ⟨φ, G, ρ, w, st, p.bind fun dx w1 x φ1 G1 H1 e1 W1 r1 p1 => ?_⟩
  obtain ⟨d, e, p2⟩ := p1.ok_of
  obtain ⟨b, e1, e2⟩ := Option.map_eq_some_iff.mp e
  have := tru_bl e1
  subst this
  subst e2
  unfold RepV Rep at r1
  exact ⟨b, r1, p2 _ φ1 G1 H1 (Evo.refl _ _ _) W1 (RepV.of (by unfold Rep; rfl))⟩
theorem pd_notT {g : Mn.Env → Mn.W → Mn.Res Bool} (ha : PT X a (tBo T e0 E g)) : PT X (.UnaryOp .Not a pos) (tBo T e0 E fun ρ w => (g ρ w).bind fun b w => .ok (!b) w) := by
  refine PT.imp (pt_not ha) fun σ H Q ⟨φ, G, ρ, w, st, p⟩ => ?_
  refine ⟨φ, G, ρ, w, st, p.bind fun b w1 c φ1 G1 H1 e1 W1 r1 p1 => ?_⟩
  cases r1
  exact p1 (!b) φ1 G1 H1 (Evo.refl _ _ _) W1 rfl
theorem pd_ite {g : Mn.Env → Mn.W → Mn.Res Bool} (hc : PT X c (tBo T e0 E g)) (ha : PE X a (tEx T e0 E fa)) (hb : PE X b (tEx T e0 E fb)) :
    PE X (.IfExp c a b pos) (tEx T e0 E fun ρ w => (g ρ w).bind fun k w => if k = true then fa ρ w else fb ρ w) := by
  refine PE.imp (pe_ifExp hc ha hb) fun σ H Q ⟨φ, G, ρ, w, st, p⟩ => ?_
  refine ⟨φ, G, ρ, w, st, p.bind fun k w1 k' φ1 G1 H1 e1 W1 r1 p1 => ?_⟩
  cases r1
  cases k with
  | true => exact ⟨φ1, G1, ρ, w1, st.step e1 W1, p1⟩
  | false => exact ⟨φ1, G1, ρ, w1, st.step e1 W1, p1⟩
end

/-! ### argument lists, displays -/
section
variable {T : Sta} {e0 : Snap} {E : XK} {X : Cx} {e : Expr} {es : List Expr} {fe : FE} {fs : Mn.Env → Mn.W → Mn.Res (List Dt)} {pos : Pos}
theorem pd_nil : PA X [] (tAr T e0 E fun _ w => .ok [] w) :=
  PA.imp pa_nil fun σ H Q ⟨φ, G, ρ, w, st, p⟩ => p [] φ G H (Evo.refl _ _ _) st.world rfl
theorem pd_cons (he : PE X e (tEx T e0 E fe)) (hr : PA X es (tAr T e0 E fs)) (hs : starEach (e :: es) X.env = (false, eval e X.env) :: starEach es X.env) :
    PA X (e :: es) (tAr T e0 E fun ρ w => (fe ρ w).bind fun d w => (fs ρ w).bind fun l w => .ok (d :: l) w) := by
  refine PA.imp (pa_cons he hr hs) fun σ H Q ⟨φ, G, ρ, w, st, p⟩ => ?_
  refine ⟨φ, G, ρ, w, st, p.bind fun d w1 x φ1 G1 H1 e1 W1 r1 p1 => ?_⟩
  refine ⟨φ1, G1, ρ, w1, st.step e1 W1, p1.bind fun l w2 xs φ2 G2 H2 e2 W2 r2 p2 => ?_⟩
  exact p2 (x :: xs) φ2 G2 H2 (Evo.refl _ _ _) W2 ⟨x, xs, rfl, r1.evo e2, r2⟩
theorem lim_line : Mn.LIM ≤ sizeLine := by decide
/-- so many written items -/
theorem pd_tup {x1} (h : PA X es (tAr T e0 E fs)) (hz : ∀ ρ w l w', fs ρ w = .ok l w' → l.length ≤ sizeLine) :
    PE X (.Tuple es x1 pos) (tEx T e0 E fun ρ w => (fs ρ w).bind fun ds w => if ds.any Mn.isOwn then .bad else .ok (.tup ds) w) := by
  refine PE.imp (pe_tup h) fun σ H Q ⟨φ, G, ρ, w, st, p⟩ => ?_
  simp only at p
  cases hf : fs ρ w with
  | bad => rw [hf] at p; exact p.elim
  | exc c w1 => refine ⟨φ, G, ρ, w, st, ?_⟩; rw [hf] at p ⊢; exact p
  | ok l w1 =>
    refine ⟨φ, G, ρ, w, st, ?_⟩
    rw [hf] at p ⊢
    refine fun xs φ1 G1 H1 e1 W1 r1 => ?_
    have p1 := Post.evo e1 (show Post T E (RepV T) φ G H Q (if l.any Mn.isOwn then .bad else .ok (.tup l) w1) from p)
    cases ho : l.any Mn.isOwn with
    | true => rw [ho] at p1; exact p1.elim
    | false =>
      rw [ho] at p1
      have rs := r1.reps ho
      refine ⟨by rw [rs.length]; exact hz ρ w l w1 hf, fun p hp => ?_⟩
      obtain ⟨W2, e2⟩ := W1.fix (HO.tup xs) hp nt_tup
      refine p1 _ φ1 _ _ e2 W2 (RepV.of ?_)
      unfold Rep
      exact ⟨p, xs, rfl, upd_same, rs.mono (List.prefix_refl _) e2.g⟩
theorem pd_lst (h : PA X es (tAr T e0 E fs)) (hz : ∀ ρ w l w', fs ρ w = .ok l w' → l.length ≤ sizeLine) :
    PE X (.List es pos) (tEx T e0 E fun ρ w => (fs ρ w).bind fun ds w => if ds.any Mn.isOwn then .bad else .ok (.lst ds) w) := by
  refine PE.imp (pe_lst h) fun σ H Q ⟨φ, G, ρ, w, st, p⟩ => ?_
  simp only at p
  cases hf : fs ρ w with
  | bad => rw [hf] at p; exact p.elim
  | exc c w1 => refine ⟨φ, G, ρ, w, st, ?_⟩; rw [hf] at p ⊢; exact p
  | ok l w1 =>
    refine ⟨φ, G, ρ, w, st, ?_⟩
    rw [hf] at p ⊢
    refine fun xs φ1 G1 H1 e1 W1 r1 => ?_
    have p1 := Post.evo e1 (show Post T E (RepV T) φ G H Q (if l.any Mn.isOwn then .bad else .ok (.lst l) w1) from p)
    cases ho : l.any Mn.isOwn with
    | true => rw [ho] at p1; exact p1.elim
    | false =>
      rw [ho] at p1
      have rs := r1.reps ho
      refine ⟨by rw [rs.length]; exact hz ρ w l w1 hf, fun p hp => ?_⟩
      obtain ⟨W2, e2⟩ := W1.fix (HO.lst xs) hp nt_lst
      refine p1 _ φ1 _ _ e2 W2 (RepV.of ?_)
      unfold Rep
      exact ⟨p, xs, rfl, upd_same, rs.mono (List.prefix_refl _) e2.g⟩
end
end Sn
end
section
set_option linter.all false
set_option maxRecDepth 100000
set_option maxHeartbeats 4000000
/-! Operators by values. -/
namespace Sn
open PySem PySem.Spec PyProof.Rows L2

section
variable {T : Sta} {φ : List (List Addr)} {G H : Hp} {v : V}
theorem rv_non : RepV T φ G H .non v ↔ v = .non := by unfold RepV Rep; exact Iff.rfl
theorem rv_bl {b : Bool} : RepV T φ G H (.bl b) v ↔ v = .bl b := by unfold RepV Rep; exact Iff.rfl
theorem rv_int {i : Int} : RepV T φ G H (.int i) v ↔ v = .int i := by unfold RepV Rep; exact Iff.rfl
theorem rv_str {s : List Nat} : RepV T φ G H (.str s) v ↔ v = .str (mkS s) ∧ OkS s := by unfold RepV Rep; exact Iff.rfl
theorem rv_tup {l : List Dt} : RepV T φ G H (.tup l) v ↔ ∃ a vs, v = .ref a ∧ G a = some (.tup vs) ∧ Reps T φ G l vs := by unfold RepV Rep; exact Iff.rfl
theorem rv_lst {l : List Dt} : RepV T φ G H (.lst l) v ↔ ∃ a vs, v = .ref a ∧ G a = some (.lst vs) ∧ Reps T φ G l vs := by unfold RepV Rep; exact Iff.rfl
theorem rv_dic {l : List (Dt × Dt)} : RepV T φ G H (.dic l) v ↔ ∃ a, v = .ref a ∧ ((∃ kvs, G a = some (.dK kvs) ∧ RepK T φ G l kvs) ∨ ∃ kvs, G a = some (.dT kvs) ∧ l ≠ [] ∧ RepT T φ G l kvs) := by unfold RepV Rep; exact Iff.rfl
theorem rv_fn {n : Nat} : RepV T φ G H (.fn n) v ↔ T.fn n = true ∧ v = .ref (T.fa n) := by unfold RepV Rep; exact Iff.rfl
theorem rv_obj {n : Nat} : RepV T φ G H (.obj n) v ↔ ∃ a r, φ[n]? = some (a :: r) ∧ v = .ref a := by unfold RepV Rep; exact Iff.rfl
theorem rv_scr : RepV T φ G H .scr v ↔ v = .ref T.sa := by unfold RepV Rep; exact Iff.rfl
end
theorem mkS_app (a b : List Nat) : mkS a ++ mkS b = mkS (a ++ b) := by
  apply TL.ext_tl
  rw [TL.tl_append]
  rfl
theorem tl_mkS (a : List Nat) : TL.tl (mkS a) = a := rfl

theorem OpR.or {X : Cx} {f : Value → Value → Sem Value} {r r' : R2} (h : OpR X f r) (h' : OpR X f r') : OpR X f (fun x y H Q => r x y H Q ∨ r' x y H Q) :=
  fun pins s σ H x y v u Q I rx ry q => q.elim (h pins s σ H x y v u Q I rx ry) (h' pins s σ H x y v u Q I rx ry)
theorem CallR.or {X : Cx} {f : Value} {r r' : List V → Hp → VK → Prop} (h : CallR X f r) (h' : CallR X f r') : CallR X f (fun xs H Q => r xs H Q ∨ r' xs H Q) :=
  fun pins s σ H xs us Q I rx q => q.elim (h pins s σ H xs us Q I rx) (h' pins s σ H xs us Q I rx)
theorem PE.or {X : Cx} {e : Expr} {t t' : TE} (h : PE X e t) (h' : PE X e t') : PE X e (fun σ H Q => t σ H Q ∨ t' σ H Q) :=
  ⟨fun pins s σ H Q I q => q.elim (h.run pins s σ H Q I) (h'.run pins s σ H Q I)⟩
theorem PT.or {X : Cx} {e : Expr} {t t' : TT} (h : PT X e t) (h' : PT X e t') : PT X e (fun σ H Q => t σ H Q ∨ t' σ H Q) :=
  ⟨fun pins s σ H Q I q => q.elim (h.run pins s σ H Q I) (h'.run pins s σ H Q I)⟩

/-! ### + - * % -/
section
variable {T : Sta} {φ : List (List Addr)} {G H : Hp} {w : Mn.W} {Q : VK}
/-- the ends' forms -/
abbrev Ends' (T : Sta) (φ : List (List Addr)) (G H : Hp) (w : Mn.W) (d : Dt) (Q : VK) : Prop := ∀ v φ' G' H', Evo φ G H φ' G' H' → World T φ' G' H' w → RepV T φ' G' H' d v → Q v H'
theorem Ends'.here {d : Dt} {v : V} (k : Ends' T φ G H w d Q) (W : World T φ G H w) (r : RepV T φ G H d v) : Q v H := k v φ G H (Evo.refl _ _ _) W r
theorem Ends'.tup {l : List Dt} {vs : List V} (k : Ends' T φ G H w (.tup l) Q) (W : World T φ G H w) (r : Reps T φ G l vs) : ∀ p, H p = none → Q (.ref p) (upd H p (.tup vs)) := fun p hp => by
  obtain ⟨W2, e2⟩ := W.fix (HO.tup vs) hp nt_tup
  exact k _ φ _ _ e2 W2 (rv_tup.mpr ⟨p, vs, rfl, upd_same, r.mono (List.prefix_refl _) e2.g⟩)
theorem Ends'.lst {l : List Dt} {vs : List V} (k : Ends' T φ G H w (.lst l) Q) (W : World T φ G H w) (r : Reps T φ G l vs) : ∀ p, H p = none → Q (.ref p) (upd H p (.lst vs)) := fun p hp => by
  obtain ⟨W2, e2⟩ := W.fix (HO.lst vs) hp nt_lst
  exact k _ φ _ _ e2 W2 (rv_lst.mpr ⟨p, vs, rfl, upd_same, r.mono (List.prefix_refl _) e2.g⟩)
end
def rAddX (K : PySem.W.Frag) : R2 := fun x y H Q => (rI0 (fun i j => .int (i + j)) x y H Q ∨ (∃ i j, x = .str i ∧ y = .str j ∧ i.length + j.length ≤ sizeLine ∧ Q (.str (i ++ j)) H)) ∨ (rCatA K x y H Q ∨ rCat x y H Q)
theorem opR_add {X : Cx} : OpR X (binaryOp .Add) (rAddX X.K) := OpR.or (OpR.or op_add op_add_str) (OpR.or op_catA op_cat)
theorem add_inv {x y d : Dt} (e : Mn.addD x y = some d) : (∃ a b, x = .int a ∧ y = .int b ∧ d = .int (a + b)) ∨ (∃ a b, x = .str a ∧ y = .str b ∧ a.length + b.length ≤ Mn.LIM ∧ d = .str (a ++ b)) ∨
    (∃ a b, x = .tup a ∧ y = .tup b ∧ a.length + b.length ≤ Mn.LIM ∧ d = .tup (a ++ b)) ∨ ∃ a b, Mn.lstOf x = some a ∧ Mn.lstOf y = some b ∧ a.length + b.length ≤ Mn.LIM ∧ d = .lst (a ++ b) := by
  unfold Mn.addD at e
  split at e
  · simp at e; exact .inl ⟨_, _, rfl, rfl, e.symm⟩
  · split at e <;> simp at e; rename_i h; exact .inr (.inl ⟨_, _, rfl, rfl, h, e.symm⟩)
  · split at e <;> simp at e; rename_i h; exact .inr (.inr (.inl ⟨_, _, rfl, rfl, h, e.symm⟩))
  · cases ha : Mn.lstOf x with
    | none => rw [ha] at e; simp at e
    | some a =>
      rw [ha] at e
      cases hb : Mn.lstOf y with
      | none => rw [hb] at e; simp at e
      | some b =>
        rw [hb] at e
        simp only [Option.bind_some] at e
        split at e <;> simp at e
        rename_i h
        exact .inr (.inr (.inr ⟨a, b, rfl, rfl, h, e.symm⟩))
theorem opS_add {T : Sta} : OpS T (rAddX T.K) (Mn.binop .add) := by
  intro φ G H w x y dx dy d Q W rx ry e k
  rcases add_inv e with ⟨a, b, rfl, rfl, rfl⟩ | ⟨a, b, rfl, rfl, hz, rfl⟩ | ⟨a, b, rfl, rfl, hz, rfl⟩ | ⟨a, b, ha, hb, hz, rfl⟩
  · exact .inl (.inl ⟨a, b, rv_int.mp rx, rv_int.mp ry, Ends'.here k W (rv_int.mpr rfl)⟩)
  · refine .inl (.inr ⟨mkS a, mkS b, (rv_str.mp rx).1, (rv_str.mp ry).1, by rw [mkS_len, mkS_len]; exact Nat.le_trans hz lim_line, ?_⟩)
    rw [mkS_app]
    exact Ends'.here k W (rv_str.mpr ⟨rfl, (rv_str.mp rx).2.app (rv_str.mp ry).2 (Nat.le_trans hz lim_line)⟩)
  · obtain ⟨p, vs, rfl, hp, rp⟩ := rv_tup.mp rx
    obtain ⟨q, us, rfl, hq, rq⟩ := rv_tup.mp ry
    refine .inr (.inl ⟨p, q, vs, us, rfl, rfl, SqT.of (W.tup hp), SqT.of (W.tup hq), by rw [rp.length, rq.length]; exact Nat.le_trans hz lim_line, fun z => ?_, fun _ z => ?_, fun _ _ => ?_⟩)
    · subst z
      have : a = [] := by cases a with | nil => rfl | cons => have := rp.length; simp at this
      subst this
      exact Ends'.here k W (rv_tup.mpr ⟨q, us, rfl, hq, rq⟩)
    · subst z
      have : b = [] := by cases b with | nil => rfl | cons => have := rq.length; simp at this
      subst this
      rw [List.append_nil] at k
      exact Ends'.here k W (rv_tup.mpr ⟨p, vs, rfl, hp, rp⟩)
    · exact Ends'.tup k W (rp.append rq)
  · obtain ⟨p, vs, rfl, hp, rp⟩ := rx.lst W ha
    obtain ⟨q, us, rfl, hq, rq⟩ := ry.lst W hb
    exact .inr (.inr ⟨p, q, vs, us, rfl, rfl, hp, hq, by rw [rp.length, rq.length]; exact Nat.le_trans hz lim_line, Ends'.lst k W (rp.append rq)⟩)
theorem sub_inv {x y d : Dt} (e : Mn.subD x y = some d) : ∃ a b, x = .int a ∧ y = .int b ∧ d = .int (a - b) := by
  unfold Mn.subD at e
  split at e
  · simp at e; exact ⟨_, _, rfl, rfl, e.symm⟩
  · cases e
theorem opS_sub {T : Sta} : OpS T (rI0 fun i j => .int (i - j)) (Mn.binop .sub) := by
  intro φ G H w x y dx dy d Q W rx ry e k
  obtain ⟨a, b, rfl, rfl, rfl⟩ := sub_inv e
  exact ⟨a, b, rv_int.mp rx, rv_int.mp ry, Ends'.here k W (rv_int.mpr rfl)⟩
theorem mod_inv {x y d : Dt} (e : Mn.modD x y = some d) : ∃ a b, x = .int a ∧ y = .int b ∧ 0 < b ∧ d = .int (a % b) := by
  unfold Mn.modD at e
  split at e
  · split at e <;> simp at e; rename_i h; exact ⟨_, _, rfl, rfl, h, e.symm⟩
  · cases e
theorem opS_mod {T : Sta} : OpS T (rI (fun _ j => 0 < j) fun i j => .int (i % j)) (Mn.binop .mod) := by
  intro φ G H w x y dx dy d Q W rx ry e k
  obtain ⟨a, b, rfl, rfl, h, rfl⟩ := mod_inv e
  exact ⟨a, b, rv_int.mp rx, rv_int.mp ry, h, Ends'.here k W (rv_int.mpr rfl)⟩
/-- a text times an int -/
def rMulS : R2 := fun x y H Q => ∃ z k, x = .str z ∧ y = .int k ∧ -1000000 ≤ k ∧ k ≤ 1000000 ∧ z.length * k.toNat ≤ 1000000 ∧ Q (.str ⟨((List.replicate k.toNat z.cps.toList).flatten).toArray⟩) H
theorem foldl_reps (z : Str) : ∀ m : Nat, (List.replicate m z.cps).foldl (· ++ ·) #[] = ((List.replicate m z.cps.toList).flatten).toArray := by
  intro m
  have h := foldl_rep' z.cps.toList m []
  simpa using h
where foldl_rep' (its : List Nat) : ∀ (k : Nat) (acc : List Nat), List.foldl (fun x1 x2 => x1 ++ x2) acc.toArray (List.replicate k its.toArray) = (acc ++ (List.replicate k its).flatten).toArray
  | 0, acc => by simp
  | k + 1, acc => by
    have e : acc.toArray ++ its.toArray = (acc ++ its).toArray := by simp
    rw [List.replicate_succ, List.foldl_cons, e, foldl_rep' its k (acc ++ its), List.replicate_succ, List.flatten_cons, List.append_assoc]
theorem op_mulS {X : Cx} : OpR X (binaryOp .Mult) rMulS := by
  intro pins s σ H x y v u Q I rx ry h
  obtain ⟨z, k, rfl, rfl, h1, h2, hz, q⟩ := h
  obtain ⟨t, rfl⟩ := rx
  obtain ⟨t', rfl⟩ := ry
  refine PySem.P.mul_str (by simp; omega) (fun a b => ?_) (fun a b => ?_) ?_
  · have k1 : 1 ≤ k := by omega
    have kz : (z.length : Int) ≤ 1000000 := by
      have : 1 ≤ k.toNat := by omega
      have := Nat.le_mul_of_pos_right z.length this
      omega
    intro c
    have : (1000000 : Int) ≤ (2 ^ 63 - 1) / k := by
      rw [Int.le_ediv_iff_mul_le (by omega)]
      have := Int.mul_le_mul_of_nonneg_left h2 (show (0 : Int) ≤ 1000000 by omega)
      omega
    omega
  · have : z.length * k.toNat ≤ sizeLine := Nat.le_trans hz (by decide)
    unfold Builtin.Str.tooLong
    simp
    exact this
  · split
    · rename_i a
      refine ⟨by decide, ?_⟩
      have e : k.toNat = 0 := by omega
      rw [e] at q
      exact ⟨.str Str.empty, H, I.tok _, ⟨_, rfl⟩, q⟩
    · split
      · rename_i a b
        refine ⟨.str z, H, I, ⟨_, rfl⟩, ?_⟩
        have e : (⟨((List.replicate k.toNat z.cps.toList).flatten).toArray⟩ : Str) = z := by
          simp only [Bool.or_eq_true, beq_iff_eq] at b
          rcases b with b | b
          · subst b
            apply TL.ext_tl
            simp [TL.tl]
          · have : z.cps.toList = [] := by
              have : z.cps.size = 0 := b
              simpa using this
            apply TL.ext_tl
            simp [TL.tl, this]
        rw [e] at q
        exact q
      · rw [foldl_reps]
        refine ⟨?_, .str _, H, I.tok _, ⟨_, rfl⟩, q⟩
        show ((List.replicate k.toNat z.cps.toList).flatten).toArray.size ≤ sizeLine
        have : z.cps.size * k.toNat ≤ sizeLine := Nat.le_trans hz (by decide)
        simp [List.length_flatten]
        rw [Nat.mul_comm]; exact this
theorem rep_ok {a : List Nat} (h : OkS a) {k : Nat} (z : a.length * k ≤ Mn.LIM) : OkS (List.replicate k a).flatten :=
  ⟨by simp [List.length_flatten]; rw [Nat.mul_comm]; exact Nat.le_trans z lim_line, fun c hc => by
    obtain ⟨l, hl, hc⟩ := List.mem_flatten.mp hc
    rw [(List.mem_replicate.mp hl).2] at hc
    exact h.2 c hc⟩
theorem mul_inv {x y d : Dt} (e : Mn.mulD x y = some d) : (∃ a b, x = .int a ∧ y = .int b ∧ (-1000000000 < a ∧ a < 1000000000) ∧ d = .int (a * b)) ∨
    (∃ a k, x = .str a ∧ y = .int k ∧ (a.length * k.toNat ≤ Mn.LIM ∧ -1000000 ≤ k ∧ k ≤ 1000000) ∧ d = .str (List.replicate k.toNat a).flatten) ∨
    (∃ a k, x = .tup a ∧ y = .int k ∧ (a.length ≤ 1000 ∧ a ≠ [] ∧ 2 ≤ k ∧ k ≤ 1000) ∧ d = .tup (List.replicate k.toNat a).flatten) ∨
    ∃ a k, x = .lst a ∧ y = .int k ∧ (a.length * k.toNat ≤ Mn.LIM ∧ -1000000 ≤ k ∧ k ≤ 1000000) ∧ d = .lst (List.replicate k.toNat a).flatten := by
  unfold Mn.mulD at e
  split at e
  · split at e <;> simp only [Option.some.injEq, reduceCtorEq] at e; rename_i h; exact .inl ⟨_, _, rfl, rfl, h, e.symm⟩
  · split at e <;> simp only [Option.some.injEq, reduceCtorEq] at e; rename_i h; exact .inr (.inl ⟨_, _, rfl, rfl, h, e.symm⟩)
  · split at e <;> simp only [Option.some.injEq, reduceCtorEq] at e; rename_i h; exact .inr (.inr (.inl ⟨_, _, rfl, rfl, h, e.symm⟩))
  · split at e <;> simp only [Option.some.injEq, reduceCtorEq] at e; rename_i h; exact .inr (.inr (.inr ⟨_, _, rfl, rfl, h, e.symm⟩))
  · cases e
def rMulX (K : PySem.W.Frag) : R2 := fun x y H Q => (rI CMul (fun i j => .int (i * j)) x y H Q ∨ rMulS x y H Q) ∨ (rRepT K x y H Q ∨ rRep x y H Q)
theorem opR_mul {X : Cx} : OpR X (binaryOp .Mult) (rMulX X.K) := OpR.or (OpR.or op_mul op_mulS) (OpR.or op_repT op_rep)
theorem opS_mul {T : Sta} : OpS T (rMulX T.K) (Mn.binop .mul) := by
  intro φ G H w x y dx dy d Q W rx ry e k
  rcases mul_inv e with ⟨a, b, rfl, rfl, h, rfl⟩ | ⟨a, b, rfl, rfl, h, rfl⟩ | ⟨a, b, rfl, rfl, h, rfl⟩ | ⟨a, b, rfl, rfl, h, rfl⟩
  · exact .inl (.inl ⟨a, b, rv_int.mp rx, rv_int.mp ry, .inl ⟨by omega, by omega⟩, Ends'.here k W (rv_int.mpr rfl)⟩)
  · refine .inl (.inr ⟨mkS a, b, (rv_str.mp rx).1, rv_int.mp ry, h.2.1, h.2.2, by rw [mkS_len]; exact h.1, ?_⟩)
    exact Ends'.here k W (rv_str.mpr ⟨rfl, rep_ok (rv_str.mp rx).2 h.1⟩)
  · obtain ⟨p, vs, rfl, hp, rp⟩ := rv_tup.mp rx
    refine .inr (.inl ⟨p, b, vs, rfl, rv_int.mp ry, SqT.of (W.tup hp), ?_, h.2.2.1, h.2.2.2, by rw [rp.length]; exact h.1, Ends'.tup k W (rp.rep _)⟩)
    rintro rfl
    exact h.2.1 (List.length_eq_zero_iff.mp rp.length.symm)
  · obtain ⟨p, vs, rfl, hp, rp⟩ := rv_lst.mp rx
    exact .inr (.inr ⟨p, b, vs, rfl, rv_int.mp ry, W.lst hp, by omega, by omega, by rw [rp.length]; exact Nat.le_trans h.1 lim_line, Ends'.lst k W (rp.rep _)⟩)
def negD : Dt → Option Dt
  | .int i => some (.int (-i))
  | _ => none
theorem unS_neg {T : Sta} : UnS T (rU fun i => .int (-i)) negD := by
  intro φ G H w x dx d Q W rx e k
  unfold negD at e
  split at e
  · cases e
    exact ⟨_, rv_int.mp rx, Ends'.here k W (rv_int.mpr rfl)⟩
  · cases e

/-! ### comparisons -/
mutual
def pd : Dt → PyData
  | .non => .none
  | .bl b => .bool b
  | .int i => .int i
  | .str s => .str (mkS s)
  | .tup l => .tuple (pds l)
  | .lst l => .list (pds l)
  | _ => .none
def pds : List Dt → List PyData
  | [] => []
  | d :: l => pd d :: pds l
end
section
variable {T : Sta} {φ : List (List Addr)} {G H : Hp} {w : Mn.W}
mutual
theorem dp_of (W : World T φ G H w) : ∀ (n : Nat) (d : Dt) (v : V), Mn.plain n d = true → Rep T φ G d v → Dp T.K H v (pd d)
  | n, .non, v, _, h => by unfold Rep at h; subst h; unfold pd; exact .non
  | n, .bl b, v, _, h => by unfold Rep at h; subst h; unfold pd; exact .bl b
  | n, .int b, v, _, h => by unfold Rep at h; subst h; unfold pd; exact .int b
  | n, .str s, v, _, h => by unfold Rep at h; obtain ⟨rfl, _⟩ := h; unfold pd; exact .str _
  | n, .tup l, v, p, h => by
    unfold Rep at h
    obtain ⟨a, vs, rfl, q, r⟩ := h
    unfold pd
    cases n with
    | zero => simp [Mn.plain] at p
    | succ n => exact .tup (SqT.of (W.tup q)) (dps_of W n l vs (by simpa [Mn.plain] using p) r)
  | n, .lst l, v, p, h => by
    unfold Rep at h
    obtain ⟨a, vs, rfl, q, r⟩ := h
    unfold pd
    cases n with
    | zero => simp [Mn.plain] at p
    | succ n => exact .lst (SqL.of (W.lst q)) (dps_of W n l vs (by simpa [Mn.plain] using p) r)
  | n, .dic _, _, p, _ => by cases n <;> simp [Mn.plain] at p
  | n, .own _, _, p, _ => by cases n <;> simp [Mn.plain] at p
  | n, .ownd _, _, p, _ => by cases n <;> simp [Mn.plain] at p
  | n, .fn _, _, p, _ => by cases n <;> simp [Mn.plain] at p
  | n, .obj _, _, p, _ => by cases n <;> simp [Mn.plain] at p
  | n, .scr, _, p, _ => by cases n <;> simp [Mn.plain] at p
theorem dps_of (W : World T φ G H w) : ∀ (n : Nat) (l : List Dt) (vs : List V), (∀ d ∈ l, Mn.plain n d = true) → Reps T φ G l vs → DpAll T.K H vs (pds l)
  | n, [], vs, _, h => by rw [h.nil_of]; unfold pds; exact .nil
  | n, d :: l, vs, p, h => by
    obtain ⟨v, r, rfl, q, t⟩ := h.uncons
    unfold pds
    exact .cons (dp_of W n d v (p d List.mem_cons_self) q) (dps_of W n l r (fun x hx => p x (List.mem_cons_of_mem _ hx)) t)
end
mutual
theorem can_of : ∀ (n : Nat) (d : Dt) (v : V), Mn.plain n d = true → Rep T φ G d v → PyData.canLay0 (pd d) = true ∧ PyData.depth (pd d) ≤ n
  | n, .non, v, _, h => by unfold pd; exact ⟨by simp [PyData.canLay0], by simp [PyData.depth]⟩
  | n, .bl b, v, _, h => by unfold pd; exact ⟨by simp [PyData.canLay0], by simp [PyData.depth]⟩
  | n, .int b, v, _, h => by unfold pd; exact ⟨by simp [PyData.canLay0], by simp [PyData.depth]⟩
  | n, .str s, v, _, h => by
    unfold Rep at h; obtain ⟨rfl, _, hs⟩ := h; unfold pd
    refine ⟨?_, by simp [PyData.depth]⟩
    simp only [PyData.canLay0, PyData.strOk, mkS]
    simpa using hs
  | n, .tup l, v, p, h => by
    unfold Rep at h
    obtain ⟨a, vs, rfl, q, r⟩ := h
    unfold pd
    cases n with
    | zero => simp [Mn.plain] at p
    | succ n =>
      obtain ⟨h1, h2⟩ := cans_of n l vs (by simpa [Mn.plain] using p) r
      exact ⟨by simpa [PyData.canLay0] using h1, by simp only [PyData.depth]; omega⟩
  | n, .lst l, v, p, h => by
    unfold Rep at h
    obtain ⟨a, vs, rfl, q, r⟩ := h
    unfold pd
    cases n with
    | zero => simp [Mn.plain] at p
    | succ n =>
      obtain ⟨h1, h2⟩ := cans_of n l vs (by simpa [Mn.plain] using p) r
      exact ⟨by simpa [PyData.canLay0] using h1, by simp only [PyData.depth]; omega⟩
  | n, .dic _, _, p, _ => by cases n <;> simp [Mn.plain] at p
  | n, .own _, _, p, _ => by cases n <;> simp [Mn.plain] at p
  | n, .ownd _, _, p, _ => by cases n <;> simp [Mn.plain] at p
  | n, .fn _, _, p, _ => by cases n <;> simp [Mn.plain] at p
  | n, .obj _, _, p, _ => by cases n <;> simp [Mn.plain] at p
  | n, .scr, _, p, _ => by cases n <;> simp [Mn.plain] at p
theorem cans_of : ∀ (n : Nat) (l : List Dt) (vs : List V), (∀ d ∈ l, Mn.plain n d = true) → Reps T φ G l vs → PyData.canLayAll0 (pds l) = true ∧ PyData.depthAll (pds l) ≤ n
  | n, [], vs, _, h => by unfold pds; exact ⟨by simp [PyData.canLayAll0], by simp [PyData.depthAll]⟩
  | n, d :: l, vs, p, h => by
    obtain ⟨v, r, rfl, q, t⟩ := h.uncons
    unfold pds
    obtain ⟨h1, h2⟩ := can_of n d v (p d List.mem_cons_self) q
    obtain ⟨h3, h4⟩ := cans_of n l r (fun x hx => p x (List.mem_cons_of_mem _ hx)) t
    exact ⟨by simp [PyData.canLayAll0, h1, h3], by simp only [PyData.depthAll]; omega⟩
end
theorem mkS_beq (a b : List Nat) : (mkS a == mkS b) = (a == b) := by
  by_cases h : a = b
  · subst h; simp
  · have : mkS a ≠ mkS b := fun e => h (mkS_inj e)
    rw [beq_eq_false_iff_ne.mpr h, beq_eq_false_iff_ne.mpr this]
mutual
theorem eqv_of : ∀ (n m : Nat) (a b : Dt), Mn.plain n a = true → Mn.plain m b = true → PyData.eqv (pd a) (pd b) = Mn.eqD a b
  | n, m, a, b, pa, pb => by
    cases a <;> cases b <;> first
      | (cases n <;> simp [Mn.plain] at pa; done)
      | (cases m <;> simp [Mn.plain] at pb; done)
      | (simp only [pd, PyData.eqv, Mn.eqD, mkS_beq]; done)
      | skip
    · cases n with
      | zero => simp [Mn.plain] at pa
      | succ n => cases m with
        | zero => simp [Mn.plain] at pb
        | succ m =>
          simp only [pd, PyData.eqv, Mn.eqD]
          exact eqvs_of n m _ _ (by simpa [Mn.plain] using pa) (by simpa [Mn.plain] using pb)
    · cases n with
      | zero => simp [Mn.plain] at pa
      | succ n => cases m with
        | zero => simp [Mn.plain] at pb
        | succ m =>
          simp only [pd, PyData.eqv, Mn.eqD]
          exact eqvs_of n m _ _ (by simpa [Mn.plain] using pa) (by simpa [Mn.plain] using pb)
theorem eqvs_of : ∀ (n m : Nat) (a b : List Dt), (∀ d ∈ a, Mn.plain n d = true) → (∀ d ∈ b, Mn.plain m d = true) → PyData.eqvAll (pds a) (pds b) = Mn.eqDs a b
  | _, _, [], [], _, _ => by simp [pds, PyData.eqvAll, Mn.eqDs]
  | _, _, [], _ :: _, _, _ => by simp [pds, PyData.eqvAll, Mn.eqDs]
  | _, _, _ :: _, [], _, _ => by simp [pds, PyData.eqvAll, Mn.eqDs]
  | n, m, x :: xs, y :: ys, pa, pb => by
    simp only [pds, PyData.eqvAll, Mn.eqDs]
    rw [eqv_of n m x y (pa x List.mem_cons_self) (pb y List.mem_cons_self), eqvs_of n m xs ys (fun d hd => pa d (List.mem_cons_of_mem _ hd)) (fun d hd => pb d (List.mem_cons_of_mem _ hd))]
end
end
end Sn
end
section
set_option linter.all false
set_option maxRecDepth 100000
set_option maxHeartbeats 4000000
/-! Comparisons, items, slices by values. -/
namespace Sn
open PySem PySem.Spec PyProof.Rows L2
section
variable {T : Sta} {φ : List (List Addr)} {G H : Hp} {w : Mn.W}
theorem dpV_of (W : World T φ G H w) {n : Nat} {d : Dt} {v : V} (p : Mn.plain n d.thaw = true) (h : RepV T φ G H d v) : Dp T.K H v (pd d.thaw) ∧ PyData.canLay0 (pd d.thaw) = true ∧ PyData.depth (pd d.thaw) ≤ n := by
  cases d with
  | own l =>
    obtain ⟨a, vs, rfl, hh, _, _, r⟩ := h
    cases n with
    | zero => simp [Mn.D.thaw, Mn.plain] at p
    | succ n =>
      have p' : ∀ d ∈ l, Mn.plain n d = true := by simpa [Mn.D.thaw, Mn.plain] using p
      obtain ⟨h1, h2⟩ := cans_of n l vs p' r
      show Dp T.K H (.ref a) (pd (.lst l)) ∧ _
      unfold pd
      exact ⟨.lst (SqL.of hh) (dps_of W n l vs p' r), by simpa [Mn.D.thaw, pd, PyData.canLay0] using h1, by simp only [Mn.D.thaw, pd, PyData.depth]; omega⟩
  | ownd l => cases n <;> simp [Mn.D.thaw, Mn.plain] at p
  | _ => exact ⟨dp_of W n _ v p h, can_of (T := T) (φ := φ) (G := G) n _ v p h⟩
theorem shaped_of' {d : PyData} {n : Nat} (h : PyData.canLay0 d = true ∧ PyData.depth d ≤ n) (hn : n ≤ 64) : SeqAt.shaped d = true := by
  unfold SeqAt.shaped
  rw [h.1, decide_eq_true (Nat.le_trans h.2 hn)]
  rfl
theorem eq_inv {x y : Dt} {b : Bool} (e : Mn.eqOp x y = some b) : Mn.plain 9 x.thaw = true ∧ Mn.plain 9 y.thaw = true ∧ b = Mn.eqD x.thaw y.thaw := by
  unfold Mn.eqOp at e
  split at e
  · rename_i h
    simp only [Bool.and_eq_true] at h
    cases e
    exact ⟨h.1, h.2, rfl⟩
  · cases e
end
theorem opS_eq {T : Sta} : OpS T (rEqD T.K) (fun x y => (Mn.cmpop .eq x y).map .bl) := by
  intro φ G H w x y dx dy d Q W rx ry e k
  obtain ⟨b, e1, rfl⟩ := Option.map_eq_some_iff.mp e
  obtain ⟨p1, p2, rfl⟩ := eq_inv e1
  obtain ⟨d1, c1⟩ := dpV_of W p1 rx
  obtain ⟨d2, c2⟩ := dpV_of W p2 ry
  refine ⟨_, _, d1, d2, shaped_of' c1 (by decide), shaped_of' c2 (by decide), ?_⟩
  rw [eqv_of 9 9 _ _ p1 p2]
  exact Ends'.here k W (rv_bl.mpr rfl)
theorem opS_ne {T : Sta} : OpS T (rNeD T.K) (fun x y => (Mn.cmpop .ne x y).map .bl) := by
  intro φ G H w x y dx dy d Q W rx ry e k
  obtain ⟨b, e1, rfl⟩ := Option.map_eq_some_iff.mp e
  obtain ⟨b', e2, rfl⟩ := Option.map_eq_some_iff.mp e1
  obtain ⟨p1, p2, rfl⟩ := eq_inv e2
  obtain ⟨d1, c1⟩ := dpV_of W p1 rx
  obtain ⟨d2, c2⟩ := dpV_of W p2 ry
  refine ⟨_, _, d1, d2, shaped_of' c1 (by decide), shaped_of' c2 (by decide), ?_⟩
  rw [eqv_of 9 9 _ _ p1 p2]
  exact Ends'.here k W (rv_bl.mpr rfl)
/-! ### order -/
def rLtX : R2 := fun x y H Q => (∃ i j : Str, x = .str i ∧ y = .str j ∧ Q (.bl (decide (i.cps.toList < j.cps.toList))) H) ∨ rI0 (fun i j => .bl (decide (i < j))) x y H Q
theorem opR_lt {X : Cx} : OpR X (compareOp .Lt) rLtX := OpR.or op_lt_str op_lt
theorem opS_lt {T : Sta} : OpS T rLtX (fun x y => (Mn.cmpop .lt x y).map .bl) := by
  intro φ G H w x y dx dy d Q W rx ry e k
  obtain ⟨b, e1, rfl⟩ := Option.map_eq_some_iff.mp e
  replace e1 : Mn.ltOp dx dy = some b := e1
  unfold Mn.ltOp at e1
  split at e1
  · cases e1
    refine .inl ⟨_, _, (rv_str.mp rx).1, (rv_str.mp ry).1, ?_⟩
    show Q (.bl (decide (_ < _))) H
    rw [show ∀ a : List Nat, (mkS a).cps.toList = a from fun _ => rfl, show ∀ a : List Nat, (mkS a).cps.toList = a from fun _ => rfl, ltS_eq]
    exact Ends'.here k W (rv_bl.mpr rfl)
  · cases e1
    exact .inr ⟨_, _, rv_int.mp rx, rv_int.mp ry, Ends'.here k W (rv_bl.mpr rfl)⟩
  · cases e1
theorem opS_le {T : Sta} : OpS T (rI0 fun i j => .bl (decide (i ≤ j))) (fun x y => (Mn.cmpop .le x y).map .bl) := by
  intro φ G H w x y dx dy d Q W rx ry e k
  obtain ⟨b, e1, rfl⟩ := Option.map_eq_some_iff.mp e
  replace e1 : Mn.leOp dx dy = some b := e1
  unfold Mn.leOp at e1
  split at e1
  · cases e1
    exact ⟨_, _, rv_int.mp rx, rv_int.mp ry, Ends'.here k W (rv_bl.mpr rfl)⟩
  · cases e1
theorem opS_gt {T : Sta} : OpS T (rI0 fun i j => .bl (decide (j < i))) (fun x y => (Mn.cmpop .gt x y).map .bl) := by
  intro φ G H w x y dx dy d Q W rx ry e k
  obtain ⟨b, e1, rfl⟩ := Option.map_eq_some_iff.mp e
  replace e1 : Mn.gtOp dx dy = some b := e1
  unfold Mn.gtOp at e1
  split at e1
  · cases e1
    exact ⟨_, _, rv_int.mp rx, rv_int.mp ry, Ends'.here k W (rv_bl.mpr rfl)⟩
  · cases e1
theorem opS_ge {T : Sta} : OpS T (rI0 fun i j => .bl (decide (j ≤ i))) (fun x y => (Mn.cmpop .ge x y).map .bl) := by
  intro φ G H w x y dx dy d Q W rx ry e k
  obtain ⟨b, e1, rfl⟩ := Option.map_eq_some_iff.mp e
  replace e1 : Mn.geOp dx dy = some b := e1
  unfold Mn.geOp at e1
  split at e1
  · cases e1
    exact ⟨_, _, rv_int.mp rx, rv_int.mp ry, Ends'.here k W (rv_bl.mpr rfl)⟩
  · cases e1

/-! ### in -/
theorem pref_eq : ∀ (a s : List Nat), Mn.prefS a s = (s.take a.length == a)
  | [], s => by simp [Mn.prefS]
  | _ :: _, [] => by simp [Mn.prefS]
  | x :: xs, y :: ys => by
    unfold Mn.prefS
    rw [pref_eq xs ys]
    simp only [List.length_cons, List.take_succ_cons]
    rw [Bool.eq_iff_iff]
    simp
    intro _
    exact eq_comm
theorem inS_iff : ∀ (a s : List Nat), a ≠ [] → (Mn.inS a s = true ↔ ∃ i, (s.drop i).take a.length = a)
  | a, [], h => by
    unfold Mn.inS
    constructor
    · intro e; exact absurd (List.isEmpty_iff.mp e) h
    · rintro ⟨i, e⟩
      simp at e
      exact absurd e h
  | a, y :: ys, h => by
    unfold Mn.inS
    rw [Bool.or_eq_true, pref_eq, inS_iff a ys h]
    constructor
    · rintro (e | ⟨i, e⟩)
      · exact ⟨0, by simpa using e⟩
      · exact ⟨i + 1, by simpa using e⟩
    · rintro ⟨i, e⟩
      cases i with
      | zero => exact .inl (by simpa using e)
      | succ i => exact .inr ⟨i, by simpa using e⟩
theorem in_eq (a s : List Nat) (h : a ≠ []) : (!(Builtin.Str.occurrences (mkS s) (mkS a) 0 (mkS s).length 1).isEmpty) = Mn.inS a s := by
  rw [Bool.eq_iff_iff, inS_iff a s h, StrLaws.found_iff]
  have hy : TL.tl (mkS a) ≠ [] := h
  constructor
  · rintro ⟨i, hi⟩
    have := (TL.at_iff hy i).mp (show StrLaws.At (mkS s) (mkS a) (mkS s).length i from hi)
    exact ⟨i, by simpa [TL.pre, tl_mkS] using this⟩
  · rintro ⟨i, e⟩
    exact ⟨i, (TL.at_iff hy i).mpr (by simpa [TL.pre, tl_mkS] using e)⟩
theorem eqV_of {T : Sta} {φ : List (List Addr)} {G : Hp} {a b : Dt} {x y : V} (fa : Mn.flat a = true) (fb : Mn.flat b = true) (ra : Rep T φ G a x) (rb : Rep T φ G b y) : eqV x y = Mn.eqD a b ∧ flatV x = true ∧ flatV y = true := by
  cases a <;> cases b <;> first
    | (simp [Mn.flat] at fa; done)
    | (simp [Mn.flat] at fb; done)
    | skip
  all_goals
    unfold Rep at ra rb
    first
      | (obtain ⟨ra, _⟩ := ra; obtain ⟨rb, _⟩ := rb; subst ra rb; simp [eqV, Mn.eqD, flatV, mkS_beq]; done)
      | (obtain ⟨ra, _⟩ := ra; subst ra rb; simp [eqV, Mn.eqD, flatV]; done)
      | (obtain ⟨rb, _⟩ := rb; subst ra rb; simp [eqV, Mn.eqD, flatV]; done)
      | (subst ra rb; simp [eqV, Mn.eqD, flatV]; done)
theorem inV_of {T : Sta} {φ : List (List Addr)} {G : Hp} {b : Dt} {x : V} (fb : Mn.flat b = true) (rb : Rep T φ G b x) : ∀ {l : List Dt} {vs : List V}, l.all Mn.flat = true → Reps T φ G l vs → inV x vs = (l.any fun y => Mn.eqD y b) ∧ vs.all flatV = true
  | [], _, _, h => by rw [h.nil_of]; exact ⟨rfl, rfl⟩
  | d :: l, _, f, h => by
    obtain ⟨v, r, rfl, q, t⟩ := h.uncons
    rw [List.all_cons, Bool.and_eq_true] at f
    obtain ⟨e1, e2⟩ := inV_of fb rb f.2 t
    obtain ⟨e3, e4, _⟩ := eqV_of f.1 fb q rb
    refine ⟨?_, by rw [List.all_cons, e4, e2]; rfl⟩
    show (eqV v x || inV x r) = _
    rw [e3, e1]
    rfl
/-! ### a dict's keys -/
theorem key_one {d : Dt} (h : Mn.isKey1 d = true) {T : Sta} {φ : List (List Addr)} {G : Hp} {v : V} (r : Rep T φ G d v) : ∃ k, KeyIs d k ∧ v = kV k := by
  cases d <;> simp [Mn.isKey1] at h
  · unfold Rep at r; exact ⟨_, rfl, r⟩
  · unfold Rep at r; exact ⟨_, ⟨rfl, r.2⟩, r.1⟩
theorem keys_are : ∀ {l : List Dt} {T : Sta} {φ : List (List Addr)} {G : Hp} {vs : List V}, l.all Mn.isKey1 = true → Reps T φ G l vs → ∃ ks, KeysAre l ks ∧ vs = ks.map kV
  | [], _, _, _, _, _, h => ⟨[], rfl, h.nil_of⟩
  | d :: l, _, _, _, _, f, h => by
    obtain ⟨v, r, rfl, q, t⟩ := h.uncons
    rw [List.all_cons, Bool.and_eq_true] at f
    obtain ⟨k, h1, rfl⟩ := key_one f.1 q
    obtain ⟨ks, h2, rfl⟩ := keys_are f.2 t
    exact ⟨k :: ks, ⟨k, ks, rfl, h1, h2⟩, rfl⟩
theorem key_inj {a b : Dt} {k j : Key} (ha : KeyIs a k) (hb : KeyIs b j) : Mn.eqD a b = decide (k = j) := by
  cases a <;> simp only [KeyIs] at ha <;> cases b <;> simp only [KeyIs] at hb
  · subst ha hb
    simp only [Mn.eqD]
    rw [Bool.eq_iff_iff]; simp
  · obtain ⟨rfl, _⟩ := hb; subst ha; simp [Mn.eqD]
  · obtain ⟨rfl, _⟩ := ha; subst hb; simp [Mn.eqD]
  · obtain ⟨rfl, _⟩ := ha
    obtain ⟨rfl, _⟩ := hb
    simp only [Mn.eqD]
    rw [← mkS_beq, Bool.eq_iff_iff]; simp
theorem keys_inj : ∀ {a b : List Dt} {k j : List Key}, KeysAre a k → KeysAre b j → Mn.eqDs a b = decide (k = j)
  | [], [], _, _, ha, hb => by simp only [KeysAre] at ha hb; subst ha hb; simp [Mn.eqDs]
  | [], _ :: _, _, _, ha, ⟨x, r, e, _⟩ => by simp only [KeysAre] at ha; subst ha e; simp [Mn.eqDs]
  | _ :: _, [], _, _, ⟨x, r, e, _⟩, hb => by simp only [KeysAre] at hb; subst hb e; simp [Mn.eqDs]
  | x :: xs, y :: ys, _, _, ⟨k, ks, e, h1, h2⟩, ⟨j, js, e', h3, h4⟩ => by
    subst e e'
    simp only [Mn.eqDs]
    rw [key_inj h1 h3, keys_inj h2 h4, Bool.eq_iff_iff]
    simp
theorem tkey_inj {a b : Dt} {k j : List Key} (ha : TKeyIs a k) (hb : TKeyIs b j) : Mn.eqD a b = decide (k = j) := by
  cases a <;> simp only [TKeyIs] at ha
  cases b <;> simp only [TKeyIs] at hb
  simp only [Mn.eqD]
  exact keys_inj ha hb
theorem dget_k {T : Sta} {φ : List (List Addr)} {G : Hp} {a : Dt} {k : Key} (ha : KeyIs a k) : ∀ {l : List (Dt × Dt)} {kvs : List (Key × V)}, RepK T φ G l kvs →
    (∀ d, Mn.dget a l = some d → ∃ v, valV kvs k = some v ∧ Rep T φ G d v) ∧ (Mn.dget a l = none → valV kvs k = none)
  | [], _, h => by unfold RepK at h; subst h; exact ⟨fun d e => by simp [Mn.dget] at e, fun _ => rfl⟩
  | (b, u) :: l, _, h => by
    unfold RepK at h
    obtain ⟨key, v, r, rfl, h1, h2, h3⟩ := h
    obtain ⟨i1, i2⟩ := dget_k ha h3
    unfold Mn.dget
    rw [key_inj h1 ha]
    by_cases e : key = k
    · rw [if_pos (decide_eq_true e)]
      exact ⟨fun d z => by cases z; exact ⟨v, valV_pos (p := (key, v)) e, h2⟩, fun z => by cases z⟩
    · rw [if_neg (by simp [e]), valV_neg (p := (key, v)) e]
      exact ⟨i1, i2⟩
theorem dget_t {T : Sta} {φ : List (List Addr)} {G : Hp} {a : Dt} {k : List Key} (ha : TKeyIs a k) : ∀ {l : List (Dt × Dt)} {kvs : List (List Key × V)}, RepT T φ G l kvs →
    (∀ d, Mn.dget a l = some d → ∃ v, valV kvs k = some v ∧ Rep T φ G d v) ∧ (Mn.dget a l = none → valV kvs k = none)
  | [], _, h => by unfold RepT at h; subst h; exact ⟨fun d e => by simp [Mn.dget] at e, fun _ => rfl⟩
  | (b, u) :: l, _, h => by
    unfold RepT at h
    obtain ⟨key, v, r, rfl, h1, h2, h3⟩ := h
    obtain ⟨i1, i2⟩ := dget_t ha h3
    unfold Mn.dget
    rw [tkey_inj h1 ha]
    by_cases e : key = k
    · rw [if_pos (decide_eq_true e)]
      exact ⟨fun d z => by cases z; exact ⟨v, valV_pos (p := (key, v)) e, h2⟩, fun z => by cases z⟩
    · rw [if_neg (by simp [e]), valV_neg (p := (key, v)) e]
      exact ⟨i1, i2⟩
/-- a dict's datum at its address -/
def DicAt (T : Sta) (φ : List (List Addr)) (G H : Hp) (l : List (Dt × Dt)) (a : Addr) : Prop := (∃ kvs, Rd H a (.dK kvs) ∧ RepK T φ G l kvs) ∨ ∃ kvs, Rd H a (.dT kvs) ∧ l ≠ [] ∧ RepT T φ G l kvs
theorem RepV.dic {T : Sta} {φ : List (List Addr)} {G H : Hp} {w : Mn.W} {d : Dt} {v : V} (W : World T φ G H w) (h : RepV T φ G H d v) {l : List (Dt × Dt)} (e : Mn.dicOf d = some l) : ∃ a, v = .ref a ∧ DicAt T φ G H l a := by
  cases d <;> simp only [Mn.dicOf, Option.some.injEq, reduceCtorEq] at e
  · subst e
    obtain ⟨a, rfl, ⟨kvs, q, r⟩ | ⟨kvs, q, n, r⟩⟩ := rv_dic.mp h
    · exact ⟨a, rfl, .inl ⟨kvs, W.rd q, r⟩⟩
    · exact ⟨a, rfl, .inr ⟨kvs, W.rd q, n, r⟩⟩
  · subst e
    obtain ⟨a, rfl, _, _, ⟨kvs, q, r⟩ | ⟨kvs, q, n, r⟩⟩ := h
    · exact ⟨a, rfl, .inl ⟨kvs, .inl q, r⟩⟩
    · exact ⟨a, rfl, .inr ⟨kvs, .inl q, n, r⟩⟩
theorem key1_not {d : Dt} {ks : List Key} (h : TKeyIs d ks) : Mn.isKey1 d = false := by
  cases d <;> simp only [TKeyIs] at h
  rfl
theorem keyT_not {d : Dt} {k : Key} (h : KeyIs d k) : Mn.isKeyT d = false := by
  cases d <;> simp only [KeyIs] at h <;> rfl
theorem key_tup {d : Dt} (h : Mn.isKeyT d = true) {T : Sta} {φ : List (List Addr)} {G : Hp} {v : V} (r : Rep T φ G d v) : ∃ ks b, TKeyIs d ks ∧ v = .ref b ∧ G b = some (.tup (ks.map kV)) := by
  cases d <;> simp only [Mn.isKeyT, Bool.false_eq_true] at h
  unfold Rep at r
  obtain ⟨a, vs, rfl, q, t⟩ := r
  obtain ⟨ks, h1, rfl⟩ := keys_are h t
  exact ⟨ks, a, h1, rfl, q⟩
/-- what stands at the key x -/
theorem dic_get {T : Sta} {φ : List (List Addr)} {G H : Hp} {w : Mn.W} {d : Dt} {v : V} (W : World T φ G H w) {l : List (Dt × Dt)} {a : Addr} (h : DicAt T φ G H l a) (r : Rep T φ G d v) (k : Mn.kindOk d l = true) :
    ∃ o, DGet H a v o ∧ (∀ u, Mn.dget d l = some u → ∃ z, o = some z ∧ Rep T φ G u z) ∧ (Mn.dget d l = none → o = none) := by
  unfold Mn.kindOk at k
  simp only [Bool.or_eq_true, Bool.and_eq_true] at k
  rcases h with ⟨kvs, rd, rk⟩ | ⟨kvs, rd, ne, rk⟩
  · rcases k with ⟨k1, _⟩ | ⟨⟨k1, k2⟩, k3⟩
    · obtain ⟨key, hk, rfl⟩ := key_one k1 r
      obtain ⟨i1, i2⟩ := dget_k hk rk
      exact ⟨_, .inl ⟨kvs, key, rd, rfl, rfl⟩, i1, i2⟩
    · exfalso
      cases l with
      | nil => simp at k2
      | cons p l =>
        obtain ⟨b, u⟩ := p
        unfold RepK at rk
        obtain ⟨key, z, r', _, h1, _⟩ := rk
        rw [List.all_cons, Bool.and_eq_true] at k3
        rw [keyT_not h1] at k3
        exact Bool.false_ne_true k3.1
  · cases l with
    | nil => exact absurd rfl ne
    | cons p l =>
      rcases k with ⟨k1, k3⟩ | ⟨⟨k1, _⟩, _⟩
      · exfalso
        obtain ⟨b, u⟩ := p
        unfold RepT at rk
        obtain ⟨key, z, r', _, h1, _⟩ := rk
        rw [List.all_cons, Bool.and_eq_true] at k3
        rw [key1_not h1] at k3
        exact Bool.false_ne_true k3.1
      · obtain ⟨key, b, hk, rfl, hb⟩ := key_tup k1 r
        obtain ⟨i1, i2⟩ := dget_t hk rk
        exact ⟨_, .inr ⟨kvs, key, b, rd, rfl, W.tup hb, rfl⟩, i1, i2⟩
def rInD (neg : Bool) : R2 := fun x y H Q => ∃ a o, y = .ref a ∧ DGet H a x o ∧ Q (.bl (if neg then !o.isSome else o.isSome)) H
theorem op_inD {X : Cx} (hu : X.A.units + 1 < cLine) : OpR X (compareOp .In) (rInD false) := by
  intro pins s σ H x y v u Q I rx ry h
  obtain ⟨a, o, rfl, g, q⟩ := h
  cases ry
  exact d_in hu I g rx fun s' I' => ⟨.bl _, H, I', rfl, q⟩
theorem op_ninD {X : Cx} (hu : X.A.units + 1 < cLine) : OpR X (compareOp .NotIn) (rInD true) := by
  intro pins s σ H x y v u Q I rx ry h
  obtain ⟨a, o, rfl, g, q⟩ := h
  cases ry
  exact d_notIn hu I g rx fun s' I' => ⟨.bl _, H, I', rfl, q⟩
def rInStr (neg : Bool) : R2 := fun x y H Q => ∃ i j : Str, x = .str i ∧ y = .str j ∧ Q (.bl (if neg then !(!(Builtin.Str.occurrences j i 0 j.length 1).isEmpty) else !(Builtin.Str.occurrences j i 0 j.length 1).isEmpty)) H
def rInX (K : PySem.W.Frag) (neg : Bool) : R2 := fun x y H Q => (rInStr neg x y H Q ∨ rInD neg x y H Q) ∨ rIn K neg x y H Q
theorem opR_in {X : Cx} (hu : X.A.units + 1 < cLine) : OpR X (compareOp .In) (rInX X.K false) := OpR.or (OpR.or op_in_str (op_inD hu)) op_in_seq
theorem opR_notin {X : Cx} (hu : X.A.units + 1 < cLine) : OpR X (compareOp .NotIn) (rInX X.K true) := OpR.or (OpR.or op_notin_str (op_ninD hu)) op_notIn_seq
theorem in_inv {x d : Dt} {b : Bool} (e : Mn.inD x d = some b) : (∃ s t, x = .str s ∧ d = .str t ∧ s ≠ [] ∧ b = Mn.inS s t) ∨ (∃ l, Mn.dicOf d = some l ∧ Mn.kindOk x l = true ∧ b = (Mn.dget x l).isSome) ∨
    ∃ l, Mn.seqOf d = some l ∧ Mn.flat x = true ∧ l.all Mn.flat = true ∧ b = l.any fun y => Mn.eqD y x := by
  unfold Mn.inD at e
  split at e
  · split at e <;> simp only [Option.some.injEq, reduceCtorEq] at e
    rename_i h
    exact .inl ⟨_, _, rfl, rfl, fun z => h (by rw [z]; rfl), e.symm⟩
  · split at e <;> simp only [Option.some.injEq, reduceCtorEq] at e
    rename_i h
    exact .inr (.inl ⟨_, rfl, h, e.symm⟩)
  · split at e <;> simp only [Option.some.injEq, reduceCtorEq] at e
    rename_i h
    exact .inr (.inl ⟨_, rfl, h, e.symm⟩)
  · cases q : Mn.seqOf d with
    | none => rw [q] at e; simp at e
    | some l =>
      rw [q] at e
      simp only [Option.bind_some] at e
      split at e <;> simp only [Option.some.injEq, reduceCtorEq] at e
      rename_i h
      simp only [Bool.and_eq_true] at h
      exact .inr (.inr ⟨l, rfl, h.1, h.2, e.symm⟩)
theorem key_notOwn {d : Dt} {l : List (Dt × Dt)} (h : Mn.kindOk d l = true) : Mn.isOwn d = false := by
  cases d <;> first | rfl | (simp [Mn.kindOk, Mn.isKey1, Mn.isKeyT] at h)
theorem flat_notOwn {d : Dt} (h : Mn.flat d = true) : Mn.isOwn d = false := by
  cases d <;> first | rfl | (simp [Mn.flat] at h)
theorem opS_inX {T : Sta} (neg : Bool) : OpS T (rInX T.K neg) (fun x y => (Mn.inD x y).map fun b => .bl (if neg then !b else b)) := by
  intro φ G H w x y dx dy d Q W rx ry e k
  obtain ⟨b, e1, rfl⟩ := Option.map_eq_some_iff.mp e
  rcases in_inv e1 with ⟨s, t, rfl, rfl, hs, rfl⟩ | ⟨l, h1, h2, rfl⟩ | ⟨l, h1, h2, h3, rfl⟩
  · refine .inl (.inl ⟨mkS s, mkS t, (rv_str.mp rx).1, (rv_str.mp ry).1, ?_⟩)
    rw [in_eq s t hs]
    exact Ends'.here k W (rv_bl.mpr rfl)
  · obtain ⟨a, rfl, da⟩ := ry.dic W h1
    obtain ⟨o, g, i1, i2⟩ := dic_get W da (rx.rep (key_notOwn h2)) h2
    refine .inl (.inr ⟨a, o, rfl, g, ?_⟩)
    have : o.isSome = (Mn.dget dx l).isSome := by
      cases q : Mn.dget dx l with
      | none => rw [i2 q]; rfl
      | some u => obtain ⟨z, rfl, _⟩ := i1 u q; rfl
    rw [this]
    exact Ends'.here k W (rv_bl.mpr rfl)
  · obtain ⟨a, vs, rfl, hq, r⟩ := ry.seq W h1
    obtain ⟨e1, e2⟩ := inV_of h2 (rx.rep (flat_notOwn h2)) h3 r
    have hf : flatV x = true := by
      have rx' := rx.rep (flat_notOwn h2)
      exact (eqV_of h2 h2 rx' rx').2.1
    refine .inr ⟨a, vs, rfl, hq.elim (fun z => .inr (SqT.of z)) (fun z => .inl (SqL.of z)), hf, e2, ?_⟩
    rw [e1]
    exact Ends'.here k W (rv_bl.mpr rfl)
theorem opS_in {T : Sta} : OpS T (rInX T.K false) (fun x y => (Mn.cmpop .isin x y).map .bl) := by
  have h := opS_inX (T := T) false
  simpa [Mn.cmpop] using h
theorem opS_notin {T : Sta} : OpS T (rInX T.K true) (fun x y => (Mn.cmpop .notin x y).map .bl) := by
  have h := opS_inX (T := T) true
  intro φ G H w x y dx dy d Q W rx ry e k
  refine h φ G H w x y dx dy d Q W rx ry ?_ k
  simp only [Mn.cmpop, Option.map_map] at e
  exact e
end Sn
end
section
set_option linter.all false
set_option maxRecDepth 100000
set_option maxHeartbeats 4000000
/-! Items, slices, built-in calls by values. -/
namespace Sn
open PySem PySem.Spec PyProof.Rows L2

/-! ### items -/
def rIxD : R2 := fun x y H Q => ∃ a v, x = .ref a ∧ DGet H a y (some v) ∧ Q v H
theorem ix_dict {X : Cx} (hu : X.A.units + 1 < cLine) : IxR X rIxD := by
  intro value slice pins s σ H x y v u Q I rx ry h hs
  obtain ⟨a, z, rfl, g, q⟩ := h
  cases rx
  have hT := dict_typeIs I g
  unfold subscriptTail
  refine wpAny_bind ?_
  rw [getitemInPython_of_ne hT.not_modules]
  refine wpAny_bind (wpAny_specialOf hT PySem.slot_dict_getitem.lookup ?_)
  have fin : wpAny (model X.prog X.w) X.A (subscripted slice false (.ref a) u) (fun r s₃ => wpAny (model X.prog X.w) X.A (letTemporaryGo value (.ref a) r >>= fun _ => pure r) (EP X pins σ Q) X.xe s₃) X.xe s := by
    rw [hs]
    exact wpAny_operating (wpAny_mono (d_getItem hu I g ry fun w' s' I' r' => (⟨z, H, I', r', q⟩ : EP X pins σ Q w' s')) (fun r s₃ h₃ => wpAny_bind (wpAny_letTemporaryGo (wpAny_pure h₃))) fun _ _ x => x)
  first
    | exact wpAny_pure (wpAny_bind fin)
    | exact wpAny_bind fin
    | exact fin
def rIxX (K : PySem.W.Frag) : R2 := fun x y H Q => rIx K x y H Q ∨ rIxD x y H Q
theorem ixR {X : Cx} (hu : X.A.units + 1 < cLine) : IxR X (rIxX X.K) := ix_seq.or (ix_dict hu)
theorem ix_sn (n : Nat) (i : Int) : Mn.ixN n i = L2.ixN n i := rfl
theorem at_sn {α : Type} (l : List α) (i : Int) : Mn.atI l i = L2.atI l i := rfl
theorem Reps.atI {T : Sta} {φ : List (List Addr)} {G : Hp} {l : List Dt} {vs : List V} {i : Int} {d : Dt} (h : Reps T φ G l vs) (e : Mn.atI l i = some d) : ∃ v, L2.atI vs i = some v ∧ Rep T φ G d v := by
  unfold Mn.atI at e
  unfold L2.atI
  rw [h.length]
  cases q : Mn.ixN l.length i with
  | none => rw [q] at e; simp at e
  | some j =>
    rw [q] at e
    obtain ⟨v, h1, h2⟩ := h.get (show l[j]? = some d from e)
    exact ⟨v, by rw [← ix_sn, q]; exact h1, h2⟩
theorem opS_ix {T : Sta} : OpS T (rIxX T.K) Mn.index := by
  intro φ G H w x y dx dy d Q W rx ry e k
  have dcase : ∀ l, Mn.dicOf dx = some l → Mn.kindOk dy l = true → Mn.dget dy l = some d → rIxX T.K x y H Q := fun l h1 h2 h3 => by
    obtain ⟨a, rfl, da⟩ := rx.dic W h1
    obtain ⟨o, g, i1, _⟩ := dic_get W da (ry.rep (key_notOwn h2)) h2
    obtain ⟨z, rfl, r⟩ := i1 d h3
    exact .inr ⟨a, z, rfl, g, Ends'.here k W (RepV.of r)⟩
  have scase : ∀ l i, Mn.seqOf dx = some l → dy = .int i → Mn.atI l i = some d → rIxX T.K x y H Q := fun l i h1 h2 h3 => by
    subst h2
    obtain ⟨a, vs, rfl, hq, r⟩ := rx.seq W h1
    obtain ⟨v, h4, h5⟩ := r.atI h3
    rcases hq with hq | hq
    · exact .inl (.inr (.inl ⟨a, vs, i, v, rfl, rv_int.mp ry, SqT.of hq, h4, Ends'.here k W (RepV.of h5)⟩))
    · exact .inl (.inl ⟨a, vs, i, v, rfl, rv_int.mp ry, SqL.of hq, h4, Ends'.here k W (RepV.of h5)⟩)
  unfold Mn.index at e
  split at e
  · obtain ⟨c, h1, rfl⟩ := Option.map_eq_some_iff.mp e
    obtain ⟨rfl, ok⟩ := rv_str.mp rx
    refine .inl (.inr (.inr ⟨mkS _, _, c, rfl, rv_int.mp ry, by rw [mkS_len]; exact ok.1, h1, ?_⟩))
    refine Ends'.here k W (rv_str.mpr ⟨rfl, OkS.one (ok.2 c ?_)⟩)
    unfold Mn.atI at h1
    obtain ⟨j, _, h3⟩ := Option.bind_eq_some_iff.mp h1
    exact List.mem_of_getElem? h3
  · exact scase _ _ rfl rfl e
  · exact scase _ _ rfl rfl e
  · exact scase _ _ rfl rfl e
  · split at e
    · rename_i h; exact dcase _ rfl h e
    · cases e
  · split at e
    · rename_i h; exact dcase _ rfl h e
    · cases e
  · cases e
section
variable {T : Sta} {e0 : Snap} {E : XK} {X : Cx} {a b : Expr} {fa fb : FE} {pos p2 : Pos}
theorem pd_ix {r : R2} {g : Dt → Dt → Option Dt} (hr : IxR X r) (hs : OpS T r g) (ha : PE X a (tEx T e0 E fa)) (hb : PE X b (tEx T e0 E fb)) (hp : PlainIx b) :
    PE X (.Subscript a b pos) (tEx T e0 E fun ρ w => (fa ρ w).bind fun x w => (fb ρ w).bind fun y w => .of (g x y) w) := by
  refine PE.imp (pe_ix hr ha hb hp) fun σ H Q ⟨φ, G, ρ, w, st, p⟩ => ?_
  refine ⟨φ, G, ρ, w, st, p.bind fun dx w1 x φ1 G1 H1 e1 W1 r1 p1 => ?_⟩
  refine ⟨φ1, G1, ρ, w1, st.step e1 W1, p1.bind fun dy w2 y φ2 G2 H2 e2 W2 r2 p2 => ?_⟩
  obtain ⟨d, e, p3⟩ := p2.ok_of
  exact hs φ2 G2 H2 w2 x y dx dy d Q W2 (r1.evo e2) r2 e fun v φ' G' H' e' W' r' => p3 v φ' G' H' e' W' r'
end

/-! ### slices -/
def rSlX (K : PySem.W.Frag) : V → Option Int → Option Int → Hp → VK → Prop := fun x lo hi H Q => (rSlL K x lo hi H Q ∨ rSlA K x lo hi H Q) ∨ rSlS x lo hi H Q
theorem slR {X : Cx} : SlR X (rSlX X.K) := (sl_list.or sl_tupA).or sl_str
theorem six_sn (n d : Nat) (o : Option Int) : Mn.sIx n d o = HT.sIx n d o := rfl
theorem Reps.cut {T : Sta} {φ : List (List Addr)} {G : Hp} {l : List Dt} {vs : List V} (h : Reps T φ G l vs) (lo hi : Option Int) : Reps T φ G (Mn.cut l lo hi) (cutV vs lo hi) := by
  unfold Mn.cut cutV
  rw [h.length]
  exact (h.drop _).take _
theorem cutS_sn (s : List Nat) (lo hi : Option Int) : cutS (mkS s) lo hi = mkS (Mn.cut s lo hi) := by
  unfold cutS Mn.cut
  rw [mkS_len]
  rfl
theorem cut_mem {α : Type} {l : List α} {lo hi : Option Int} : ∀ c ∈ Mn.cut l lo hi, c ∈ l := fun c h => List.mem_of_mem_drop (List.mem_of_mem_take h)
theorem cut_len {α : Type} {l : List α} {lo hi : Option Int} : (Mn.cut l lo hi).length ≤ l.length := by
  unfold Mn.cut
  rw [List.length_take, List.length_drop]
  omega
theorem cut_all {l : List Dt} {lo hi : Option Int} (h : HT.sIx l.length 0 lo = 0 ∧ HT.sIx l.length l.length hi = l.length) : Mn.cut l lo hi = l := by
  unfold Mn.cut
  rw [six_sn, six_sn, h.1, h.2]
  simp
def SlS (T : Sta) (r : V → Option Int → Option Int → Hp → VK → Prop) : Prop := ∀ φ G H w x dx lo hi d (Q : VK), World T φ G H w → RepV T φ G H dx x → Mn.slice dx lo hi = some d → Ends' T φ G H w d Q → r x lo hi H Q
theorem slS {T : Sta} : SlS T (rSlX T.K) := by
  intro φ G H w x dx lo hi d Q W rx e k
  unfold Mn.slice at e
  split at e
  · cases e
    obtain ⟨rfl, ok⟩ := rv_str.mp rx
    refine .inr ⟨_, rfl, by rw [mkS_len]; exact ok.1, ?_⟩
    rw [cutS_sn]
    exact Ends'.here k W (rv_str.mpr ⟨rfl, ok.sub cut_len cut_mem⟩)
  · cases e
    obtain ⟨a, vs, rfl, hq, r⟩ := rv_tup.mp rx
    refine .inl (.inr ⟨a, vs, rfl, SqT.of (W.tup hq), fun z => ?_, fun _ => Ends'.tup k W (r.cut lo hi)⟩)
    rw [r.length] at z
    rw [cut_all z] at k
    exact Ends'.here k W rx
  · cases e
    obtain ⟨a, vs, rfl, hq, r⟩ := rv_lst.mp rx
    exact .inl (.inl ⟨a, vs, rfl, SqL.of (W.lst hq), Ends'.lst k W (r.cut lo hi)⟩)
  · cases e
    obtain ⟨a, vs, rfl, hq, _, _, r⟩ := rx
    exact .inl (.inl ⟨a, vs, rfl, SqL.of hq, Ends'.lst k W (r.cut lo hi)⟩)
  · cases e
/-- a slice's part -/
def RPart : List (List Addr) → Hp → Hp → Option Int → Option Int → Prop := fun _ _ _ b c => b = c
def tPt (T : Sta) (e0 : Snap) (E : XK) (f : Mn.Env → Mn.W → Mn.Res (Option Int)) : TO := fun σ H Q => ∃ φ G ρ w, StOk T e0 φ G H σ ρ w ∧ Post T E RPart φ G H Q (f ρ w)
theorem PO.imp {X : Cx} {e : Option Expr} {t t' : TO} (h : PO X e t) (i : ∀ σ H Q, t' σ H Q → t σ H Q) : PO X e t' := ⟨fun pins s σ H Q I q => h.run pins s σ H Q I (i σ H Q q)⟩
section
variable {T : Sta} {e0 : Snap} {E : XK} {X : Cx} {a b : Expr} {fa fb : FE} {pos p2 : Pos}
theorem pt_none : PO X none (tPt T e0 E fun _ w => .ok none w) := PO.imp po_none fun σ H Q ⟨φ, G, ρ, w, st, p⟩ => p none φ G H (Evo.refl _ _ _) st.world rfl
def asPart : Dt → Option (Option Int)
  | .int i => some (some i)
  | _ => none
theorem pt_some (ha : PE X a (tEx T e0 E fa)) : PO X (some a) (tPt T e0 E fun ρ w => (fa ρ w).bind fun x w => .of (asPart x) w) := by
  refine PO.imp (po_some ha) fun σ H Q ⟨φ, G, ρ, w, st, p⟩ => ?_
  refine ⟨φ, G, ρ, w, st, p.bind fun dx w1 x φ1 G1 H1 e1 W1 r1 p1 => ?_⟩
  obtain ⟨d, e, p3⟩ := p1.ok_of
  unfold asPart at e
  split at e
  · cases e
    exact ⟨_, rv_int.mp r1, p3 _ φ1 G1 H1 (Evo.refl _ _ _) W1 rfl⟩
  · cases e
theorem pd_sl {lo hi : Option Expr} {fl fh : Mn.Env → Mn.W → Mn.Res (Option Int)} (ha : PE X a (tEx T e0 E fa)) (hl : PO X lo (tPt T e0 E fl)) (hh : PO X hi (tPt T e0 E fh)) (hK : X.K = T.K) :
    PE X (.Subscript a (.Slice lo hi none p2) pos) (tEx T e0 E fun ρ w => (fa ρ w).bind fun x w => (fl ρ w).bind fun l w => (fh ρ w).bind fun h w => .of (Mn.slice x l h) w) := by
  refine PE.imp (pe_slice slR ha hl hh) fun σ H Q ⟨φ, G, ρ, w, st, p⟩ => ?_
  refine ⟨φ, G, ρ, w, st, p.bind fun dx w1 x φ1 G1 H1 e1 W1 r1 p1 => ?_⟩
  refine ⟨φ1, G1, ρ, w1, st.step e1 W1, p1.bind fun l w2 l' φ2 G2 H2 e2 W2 r2 p2 => ?_⟩
  refine ⟨φ2, G2, ρ, w2, (st.step e1 W1).step e2 W2, p2.bind fun h w3 h' φ3 G3 H3 e3 W3 r3 p3 => ?_⟩
  cases r2
  cases r3
  obtain ⟨d, e, p4⟩ := p3.ok_of
  rw [hK]
  exact slS φ3 G3 H3 w3 x dx l h d Q W3 ((r1.evo e2).evo e3) e fun v φ' G' H' e' W' r' => p4 v φ' G' H' e' W' r'
end
end Sn
end
section
set_option linter.all false
set_option maxRecDepth 100000
set_option maxHeartbeats 4000000
/-! Expressions by the small language's own terms. -/
namespace Sn
open PySem PySem.Spec PyProof.Rows L2

abbrev PHI := Nat → List Dt → Mn.W → Mn.Res Dt
abbrev VE (T : Sta) (e0 : Snap) (E : XK) (Φ : PHI) (m : Mn.E) : TE := tEx T e0 E (Mn.ev Φ m)
abbrev VA (T : Sta) (e0 : Snap) (E : XK) (Φ : PHI) (m : List Mn.E) : TA := tAr T e0 E (Mn.evs Φ m)
abbrev VT (T : Sta) (e0 : Snap) (E : XK) (Φ : PHI) (m : Mn.E) : TT := tBo T e0 E (tru (Mn.ev Φ m))
/-- what a context must be like -/
structure XOk (T : Sta) (X : Cx) : Prop where
  K : X.K = T.K
  calm : X.calm = true
  units : X.A.units + 64 < cLine
  nd : X.N.Nodup
theorem XOk.blk {T : Sta} {X : Cx} (x : XOk T X) (s : Shared) (H : Hp) (scope : Scope) (cenv : Env) (fp : List Addr) : XOk T (X.blk s H scope cenv fp) := ⟨x.K, x.calm, x.units, x.nd⟩

theorem bind_assoc {α β γ : Type} (r : Mn.Res α) (f : α → Mn.W → Mn.Res β) (g : β → Mn.W → Mn.Res γ) : (r.bind f).bind g = r.bind fun a w => (f a w).bind g := by cases r <;> rfl
theorem of_bind {α β : Type} (o : Option α) (w : Mn.W) (f : α → Mn.W → Mn.Res β) : (Mn.Res.of o w).bind f = match o with | some a => f a w | none => .bad := by cases o <;> rfl
section
variable {T : Sta} {e0 : Snap} {E : XK} {X : Cx} {Φ : PHI} {a b c : Expr} {ma mb mc : Mn.E} {pos p2 : Pos}

theorem e_var {i : Nat} (h : PE X a (tVar i)) : PE X a (VE T e0 E Φ (.var i)) := pd_var h
theorem e_non {j : Nat} : PE X (.Constant .none j pos) (VE T e0 E Φ (.cst .non)) := pd_cst pe_non fun _ _ _ => rv_non.mpr rfl
theorem e_bl {k : Bool} {j : Nat} : PE X (.Constant (.bool k) j pos) (VE T e0 E Φ (.cst (.bl k))) := pd_cst pe_bl fun _ _ _ => rv_bl.mpr rfl
theorem e_int {i : Int} {j : Nat} : PE X (.Constant (.int i) j pos) (VE T e0 E Φ (.cst (.int i))) := pd_cst pe_int fun _ _ _ => rv_int.mpr rfl
/-- a text that a machine can hold -/
def okS (s : List Nat) : Bool := decide (s.length ≤ 1000000) && s.all fun c => decide (c < 1114112)
theorem okS_of {s : List Nat} (h : okS s = true) : OkS s := by
  unfold okS at h
  simp only [Bool.and_eq_true, decide_eq_true_eq, List.all_eq_true] at h
  exact OkS.small h.1 h.2
theorem e_str {z : Str} {s : List Nat} {j : Nat} (hz : z.cps.toList = s) (hs : okS s = true) : PE X (.Constant (.str z) j pos) (VE T e0 E Φ (.cst (.str s))) := by
  refine pd_cst pe_str fun _ _ _ => rv_str.mpr ⟨?_, okS_of hs⟩
  subst hz
  congr 1
theorem e_glob {x : Str} {s : List Nat} {z : Str} {t : Tok} (hg : Gl X x) (hm : X.mg x = some (.str z t)) (hz : z.cps.toList = s) (hs : okS s = true) (hd : (x == ("__debug__" : Str)) = false := by decide) : PE X (.Name x pos) (VE T e0 E Φ (.cst (.str s))) := by
  refine pd_cst (pe_glob (v := .str z) hg hm ⟨t, rfl⟩ hd) fun _ _ _ => rv_str.mpr ⟨?_, okS_of hs⟩
  subst hz
  congr 1
theorem e_fn {x : Str} {n : Nat} (hg : Gl X x) (hm : X.mg x = some (.ref (T.fa n))) (hf : T.fn n = true) (hd : (x == ("__debug__" : Str)) = false := by decide) : PE X (.Name x pos) (VE T e0 E Φ (.fn n)) :=
  pd_cst (pe_glob (v := .ref (T.fa n)) hg hm rfl hd) fun _ _ _ => rv_fn.mpr ⟨hf, rfl⟩

theorem a_nil : PA X [] (VA T e0 E Φ []) := pd_nil
theorem a_cons {es : List Expr} {ms : List Mn.E} (he : PE X a (VE T e0 E Φ ma)) (hr : PA X es (VA T e0 E Φ ms)) (hs : starEach (a :: es) X.env = (false, eval a X.env) :: starEach es X.env := by rfl) : PA X (a :: es) (VA T e0 E Φ (ma :: ms)) := pd_cons he hr hs
theorem evs_len : ∀ (ms : List Mn.E) (ρ : Mn.Env) (w : Mn.W) (l : List Dt) (w' : Mn.W), Mn.evs Φ ms ρ w = .ok l w' → l.length = ms.length
  | [], ρ, w, l, w', h => by simp only [Mn.evs, Mn.Res.ok.injEq] at h; rw [← h.1]; rfl
  | m :: ms, ρ, w, l, w', h => by
    simp only [Mn.evs] at h
    cases q : Mn.ev Φ m ρ w with
    | bad => rw [q] at h; cases h
    | exc c w1 => rw [q] at h; cases h
    | ok d w1 =>
      rw [q] at h
      simp only [Mn.Res.bind] at h
      cases q2 : Mn.evs Φ ms ρ w1 with
      | bad => rw [q2] at h; cases h
      | exc c w1 => rw [q2] at h; cases h
      | ok l2 w2 =>
        rw [q2] at h
        simp only [Mn.Res.ok.injEq] at h
        rw [← h.1, List.length_cons, List.length_cons, evs_len ms ρ w1 l2 w2 q2]
theorem e_tup {es : List Expr} {ms : List Mn.E} {x1} (h : PA X es (VA T e0 E Φ ms)) (hz : ms.length ≤ 1000 := by decide) : PE X (.Tuple es x1 pos) (VE T e0 E Φ (.tup ms)) :=
  pd_tup h fun ρ w l w' q => by rw [evs_len ms ρ w l w' q]; exact Nat.le_trans hz (by decide)
theorem e_lst {es : List Expr} {ms : List Mn.E} (h : PA X es (VA T e0 E Φ ms)) (hz : ms.length ≤ 1000 := by decide) : PE X (.List es pos) (VE T e0 E Φ (.lst ms)) :=
  pd_lst h fun ρ w l w' q => by rw [evs_len ms ρ w l w' q]; exact Nat.le_trans hz (by decide)
variable (x : XOk T X)
include x
theorem e_add (ha : PE X a (VE T e0 E Φ ma)) (hb : PE X b (VE T e0 E Φ mb)) : PE X (.BinOp a .Add b pos) (VE T e0 E Φ (.bin .add ma mb)) :=
  pd_bin (opR_add (X := X)) (by rw [x.K]; exact opS_add) ha hb
theorem e_sub (ha : PE X a (VE T e0 E Φ ma)) (hb : PE X b (VE T e0 E Φ mb)) : PE X (.BinOp a .Sub b pos) (VE T e0 E Φ (.bin .sub ma mb)) :=
  pd_bin (op_sub (X := X)) opS_sub ha hb
theorem e_mul (ha : PE X a (VE T e0 E Φ ma)) (hb : PE X b (VE T e0 E Φ mb)) : PE X (.BinOp a .Mult b pos) (VE T e0 E Φ (.bin .mul ma mb)) :=
  pd_bin (opR_mul (X := X)) (by rw [x.K]; exact opS_mul) ha hb
theorem e_mod (ha : PE X a (VE T e0 E Φ ma)) (hb : PE X b (VE T e0 E Φ mb)) : PE X (.BinOp a .Mod b pos) (VE T e0 E Φ (.bin .mod ma mb)) :=
  pd_bin (op_mod (X := X)) opS_mod ha hb
omit x in
theorem e_neg (ha : PE X a (VE T e0 E Φ ma)) : PE X (.UnaryOp .USub a pos) (VE T e0 E Φ (.neg ma)) := by
  have h := pd_un (pos := pos) (un_neg (X := X)) unS_neg ha
  have e : (fun ρ w => (Mn.ev Φ ma ρ w).bind fun x w => .of (negD x) w) = Mn.ev Φ (.neg ma) := by
    funext ρ w
    simp only [Mn.ev]
    congr 1
    funext x w
    cases x <;> rfl
  rw [e] at h
  exact h
omit x in
theorem e_not (ha : PE X a (VE T e0 E Φ ma)) : PE X (.UnaryOp .Not a pos) (VE T e0 E Φ (.not ma)) := pd_not ha
theorem e_eq (ha : PE X a (VE T e0 E Φ ma)) (hb : PE X b (VE T e0 E Φ mb)) : PE X (.Compare a [.Eq] [b] pos) (VE T e0 E Φ (.cmp .eq ma mb)) :=
  pd_cmp (op_eqD (X := X) x.units) (by rw [x.K]; exact opS_eq) ha hb (nomark b)
theorem e_ne (ha : PE X a (VE T e0 E Φ ma)) (hb : PE X b (VE T e0 E Φ mb)) : PE X (.Compare a [.NotEq] [b] pos) (VE T e0 E Φ (.cmp .ne ma mb)) :=
  pd_cmp (op_neD (X := X) x.units) (by rw [x.K]; exact opS_ne) ha hb (nomark b)
omit x in
theorem e_lt (ha : PE X a (VE T e0 E Φ ma)) (hb : PE X b (VE T e0 E Φ mb)) : PE X (.Compare a [.Lt] [b] pos) (VE T e0 E Φ (.cmp .lt ma mb)) :=
  pd_cmp (opR_lt (X := X)) opS_lt ha hb (nomark b)
omit x in
theorem e_le (ha : PE X a (VE T e0 E Φ ma)) (hb : PE X b (VE T e0 E Φ mb)) : PE X (.Compare a [.LtE] [b] pos) (VE T e0 E Φ (.cmp .le ma mb)) :=
  pd_cmp (op_le (X := X)) opS_le ha hb (nomark b)
omit x in
theorem e_gt (ha : PE X a (VE T e0 E Φ ma)) (hb : PE X b (VE T e0 E Φ mb)) : PE X (.Compare a [.Gt] [b] pos) (VE T e0 E Φ (.cmp .gt ma mb)) :=
  pd_cmp (op_gt (X := X)) opS_gt ha hb (nomark b)
omit x in
theorem e_ge (ha : PE X a (VE T e0 E Φ ma)) (hb : PE X b (VE T e0 E Φ mb)) : PE X (.Compare a [.GtE] [b] pos) (VE T e0 E Φ (.cmp .ge ma mb)) :=
  pd_cmp (op_ge (X := X)) opS_ge ha hb (nomark b)
theorem e_in (ha : PE X a (VE T e0 E Φ ma)) (hb : PE X b (VE T e0 E Φ mb)) (h1 : behindInMarks .In b = false := by rfl) : PE X (.Compare a [.In] [b] pos) (VE T e0 E Φ (.cmp .isin ma mb)) :=
  pd_cmp (opR_in (X := X) (by have := x.units; omega)) (by rw [x.K]; exact opS_in) ha hb h1
theorem e_nin (ha : PE X a (VE T e0 E Φ ma)) (hb : PE X b (VE T e0 E Φ mb)) (h1 : behindInMarks .NotIn b = false := by rfl) : PE X (.Compare a [.NotIn] [b] pos) (VE T e0 E Φ (.cmp .notin ma mb)) :=
  pd_cmp (opR_notin (X := X) (by have := x.units; omega)) (by rw [x.K]; exact opS_notin) ha hb h1
omit x in
theorem e_isN {j pos'} (ha : PE X a (VE T e0 E Φ ma)) : PE X (.Compare a [.Is] [.Constant .none j pos'] pos) (VE T e0 E Φ (.cmp .isN ma mb)) := pd_isN ha
omit x in
theorem e_notN {j pos'} (ha : PE X a (VE T e0 E Φ ma)) : PE X (.Compare a [.IsNot] [.Constant .none j pos'] pos) (VE T e0 E Φ (.cmp .notN ma mb)) := pd_notN ha
theorem e_ix (ha : PE X a (VE T e0 E Φ ma)) (hb : PE X b (VE T e0 E Φ mb)) (hp : PlainIx b) : PE X (.Subscript a b pos) (VE T e0 E Φ (.ix ma mb)) :=
  pd_ix (ixR (X := X) (by have := x.units; omega)) (by rw [x.K]; exact opS_ix) ha hb hp
omit x in
theorem p_some (ha : PE X a (VE T e0 E Φ ma)) : PO X (some a) (tPt T e0 E fun ρ w => (Mn.evs Φ [ma] ρ w).bind fun l w => .of (Mn.part l) w) := by
  have h := pt_some ha
  have e : (fun ρ w => (Mn.ev Φ ma ρ w).bind fun x w => Mn.Res.of (asPart x) w) = fun ρ w => (Mn.evs Φ [ma] ρ w).bind fun l w => .of (Mn.part l) w := by
    funext ρ w
    simp only [Mn.evs]
    cases Mn.ev Φ ma ρ w with
    | ok d w1 =>
      simp only [Mn.Res.bind]
      cases d <;> rfl
    | exc => rfl
    | bad => rfl
  rw [e] at h
  exact h
omit x in
theorem p_none : PO X none (tPt T e0 E fun ρ w => (Mn.evs Φ [] ρ w).bind fun l w => .of (Mn.part l) w) := pt_none
theorem e_sl {lo hi : Option Expr} {ml mh : List Mn.E} (ha : PE X a (VE T e0 E Φ ma)) (hl : PO X lo (tPt T e0 E fun ρ w => (Mn.evs Φ ml ρ w).bind fun l w => .of (Mn.part l) w)) (hh : PO X hi (tPt T e0 E fun ρ w => (Mn.evs Φ mh ρ w).bind fun l w => .of (Mn.part l) w)) :
    PE X (.Subscript a (.Slice lo hi none p2) pos) (VE T e0 E Φ (.sl ma ml mh)) :=
  pd_sl (pos := pos) (p2 := p2) ha hl hh x.K
end
end Sn
end
section
set_option linter.all false
set_option maxRecDepth 100000
set_option maxHeartbeats 4000000
/-! and, or, chains, tests, calls. -/
namespace Sn
open PySem PySem.Spec PyProof.Rows L2
section
variable {T : Sta} {e0 : Snap} {E : XK} {X : Cx} {Φ : PHI} {a b c : Expr} {es rest : List Expr} {ma mb mc : Mn.E} {ms mrest : List Mn.E} {pos p2 : Pos}

abbrev VAnd (T : Sta) (e0 : Snap) (E : XK) (Φ : PHI) (m : List Mn.E) : TE := tEx T e0 E (Mn.evAnd Φ m)
abbrev VOr (T : Sta) (e0 : Snap) (E : XK) (Φ : PHI) (m : List Mn.E) : TE := tEx T e0 E (Mn.evOr Φ m)
abbrev VAndT (T : Sta) (e0 : Snap) (E : XK) (Φ : PHI) (m : List Mn.E) : TT := tBo T e0 E (tru (Mn.evAnd Φ m))
abbrev VOrT (T : Sta) (e0 : Snap) (E : XK) (Φ : PHI) (m : List Mn.E) : TT := tBo T e0 E (tru (Mn.evOr Φ m))
/-! values -/
theorem and_one (h : PE X a (VE T e0 E Φ ma)) : PE X (.BoolOp .And [a] pos) (VAnd T e0 E Φ [ma]) := pe_one h
theorem or_one (h : PE X a (VE T e0 E Φ ma)) : PE X (.BoolOp .Or [a] pos) (VOr T e0 E Φ [ma]) := pe_one h
theorem and_cons (ha : PE X a (VE T e0 E Φ ma)) (hb : PE X (.BoolOp .And (b :: rest) pos) (VAnd T e0 E Φ (mb :: mrest))) : PE X (.BoolOp .And (a :: b :: rest) pos) (VAnd T e0 E Φ (ma :: mb :: mrest)) := by
  refine PE.imp (pe_and ha hb) fun σ H Q ⟨φ, G, ρ, w, st, p⟩ => ?_
  simp only [Mn.evAnd] at p
  refine ⟨φ, G, ρ, w, st, p.bind fun dx w1 x φ1 G1 H1 e1 W1 r1 p1 => ?_⟩
  cases q : Mn.truth dx with
  | none => rw [q] at p1; exact p1.elim
  | some k =>
    rw [q] at p1
    have := tru_bl q
    subst this
    refine ⟨k, rv_bl.mp r1, ?_⟩
    cases k with
    | true => exact ⟨φ1, G1, ρ, w1, st.step e1 W1, p1⟩
    | false => exact p1 _ φ1 G1 H1 (Evo.refl _ _ _) W1 (rv_bl.mpr rfl)
theorem or_cons (ha : PE X a (VE T e0 E Φ ma)) (hb : PE X (.BoolOp .Or (b :: rest) pos) (VOr T e0 E Φ (mb :: mrest))) : PE X (.BoolOp .Or (a :: b :: rest) pos) (VOr T e0 E Φ (ma :: mb :: mrest)) := by
  refine PE.imp (pe_or ha hb) fun σ H Q ⟨φ, G, ρ, w, st, p⟩ => ?_
  simp only [Mn.evOr] at p
  refine ⟨φ, G, ρ, w, st, p.bind fun dx w1 x φ1 G1 H1 e1 W1 r1 p1 => ?_⟩
  cases q : Mn.truth dx with
  | none => rw [q] at p1; exact p1.elim
  | some k =>
    rw [q] at p1
    have := tru_bl q
    subst this
    refine ⟨k, rv_bl.mp r1, ?_⟩
    cases k with
    | false => exact ⟨φ1, G1, ρ, w1, st.step e1 W1, p1⟩
    | true => exact p1 _ φ1 G1 H1 (Evo.refl _ _ _) W1 (rv_bl.mpr rfl)
theorem e_and (h : PE X (.BoolOp .And es pos) (VAnd T e0 E Φ ms)) : PE X (.BoolOp .And es pos) (VE T e0 E Φ (.and ms)) := h
theorem e_or (h : PE X (.BoolOp .Or es pos) (VOr T e0 E Φ ms)) : PE X (.BoolOp .Or es pos) (VE T e0 E Φ (.or ms)) := h
/-! tests -/
/-- a step of a test -/
theorem tru_if {f : FE} {g : Mn.Env → Mn.W → Mn.Res Dt} {b : Bool} (ρ : Mn.Env) (w : Mn.W) : tru (fun ρ w => (f ρ w).bind fun x w => match Mn.truth x with | some k => if k = b then g ρ w else .ok (.bl (!b)) w | none => .bad) ρ w =
    (tru f ρ w).bind fun k w => if k = b then tru g ρ w else .ok (!b) w := by
  simp only [tru]
  cases f ρ w with
  | bad => rfl
  | exc => rfl
  | ok d w1 =>
    simp only [Mn.Res.bind]
    cases Mn.truth d with
    | none => rfl
    | some k =>
      simp only [Mn.Res.of]
      by_cases h : k = b
      · simp only [h, if_true]
        try cases g ρ w1 <;> rfl
      · simp only [h, if_false]
        try rfl
theorem evAnd_eq : Mn.evAnd Φ (ma :: mb :: mrest) = fun ρ w => (Mn.ev Φ ma ρ w).bind fun x w => match Mn.truth x with | some k => if k = true then Mn.evAnd Φ (mb :: mrest) ρ w else .ok (.bl (!true)) w | none => .bad := by
  funext ρ w
  simp only [Mn.evAnd]
  congr 1
  funext x w
  cases Mn.truth x with
  | none => rfl
  | some k => cases k <;> rfl
theorem evOr_eq : Mn.evOr Φ (ma :: mb :: mrest) = fun ρ w => (Mn.ev Φ ma ρ w).bind fun x w => match Mn.truth x with | some k => if k = false then Mn.evOr Φ (mb :: mrest) ρ w else .ok (.bl (!false)) w | none => .bad := by
  funext ρ w
  simp only [Mn.evOr]
  congr 1
  funext x w
  cases Mn.truth x with
  | none => rfl
  | some k => cases k <;> rfl
theorem t_and1 (h : PT X a (VT T e0 E Φ ma)) : PW X (.BoolOp .And [a] pos) (VAndT T e0 E Φ [ma]) := pw_and1 h
theorem t_or1 (h : PT X a (VT T e0 E Φ ma)) : PW X (.BoolOp .Or [a] pos) (VOrT T e0 E Φ [ma]) := pw_or1 h
theorem t_andC (ha : PT X a (VT T e0 E Φ ma)) (hb : PW X (.BoolOp .And (b :: rest) pos) (VAndT T e0 E Φ (mb :: mrest))) : PW X (.BoolOp .And (a :: b :: rest) pos) (VAndT T e0 E Φ (ma :: mb :: mrest)) := by
  refine PW.imp (pw_and ha hb) fun σ H Q ⟨φ, G, ρ, w, st, p⟩ => ?_
  rw [evAnd_eq, tru_if (g := Mn.evAnd Φ (mb :: mrest))] at p
  refine ⟨φ, G, ρ, w, st, p.bind fun k w1 k' φ1 G1 H1 e1 W1 r1 p1 => ?_⟩
  cases r1
  cases k with
  | true => exact ⟨φ1, G1, ρ, w1, st.step e1 W1, p1⟩
  | false => exact p1 _ φ1 G1 H1 (Evo.refl _ _ _) W1 rfl
theorem t_orC (ha : PT X a (VT T e0 E Φ ma)) (hb : PW X (.BoolOp .Or (b :: rest) pos) (VOrT T e0 E Φ (mb :: mrest))) : PW X (.BoolOp .Or (a :: b :: rest) pos) (VOrT T e0 E Φ (ma :: mb :: mrest)) := by
  refine PW.imp (pw_or ha hb) fun σ H Q ⟨φ, G, ρ, w, st, p⟩ => ?_
  rw [evOr_eq, tru_if (g := Mn.evOr Φ (mb :: mrest))] at p
  refine ⟨φ, G, ρ, w, st, p.bind fun k w1 k' φ1 G1 H1 e1 W1 r1 p1 => ?_⟩
  cases r1
  cases k with
  | false => exact ⟨φ1, G1, ρ, w1, st.step e1 W1, p1⟩
  | true => exact p1 _ φ1 G1 H1 (Evo.refl _ _ _) W1 rfl
theorem t_and (h : PW X (.BoolOp .And es pos) (VAndT T e0 E Φ ms)) : PT X (.BoolOp .And es pos) (VT T e0 E Φ (.and ms)) := PW.pt h
theorem t_or (h : PW X (.BoolOp .Or es pos) (VOrT T e0 E Φ ms)) : PT X (.BoolOp .Or es pos) (VT T e0 E Φ (.or ms)) := PW.pt h
theorem t_not (h : PT X a (VT T e0 E Φ ma)) : PT X (.UnaryOp .Not a pos) (VT T e0 E Φ (.not ma)) := by
  refine PT.imp (pd_notT h) fun σ H Q ⟨φ, G, ρ, w, st, p⟩ => ⟨φ, G, ρ, w, st, ?_⟩
  have e : tru (Mn.ev Φ (.not ma)) ρ w = (tru (Mn.ev Φ ma) ρ w).bind fun b w => .ok (!b) w := by
    simp only [tru]
    simp only [Mn.ev]
    cases Mn.ev Φ ma ρ w with
    | bad => rfl
    | exc => rfl
    | ok d w1 =>
      simp only [Mn.Res.bind]
      cases Mn.truth d <;> rfl
  rw [e] at p
  exact p
theorem t_val (h : PE X a (VE T e0 E Φ ma)) (he : ∀ whole, isTrue a X.env whole = (do let v ← whole; standAt a.pos; holding [v] (truthy v)) := by intro _; rfl) : PT X a (VT T e0 E Φ ma) := pd_val h he
theorem e_ite (hc : PT X c (VT T e0 E Φ mc)) (ha : PE X a (VE T e0 E Φ ma)) (hb : PE X b (VE T e0 E Φ mb)) : PE X (.IfExp c a b pos) (VE T e0 E Φ (.ite mc ma mb)) := by
  refine PE.imp (pd_ite hc ha hb) fun σ H Q ⟨φ, G, ρ, w, st, p⟩ => ⟨φ, G, ρ, w, st, ?_⟩
  have e : Mn.ev Φ (.ite mc ma mb) ρ w = (tru (Mn.ev Φ mc) ρ w).bind fun k w => if k = true then Mn.ev Φ ma ρ w else Mn.ev Φ mb ρ w := by
    simp only [tru]
    simp only [Mn.ev]
    cases Mn.ev Φ mc ρ w with
    | bad => rfl
    | exc => rfl
    | ok d w1 =>
      simp only [Mn.Res.bind]
      cases Mn.truth d with
      | none => rfl
      | some k => cases k <;> rfl
  rw [e] at p
  exact p
/-! comparisons as tests: by value of a comparison's rule -/
/-- a comparison's value as a test -/
theorem tru_cmp {f1 f2 : FE} {g : Dt → Dt → Option Bool} (ρ : Mn.Env) (w : Mn.W) : tru (fun ρ w => (f1 ρ w).bind fun x w => (f2 ρ w).bind fun y w => .of ((g x y).map .bl) w) ρ w = (f1 ρ w).bind fun x w => (f2 ρ w).bind fun y w => .of (g x y) w := by
  simp only [tru]
  cases f1 ρ w with
  | bad => rfl
  | exc => rfl
  | ok d w1 =>
    simp only [Mn.Res.bind]
    cases f2 ρ w1 with
    | bad => rfl
    | exc => rfl
    | ok d w1 =>
      simp only
      cases g _ d <;> rfl
theorem cmpT_ {op : CmpOp} {o : Mn.COp} {r : R2} (ho : OpR X (compareOp op) r) (hs : OpS T r fun x y => (Mn.cmpop o x y).map .bl) (hne : o ≠ .isN ∧ o ≠ .notN) (ha : PE X a (VE T e0 E Φ ma)) (hb : PE X b (VE T e0 E Φ mb)) (h1 : behindInMarks op b = false) :
    PT X (.Compare a [op] [b] pos) (VT T e0 E Φ (.cmp o ma mb)) := by
  refine PT.imp (pd_cmpT ho hs ha hb h1) fun σ H Q ⟨φ, G, ρ, w, st, p⟩ => ⟨φ, G, ρ, w, st, ?_⟩
  have e := tru_cmp (f1 := Mn.ev Φ ma) (f2 := Mn.ev Φ mb) (g := Mn.cmpop o) ρ w
  show Post T E RBool φ G H Q ((Mn.ev Φ ma ρ w).bind fun x w => (Mn.ev Φ mb ρ w).bind fun y w => .of (Mn.cmpop o x y) w)
  rw [← e]
  cases o <;> first | exact p | exact absurd rfl hne.1 | exact absurd rfl hne.2
section
variable (x : XOk T X)
include x
theorem t_eq (ha : PE X a (VE T e0 E Φ ma)) (hb : PE X b (VE T e0 E Φ mb)) : PT X (.Compare a [.Eq] [b] pos) (VT T e0 E Φ (.cmp .eq ma mb)) :=
  cmpT_ (op_eqD (X := X) x.units) (by rw [x.K]; exact opS_eq) (by decide) ha hb (nomark b)
theorem t_ne (ha : PE X a (VE T e0 E Φ ma)) (hb : PE X b (VE T e0 E Φ mb)) : PT X (.Compare a [.NotEq] [b] pos) (VT T e0 E Φ (.cmp .ne ma mb)) :=
  cmpT_ (op_neD (X := X) x.units) (by rw [x.K]; exact opS_ne) (by decide) ha hb (nomark b)
omit x in
theorem t_lt (ha : PE X a (VE T e0 E Φ ma)) (hb : PE X b (VE T e0 E Φ mb)) : PT X (.Compare a [.Lt] [b] pos) (VT T e0 E Φ (.cmp .lt ma mb)) :=
  cmpT_ (opR_lt (X := X)) opS_lt (by decide) ha hb (nomark b)
omit x in
theorem t_le (ha : PE X a (VE T e0 E Φ ma)) (hb : PE X b (VE T e0 E Φ mb)) : PT X (.Compare a [.LtE] [b] pos) (VT T e0 E Φ (.cmp .le ma mb)) :=
  cmpT_ (op_le (X := X)) opS_le (by decide) ha hb (nomark b)
omit x in
theorem t_gt (ha : PE X a (VE T e0 E Φ ma)) (hb : PE X b (VE T e0 E Φ mb)) : PT X (.Compare a [.Gt] [b] pos) (VT T e0 E Φ (.cmp .gt ma mb)) :=
  cmpT_ (op_gt (X := X)) opS_gt (by decide) ha hb (nomark b)
omit x in
theorem t_ge (ha : PE X a (VE T e0 E Φ ma)) (hb : PE X b (VE T e0 E Φ mb)) : PT X (.Compare a [.GtE] [b] pos) (VT T e0 E Φ (.cmp .ge ma mb)) :=
  cmpT_ (op_ge (X := X)) opS_ge (by decide) ha hb (nomark b)
theorem t_in (ha : PE X a (VE T e0 E Φ ma)) (hb : PE X b (VE T e0 E Φ mb)) (h1 : behindInMarks .In b = false := by rfl) : PT X (.Compare a [.In] [b] pos) (VT T e0 E Φ (.cmp .isin ma mb)) :=
  cmpT_ (opR_in (X := X) (by have := x.units; omega)) (by rw [x.K]; exact opS_in) (by decide) ha hb h1
theorem t_nin (ha : PE X a (VE T e0 E Φ ma)) (hb : PE X b (VE T e0 E Φ mb)) (h1 : behindInMarks .NotIn b = false := by rfl) : PT X (.Compare a [.NotIn] [b] pos) (VT T e0 E Φ (.cmp .notin ma mb)) :=
  cmpT_ (opR_notin (X := X) (by have := x.units; omega)) (by rw [x.K]; exact opS_notin) (by decide) ha hb h1
omit x in
theorem t_isN {j pos'} (ha : PE X a (VE T e0 E Φ ma)) : PT X (.Compare a [.Is] [.Constant .none j pos'] pos) (VT T e0 E Φ (.cmp .isN ma mb)) := by
  refine PT.imp (pd_isNT ha) fun σ H Q ⟨φ, G, ρ, w, st, p⟩ => ⟨φ, G, ρ, w, st, ?_⟩
  have e : tru (Mn.ev Φ (.cmp .isN ma mb)) ρ w = (Mn.ev Φ ma ρ w).bind fun x w => .ok (Mn.isNone x) w := by
    simp only [tru]
    simp only [Mn.ev]
    cases Mn.ev Φ ma ρ w <;> rfl
  rw [e] at p; exact p
omit x in
theorem t_notN {j pos'} (ha : PE X a (VE T e0 E Φ ma)) : PT X (.Compare a [.IsNot] [.Constant .none j pos'] pos) (VT T e0 E Φ (.cmp .notN ma mb)) := by
  refine PT.imp (pd_notNT ha) fun σ H Q ⟨φ, G, ρ, w, st, p⟩ => ⟨φ, G, ρ, w, st, ?_⟩
  have e : tru (Mn.ev Φ (.cmp .notN ma mb)) ρ w = (Mn.ev Φ ma ρ w).bind fun x w => .ok (!Mn.isNone x) w := by
    simp only [tru]
    simp only [Mn.ev]
    cases Mn.ev Φ ma ρ w <;> rfl
  rw [e] at p; exact p
omit x in
theorem of_tru {f : FE} {φ : List (List Addr)} {G H : Hp} {ρ : Mn.Env} {w : Mn.W} {Q : Bool → Hp → Prop} (p : Post T E RBool φ G H Q (tru f ρ w)) : Post T E (RepV T) φ G H (fun v H' => ∃ k, v = .bl k ∧ Q k H') (f ρ w) := by
  unfold tru at p
  cases q : f ρ w with
  | bad => rw [q] at p; exact p
  | exc c w1 => rw [q] at p; exact p
  | ok d w1 =>
    rw [q] at p
    intro v φ1 G1 H1 e1 W1 r1
    simp only [Mn.Res.bind] at p
    cases z : Mn.truth d with
    | none => rw [z] at p; exact p.elim
    | some k =>
      rw [z] at p
      have := tru_bl z
      subst this
      exact ⟨k, rv_bl.mp r1, p k φ1 G1 H1 e1 W1 rfl⟩
omit x in
/-- a <= b <= c -/
theorem chainLE_read {σ : L2.St} {H : Hp} {Q : VK} (h : VE T e0 E Φ (.chain .le .le ma mb mc) σ H Q) : tChain (rI0 fun i j => .bl (decide (i ≤ j))) (rI0 fun i j => .bl (decide (i ≤ j))) (VE T e0 E Φ ma) (VE T e0 E Φ mb) (VE T e0 E Φ mc) σ H Q := by
  obtain ⟨φ, G, ρ, w, st, p⟩ := h
  simp only [Mn.ev] at p
  refine ⟨φ, G, ρ, w, st, p.bind fun dx w1 x φ1 G1 H1 e1 W1 r1 p1 => ?_⟩
  refine ⟨φ1, G1, ρ, w1, st.step e1 W1, p1.bind fun dy w2 y φ2 G2 H2 e2 W2 r2 p2 => ?_⟩
  cases q : Mn.cmpop .le dx dy with
  | none => rw [q] at p2; exact p2.elim
  | some k =>
    rw [q] at p2
    refine opS_le φ2 G2 H2 w2 x y dx dy (.bl k) _ W2 (r1.evo e2) r2 (by simp only; rw [q]; rfl) fun v φ3 G3 H3 e3 W3 r3 => ?_
    refine ⟨k, rv_bl.mp r3, ?_⟩
    cases k with
    | false => exact p2 _ φ3 G3 H3 e3 W3 (rv_bl.mpr rfl)
    | true =>
      refine ⟨φ3, G3, ρ, w2, ((st.step e1 W1).step e2 W2).step e3 W3, (Post.evo e3 p2).bind fun dz w4 z φ4 G4 H4 e4 W4 r4 p4 => ?_⟩
      obtain ⟨d, e, p5⟩ := p4.ok_of
      exact opS_le φ4 G4 H4 w4 y z dy dz d Q W4 ((r2.evo e3).evo e4) r4 e fun v φ' G' H' e' W' r' => p5 v φ' G' H' e' W' r'
omit x in
theorem e_chainLE (ha : PE X a (VE T e0 E Φ ma)) (hb : PE X b (VE T e0 E Φ mb)) (hc : PE X c (VE T e0 E Φ mc)) (hm : lastMarks [.LtE, .LtE] [b, c] = false := by with_unfolding_all rfl) :
    PE X (.Compare a [.LtE, .LtE] [b, c] pos) (VE T e0 E Φ (.chain .le .le ma mb mc)) :=
  PE.imp (pe_chain (op_le (X := X)) (op_le (X := X)) ha hb hc hm) fun σ H Q h => chainLE_read h
omit x in
theorem t_chainLE (ha : PE X a (VE T e0 E Φ ma)) (hb : PE X b (VE T e0 E Φ mb)) (hc : PE X c (VE T e0 E Φ mc)) (hm : lastMarks [.LtE, .LtE] [b, c] = false := by with_unfolding_all rfl) :
    PT X (.Compare a [.LtE, .LtE] [b, c] pos) (VT T e0 E Φ (.chain .le .le ma mb mc)) :=
  PT.imp (pt_chain (op_le (X := X)) (op_le (X := X)) ha hb hc hm) fun σ H Q ⟨φ, G, ρ, w, st, p⟩ => chainLE_read ⟨φ, G, ρ, w, st, of_tru p⟩
end
end
end Sn
end
section
set_option linter.all false
set_option maxRecDepth 100000
set_option maxHeartbeats 4000000
/-! Calls of defs, of built-ins. -/
namespace Sn
open PySem PySem.Spec PyProof.Rows L2

/-- what a def promises: it does as Φ says of its number -/
def spD (T : Sta) (Φ : PHI) (np n : Nat) : Sp := fun vs H Q E => vs.length = np ∧ ∃ φ G w ds, World T φ G H w ∧ Reps T φ G ds vs ∧ ds.any Mn.isOwn = false ∧ Post T E (RepV T) φ G H Q (Φ n ds w)
section
variable {T : Sta} {e0 : Snap} {E : XK} {X : Cx} {Φ : PHI} {a b c : Expr} {es rest : List Expr} {ma mb mc : Mn.E} {ms mrest : List Mn.E} {pos p2 p : Pos} {CX : CXT} {k : Nat} {f : Addr} {fd : FuncData} {ps : List Str}

theorem e_call {x : Str} {n np : Nat} (F : FnOk X.prog X.w X.K X.mg X.base CX k f fd ps (spD T Φ np n)) (hr : Room k X.A) (hg : Gl X x) (hm : X.mg x = some (.ref f)) (hk : PySem.W.keepIn X.K (.ref f) = true) (hb : Binds X.K fd ps []) (hx : Passes CX X E)
    (ha : PA X (a :: es) (VA T e0 E Φ ms)) (hn : ms.length = np := by rfl) (hdb : (x == ("__debug__" : Str)) = false := by decide) (he : starEach (a :: es) X.env = (false, eval a X.env) :: starEach es X.env := by rfl) (hpl : (backTo pos (starEach es X.env)).any (·.1) = false := by rfl) :
    PE X (.Call (.Name x p) (a :: es) [] pos) (VE T e0 E Φ (.call n ms)) := by
  refine PE.imp (pe_call F hr hg hm hk hb .nil hx ha hdb he hpl) fun σ H Q ⟨φ, G, ρ, w, st, p⟩ => ?_
  simp only [Mn.ev] at p
  cases hf : Mn.evs Φ ms ρ w with
  | bad => rw [hf] at p; exact p.elim
  | exc c w1 => refine ⟨φ, G, ρ, w, st, ?_⟩; rw [hf] at p ⊢; exact p
  | ok l w1 =>
    refine ⟨φ, G, ρ, w, st, ?_⟩
    rw [hf] at p ⊢
    refine fun xs φ1 G1 H1 e1 W1 r1 => ?_
    have p1 := Post.evo e1 (show Post T E (RepV T) φ G H Q (if l.any Mn.isOwn then .bad else Φ n l w1) from p)
    cases ho : l.any Mn.isOwn with
    | true => rw [ho] at p1; exact p1.elim
    | false =>
      rw [ho] at p1
      have rs := r1.reps ho
      refine ⟨?_, φ1, G1, w1, l, W1, by rw [List.append_nil]; exact rs, ho, p1⟩
      rw [List.append_nil, rs.length, evs_len ms ρ w l w1 hf, hn]
theorem e_call0 {x : Str} {n : Nat} (F : FnOk X.prog X.w X.K X.mg X.base CX k f fd ps (spD T Φ 0 n)) (hr : Room k X.A) (hg : Gl X x) (hm : X.mg x = some (.ref f)) (hk : PySem.W.keepIn X.K (.ref f) = true) (hb : Binds X.K fd ps []) (hx : Passes CX X E)
    (hdb : (x == ("__debug__" : Str)) = false := by decide) :
    PE X (.Call (.Name x p) [] [] pos) (VE T e0 E Φ (.call n [])) := by
  refine PE.imp (pe_call0 F hr hg hm hk hb .nil hx hdb) fun σ H Q ⟨φ, G, ρ, w, st, p⟩ => ?_
  exact ⟨rfl, φ, G, w, [], st.world, Reps.nil, rfl, p⟩

/-! ### built-in calls -/
theorem pd_blt {r : List V → Hp → VK → Prop} {B : Mn.B} {e : Expr} (hs : CallS T r (Mn.blt B)) (h : PE X e (tCB r (VA T e0 E Φ ms))) : PE X e (VE T e0 E Φ (.blt B ms)) := by
  refine PE.imp h fun σ H Q ⟨φ, G, ρ, w, st, p⟩ => ?_
  simp only [Mn.ev] at p
  refine ⟨φ, G, ρ, w, st, p.bind fun ds w1 xs φ1 G1 H1 e1 W1 r1 p1 => ?_⟩
  obtain ⟨d, e, p2⟩ := p1.ok_of
  exact hs φ1 G1 H1 w1 xs ds d Q W1 r1 e fun v φ' G' H' e' W' r' => p2 v φ' G' H' e' W' r'
theorem RepVs.one {φ : List (List Addr)} {G H : Hp} {d : Dt} {xs : List V} (h : RepVs T φ G H [d] xs) : ∃ v, xs = [v] ∧ RepV T φ G H d v := by
  obtain ⟨v, r, e1, h1, h2⟩ := h
  cases h2
  exact ⟨v, e1, h1⟩
theorem RepVs.two {φ : List (List Addr)} {G H : Hp} {d d2 : Dt} {xs : List V} (h : RepVs T φ G H [d, d2] xs) : ∃ v v2, xs = [v, v2] ∧ RepV T φ G H d v ∧ RepV T φ G H d2 v2 := by
  obtain ⟨v, r, e1, h1, h2⟩ := h
  obtain ⟨v2, rfl, h3⟩ := h2.one
  exact ⟨v, v2, e1, h1, h3⟩
theorem seq_len {φ : List (List Addr)} {G H : Hp} {w : Mn.W} {d : Dt} {v : V} (W : World T φ G H w) (r : RepV T φ G H d v) {n : Nat} (e : Mn.lenD d = some n) : LenV T.K v H n := by
  unfold Mn.lenD at e
  split at e <;> cases e
  · obtain ⟨rfl, ok⟩ := rv_str.mp r
    exact ⟨by rw [mkS_len]; exact ok.1, by rw [mkS_len]⟩
  · obtain ⟨a, vs, rfl, hq, r⟩ := rv_tup.mp r
    exact .inr ⟨vs, SqT.of (W.tup hq), r.length.symm⟩
  · obtain ⟨a, vs, rfl, hq, r⟩ := rv_lst.mp r
    exact .inl ⟨vs, SqL.of (W.lst hq), r.length.symm⟩
  · obtain ⟨a, vs, rfl, hq, _, _, r⟩ := r
    exact .inl ⟨vs, SqL.of hq, r.length.symm⟩
theorem callS_len : CallS T (fun xs H Q => ∃ x n, xs = [x] ∧ LenV T.K x H n ∧ Q (.int n) H) (Mn.blt .len) := by
  intro φ G H w xs ds d Q W r e k
  replace e : Mn.bLen ds = some d := e
  unfold Mn.bLen at e
  split at e
  · obtain ⟨v, rfl, rv⟩ := r.one
    obtain ⟨n, h1, rfl⟩ := Option.map_eq_some_iff.mp e
    exact ⟨v, _, rfl, seq_len W rv h1, Ends'.here k W (rv_int.mpr rfl)⟩
  · cases e
theorem bls_of {φ : List (List Addr)} {G : Hp} : ∀ {l : List Dt} {vs : List V} {bs : List Bool}, Reps T φ G l vs → Mn.blsOf l = some bs → vs = bs.map V.bl
  | [], _, _, h, e => by cases e; exact h.nil_of
  | d :: l, _, _, h, e => by
    obtain ⟨v, r, rfl, q, t⟩ := h.uncons
    unfold Mn.blsOf at e
    split at e
    · rename_i e0; cases e0
    · rename_i b l' e0
      cases e0
      obtain ⟨bs, e1, rfl⟩ := Option.map_eq_some_iff.mp e
      rw [bls_of t e1]
      unfold Rep at q
      rw [q]; rfl
    · cases e
theorem ints_of {φ : List (List Addr)} {G : Hp} : ∀ {l : List Dt} {vs : List V} {bs : List Int}, Reps T φ G l vs → Mn.intsOf l = some bs → vs = bs.map V.int
  | [], _, _, h, e => by cases e; exact h.nil_of
  | d :: l, _, _, h, e => by
    obtain ⟨v, r, rfl, q, t⟩ := h.uncons
    unfold Mn.intsOf at e
    split at e
    · rename_i e0; cases e0
    · rename_i b l' e0
      cases e0
      obtain ⟨bs, e1, rfl⟩ := Option.map_eq_some_iff.mp e
      rw [ints_of t e1]
      unfold Rep at q
      rw [q]; rfl
    · cases e
theorem strs_of {φ : List (List Addr)} {G : Hp} : ∀ {l : List Dt} {vs : List V} {bs : List (List Nat)}, Reps T φ G l vs → Mn.strsOf l = some bs → vs = bs.map (fun s => V.str (mkS s)) ∧ ∀ s ∈ bs, OkS s
  | [], _, _, h, e => by cases e; exact ⟨h.nil_of, fun s hs => by cases hs⟩
  | d :: l, _, _, h, e => by
    obtain ⟨v, r, rfl, q, t⟩ := h.uncons
    unfold Mn.strsOf at e
    split at e
    · rename_i e0; cases e0
    · rename_i b l' e0
      cases e0
      obtain ⟨bs, e1, rfl⟩ := Option.map_eq_some_iff.mp e
      obtain ⟨h1, h2⟩ := strs_of t e1
      rw [h1]
      unfold Rep at q
      rw [q.1]
      exact ⟨rfl, fun s hs => (List.mem_cons.mp hs).elim (fun z => z ▸ q.2) (h2 s)⟩
    · cases e
theorem callS_all : CallS T (rAll T.K) (Mn.blt .all) := by
  intro φ G H w xs ds d Q W r e k
  replace e : Mn.bAll ds = some d := e
  unfold Mn.bAll at e
  split at e
  · obtain ⟨v, rfl, rv⟩ := r.one
    obtain ⟨l, h1, h2⟩ := Option.bind_eq_some_iff.mp e
    obtain ⟨bs, h3, rfl⟩ := Option.map_eq_some_iff.mp h2
    obtain ⟨a, vs, rfl, hq, r⟩ := rv.lst W h1
    have := bls_of r h3
    subst this
    exact ⟨a, bs, rfl, SqL.of hq, Ends'.here k W (rv_bl.mpr rfl)⟩
  · cases e
theorem callS_list : CallS T (fun xs H Q => ∃ p ys, xs = [.ref p] ∧ (SqL T.K H p ys ∨ SqT T.K H p ys) ∧ ∀ l, H l = none → Q (.ref l) (upd H l (.lst ys))) (Mn.blt .list) := by
  intro φ G H w xs ds d Q W r e k
  replace e : Mn.bList ds = some d := e
  unfold Mn.bList at e
  split at e
  · obtain ⟨v, rfl, rv⟩ := r.one
    obtain ⟨l, h1, rfl⟩ := Option.map_eq_some_iff.mp e
    obtain ⟨a, vs, rfl, hq, r⟩ := rv.seq W h1
    exact ⟨a, vs, rfl, hq.elim (fun z => .inr (SqT.of z)) (fun z => .inl (SqL.of z)), Ends'.lst k W r⟩
  · cases e
theorem callS_tuple : CallS T (fun xs H Q => ∃ p ys, xs = [.ref p] ∧ ((SqL T.K H p ys ∧ ∀ l, H l = none → Q (.ref l) (upd H l (.tup ys))) ∨ (SqT T.K H p ys ∧ Q (.ref p) H))) (Mn.blt .tuple) := by
  intro φ G H w xs ds d Q W r e k
  replace e : Mn.bTuple ds = some d := e
  unfold Mn.bTuple at e
  split at e
  · rename_i dd
    obtain ⟨v, rfl, rv⟩ := r.one
    obtain ⟨l, h1, rfl⟩ := Option.map_eq_some_iff.mp e
    cases dd <;> simp only [Mn.seqOf, Option.some.injEq, reduceCtorEq] at h1
    · subst h1
      obtain ⟨a, vs, rfl, hq, rr⟩ := rv_tup.mp rv
      exact ⟨a, vs, rfl, .inr ⟨SqT.of (W.tup hq), Ends'.here k W rv⟩⟩
    · subst h1
      obtain ⟨a, vs, rfl, hq, rr⟩ := rv_lst.mp rv
      exact ⟨a, vs, rfl, .inl ⟨SqL.of (W.lst hq), Ends'.tup k W rr⟩⟩
    · subst h1
      obtain ⟨a, vs, rfl, hq, _, _, rr⟩ := rv
      exact ⟨a, vs, rfl, .inl ⟨SqL.of hq, Ends'.tup k W rr⟩⟩
  · cases e
/-! isinstance -/
def tyS : Mn.Ty → String
  | .int => "int"
  | .bool => "bool"
  | .str => "str"
  | .tuple => "tuple"
def tyOf : Dt → String
  | .non => "NoneType"
  | .bl _ => "bool"
  | .int _ => "int"
  | .str _ => "str"
  | .tup _ => "tuple"
  | _ => "list"
theorem kit_all : ∀ (d : Dt) (t : Mn.Ty), Mn.isTyOk d = true → kitB (tyOf d) (tyS t) = some (Mn.isTy t d) := by
  have k : ∀ a ∈ ["NoneType", "bool", "int", "str", "tuple", "list"], ∀ b ∈ ["int", "bool", "str", "tuple"], kitB a b = some (decide (a = b) || (decide (a = "bool") && decide (b = "int"))) := by decide +kernel
  intro d t h
  cases d <;> simp [Mn.isTyOk] at h <;> cases t <;> first
    | exact k "NoneType" (by decide) "int" (by decide)
    | exact k "NoneType" (by decide) "bool" (by decide)
    | exact k "NoneType" (by decide) "str" (by decide)
    | exact k "NoneType" (by decide) "tuple" (by decide)
    | exact k "bool" (by decide) "int" (by decide)
    | exact k "bool" (by decide) "bool" (by decide)
    | exact k "bool" (by decide) "str" (by decide)
    | exact k "bool" (by decide) "tuple" (by decide)
    | exact k "int" (by decide) "int" (by decide)
    | exact k "int" (by decide) "bool" (by decide)
    | exact k "int" (by decide) "str" (by decide)
    | exact k "int" (by decide) "tuple" (by decide)
    | exact k "str" (by decide) "int" (by decide)
    | exact k "str" (by decide) "bool" (by decide)
    | exact k "str" (by decide) "str" (by decide)
    | exact k "str" (by decide) "tuple" (by decide)
    | exact k "tuple" (by decide) "int" (by decide)
    | exact k "tuple" (by decide) "bool" (by decide)
    | exact k "tuple" (by decide) "str" (by decide)
    | exact k "tuple" (by decide) "tuple" (by decide)
    | exact k "list" (by decide) "int" (by decide)
    | exact k "list" (by decide) "bool" (by decide)
    | exact k "list" (by decide) "str" (by decide)
    | exact k "list" (by decide) "tuple" (by decide)
theorem ty_of {φ : List (List Addr)} {G H : Hp} {w : Mn.W} {d : Dt} {v : V} (W : World T φ G H w) (r : RepV T φ G H d v) (h : Mn.isTyOk d = true) : TyX T.K H v (.type (tyOf d)) := by
  cases d <;> simp only [Mn.isTyOk, Bool.false_eq_true] at h
  · rw [rv_non.mp r]; exact .base .non
  · rw [rv_bl.mp r]; exact .base (.bl _)
  · rw [rv_int.mp r]; exact .base (.int _)
  · rw [(rv_str.mp r).1]; exact .base (.str _)
  · obtain ⟨a, vs, rfl, hq, rr⟩ := rv_tup.mp r
    exact .base (.tup (W.tup hq))
  · obtain ⟨a, vs, rfl, hq, rr⟩ := rv_lst.mp r
    exact .base (.lst (W.lst hq))
  · obtain ⟨a, vs, rfl, hq, _, _, rr⟩ := r
    exact .base (.lst hq)
theorem e_isi {t : Mn.Ty} {x : Str} (hK : X.K = T.K) (hg : Gl X "isinstance") (hm : X.mg "isinstance" = none) (hv : bootBuiltins "isinstance" = some (.builtin "isinstance")) (ha : PE X a (VE T e0 E Φ ma)) (hgt : Gl X x) (hmt : X.mg x = none) (hvt : bootBuiltins x = some (.type (tyS t)))
    (hn : x ≠ "__name__" := by decide) (hd : (x == ("__debug__" : Str)) = false := by decide) (he : starEach [a, .Name x p2] X.env = (false, eval a X.env) :: starEach [.Name x p2] X.env := by rfl) (hpl : (backTo pos (starEach [.Name x p2] X.env)).any (·.1) = false := by rfl) :
    PE X (.Call (.Name "isinstance" p) [a, .Name x p2] [] pos) (VE T e0 E Φ (.blt (.isi t) [ma])) := by
  have hb : PE X (.Name x p2) (tC (.ty (tyS t))) := pe_bltn hgt hmt hvt rfl hn hd
  refine PE.imp (pe_callB call_isi hg hm hv (pa_cons ha (pa_cons hb pa_nil) he) (by decide) (by decide) he hpl) fun σ H Q ⟨φ, G, ρ, w, st, p⟩ => ?_
  simp only [Mn.ev, Mn.evs, bind_assoc] at p
  refine ⟨φ, G, ρ, w, st, p.bind fun d w1 v φ1 G1 H1 e1 W1 r1 p1 => ?_⟩
  replace p1 : Post T E (RepV T) φ1 G1 H1 Q (Mn.Res.of (Mn.bIsi t [d]) w1) := p1
  obtain ⟨d', e, p2⟩ := p1.ok_of
  replace e : (if Mn.isTyOk d = true then some (Mn.D.bl (Mn.isTy t d)) else none) = some d' := e
  split at e
  · rename_i ho
    cases e
    refine ⟨v, .ty (tyS t), .type (tyOf d), .type (tyS t), Mn.isTy t d, rfl, .ty _, ?_, kit_ty (kit_all d t ho), p2 _ φ1 G1 H1 (Evo.refl _ _ _) W1 (rv_bl.mpr rfl)⟩
    rw [hK]
    exact ty_of W1 r1 ho
  · cases e
section
variable (x : XOk T X)
include x
theorem e_len (hg : Gl X "len") (hm : X.mg "len" = none) (ha : PE X a (VE T e0 E Φ ma)) (he : starEach [a] X.env = (false, eval a X.env) :: starEach [] X.env := by rfl) : PE X (.Call (.Name "len" p) [a] [] pos) (VE T e0 E Φ (.blt .len [ma])) := by
  have h := pe_callB (p := p) (pos := pos) (call_len (X := X)) hg hm (by decide +kernel) (a_cons ha a_nil he) (by decide) (by decide) he rfl
  rw [x.K] at h
  exact pd_blt callS_len h
theorem e_all (hg : Gl X "all") (hm : X.mg "all" = none) (ha : PE X a (VE T e0 E Φ ma)) (he : starEach [a] X.env = (false, eval a X.env) :: starEach [] X.env := by rfl) : PE X (.Call (.Name "all" p) [a] [] pos) (VE T e0 E Φ (.blt .all [ma])) := by
  have h := pe_callB (p := p) (pos := pos) (cr_all (X := X) x.calm) hg hm (by decide +kernel) (a_cons ha a_nil he) (by decide) (by decide) he rfl
  rw [x.K] at h
  exact pd_blt callS_all h
theorem e_list (hg : Gl X "list") (hm : X.mg "list" = none) (ha : PE X a (VE T e0 E Φ ma)) (he : starEach [a] X.env = (false, eval a X.env) :: starEach [] X.env := by rfl) : PE X (.Call (.Name "list" p) [a] [] pos) (VE T e0 E Φ (.blt .list [ma])) := by
  have h := pe_callTy (p := p) (pos := pos) (call_list_of (X := X)) hg hm (by decide +kernel) (a_cons ha a_nil he) (by decide) (by decide) he rfl
  rw [x.K] at h
  exact pd_blt callS_list h
theorem e_tuple (hg : Gl X "tuple") (hm : X.mg "tuple" = none) (ha : PE X a (VE T e0 E Φ ma)) (he : starEach [a] X.env = (false, eval a X.env) :: starEach [] X.env := by rfl) : PE X (.Call (.Name "tuple" p) [a] [] pos) (VE T e0 E Φ (.blt .tuple [ma])) := by
  have h := pe_callTy (p := p) (pos := pos) (call_tuple_of (X := X)) hg hm (by decide +kernel) (a_cons ha a_nil he) (by decide) (by decide) he rfl
  rw [x.K] at h
  exact pd_blt callS_tuple h
end
end
end Sn
end
section
set_option linter.all false
set_option maxRecDepth 100000
set_option maxHeartbeats 4000000
/-! Statements. -/
namespace Sn
open PySem PySem.Spec PyProof.Rows L2

/-- what was known is known -/
def Gro (φ : List (List Addr)) (G : Hp) (φ' : List (List Addr)) (G' : Hp) : Prop := φ <+: φ' ∧ Le G G'
theorem Gro.refl (φ : List (List Addr)) (G : Hp) : Gro φ G φ G := ⟨List.prefix_refl _, Le.refl _⟩
theorem Gro.trans {φ φ1 φ2 : List (List Addr)} {G G1 G2 : Hp} (a : Gro φ G φ1 G1) (b : Gro φ1 G1 φ2 G2) : Gro φ G φ2 G2 := ⟨a.1.trans b.1, a.2.trans b.2⟩
theorem Evo.gro {φ φ' : List (List Addr)} {G G' H H' : Hp} (e : Evo φ G H φ' G' H') : Gro φ G φ' G' := ⟨e.phi, e.g⟩

def PostS (T : Sta) (e0 : Snap) (E : XK) (D : Ends) (φ : List (List Addr)) (G : Hp) : Mn.SRes → Prop
  | .next ρ w => ∀ φ' G' H' σ', Gro φ G φ' G' → StOk T e0 φ' G' H' σ' ρ w → D.nx σ' H'
  | .cont ρ w => ∀ φ' G' H' σ', Gro φ G φ' G' → StOk T e0 φ' G' H' σ' ρ w → D.ct σ' H'
  | .ret d w => ∀ v φ' G' H', Evo e0.φ e0.G e0.H φ' G' H' → World T φ' G' H' w → RepV T φ' G' H' d v → D.rt v H'
  | .exc c w => ∀ φ' G' H', Evo e0.φ e0.G e0.H φ' G' H' → World T φ' G' H' w → E (.ref (T.ca c)) none H'
  | .bad => False
section
variable {T : Sta} {e0 : Snap} {E : XK} {X : Cx} {Φ : PHI} {N : Nat} {D : Ends} {φ φ' : List (List Addr)} {G G' H H' : Hp} {σ : L2.St} {ρ : Mn.Env} {w : Mn.W}
theorem PostS.gro (g : Gro φ G φ' G') : ∀ {r : Mn.SRes}, PostS T e0 E D φ G r → PostS T e0 E D φ' G' r
  | .next _ _, h => fun _ _ _ _ g' s => h _ _ _ _ (g.trans g') s
  | .cont _ _, h => fun _ _ _ _ g' s => h _ _ _ _ (g.trans g') s
  | .ret _ _, h => h
  | .exc _ _, h => h
  | .bad, h => h
/-- an expression ahead of a statement's rest -/
theorem PostS.of_toS {α γ : Type} {R : List (List Addr) → Hp → Hp → α → γ → Prop} {Q : γ → Hp → Prop} (st : StOk T e0 φ G H σ ρ w) {f : α → Mn.W → Mn.SRes}
    (hk : ∀ a w1 c φ1 G1 H1, Evo φ G H φ1 G1 H1 → StOk T e0 φ1 G1 H1 σ ρ w1 → R φ1 G1 H1 a c → PostS T e0 E D φ1 G1 (f a w1) → Q c H1) : ∀ {r : Mn.Res α}, PostS T e0 E D φ G (r.toS f) → Post T E R φ G H Q r
  | .ok a w1, h => fun c φ1 G1 H1 e W r => hk a w1 c φ1 G1 H1 e (st.step e W) r (PostS.gro e.gro h)
  | .exc c w1, h => fun φ1 G1 H1 e W => h φ1 G1 H1 (st.evo.trans e) W
  | .bad, h => h

/-! ### slots -/
theorem get_put {ρ : Mn.Env} {i j : Nat} {d d' : Dt} (h : (ρ.put i d)[j]? = some (some d')) : (j = i ∧ d' = d ∧ i < ρ.length) ∨ (j ≠ i ∧ ρ[j]? = some (some d')) := by
  unfold Mn.Env.put at h
  by_cases e : i = j
  · subst e
    rw [List.getElem?_set_self'] at h
    cases q : ρ[i]? with
    | none => rw [q] at h; simp at h
    | some o =>
      rw [q] at h
      simp at h
      exact .inl ⟨rfl, h.symm, (List.getElem?_eq_some_iff.mp q).1⟩
  · rw [List.getElem?_set_ne e] at h
    exact .inr ⟨fun z => e z.symm, h⟩
theorem set_at {σ : L2.St} {i : Nat} (hi : i < σ.length) (v : V) : (σ.set i (some v))[i]? = some (some v) := by
  rw [List.getElem?_set_self hi]
theorem StOk.put (s : StOk T e0 φ G H σ ρ w) {i : Nat} {d : Dt} {v : V} (h : RepV T φ G H d v) (n : Mn.isOwn d = false) : StOk T e0 φ G H (σ.set i (some v)) (ρ.put i d) w where
  world := s.world
  evo := s.evo
  len := by unfold Mn.Env.put; rw [List.length_set, List.length_set]; exact s.len
  slot := fun j d' e => by
    rcases get_put e with ⟨rfl, rfl, hi⟩ | ⟨hj, e'⟩
    · exact ⟨v, set_at (by rw [s.len]; exact hi) v, h⟩
    · rw [List.getElem?_set_ne (fun z => hj z.symm)]; exact s.slot j d' e'
  own := fun j a d' e ho hs => by
    rcases get_put e with ⟨rfl, rfl, hi⟩ | ⟨hj, e'⟩
    · rw [n] at ho; cases ho
    · rw [List.getElem?_set_ne (fun z => hj z.symm)] at hs
      obtain ⟨h1, h2⟩ := s.own j a d' e' ho hs
      refine ⟨h1, fun k d2 hk e2 ho2 => ?_⟩
      rcases get_put e2 with ⟨rfl, rfl, hi⟩ | ⟨hk', e2'⟩
      · rw [n] at ho2; cases ho2
      · rw [List.getElem?_set_ne (fun z => hk' z.symm)]; exact h2 k d2 hk e2' ho2
/-- a fresh own object -/
theorem StOk.putNew (s : StOk T e0 φ G H σ ρ w) (e : Evo φ G H φ' G' H') {w' : Mn.W} (W : World T φ' G' H' w') {i : Nat} {d : Dt} {a : Addr} (h : RepV T φ' G' H' d (.ref a)) (n : FrT H a) : StOk T e0 φ' G' H' (σ.set i (some (.ref a))) (ρ.put i d) w' := by
  have s' := s.step e W
  have e0n : FrT e0.H a := fun o q => by
    apply Classical.byContradiction
    intro z
    have t : NT o := fun ps e => z ⟨ps, e⟩
    obtain ⟨o', q', t'⟩ := s.evo.dom a o q t
    exact n.no q' t'
  have other : ∀ (j : Nat) (d' : Dt), ρ[j]? = some (some d') → Mn.isOwn d' = true → σ[j]? ≠ some (some (V.ref a)) := fun j d' e1 ho hs => by
    obtain ⟨v, h1, h2⟩ := s.slot j d' e1
    rw [hs] at h1
    cases h1
    cases d' <;> simp only [Mn.isOwn, Bool.false_eq_true] at ho
    · obtain ⟨a', vs, e2, hh, _⟩ := h2
      cases e2; exact n.no hh nt_lst
    · obtain ⟨a', e2, _, _, ⟨kvs, hh, _⟩ | ⟨kvs, hh, _⟩⟩ := h2
      · cases e2; exact n.no hh nt_dK
      · cases e2; exact n.no hh nt_dT
  exact
  { world := W
    evo := s'.evo
    len := by unfold Mn.Env.put; rw [List.length_set, List.length_set]; exact s.len
    slot := fun j d' e1 => by
      rcases get_put e1 with ⟨rfl, rfl, hi⟩ | ⟨hj, e'⟩
      · exact ⟨_, set_at (by rw [s.len]; exact hi) _, h⟩
      · rw [List.getElem?_set_ne (fun z => hj z.symm)]; exact s'.slot j d' e'
    own := fun j b d' e1 ho hs => by
      rcases get_put e1 with ⟨rfl, rfl, hi⟩ | ⟨hj, e'⟩
      · rw [set_at (by rw [s.len]; exact hi)] at hs
        cases hs
        refine ⟨e0n, fun k d2 hk e2 ho2 => ?_⟩
        rcases get_put e2 with ⟨rfl, rfl, _⟩ | ⟨hk', e2'⟩
        · exact absurd rfl hk
        · rw [List.getElem?_set_ne (fun z => hk' z.symm)]; exact other k d2 e2' ho2
      · rw [List.getElem?_set_ne (fun z => hj z.symm)] at hs
        obtain ⟨h1, h2⟩ := s'.own j b d' e' ho hs
        refine ⟨h1, fun k d2 hk e2 ho2 => ?_⟩
        rcases get_put e2 with ⟨rfl, rfl, hi⟩ | ⟨hk', e2'⟩
        · rw [set_at (by rw [s.len]; exact hi)]
          intro z; cases z
          exact other j d' e' ho hs
        · rw [List.getElem?_set_ne (fun z => hk' z.symm)]; exact h2 k d2 hk e2' ho2 }
/-- an own object is changed -/
theorem StOk.putOwn (s : StOk T e0 φ G H σ ρ w) {i : Nat} {d0 d : Dt} {a : Addr} {o : HO} (e : ρ[i]? = some (some d0)) (ho : Mn.isOwn d0 = true) (hs : σ[i]? = some (some (.ref a)))
    (h : RepV T φ G (upd H a o) d (.ref a)) (hd : Mn.isOwn d = true) : StOk T e0 φ G (upd H a o) σ (ρ.put i d) w := by
  obtain ⟨v, h1, h2⟩ := s.slot i d0 e
  rw [hs] at h1
  cases h1
  have hg : G a = none ∧ a ∉ φ.flatten ∧ ∃ u, H a = some u ∧ (∀ ps, u ≠ .tbl ps) ∧ ∀ f, u ≠ .ext f := by
    cases d0 <;> simp only [Mn.isOwn, Bool.false_eq_true] at ho
    · obtain ⟨a', vs, e2, hh, g, n, _⟩ := h2
      cases e2; exact ⟨g, n, _, hh, by simp, by simp⟩
    · obtain ⟨a', e2, g, n, ⟨kvs, hh, _⟩ | ⟨kvs, hh, _⟩⟩ := h2
      · cases e2; exact ⟨g, n, _, hh, by simp, by simp⟩
      · cases e2; exact ⟨g, n, _, hh, by simp, by simp⟩
  obtain ⟨e0n, oth⟩ := s.own i a d0 e ho hs
  have hi : i < σ.length := by
    rw [s.len]; exact (List.getElem?_eq_some_iff.mp e).1
  have keep : ∀ (j : Nat) (d' : Dt) (v' : V), j ≠ i → ρ[j]? = some (some d') → σ[j]? = some (some v') → RepV T φ G H d' v' → RepV T φ G (upd H a o) d' v' := fun j d' v' hj e1 e2 r => by
    cases d' with
    | own l =>
      obtain ⟨b, vs, rfl, hh, g, n, rr⟩ := r
      have : b ≠ a := fun z => by subst z; exact oth j _ hj e1 rfl e2
      exact ⟨b, vs, rfl, by rw [upd_ne this]; exact hh, g, n, rr⟩
    | ownd l =>
      obtain ⟨b, rfl, g, n, rr⟩ := r
      have : b ≠ a := fun z => by subst z; exact oth j _ hj e1 rfl e2
      exact ⟨b, rfl, g, n, by rw [upd_ne this]; exact rr⟩
    | _ => exact RepV.of r
  exact
  { world := (let ⟨_, h1, h2, h3⟩ := hg.2.2; s.world.write o hg.1 hg.2.1 h1 h2 h3)
    evo :=
    { phi := s.evo.phi, g := s.evo.g
      h := fun b u q t n => by
        have : b ≠ a := fun z => by subst z; exact e0n.no q t
        rw [upd_ne this]; exact s.evo.h b u q t n
      dom := fun b u q t => by
        have : b ≠ a := fun z => by subst z; exact e0n.no q t
        rw [upd_ne this]; exact s.evo.dom b u q t
      gn := s.evo.gn, wn := s.evo.wn }
    len := by unfold Mn.Env.put; rw [List.length_set]; exact s.len
    slot := fun j d' e1 => by
      rcases get_put e1 with ⟨rfl, rfl, _⟩ | ⟨hj, e'⟩
      · exact ⟨_, hs, h⟩
      · obtain ⟨v', h3, h4⟩ := s.slot j d' e'
        exact ⟨v', h3, keep j d' v' hj e' h3 h4⟩
    own := fun j b d' e1 ho' hs' => by
      have here : ∀ (k : Nat) (d2 : Dt), (ρ.put i d)[k]? = some (some d2) → Mn.isOwn d2 = true → ∃ d3, ρ[k]? = some (some d3) ∧ Mn.isOwn d3 = true := fun k d2 e2 ho2 => by
        rcases get_put e2 with ⟨rfl, rfl, _⟩ | ⟨_, e2'⟩
        · exact ⟨d0, e, ho⟩
        · exact ⟨d2, e2', ho2⟩
      obtain ⟨d3, e3, ho3⟩ := here j d' e1 ho'
      obtain ⟨h3, h4⟩ := s.own j b d3 e3 ho3 hs'
      exact ⟨h3, fun k d2 hk e2 ho2 => by
        obtain ⟨d4, e4, ho4⟩ := here k d2 e2 ho2
        exact h4 k d4 hk e4 ho4⟩ }
/-- an own object is changed no more -/
theorem StOk.thaw (s : StOk T e0 φ G H σ ρ w) {j : Nat} {d : Dt} (e : ρ[j]? = some (some d)) : ∃ G', Gro φ G φ G' ∧ StOk T e0 φ G' H σ (ρ.put j d.thaw) w ∧ ∃ v, σ[j]? = some (some v) ∧ Rep T φ G' d.thaw v := by
  obtain ⟨v, h1, h2⟩ := s.slot j d e
  by_cases ho : Mn.isOwn d = true
  · have key : ∃ a o, v = .ref a ∧ H a = some o ∧ NT o ∧ G a = none ∧ a ∉ φ.flatten ∧ ∀ G2, Le (upd G a o) G2 → Rep T φ G2 d.thaw (.ref a) := by
      cases d <;> simp only [Mn.isOwn, Bool.false_eq_true] at ho
      · obtain ⟨a, vs, rfl, hh, g, n, r⟩ := h2
        refine ⟨a, _, rfl, hh, nt_lst, g, n, fun G2 l => ?_⟩
        show Rep T φ G2 (.lst _) _
        unfold Rep
        exact ⟨a, vs, rfl, l _ _ upd_same, r.mono (List.prefix_refl _) ((Le.upd _ g).trans l)⟩
      · obtain ⟨a, rfl, g, n, ⟨kvs, hh, r⟩ | ⟨kvs, hh, ne, r⟩⟩ := h2
        · refine ⟨a, _, rfl, hh, nt_dK, g, n, fun G2 l => ?_⟩
          show Rep T φ G2 (.dic _) _
          unfold Rep
          exact ⟨a, rfl, .inl ⟨kvs, l _ _ upd_same, r.mono (List.prefix_refl _) ((Le.upd _ g).trans l)⟩⟩
        · refine ⟨a, _, rfl, hh, nt_dT, g, n, fun G2 l => ?_⟩
          show Rep T φ G2 (.dic _) _
          unfold Rep
          exact ⟨a, rfl, .inr ⟨kvs, l _ _ upd_same, ne, r.mono (List.prefix_refl _) ((Le.upd _ g).trans l)⟩⟩
    obtain ⟨a, o, rfl, hh, nto, hg, hn, hr⟩ := key
    obtain ⟨e0n, oth⟩ := s.own j a d e ho h1
    have no : Mn.isOwn d.thaw = false := by cases d <;> rfl
    refine ⟨upd G a o, ⟨List.prefix_refl _, Le.upd o hg⟩, ?_, _, h1, hr _ (Le.refl _)⟩
    exact
    { world := s.world.freeze hh hg hn nto
      evo :=
      { phi := s.evo.phi, g := s.evo.g.trans (Le.upd o hg), h := s.evo.h, dom := s.evo.dom
        gn := fun b u q t n => by
          have : b ≠ a := fun z => by subst z; exact e0n.no q t
          rw [upd_ne this]; exact s.evo.gn b u q t n
        wn := s.evo.wn }
      len := by unfold Mn.Env.put; rw [List.length_set]; exact s.len
      slot := fun k d' e1 => by
        rcases get_put e1 with ⟨rfl, rfl, _⟩ | ⟨hk, e'⟩
        · exact ⟨_, h1, RepV.of (hr _ (Le.refl _))⟩
        · obtain ⟨v', h3, h4⟩ := s.slot k d' e'
          refine ⟨v', h3, ?_⟩
          cases d' with
          | own l =>
            obtain ⟨b, vs, rfl, hh', g, n, rr⟩ := h4
            have : b ≠ a := fun z => by subst z; exact oth k _ hk e' rfl h3
            exact ⟨b, vs, rfl, hh', by rw [upd_ne this]; exact g, n, rr.mono (List.prefix_refl _) (Le.upd o hg)⟩
          | ownd l =>
            obtain ⟨b, rfl, g, n, rr⟩ := h4
            have : b ≠ a := fun z => by subst z; exact oth k _ hk e' rfl h3
            exact ⟨b, rfl, by rw [upd_ne this]; exact g, n, rr.imp (fun ⟨kvs, q1, q2⟩ => ⟨kvs, q1, q2.mono (List.prefix_refl _) (Le.upd o hg)⟩) fun ⟨kvs, q1, q3, q2⟩ => ⟨kvs, q1, q3, q2.mono (List.prefix_refl _) (Le.upd o hg)⟩⟩
          | _ => exact RepV.of (Rep.mono (List.prefix_refl _) (Le.upd o hg) h4)
      own := fun k b d' e1 ho' hs' => by
        rcases get_put e1 with ⟨rfl, rfl, _⟩ | ⟨hk, e'⟩
        · rw [no] at ho'; cases ho'
        · obtain ⟨h3, h4⟩ := s.own k b d' e' ho' hs'
          refine ⟨h3, fun k2 d2 hk2 e2 ho2 => ?_⟩
          rcases get_put e2 with ⟨rfl, rfl, _⟩ | ⟨_, e2'⟩
          · rw [no] at ho2; cases ho2
          · exact h4 k2 d2 hk2 e2' ho2 }
  · have no : Mn.isOwn d = false := by simpa using ho
    have et : d.thaw = d := by cases d <;> first | rfl | (simp [Mn.isOwn] at no)
    have same : ρ.put j d.thaw = ρ := by
      rw [et]
      unfold Mn.Env.put
      apply List.ext_getElem?
      intro k
      by_cases q : j = k
      · subst q; rw [List.getElem?_set_self', e]; rfl
      · rw [List.getElem?_set_ne q]
    rw [same, et]
    exact ⟨G, Gro.refl _ _, s, v, h1, h2.rep no⟩
end
end Sn
end
section
set_option linter.all false
set_option maxRecDepth 100000
set_option maxHeartbeats 4000000
/-! Statements' readings, walks, loops, comprehensions. -/
namespace Sn
open PySem PySem.Spec PyProof.Rows L2

abbrev VS (T : Sta) (e0 : Snap) (E : XK) (Φ : PHI) (N : Nat) (m : Mn.S) : TS := fun D σ H => ∃ φ G ρ w, StOk T e0 φ G H σ ρ w ∧ PostS T e0 E D φ G (Mn.run Φ N m ρ w)
abbrev VSs (T : Sta) (e0 : Snap) (E : XK) (Φ : PHI) (N : Nat) (m : List Mn.S) : TS := fun D σ H => ∃ φ G ρ w, StOk T e0 φ G H σ ρ w ∧ PostS T e0 E D φ G (Mn.runs Φ N m ρ w)
/-- targets -/
def gs : List Nat → TGs
  | [] => gNil
  | i :: is => gCons (gName i) (gs is)
def tgR (K : PySem.W.Frag) : List Nat → Bool → TG
  | [i], true => gName i
  | is, _ => gTup K is.length (gs is)
/-- a walk over items -/
def Gd (T : Sta) (φ : List (List Addr)) (G : Hp) (H : Hp) : Prop := ∃ φ2 G2 w, World T φ2 G2 H w ∧ Gro φ G φ2 G2
def YI (T : Sta) (φ : List (List Addr)) (G : Hp) (items : List Dt) (i : Nat) (H : Hp) (x : V) (H' : Hp) : Prop := ∀ φ2 G2 w, World T φ2 G2 H w → Gro φ G φ2 G2 → ∃ d G3, items[i]? = some d ∧ World T φ2 G3 H' w ∧ Evo φ2 G2 H φ2 G3 H' ∧ Rep T φ2 G3 d x
def WalkI (T : Sta) (φ : List (List Addr)) (G : Hp) (J : It) (items : List Dt) : Prop := Walk J items.length (Gd T φ G) (YI T φ G items)
def RIt (T : Sta) : List (List Addr) → Hp → Hp → List Dt → It → Prop := fun φ G _ items J => WalkI T φ G J items
def tIt (T : Sta) (e0 : Snap) (E : XK) (f : Mn.Env → Mn.W → Mn.Res (List Dt)) : TI := fun σ H R => ∃ φ G ρ w, StOk T e0 φ G H σ ρ w ∧ Post T E (RIt T) φ G H R (f ρ w)
abbrev VI (T : Sta) (e0 : Snap) (E : XK) (Φ : PHI) (k : Mn.ItK) (its : List Mn.E) : TI := tIt T e0 E fun ρ w => (Mn.evs Φ its ρ w).bind fun ds w => .of (Mn.itemsOf k ds) w
/-- a fresh list or dict -/
def RNew (T : Sta) (H0 : Hp) : List (List Addr) → Hp → Hp → Dt → V → Prop := fun φ G H d v => ∃ a, v = .ref a ∧ RepV T φ G H d (.ref a) ∧ FrT H0 a
def tNw (T : Sta) (e0 : Snap) (E : XK) (f : FE) : TE := fun σ H Q => ∃ φ G ρ w, StOk T e0 φ G H σ ρ w ∧ Post T E (RNew T H) φ G H Q ((f ρ w).bind fun d w => .of (Mn.fresh d) w)
abbrev VN (T : Sta) (e0 : Snap) (E : XK) (Φ : PHI) (m : Mn.E) : TE := tNw T e0 E (Mn.ev Φ m)

section
variable {T : Sta} {e0 : Snap} {E : XK} {X : Cx} {Φ : PHI} {N : Nat} {st : Stmt} {rest : List Stmt} {m m2 : Mn.E} {ms : List Mn.E} {s s2 : Mn.S} {ss ss2 : List Mn.S} {pos : Pos}
/-! ### blocks -/
theorem runs_one {Φ : PHI} {N : Nat} {s : Mn.S} {ρ : Mn.Env} {w : Mn.W} : Mn.runs Φ N [s] ρ w = Mn.run Φ N s ρ w := by
  simp only [Mn.runs]
  cases Mn.run Φ N s ρ w <;> rfl
theorem s_nil : PSs X [] (VSs T e0 E Φ N []) := by
  refine PSs.imp pss_nil fun D σ H ⟨φ, G, ρ, w, st, p⟩ => ?_
  exact p φ G H σ (Gro.refl _ _) st
theorem s_cons (h1 : PS X st (VS T e0 E Φ N s)) (h2 : PSs X rest (VSs T e0 E Φ N ss)) : PSs X (st :: rest) (VSs T e0 E Φ N (s :: ss)) := by
  refine PSs.imp (pss_cons h1 h2) fun D σ H ⟨φ, G, ρ, w, st, p⟩ => ⟨φ, G, ρ, w, st, ?_⟩
  simp only [Mn.runs] at p
  cases q : Mn.run Φ N s ρ w with
  | next ρ' w' => rw [q] at p; exact fun φ' G' H' σ' g st' => ⟨φ', G', ρ', w', st', PostS.gro g p⟩
  | cont ρ' w' => rw [q] at p; exact p
  | ret d w' => rw [q] at p; exact p
  | exc c w' => rw [q] at p; exact p
  | bad => rw [q] at p; exact p
theorem s_one (h1 : PS X st (VS T e0 E Φ N s)) : PSs X [st] (VSs T e0 E Φ N [s]) := by
  refine PSs.imp (pss_one h1) fun D σ H ⟨φ, G, ρ, w, st, p⟩ => ⟨φ, G, ρ, w, st, ?_⟩
  rw [runs_one] at p
  exact p
/-- a docstring ahead -/
theorem s_doc {z : Str} {j : Nat} {p1 p2 : Pos} (h2 : PSs X rest (VSs T e0 E Φ N ss)) : PSs X (.Expr (.Constant (.str z) j p1) p2 :: rest) (VSs T e0 E Φ N ss) :=
  PSs.imp (pss_cons ps_doc h2) fun D σ H h => h
/-! ### simple statements -/
theorem s_asg {i : Nat} (h : PS X st (tAsg (VE T e0 E Φ m) (gName i))) : PS X st (VS T e0 E Φ N (.asg i m)) := by
  refine PS.imp h fun D σ H ⟨φ, G, ρ, w, st, p⟩ => ?_
  simp only [Mn.run] at p
  refine ⟨φ, G, ρ, w, st, PostS.of_toS st (fun d w1 v φ1 G1 H1 e1 st1 r1 p1 => ?_) p⟩
  cases ho : Mn.isOwn d with
  | true => simp only [ho, if_true] at p1; exact p1.elim
  | false =>
    simp only [ho, Bool.false_eq_true, if_false] at p1
    exact p1 φ1 G1 H1 _ (Gro.refl _ _) (st1.put r1 ho)
theorem s_asgN {i : Nat} (h : PS X st (tAsg (VN T e0 E Φ m) (gName i))) : PS X st (VS T e0 E Φ N (.asgN i m)) := by
  refine PS.imp h fun D σ H ⟨φ, G, ρ, w, st, p⟩ => ?_
  simp only [Mn.run] at p
  refine ⟨φ, G, ρ, w, st, PostS.of_toS st (fun d w1 v φ1 G1 H1 e1 st1 r1 p1 => ?_) p⟩
  obtain ⟨a, rfl, r, n⟩ := r1
  exact p1 φ1 G1 H1 _ (Gro.refl _ _) (st.putNew e1 st1.world r n)
theorem s_expr (h : PS X st (tDrop (VE T e0 E Φ m))) : PS X st (VS T e0 E Φ N (.expr m)) := by
  refine PS.imp h fun D σ H ⟨φ, G, ρ, w, st, p⟩ => ?_
  simp only [Mn.run] at p
  exact ⟨φ, G, ρ, w, st, PostS.of_toS (f := fun _ w => .next ρ w) st (fun d w1 v φ1 G1 H1 e1 st1 r1 p1 => p1 φ1 G1 H1 σ (Gro.refl _ _) st1) p⟩
theorem thawAt_ok {φ : List (List Addr)} {H : Hp} {σ : L2.St} {w : Mn.W} : ∀ (js : List Nat) {G : Hp} {ρ : Mn.Env}, StOk T e0 φ G H σ ρ w → ∃ G', Gro φ G φ G' ∧ StOk T e0 φ G' H σ (Mn.thawAt ρ js) w
  | [], G, ρ, st => ⟨G, Gro.refl _ _, st⟩
  | j :: js, G, ρ, st => by
    show ∃ G', Gro φ G φ G' ∧ StOk T e0 φ G' H σ (Mn.thawAt (match ρ.at j with | some d => ρ.put j d.thaw | none => ρ) js) w
    cases q : ρ.at j with
    | none => exact thawAt_ok js st
    | some d =>
      have e : ρ[j]? = some (some d) := by
        unfold Mn.Env.at at q
        cases z : ρ[j]? with
        | none => rw [z] at q; simp at q
        | some o => rw [z] at q; simp at q; rw [q]
      obtain ⟨G1, g1, st1, _⟩ := st.thaw e
      obtain ⟨G2, g2, st2⟩ := thawAt_ok js st1
      exact ⟨G2, g1.trans g2, st2⟩
theorem s_ret {js : List Nat} (h : PS X st (tRet (VE T e0 E Φ m))) : PS X st (VS T e0 E Φ N (.ret js m)) := by
  refine PS.imp h fun D σ H ⟨φ, G, ρ, w, st, p⟩ => ?_
  simp only [Mn.run] at p
  obtain ⟨G', g, st'⟩ := thawAt_ok js st
  refine ⟨φ, G', _, w, st', PostS.of_toS st' (fun d w1 v φ1 G1 H1 e1 st1 r1 p1 => ?_) (PostS.gro g p)⟩
  cases ho : Mn.isOwn d with
  | true => simp only [ho, if_true] at p1; exact p1.elim
  | false =>
    simp only [ho, Bool.false_eq_true, if_false] at p1
    exact p1 v φ1 G1 H1 st1.evo st1.world r1
theorem s_retN : PS X (.Return none pos) (VS T e0 E Φ N .retN) := by
  refine PS.imp ps_retN fun D σ H ⟨φ, G, ρ, w, st, p⟩ => ?_
  exact p _ φ G H st.evo st.world (rv_non.mpr rfl)
theorem s_pass : PS X (.Pass pos) (VS T e0 E Φ N .pass) := by
  refine PS.imp ps_pass fun D σ H ⟨φ, G, ρ, w, st, p⟩ => ?_
  exact p φ G H σ (Gro.refl _ _) st
/-- what is never come to -/
theorem s_stuck {rest : List Stmt} : PSs X rest (VSs T e0 E Φ N [.stuck]) := PSs.imp pss_never fun D σ H ⟨φ, G, ρ, w, st, p⟩ => p.elim
theorem s_cont : PS X (.Continue pos) (VS T e0 E Φ N .cont) := by
  refine PS.imp ps_continue fun D σ H ⟨φ, G, ρ, w, st, p⟩ => ?_
  exact p φ G H σ (Gro.refl _ _) st
theorem s_raise {c : Nat} {e : Expr} (hc : X.calm = true) (tk : Takes X fun cls d _ H => E cls d H) (h : PMk X e (fun _ H Q => Q (.ref (T.ca c)) none H)) : PS X (.Raise (some e) none pos) (VS T e0 E Φ N (.raise c)) := by
  refine PS.imp (ps_raise hc tk h) fun D σ H ⟨φ, G, ρ, w, st, p⟩ => ?_
  exact p φ G H st.evo st.world
/-- a test ahead of a statement's rest -/
theorem of_test {D : Ends} {φ : List (List Addr)} {G H : Hp} {σ : L2.St} {ρ : Mn.Env} {w : Mn.W} (st : StOk T e0 φ G H σ ρ w) {f : FE} {a b : Mn.Env → Mn.W → Mn.SRes} {Q : Bool → Hp → Prop}
    (p : PostS T e0 E D φ G ((f ρ w).toS fun x w => match Mn.truth x with | some true => a ρ w | some false => b ρ w | none => .bad))
    (hk : ∀ k w1 φ1 G1 H1, StOk T e0 φ1 G1 H1 σ ρ w1 → PostS T e0 E D φ1 G1 (if k = true then a ρ w1 else b ρ w1) → Q k H1) : Post T E RBool φ G H Q (tru f ρ w) := by
  unfold tru
  cases q : f ρ w with
  | bad => rw [q] at p; exact p
  | exc c w1 => rw [q] at p; exact fun φ1 G1 H1 e W => p φ1 G1 H1 (st.evo.trans e) W
  | ok d w1 =>
    rw [q] at p
    simp only [Mn.Res.toS, Mn.Res.bind] at p ⊢
    cases z : Mn.truth d with
    | none => rw [z] at p; exact p
    | some k =>
      rw [z] at p
      intro k' φ1 G1 H1 e1 W1 r1
      cases r1
      refine hk k w1 φ1 G1 H1 (st.step e1 W1) (PostS.gro e1.gro ?_)
      cases k <;> exact p
theorem s_if {c : Expr} {a b : List Stmt} (hc : PT X c (VT T e0 E Φ m)) (ha : PSs X a (VSs T e0 E Φ N ss)) (hb : PSs X b (VSs T e0 E Φ N ss2)) : PS X (.If c a b pos) (VS T e0 E Φ N (.iff m ss ss2)) := by
  refine PS.imp (ps_if hc ha hb) fun D σ H ⟨φ, G, ρ, w, st, p⟩ => ?_
  simp only [Mn.run] at p
  refine ⟨φ, G, ρ, w, st, of_test st p fun k w1 φ1 G1 H1 st1 p1 => ?_⟩
  cases k with
  | true => exact ⟨φ1, G1, ρ, w1, st1, p1⟩
  | false => exact ⟨φ1, G1, ρ, w1, st1, p1⟩
theorem PostS.turn {D : Ends} {φ : List (List Addr)} {G : Hp} {f : Mn.Env → Mn.W → Mn.SRes} {Nx : L2.St → Hp → Prop} (hk : ∀ ρ w φ' G' H' σ', Gro φ G φ' G' → StOk T e0 φ' G' H' σ' ρ w → PostS T e0 E D φ' G' (f ρ w) → Nx σ' H') :
    ∀ {r : Mn.SRes}, PostS T e0 E D φ G (r.turn f) → PostS T e0 E { D with nx := Nx, ct := Nx, bk := D.nx } φ G r
  | .next ρ w, p => fun φ' G' H' σ' g st => hk ρ w φ' G' H' σ' g st (PostS.gro g p)
  | .cont ρ w, p => fun φ' G' H' σ' g st => hk ρ w φ' G' H' σ' g st (PostS.gro g p)
  | .ret _ _, p => p
  | .exc _ _, p => p
  | .bad, p => p
theorem s_while {c : Expr} {body : List Stmt} (hp : PassesOwn (model X.prog X.w) X.A X.env X.xe) (hc : PT X c (VT T e0 E Φ m)) (hb : PSs X body (VSs T e0 E Φ N ss)) : PS X (.While c body [] pos) (VS T e0 E Φ N (.while_ m ss)) := by
  refine PS.imp (ps_while hp hc hb) fun D σ H ⟨φ, G, ρ, w, st, p⟩ => ?_
  simp only [Mn.run] at p
  refine ⟨fun n σ H => ∃ φ G ρ w, StOk T e0 φ G H σ ρ w ∧ PostS T e0 E D φ G (Mn.whileGo (fun ρ w => Mn.ev Φ m ρ w) (fun ρ w => Mn.runs Φ N ss ρ w) n ρ w), ⟨N, φ, G, ρ, w, st, p⟩, fun n σ H ⟨φ, G, ρ, w, st, p⟩ => ?_⟩
  cases n with
  | zero => exact p.elim
  | succ n =>
    unfold Mn.whileGo at p
    refine ⟨φ, G, ρ, w, st, of_test (a := fun ρ w => (Mn.runs Φ N ss ρ w).turn fun ρ w => Mn.whileGo (fun ρ w => Mn.ev Φ m ρ w) (fun ρ w => Mn.runs Φ N ss ρ w) n ρ w) (b := fun ρ w => .next ρ w) st p fun k w1 φ1 G1 H1 st1 p1 => ?_⟩
    cases k with
    | true =>
      refine ⟨fun σ H => ∃ φ G ρ w, StOk T e0 φ G H σ ρ w ∧ PostS T e0 E D φ G (Mn.whileGo (fun ρ w => Mn.ev Φ m ρ w) (fun ρ w => Mn.runs Φ N ss ρ w) n ρ w), fun σ' H' h => ⟨n, Nat.lt_succ_self n, h⟩, ?_⟩
      exact ⟨φ1, G1, ρ, w1, st1, PostS.turn (fun ρ w φ' G' H' σ' g st p => ⟨φ', G', ρ, w, st, p⟩) p1⟩
    | false => exact p1 φ1 G1 H1 σ (Gro.refl _ _) st1
/-! ### targets -/
theorem wipe_in {σ : L2.St} {i : Nat} : ∀ {vs : List Nat}, i ∈ vs → (L2.wipe σ vs)[i]? = if i < σ.length then some none else none
  | [], h => by cases h
  | v :: vs, h => by
    unfold L2.wipe
    by_cases e : v = i
    · subst e
      rw [List.getElem?_set_self', ]
      by_cases hl : v < σ.length
      · rw [if_pos hl, List.getElem?_eq_getElem (by rw [wipe_length]; exact hl)]; rfl
      · rw [if_neg hl, List.getElem?_eq_none (by rw [wipe_length]; omega)]; rfl
    · rw [List.getElem?_set_ne e]
      exact wipe_in ((List.mem_cons.mp h).resolve_left fun z => e z.symm)
theorem wipe_ext {σ σ' : L2.St} {vs : List Nat} (hl : σ'.length = σ.length) (h : ∀ i, i ∉ vs → σ'[i]? = σ[i]?) : L2.wipe σ' vs = L2.wipe σ vs := by
  apply List.ext_getElem?
  intro i
  by_cases hi : i ∈ vs
  · rw [wipe_in hi, wipe_in hi, hl]
  · rw [wipe_out hi, wipe_out hi, h i hi]
theorem wipe_set {σ : L2.St} {vs : List Nat} {i : Nat} {o : Option V} (h : i ∈ vs) : L2.wipe (σ.set i o) vs = L2.wipe σ vs :=
  wipe_ext (List.length_set ..) fun j hj => List.getElem?_set_ne (show i ≠ j from fun z => by subst z; exact hj h)
theorem wipe_wipe {σ : L2.St} {vs : List Nat} : L2.wipe (L2.wipe σ vs) vs = L2.wipe σ vs :=
  wipe_ext (wipe_length σ vs) fun i hi => wipe_out hi
theorem gs_ok {φ : List (List Addr)} {G H : Hp} {w : Mn.W} {Q : L2.St → Hp → Prop} : ∀ (is : List Nat) {ds : List Dt} {vs : List V} {σ : L2.St} {ρ ρ' : Mn.Env}, Mn.putAll ρ is ds = some ρ' → StOk T e0 φ G H σ ρ w → Reps T φ G ds vs →
    (∀ σ2, StOk T e0 φ G H σ2 ρ' w → (∀ ws : List Nat, (∀ i ∈ is, i ∈ ws) → L2.wipe σ2 ws = L2.wipe σ ws) → Q σ2 H) → gs is vs σ H Q
  | [], [], vs, σ, ρ, ρ', e, st, r, k => by
    simp only [Mn.putAll, Option.some.injEq] at e
    subst e
    exact ⟨r.nil_of, k σ st fun _ _ => rfl⟩
  | [], _ :: _, _, _, _, _, e, _, _, _ => by simp [Mn.putAll] at e
  | _ :: _, [], _, _, _, _, e, _, _, _ => by simp [Mn.putAll] at e
  | i :: is, d :: ds, vs, σ, ρ, ρ', e, st, r, k => by
    obtain ⟨v, vr, rfl, q, t⟩ := r.uncons
    simp only [Mn.putAll] at e
    have no : Mn.isOwn d = false := by cases d <;> first | rfl | (unfold Rep at q; exact q.elim)
    exact ⟨v, vr, rfl, gs_ok is e (st.put (RepV.of q) no) t fun σ2 st2 h => k σ2 st2 fun ws hw => by
      rw [h ws fun j hj => hw j (List.mem_cons_of_mem _ hj), wipe_set (hw i List.mem_cons_self)]⟩
theorem tg_ok {φ : List (List Addr)} {G H : Hp} {w : Mn.W} {Q : L2.St → Hp → Prop} {tg : List Nat} {one : Bool} {d : Dt} {x : V} {σ : L2.St} {ρ ρ' : Mn.Env} (e : Mn.bindT ρ tg one d = some ρ') (st : StOk T e0 φ G H σ ρ w) (r : Rep T φ G d x)
    (k : ∀ σ2, StOk T e0 φ G H σ2 ρ' w → L2.wipe σ2 tg = L2.wipe σ tg → Q σ2 H) : tgR T.K tg one x σ H Q := by
  unfold Mn.bindT at e
  split at e
  · cases e
    have no : Mn.isOwn d = false := by cases d <;> first | rfl | (unfold Rep at r; exact r.elim)
    exact k _ (st.put (RepV.of r) no) (wipe_set List.mem_cons_self)
  · rename_i ds
    unfold Rep at r
    obtain ⟨a, vs, rfl, hq, rr⟩ := r
    have hl : vs.length = tg.length := by
      rw [rr.length]
      clear st rr hq k
      induction tg generalizing ds ρ with
      | nil => cases ds with
        | nil => rfl
        | cons => simp [Mn.putAll] at e
      | cons i is ih => cases ds with
        | nil => simp [Mn.putAll] at e
        | cons d ds => simp only [Mn.putAll] at e; simp [ih ds e]
    have hr : tgR T.K tg false = gTup T.K tg.length (gs tg) := by
      cases tg with
      | nil => rfl
      | cons i is => cases is <;> rfl
    rw [hr]
    exact ⟨a, vs, rfl, SqT.of (st.world.tup hq), hl, gs_ok tg e st rr fun σ2 st2 h => k σ2 st2 (h tg fun _ h => h)⟩
  · cases e
/-! ### for -/
theorem s_for {tg : List Nat} {one : Bool} {k : Mn.ItK} (h : PS X st (tFor (VI T e0 E Φ k ms) (tgR T.K tg one) (VSs T e0 E Φ N ss))) : PS X st (VS T e0 E Φ N (.for_ tg one k ms ss)) := by
  refine PS.imp h fun D σ H ⟨φ, G, ρ, w, st, p⟩ => ?_
  simp only [Mn.run] at p
  refine ⟨φ, G, ρ, w, st, ?_⟩
  have p' : PostS T e0 E D φ G (((Mn.evs Φ ms ρ w).bind fun ds w => Mn.Res.of (Mn.itemsOf k ds) w).toS fun items w => Mn.forGo tg one (fun ρ w => Mn.runs Φ N ss ρ w) items ρ w) := by
    cases q : Mn.evs Φ ms ρ w with
    | bad => rw [q] at p; exact p
    | exc c w1 => rw [q] at p; exact p
    | ok ds w1 =>
      rw [q] at p
      simp only [Mn.Res.bind, Mn.Res.toS] at p ⊢
      cases z : Mn.itemsOf k ds with
      | none => rw [z] at p; exact p
      | some items => rw [z] at p; exact p
  refine PostS.of_toS st (fun items w1 J φ1 G1 H1 e1 st1 r1 p1 => ?_) p'
  have wk : Walk J items.length (Gd T φ1 G1) (YI T φ1 G1 items) := r1
  refine for_it (D := D) wk (fun i σ H => ∃ φi Gi ρi wi, Gro φ1 G1 φi Gi ∧ StOk T e0 φi Gi H σ ρi wi ∧ PostS T e0 E D φi Gi (Mn.forGo tg one (fun ρ w => Mn.runs Φ N ss ρ w) (items.drop i) ρi wi)) ⟨φ1, G1, ρ, w1, Gro.refl _ _, st1, p1⟩ ?_ ?_ ?_
  · rintro i σ H _ ⟨φi, Gi, ρi, wi, g, st, _⟩
    exact ⟨φi, Gi, wi, st.world, g⟩
  · rintro i x σ H H' hi ⟨φi, Gi, ρi, wi, g, st, p⟩ y
    obtain ⟨d, G3, hd, W3, e3, r⟩ := y φi Gi wi st.world g
    have ed : items.drop i = d :: items.drop (i + 1) := by
      rw [List.drop_eq_getElem_cons hi]
      congr 1
      rw [List.getElem?_eq_getElem hi] at hd
      exact Option.some.inj hd
    rw [ed] at p
    unfold Mn.forGo at p
    cases hb : Mn.bindT ρi tg one d with
    | none => rw [hb] at p; exact p.elim
    | some ρ' =>
      rw [hb] at p
      refine tg_ok hb (st.step e3 W3) r fun σ2 st2 _ => ⟨φi, G3, ρ', wi, st2, PostS.turn (fun ρ w φ' G' H' σ' g' st' p' => ?_) (PostS.gro e3.gro p)⟩
      exact ⟨φ', G', ρ, w, g.trans (e3.gro.trans g'), st', p'⟩
  · rintro σ H ⟨φi, Gi, ρi, wi, g, st, p⟩
    rw [List.drop_length] at p
    exact p φi Gi H σ (Gro.refl _ _) st
end
end Sn
end
section
set_option linter.all false
set_option maxRecDepth 100000
set_option maxHeartbeats 4000000
/-! Comprehensions. -/
namespace Sn
open PySem PySem.Spec PyProof.Rows L2
theorem mwipe_get {ρ : Mn.Env} {i : Nat} {d : Dt} : ∀ {vs : List Nat}, (Mn.wipe ρ vs)[i]? = some (some d) → ρ[i]? = some (some d) ∧ i ∉ vs
  | [], h => ⟨h, by simp⟩
  | v :: vs, h => by
    unfold Mn.wipe at h
    by_cases e : v = i
    · subst e
      rw [List.getElem?_set_self'] at h
      cases q : (Mn.wipe ρ vs)[v]? with
      | none => rw [q] at h; simp at h
      | some o => rw [q] at h; simp at h
    · rw [List.getElem?_set_ne e] at h
      obtain ⟨h1, h2⟩ := mwipe_get h
      exact ⟨h1, fun hm => (List.mem_cons.mp hm).elim (fun z => e z.symm) h2⟩
theorem mwipe_len (ρ : Mn.Env) : ∀ vs : List Nat, (Mn.wipe ρ vs).length = ρ.length
  | [] => rfl
  | v :: vs => by unfold Mn.wipe; rw [List.length_set, mwipe_len ρ vs]
section
variable {T : Sta} {e0 : Snap} {E : XK} {X : Cx} {Φ : PHI} {N : Nat} {D : Ends} {φ φ' : List (List Addr)} {G G' H H' : Hp} {σ : L2.St} {ρ : Mn.Env} {w : Mn.W}
theorem StOk.wipe (s : StOk T e0 φ G H σ ρ w) (vs : List Nat) : StOk T e0 φ G H (L2.wipe σ vs) (Mn.wipe ρ vs) w where
  world := s.world
  evo := s.evo
  len := by rw [wipe_length, mwipe_len]; exact s.len
  slot := fun i d h => by
    obtain ⟨h1, h2⟩ := mwipe_get h
    rw [wipe_out h2]
    exact s.slot i d h1
  own := fun i a d h ho hs => by
    obtain ⟨h1, h2⟩ := mwipe_get h
    rw [wipe_out h2] at hs
    obtain ⟨h3, h4⟩ := s.own i a d h1 ho hs
    exact ⟨h3, fun j d' hj hd ho' => by
      obtain ⟨h5, h6⟩ := mwipe_get hd
      rw [wipe_out h6]
      exact h4 j d' hj h5 ho'⟩
theorem fr_of {a : Addr} (e : Evo φ G H φ' G' H') (h : FrT H' a) : FrT H a := fun o q => by
  apply Classical.byContradiction
  intro z
  obtain ⟨o', q', t'⟩ := e.dom a o q fun ps ee => z ⟨ps, ee⟩
  exact h.no q' t'
theorem Evo.upd {D : Addr} (e : Evo φ G H φ' G' H') (o : HO) (h : H D = none) : Evo φ G H φ' G' (L2.upd H' D o) where
  phi := e.phi
  g := e.g
  h := fun b u q t n => by rw [upd_ne (ne_of_none q h)]; exact e.h b u q t n
  dom := fun b u q t => by rw [upd_ne (ne_of_none q h)]; exact e.dom b u q t
  gn := e.gn
  wn := e.wn
theorem PTs.imp {X : Cx} {e : List Expr} {t t' : TT} (h : PTs X e t) (i : ∀ σ H Q, t' σ H Q → t σ H Q) : PTs X e t' := ⟨fun pins s σ H Q I q => h.run pins s σ H Q I (i σ H Q q)⟩
theorem c_nil : PTs X [] (VAndT T e0 E Φ []) := PTs.imp pts_nil fun σ H Q ⟨φ, G, ρ, w, st, p⟩ => p true φ G H (Evo.refl _ _ _) st.world rfl
theorem c_one {c : Expr} {m : Mn.E} (h : PT X c (VT T e0 E Φ m)) : PTs X [c] (VAndT T e0 E Φ [m]) := pts_one h

/-- one turn of a comprehension -/
def cF (Φ : PHI) (elt : Mn.E) (tg : List Nat) (one : Bool) (cond : List Mn.E) (ρ : Mn.Env) : Dt → Mn.W → Mn.Res (Option Dt) := fun x w => match Mn.bindT (Mn.wipe ρ tg) tg one x with
  | none => .bad
  | some ρ' => (Mn.evAnd Φ cond ρ' w).bind fun c w => match Mn.truth c with
    | some true => (Mn.ev Φ elt ρ' w).bind fun d w => if Mn.isOwn d then .bad else .ok (some d) w
    | some false => .ok none w
    | none => .bad
def rem (f : Dt → Mn.W → Mn.Res (Option Dt)) (fin : List Dt → Mn.W → Mn.Res Dt) (acc items : List Dt) (w : Mn.W) : Mn.Res Dt := (Mn.compGo f items w).bind fun l w => fin (acc ++ l) w
theorem rem_nil {f : Dt → Mn.W → Mn.Res (Option Dt)} {fin : List Dt → Mn.W → Mn.Res Dt} {acc : List Dt} {w : Mn.W} : rem f fin acc [] w = fin acc w := by
  unfold rem Mn.compGo
  simp only [Mn.Res.bind, List.append_nil]
theorem rem_cons {f : Dt → Mn.W → Mn.Res (Option Dt)} {fin : List Dt → Mn.W → Mn.Res Dt} {acc items : List Dt} {d : Dt} {w : Mn.W} : rem f fin acc (d :: items) w = (f d w).calm.bind fun o w => rem f fin (acc ++ o.toList) items w := by
  unfold rem
  rw [Mn.compGo, bind_assoc]
  congr 1
  funext o w
  rw [bind_assoc]
  congr 1
  funext l w
  cases o <;> simp [Mn.Res.bind]
/-- a comprehension over a walk: D is the new list -/
theorem lc_core' {φ1 : List (List Addr)} {G1 H1 : Hp} {R : List (List Addr) → Hp → Hp → Dt → V → Prop} {Q : VK} {tg : List Nat} {one : Bool} {cond : List Mn.E} {elt : Mn.E} {items : List Dt} {J : It} {fin : List Dt → Mn.W → Mn.Res Dt} {Da : Addr} {w1 : Mn.W}
    (wk : WalkI T φ1 G1 J items) (hlim : items.length ≤ Mn.LIM) (st : StOk T e0 φ1 G1 H1 σ ρ w1) (hD : H1 Da = none)
    (p : Post T E R φ1 G1 H1 Q (rem (cF Φ elt tg one cond ρ) fin [] items w1))
    (hfin : ∀ φi Gi Hi wi acc vs, World T φi Gi Hi wi → Evo φ1 G1 H1 φi Gi Hi → Hi Da = some (.lst vs) → Gi Da = none → Da ∉ φi.flatten → Reps T φi Gi acc vs → Post T E R φ1 G1 H1 Q (fin acc wi) → Q (.ref Da) Hi) :
    ∃ W : Nat → Nat → Hp → Prop, (∃ m, W 0 m (upd H1 Da (.lst []))) ∧ ∀ i m H, W i m H →
      (J.stop i H ∧ Q (.ref Da) H) ∨ (J.go i H ∧ ∃ Nx : Hp → Prop, (∀ H', Nx H' → ∃ m', m' < m ∧ W (i + 1) m' H') ∧ ∀ x H', J.yld i H x H' → tgR T.K tg one x (L2.wipe σ tg) H' fun σ2 H2 => L2.wipe σ2 tg = L2.wipe σ tg ∧ VAndT T e0 E0 Φ cond σ2 H2 fun b H3 =>
        if b = true then VE T e0 E0 Φ elt σ2 H3 fun y H4 => ∃ acc, H4 Da = some (.lst acc) ∧ acc.length < sizeLine ∧ Nx (upd H4 Da (.lst (acc ++ [y]))) else Nx H3) := by
  have wk' : Walk J items.length (Gd T φ1 G1) (YI T φ1 G1 items) := wk
  refine lc_it (Qd := Q (.ref Da)) wk' (fun i H => ∃ φi Gi wi acc vs, World T φi Gi H wi ∧ Evo φ1 G1 H1 φi Gi H ∧ H Da = some (.lst vs) ∧ Gi Da = none ∧ Da ∉ φi.flatten ∧ Reps T φi Gi acc vs ∧ vs.length ≤ i ∧
    Post T E R φ1 G1 H1 Q (rem (cF Φ elt tg one cond ρ) fin acc (items.drop i) wi)) ?_ ?_ ?_ ?_
  · obtain ⟨W2, e2⟩ := st.world.lay (HO.lst []) hD
    exact ⟨φ1, G1, w1, [], [], W2, e2, upd_same, st.world.gnone hD, st.world.notw hD, Reps.nil, Nat.le_refl _, p⟩
  · rintro i H _ ⟨φi, Gi, wi, acc, vs, W, e, _⟩
    exact ⟨φi, Gi, wi, W, e.gro⟩
  · rintro i x H H' hi ⟨φi, Gi, wi, acc, vs, W, e, hDa, gD, nD, rs, hl, p⟩ y
    obtain ⟨d, G3, hd, W3, e3, r⟩ := y φi Gi wi W e.gro
    have ed : items.drop i = d :: items.drop (i + 1) := by
      rw [List.drop_eq_getElem_cons hi]
      congr 1
      rw [List.getElem?_eq_getElem hi] at hd
      exact Option.some.inj hd
    rw [ed, rem_cons] at p
    have st1 := (st.step e W).wipe tg
    have st3 := st1.step e3 W3
    cases hb : Mn.bindT (Mn.wipe ρ tg) tg one d with
    | none =>
      have hc : cF Φ elt tg one cond ρ d wi = .bad := by unfold cF; rw [hb]
      rw [hc] at p; exact p.elim
    | some ρ' =>
      have hc : cF Φ elt tg one cond ρ d wi = (Mn.evAnd Φ cond ρ' wi).bind fun c w => match Mn.truth c with
        | some true => (Mn.ev Φ elt ρ' w).bind fun d w => if Mn.isOwn d then .bad else .ok (some d) w
        | some false => .ok none w
        | none => .bad := by unfold cF; rw [hb]
      rw [hc] at p
      refine tg_ok hb st3 r fun σ2 st4 hw => ⟨by rw [hw, wipe_wipe], φi, G3, ρ', wi, st4, ?_⟩
      have eb := e.trans e3
      cases q1 : Mn.evAnd Φ cond ρ' wi with
      | bad => rw [q1] at p; exact p.elim
      | exc c w2 => rw [q1] at p; exact p.elim
      | ok c w2 =>
        rw [q1] at p
        simp only [Mn.Res.bind] at p
        cases q2 : Mn.truth c with
        | none => rw [q2] at p; exact p.elim
        | some k =>
          rw [q2] at p
          show Post T E0 RBool φi G3 H' _ (tru (Mn.evAnd Φ cond) ρ' wi)
          simp only [tru, q1, Mn.Res.bind, q2, Mn.Res.of]
          intro k' φ5 G5 H5 e5 W5 r5
          cases r5
          have hDa3 := e3.h Da _ hDa nt_lst nD
          have gD3 := e3.gn Da _ hDa nt_lst gD
          have nD3 := e3.wn Da _ hDa nt_lst nD
          have eb5 := eb.trans e5
          have rs5 := (rs.mono e3.phi e3.g).mono e5.phi e5.g
          have hDa5 := e5.h Da _ hDa3 nt_lst nD3
          have gD5 := e5.gn Da _ hDa3 nt_lst gD3
          have nD5 := e5.wn Da _ hDa3 nt_lst nD3
          cases k with
          | false =>
            simp only [Mn.Res.calm, Mn.Res.bind, Option.toList, List.append_nil] at p
            exact ⟨φ5, G5, w2, acc, vs, W5, eb5, hDa5, gD5, nD5, rs5, Nat.le_succ_of_le hl, p⟩
          | true =>
            refine ⟨φ5, G5, ρ', w2, st4.step e5 W5, ?_⟩
            cases q3 : Mn.ev Φ elt ρ' w2 with
            | bad => rw [q3] at p; exact p.elim
            | exc c w2 => rw [q3] at p; exact p.elim
            | ok dv w3 =>
              rw [q3] at p
              intro v φ6 G6 H6 e6 W6 r6
              simp only [Mn.Res.bind] at p
              cases ho : Mn.isOwn dv with
              | true => rw [ho] at p; exact p.elim
              | false =>
                simp only [ho, Bool.false_eq_true, if_false, Mn.Res.calm, Option.toList] at p
                have hDa6 := e6.h Da _ hDa5 nt_lst nD5
                have gD6 := e6.gn Da _ hDa5 nt_lst gD5
                have nD6 := e6.wn Da _ hDa5 nt_lst nD5
                refine ⟨vs, hDa6, Nat.lt_of_le_of_lt hl (Nat.lt_of_lt_of_le hi (Nat.le_trans hlim lim_line)), φ6, G6, w3, acc ++ [dv], vs ++ [v], W6.write _ gD6 nD6 hDa6 (by simp) (by simp), (eb5.trans e6).upd _ hD, upd_same, gD6, nD6, ?_, ?_, p⟩
                · exact (rs5.mono e6.phi e6.g).append (Reps.cons (r6.rep ho) Reps.nil)
                · rw [List.length_append]; simpa using hl
  · rintro H ⟨φi, Gi, wi, acc, vs, W, e, hDa, gD, nD, rs, _, p⟩
    rw [List.drop_length, rem_nil] at p
    exact hfin φi Gi H wi acc vs W e hDa gD nD rs p
/-- what a comprehension's text computes, its end as told -/
def lcF (Φ : PHI) (elt : Mn.E) (tg : List Nat) (one : Bool) (k : Mn.ItK) (its cond : List Mn.E) (fin : List Dt → Mn.W → Mn.Res Dt) : FE := fun ρ w => ((Mn.evs Φ its ρ w).bind fun ds w => Mn.Res.of (Mn.itemsOf k ds) w).bind fun items w => if Mn.LIM < items.length then .bad else rem (cF Φ elt tg one cond ρ) fin [] items w
theorem lc_ev {elt : Mn.E} {tg : List Nat} {one : Bool} {k : Mn.ItK} {its cond : List Mn.E} : Mn.ev Φ (.comp elt tg one k its cond) = lcF Φ elt tg one k its cond fun l w => .ok (.lst l) w := by
  funext ρ w
  simp only [Mn.ev, lcF, bind_assoc]
  congr 1
  funext ds w
  cases Mn.itemsOf k ds <;> rfl
theorem lc_evN {elt : Mn.E} {tg : List Nat} {one : Bool} {k : Mn.ItK} {its cond : List Mn.E} : (fun ρ w => (Mn.ev Φ (.comp elt tg one k its cond) ρ w).bind fun d w => Mn.Res.of (Mn.fresh d) w) = lcF Φ elt tg one k its cond fun l w => .ok (.own l) w := by
  funext ρ w
  rw [lc_ev]
  simp only [lcF, bind_assoc]
  congr 1
  funext ds w
  congr 1
  funext items w
  by_cases h : Mn.LIM < items.length
  · simp only [h, if_true]; rfl
  · simp only [h, if_false, rem, bind_assoc]
    rfl
theorem lc_tLc {R : List (List Addr) → Hp → Hp → Dt → V → Prop} {Q : VK} {tg : List Nat} {one : Bool} {k : Mn.ItK} {its cond : List Mn.E} {elt : Mn.E} {fin : List Dt → Mn.W → Mn.Res Dt} {σ : L2.St} {H : Hp} {φ : List (List Addr)} {G : Hp} {ρ : Mn.Env} {w : Mn.W} (st : StOk T e0 φ G H σ ρ w)
    (p : Post T E R φ G H Q (lcF Φ elt tg one k its cond fin ρ w))
    (hfin : ∀ φ1 G1 H1 φi Gi Hi wi acc vs Da, Evo φ G H φ1 G1 H1 → H1 Da = none → World T φi Gi Hi wi → Evo φ1 G1 H1 φi Gi Hi → Hi Da = some (.lst vs) → Gi Da = none → Da ∉ φi.flatten → Reps T φi Gi acc vs → Post T E R φ1 G1 H1 Q (fin acc wi) → Q (.ref Da) Hi) :
    tLc (VI T e0 E Φ k its) (tgR T.K tg one) (VAndT T e0 E0 Φ cond) (VE T e0 E0 Φ elt) tg σ H Q := by
  refine ⟨φ, G, ρ, w, st, Post.bind (fun items w1 J φ1 G1 H1 e1 W1 r1 p1 => ?_) p⟩
  intro Da hD
  by_cases h : Mn.LIM < items.length
  · rw [if_pos h] at p1; exact p1.elim
  · rw [if_neg h] at p1
    exact lc_core' r1 (Nat.le_of_not_lt h) (st.step e1 W1) hD p1 fun φi Gi Hi wi acc vs W e a b c d p => hfin φ1 G1 H1 φi Gi Hi wi acc vs Da e1 hD W e a b c d p
theorem e_lc {a : Expr} {tg : List Nat} {one : Bool} {k : Mn.ItK} {its cond : List Mn.E} {elt : Mn.E} (h : PE X a (tLc (VI T e0 E Φ k its) (tgR T.K tg one) (VAndT T e0 E0 Φ cond) (VE T e0 E0 Φ elt) tg)) : PE X a (VE T e0 E Φ (.comp elt tg one k its cond)) := by
  refine PE.imp h fun σ H Q ⟨φ, G, ρ, w, st, p⟩ => ?_
  rw [lc_ev] at p
  refine lc_tLc st p fun φ1 G1 H1 φi Gi Hi wi acc vs Da e1 hD W e hDa gD nD rs q => ?_
  refine q _ φi (upd Gi Da (.lst vs)) Hi ?_ (W.freeze hDa gD nD nt_lst) (rv_lst.mpr ⟨Da, vs, rfl, upd_same, rs.mono (List.prefix_refl _) (Le.upd _ gD)⟩)
  exact
  { phi := e.phi, g := e.g.trans (Le.upd _ gD), h := e.h, dom := e.dom
    gn := fun b u q t n => by rw [upd_ne (ne_of_none q hD)]; exact e.gn b u q t n
    wn := e.wn }
theorem n_lc {st : Stmt} {tg : List Nat} {one : Bool} {k : Mn.ItK} {its cond : List Mn.E} {elt : Mn.E} {i : Nat} (h : PS X st (tAsg (tLc (VI T e0 E Φ k its) (tgR T.K tg one) (VAndT T e0 E0 Φ cond) (VE T e0 E0 Φ elt) tg) (gName i))) : PS X st (tAsg (VN T e0 E Φ (.comp elt tg one k its cond)) (gName i)) := by
  refine PS.imp h fun D σ H ⟨φ, G, ρ, w, st, p⟩ => ?_
  have e' := congrFun (congrFun (lc_evN (Φ := Φ) (elt := elt) (tg := tg) (one := one) (k := k) (its := its) (cond := cond)) ρ) w
  replace p : Post T E (RNew T H) φ G H _ (lcF Φ elt tg one k its cond (fun l w => .ok (.own l) w) ρ w) := e' ▸ p
  refine lc_tLc st p fun φ1 G1 H1 φi Gi Hi wi acc vs Da e1 hD W e hDa gD nD rs q => ?_
  refine q _ φi Gi Hi e W ⟨Da, rfl, ⟨Da, vs, rfl, hDa, gD, nD, rs⟩, ?_⟩
  exact fr_of e1 (frT_none hD)
end
end Sn
end
section
set_option linter.all false
set_option maxRecDepth 100000
set_option maxHeartbeats 4000000
/-! Walks; lists that are changed; joins. -/
namespace Sn
open PySem PySem.Spec PyProof.Rows L2
theorem PI.imp {X : Cx} {tg e : Expr} {t t' : TI} (h : PI X tg e t) (i : ∀ σ H R, t' σ H R → t σ H R) : PI X tg e t' := ⟨fun pins s σ H R I q => h.run pins s σ H R I (i σ H R q)⟩
theorem PI.or {X : Cx} {tg e : Expr} {t t' : TI} (h : PI X tg e t) (h' : PI X tg e t') : PI X tg e (fun σ H R => t σ H R ∨ t' σ H R) := ⟨fun pins s σ H R I q => q.elim (h.run pins s σ H R I) (h'.run pins s σ H R I)⟩
theorem Post.bindE {α β γ δ : Type} {T : Sta} {E : XK} {R : List (List Addr) → Hp → Hp → α → γ → Prop} {R' : List (List Addr) → Hp → Hp → β → δ → Prop} {φ : List (List Addr)} {G H : Hp} {Q : γ → Hp → Prop} {Q' : δ → Hp → Prop} {k : β → Mn.W → Mn.Res α} {r : Mn.Res β}
    (h : Post T E R φ G H Q (r.bind k)) (hk : ∀ b w1 c φ1 G1 H1, r = .ok b w1 → Evo φ G H φ1 G1 H1 → World T φ1 G1 H1 w1 → R' φ1 G1 H1 b c → Post T E R φ1 G1 H1 Q (k b w1) → Q' c H1) : Post T E R' φ G H Q' r := by
  cases r with
  | ok b w1 => exact fun c φ1 G1 H1 e W q => hk b w1 c φ1 G1 H1 rfl e W q (Post.evo e (show Post T E R φ G H Q (k b w1) from h))
  | exc _ _ => exact h
  | bad => exact h
theorem len_one {l : List Dt} (h : l.length = 1) : ∃ d, l = [d] := by
  cases l with
  | nil => cases h
  | cons d l => cases l with
    | nil => exact ⟨d, rfl⟩
    | cons => simp at h
theorem len_two {l : List Dt} (h : l.length = 2) : ∃ d d2, l = [d, d2] := by
  cases l with
  | nil => cases h
  | cons d l =>
    obtain ⟨d2, rfl⟩ := len_one (by simpa using h)
    exact ⟨d, d2, rfl⟩
section
variable {T : Sta} {e0 : Snap} {E : XK} {X : Cx} {Φ : PHI} {N : Nat} {D : Ends} {φ φ' : List (List Addr)} {G G' H H' : Hp} {σ : L2.St} {ρ : Mn.Env} {w : Mn.W} {a b tg : Expr} {ma mb m : Mn.E} {ms : List Mn.E} {pos p p2 : Pos}
/-! ### walks -/
/-- items that stand -/
theorem yi_at {items : List Dt} {vs : List V} (r : Reps T φ G items vs) {i : Nat} {x : V} (h : H' = H) (e : vs[i]? = some x) : YI T φ G items i H x H' := by
  subst h
  intro φ2 G2 w W g
  have hi : i < items.length := by rw [← r.length]; exact (List.getElem?_eq_some_iff.mp e).1
  obtain ⟨v, h1, h2⟩ := r.get (List.getElem?_eq_getElem hi)
  rw [e] at h1
  cases h1
  exact ⟨_, G2, List.getElem?_eq_getElem hi, W, Evo.refl _ _ _, h2.mono g.1 g.2⟩
theorem wi_tup {items : List Dt} {vs : List V} {ad : Addr} (hG : G ad = some (.tup vs)) (r : Reps T φ G items vs) : WalkI T φ G (Itt T.K ad) items := by
  show Walk _ _ _ _
  rw [← r.length]
  exact walk_tup.mono (fun H ⟨φ2, G2, w, W, g⟩ => SqT.of (W.tup (g.2 _ _ hG))) fun i H x H' hi _ y => yi_at r y.1 y.2
theorem wi_lst {items : List Dt} {vs : List V} {ad : Addr} (hG : G ad = some (.lst vs)) (r : Reps T φ G items vs) : WalkI T φ G (Itl T.K ad) items := by
  show Walk _ _ _ _
  rw [← r.length]
  exact walk_list.mono (fun H ⟨φ2, G2, w, W, g⟩ => SqL.of (W.lst (g.2 _ _ hG))) fun i H x H' hi _ y => yi_at r y.1 y.2
theorem wi_str {s : List Nat} (ok : OkS s) : WalkI T φ G (Its (mkS s)) (s.map fun c => .str [c]) := by
  have w := walk_str (z := mkS s)
  have e : (s.map fun c => Mn.D.str [c]).length = (mkS s).cps.size := by simp [mkS]
  show Walk _ _ _ _
  rw [e]
  refine w.mono (fun _ _ => trivial) fun i H x H' hi _ y => ?_
  obtain ⟨rfl, c, hc, rfl⟩ := y
  intro φ2 G2 w W g
  have hc' : s[i]? = some c := by simpa [mkS] using hc
  refine ⟨.str [c], G2, by rw [List.getElem?_map, hc']; rfl, W, Evo.refl _ _ _, ?_⟩
  unfold Rep
  exact ⟨rfl, OkS.one (ok.2 c (List.mem_of_getElem? hc'))⟩
theorem rangeD_at : ∀ (n i : Nat) (lo : Int), i < n → (Mn.rangeD lo n)[i]? = some (.int (lo + i))
  | 0, _, _, h => by omega
  | n + 1, 0, lo, _ => by simp [Mn.rangeD]
  | n + 1, i + 1, lo, h => by
    show (Mn.rangeD (lo + 1) n)[i]? = _
    rw [rangeD_at n i (lo + 1) (by omega)]
    congr 2
    omega
theorem rangeD_len : ∀ (n : Nat) (lo : Int), (Mn.rangeD lo n).length = n
  | 0, _ => rfl
  | n + 1, lo => by simp [Mn.rangeD, rangeD_len n]
theorem wi_range {lo : Int} {n : Nat} : WalkI T φ G (Itr lo n) (Mn.rangeD lo n) := by
  show Walk _ _ _ _
  rw [rangeD_len]
  refine walk_range.mono (fun _ _ => trivial) fun i H x H' hi _ y => ?_
  obtain ⟨rfl, rfl⟩ := y
  intro φ2 G2 w W g
  refine ⟨_, G2, rangeD_at n i lo hi, W, Evo.refl _ _ _, ?_⟩
  unfold Rep
  rfl
/-- new pairs -/
theorem yi_pair {items : List Dt} {i : Nat} {x : V} (y : ∃ (Ta : Addr) (x1 x2 : V) (d1 d2 : Dt), x = .ref Ta ∧ H Ta = none ∧ H' = upd H Ta (.tup [x1, x2]) ∧ items[i]? = some (.tup [d1, d2]) ∧ Rep T φ G d1 x1 ∧ Rep T φ G d2 x2) : YI T φ G items i H x H' := by
  obtain ⟨Ta, x1, x2, d1, d2, rfl, hT, rfl, hi, r1, r2⟩ := y
  intro φ2 G2 w W g
  obtain ⟨W2, e2⟩ := W.fix (HO.tup [x1, x2]) hT nt_tup
  refine ⟨_, _, hi, W2, e2, ?_⟩
  unfold Rep
  exact ⟨Ta, _, rfl, upd_same, Reps.cons ((r1.mono g.1 g.2).mono e2.phi e2.g) (Reps.cons ((r2.mono g.1 g.2).mono e2.phi e2.g) Reps.nil)⟩
theorem zipD_at : ∀ (l m : List Dt) (i : Nat) (x y : Dt), l[i]? = some x → m[i]? = some y → (Mn.zipD l m)[i]? = some (.tup [x, y])
  | [], _, _, _, _, h, _ => by simp at h
  | _ :: _, [], _, _, _, _, h => by simp at h
  | a :: l, b :: m, 0, x, y, h1, h2 => by simp at h1 h2; subst h1 h2; simp [Mn.zipD]
  | a :: l, b :: m, i + 1, x, y, h1, h2 => by
    show (Mn.zipD l m)[i]? = _
    exact zipD_at l m i x y (by simpa using h1) (by simpa using h2)
theorem zipD_len : ∀ (l m : List Dt), (Mn.zipD l m).length = min l.length m.length
  | [], _ => by simp [Mn.zipD]
  | _ :: _, [] => by simp [Mn.zipD]
  | a :: l, b :: m => by simp [Mn.zipD, zipD_len l m]
theorem walk_zipT {K : PySem.W.Frag} {a b : Addr} {xs ys : List V} {n : Nat} (hn : n = min xs.length ys.length) : Walk (RZ.ItzT K a b) n (fun H => SqT K H a xs ∧ SqT K H b ys) (YPair (fun i => xs[i]?) (fun i => ys[i]?)) := by
  refine ⟨fun i H hi ⟨h1, h2⟩ => ⟨xs, ys, xs[i]'(by omega), ys[i]'(by omega), h1, h2, by simp, by simp⟩, fun H ⟨h1, h2⟩ => ⟨xs, ys, h1, h2, by omega⟩, fun i H x H' hi ⟨h1, h2⟩ y => ?_⟩
  obtain ⟨T, x, y, e1, e2, e3, e4⟩ := y
  exact ⟨T, x, y, e1, e2, e3, e4.1 xs h1, e4.2 ys h2⟩
theorem wi_pairs {J : It} {l m : List Dt} {xs ys : List V} {Gh : Hp → Prop} (w : Walk J (min xs.length ys.length) Gh (YPair (fun i => xs[i]?) (fun i => ys[i]?))) (hg : ∀ H, Gd T φ G H → Gh H) (r1 : Reps T φ G l xs) (r2 : Reps T φ G m ys) : WalkI T φ G J (Mn.zipD l m) := by
  show Walk _ _ _ _
  rw [zipD_len, ← r1.length, ← r2.length]
  refine w.mono hg fun i H x H' hi _ y => ?_
  obtain ⟨Ta, x1, x2, rfl, hT, rfl, h1, h2⟩ := y
  have hi1 : i < l.length := by rw [← r1.length]; exact (List.getElem?_eq_some_iff.mp h1).1
  have hi2 : i < m.length := by rw [← r2.length]; exact (List.getElem?_eq_some_iff.mp h2).1
  obtain ⟨v1, q1, q2⟩ := r1.get (List.getElem?_eq_getElem hi1)
  obtain ⟨v2, q3, q4⟩ := r2.get (List.getElem?_eq_getElem hi2)
  simp only at h1 h2
  rw [q1] at h1; cases h1
  rw [q3] at h2; cases h2
  exact yi_pair ⟨Ta, _, _, _, _, rfl, hT, rfl, zipD_at l m i _ _ (List.getElem?_eq_getElem hi1) (List.getElem?_eq_getElem hi2), q2, q4⟩
/-- for x in a list, a tuple, a text -/
theorem i_seq (ha : PE X a (VE T e0 E Φ ma)) (hK : X.K = T.K) : PI X tg a (VI T e0 E Φ .seq [ma]) := by
  refine PI.imp (PI.or (PI.or (pi_list ha) (pi_tup ha)) (pi_str ha)) fun σ H R ⟨φ, G, ρ, w, st, p⟩ => ?_
  simp only [Mn.evs, bind_assoc] at p
  cases q : Mn.ev Φ ma ρ w with
  | bad => rw [q] at p; exact p.elim
  | exc c w1 => exact .inl (.inl ⟨φ, G, ρ, w, st, by rw [q] at p ⊢; exact p⟩)
  | ok d w1 =>
    rw [q] at p
    replace p : Post T E (RIt T) φ G H R (Mn.Res.of (Mn.itemsD d) w1) := p
    obtain ⟨items, hit, p⟩ := p.ok_of
    cases d <;> simp only [Mn.itemsD, Option.some.injEq, reduceCtorEq] at hit
    · subst hit
      refine .inr ⟨φ, G, ρ, w, st, ?_⟩
      rw [q]
      intro v φ1 G1 H1 e1 W1 r1
      obtain ⟨rfl, ok⟩ := rv_str.mp r1
      exact ⟨_, rfl, p _ φ1 G1 H1 e1 W1 (wi_str ok)⟩
    · subst hit
      refine .inl (.inr ⟨φ, G, ρ, w, st, ?_⟩)
      rw [q]
      intro v φ1 G1 H1 e1 W1 r1
      obtain ⟨ad, vs, rfl, hq, r⟩ := rv_tup.mp r1
      rw [hK]
      exact ⟨ad, rfl, ⟨vs, SqT.of (W1.tup hq)⟩, p _ φ1 G1 H1 e1 W1 (wi_tup hq r)⟩
    · subst hit
      refine .inl (.inl ⟨φ, G, ρ, w, st, ?_⟩)
      rw [q]
      intro v φ1 G1 H1 e1 W1 r1
      obtain ⟨ad, vs, rfl, hq, r⟩ := rv_lst.mp r1
      rw [hK]
      exact ⟨ad, rfl, ⟨vs, SqL.of (W1.lst hq)⟩, p _ φ1 G1 H1 e1 W1 (wi_lst hq r)⟩
theorem i_range1 (hg : Gl X "range") (hm : X.mg "range" = none) (ha : PE X a (VE T e0 E Φ ma)) (hs : starEach [a] X.env = [(false, eval a X.env)] := by rfl) : PI X tg (.Call (.Name "range" p) [a] [] pos) (VI T e0 E Φ .range [ma]) := by
  refine PI.imp (pi_range1 hg hm (a_cons ha a_nil hs) hs) fun σ H R ⟨φ, G, ρ, w, st, p⟩ => ?_
  refine ⟨φ, G, ρ, w, st, Post.bindE p fun ds w1 xs φ1 G1 H1 ev e1 W1 r1 p1 => ?_⟩
  obtain ⟨items, hit, p1⟩ := p1.ok_of
  obtain ⟨d, rfl⟩ := len_one (evs_len _ _ _ _ _ ev)
  obtain ⟨v, rfl, rv⟩ := r1.one
  cases d <;> simp only [Mn.itemsOf, reduceCtorEq] at hit
  rename_i n
  split at hit <;> simp only [Option.some.injEq, reduceCtorEq] at hit
  rename_i hn
  subst hit
  exact ⟨n, by rw [rv_int.mp rv], by omega, by omega, p1 _ φ1 G1 H1 (Evo.refl _ _ _) W1 wi_range⟩
theorem i_range2 (hg : Gl X "range") (hm : X.mg "range" = none) (ha : PE X a (VE T e0 E Φ ma)) (hb : PE X b (VE T e0 E Φ mb)) (hs : starEach [a, b] X.env = [(false, eval a X.env), (false, eval b X.env)] := by rfl) (hs2 : starEach [b] X.env = [(false, eval b X.env)] := by rfl) :
    PI X tg (.Call (.Name "range" p) [a, b] [] pos) (VI T e0 E Φ .range [ma, mb]) := by
  refine PI.imp (pi_range2 hg hm (a_cons ha (a_cons hb a_nil hs2) (by rw [hs, hs2])) hs hs2) fun σ H R ⟨φ, G, ρ, w, st, p⟩ => ?_
  refine ⟨φ, G, ρ, w, st, Post.bindE p fun ds w1 xs φ1 G1 H1 ev e1 W1 r1 p1 => ?_⟩
  obtain ⟨items, hit, p1⟩ := p1.ok_of
  obtain ⟨d, d2, rfl⟩ := len_two (evs_len _ _ _ _ _ ev)
  obtain ⟨v, v2, rfl, rv, rv2⟩ := r1.two
  cases d <;> cases d2 <;> simp only [Mn.itemsOf, reduceCtorEq] at hit
  rename_i n n2
  split at hit <;> simp only [Option.some.injEq, reduceCtorEq] at hit
  rename_i hn
  subst hit
  exact ⟨n, n2, by rw [rv_int.mp rv, rv_int.mp rv2], by omega, p1 _ φ1 G1 H1 (Evo.refl _ _ _) W1 wi_range⟩
theorem i_zip {elts : List Expr} {kk : Nat} {tpos : Pos} (hK : X.K = T.K) (hg : Gl X "zip") (hm : X.mg "zip" = none) (ha : PE X a (VE T e0 E Φ ma)) (hb : PE X b (VE T e0 E Φ mb)) (hs : starEach [a, b] X.env = (false, eval a X.env) :: starEach [b] X.env := by rfl) (hs2 : starEach [b] X.env = (false, eval b X.env) :: starEach [] X.env := by rfl)
    (hpl : (backTo pos (starEach [b] X.env)).any (·.1) = false := by rfl) :
    PI X (.Tuple elts kk tpos) (.Call (.Name "zip" p) [a, b] [] pos) (VI T e0 E Φ .zip [ma, mb]) := by
  refine PI.imp (RZ.pi_zipA hg hm (a_cons ha (a_cons hb a_nil hs2) hs) hs hpl) fun σ H R ⟨φ, G, ρ, w, st, p⟩ => ?_
  refine ⟨φ, G, ρ, w, st, Post.bindE p fun ds w1 xs φ1 G1 H1 ev e1 W1 r1 p1 => ?_⟩
  obtain ⟨items, hit, p1⟩ := p1.ok_of
  obtain ⟨d, d2, rfl⟩ := len_two (evs_len _ _ _ _ _ ev)
  obtain ⟨v, v2, rfl, rv, rv2⟩ := r1.two
  rw [hK]
  cases d <;> cases d2 <;> simp only [Mn.itemsOf, Option.some.injEq, reduceCtorEq] at hit
  · subst hit
    obtain ⟨a1, vs1, rfl, q1, r3⟩ := rv_tup.mp rv
    obtain ⟨a2, vs2, rfl, q2, r4⟩ := rv_tup.mp rv2
    refine ⟨a1, a2, vs1, vs2, rfl, .inr ⟨SqT.of (W1.tup q1), SqT.of (W1.tup q2), p1 _ φ1 G1 H1 (Evo.refl _ _ _) W1 ?_⟩⟩
    exact wi_pairs (walk_zipT rfl) (fun H ⟨φ2, G2, w, W, g⟩ => ⟨SqT.of (W.tup (g.2 _ _ q1)), SqT.of (W.tup (g.2 _ _ q2))⟩) r3 r4
  · subst hit
    obtain ⟨a1, vs1, rfl, q1, r3⟩ := rv_lst.mp rv
    obtain ⟨a2, vs2, rfl, q2, r4⟩ := rv_lst.mp rv2
    refine ⟨a1, a2, vs1, vs2, rfl, .inl ⟨SqL.of (W1.lst q1), SqL.of (W1.lst q2), p1 _ φ1 G1 H1 (Evo.refl _ _ _) W1 ?_⟩⟩
    exact wi_pairs (walk_zip rfl) (fun H ⟨φ2, G2, w, W, g⟩ => ⟨SqL.of (W.lst (g.2 _ _ q1)), SqL.of (W.lst (g.2 _ _ q2))⟩) r3 r4
/-! ### lists that are changed -/
theorem at_slot {i : Nat} {d : Dt} (e : ρ.at i = some d) : ρ[i]? = some (some d) := by
  unfold Mn.Env.at at e
  cases z : ρ[i]? with
  | none => rw [z] at e; simp at e
  | some o => rw [z] at e; simp at e; rw [e]
theorem StOk.ownL (st : StOk T e0 φ G H σ ρ w) {i : Nat} {l : List Dt} (e : ρ.at i = some (.own l)) : ∃ a vs, σ[i]? = some (some (.ref a)) ∧ H a = some (.lst vs) ∧ Reps T φ G l vs ∧ G a = none ∧ a ∉ φ.flatten := by
  obtain ⟨v, h1, a, vs, rfl, h2, g, n, r⟩ := st.slot i _ (at_slot e)
  exact ⟨a, vs, h1, h2, r, g, n⟩
/-- the list in its slot is changed: what stands behind -/
theorem StOk.setL (st : StOk T e0 φ G H σ ρ w) {i : Nat} {l l' : List Dt} {a : Addr} {vs' : List V} (e : ρ.at i = some (.own l)) (hs : σ[i]? = some (some (.ref a))) (g : G a = none) (n : a ∉ φ.flatten) (r : Reps T φ G l' vs') : StOk T e0 φ G (upd H a (.lst vs')) σ (ρ.put i (.own l')) w :=
  st.putOwn (at_slot e) rfl hs ⟨a, vs', rfl, upd_same, g, n, r⟩ rfl
/-- xs.append(e) -/
theorem s_app {i : Nat} {st : Stmt} (hK : X.K = T.K) (h : PS X st (tDrop (tBM X.K "list" rAppend (tVar i) (tCons (VE T e0 E Φ m) tNil)))) : PS X st (VS T e0 E Φ N (.app i m)) := by
  refine PS.imp h fun D σ H ⟨φ, G, ρ, w, st, p⟩ => ?_
  simp only [Mn.run] at p
  cases z : ρ.at i with
  | none => rw [z] at p; exact p.elim
  | some di =>
    rw [z] at p
    cases di <;> try exact p.elim
    rename_i l
    obtain ⟨a, vs, h1, h2, h3, h4, h5⟩ := st.ownL z
    refine ⟨.ref a, h1, .inl ⟨rfl, vs, SqL.of h2⟩, φ, G, ρ, w, st, PostS.of_toS st (fun d w1 v φ1 G1 H1 e1 st1 r1 p => ?_) p⟩
    obtain ⟨a', vs', h1', h2', h3', h4', h5'⟩ := st1.ownL z
    rw [h1] at h1'
    cases h1'
    by_cases hc : (Mn.isOwn d || decide (Mn.LIM ≤ l.length)) = true
    · simp only [hc, if_true] at p; exact p.elim
    · simp only [hc, if_false] at p
      simp only [Bool.or_eq_true, decide_eq_true_eq, not_or, Nat.not_le, Bool.not_eq_true] at hc
      refine ⟨a, vs', v, rfl, rfl, h2', by rw [h3'.length]; exact Nat.lt_of_lt_of_le hc.2 lim_line, ?_⟩
      exact p φ1 G1 _ σ (Gro.refl _ _) (st1.setL z h1 h4' h5' (h3'.append (Reps.cons (r1.rep hc.1) Reps.nil)))
/-- xs.extend(e) -/
theorem s_ext {i : Nat} {st : Stmt} (hK : X.K = T.K) (h : PS X st (tDrop (tBM X.K "list" rExtend (tVar i) (tCons (VE T e0 E Φ m) tNil)))) : PS X st (VS T e0 E Φ N (.ext i m)) := by
  refine PS.imp h fun D σ H ⟨φ, G, ρ, w, st, p⟩ => ?_
  simp only [Mn.run] at p
  cases z : ρ.at i with
  | none => rw [z] at p; exact p.elim
  | some di =>
    rw [z] at p
    cases di <;> try exact p.elim
    rename_i l
    obtain ⟨a, vs, h1, h2, h3, h4, h5⟩ := st.ownL z
    refine ⟨.ref a, h1, .inl ⟨rfl, vs, SqL.of h2⟩, φ, G, ρ, w, st, PostS.of_toS st (fun d w1 v φ1 G1 H1 e1 st1 r1 p => ?_) p⟩
    obtain ⟨a', vs', h1', h2', h3', h4', h5'⟩ := st1.ownL z
    rw [h1] at h1'
    cases h1'
    cases d <;> try exact p.elim
    rename_i l2
    obtain ⟨b, us, rfl, hb, rb⟩ := rv_lst.mp r1
    by_cases hc : l.length + l2.length ≤ Mn.LIM
    · simp only [hc, if_true] at p
      refine ⟨a, b, vs', us, rfl, rfl, h2', st1.world.lst hb, by rw [h3'.length, rb.length]; exact Nat.le_trans hc lim_line, ?_⟩
      exact p φ1 G1 _ σ (Gro.refl _ _) (st1.setL z h1 h4' h5' (h3'.append rb))
    · simp only [hc, if_false] at p; exact p.elim
/-- xs[i] = e -/
theorem s_setl {i : Nat} {st : Stmt} (h : PS X st (tAsg (VE T e0 E Φ m) (gSub (tVar i) (VE T e0 E Φ ma) rSetL))) : PS X st (VS T e0 E Φ N (.setl i ma m)) := by
  refine PS.imp h fun D σ H ⟨φ, G, ρ, w, st, p⟩ => ?_
  simp only [Mn.run] at p
  refine ⟨φ, G, ρ, w, st, PostS.of_toS st (fun d w1 v φ1 G1 H1 e1 st1 r1 p => ?_) p⟩
  cases z : ρ.at i with
  | none => rw [z] at p; exact p.elim
  | some di =>
    rw [z] at p
    cases di <;> try exact p.elim
    rename_i l
    obtain ⟨a, vs, h1, h2, h3, h4, h5⟩ := st1.ownL z
    refine ⟨.ref a, h1, φ1, G1, ρ, w1, st1, PostS.of_toS st1 (fun k w2 kv φ2 G2 H2 e2 st2 r2 p => ?_) p⟩
    obtain ⟨a', vs', h1', h2', h3', h4', h5'⟩ := st2.ownL z
    rw [h1] at h1'
    cases h1'
    cases k <;> try exact p.elim
    rename_i zi
    simp only at p
    cases zj : Mn.ixN l.length zi with
    | none => rw [zj] at p; exact p.elim
    | some j =>
      rw [zj] at p
      cases ho : Mn.isOwn d with
      | true => simp only [ho, if_true] at p; exact p.elim
      | false =>
        simp only [ho, Bool.false_eq_true, if_false] at p
        refine ⟨a, vs', zi, j, rfl, rv_int.mp r2, h2', by rw [h3'.length]; exact zj, ?_⟩
        exact p φ2 G2 _ σ (Gro.refl _ _) (st2.setL z h1 h4' h5' (h3'.set ((r1.evo e2).rep ho) j))
/-! ### fresh lists -/
/-- a new list, told by its items -/
theorem new_of {Q : VK} {l : List Dt} {vs : List V} {w : Mn.W} {H0 : Hp} (W : World T φ G H w) (r : Reps T φ G l vs) (h0 : ∀ a, FrT H a → FrT H0 a)
    (k : ∀ v φ' G' H', Evo φ G H φ' G' H' → World T φ' G' H' w → RNew T H0 φ' G' H' (.own l) v → Q v H') : ∀ p, H p = none → Q (.ref p) (upd H p (.lst vs)) := fun p hp => by
  obtain ⟨W2, e2⟩ := W.lay (HO.lst vs) hp
  exact k _ φ _ _ e2 W2 ⟨p, rfl, ⟨p, vs, rfl, upd_same, W.gnone hp, W.notw hp, r⟩, h0 p (frT_none hp)⟩
/-- [..] * n as a new list -/
theorem n_mul (ha : PE X a (VE T e0 E Φ ma)) (hb : PE X b (VE T e0 E Φ mb)) : PE X (.BinOp a .Mult b pos) (VN T e0 E Φ (.bin .mul ma mb)) := by
  refine PE.imp (pe_op op_rep ha hb) fun σ H Q ⟨φ, G, ρ, w, st, p⟩ => ?_
  simp only [Mn.ev, bind_assoc] at p
  refine ⟨φ, G, ρ, w, st, p.bind fun dx w1 x φ1 G1 H1 e1 W1 r1 p1 => ?_⟩
  refine ⟨φ1, G1, ρ, w1, st.step e1 W1, p1.bind fun dy w2 y φ2 G2 H2 e2 W2 r2 p2 => ?_⟩
  cases e : Mn.binop .mul dx dy with
  | none => rw [e] at p2; exact p2.elim
  | some d =>
    rw [e] at p2
    rcases mul_inv e with ⟨a, b, rfl, rfl, h, rfl⟩ | ⟨a, b, rfl, rfl, h, rfl⟩ | ⟨a, b, rfl, rfl, h, rfl⟩ | ⟨a, b, rfl, rfl, h, rfl⟩
    · exact p2.elim
    · exact p2.elim
    · exact p2.elim
    · obtain ⟨q, vs, rfl, hq, rq⟩ := rv_lst.mp (r1.evo e2)
      refine ⟨q, b, vs, rfl, rv_int.mp r2, W2.lst hq, by omega, by omega, by rw [rq.length]; exact Nat.le_trans h.1 lim_line, ?_⟩
      exact new_of W2 (rq.rep _) (fun a z => fr_of e1 (fr_of e2 z)) fun v φ' G' H' e' W' r' => p2 v φ' G' H' e' W' r'
/-- [a, ..] as a new list -/
theorem n_lst {es : List Expr} (h : PA X es (VA T e0 E Φ ms)) (hz : ms.length ≤ 1000 := by decide) : PE X (.List es pos) (VN T e0 E Φ (.lst ms)) := by
  refine PE.imp (pe_lst h) fun σ H Q ⟨φ, G, ρ, w, st, p⟩ => ?_
  simp only [Mn.ev, bind_assoc] at p
  refine ⟨φ, G, ρ, w, st, Post.bindE p fun ds w1 xs φ1 G1 H1 ev e1 W1 r1 p1 => ?_⟩
  cases ho : ds.any Mn.isOwn with
  | true => simp only [ho, if_true] at p1; exact p1.elim
  | false =>
    simp only [ho, Bool.false_eq_true, if_false] at p1
    have rs := r1.reps ho
    refine ⟨by rw [rs.length, evs_len _ _ _ _ _ ev]; exact Nat.le_trans hz (by decide), ?_⟩
    exact new_of W1 rs (fun a z => fr_of e1 z) fun v φ' G' H' e' W' r' => p1 v φ' G' H' e' W' r'
/-! ### join -/
theorem joinS_eq : ∀ (sep : List Nat) (l : List (List Nat)), TL.joinL sep l = Mn.joinS sep l
  | _, [] => rfl
  | _, [x] => rfl
  | sep, x :: y :: r => by
    show x ++ (sep ++ TL.joinL sep (y :: r)) = x ++ sep ++ Mn.joinS sep (y :: r)
    rw [← joinS_eq sep (y :: r), List.append_assoc]
theorem join_mk (sep : List Nat) (l : List (List Nat)) : Txt.join (mkS sep) (l.map mkS) = mkS (Mn.joinS sep l) := by
  apply TL.ext_tl
  rw [TL.join_eq, TL.tl_join, List.map_map]
  have : (l.map (TL.tl ∘ mkS)) = l := by
    rw [show (TL.tl ∘ mkS) = id from rfl, List.map_id]
  rw [this, tl_mkS, tl_mkS, joinS_eq]
theorem joinS_mem : ∀ (sep : List Nat) (l : List (List Nat)) (c : Nat), c ∈ Mn.joinS sep l → c ∈ sep ∨ ∃ s ∈ l, c ∈ s
  | _, [], c, h => by simp [Mn.joinS] at h
  | _, [x], c, h => .inr ⟨x, by simp, h⟩
  | sep, x :: y :: r, c, h => by
    unfold Mn.joinS at h
    rcases List.mem_append.mp h with h | h
    · rcases List.mem_append.mp h with h | h
      · exact .inr ⟨x, by simp, h⟩
      · exact .inl h
    · rcases joinS_mem sep (y :: r) c h with h | ⟨s, h1, h2⟩
      · exact .inl h
      · exact .inr ⟨s, List.mem_cons_of_mem _ h1, h2⟩
theorem joinS_len : ∀ (sep : List Nat) (l : List (List Nat)), (Mn.joinS sep l).length ≤ (l.map List.length).sum + l.length * sep.length
  | _, [] => by simp [Mn.joinS]
  | _, [x] => by simp [Mn.joinS]
  | sep, x :: y :: r => by
    have := joinS_len sep (y :: r)
    simp only [Mn.joinS, List.length_append, List.map_cons, List.sum_cons, List.length_cons] at *
    have e : (r.length + 1 + 1) * sep.length = (r.length + 1) * sep.length + sep.length := by rw [Nat.add_mul (r.length + 1) 1, Nat.one_mul]
    omega
theorem mtS_join : MtS T (fun x xs H Q => ∃ a p, ∃ ys : List Str, x = .str a ∧ xs = [.ref p] ∧ (SqL T.K H p (ys.map V.str) ∨ SqT T.K H p (ys.map V.str)) ∧
    (ys.map (·.length)).sum + ys.length * a.length ≤ 16777216 ∧ Q (.str (Txt.join a ys)) H) (Mn.mtd .join) := by
  intro φ G H w x xs dx ds d Q W rx rs e k
  replace e : Mn.mJoin dx ds = some d := e
  unfold Mn.mJoin at e
  split at e
  · rename_i sep dl
    obtain ⟨v, rfl, rv⟩ := rs.one
    obtain ⟨l, h1, h2⟩ := Option.bind_eq_some_iff.mp e
    obtain ⟨ss, h3, h4⟩ := Option.bind_eq_some_iff.mp h2
    split at h4 <;> simp only [Option.some.injEq, reduceCtorEq] at h4
    rename_i hz
    subst h4
    obtain ⟨a, vs, rfl, hq, r⟩ := rv.seq W h1
    obtain ⟨rfl, hs⟩ := strs_of r h3
    obtain ⟨rfl, ok⟩ := rv_str.mp rx
    have em : ss.map (fun s => V.str (mkS s)) = (ss.map mkS).map V.str := by rw [List.map_map]; rfl
    rw [em] at hq
    have es : ((ss.map mkS).map (·.length)).sum = (ss.map List.length).sum := by
      rw [List.map_map]; congr 1
    have hlen : (ss.map List.length).sum + ss.length * sep.length ≤ Mn.LIM := by rw [Nat.mul_comm ss.length]; exact hz
    refine ⟨mkS sep, a, ss.map mkS, rfl, rfl, hq.elim (fun z => .inr (SqT.of z)) (fun z => .inl (SqL.of z)), ?_, ?_⟩
    · rw [es, List.length_map, mkS_len]; exact Nat.le_trans hlen (by decide)
    · rw [join_mk]
      refine Ends'.here k W (rv_str.mpr ⟨rfl, Nat.le_trans (joinS_len sep ss) (Nat.le_trans hlen lim_line), fun c hc => ?_⟩)
      rcases joinS_mem sep ss c hc with h | ⟨s, h5, h6⟩
      · exact ok.2 c h
      · exact (hs s h5).2 c h6
  · cases e
/-- a text's method with one argument -/
theorem e_m1 {M : Mn.M} {id : String} {name : Str} {apos pos : Pos} {r : V → List V → Hp → VK → Prop} (slot : Slot "str" name id) (ty : typeOf (.builtin id) = pure (.type "method_descriptor")) (rule : MtR X id r) (hs : MtS T r (Mn.mtd M)) (hi : ∀ d, Mn.rcv M d = true → ∃ s, d = .str s)
    (ho : PE X a (VE T e0 E Φ ma)) (he : PE X b (VE T e0 E Φ mb))
    (hst : starEach [b] X.env = [(false, eval b X.env)] := by rfl) (hbase : attributeBase a name X.env (eval a X.env) = eval a X.env := by rfl) (hline : (apos.endLine == pos.line) = true := by rfl) :
    PE X (.Call (.Attribute a name apos) [b] [] pos) (VE T e0 E Φ (.mt M ma [mb])) := by
  refine PE.imp (pe_m1 slot ty rule ho he hst hbase hline) fun σ H Q ⟨φ, G, ρ, w, st, p⟩ => ?_
  simp only [Mn.ev, Mn.evs, bind_assoc] at p
  refine ⟨φ, G, ρ, w, st, p.bind fun d w1 v φ1 G1 H1 e1 W1 r1 p1 => ?_⟩
  cases hr : Mn.rcv M d with
  | false => simp only [hr, Bool.false_eq_true, if_false] at p1; exact p1.elim
  | true =>
    simp only [hr, if_true] at p1
    obtain ⟨s, rfl⟩ := hi d hr
    refine ⟨⟨mkS s, (rv_str.mp r1).1⟩, φ1, G1, ρ, w1, st.step e1 W1, p1.bind fun d2 w2 v2 φ2 G2 H2 e2 W2 r2 p2 => ?_⟩
    replace p2 : Post T E (RepV T) φ2 G2 H2 Q (Mn.Res.of (Mn.mtd M (.str s) [d2]) w2) := p2
    obtain ⟨d', e, p3⟩ := p2.ok_of
    exact hs φ2 G2 H2 w2 v [v2] (.str s) [d2] d' Q W2 (r1.evo e2) ⟨v2, [], rfl, r2, rfl⟩ e fun v φ' G' H' e' W' r' => p3 v φ' G' H' e' W' r'
theorem e_join {apos pos : Pos} (hK : X.K = T.K) (ho : PE X a (VE T e0 E Φ ma)) (he : PE X b (VE T e0 E Φ mb))
    (hst : starEach [b] X.env = [(false, eval b X.env)] := by rfl) (hbase : attributeBase a "join" X.env (eval a X.env) = eval a X.env := by rfl) (hline : (apos.endLine == pos.line) = true := by rfl) :
    PE X (.Call (.Attribute a "join" apos) [b] [] pos) (VE T e0 E Φ (.mt .join ma [mb])) :=
  e_m1 F.slot_str_join F.type_str_join mt_join (by rw [hK]; exact mtS_join) (fun d h => by cases d <;> simp [Mn.rcv] at h; exact ⟨_, rfl⟩) ho he hst hbase hline
end
end Sn
end
section
set_option linter.all false
set_option maxRecDepth 100000
set_option maxHeartbeats 4000000
/-! Defs: what each keeps, calls by name, bodies. -/
namespace Sn
open PySem PySem.Spec PyProof.Rows L2
/-- the def of number n, named x, stands and keeps its promise -/
def Cal (P : Program) (w : PySem.World) (K : PySem.W.Frag) (mg : Str → Option Value) (base : Heap) (T : Sta) (k : Nat) (Φ : PHI) (n : Nat) (x : Str) (ps : List Str) (st : Stmt) : Prop :=
  mg x = some (.ref (T.fa n)) ∧ ∃ fd, Fun K x x st (T.fa n) fd ∧ Binds K fd ps [] ∧ FnOk P w K mg base (L2.CX P w) k (T.fa n) fd ps (spD T Φ ps.length n)
/-- how keywords behind the positional arguments bind -/
def KB (st : Stmt) (x : Str) (ps ks : List Str) (m : Nat) : Prop := ∀ (kV doc pm : Value) (an : Option Addr) (cdv ct : Value) (us ws : List Value), us.length = m → ws.length = ks.length →
  bindArgs (PySem.W.fnOf x x (defArgs st) (defBody st) (defScope st) .none kV doc pm an cdv ct) ⟨us, ks.zip ws⟩ = pure (ps.zip (us ++ ws))
section
variable {T : Sta} {e0 : Snap} {E : XK} {X : Cx} {Φ : PHI} {a b c : Expr} {es rest : List Expr} {ma mb mc : Mn.E} {ms mks : List Mn.E} {pos p2 p : Pos} {k : Nat} {ps ks : List Str} {x : Str} {n : Nat} {st : Stmt} {kws : List Keyword}
theorem e_callC (C : Cal X.prog X.w X.K X.mg X.base T k Φ n x ps st) (hr : Room k X.A) (hg : Gl X x) (hx : Passes (L2.CX X.prog X.w) X E)
    (ha : PA X (a :: es) (VA T e0 E Φ ms)) (hn : ms.length = ps.length := by rfl) (hdb : (x == ("__debug__" : Str)) = false := by decide) (he : starEach (a :: es) X.env = (false, eval a X.env) :: starEach es X.env := by rfl) (hpl : (backTo pos (starEach es X.env)).any (·.1) = false := by rfl) :
    PE X (.Call (.Name x p) (a :: es) [] pos) (VE T e0 E Φ (.call n ms)) := by
  obtain ⟨hm, fd, F, hb, F2⟩ := C
  exact e_call F2 hr hg hm F.kp hb hx ha hn hdb he hpl
theorem e_callC0 (C : Cal X.prog X.w X.K X.mg X.base T k Φ n x [] st) (hr : Room k X.A) (hg : Gl X x) (hx : Passes (L2.CX X.prog X.w) X E) (hdb : (x == ("__debug__" : Str)) = false := by decide) :
    PE X (.Call (.Name x p) [] [] pos) (VE T e0 E Φ (.call n [])) := by
  obtain ⟨hm, fd, F, hb, F2⟩ := C
  exact e_call0 F2 hr hg hm F.kp hb hx hdb
theorem evs_app : ∀ (l m : List Mn.E) (ρ : Mn.Env) (w : Mn.W), Mn.evs Φ (l ++ m) ρ w = (Mn.evs Φ l ρ w).bind fun ds w => (Mn.evs Φ m ρ w).bind fun es w => .ok (ds ++ es) w
  | [], m, ρ, w => by
    simp only [List.nil_append, Mn.evs, Mn.Res.bind]
    cases Mn.evs Φ m ρ w <;> rfl
  | e :: l, m, ρ, w => by
    simp only [List.cons_append, Mn.evs, bind_assoc]
    congr 1
    funext d w
    rw [evs_app l m ρ w, bind_assoc]
    congr 1
    funext ds w
    show ((Mn.evs Φ m ρ w).bind fun es w => Mn.Res.ok (ds ++ es) w).bind (fun l w => Mn.Res.ok (d :: l) w) = (Mn.evs Φ m ρ w).bind fun es w => Mn.Res.ok ((d :: ds) ++ es) w
    cases Mn.evs Φ m ρ w <;> rfl
theorem RepVs.app {φ : List (List Addr)} {G H : Hp} : ∀ {l m : List Dt} {vs us : List V}, RepVs T φ G H l vs → RepVs T φ G H m us → RepVs T φ G H (l ++ m) (vs ++ us)
  | [], _, _, _, h, q => by cases h; exact q
  | _ :: _, _, _, _, ⟨v, r, e, h1, h2⟩, q => ⟨v, r ++ _, by rw [e]; rfl, h1, RepVs.app h2 q⟩
/-- a keyword's value as an argument list's -/
theorem k_nil : PK X [] (VA T e0 E Φ []) := ⟨fun pos pins s σ H Q I ⟨φ, G, ρ, w, st, p⟩ => pk_nil.run pos pins s σ H Q I (p [] φ G H (Evo.refl _ _ _) st.world rfl)⟩
theorem k_cons {nm : Option Str} {kp : Pos} (he : PE X a (VE T e0 E Φ ma)) (hr : PK X kws (VA T e0 E Φ ms)) : PK X (⟨nm, a, kp⟩ :: kws) (VA T e0 E Φ (ma :: ms)) := by
  refine ⟨fun pos pins s σ H Q I ⟨φ, G, ρ, w, st, p⟩ => (pk_cons he hr).run pos pins s σ H Q I ⟨φ, G, ρ, w, st, p.bind fun d w1 x φ1 G1 H1 e1 W1 r1 p1 => ?_⟩⟩
  refine ⟨φ1, G1, ρ, w1, st.step e1 W1, p1.bind fun l w2 xs φ2 G2 H2 e2 W2 r2 p2 => ?_⟩
  exact p2 (x :: xs) φ2 G2 H2 (Evo.refl _ _ _) W2 ⟨x, xs, rfl, r1.evo e2, r2⟩
theorem kbinds {K : PySem.W.Frag} {f : Addr} {fd : FuncData} {m : Nat} (F : Fun K x x st f fd) (h : KB st x ps ks m) (hm : m + ks.length = ps.length) : ∀ (s : Shared) (us ws : List Value), us.length = m → ws.length = ks.length → BindsTo s fd ⟨us, ks.zip ws⟩ (ps.zip (us ++ ws)) := by
  obtain ⟨oc, od, kV, doc, pm, an, cdv, ct, osl, rfl, lk, hcd⟩ := F.ex
  exact fun s us ws h1 h2 => BindsTo.of_eq (h kV doc pm an cdv ct us ws h1 h2)
/-- the readings side by side -/
theorem call_ends {φ : List (List Addr)} {G H : Hp} {ρ : Mn.Env} {w : Mn.W} {Q : VK} {σ : L2.St} {sp : Sp} (so : StOk T e0 φ G H σ ρ w) (hn : (ms ++ mks).length = ps.length) (p : Post T E (RepV T) φ G H Q (Mn.ev Φ (.call n (ms ++ mks)) ρ w)) :
    Post T E (RepVs T) φ G H (fun vs H1 => VA T e0 E Φ mks σ H1 fun zs H2 => spD T Φ ps.length n (vs ++ zs) H2 Q E) (Mn.evs Φ ms ρ w) := by
  simp only [Mn.ev, evs_app, bind_assoc] at p
  refine Post.bindE p fun ds w1 vs φ1 G1 H1 ev1 e1 W1 r1 p1 => ?_
  refine ⟨φ1, G1, ρ, w1, so.step e1 W1, Post.bindE p1 fun ds2 w2 zs φ2 G2 H2 ev2 e2 W2 r2 p2 => ?_⟩
  simp only [Mn.Res.bind] at p2
  cases ho : (ds ++ ds2).any Mn.isOwn with
  | true => simp only [ho, if_true] at p2; exact p2.elim
  | false =>
    simp only [ho, Bool.false_eq_true, if_false] at p2
    have rs := ((r1.evo e2).app r2).reps ho
    refine ⟨?_, φ2, G2, w2, ds ++ ds2, W2, rs, ho, p2⟩
    rw [rs.length, List.length_append, evs_len _ _ _ _ _ ev1, evs_len _ _ _ _ _ ev2, ← List.length_append, hn]
/-- f(a, .., k = v, ..) -/
theorem e_callK (C : Cal X.prog X.w X.K X.mg X.base T k Φ n x ps st) (kb : KB st x ps ks (a :: es).length) (hr : Room k X.A) (hg : Gl X x) (hx : Passes (L2.CX X.prog X.w) X E)
    (ha : PA X (a :: es) (VA T e0 E Φ ms)) (hkw : PK X kws (VA T e0 E Φ mks)) (hl : (a :: es).length + ks.length = ps.length := by rfl) (hn : (ms ++ mks).length = ps.length := by rfl) (hn1 : ms.length = (a :: es).length := by rfl)
    (hall : (backToKw pos (keywordEach kws X.env)).all (·.1.isSome) = true := by rfl) (hks : (backToKw pos (keywordEach kws X.env)).filterMap (·.1) = ks := by rfl)
    (hdb : (x == ("__debug__" : Str)) = false := by decide) (he : starEach (a :: es) X.env = (false, eval a X.env) :: starEach es X.env := by rfl)
    (hpl : ((backTo pos (starEach (a :: es) X.env)).any (·.1) || (backToKw pos (keywordEach kws X.env)).any (·.1.isNone)) = false := by rfl) :
    PE X (.Call (.Name x p) (a :: es) kws pos) (VE T e0 E Φ (.call n (ms ++ mks))) := by
  obtain ⟨hm, fd, F, hb, F2⟩ := C
  refine ⟨fun pins s σ H Q I ⟨φ, G, ρ, w, so, h⟩ => ?_⟩
  have hend := call_ends (sp := spD T Φ ps.length n) so hn h
  have hnm : mks.length = ks.length := by
    have e1 := hn
    rw [List.length_append, hn1, ← hl] at e1
    omega
  refine wpAny_Call_Name_kw (ld_glob I hg hm ?_ hdb)
  refine PySem.W.callWith_KW (h₀ := X.base) I.ok.mod.kin F.kp hall (thn (ha.run pos pins s σ H (fun vs H1 => vs.length = (a :: es).length ∧ VA T e0 E Φ mks σ H1 fun zs H2 => zs.length = ks.length ∧ spD T Φ ps.length n (vs ++ zs) H2 Q E) I ?_) fun us s1 ⟨vs, H1, I1, r, hvl, q⟩ => ?_) hpl he
  · refine ⟨φ, G, ρ, w, so, ?_⟩
    cases ev : Mn.evs Φ ms ρ w with
    | bad => rw [ev] at hend; exact hend
    | exc c w1 => rw [ev] at hend; exact hend
    | ok ds w1 =>
      rw [ev] at hend
      intro vs φ1 G1 H1 e1 W1 r1
      have rl : ∀ {l : List Dt} {vs : List V}, RepVs T φ1 G1 H1 l vs → vs.length = l.length := by
        intro l
        induction l with
        | nil => intro vs h; cases h; rfl
        | cons d l ih => intro vs ⟨v, r, e, _, h2⟩; rw [e]; simp [ih h2]
      refine ⟨by rw [rl r1, evs_len _ _ _ _ _ ev, hn1], ?_⟩
      obtain ⟨φ2, G2, ρ2, w2, so2, p2⟩ := hend vs φ1 G1 H1 e1 W1 r1
      refine ⟨φ2, G2, ρ2, w2, so2, ?_⟩
      cases ev2 : Mn.evs Φ mks ρ2 w2 with
      | bad => rw [ev2] at p2; exact p2
      | exc c w1 => rw [ev2] at p2; exact p2
      | ok ds2 w3 =>
        rw [ev2] at p2
        intro zs φ3 G3 H3 e3 W3 r3
        have rl3 : ∀ {l : List Dt} {vs : List V}, RepVs T φ3 G3 H3 l vs → vs.length = l.length := by
          intro l
          induction l with
          | nil => intro vs h; cases h; rfl
          | cons d l ih => intro vs ⟨v, r, e, _, h2⟩; rw [e]; simp [ih h2]
        exact ⟨by rw [rl3 r3, evs_len _ _ _ _ _ ev2, hnm], p2 zs φ3 G3 H3 e3 W3 r3⟩
  · refine thn (hkw.run pos pins s1 σ H1 _ I1 q) fun ws s2 ⟨zs, H2, I2, rz, hzl, q2⟩ => ⟨I2.kIn, ?_⟩
    rw [hks]
    refine wpAny_call (codeAny_mono (F2.run X.A X.stack s2 H2 ⟨us, ks.zip ws⟩ (us ++ ws) (vs ++ zs) Q E hr I2.env0 (kbinds F kb hl s2 us ws (by rw [← r.length]; exact hvl) (by rw [← rz.length]; exact hzl)) (r.append rz) q2) fun r s' hq => ?_)
    cases r with
    | error e => exact hx pins σ H2 s2 e s' I2 hq
    | ok fl =>
      cases fl with
      | ret u => exact I2.after hq
      | next => exact False.elim hq
      | brk => exact False.elim hq
      | cont => exact False.elim hq
/-- f(k = v, ..) -/
theorem e_callK0 (C : Cal X.prog X.w X.K X.mg X.base T k Φ n x ps st) (kb : KB st x ps ks 0) (hr : Room k X.A) (hg : Gl X x) (hx : Passes (L2.CX X.prog X.w) X E)
    (hkw : PK X kws (VA T e0 E Φ mks)) (hl : 0 + ks.length = ps.length := by rfl) (hn : mks.length = ps.length := by rfl)
    (hall : (backToKw pos (keywordEach kws X.env)).all (·.1.isSome) = true := by rfl) (hks : (backToKw pos (keywordEach kws X.env)).filterMap (·.1) = ks := by rfl)
    (hdb : (x == ("__debug__" : Str)) = false := by decide)
    (hpl : ((backTo pos (starEach [] X.env)).any (·.1) || (backToKw pos (keywordEach kws X.env)).any (·.1.isNone)) = false := by rfl) :
    PE X (.Call (.Name x p) [] kws pos) (VE T e0 E Φ (.call n mks)) := by
  obtain ⟨hm, fd, F, hb, F2⟩ := C
  refine ⟨fun pins s σ H Q I ⟨φ, G, ρ, w, so, h⟩ => ?_⟩
  simp only [Mn.ev] at h
  refine wpAny_Call_Name_kw (ld_glob I hg hm ?_ hdb)
  refine PySem.W.callWith_KW0 (h₀ := X.base) I.ok.mod.kin F.kp hall (thn (hkw.run pos pins s σ H (fun zs H2 => spD T Φ ps.length n zs H2 Q E) I ⟨φ, G, ρ, w, so, Post.bindE h fun ds w1 vs φ1 G1 H1 ev1 e1 W1 r1 p1 => ?_⟩) fun ws s2 ⟨zs, H2, I2, rz, q2⟩ => ⟨I2.kIn, ?_⟩) hpl
  · cases ho : ds.any Mn.isOwn with
    | true => simp only [ho, if_true] at p1; exact p1.elim
    | false =>
      simp only [ho, Bool.false_eq_true, if_false] at p1
      have rs := r1.reps ho
      exact ⟨by rw [rs.length, evs_len _ _ _ _ _ ev1, hn], φ1, G1, w1, ds, W1, rs, ho, p1⟩
  · rw [hks]
    refine wpAny_call (codeAny_mono (F2.run X.A X.stack s2 H2 ⟨[], ks.zip ws⟩ ws zs Q E hr I2.env0 (kbinds F kb hl s2 [] ws rfl (by rw [← rz.length, F2.len _ _ _ _ q2]; omega)) rz q2) fun r s' hq => ?_)
    cases r with
    | error e => exact hx pins σ H2 s2 e s' I2 hq
    | ok fl =>
      cases fl with
      | ret u => exact I2.after hq
      | next => exact False.elim hq
      | brk => exact False.elim hq
      | cont => exact False.elim hq
end
/-! ### a def's body -/
section
variable {P : Program} {w : PySem.World} {K : PySem.W.Frag} {mg : Str → Option Value} {base : Heap} {T : Sta} {k N : Nat} {prog : Nat → Option Mn.Df} {n : Nat} {x : Str} {ps Nms : List Str} {st : Stmt} {fd : FuncData} {fn : Mn.Fn}
theorem start_ok {φ : List (List Addr)} {G H : Hp} {w : Mn.W} {ds : List Dt} {vs : List V} {m : Nat} (W : World T φ G H w) (r : Reps T φ G ds vs) (no : ds.any Mn.isOwn = false) (hl : vs.length ≤ m) (Nms : List Str) (hN : Nms.length = m) :
    StOk T ⟨φ, G, H⟩ φ G H (L2.start Nms vs) (ds.map some ++ List.replicate (m - ds.length) none) w where
  world := W
  evo := Evo.refl _ _ _
  len := by unfold L2.start; simp [r.length, hN]
  slot := fun i d h => by
    rcases Nat.lt_or_ge i ds.length with hi | hi
    · rw [List.getElem?_append_left (by simpa using hi), List.getElem?_map] at h
      cases q : ds[i]? with
      | none => rw [q] at h; simp at h
      | some d' =>
        rw [q] at h
        simp at h
        subst h
        obtain ⟨v, h1, h2⟩ := r.get q
        refine ⟨v, ?_, RepV.of h2⟩
        unfold L2.start
        rw [List.getElem?_append_left (by rw [List.length_map, r.length]; exact hi), List.getElem?_map, h1]
        rfl
    · rw [List.getElem?_append_right (by simpa using hi), List.getElem?_replicate] at h
      split at h <;> simp at h
  own := fun i a d h ho _ => by
    exfalso
    rcases Nat.lt_or_ge i ds.length with hi | hi
    · rw [List.getElem?_append_left (by simpa using hi), List.getElem?_map] at h
      cases q : ds[i]? with
      | none => rw [q] at h; simp at h
      | some d' =>
        rw [q] at h
        simp at h
        subst h
        have := List.any_eq_false.mp no d' (List.mem_of_getElem? q)
        exact this ho
    · rw [List.getElem?_append_right (by simpa using hi), List.getElem?_replicate] at h
      split at h <;> simp at h
theorem body_of {E : XK} {Q : VK} {H : Hp} {vs : List V} {np : Nat} {X : Cx} {body : List Stmt} (hP : prog n = some (.code fn)) (hsp : spD T (Mn.Phi prog N (k + 1)) np n vs H Q E) (hN : Nms.length = fn.ns) (hnp : fn.np ≤ fn.ns)
    (hd : ∀ e0, PSs X body (VSs T e0 E (Mn.Phi prog N k) N fn.body)) : ∃ t, PSs X body t ∧ t { nx := fun _ H' => Q .non H', rt := Q } (L2.start Nms vs) H := by
  obtain ⟨hl, φ, G, w, ds, W, r, no, p⟩ := hsp
  refine ⟨_, hd ⟨φ, G, H⟩, φ, G, ds.map some ++ List.replicate (fn.ns - ds.length) none, w, ?_, ?_⟩
  · unfold Mn.Phi at p
    rw [hP] at p
    simp only [Mn.callF] at p
    split at p
    · rename_i hl2
      exact start_ok W r no (by rw [r.length, hl2]; exact hnp) Nms hN
    · exact p.elim
  · unfold Mn.Phi at p
    rw [hP] at p
    simp only [Mn.callF] at p
    split at p
    · rename_i hl2
      rw [hl2]
      cases q : Mn.runs (Mn.Phi prog N k) N fn.body (ds.map some ++ List.replicate (fn.ns - fn.np) none) w with
      | next ρ' w' =>
        rw [q] at p
        exact fun φ' G' H' σ' g st' => p _ φ' G' H' st'.evo st'.world (rv_non.mpr rfl)
      | cont ρ' w' => rw [q] at p; exact p.elim
      | ret d w' => rw [q] at p; exact fun v φ' G' H' e W' r' => p v φ' G' H' e W' r'
      | exc c w' => rw [q] at p; exact fun φ' G' H' e W' => p φ' G' H' e W'
      | bad => rw [q] at p; exact p.elim
    · exact p.elim
/-- a def that is not told of is never to be called -/
theorem fn_bad {Φ : PHI} {f : Addr} {CX : CXT} (h : ∀ ds w, Φ n ds w = .bad) (hl : ps.length = ps.length) : FnOk P w K mg base CX k f fd ps (spD T Φ ps.length n) where
  len := fun vs H Q E h => h.1
  run := fun A outer s H args us vs Q E _ _ _ _ ⟨_, φ, G, w, ds, _, _, _, p⟩ => by rw [h] at p; exact p.elim
end
end Sn
end
section
set_option linter.all false
set_option maxRecDepth 100000
set_option maxHeartbeats 4000000
/-! Pairs of names, comprehensions stored, errors raised. -/
namespace Sn
open PySem PySem.Spec PyProof.Rows L2
section
variable {T : Sta} {e0 : Snap} {E : XK} {X : Cx} {Φ : PHI} {N : Nat} {st : Stmt} {m m2 : Mn.E} {ms : List Mn.E} {pos p p2 : Pos}
theorem isOwn_of {d : Dt} (h : ¬ Mn.isOwn d = true) : Mn.isOwn d = false := by simpa using h
/-- a, b = .. with both sides written -/
theorem s_par {i j : Nat} (h : PS X st (tPar i j (VA T e0 E Φ ms))) (hn : ms.length = 2 := by rfl) : PS X st (VS T e0 E Φ N (.par [(i, false), (j, false)] ms)) := by
  refine PS.imp h fun D σ H ⟨φ, G, ρ, w, st, p⟩ => ?_
  simp only [Mn.run] at p
  refine ⟨φ, G, ρ, w, st, ?_⟩
  cases ev : Mn.evs Φ ms ρ w with
  | bad => rw [ev] at p; exact p
  | exc c w1 => rw [ev] at p; exact fun φ1 G1 H1 e W => p φ1 G1 H1 (st.evo.trans e) W
  | ok ds w1 =>
    rw [ev] at p
    obtain ⟨d, d2, rfl⟩ := len_two (by rw [evs_len _ _ _ _ _ ev]; exact hn)
    intro vs φ1 G1 H1 e1 W1 r1
    obtain ⟨v, v2, rfl, rv, rv2⟩ := r1.two
    simp only [Mn.Res.toS, Mn.putPar] at p
    by_cases o1 : Mn.isOwn d = true
    · simp only [o1, if_true] at p; exact p.elim
    · by_cases o2 : Mn.isOwn d2 = true
      · simp only [o1, o2, if_true, if_false] at p; exact p.elim
      · simp only [o1, o2, if_false] at p
        have e2 : d.take false = d := by cases d <;> rfl
        have e3 : d2.take false = d2 := by cases d2 <;> rfl
        rw [e2, e3] at p
        refine ⟨v, v2, rfl, ?_⟩
        have s1 := (st.step e1 W1).put (i := i) rv (isOwn_of o1)
        have s2 := s1.put (i := j) rv2 (isOwn_of o2)
        exact p φ1 G1 H1 _ e1.gro s2
/-- a, b = e -/
theorem s_unp {is : List Nat} (h : PS X st (tAsg (VE T e0 E Φ m) (tgR T.K is false))) : PS X st (VS T e0 E Φ N (.unp is m)) := by
  refine PS.imp h fun D σ H ⟨φ, G, ρ, w, st, p⟩ => ?_
  simp only [Mn.run] at p
  refine ⟨φ, G, ρ, w, st, PostS.of_toS st (fun d w1 v φ1 G1 H1 e1 st1 r1 p1 => ?_) p⟩
  cases hb : Mn.bindT ρ is false d with
  | none => rw [hb] at p1; exact p1.elim
  | some ρ' =>
    rw [hb] at p1
    have no : Mn.isOwn d = false := by
      cases d <;> first | rfl | (simp [Mn.bindT] at hb)
    exact tg_ok hb st1 (r1.rep no) fun σ2 st2 _ => p1 φ1 G1 H1 σ2 (Gro.refl _ _) st2
/-- x = [..] -/
theorem v_lc {tg : List Nat} {one : Bool} {k : Mn.ItK} {its cond : List Mn.E} {elt : Mn.E} {i : Nat} (h : PS X st (tAsg (tLc (VI T e0 E Φ k its) (tgR T.K tg one) (VAndT T e0 E0 Φ cond) (VE T e0 E0 Φ elt) tg) (gName i))) : PS X st (tAsg (VE T e0 E Φ (.comp elt tg one k its cond)) (gName i)) := by
  refine PS.imp h fun D σ H ⟨φ, G, ρ, w, st, p⟩ => ?_
  rw [lc_ev] at p
  refine lc_tLc st p fun φ1 G1 H1 φi Gi Hi wi acc vs Da e1 hD W e hDa gD nD rs q => ?_
  refine q _ φi (upd Gi Da (.lst vs)) Hi ?_ (W.freeze hDa gD nD nt_lst) (rv_lst.mpr ⟨Da, vs, rfl, upd_same, rs.mono (List.prefix_refl _) (Le.upd _ gD)⟩)
  exact
  { phi := e.phi, g := e.g.trans (Le.upd _ gD), h := e.h, dom := e.dom
    gn := fun b u q t n => by rw [upd_ne (ne_of_none q hD)]; exact e.gn b u q t n
    wn := e.wn }
theorem e_globE {x : Str} {s : List Nat} (hg : Gl X x) (hm : ∃ z t, X.mg x = some (.str z t) ∧ z.cps.toList = s) (hs : okS s = true) (hd : (x == ("__debug__" : Str)) = false := by decide) : PE X (.Name x pos) (VE T e0 E Φ (.cst (.str s))) := by
  obtain ⟨z, t, h1, h2⟩ := hm
  exact e_glob hg h1 h2 hs hd
/-- what is known of an error's class -/
structure Err (K : PySem.W.Frag) (mg : Str → Option Value) (C : Addr) (x : Str) : Prop where
  g : mg x = some (.ref C)
  q : PySem.W.excIn K C He.veBase "ValueError.__new__" = true
  k : PySem.W.keepIn K (.ref C) = true
  b : PySem.W.subIn K (.ref C) (.type "BaseException") = some true
  t : PySem.W.typeIn K (.ref C) = some (.type "type")
theorem s_raiseE {c : Nat} {x z : Str} {j : Nat} {p3 : Pos} (hc : X.calm = true) (tk : Takes X fun cls d _ H => E cls d H) (F : Err X.K X.mg (T.ca c) x) (hg : Gl X x) (hdb : (x == ("__debug__" : Str)) = false := by decide) :
    PS X (.Raise (some (.Call (.Name x p) [.Constant (.str z) j p2] [] p3)) none pos) (VS T e0 E Φ N (.raise c)) :=
  s_raise hc tk (pmk_own PySem.F.excBase_ValueError F.q F.g F.k (raises_own F.b F.t) hg hdb)
/-- within a comprehension's block -/
theorem inE {R : TE} {a : Expr} {s : Shared} {H : Hp} {scope : Scope} {cenv : Env} {fp : List Addr} (x : XOk T X) (h : XOk T (X.blk s H scope cenv fp) → Passes (L2.CX X.prog X.w) (X.blk s H scope cenv fp) E0 → PE (X.blk s H scope cenv fp) a R) : PE (X.blk s H scope cenv fp) a R := h (x.blk s H scope cenv fp) passL
theorem inT {R : TT} {a : List Expr} {s : Shared} {H : Hp} {scope : Scope} {cenv : Env} {fp : List Addr} (x : XOk T X) (h : XOk T (X.blk s H scope cenv fp) → Passes (L2.CX X.prog X.w) (X.blk s H scope cenv fp) E0 → PTs (X.blk s H scope cenv fp) a R) : PTs (X.blk s H scope cenv fp) a R := h (x.blk s H scope cenv fp) passL
end
end Sn
end
section
set_option linter.all false
set_option maxRecDepth 100000
set_option maxHeartbeats 4000000
namespace Sn
open PySem PySem.Spec PyProof.Rows L2
end Sn
end
section
set_option linter.all false
set_option maxRecDepth 100000
set_option maxHeartbeats 4000000
/-! The town: its making, its draws. -/
namespace Sn
open PySem PySem.Spec PyProof.Rows L2
theorem nodup_len : ∀ (n : Nat) (l : List Nat), l.Nodup → (∀ x ∈ l, x < n) → l.length ≤ n
  | 0, l, _, h => by cases l with | nil => simp | cons x l => exact absurd (h x (by simp)) (by omega)
  | n + 1, l, nd, h => by
    by_cases hm : n ∈ l
    · have := nodup_len n (l.erase n) (nd.erase n) fun x hx => by
        have h1 := h x (List.mem_of_mem_erase hx)
        have h2 : x ≠ n := fun z => by subst z; exact (List.Nodup.not_mem_erase nd) hx
        omega
      rw [List.length_erase_of_mem hm] at this
      omega
    · have := nodup_len n l nd fun x hx => by
        have h1 := h x hx
        have h2 : x ≠ n := fun z => by subst z; exact hm hx
        omega
      omega
theorem OkR.len {ns : List Int} {rs : List (Int × Int)} (h : OkR ns rs) : rs.length ≤ ns.length + 1 := by
  have := nodup_len (ns.length + 1) (rs.map fun p => p.1.toNat) ?_ ?_
  · simpa using this
  · have e : (rs.map fun p => p.1.toNat) = (rs.map (·.1)).map Int.toNat := by rw [List.map_map]; rfl
    rw [e]
    have hp : ∀ x ∈ rs.map (·.1), 0 ≤ x := fun x hx => by
      obtain ⟨p, hp, rfl⟩ := List.mem_map.mp hx
      exact (h.2 p hp).1
    revert hp
    have nd := h.1
    revert nd
    generalize rs.map (·.1) = l
    intro nd hp
    induction l with
    | nil => simp
    | cons x l ih =>
      rw [List.map_cons, List.nodup_cons]
      rw [List.nodup_cons] at nd
      refine ⟨fun hm => ?_, ih nd.2 fun y hy => hp y (List.mem_cons_of_mem _ hy)⟩
      obtain ⟨y, hy, e⟩ := List.mem_map.mp hm
      have h1 := hp x List.mem_cons_self
      have h2 := hp y (List.mem_cons_of_mem _ hy)
      have : x = y := by omega
      subst this
      exact nd.1 hy
  · intro x hx
    obtain ⟨p, hp, rfl⟩ := List.mem_map.mp hx
    have := h.2 p hp
    omega
def mpK (rs : List (Int × Int)) : List (Key × V) := rs.map fun p => (Sum.inl p.1, V.int p.2)
theorem rget_val (k : Int) : ∀ rs : List (Int × Int), valV (mpK rs) (Sum.inl k) = (Mn.rget k rs).map V.int
  | [] => rfl
  | (a, v) :: r => by
    show valV ((Sum.inl a, V.int v) :: mpK r) (Sum.inl k) = _
    unfold Mn.rget
    by_cases e : a = k
    · subst e; rw [valV_pos (p := ((Sum.inl a : Key), V.int v)) rfl, if_pos rfl]; rfl
    · rw [valV_neg (p := ((Sum.inl a : Key), V.int v)) (by simpa using e), if_neg e]
      exact rget_val k r
theorem rput_out (k v : Int) : ∀ rs : List (Int × Int), (∀ p ∈ rs, p.1 ≠ k) → Mn.rput k v rs = rs ++ [(k, v)]
  | [], _ => rfl
  | (a, u) :: r, h => by
    unfold Mn.rput
    rw [if_neg (h (a, u) List.mem_cons_self), rput_out k v r fun p hp => h p (List.mem_cons_of_mem _ hp)]
    rfl
theorem rput_in (k v : Int) : ∀ rs : List (Int × Int), (rs.map (·.1)).Nodup → (∃ p ∈ rs, p.1 = k) → Mn.rput k v rs = rs.map fun p => if p.1 = k then (p.1, v) else p
  | [], _, h => by obtain ⟨p, hp, _⟩ := h; cases hp
  | (a, u) :: r, nd, h => by
    unfold Mn.rput
    rw [List.map_cons, List.nodup_cons] at nd
    by_cases e : a = k
    · subst e
      rw [if_pos rfl, List.map_cons, if_pos rfl]
      congr 1
      have : ∀ p ∈ r, p.1 ≠ a := fun p hp z => nd.1 (List.mem_map.mpr ⟨p, hp, z⟩)
      symm
      rw [List.map_congr_left (g := id) fun p hp => by rw [if_neg (this p hp)]; rfl, List.map_id]
    · rw [if_neg e, List.map_cons, if_neg e, rput_in k v r nd.2]
      obtain ⟨p, hp, z⟩ := h
      rcases List.mem_cons.mp hp with h1 | h1
      · subst h1; exact absurd z e
      · exact ⟨p, h1, z⟩
theorem rput_map (k v : Int) (rs : List (Int × Int)) (nd : (rs.map (·.1)).Nodup) : putK (mpK rs) (Sum.inl k : Key) (.int v) = mpK (Mn.rput k v rs) := by
  by_cases h : ∃ p ∈ rs, p.1 = k
  · rw [rput_in k v rs nd h]
    unfold putK mpK
    rw [if_pos]
    · rw [List.map_map, List.map_map]
      refine List.map_congr_left fun p hp => ?_
      simp only [Function.comp]
      by_cases e : p.1 = k
      · rw [if_pos e, if_pos (by rw [e])]
      · rw [if_neg e, if_neg (by simpa using e)]
    · obtain ⟨p, hp, e⟩ := h
      rw [List.any_eq_true]
      exact ⟨_, List.mem_map.mpr ⟨p, hp, rfl⟩, by simp [e]⟩
  · have h' : ∀ p ∈ rs, p.1 ≠ k := fun p hp e => h ⟨p, hp, e⟩
    rw [rput_out k v rs h']
    unfold putK mpK
    rw [if_neg]
    · rw [List.map_append]; rfl
    · intro z
      rw [List.any_eq_true] at z
      obtain ⟨q, hq, e⟩ := z
      obtain ⟨p, hp, rfl⟩ := List.mem_map.mp hq
      simp at e
      exact h' p hp e
theorem rput_ok {ns : List Int} {rs : List (Int × Int)} (h : OkR ns rs) {k v : Int} (h1 : 0 ≤ k) (h2 : k < (ns.length : Int) + 1) : OkR ns (Mn.rput k v rs) := by
  by_cases hk : ∃ p ∈ rs, p.1 = k
  · rw [rput_in k v rs h.1 hk]
    refine ⟨?_, fun p hp => ?_⟩
    · rw [List.map_map]
      have : ((fun x : Int × Int => x.1) ∘ fun p : Int × Int => if p.1 = k then (p.1, v) else p) = fun x => x.1 := by
        funext p
        simp only [Function.comp]
        split <;> rfl
      rw [this]; exact h.1
    · obtain ⟨q, hq, rfl⟩ := List.mem_map.mp hp
      have := h.2 q hq
      split <;> exact this
  · have h' : ∀ p ∈ rs, p.1 ≠ k := fun p hp e => hk ⟨p, hp, e⟩
    rw [rput_out k v rs h']
    refine ⟨?_, fun p hp => ?_⟩
    · rw [List.map_append, List.nodup_append]
      refine ⟨h.1, by simp, fun a ha b hb => ?_⟩
      obtain ⟨q, hq, rfl⟩ := List.mem_map.mp ha
      simp at hb
      subst hb
      exact h' q hq
    · rcases List.mem_append.mp hp with hp | hp
      · exact h.2 p hp
      · simp at hp; subst hp; exact ⟨h1, h2⟩
theorem flat_apart {φ : List (List Addr)} (nd : φ.flatten.Nodup) : ∀ {i j : Nat} {as bs : List Addr} {a : Addr}, i ≠ j → φ[i]? = some as → φ[j]? = some bs → a ∈ as → a ∉ bs := by
  induction φ with
  | nil => intro i j as bs a _ h; simp at h
  | cons x φ ih =>
    intro i j as bs a hij h1 h2 ha hb
    rw [List.flatten_cons, List.nodup_append] at nd
    cases i with
    | zero =>
      cases j with
      | zero => exact hij rfl
      | succ j =>
        simp at h1 h2
        subst h1
        exact nd.2.2 a ha a (List.mem_flatten.mpr ⟨bs, List.mem_of_getElem? h2, hb⟩) rfl
    | succ i =>
      cases j with
      | zero =>
        simp at h1 h2
        subst h2
        exact nd.2.2 a hb a (List.mem_flatten.mpr ⟨as, List.mem_of_getElem? h1, ha⟩) rfl
      | succ j => exact ih nd.2.1 (i := i) (j := j) (by omega) h1 h2 ha hb
section
variable {T : Sta} {φ : List (List Addr)} {G H : Hp} {w : Mn.W}
/-- the town's two dicts are written -/
theorem World.town (W : World T φ G H w) {n : Nat} {a b : Addr} {c c' : Int} {rs rs' : List (Int × Int)} (hn : w[n]? = some (.town c rs)) (hp : φ[n]? = some [a, b]) (ha : H a = some (.dK [(cntK, .int c), (rstK, .ref b)])) (hb : H b = some (.dK (mpK rs))) (ok : OkR T.ns rs') :
    World T φ G (upd (upd H a (.dK [(cntK, .int c'), (rstK, .ref b)])) b (.dK (mpK rs'))) (w.set n (.town c' rs')) ∧ Evo φ G H φ G (upd (upd H a (.dK [(cntK, .int c'), (rstK, .ref b)])) b (.dK (mpK rs'))) := by
  have am : a ∈ φ.flatten := mem_flat hp (by simp)
  have bm : b ∈ φ.flatten := mem_flat hp (by simp)
  have ab : a ≠ b := fun z => by
    have := W.nd
    obtain ⟨l1, l2, e⟩ := List.append_of_mem (List.mem_of_getElem? hp)
    rw [e, List.flatten_append, List.flatten_cons, List.nodup_append] at this
    have h2 := this.2.1
    rw [List.nodup_append] at h2
    have h3 := h2.1
    subst z
    simp at h3
  have other : ∀ q, q ≠ a → q ≠ b → upd (upd H a (.dK [(cntK, .int c'), (rstK, .ref b)])) b (.dK (mpK rs')) q = H q := fun q h1 h2 => by rw [upd_ne h2, upd_ne h1]
  have hA : upd (upd H a (.dK [(cntK, .int c'), (rstK, .ref b)])) b (.dK (mpK rs')) a = some (.dK [(cntK, .int c'), (rstK, .ref b)]) := by rw [upd_ne ab, upd_same]
  have hB : upd (upd H a (.dK [(cntK, .int c'), (rstK, .ref b)])) b (.dK (mpK rs')) b = some (.dK (mpK rs')) := upd_same
  have tb : LamX.Tabs T.tab (upd (upd H a (.dK [(cntK, .int c'), (rstK, .ref b)])) b (.dK (mpK rs'))) :=
    tabs_upd (o' := .dK (mpK rs)) (tabs_upd W.tabs _ ha (by simp) (by simp)) _ (by rw [upd_ne (Ne.symm ab)]; exact hb) (by simp) (by simp)
  have dom : ∀ q o, H q = some o → NT o → ∃ o', upd (upd H a (.dK [(cntK, .int c'), (rstK, .ref b)])) b (.dK (mpK rs')) q = some o' ∧ NT o' := fun q o e t => by
    by_cases h1 : q = a
    · subst h1; exact ⟨_, hA, nt_dK⟩
    · by_cases h2 : q = b
      · subst h2; exact ⟨_, hB, nt_dK⟩
      · exact ⟨o, by rw [other q h1 h2]; exact e, t⟩
  refine ⟨?_, ⟨List.prefix_refl _, Le.refl _, fun q o e _ m => ?_, dom, fun _ _ _ _ h => h, fun _ _ _ _ h => h⟩⟩
  · exact
    { scr := W.scr
      sub := fun q o e => by
        have h1 : q ≠ a := fun z => by subst z; rw [(W.apart _ am).1] at e; cases e
        have h2 : q ≠ b := fun z => by subst z; rw [(W.apart _ bm).1] at e; cases e
        rw [other q h1 h2]; exact W.sub q o e
      nd := W.nd
      ng := W.ng
      apart := fun q hq => ⟨(W.apart q hq).1, let ⟨o, e, t⟩ := (W.apart q hq).2; dom q o e t⟩
      len := by rw [List.length_set]; exact W.len
      tabs := tb
      objs := fun i o as h1 h2 => by
        by_cases hi : n = i
        · subst hi
          rw [hp] at h2
          cases h2
          rw [List.getElem?_set_self (List.getElem?_eq_some_iff.mp hn).1] at h1
          cases h1
          exact ⟨a, b, rfl, hA, hB, ok⟩
        · rw [List.getElem?_set_ne hi] at h1
          refine (W.objs i o as h1 h2).mono (List.prefix_refl _) (Le.refl _) fun q hq u e _ => ?_
          have h3 : q ≠ a := fun z => by subst z; exact flat_apart W.nd (Ne.symm hi) h2 hp hq (by simp)
          have h4 : q ≠ b := fun z => by subst z; exact flat_apart W.nd (Ne.symm hi) h2 hp hq (by simp)
          rw [other q h3 h4]; exact e }
  · have h1 : q ≠ a := fun z => m (z ▸ am)
    have h2 : q ≠ b := fun z => m (z ▸ bm)
    rw [other q h1 h2]; exact e
/-- what a draw is asked and has to give -/
theorem draw_inv {E : XK} {Q : VK} {vs : List V} (h : vs.length = 3 ∧ ∃ φ G w ds, World T φ G H w ∧ Reps T φ G ds vs ∧ ds.any Mn.isOwn = false ∧ Post T E (RepV T) φ G H Q (Mn.drawP ds w)) :
    ∃ a b c rs many, vs = [.ref T.sa, .ref a, .int many] ∧ SqL T.K H T.sa (T.ns.map V.int) ∧ H a = some (.dK [(cntK, .int c), (rstK, .ref b)]) ∧ H b = some (.dK (mpK rs)) ∧ a ≠ b ∧ (∀ H', (∀ q, q ≠ a → q ≠ b → H' q = H q) → SqL T.K H' T.sa (T.ns.map V.int)) ∧ OkR T.ns rs ∧ 0 < many ∧ many ≤ 1000000 ∧
      (∀ rs', rs' = Mn.drawLeft T.ns (c + 1) rs many → Q (.int (Mn.drawNum T.ns (c + 1) rs many)) (upd (upd H a (.dK [(cntK, .int (c + 1)), (rstK, .ref b)])) b (.dK (mpK rs')))) := by
  obtain ⟨hl, φ, G, w, ds, W, r, no, p⟩ := h
  unfold Mn.drawP at p
  split at p
  · rename_i n many
    split at p
    · rename_i ns c rs h0 hn
      split at p
      · rename_i hm
        obtain ⟨v1, r1, rfl, q1, r⟩ := r.uncons
        obtain ⟨v2, r2, rfl, q2, r⟩ := r.uncons
        obtain ⟨v3, r3, rfl, q3, r⟩ := r.uncons
        rw [r.nil_of]
        unfold Rep at q1 q2 q3
        obtain ⟨a, rr, hp, rfl⟩ := q2
        subst q1 q3
        obtain ⟨as0, hp0⟩ : ∃ as, φ[0]? = some as := by
          have : 0 < φ.length := by rw [← W.len]; exact (List.getElem?_eq_some_iff.mp h0).1
          exact ⟨_, List.getElem?_eq_getElem this⟩
        obtain ⟨e0, rfl⟩ := W.objs 0 _ _ h0 hp0
        obtain ⟨a', b, e1, ha, hb, ok⟩ := W.objs n _ _ hn hp
        cases e1
        have ab : a ≠ b := fun z => by
          have := W.nd
          obtain ⟨l1, l2, e⟩ := List.append_of_mem (List.mem_of_getElem? hp)
          rw [e, List.flatten_append, List.flatten_cons, List.nodup_append] at this
          have h2 := this.2.1
          rw [List.nodup_append] at h2
          have h3 := h2.1
          subst z
          simp at h3
        have sq := W.sqL W.scr
        have keep : ∀ H', (∀ q, q ≠ a → q ≠ b → H' q = H q) → SqL T.K H' T.sa (T.ns.map V.int) := fun H' hk => by
          rcases sq with sq | sq
          · have h1 : T.sa ≠ a := fun z => by
              rw [z] at sq
              rcases sq with sq | ⟨ob, sq⟩ <;> (rw [ha] at sq; cases sq)
            have h2 : T.sa ≠ b := fun z => by
              rw [z] at sq
              rcases sq with sq | ⟨ob, sq⟩ <;> (rw [hb] at sq; cases sq)
            left
            rcases sq with sq | ⟨ob, sq⟩
            · exact .inl (by rw [hk _ h1 h2]; exact sq)
            · exact .inr ⟨ob, by rw [hk _ h1 h2]; exact sq⟩
          · exact .inr sq
        refine ⟨a, b, c, rs, many, rfl, sq, ha, hb, ab, keep, ok, hm.1, hm.2, fun rs' hrs => ?_⟩
        subst hrs
        have ok' : OkR T.ns (Mn.drawLeft T.ns (c + 1) rs many) := by
          unfold Mn.drawLeft
          split
          · refine rput_ok ok ?_ ?_
            · unfold Mn.drawAt
              split
              · omega
              · rename_i hne
                have : (T.ns.length : Int) ≠ 0 := by
                  intro z; exact hne (List.length_eq_zero_iff.mp (by omega))
                exact Int.emod_nonneg _ this
            · unfold Mn.drawAt
              split
              · omega
              · rename_i hne
                have : (0 : Int) < T.ns.length := by
                  have : T.ns.length ≠ 0 := fun z => hne (List.length_eq_zero_iff.mp z)
                  omega
                have := Int.emod_lt_of_pos (c + 1) this
                omega
          · exact ok
        obtain ⟨W2, e2⟩ := W.town (c' := c + 1) hn hp ha hb ok'
        exact p _ φ G _ e2 W2 (rv_int.mpr rfl)
      · exact p.elim
    · exact p.elim
  · exact p.elim
/-- a new town -/
theorem begun_inv {E : XK} {Q : VK} {vs : List V} (h : vs.length = 0 ∧ ∃ φ G w ds, World T φ G H w ∧ Reps T φ G ds vs ∧ ds.any Mn.isOwn = false ∧ Post T E (RepV T) φ G H Q (Mn.begunP ds w)) :
    vs = [] ∧ ∀ p q H', H p = none → H q = none → p ≠ q → (∀ r, r ≠ p → r ≠ q → H' r = H r) → H' p = some (.dK [(cntK, .int 0), (rstK, .ref q)]) → H' q = some (.dK []) → Q (.ref p) H' := by
  obtain ⟨hl, φ, G, w, ds, W, r, no, p⟩ := h
  have e0 : ds = [] := by
    unfold Mn.begunP at p
    split at p
    · rfl
    · exact p.elim
  subst e0
  refine ⟨r.nil_of, fun a b H' ha hb hne ho hA hB => ?_⟩
  have na := W.notw ha
  have nb := W.notw hb
  have dom : ∀ q o, H q = some o → H' q = some o := fun q o e => by
    have h1 : q ≠ a := fun z => by subst z; rw [ha] at e; cases e
    have h2 : q ≠ b := fun z => by subst z; rw [hb] at e; cases e
    rw [ho q h1 h2]; exact e
  have fl : (φ ++ [[a, b]]).flatten = φ.flatten ++ [a, b] := by simp
  have ev : Evo φ G H (φ ++ [[a, b]]) G H' := ⟨List.prefix_append _ _, Le.refl _, fun q o e _ _ => dom q o e, fun q o e t => ⟨o, dom q o e, t⟩, fun _ _ _ _ h => h, fun q o e _ n => by
    rw [fl]
    intro hm
    rcases List.mem_append.mp hm with hm | hm
    · exact n hm
    · simp at hm
      rcases hm with z | z
      · subst z; rw [ha] at e; cases e
      · subst z; rw [hb] at e; cases e⟩
  have W2 : World T (φ ++ [[a, b]]) G H' (w ++ [.town 0 []]) :=
  { scr := W.scr
    sub := fun q o e => by
      rcases W.sub q o e with h1 | ⟨ob, kvs, h1, h2⟩
      · exact .inl (dom q o h1)
      · exact .inr ⟨ob, kvs, h1, dom q _ h2⟩
    ng := W.ng
    nd := by
      rw [fl, List.nodup_append]
      refine ⟨W.nd, by simpa using hne, fun x hx y hy z => ?_⟩
      subst z
      simp at hy
      rcases hy with z | z
      · subst z; exact na hx
      · subst z; exact nb hx
    apart := fun q hq => by
      rw [fl] at hq
      rcases List.mem_append.mp hq with hm | hm
      · obtain ⟨h1, o, h2, t⟩ := W.apart q hm
        exact ⟨h1, o, dom q o h2, t⟩
      · simp at hm
        rcases hm with z | z
        · subst z; exact ⟨W.gnone ha, _, hA, nt_dK⟩
        · subst z; exact ⟨W.gnone hb, _, hB, nt_dK⟩
    len := by simp [W.len]
    tabs := W.tabs.ext dom
    objs := fun i o as h1 h2 => by
      rcases Nat.lt_or_ge i φ.length with hi | hi
      · rw [List.getElem?_append_left hi] at h2
        rw [List.getElem?_append_left (by rw [W.len]; exact hi)] at h1
        refine (W.objs i o as h1 h2).mono (List.prefix_append _ _) (Le.refl _) fun q hq u e _ => dom q u e
      · have hi2 : i = φ.length := by
          have := (List.getElem?_eq_some_iff.mp h2).1
          simp at this
          omega
        subst hi2
        rw [List.getElem?_append_right (Nat.le_refl _)] at h2
        rw [← W.len, List.getElem?_append_right (Nat.le_refl _)] at h1
        simp at h1 h2
        subst h1 h2
        exact ⟨a, b, rfl, hA, hB, by simp [OkR]⟩ }
  refine p (.ref a) _ G H' ev W2 (rv_obj.mpr ⟨a, [b], ?_, rfl⟩)
  rw [W.len, List.getElem?_append_right (Nat.le_refl _)]
  simp
end
end Sn
end
section
set_option linter.all false
set_option maxRecDepth 100000
set_option maxHeartbeats 4000000
/-! What _law_result tells: an exception kept beyond its except clause. -/
namespace Sn
open PySem PySem.Spec PyProof.Rows L2
/-- an exception of the class cls, at a -/
def ExT (cls : Value) (a : Addr) : HO := .ext fun h => ∃ (oe : Obj) (vs : Array Value), h.get? a = some oe ∧ Zc cls none oe ∧ oe.data = .fields vs
theorem track {X : Cx} {pins : List (Addr × Obj)} {σ : L2.St} {H : Hp} {s : Shared} {a : Addr} {oe : Obj} {vs : Array Value} {cls : Value} (I : L2.Inv X pins σ H s) (ha : s.heap.get? a = some oe) (hz : Zc cls none oe) (hd : oe.data = .fields vs) (na : H a = none)
    (n0 : X.s_0.heap.get? a = none) (hL : a ≠ X.env.locals) (hp : ∀ p ∈ X.pn ++ pins, p.1 ≠ a) : L2.Inv X pins σ (upd H a (ExT cls a)) s where
  ok := I.ok
  os := I.os
  bare := I.bare
  base :=
  { keep := I.base.keep
    slot := I.base.slot
    free := fun b u q n hx => by
      have : b ≠ a := fun z => by subst z; rw [n0] at q; cases q
      rw [upd_ne this]; exact I.base.free b u q n hx
    there := I.base.there
    tups := fun b xs q => by rw [upd_ne (ne_of_none (I.base.tups b xs q) na)]; exact I.base.tups b xs q
    frzs := fun b ob u q => by rw [upd_ne (ne_of_none (I.base.frzs b ob u q) na)]; exact I.base.frzs b ob u q
    tbls := fun b ps q => by
      obtain ⟨m, e⟩ := I.base.tbls b ps q
      exact ⟨m, by rw [upd_ne (ne_of_none e na)]; exact e⟩ }
  loc := I.loc
  cell := I.cell
  free := by rw [upd_ne (Ne.symm hL)]; exact I.free
  freeC := fun x c e => by
    have : c ≠ a := fun z => by
      subst z
      obtain ⟨v, oc, h1, h2⟩ := I.cell x c e
      rw [ha] at h1
      cases h1
      rw [hd] at h2; cases h2
    rw [upd_ne this]; exact I.freeC x c e
  pin := fun p hp' => by
    obtain ⟨h1, h2, h3⟩ := I.pin p hp'
    exact ⟨h1, by rw [upd_ne (hp p hp')]; exact h2, h3⟩
  hok := I.hok.laidN (fun _ _ e => e) na ⟨⟨oe, vs, ha, hz, hd⟩, ⟨oe, ha⟩, fun h1 h2 ⟨o, v, q, r⟩ k => ⟨o, v, k o q, r⟩⟩
  len := I.len
/-- what the clause wishes: the error of some class is kept in slot j -/
def wKeep (K : PySem.W.Frag) (c : Value) (i j L : Nat) (D : Ends) : WX := fun cls d σ H =>
  d = none ∧ PySem.W.exmOne K cls c = some true ∧ ∀ a, H a = none → σ.length = L → D.nx (((σ.set i (some (.ref a))).set j (some (.ref a))).set i none) (upd H a (ExT cls a))
section
variable {X : Cx} {x n y : Str} {c : Value} {i j : Nat} {body : List Stmt} {np p1 p2 p3 pos pos' : Pos} {tb : WX → TS}
theorem ps_try_keep (hs : X.stack = X.env :: X.outer) (hf : X.env.frame = some X.env.locals) (hex : X.ex = []) (hN : X.N.Nodup) (hi : X.N[i]? = some n) (hj : X.N[j]? = some y) (hij : i ≠ j)
    (hln : X.env.kindOf n = some .local) (hlj : X.env.kindOf y = some .local) (hc : Names X x c) (hdn : (n == ("__debug__" : Str)) = false) (hcn : (n == ("__classdict__" : Str)) = false)
    (hsw : ∀ (a : Addr) (pn : List (Addr × Obj)), swapsWith (.Name n p2) (some (.Name y p1)) p3.line (X.suite a pn).env = pure false)
    (hb : ∀ (W : WX) (pn : List (Addr × Obj)) (xe : Value → Shared → Prop), Takes (X.tr pn xe) W → PSs (X.tr pn xe) body (tb W)) :
    PS X (.Try body [.ExceptHandler (some (.Name x np)) (some n) [.Assign [.Name y p1] (.Name n p2) p3] pos'] [] [] pos) (fun D σ H => tb (wKeep X.K c i j X.N.length D) D σ H) := by
  constructor
  intro pins s σ H D I h
  have good := I.ok
  have stk : X.A.frames = some (X.env :: X.outer) := good.frames.trans (congrArg some hs)
  refine wpAny_Try_except ?_
  have run := (hb (wKeep X.K c i j X.N.length D) (X.pn ++ pins) (fun e s₁ => wpAny (model X.prog X.w) X.A (noteFrame e X.env)
    (fun _ s₂ => wpAny (model X.prog X.w) X.A (setFlight e none)
      (fun _ s₃ => wpAny (model X.prog X.w) X.A (handleBy e X.env [.ExceptHandler (some (.Name x np)) (some n) [.Assign [.Name y p1] (.Name n p2) p3] pos'])
        (SP X pins D) X.xe s₃) X.xe s₂) X.xe s₁) ?_).run [] s σ H D (I.toTry _) h
  · refine wpAny_mono run (fun f s1 sp => ?_) (fun _ _ z => z)
    cases f
    case next =>
      obtain ⟨σ', H', J', q⟩ := sp
      exact wpAny_execs_nil ⟨σ', H', J'.ofTry good, q⟩
    case brk =>
      obtain ⟨σ', H', J', q⟩ := sp
      exact ⟨σ', H', J'.ofTry good, q⟩
    case cont =>
      obtain ⟨σ', H', J', q⟩ := sp
      exact ⟨σ', H', J'.ofTry good, q⟩
    case ret u =>
      obtain ⟨v, σ', H', J', r, q⟩ := sp
      exact ⟨v, σ', H', J'.ofTry good, r, q⟩
  · intro u s' caught
    obtain ⟨a, B, sI, pins', σ', H', cls, d, rfl, J0, nb, up, sky, na, os, bare, hd0, exm, fin⟩ := caught
    subst hd0
    have J : L2.Inv X pins σ' H' sI := J0.ofTry good
    have sky' : Sky B (X.env :: X.outer) a (Zc cls none) X.env.locals s'.heap := by
      have e := sky
      rw [show (X.tr (X.pn ++ pins) _).stack = X.stack from rfl, hs] at e
      exact e
    show wpAny (model X.prog X.w) X.A (noteFrame (.ref a) X.env) _ _ _
    refine Sky.land Zc.steady stk hf sky' fun h3 fl3 up3 => ?_
    have nfr : a ∉ frs (X.env :: X.outer) := by
      obtain ⟨o3, v3, q3, _, d3⟩ := fl3.there
      intro hm
      obtain ⟨_, o', e', hnf⟩ := fl3.2.2.1.mem hm
      rw [q3] at e'; cases e'
      exact hnf _ d3
    have nL : a ≠ X.env.locals := fun z => nfr (List.mem_filterMap.mpr ⟨X.env, List.mem_cons_self, hf.trans (congrArg some z.symm)⟩)
    have nF : a ∉ X.fs := fun hm => by
      obtain ⟨e, he, q⟩ := List.mem_filterMap.mp hm
      exact nfr (List.mem_filterMap.mpr ⟨e, List.mem_cons_of_mem _ he, q⟩)
    have newI : sI.heap.get? a = none := by
      cases z : sI.heap.get? a with
      | none => rfl
      | some o =>
        have z2 := nb a o z (by rw [show (X.tr (X.pn ++ pins) _).stack = X.stack from rfl, hs]; exact nfr)
        rw [fl3.2.1] at z2; cases z2
    have new0 : X.s_0.heap.get? a = none := by
      cases z : X.s_0.heap.get? a with
      | none => rfl
      | some o =>
        obtain ⟨o', z2⟩ := J.base.there a o z (by rw [hex]; simp)
        rw [newI] at z2; cases z2
    have newP : ∀ p ∈ X.pn ++ pins, p.1 ≠ a := fun p hp z => by
      have z2 := (J.pin p hp).1
      rw [z, newI] at z2; cases z2
    have nb' : ∀ b o, sI.heap.get? b = some o → b ∉ frs X.stack → B.get? b = some o := nb
    have J3 : L2.Inv X pins σ' H' { s' with heap := h3 } := J.landed nb' fl3.1 (up.trans up3) os bare
    obtain ⟨oe3, vs3, he3, hz3, hd3⟩ := fl3.there
    have S3 := J3.suite he3 hd3 na nL nF
    refine wpAny_handleBy_cons (codeAny_handlers_test ?_) (by intro q; cases q)
    have tyE : PySem.W.Looks (model X.prog X.w) h3 (typeOf (.ref a)) cls := fun A Q E s k q => wpAny_typeOf_ref (k _ _ he3) (by rw [hz3.1]; exact q)
    have look := PySem.W.exm_one (M := model X.prog X.w) J3.kIn tyE exm
    have named : ∀ {Q : Value → Shared → Prop} {E : Value → Shared → Prop}, Q c { s' with heap := h3 } → wpAny (model X.prog X.w) (X.A.mark (some (.ref a))) (eval (.Name x np) X.env) Q E { s' with heap := h3 } := by
      intro Q E q
      obtain ⟨hg, hdbg, hm | ⟨hm, hv, hnn⟩⟩ := hc
      · exact ld_glob (X := X.suite a ((a, oe3) :: (X.pn ++ pins))) S3 hg hm q hdbg
      · exact ld_blt (X := X.suite a ((a, oe3) :: (X.pn ++ pins))) S3 hg hm hv q hnn hdbg
    refine named (look.here (codeAny_handlers_suite_as ?_))
    refine HandSPX.lands_againZ fl3 fun h4 fl4 up4 => ?_
    have J4 : L2.Inv X pins σ' H' { s' with heap := h4 } := J.landed nb' fl4.1 ((up.trans up3).trans up4) os bare
    obtain ⟨oe4, vs4, he4, hz4, hd4⟩ := fl4.there
    have S4 := J4.suite he4 hd4 na nL nF
    refine store_ok (X := X.suite a ((a, oe4) :: (X.pn ++ pins))) (v := .ref a) S4 hN hi (.inl hln) rfl (fun s5 S5 => ?_) (.inr hln)
    have suite : PSs (X.suite a ((a, oe4) :: (X.pn ++ pins))) [.Assign [.Name y p1] (.Name n p2) p3] (tAsg (tVar i) (gName j)) :=
      pss_one (ps_set (X := X.suite a ((a, oe4) :: (X.pn ++ pins))) hN hj (.inl hlj) (pe_var hi (.inl hln) hdn hcn) (hsw a _) (.inr hlj))
    have hlt : i < σ'.length := by
      rw [J.len]; exact (List.getElem?_eq_some_iff.mp hi).1
    refine wpAny_mono (suite.run [] s5 (σ'.set i (some (.ref a))) H' { nx := fun σ2 H2 => σ2 = (σ'.set i (some (.ref a))).set j (some (.ref a)) ∧ H2 = H', rt := fun _ _ => False } S5 ⟨.ref a, by rw [List.getElem?_set_self hlt], rfl, rfl⟩) (fun f s6 sp => ?_) (fun _ _ z => z.elim)
    cases f
    case next =>
      obtain ⟨σ6, H6, S6, e1, e2⟩ := sp
      subst e1 e2
      obtain ⟨he6, _⟩ := S6.pin (a, oe4) (List.mem_append.mpr (.inl List.mem_cons_self))
      have J6 := track (S6.unsuite good) he6 hz4 hd4 na new0 nL newP
      exact gone_ok J6 hN hi hln fun s7 J7 => ⟨_, _, J7, fin a na J.len⟩
    case ret u =>
      obtain ⟨_, _, _, _, _, z⟩ := sp
      exact z.elim
    case brk =>
      obtain ⟨_, _, _, z⟩ := sp
      exact z.elim
    case cont =>
      obtain ⟨_, _, _, z⟩ := sp
      exact z.elim
end
end Sn
end
section
set_option linter.all false
set_option maxRecDepth 100000
set_option maxHeartbeats 4000000
/-! isinstance of a kept error; a dict's update; what a lambda's call tells. -/
namespace Sn
open PySem PySem.Spec PyProof.Rows L2
def rIsT (K : PySem.W.Frag) : List V → Hp → VK → Prop := fun xs H Q => ∃ (a D : Addr) (c : V) (cv : Value) (b : Bool), xs = [.ref a, c] ∧ H a = some (ExT (.ref D) a) ∧ ExcC K D ∧ (∀ u, RelV c u → u = cv) ∧ PySem.W.kitOne K (.ref D) cv = some b ∧ Q (.bl b) H
theorem call_isT {X : Cx} : CallR X (.builtin "isinstance") (rIsT X.K) := by
  intro pins s σ H xs us Q I r h
  obtain ⟨a, D, c, cv, b, rfl, ha, C, hcv, e, q⟩ := h
  obtain ⟨u1, u2, rfl, r1, r2⟩ := vals2 r
  cases (show u1 = Value.ref a from r1)
  have ec := hcv _ r2
  subst ec
  obtain ⟨⟨oe, vs, h1, hz, hv⟩, _, _⟩ := I.hok a _ ha
  have J : PySem.W.InstAt s.heap a oe D none := by
    obtain ⟨oc, od, oda, osl⟩ := oe
    obtain ⟨h2, h3⟩ := hz
    dsimp only at h2 h3 hv
    subst h2 h3 hv
    exact ⟨h1, rfl, rfl, trivial⟩
  exact PySem.W.kia_one (PySem.W.handS_kitx_exc C.hg C.hk C.hs C.hd C.ha C.hn C.ht C.hm) I.kIn J e (fun z => nomatch z) fun tk => ⟨.bl b, H, I.kept (t' := tk) fun _ _ z => z, rfl, q⟩
def rDUpd : V → List V → Hp → VK → Prop := fun x xs H Q => ∃ (a b : Addr) (k1 k2 : List (Key × V)), x = .ref a ∧ xs = [.ref b] ∧ H a = some (.dK k1) ∧ H b = some (.dK k2) ∧ a ≠ b ∧ k1.length + k2.length ≤ sizeLine ∧ (mergeK k1 k2).length ≤ sizeLine ∧ Q .non (upd H a (.dK (mergeK k1 k2)))
theorem mt_dupd {X : Cx} : MtR X "dict.update" rDUpd := by
  intro pins s σ H x xs v us Q I rx rs h
  obtain ⟨a, b, k1, k2, rfl, rfl, ea, eb, hne, hz, hz2, q⟩ := h
  cases (show v = Value.ref a from rx)
  obtain ⟨u, rfl, ru⟩ : ∃ u, us = [u] ∧ RelV (.ref b) u := by
    cases rs with
    | cons r rr => cases rr; exact ⟨_, rfl, r⟩
  cases (show u = Value.ref b from ru)
  obtain ⟨z1, hd1, vs1, rel1, dd1⟩ := dk_of I.hok ea
  obtain ⟨z2, hd2, vs2, rel2, dd2⟩ := dk_of I.hok eb
  refine call_meetsIn PySem.F.slot_dict_update dd1.typeIs PySem.F.entry_dict_update (PySem.F.args_dict_update_2 _ _) (meets_dict_update (mixKind X.prog X.w) a b hne hd2)
    ⟨vs1, vs2, dd1, dd2, by rw [← rel1.length, ← rel2.length]; exact hz, fun h' d1 d2 hs => ?_⟩
  have he : ∃ q, h'.get? a = some q := let ⟨q, _, _, hq, _⟩ := d1; ⟨q, hq⟩
  exact ⟨.non, _, d_write (t' := s.toks) I (by rw [ea]; exact True.intro) hs he (dk_new hz2 hd1 (KV.merge rel2 rel1) d1), rfl, q⟩
/-- the errors' names by the law's table -/
def KS : List (Str × Nat) := [("boxes", 1), ("length", 4), ("line", 3), ("marks", 2), ("text", 5), ("set", 0), ("undo", 7), ("many", 6)]
def kvsE (c : Nat) : List (Key × V) := KS.map fun p => (Sum.inr p.1, V.bl (decide (c = p.2)))
theorem kvsE_names (c : Nat) (h : c < 8) : ((KS.filter fun p => decide (c = p.2)).map fun p => V.str p.1) = [V.str (mkS (Mn.errName c))] := by
  have k : ∀ c < 8, (KS.filter fun p => decide (c = p.2)).map (fun p => p.1) = [mkS (Mn.errName c)] := by decide +kernel
  have := congrArg (List.map V.str) (k c h)
  simpa [List.map_map, Function.comp] using this
theorem kvsE_val (c i : Nat) (nm : Str) (ix : Nat) (h : KS[i]? = some (nm, ix)) : valV (kvsE c) (Sum.inr nm : Key) = some (.bl (decide (c = ix))) := by
  have hi : i < 8 := (List.getElem?_eq_some_iff.mp h).1
  rcases i with _ | _ | _ | _ | _ | _ | _ | _ | i
  all_goals first
    | (cases h; rfl)
    | omega
/-- what is known of the errors' classes -/
structure ResE (K : PySem.W.Frag) (mg : Str → Option Value) (ca : Nat → Addr) (cs : Addr) : Prop where
  gS : mg "StampError" = some (.ref cs)
  g0 : mg "InvalidWords" = some (.ref (ca 0))
  g1 : mg "InvalidBoxes" = some (.ref (ca 1))
  g2 : mg "InvalidStamps" = some (.ref (ca 2))
  g3 : mg "InvalidRow" = some (.ref (ca 3))
  g4 : mg "InvalidLength" = some (.ref (ca 4))
  g5 : mg "InvalidText" = some (.ref (ca 5))
  g6 : mg "TooMany" = some (.ref (ca 6))
  g7 : mg "NothingToUndo" = some (.ref (ca 7))
  isi : mg "isinstance" = none
  len : mg "len" = none
  ve : mg "ValueError" = none
  c : ∀ c < 8, ExcC K (ca c)
  m : ∀ c < 8, PySem.W.exmOne K (.ref (ca c)) (.ref cs) = some true
  v : ∀ c < 8, PySem.W.kitOne K (.ref (ca c)) (.type "ValueError") = some true
  k : ∀ c < 8, ∀ d < 8, PySem.W.kitOne K (.ref (ca c)) (.ref (ca d)) = some (decide (c = d))
/-- what _law_result makes of a call: tl the call's reading -/
def niceE (ca : Nat → Addr) (Q : VK) : XK := fun cls d H' => ∃ c, c < 8 ∧ cls = .ref (ca c) ∧ d = none ∧ ∀ H'' p, (∀ b o, H' b = some o → H'' b = some o) → H' p = none → H'' p = some (.tup [.str (mkS (Mn.errName c))]) → Q (.ref p) H''
def niceQ (Q : VK) : VK := fun v H' => ∀ p, H' p = none → Q (.ref p) (upd H' p (.tup [.str (mkS [114, 101, 116, 117, 114, 110, 115]), v]))
def TTr (ca : Nat → Addr) : (XK → Hp → VK → Prop) → Hp → VK → Prop := fun tl H Q =>
  ∀ E1 Q1, (∀ cls d H', niceE ca Q cls d H' → E1 cls d H') → (∀ v H', niceQ Q v H' → Q1 v H') → tl E1 H Q1
/-- a, b = (.., ..): the pair itself is not tracked -/
theorem ps_pair {X : Cx} {es ts : List Expr} {ta : TA} {tg : TGs} {k1 k2 n : Nat} {p1 p2 pos : Pos} (hc : X.calm = true) (ha : PA X es ta) (hg : PGs X ts tg)
    (hs : swapsWithSole [.Tuple ts k1 p1] (.Tuple es k2 p2) pos.line X.env = pure false := by rfl) (hw : swappedStores [.Tuple ts k1 p1] (.Tuple es k2 p2) X.env = pure none := by rfl)
    (h1 : (assignEach [.Tuple ts k1 p1] X.env).map (·.2) = [assign (.Tuple ts k1 p1) X.env] := by rfl)
    (hn : (assignEach ts X.env).length = n := by rfl) (hst : (assignEach ts X.env).findIdx? (·.1) = none := by rfl) :
    PS X (.Assign [.Tuple ts k1 p1] (.Tuple es k2 p2) pos) (fun D σ H => ta σ H fun vs H1 => vs.length ≤ sizeLine ∧ vs.length = n ∧ tg vs σ H1 D.nx) := by
  constructor
  intro pins s σ H D I h
  refine wpAny_Assign_stores (Q := _) (thn (Q := fun (v : Value) s1 => ∃ vs us H1, v = .ref (s1.heap.objs.size - 1) ∧ L2.Inv X pins σ H1 s1 ∧ Vals vs us ∧ IsTup s1.heap (s1.heap.objs.size - 1) us.toArray ∧ vs.length = n ∧ tg vs σ H1 D.nx) ?_ ?_) hs hw
  · refine wpAny_Tuple_spliced (thn (ha.run p2 pins s σ H _ I h) fun us s1 hh => ?_)
    obtain ⟨vs, H1, I1, r, z, hl, q⟩ := hh
    refine ⟨by rw [← r.length]; exact z, ?_⟩
    have I2 : L2.Inv X pins σ H1 { s1 with heap := s1.heap.push { cls := .type "tuple", data := .seq us.toArray } } := I1.kept (t' := s1.toks) fun b o e => Heap.get?_push_of_some _ e
    have e1 : (s1.heap.push { cls := .type "tuple", data := .seq us.toArray }).objs.size - 1 = s1.heap.objs.size := by rw [Heap.size_push]; rfl
    refine ⟨vs, us, H1, ?_, I2, r, ?_, hl, q⟩
    · show _ = Value.ref ((s1.heap.push _).objs.size - 1)
      rw [e1]
    · show IsTup (s1.heap.push _) ((s1.heap.push _).objs.size - 1) _
      rw [e1]
      exact IsTup.new s1.heap _
  · intro v s1 hh
    obtain ⟨vs, us, H1, rfl, I1, r, ht, hl, q⟩ := hh
    rw [h1]
    show wpAny _ _ (assign (.Tuple ts k1 p1) X.env _) _ _ _
    refine assign_Tuple_tuple (I1.ok.hd hc) ht (by simp [hn, ← hl, r.length]) hst fun h' hx => ?_
    have I2 : L2.Inv X pins σ H1 { s1 with heap := h' } := I1.kept (t' := s1.toks) fun b o e => hx b o (Nat.ne_of_lt (Heap.lt_size e)) e
    exact hg.run pins _ σ H1 vs us D.nx I2 r q
end Sn
end
section
set_option linter.all false
set_option maxRecDepth 100000
set_option maxHeartbeats 4000000
/-! _law_result(lambda: ..) -/
namespace Sn
open PySem PySem.Spec PyProof.Rows L2
def NgR : List Str := ["_law_call", "_law_caught", "_law_answer", "e", "_law_some", "_law_names", "_law_name"]
theorem Post.monoE {α γ : Type} {T : Sta} {E E' : XK} {R : List (List Addr) → Hp → Hp → α → γ → Prop} {φ : List (List Addr)} {G H : Hp} {Q Q' : γ → Hp → Prop} {r : Mn.Res α} (h : Post T E R φ G H Q r) (he : ∀ cls d H, E cls d H → E' cls d H) (hq : ∀ v H, Q v H → Q' v H) : Post T E' R φ G H Q' r := by
  cases r with
  | ok d w => exact fun v φ' G' H' e W q => hq _ _ (h v φ' G' H' e W q)
  | exc c w => exact fun φ' G' H' e W => he _ _ _ (h φ' G' H' e W)
  | bad => exact h
/-- old things stand, one new -/
theorem World.more {T : Sta} {φ : List (List Addr)} {G H H' : Hp} {w : Mn.W} {p : Addr} {o : HO} (W : World T φ G H w) (e : ∀ b u, H b = some u → H' b = some u) (hp : H p = none) (hp' : H' p = some o) (n : NT o) :
    World T φ (upd G p o) H' w ∧ Evo φ G H φ (upd G p o) H' := by
  have g0 := W.gnone hp
  have m0 := W.notw hp
  have ob : ∀ a ∈ φ.flatten, H' a = H a := fun a ha => by
    obtain ⟨_, u, h, _⟩ := W.apart a ha
    rw [h]; exact e a u h
  refine ⟨W.keep (Le.upd o g0) (fun a u h => ?_) (fun a ha => ?_) ob (W.tabs.ext e) (ng_upd W.ng n), ⟨List.prefix_refl _, Le.upd o g0, fun a u h _ _ => e a u h, fun a u h t => ⟨u, e a u h, t⟩, fun a u h _ n => ?_, fun _ _ _ _ n => n⟩⟩
  · by_cases z : a = p
    · subst z; rw [upd_same] at h; cases h; exact .inl hp'
    · rw [upd_ne z] at h
      rcases W.sub a u h with h1 | ⟨ob, kvs, h1, h2⟩
      · exact .inl (e a u h1)
      · exact .inr ⟨ob, kvs, h1, e a _ h2⟩
  · have : a ≠ p := fun z => m0 (z ▸ ha)
    rw [upd_ne this]; exact (W.apart a ha).1
  · have : a ≠ p := fun z => by subst z; rw [hp] at h; cases h
    rw [upd_ne this]; exact n
theorem err_ok (c : Nat) : OkS (Mn.errName c) := by
  unfold Mn.errName
  split <;> exact okS_of (by decide)
section
variable {T : Sta} {e0 : Snap} {E : XK} {X : Cx} {Φ : PHI} {m : Mn.E}
/-- what a told call asks of the lambda's reading -/
theorem told_read {σ : L2.St} {H : Hp} {Q : VK} (h : VE T e0 E Φ (.res m) σ H Q) : LamX.tLam T.tab (TTr T.ca) (fun E' => VE T e0 E' Φ m) σ H Q := by
  obtain ⟨φ, G, ρ, w, st, p⟩ := h
  refine ⟨st.world.tabs, fun H1 eN tb E1 Q1 hE hQ => ?_⟩
  obtain ⟨W1, e1⟩ := st.world.ext eN tb
  refine ⟨φ, G, ρ, w, st.step e1 W1, ?_⟩
  have p1 := Post.evo e1 p
  simp only [Mn.ev] at p1
  cases q : Mn.ev Φ m ρ w with
  | bad => rw [q] at p1; exact p1
  | exc c w2 =>
    rw [q] at p1
    intro φ' G' H' e W
    unfold Mn.told at p1
    by_cases hc : c < 8
    · simp only [hc, if_true] at p1
      refine hE _ _ _ ⟨c, hc, rfl, rfl, fun H'' p hold hp hp' => ?_⟩
      obtain ⟨W2, e2⟩ := W.more hold hp hp' nt_tup
      refine p1 _ φ' _ H'' (e.trans e2) W2 (rv_tup.mpr ⟨p, _, rfl, upd_same, Reps.cons ?_ Reps.nil⟩)
      unfold Rep
      exact ⟨rfl, err_ok c⟩
    · simp only [hc, if_false] at p1; exact p1.elim
  | ok d w2 =>
    rw [q] at p1
    intro v φ' G' H' e W r
    unfold Mn.told at p1
    cases ho : Mn.isOwn d with
    | true => simp only [ho, if_true] at p1; exact p1.elim
    | false =>
      simp only [ho, Bool.false_eq_true, if_false] at p1
      refine hQ _ _ fun p hp => ?_
      obtain ⟨W2, e2⟩ := W.fix (HO.tup [V.str (mkS [114, 101, 116, 117, 114, 110, 115]), v]) hp nt_tup
      refine p1 _ φ' _ _ (e.trans e2) W2 (rv_tup.mpr ⟨p, _, rfl, upd_same, Reps.cons ?_ (Reps.cons ((r.rep ho).mono e2.phi e2.g) Reps.nil)⟩)
      unfold Rep
      exact ⟨rfl, okS_of (by decide)⟩
theorem e_res (x : XOk T X) {kk : Nat} (hr : Room (kk + 2) X.A) (hg : Gl X "_law_result") {g : Addr} (hm : X.mg "_law_result" = some (.ref g)) {stR : Stmt} {fd : FuncData} (F : Fun X.K "_law_result" "_law_result" stR g fd) (hb : Binds X.K fd ["_law_call"] [])
    (Sg : FnScope NgR ["_law_call"] (defScope stR)) (hva : Vis (defScope stR) "_law_call")
    (giv : ∀ (cdg : Value) (q : Str), (∀ s : Shared, (X.A.deeper (envOfC "_law_result" (defScope stR) s.heap.objs.size g cdg)).units + 64 < cLine) → LamX.GivesTo X NgR "_law_result" (defScope stR) g cdg (defBody stR) "_law_call" q (TTr T.ca))
    {c P : Addr} (TB : LamX.TabB X.base X.mg c P) (hcode : X.env.code = .ref c) (hmT : (P, X.env.qual ++ "<lambda>") ∈ T.tab) (hu : ∀ p ∈ T.tab, p.1 = P → p.2 = X.env.qual ++ "<lambda>")
    {params : Arguments} {body : Expr} {scope : Scope} {p lpos pos : Pos} (L : LamX.LamS X.env.scope scope) (hdef : defaultsOf params X.env = ([], []))
    (hbind : ∀ (q : Str) (cl : List (Str × Addr)) (pm cv ctv : Value), bindArgs (PySem.W.kla_fn "<lambda>" q params body scope cl pm cv ctv) ⟨[], []⟩ = pure [])
    (hbody : ∀ (A : Around) (outer : List Env) (s : Shared) (H : Hp) (E' : XK) (f c' : Addr), Room kk (LamX.lamCx X A outer s H E' scope f c').A → XOk T (LamX.lamCx X A outer s H E' scope f c') → Passes (L2.CX X.prog X.w) (LamX.lamCx X A outer s H E' scope f c') E' →
      PE (LamX.lamCx X A outer s H E' scope f c') body (VE T e0 E' Φ m)) :
    PE X (.Call (.Name "_law_result" p) [.Lambda params body scope lpos] [] pos) (VE T e0 E Φ (.res m)) := by
  obtain ⟨oc, od, kV, doc, pm, an, cdv, ct, osl, rfl, lk, hcd⟩ := F.ex
  refine PE.imp (LamX.pe_lamcall (T := T.tab) (TT := TTr T.ca) (t := fun E' => VE T e0 E' Φ m) (a := "_law_call") (k := kk) hg hm F.kp lk hcd hb Sg rfl hva (giv cdv _ fun s => (hr.deeper _).units) TB hcode hmT hu hr L hdef hbind ?_) fun σ H Q h => told_read h
  intro A outer s H E' f c' hr2
  have xl : XOk T (LamX.lamCx X A outer s H E' scope f c') := ⟨x.K, rfl, hr2.units, x.nd⟩
  exact hbody A outer s H E' f c' hr2 xl (passes_call (takes_of rfl rfl rfl rfl) fun _ _ _ _ h => h)
end
/-- the def's own code object has a table -/
def LamOk (K : PySem.W.Frag) (mg : Str → Option Value) (base : Heap) (tab : List (Addr × Str)) (f : Addr) (x : Str) : Prop := ∀ (fd : FuncData) (c : Addr) (oc : Value) (od : Option Addr) (osl : Array (Option Value)), K.lookup f = some ⟨oc, od, .func fd, osl⟩ → fd.code = .ref c →
  ∃ P, LamX.TabB base mg c P ∧ (P, x ++ ".<locals>." ++ "<lambda>") ∈ tab ∧ ∀ p ∈ tab, p.1 = P → p.2 = x ++ ".<locals>." ++ "<lambda>"
theorem okL {P : Program} {w : PySem.World} {K : PySem.W.Frag} {mg : Str → Option Value} {base : Heap} {x : Str} {st : Stmt} {f : Addr} {fd : FuncData} {N ps : List Str} {k : Nat} {sp : Sp} {tab : List (Addr × Str)} (F : Fun K x x st f fd) (S : FnScope N ps (defScope st)) (lm : LamOk K mg base tab f x) (len : ∀ vs H Q E, sp vs H Q E → vs.length = ps.length)
    (hbody : ∀ (c Pt : Addr) (A : Around) (outer : List Env) (s : Shared) (H : Hp) (vs : List V) (Q : VK) (E : XK), LamX.TabB base mg c Pt → (Pt, x ++ ".<locals>." ++ "<lambda>") ∈ tab → (∀ p ∈ tab, p.1 = Pt → p.2 = x ++ ".<locals>." ++ "<lambda>") →
      Room k (A.deeper (envOfC x (defScope st) s.heap.objs.size f (.ref c))) → sp vs H Q E →
      ∃ t, PSs (cxOf (L2.CX P w) P w K mg base N x (defScope st) f (.ref c) A outer s H E) (defBody st) t ∧ t { nx := fun _ H' => Q .non H', rt := Q } (L2.start N vs) H) : FnOk P w K mg base (L2.CX P w) (k + 1) f fd ps sp := by
  obtain ⟨oc, od, kV, doc, pm, an, cdv, ct, osl, rfl, lk, hcd⟩ := F.ex
  obtain ⟨c, rfl⟩ := He.codeIn_ref hcd
  obtain ⟨Pt, h1, h2, h3⟩ := lm _ c _ _ _ lk rfl
  exact fn_of lk hcd S len fun A outer s H vs Q E hr hsp => hbody c Pt A outer s H vs Q E h1 h2 h3 hr hsp
/-- _law_result stands -/
def RH (K : PySem.W.Frag) (mg : Str → Option Value) (g : Addr) (st : Stmt) : Prop := mg "_law_result" = some (.ref g) ∧ ∃ fd, Fun K "_law_result" "_law_result" st g fd ∧ Binds K fd ["_law_call"] []
end Sn
end
section
set_option linter.all false
set_option maxRecDepth 100000
set_option maxHeartbeats 4000000
/-! Sets of texts, told by their tables; sorted(set(texts)). -/
namespace Sn
open PySem PySem.Spec PyProof.Rows L2
/-- the object that set() makes -/
def setObj0 (w : PySem.World) : Obj := { cls := .type "set", dict := none, data := .set #[] 0 (.fresh 0 0 (!w.params.followText "set-order")) }
def keyS (e : Int × Value) : Str := match e.2 with | .str k _ => k | _ => Str.empty
def GoodS (w : PySem.World) (e : Int × Value) : Prop := ∃ k tk, e.2 = Value.str k tk ∧ e.1 = hashStr w k
/-- at a a set of texts: M tells which, n how many; its table can be walked -/
structure SetS (w : PySem.World) (h : Heap) (a : Addr) (M : Str → Prop) (n : Nat) : Prop where
  ex : ∃ (o : Obj) (es : Array (Int × Value)) (ep : Nat) (t : SetTable), (h.get? a = some o ∧ o.ExactSet ∧ o.data = .set es ep t) ∧ ((∀ e ∈ es.toList, GoodS w e) ∧ (es.toList.map keyS).Nodup ∧ ∀ k, M k ↔ k ∈ es.toList.map keyS) ∧
    (es.size < scanBound ∧ t.fits es.size = true ∧ es.size = n) ∧ Ris t.place.toList ∧ (w.params.followText "set-order" = true ∨ t.led = true)
section
variable {P : Program} {w : PySem.World} {h h' : Heap} {a : Addr} {M : Str → Prop} {n : Nat} {A : Around} {E : Value → Shared → Prop} {s : Shared}
theorem SetS.at (R : SetS w h a M n) (k : ∀ o, h.get? a = some o → h'.get? a = some o) : SetS w h' a M n := by
  obtain ⟨o, es, ep, t, ⟨h1, h2⟩, r⟩ := R.ex
  exact ⟨o, es, ep, t, ⟨k o h1, h2⟩, r⟩
theorem SetS.congr {M' : Str → Prop} (R : SetS w h a M n) (e : ∀ k, M' k ↔ M k) : SetS w h a M' n := by
  obtain ⟨o, es, ep, t, q1, ⟨q2, q3, q4⟩, r⟩ := R.ex
  exact ⟨o, es, ep, t, q1, ⟨q2, q3, fun k => (e k).trans (q4 k)⟩, r⟩
theorem str_is {e : Int × Value} (g : GoodS w e) (k : Str) : (PySem.strKind P w).is k e.2 = true ↔ keyS e = k := by
  obtain ⟨k0, tk, h1, _⟩ := g
  unfold keyS
  rw [h1]
  show Value.isStrOf k (.str k0 tk) = true ↔ k0 = k
  constructor
  · intro z
    obtain ⟨u, e⟩ := Value.isStrOf_shape z
    injection e with e1
  · intro z
    subst z
    exact Froz.is_str (P := P) (w := w) k0 tk
theorem str_elems {l : List (Int × Value)} (g : ∀ e ∈ l, GoodS w e) : ElemsOf (PySem.strKind P w) l := fun e he => by
  obtain ⟨k, tk, e1, e2⟩ := g e he
  refine ⟨⟨k, ?_, e2⟩, by rw [e1]; rfl⟩
  rw [e1]
  exact Froz.is_str k tk
theorem str_mem {l : List (Int × Value)} (g : ∀ e ∈ l, GoodS w e) (k : Str) : k ∈ l.map keyS ↔ ∃ e ∈ l, (PySem.strKind P w).is k e.2 = true := by
  rw [List.mem_map]
  exact ⟨fun ⟨e, he, q⟩ => ⟨e, he, (str_is (g e he) k).mpr q⟩, fun ⟨e, he, q⟩ => ⟨e, he, (str_is (g e he) k).mp q⟩⟩
theorem put_at {h : Heap} {a : Addr} {o : Obj} {es es' : Array (Int × Value)} {ep : Nat} {t t' : SetTable} (ho : h.get? a = some o) (hd : o.data = .set es ep t) :
    (h.update a (Obj.putSet es' t')).get? a = some { o with data := .set es' (ep + 1) t' } := store_at ho hd
/-- the end of an adding: the table is stored, perhaps laid anew -/
theorem add_end {g : Bool → Sem Unit} (hg : ∀ (b : Bool) (s₁ : Shared) (Q' : Unit → Shared → Prop), Q' () s₁ → wpAny (model P w) A (g b) Q' E s₁) {o : Obj} {es : Array (Int × Value)} {ep : Nat} {t : SetTable} {fs : Array (Int × Value)} {u : SetTable} {wd : Bool} {R : Option Bool → Shared → Prop}
    (ho : s.heap.get? a = some o) (hx : o.ExactSet) (hd : o.data = .set es ep t) (hgood : ∀ e ∈ fs.toList, GoodS w e) (hnd : (fs.toList.map keyS).Nodup) (hM : ∀ k, M k ↔ k ∈ fs.toList.map keyS) (hfew : fs.size < scanBound) (hfit : u.fits fs.size = true)
    (hris : Ris u.place.toList) (hled : w.params.followText "set-order" = true ∨ u.led = true) (hR : ∀ k, Heap.SameBut a s.heap k → SetS w k a M fs.size → R (some true) { s with heap := k }) :
    wpAny (model P w) A (do
      storeSet a fs u
      if (!wd && u.tooFull) = true then do
          g (relayAll u fs (SetTable.grown fs.size)).2.2
          storeSet a (relayAll u fs (SetTable.grown fs.size)).1 (relayAll u fs (SetTable.grown fs.size)).2.1
          pure (some true)
        else pure (some true)) R E s := by
  have step1 := put_at (es' := fs) (t' := u) ho hd
  have same1 := Heap.SameBut.update s.heap a (Obj.putSet fs u)
  refine wpAny_bind (wpAny_storeSet_of ho hd ?_ (fits_of_scanBound hfew))
  by_cases full : (!wd && u.tooFull) = true
  · rw [if_pos full]
    obtain ⟨gs, v, gave, ez⟩ : ∃ gs v gave, relayAll u fs (SetTable.grown fs.size) = (gs, v, gave) := ⟨_, _, _, rfl⟩
    have perm := relayAll_perm u fs (SetTable.grown fs.size)
    have fit2 := relayAll_fits u fs (SetTable.grown fs.size)
    have ris2 := relayAll_ris u fs (SetTable.grown fs.size)
    have led2 := relayAll_led u fs (SetTable.grown fs.size)
    rw [ez] at perm fit2 ris2 led2 ⊢
    dsimp only at perm fit2 ris2 led2 ⊢
    have same : gs.size = fs.size := by
      rw [← Array.length_toList, ← Array.length_toList]; exact perm.length_eq
    refine wpAny_bind (hg gave _ _ (wpAny_bind (wpAny_storeSet_of step1 rfl ?_ (fits_of_scanBound (same ▸ hfew)))))
    have step2 := put_at (es' := gs) (t' := v) step1 rfl
    refine wpAny_pure (hR _ (same1.trans (Heap.SameBut.update _ a _)) ⟨_, gs, _, v, ⟨step2, hx, rfl⟩, ⟨fun e he => hgood e (perm.mem_iff.mp he), (perm.map keyS).nodup_iff.mpr hnd, fun k => (hM k).trans (perm.map keyS).mem_iff.symm⟩, ⟨same ▸ hfew, fit2, same⟩, ris2, ?_⟩)
    rw [led2]; exact hled
  · rw [if_neg full]
    exact wpAny_pure (hR _ same1 ⟨_, fs, _, u, ⟨step1, hx, rfl⟩, ⟨hgood, hnd, hM⟩, ⟨hfew, hfit, rfl⟩, hris, hled⟩)
/-- a text is added -/
theorem add_str {k : Str} {tk : Tok} {Q : Bool → Shared → Prop} (R : SetS w s.heap a M n) (room : n + 1 < scanBound)
    (hQ : ∀ b c h', Heap.SameBut a s.heap h' → c ≤ n + 1 → SetS w h' a (fun j => M j ∨ j = k) c → Q b { s with heap := h' }) : wpAny (model P w) A (setAddHashed a (.str k tk) (hashStr w k)) Q E s := by
  obtain ⟨o, es, ep, t, ⟨ho, hx, hd⟩, ⟨good, nd, hM⟩, ⟨few, fit, sz⟩, ris, led⟩ := R.ex
  have el : ElemsOf (PySem.strKind P w) es.toList := str_elems good
  have key : (PySem.strKind P w).is k (.str k tk) = true := Froz.is_str k tk
  have quiet : ∀ (b : Bool) {s₁ : Shared} {Q' : Unit → Shared → Prop}, Q' () s₁ → wpAny (model P w) A (match b with | true => rule "set.scan.the-table-gave-way" | false => pure ()) Q' E s₁ := by
    intro b s₁ Q' q
    cases b
    · exact wpAny_pure q
    · exact wpAny_rule q
  unfold setAddHashed setAddHashedIn
  refine wpAny_holding (wpAny_bind (wpAny_setState_of ho hd fit ?_))
  dsimp only
  rw [byScan_of (x := Value.str k tk) rfl few el]
  simp only [↓reduceIte]
  unfold setAddByScan
  refine wpAny_bind (wpAny_bind (wpAny_rule (wpAny_bind (wpAny_setScan_of (knd := PySem.strKind P w) (k := k) key ho hd fit el ?_))))
  cases found : List.findIdx? (fun e => (PySem.strKind P w).is k e.2) es.toList with
  | some j =>
    dsimp only
    obtain ⟨hj, pj, _⟩ := List.findIdx?_eq_some_iff_getElem.mp found
    have old : M k := (hM k).mpr ((str_mem (P := P) good k).mpr ⟨es.toList[j], List.getElem_mem hj, pj⟩)
    refine wpAny_pure (wpAny_pure (hQ _ n _ (Heap.SameBut.refl a s.heap) (Nat.le_succ n) ⟨o, es, ep, t, ⟨ho, hx, hd⟩, ⟨good, nd, fun i => ?_⟩, ⟨few, fit, sz⟩, ris, led⟩))
    rw [← hM i]
    exact ⟨fun z => z.elim id fun e => e ▸ old, .inl⟩
  | none =>
    dsimp only
    have new : k ∉ es.toList.map keyS := fun z => by
      obtain ⟨e, he, q⟩ := (str_mem (P := P) good k).mp z
      have := List.findIdx?_eq_none_iff.mp found e he
      rw [q] at this; cases this
    obtain ⟨fs, u, wd, gave, ez⟩ : ∃ fs u wd gave, layNew t es (hashStr w k) (.str k tk) = (fs, u, wd, gave) := ⟨_, _, _, _, rfl⟩
    have perm := layNew_perm t es (hashStr w k) (.str k tk)
    have fit1 := layNew_fits t es (hashStr w k) (.str k tk)
    have ris1 := layNew_ris t es (hashStr w k) (.str k tk) ris
    have led1 := layNew_led t es (hashStr w k) (.str k tk)
    rw [ez] at perm fit1 ris1 led1 ⊢
    dsimp only at perm fit1 ris1 led1 ⊢
    rw [Array.toList_push] at perm
    have perm' : fs.toList.Perm ((hashStr w k, Value.str k tk) :: es.toList) := perm.trans (List.perm_append_singleton _ _)
    have permK : (fs.toList.map keyS).Perm (k :: es.toList.map keyS) := perm'.map keyS
    have good1 : ∀ e ∈ fs.toList, GoodS w e := fun e he => (List.mem_cons.mp (perm'.mem_iff.mp he)).elim (fun z => z ▸ ⟨k, tk, rfl, rfl⟩) (good e)
    have nd1 : (fs.toList.map keyS).Nodup := permK.nodup_iff.mpr (List.nodup_cons.mpr ⟨new, nd⟩)
    have mem1 : ∀ i, (M i ∨ i = k) ↔ i ∈ fs.toList.map keyS := fun i => by
      rw [permK.mem_iff, List.mem_cons, hM i]
      exact Or.comm
    have sz1 : fs.size = n + 1 := by
      rw [← Array.length_toList, perm'.length_eq, List.length_cons, Array.length_toList, sz]
    have few1 : fs.size < scanBound := by rw [sz1]; exact room
    have led2 : w.params.followText "set-order" = true ∨ u.led = true := led.imp id fun z => by rw [led1]; exact z
    have fin : ∀ b h', Heap.SameBut a s.heap h' → SetS w h' a (fun j => M j ∨ j = k) fs.size → Q b { s with heap := h' } := fun b h' same r => hQ b _ h' same (Nat.le_of_eq sz1) r
    refine wpAny_bind (quiet _ ?_)
    by_cases pl : u.plain = true
    · rw [if_pos pl]
      refine wpAny_bind ?_
      rw [hashByValue_scannable 8 (x := Value.str k tk) rfl]
      refine wpAny_pure (add_end (fun b s₁ Q' q => by cases b <;> first | exact wpAny_pure q | exact wpAny_rule q) ho hx hd good1 nd1 mem1 few1 (SetTable.fits_plain_off fit1) ris1 led2 fun h' same r => ?_)
      dsimp only
      exact wpAny_pure (fin _ h' same r)
    · rw [if_neg pl]
      refine wpAny_bind (wpAny_pure ?_)
      simp only [↓reduceIte]
      refine add_end (fun b s₁ Q' q => by cases b <;> first | exact wpAny_pure q | exact wpAny_rule q) ho hx hd good1 nd1 mem1 few1 fit1 ris1 led2 fun h' same r => ?_
      dsimp only
      exact wpAny_pure (fin _ h' same r)
/-- the loop that puts a walk's texts into the set at S -/
theorem put_texts {I : Addr} {fp wr : List Addr} {G : Array GenState → Array GenState → Prop} {n : Nat} {Pv : Nat → Value → Prop} {St : Nat → Shared → Prop} {R : Result → Shared → Prop} (W : WalksS P w A.in1 I fp wr G n Pv St) (S : Addr) (hS : S ∉ fp) (ks : List Str) (hn : n = ks.length)
    (few : ks.length + 1 < scanBound) (val : ∀ i v, Pv i v → ∃ k t, ks[i]? = some k ∧ v = .str k t) : ∀ (m i : Nat) (s : Shared), n - i = m → i ≤ n → St i s → (∃ c, c ≤ i ∧ SetS w s.heap S (fun j => j ∈ ks.take i) c) →
      (∀ s' c, Moved (S :: wr) G s s' → c ≤ n → SetS w s'.heap S (fun j => j ∈ ks) c → R (.ok (.ret .none)) s') → codeAny (model P w) A (.builtin "set.update.loop" ⟨[.ref S, .ref I], []⟩) R s := by
  have notW : S ∉ wr := fun z => hS (W.sub _ z)
  have more : ∀ b ∈ wr, b ∈ S :: wr := fun b z => List.mem_cons_of_mem _ z
  intro m
  induction m with
  | zero =>
    intro i s hm hi st ⟨c, hc, hset⟩ hR
    obtain rfl : i = n := by omega
    refine codeAny_builtin F.entry_set_update_loop ?_
    rw [Around.under_plainId F.plain_set_update_loop _]
    show wpAny _ A.in1 (pyNext (.ref I) >>= _) _ _ s
    refine wpAny_bind (W.done s _ _ st fun s2 moved => ?_)
    show wpAny _ A.in1 (ret Value.none) _ _ s2
    rw [List.take_of_length_le (show ks.length ≤ i by omega)] at hset
    exact wpAny_pure (hR s2 c (moved.mono more) hc (hset.at fun o e => moved.heap S o notW e))
  | succ m ih =>
    intro i s hm hi st ⟨c, hc, hset⟩ hR
    have below : i < n := by omega
    refine codeAny_builtin F.entry_set_update_loop ?_
    rw [Around.under_plainId F.plain_set_update_loop _]
    show wpAny _ A.in1 (pyNext (.ref I) >>= _) _ _ s
    refine wpAny_bind (W.item i s _ _ below st fun v s2 hv st2 moved => ?_)
    obtain ⟨z, t, hz, rfl⟩ := val i v hv
    have set2 : SetS w s2.heap S (fun j => j ∈ ks.take i) c := hset.at fun o e => moved.heap S o notW e
    show wpAny _ A.in1 (holding [Value.str z t] (setAdd S (.str z t)) >>= _) _ _ s2
    refine wpAny_bind (wpAny_holding ?_)
    unfold setAdd
    refine wpAny_holding (wpAny_bind ((PySem.strKind P w).pyHash (k := z) (Froz.is_str z t) ?_))
    refine add_str (s := { s2 with toks := s2.toks + 1 }) set2 (by omega) fun b c2 k2 same hc2 set3 => ?_
    have set4 : SetS w k2 S (fun j => j ∈ ks.take (i + 1)) c2 := set3.congr fun j => by
      rw [List.take_add_one, hz, List.mem_append]
      simp
    refine wpAny_pure ⟨plainId_quiet F.plain_set_update_loop _, ih (i + 1) _ (by omega) below (W.frame _ s2 _ _ st2 (Nat.le_succ _) fun q hq o e => ?_) ⟨c2, by omega, set4⟩ fun s3 c3 moved3 hc3 set5 => ?_⟩
    · rw [same.2 q (fun z => hS (z ▸ hq))]; exact e
    · refine hR s3 c3 (Moved.trans W.gtrans ((moved.mono more).then_heap (Nat.le_succ _) fun q o hq e => ?_) moved3) hc3 set5
      rw [same.2 q (fun z => hq (z ▸ List.mem_cons_self))]; exact e
theorem set0_at {h : Heap} {a : Addr} (ho : h.get? a = some (setObj0 w)) : SetS w h a (fun _ => False) 0 :=
  ⟨_, #[], 0, _, ⟨ho, ⟨rfl, rfl, rfl⟩, rfl⟩, ⟨fun e he => by simp at he, by simp, fun k => by simp⟩, ⟨by decide, rfl, rfl⟩, List.Pairwise.nil, by
    show _ ∨ (!w.params.followText "set-order") = true
    cases w.params.followText "set-order" with
    | false => exact .inr rfl
    | true => exact .inl rfl⟩
/-- what set(..) leaves -/
def MadeSet (w : PySem.World) (s : Shared) (ks : List Str) (Q : Value → Shared → Prop) : Prop := ∀ (h' : Heap) (tk c : Nat), SetS w h' s.heap.objs.size (fun j => j ∈ ks) c → c ≤ ks.length → (∀ b o, s.heap.get? b = some o → h'.get? b = some o) → Q (.ref s.heap.objs.size) { s with heap := h', toks := tk }
set_option maxHeartbeats 8000000 in
theorem set_of_list {l : Addr} {items : Array Value} {ks : List Str} {Q : Value → Shared → Prop} (hh : A.handled = none) (hl : s.heap.IsList l items) (hi : StrsAre items.toList ks) (few : ks.length + 1 < scanBound) (hq : MadeSet w s ks Q) :
    wpAny (model P w) A (call (.type "set") [.ref l]) Q E s := by
  have size : items.size = ks.length := by
    rw [← StrsAre.len_eq hi, Array.length_toList]
  obtain ⟨c, tl, hmro⟩ := PySem.F.called_set.mro
  have made := PySem.F.called_set.made
  have subs := PySem.F.called_set.sub
  refine wpAny_call (codeAny_of_tree ?_)
  show wpAny _ _ (callAny (.type "set") _) _ _ _
  refine wpAny_pure ⟨Code.quiet_builtin _ (by decide +kernel), codeAny_builtin PySem.F.entry_type_call ?_⟩
  rw [Around.under_plain (weight_type_call_type "set" [.ref l] []) rfl]
  have t1 := PySem.F.called_set.notType
  have t2 := PySem.F.called_set.canCreate
  have t3 := PySem.F.typeCall_set_1 (.ref l)
  repeat (any_goals (first | assumption | wp_step))
  refine codeAny_mono (code_set_led1 (.ref l) (E := E) (Q₁ := fun obj s₁ => obj = .ref s.heap.objs.size ∧ s₁ = { s with heap := s.heap.push (setObj0 w) }) ⟨rfl, rfl⟩) fun r s₁ hr => ?_
  cases r with
  | error e => exact hr
  | ok fl =>
    cases fl with
    | ret obj =>
      obtain ⟨rfl, rfl⟩ := hr
      have here : (s.heap.push (setObj0 w)).get? s.heap.objs.size = some (setObj0 w) := Heap.get?_push_size _ rfl
      have isT : Shared.TypeIs { s with heap := s.heap.push (setObj0 w) } (.ref s.heap.objs.size) "set" := ⟨_, here, rfl⟩
      have i1 := PySem.F.called_set.init.lookup
      have i2 := PySem.F.called_set.init.bind (.ref s.heap.objs.size)
      repeat (any_goals (first | assumption | wp_step))
      refine codeAny_mono (codeAny_call_builtin (R := wants (fun r s₂ => r = .none ∧ ∃ h' tk c, s₂ = { s with heap := h', toks := tk } ∧ SetS w h' s.heap.objs.size (fun j => j ∈ ks) c ∧ c ≤ ks.length ∧ (∀ b o, s.heap.get? b = some o → h'.get? b = some o)) E)
        PySem.F.called_set.init.plain PySem.F.entry_set_init (check_set_init_1 isT ?_)) fun r₂ s₂ hr₂ => ?_
      · obtain ⟨⟨ocls, odict, odata, oslots⟩, hol, hcl, nl, hdl⟩ := hl
        simp only at hcl hdl
        subst hcl hdl
        have hol2 : (s.heap.push (setObj0 w)).get? l = some { cls := .type "list", dict := odict, data := .seq items nl, slots := oslots } := Heap.get?_push_of_some _ hol
        have k1 := PySem.F.sub_list_set
        have k2 := PySem.F.sub_list_frozenset
        have k3 : (Value.type "list" == Value.type "dict") = false := by decide
        have hl1 : (s.heap.push (setObj0 w)).IsList l items := ⟨_, hol2, rfl, nl, rfl⟩
        unfold Builtin.«set.__init__» noKeywords Builtin.Frozenset.updateFrom
        generalize hPI : pyIter = PI
        wp_walk
        subst hPI
        refine wpAny_pyIter_list hl1 (wpAny_bind (wpAny_runValue ?_))
        have llt : l < s.heap.objs.size := Heap.lt_size hol
        have calm3 : A.in1.in1.in1.handled = none := by simp [hh]
        have z1 : (s.heap.push (setObj0 w)).objs.size = s.heap.objs.size + 1 := Heap.size_push ..
        have neI : l ≠ (s.heap.push (setObj0 w)).objs.size := by rw [z1]; exact Nat.ne_of_lt (Nat.lt_succ_of_lt llt)
        have notF : s.heap.objs.size ∉ [(s.heap.push (setObj0 w)).objs.size, l] := by
          rw [z1]
          simp only [List.mem_cons, List.not_mem_nil, or_false, not_or]
          exact ⟨Nat.ne_of_lt (Nat.lt_succ_self _), Nat.ne_of_gt llt⟩
        have val : ∀ (i : Nat) (v : Value), items[i]? = some v → ∃ k t, ks[i]? = some k ∧ v = .str k t := fun i v hv => by
          have hi2 : i < ks.length := by rw [← size]; exact (Array.getElem?_eq_some_iff.mp hv).1
          obtain ⟨t, e⟩ := SS.strs_at hi i v (by rw [Array.getElem?_toList]; exact hv)
          refine ⟨ks[i], t, List.getElem?_eq_getElem hi2, ?_⟩
          rw [e, List.getD_eq_getElem?_getD, List.getElem?_eq_getElem hi2]; rfl
        refine put_texts ((Walks.list calm3 _ l neI items).toS) s.heap.objs.size notF ks size few val (items.size - 0) 0 _ (by omega) (Nat.zero_le _) ⟨⟨_, Heap.get?_push_size _ rfl, rfl, rfl⟩, hl1.push _⟩
          ⟨0, Nat.le_refl 0, (set0_at (Heap.get?_push_of_some _ here)).congr fun k => by simp⟩ fun s' c' moved hc' hset => ?_
        obtain ⟨h', g2, d', tk', os'⟩ := s'
        obtain rfl : g2 = s.gens := moved.gens
        obtain rfl : d' = s.drawn := moved.drawn
        obtain rfl : os' = s.os := moved.os
        refine wpAny_pure ?_
        show wpAny _ _ (ret Value.none) _ _ _
        rw [size] at hc'
        refine wpAny_pure ⟨rfl, h', tk', c', rfl, hset, hc', fun b o e => ?_⟩
        have b0 : b < s.heap.objs.size := Heap.lt_size e
        refine moved.heap b o ?_ (Heap.get?_push_of_some _ (Heap.get?_push_of_some _ e))
        rw [z1]
        simp only [List.mem_cons, List.not_mem_nil, or_false, not_or]
        exact ⟨Nat.ne_of_lt b0, Nat.ne_of_lt (Nat.lt_succ_of_lt b0)⟩
      · cases r₂ with
        | error e => exact hr₂
        | ok fl₂ =>
          cases fl₂ with
          | ret r =>
            obtain ⟨rfl, h', tk, c', rfl, hset, hc', keep⟩ := hr₂
            repeat (any_goals (first | assumption | wp_step))
            exact hq h' tk c' hset hc' keep
          | _ => exact hr₂.elim
    | _ => exact hr.elim
end
end Sn
end
section
set_option linter.all false
set_option maxRecDepth 100000
set_option maxHeartbeats 4000000
/-! sorted(set(texts)) -/
namespace Sn
open PySem PySem.Spec PyProof.Rows L2
section
variable {P : Program} {w : PySem.World} {a : Addr} {M : Str → Prop} {n : Nat} {A : Around} {E : Value → Shared → Prop} {s : Shared}
theorem strs_all : ∀ (l : List Value), (∀ v ∈ l, ∃ k tk, v = Value.str k tk) → ∃ ss, StrsAre l ss ∧ ss = l.map fun v => keyS (0, v)
  | [], _ => ⟨[], .nil, rfl⟩
  | v :: l, h => by
    obtain ⟨k, tk, rfl⟩ := h v List.mem_cons_self
    obtain ⟨ss, h1, h2⟩ := strs_all l fun u hu => h u (List.mem_cons_of_mem _ hu)
    exact ⟨k :: ss, .cons k tk h1, by rw [h2]; rfl⟩
theorem sorted_texts {Q : Value → Shared → Prop} (R : SetS w s.heap a M n) (hh : A.handled = none)
    (hQ : ∀ s' p (out : Array Value) (c : Nat) (ss : List Str), (∀ b o, s.heap.get? b = some o → s'.heap.get? b = some o) → s'.gens = s.gens → s'.os = s.os → s.heap.objs.size ≤ p →
      s'.heap.get? p = some (seqObj "list" out c) → StrsAre out.toList ss → ss.Nodup → sortedS ss = true → (∀ k, k ∈ ss ↔ M k) → ss.length ≤ 4096 → Q (.ref p) s') :
    wpAny (model P w) A (call (.builtin "sorted") [.ref a]) Q E s := by
  obtain ⟨o, es, ep, t, ⟨ho, hx, hd⟩, ⟨good, nd, hM⟩, ⟨few, fit, sz⟩, ris, led⟩ := R.ex
  refine Calls.call_function_entry kind_sorted plain_sorted entry_sorted (args_sorted1 _) ?_
  unfold Builtin.«sorted»
  refine wpAny_bind (m := checkCount "sorted" 1 1 _) (wpAny_pure ?_)
  refine wpAny_bind (collect_set (A := A.in1) hh ⟨o, ho, hx.1, hd⟩ fit few ris led fun s1 vs keep big gens os perm => ?_)
  have len : vs.length = es.size := by rw [perm.length_eq, List.length_map, Array.length_toList]
  have few' : vs.length ≤ 4096 := by rw [len]; exact Nat.le_of_lt few
  have line : vs.length ≤ sizeLine := Nat.le_trans few' (by decide)
  obtain ⟨ss, hS, ess⟩ := strs_all vs fun v hv => by
    obtain ⟨e, he, q⟩ := List.mem_map.mp (perm.mem_iff.mp hv)
    obtain ⟨k, tk, h1, _⟩ := good e he
    exact ⟨k, tk, by rw [← q]; exact h1⟩
  have permK : ss.Perm (es.toList.map keyS) := by
    rw [ess]
    have q := perm.map fun v => keyS (0, v)
    rw [List.map_map] at q
    exact q
  refine wpAny_bind (wpAny_newList ?_ line)
  have new : (s1.heap.push (seqObj "list" vs.toArray 0)).get? s1.heap.objs.size = some (seqObj "list" vs.toArray 0) := Heap.get?_push_size _ rfl
  refine wpAny_bind (wpAny_holding (wpAny_call_entry slot_list_sort ⟨_, new, rfl⟩ entry_list_sort (list_sort_treeKAny strKind_oneLt new hS.keysOf (fun v₁ v₂ rest e => keyKind_strs (by rw [← e]; exact hS)) line fun st' hp hs => ⟨_, rfl, ?_⟩) (args_list_sort _)))
  obtain ⟨ys, y1, y2, y3⟩ := sorted_out_str hS hp hs
  obtain ⟨c, hc⟩ := sortedHeap_at (vs := vs) (out := (arrOf st').map (·.2)) new
  have permY : ys.Perm (es.toList.map keyS) := y2.trans permK
  refine wpAny_pure ⟨_, rfl, hQ _ s1.heap.objs.size _ c ys (fun b u e => ?_) gens os big hc y1 (permY.nodup_iff.mpr nd) y3 (fun k => by rw [permY.mem_iff, hM k]) ?_⟩
  · have q := keep b u e
    have below := Heap.lt_size q
    show (sortedHeap (s1.heap.push (seqObj "list" vs.toArray 0)) s1.heap.objs.size vs _).get? b = some u
    rw [sortedHeap_old (Nat.ne_of_lt below) (by rw [size_push']; exact Nat.lt_succ_of_lt below)]
    exact Heap.get?_push_of_some _ q
  · rw [permY.length_eq, List.length_map, Array.length_toList, ← len]; exact few'
end
theorem vals_of_strs : ∀ {vs : List Value} {ss : List Str}, StrsAre vs ss → Vals (ss.map V.str) vs
  | _, _, .nil => .nil
  | _, _, .cons k t h => .cons ⟨t, rfl⟩ (vals_of_strs h)
/-- a set of the texts ks, at a -/
def TxSet (w : PySem.World) (a : Addr) (ks : List Str) : HO := .ext fun h => ∃ c, SetS w h a (fun j => j ∈ ks) c
section
variable {X : Cx}
theorem cr_set (hc : X.calm = true) : CallR X (.type "set") (fun xs H Q => ∃ a ks, xs = [.ref a] ∧ SqL X.K H a (ks.map V.str) ∧ ks.length ≤ 1000 ∧ ∀ p, H p = none → Q (.ref p) (upd H p (TxSet X.w p ks))) := by
  intro pins s σ H xs us Q I r h
  obtain ⟨a, ks, rfl, hs, few, q⟩ := h
  obtain ⟨its, rv, hl, _⟩ := I.list hs
  rw [Vals.ref1 r]
  refine set_of_list (I.ok.hd hc) hl.isList rv.strs (Nat.lt_of_le_of_lt (Nat.succ_le_succ few) (by decide)) fun h' tk c hset hcn keep => ?_
  have fr : H s.heap.objs.size = none := I.hok.fresh (Nat.le_refl _)
  refine ⟨.ref s.heap.objs.size, upd H s.heap.objs.size (TxSet X.w s.heap.objs.size ks), I.laid (t' := tk) keep (Nat.le_refl _) ?_, rfl, q _ fr⟩
  obtain ⟨o, _, _, _, ⟨ho, _⟩, _⟩ := hset.ex
  exact ⟨⟨c, hset⟩, ⟨o, ho⟩, fun h1 h2 ⟨c, hs⟩ k => ⟨c, hs.at k⟩⟩
theorem cr_sortset (hc : X.calm = true) : CallR X (.builtin "sorted") (fun xs H Q => ∃ a ks, xs = [.ref a] ∧ H a = some (TxSet X.w a ks) ∧ ∀ (ys : List Str) (p : Addr), ys.Nodup → sortedS ys = true → (∀ k, k ∈ ys ↔ k ∈ ks) → H p = none → Q (.ref p) (upd H p (.lst (ys.map V.str)))) := by
  intro pins s σ H xs us Q I r h
  obtain ⟨a, ks, rfl, ha, q⟩ := h
  rw [Vals.ref1 r]
  obtain ⟨⟨c, hset⟩, _, _⟩ := I.hok a _ ha
  refine sorted_texts hset (I.ok.hd hc) fun s' p out c2 ys keep gens os big hp hS nd so mem len => ?_
  have fr : H p = none := I.hok.fresh big
  obtain ⟨h', g', d', tk', os'⟩ := s'
  obtain rfl : g' = s.gens := gens
  obtain rfl : os' = s.os := os
  have new : ObjOk X.prog X.w (upd H p (.lst (ys.map V.str))) h' p (.lst (ys.map V.str)) :=
    ⟨by rw [List.length_map]; exact Nat.le_trans len (by decide), out.toList, c2, vals_of_strs hS, by simpa [seqObj] using hp⟩
  have J := I.call (ch := []) (h' := h') (g' := s.gens) (d' := d') (t' := tk') (Un.laid keep big fr) (I.hok.laid keep big new) I.bare (fun _ z => by simp at z)
  exact ⟨.ref p, _, J, rfl, q ys p nd so mem fr⟩
end
end Sn
namespace Sn
open PySem PySem.Spec PyProof.Rows L2
/-! ### one order -/
theorem rising_of : ∀ (p : Str) (r : List Str), risingS p r = true → (p :: r).Nodup → ((p :: r).map fun k => k.cps.toList).Pairwise (· < ·)
  | p, [], _, _ => by simp
  | p, x :: r, h, nd => by
    unfold risingS at h
    rw [Bool.and_eq_true] at h
    have ih := rising_of x r h.2 (List.nodup_cons.mp nd).2
    have c : ¬ x.cps.toList < p.cps.toList := by
      have := h.1
      rw [Bool.not_eq_true'] at this
      intro z
      have z2 : ltCps x.cps.toList p.cps.toList = true := by rw [ltCps_eq]; exact decide_eq_true z
      rw [z2] at this; cases this
    have ne : x.cps.toList ≠ p.cps.toList := fun e => (List.nodup_cons.mp nd).1 (by rw [show p = x from (TL.ext_tl e).symm]; exact List.mem_cons_self)
    have lt := tri c ne
    rw [List.map_cons]
    refine List.pairwise_cons.mpr ⟨fun y hy => ?_, ih⟩
    rw [List.map_cons] at hy ih
    rcases List.mem_cons.mp hy with e | e
    · subst e; exact lt
    · exact List.lt_trans lt ((List.pairwise_cons.mp ih).1 y e)
theorem sorted_is {ys : List Str} {ss : List (List Nat)} (nd : ys.Nodup) (so : sortedS ys = true) (mem : ∀ k, k ∈ ys ↔ k ∈ ss.map mkS) : ys = (Mn.sortS (Mn.onceS ss)).map mkS := by
  have e1 : ys.map (fun k => k.cps.toList) = Mn.sortS (Mn.onceS ss) := by
    refine same_sorted ?_ (sortS_sorted (onceS_nodup ss)) fun x => ?_
    · cases ys with
      | nil => simp
      | cons p r => exact rising_of p r so nd
    · rw [mem_sortS, mem_onceS, List.mem_map]
      constructor
      · rintro ⟨k, hk, rfl⟩
        obtain ⟨s, hs, rfl⟩ := List.mem_map.mp ((mem k).mp hk)
        exact hs
      · intro hx
        exact ⟨mkS x, (mem _).mpr (List.mem_map.mpr ⟨x, hx, rfl⟩), rfl⟩
  rw [← e1, List.map_map]
  have : ∀ k ∈ ys, (mkS ∘ fun k : Str => k.cps.toList) k = k := fun k _ => by
    show mkS k.cps.toList = k
    exact TL.ext_tl rfl
  rw [List.map_congr_left this, List.map_id']
section
variable {T : Sta} {e0 : Snap} {E : XK} {X : Cx} {Φ : PHI} {a : Expr} {ma : Mn.E} {pos p p2 p3 : Pos}
theorem e_sortset (x : XOk T X) (hg : Gl X "sorted") (hm : X.mg "sorted" = none) (hg2 : Gl X "set") (hm2 : X.mg "set" = none) (ha : PE X a (VE T e0 E Φ ma)) (hs : starEach [a] X.env = (false, eval a X.env) :: starEach [] X.env := by rfl) :
    PE X (.Call (.Name "sorted" p) [.Call (.Name "set" p2) [a] [] p3] [] pos) (VE T e0 E Φ (.blt .sortset [ma])) := by
  have h1 : PE X (.Call (.Name "set" p2) [a] [] p3) _ := pe_callTy (p := p2) (pos := p3) (cr_set (X := X) x.calm) hg2 hm2 (by decide +kernel) (a_cons ha a_nil hs) (by decide) (by decide) hs rfl
  refine PE.imp (pe_callB (cr_sortset (X := X) x.calm) hg hm (by decide +kernel) (pa_cons h1 pa_nil)) fun σ H Q ⟨φ, G, ρ, w, st, p⟩ => ?_
  simp only [Mn.ev] at p
  refine ⟨φ, G, ρ, w, st, Post.bindE p fun ds w1 xs φ1 G1 H1 ev e1 W1 r1 p1 => ?_⟩
  obtain ⟨d, e, p2⟩ := p1.ok_of
  obtain ⟨dd, rfl⟩ := len_one (evs_len _ _ _ _ _ ev)
  obtain ⟨v, rfl, rv⟩ := r1.one
  replace e : Mn.bSortset [dd] = some d := e
  unfold Mn.bSortset at e
  obtain ⟨l, h2, h3⟩ := Option.bind_eq_some_iff.mp e
  split at h3
  · rename_i hl
    obtain ⟨ss, h4, rfl⟩ := Option.map_eq_some_iff.mp h3
    obtain ⟨ad, vs, rfl, hq, r⟩ := rv.lst W1 h2
    obtain ⟨rfl, ok⟩ := strs_of r h4
    have lens : ss.length ≤ 1000 := by
      have := r.length
      rw [List.length_map] at this
      omega
    have em : ss.map (fun s => V.str (mkS s)) = (ss.map mkS).map V.str := by rw [List.map_map]; rfl
    refine ⟨ad, ss.map mkS, rfl, SqL.of (by rw [← em]; exact hq), by rw [List.length_map]; exact lens, fun p hp => ?_⟩
    obtain ⟨W2, e2⟩ := W1.lay (TxSet X.w p (ss.map mkS)) hp
    refine ⟨p, ss.map mkS, rfl, upd_same, fun ys q nd so mem hq2 => ?_⟩
    have ey := sorted_is nd so mem
    obtain ⟨W3, e3⟩ := W2.fix (HO.lst (ys.map V.str)) hq2 nt_lst
    refine p2 _ φ1 _ _ (e2.trans e3) W3 (rv_lst.mpr ⟨q, _, rfl, upd_same, ?_⟩)
    rw [ey]
    have all : ∀ l : List (List Nat), (∀ s ∈ l, s ∈ ss) → Reps T φ1 (upd G1 q (.lst (((Mn.sortS (Mn.onceS ss)).map mkS).map V.str))) (l.map Mn.D.str) ((l.map mkS).map V.str) := by
      intro l
      induction l with
      | nil => intro _; exact Reps.nil
      | cons s l ih =>
        intro h
        refine Reps.cons ?_ (ih fun z hz => h z (List.mem_cons_of_mem _ hz))
        unfold Rep
        exact ⟨rfl, ok s (h s List.mem_cons_self)⟩
    exact all _ fun s hs => mem_onceS.mp (mem_sortS.mp hs)
  · cases h3
end
end Sn
end
section
set_option linter.all false
set_option maxRecDepth 100000
set_option maxHeartbeats 4000000
/-! The law's start and end. -/
namespace Sn
open PySem PySem.Spec PyProof.Rows L2
theorem start_world {T : Sta} {H : Hp} (tb : ∀ p ∈ T.tab, H p.1 = some (.tbl #[])) (sq : SqL T.K H T.sa (T.ns.map V.int)) : ∃ φ G, World T φ G H [.script T.ns] := by
  have tabs : LamX.Tabs T.tab H := fun p hp => LamX.TabS.nil (tb p hp)
  have build : ∀ G : Hp, SqL T.K G T.sa (T.ns.map V.int) → (∀ a o, G a = some o → H a = some o ∧ NT o) → World T [[]] G H [.script T.ns] := fun G h1 h2 =>
  { scr := h1
    sub := fun a o e => .inl (h2 a o e).1
    nd := by simp
    ng := fun a o e => (h2 a o e).2
    apart := fun a ha => by simp at ha
    len := rfl
    tabs := tabs
    objs := fun i o as e1 e2 => by
      cases i with
      | zero => simp at e1 e2; subst e1 e2; exact ⟨rfl, rfl⟩
      | succ i => simp at e1 }
  rcases sq with h | h
  · refine ⟨[[]], fun b => if b = T.sa then H T.sa else none, build _ (.inl ?_) fun a o e => ?_⟩
    · rcases h with h | ⟨ob, h⟩
      · exact .inl (by simp only [if_true]; exact h)
      · exact .inr ⟨ob, by simp only [if_true]; exact h⟩
    · by_cases z : a = T.sa
      · subst z
        simp only [if_true] at e
        refine ⟨e, ?_⟩
        rcases h with h | ⟨ob, h⟩
        · rw [h] at e; cases e; exact nt_lst
        · rw [h] at e; cases e; exact nt_frz
      · simp only [if_neg z] at e; cases e
  · exact ⟨[[]], fun _ => none, build _ (.inr h) fun a o e => by cases e⟩
/-- the law's promise at its start -/
theorem law_start {T : Sta} {H : Hp} {Φ : PHI} {n : Nat} {E : XK} (tb : ∀ p ∈ T.tab, H p.1 = some (.tbl #[])) (sq : SqL T.K H T.sa (T.ns.map V.int)) (pure : ∃ w, Φ n [.scr] [.script T.ns] = .ok (.bl true) w) :
    spD T Φ 1 n [.ref T.sa] H (fun v _ => v = .bl true) E := by
  obtain ⟨φ, G, W⟩ := start_world tb sq
  obtain ⟨w, hw⟩ := pure
  refine ⟨rfl, φ, G, _, [.scr], W, Reps.cons ?_ Reps.nil, rfl, ?_⟩
  · unfold Rep; rfl
  · rw [hw]
    exact fun v φ' G' H' _ _ r => rv_bl.mp r
theorem FnOk.any {P : Program} {w : PySem.World} {K : PySem.W.Frag} {mg : Str → Option Value} {base : Heap} {CX : CXT} {k : Nat} {f : Addr} {fd : FuncData} {ps : List Str} {ι : Type} {sp : ι → Sp} (h0 : ∀ vs H Q E i, sp i vs H Q E → vs.length = ps.length) (h : ∀ i, FnOk P w K mg base CX k f fd ps (sp i)) :
    FnOk P w K mg base CX k f fd ps (fun vs H Q E => ∃ i, sp i vs H Q E) :=
  ⟨fun vs H Q E ⟨i, q⟩ => h0 vs H Q E i q, fun A outer s H args us vs Q E hr he hb hv ⟨i, q⟩ => (h i).run A outer s H args us vs Q E hr he hb hv q⟩
theorem fun_of {K : PySem.W.Frag} {x : Str} {st : Stmt} {f : Addr} {fd : FuncData} (F : FunD K x x (defArgs st) (defBody st) (defScope st) [] [] f fd) : Fun K x x st f fd := by
  obtain ⟨oc, od, dV, kV, doc, pm, an, cdv, ct, osl, e, lk, hcd, hd, _⟩ := F.ex
  have : dV = .none := by
    rcases hd with ⟨_, z⟩ | ⟨z, _⟩
    · exact z
    · exact absurd rfl z
  subst this
  exact ⟨⟨oc, od, kV, doc, pm, an, cdv, ct, osl, e, lk, hcd⟩, F.kp⟩
/-- what the end wants of an error's class, by the kernel -/
def excB (K : PySem.W.Frag) (D : Addr) : Bool :=
  decide (PySem.W.findIn K (.ref D) "__getattribute__" = some (some (.builtin "BaseException.__getattribute__"))) && (decide (PySem.W.findIn K (.ref D) "__getattr__" = some none) && (decide (PySem.W.subIn K (.ref D) (.type "BaseException") = some true) &&
  (PySem.W.hasDictIn K D && (decide (PySem.W.findIn K (.ref D) "__class__" = some (some (.builtin "object.__class__"))) && (decide (PySem.W.specialIn K (.builtin "object.__class__") "__get__" = some (some (.builtin "getset_descriptor.__get__"))) &&
  (decide (PySem.W.takesIn K (.builtin "object.__class__") = some true) && (decide (PySem.W.mroIn K D (.type "object") = some true) && decide (PySem.W.kitOne K (.ref D) (.type "ValueError") = some true))))))))
theorem excB_ok {K : PySem.W.Frag} {D : Addr} (h : excB K D = true) : ExcC K D ∧ PySem.W.kitOne K (.ref D) (.type "ValueError") = some true := by
  unfold excB at h
  simp only [Bool.and_eq_true, decide_eq_true_eq] at h
  obtain ⟨h1, h2, h3, h4, h5, h6, h7, h8, h9⟩ := h
  exact ⟨⟨h1, h2, h3, h4, h5, h6, h7, h8⟩, h9⟩
def cName : Nat → Str
  | 0 => "InvalidWords"
  | 1 => "InvalidBoxes"
  | 2 => "InvalidStamps"
  | 3 => "InvalidRow"
  | 4 => "InvalidLength"
  | 5 => "InvalidText"
  | 6 => "TooMany"
  | _ => "NothingToUndo"
def caK (K : PySem.W.Frag) (c : Nat) : Addr := He.ga K (cName c)
def errsB (K : PySem.W.Frag) : Bool := (List.range 8).all fun c => excB K (caK K c) && (decide (PySem.W.exmOne K (.ref (caK K c)) (.ref (He.ga K "StampError")) = some true) && (List.range 8).all fun d => decide (PySem.W.kitOne K (.ref (caK K c)) (.ref (caK K d)) = some (decide (c = d))))
theorem errsB_ok {K : PySem.W.Frag} (h : errsB K = true) (c : Nat) (hc : c < 8) : excB K (caK K c) = true ∧ PySem.W.exmOne K (.ref (caK K c)) (.ref (He.ga K "StampError")) = some true ∧ ∀ d < 8, PySem.W.kitOne K (.ref (caK K c)) (.ref (caK K d)) = some (decide (c = d)) := by
  unfold errsB at h
  have h1 := List.all_eq_true.mp h c (List.mem_range.mpr hc)
  simp only [Bool.and_eq_true, decide_eq_true_eq] at h1
  exact ⟨h1.1, h1.2.1, fun d hd => by simpa using List.all_eq_true.mp h1.2.2 d (List.mem_range.mpr hd)⟩
end Sn
namespace Sn
theorem nodup_map_eq {α β : Type} {f : α → β} : ∀ {l : List α}, (l.map f).Nodup → ∀ {a b : α}, a ∈ l → b ∈ l → f a = f b → a = b
  | [], _, a, _, h, _, _ => by cases h
  | x :: l, nd, a, b, ha, hb, e => by
    rw [List.map_cons, List.nodup_cons] at nd
    rcases List.mem_cons.mp ha with z | z
    · subst z
      rcases List.mem_cons.mp hb with y | y
      · exact y.symm
      · exact absurd (List.mem_map.mpr ⟨b, y, e.symm⟩) nd.1
    · rcases List.mem_cons.mp hb with y | y
      · subst y; exact absurd (List.mem_map.mpr ⟨a, z, e⟩) nd.1
      · exact nodup_map_eq nd.2 z y e
end Sn
end
section
set_option linter.all false
set_option maxRecDepth 100000
set_option maxHeartbeats 4000000
namespace Sn
open PySem PySem.Spec PyProof.Rows L2
def top (i : Nat) : Stmt := PySem.Challenge.pw_stampedrows_k01_not_words.main.body.getD i (.Pass ⟨0, 0, 0, 0⟩)
def f_is_between : Mn.Fn := ⟨3, 3, [.ret [] (.and [(.blt (.isi .int) [(.var 0)]), (.not (.blt (.isi .bool) [(.var 0)])), (.chain .le .le (.var 1) (.var 0) (.var 2))])]⟩
def f_is_string_of : Mn.Fn := ⟨2, 3, [.ret [] (.and [(.blt (.isi .str) [(.var 0)]), (.chain .le .le (.cst (.int 1)) (.blt .len [(.var 0)]) (.var 1)), (.blt .all [(.comp (.cmp .isin (.var 2) (.cst (.str [97, 98, 99, 100]))) [2] true .seq [(.var 0)] [])])])]⟩
def f_are_words : Mn.Fn := ⟨1, 3, [.iff (.or [(.not (.blt (.isi .tuple) [(.var 0)])), (.not (.chain .le .le (.cst (.int 1)) (.blt .len [(.var 0)]) (.cst (.int 4)))), (.not (.blt .all [(.comp (.call 1 [(.var 1), (.cst (.int 4))]) [1] true .seq [(.var 0)] [])]))]) [.ret [] (.cst (.bl false))] [], .ret [] (.blt .all [(.comp (.cmp .lt (.var 1) (.var 2)) [1, 2] false .zip [(.var 0), (.sl (.var 0) [(.cst (.int 1))] [])] [])])]⟩
def f_is_row : Mn.Fn := ⟨1, 1, [.ret [] (.call 1 [(.var 0), (.cst (.int 8))])]⟩
def f_check_words : Mn.Fn := ⟨1, 1, [.iff (.not (.call 2 [(.var 0)])) [.raise 0] []]⟩
def f_check_boxes : Mn.Fn := ⟨1, 1, [.iff (.not (.call 0 [(.var 0), (.cst (.int 1)), (.cst (.int 8))])) [.raise 1] []]⟩
def f_check_both : Mn.Fn := ⟨2, 2, [.expr (.call 4 [(.var 0)]), .expr (.call 5 [(.var 1)])]⟩
def f_is_stamp : Mn.Fn := ⟨3, 3, [.iff (.or [(.not (.blt (.isi .tuple) [(.var 2)])), (.cmp .ne (.blt .len [(.var 2)]) (.cst (.int 2))), (.not (.call 0 [(.ix (.var 2) (.cst (.int 0))), (.cst (.int 0)), (.bin .sub (.blt .len [(.var 0)]) (.cst (.int 1)))]))]) [.ret [] (.cst (.bl false))] [], .ret [] (.call 0 [(.ix (.var 2) (.cst (.int 1))), (.cst (.int 0)), (.bin .sub (.var 1) (.blt .len [(.ix (.var 0) (.ix (.var 2) (.cst (.int 0))))]))])]⟩
def f_are_stamps_on : Mn.Fn := ⟨3, 4, [.iff (.or [(.not (.blt (.isi .tuple) [(.var 2)])), (.cmp .gt (.blt .len [(.var 2)]) (.cst (.int 12)))]) [.ret [] (.cst (.bl false))] [], .ret [] (.blt .all [(.comp (.call 7 [(.var 0), (.var 1), (.var 3)]) [3] true .seq [(.var 2)] [])])]⟩
def f_are_stamps : Mn.Fn := ⟨3, 3, [.expr (.call 6 [(.var 0), (.var 1)]), .ret [] (.call 8 [(.var 0), (.var 1), (.var 2)])]⟩
def f_check_stamps : Mn.Fn := ⟨3, 3, [.expr (.call 6 [(.var 0), (.var 1)]), .iff (.not (.call 8 [(.var 0), (.var 1), (.var 2)])) [.raise 2] []]⟩
def f_seen : Mn.Fn := ⟨3, 3, [.expr (.call 10 [(.var 0), (.var 1), (.var 2)]), .stuck]⟩
def f_last_stamps : Mn.Fn := ⟨3, 8, [.expr (.call 10 [(.var 0), (.var 1), (.var 2)]), .stuck]⟩
def f__law_is : Mn.Fn := ⟨2, 2, [.ret [] (.and [(.blt (.isi .bool) [(.var 0)]), (.cmp .eq (.var 0) (.var 1))])]⟩
def f__law_word : Mn.Fn := ⟨4, 5, [.ret [] (.mt .join (.cst (.str [])) [(.comp (.ix (.var 3) (.call 16 [(.var 0), (.var 1), (.blt .len [(.var 3)])])) [4] true .range [(.bin .add (.cst (.int 1)) (.call 16 [(.var 0), (.var 1), (.var 2)]))] [])])]⟩
def f__law_words : Mn.Fn := ⟨4, 6, [.asgN 4 (.comp (.call 18 [(.var 0), (.var 1), (.cst (.int 3)), (.var 3)]) [5] true .range [(.bin .add (.cst (.int 1)) (.call 16 [(.var 0), (.var 1), (.var 2)]))] []), .iff (.cmp .eq (.call 16 [(.var 0), (.var 1), (.cst (.int 5))]) (.cst (.int 0))) [.app 4 (.call 18 [(.var 0), (.var 1), (.cst (.int 4)), (.var 3)])] [], .ret [4] (.blt .tuple [(.sl (.blt .sortset [(.var 4)]) [] [(.cst (.int 4))])])]⟩
def f__law_stamps : Mn.Fn := ⟨5, 9, [.asg 5 (.tup []), .for_ [6] true .range [(.call 16 [(.var 0), (.var 1), (.bin .add (.var 4) (.cst (.int 1)))])] [.asg 7 (.call 16 [(.var 0), (.var 1), (.blt .len [(.var 2)])]), .asg 8 (.bin .sub (.var 3) (.blt .len [(.ix (.var 2) (.var 7))])), .iff (.cmp .ge (.var 8) (.cst (.int 0))) [.asg 5 (.bin .add (.var 5) (.tup [(.tup [(.var 7), (.call 16 [(.var 0), (.var 1), (.bin .add (.var 8) (.cst (.int 1)))])])]))] []], .ret [] (.var 5)]⟩
def f__law_odd : Mn.Fn := ⟨0, 3, [.asg 0 (.lst [(.tup []), (.tup [(.cst (.str [98])), (.cst (.str [97]))]), (.tup [(.cst (.str [97])), (.cst (.str [97]))]), (.tup [(.cst (.str [97])), (.cst (.str [98])), (.cst (.str [99])), (.cst (.str [100])), (.cst (.str [100, 97]))]), (.tup [(.cst (.str []))]), (.tup [(.cst (.str [97, 98, 99, 100, 97]))]), (.tup [(.cst (.str [101]))])]), .asg 0 (.bin .add (.var 0) (.lst [(.tup [(.cst (.str [65]))]), (.tup [(.cst (.str [97, 32]))]), (.tup [(.cst (.str [97])), (.cst (.int 1))]), (.lst [(.cst (.str [97]))])])), .for_ [1] true .seq [(.bin .add (.var 0) (.lst [(.tup [(.cst (.str [97])), (.cst .non)]), (.tup [(.tup [(.cst (.str [97]))])]), (.cst .non), (.cst (.str [97])), (.cst (.int 0)), (.tup [(.cst (.bl true))])]))] [.iff (.not (.call 15 [(.call 2 [(.var 1)]), (.cst (.bl false))])) [.ret [2] (.cst (.bl false))] [], .asgN 2 (.lst [(.res (.call 13 [(.var 1), (.cst .non), (.cst .non)]))]), .app 2 (.res (.call 14 [(.var 1), (.cst (.int 0)), (.tup [])])), .iff (.cmp .ne (.bin .add (.var 2) (.lst [(.res (.call 9 [(.var 1), (.cst (.int 9)), (.tup [])]))])) (.bin .mul (.lst [(.tup [(.cst (.str [115, 101, 116]))])]) (.cst (.int 3)))) [.ret [2] (.cst (.bl false))] []], .for_ [1] true .seq [(.tup [(.cst (.str [])), (.cst (.str [97, 98, 99, 100, 97, 98, 99, 100, 97])), (.cst (.str [97, 98, 101])), (.cst (.str [97, 46, 98])), (.cst (.str [97, 32, 98])), (.cst .non), (.tup [(.cst (.str [97]))]), (.cst (.int 1)), (.lst [(.cst (.str [97])), (.cst (.str [98]))])])] [.iff (.not (.call 15 [(.call 3 [(.var 1)]), (.cst (.bl false))])) [.ret [2] (.cst (.bl false))] []], .for_ [1] true .seq [(.tup [(.cst .non), (.cst (.int 0)), (.cst (.int 9)), (.cst (.bl true)), (.cst (.str [51])), (.neg (.cst (.int 1)))])] [.asgN 2 (.lst [(.res (.call 13 [(.tup [(.cst (.str [97]))]), (.var 1), (.cst .non)]))]), .app 2 (.res (.call 9 [(.tup [(.cst (.str [97]))]), (.var 1), (.tup [])])), .iff (.cmp .ne (.var 2) (.bin .mul (.lst [(.tup [(.cst (.str [98, 111, 120, 101, 115]))])]) (.cst (.int 2)))) [.ret [2] (.cst (.bl false))] []], .ret [2] (.and [(.call 15 [(.call 2 [(.tup [(.cst (.str [97])), (.cst (.str [97, 98, 99, 100])), (.cst (.str [98])), (.cst (.str [100, 100]))])]), (.cst (.bl true))]), (.call 15 [(.call 3 [(.cst (.str [100, 99, 98, 97, 97, 98, 99, 100]))]), (.cst (.bl true))])])]⟩
def f_law : Mn.Fn := ⟨1, 11, [.asg 1 (.call 17 []), .for_ [2] true .range [(.cst (.int 6))] [.par [(3, false), (4, false)] [(.call 19 [(.var 0), (.var 1), (.cst (.int 4)), (.cst (.str [97, 98, 99, 100]))]), (.bin .add (.cst (.int 1)) (.call 16 [(.var 0), (.var 1), (.cst (.int 8))]))], .iff (.or [(.not (.call 15 [(.call 2 [(.var 3)]), (.cst (.bl true))])), (.not (.call 15 [(.call 2 [(.blt .list [(.var 3)])]), (.cst (.bl false))]))]) [.ret [] (.cst (.bl false))] [], .asg 5 (.call 18 [(.var 0), (.var 1), (.cst (.int 8)), (.cst (.str [97, 98, 99, 100]))]), .iff (.or [(.not (.call 15 [(.call 3 [(.var 5)]), (.cst (.bl true))])), (.not (.call 15 [(.call 3 [(.bin .add (.var 5) (.cst (.str [101])))]), (.cst (.bl false))]))]) [.ret [] (.cst (.bl false))] [], .asg 6 (.call 20 [(.var 0), (.var 1), (.var 3), (.var 4), (.cst (.int 12))]), .iff (.not (.call 15 [(.call 9 [(.var 3), (.var 4), (.var 6)]), (.cst (.bl true))])) [.ret [] (.cst (.bl false))] [], .asg 7 (.call 16 [(.var 0), (.var 1), (.blt .len [(.var 3)])]), .asg 8 (.bin .sub (.var 4) (.blt .len [(.ix (.var 3) (.var 7))])), .iff (.not (.call 15 [(.call 9 [(.var 3), (.var 4), (.tup [(.tup [(.var 7), (.var 8)])])]), (.cmp .ge (.var 8) (.cst (.int 0)))])) [.ret [] (.cst (.bl false))] [], .asg 9 (.lst [(.tup [(.var 7), (.bin .add (.var 8) (.cst (.int 1)))]), (.tup [(.var 7), (.neg (.cst (.int 1)))]), (.tup [(.blt .len [(.var 3)]), (.cst (.int 0))]), (.tup [(.neg (.cst (.int 1))), (.cst (.int 0))]), (.tup [(.var 7)])]), .for_ [10] true .seq [(.bin .add (.var 9) (.lst [(.lst [(.cst (.int 0)), (.cst (.int 0))]), (.tup [(.cst (.bl true)), (.cst (.int 0))]), (.cst .non)]))] [.iff (.not (.call 15 [(.call 9 [(.var 3), (.var 4), (.tup [(.var 10)])]), (.cst (.bl false))])) [.ret [] (.cst (.bl false))] []], .for_ [10] true .seq [(.tup [(.cst .non), (.blt .list [(.var 6)]), (.cst (.str [48])), (.cst (.int 0)), (.ite (.cmp .ge (.var 8) (.cst (.int 0))) (.bin .mul (.tup [(.tup [(.cst (.int 0)), (.var 8)])]) (.cst (.int 13))) (.cst (.int 1)))])] [.iff (.not (.call 15 [(.call 9 [(.var 3), (.var 4), (.var 10)]), (.cst (.bl false))])) [.ret [] (.cst (.bl false))] []]], .ret [] (.call 21 [])]⟩
def PR : Nat → Option Mn.Df
  | 0 => some (.code f_is_between)
  | 1 => some (.code f_is_string_of)
  | 2 => some (.code f_are_words)
  | 3 => some (.code f_is_row)
  | 4 => some (.code f_check_words)
  | 5 => some (.code f_check_boxes)
  | 6 => some (.code f_check_both)
  | 7 => some (.code f_is_stamp)
  | 8 => some (.code f_are_stamps_on)
  | 9 => some (.code f_are_stamps)
  | 10 => some (.code f_check_stamps)
  | 13 => some (.code f_seen)
  | 14 => some (.code f_last_stamps)
  | 15 => some (.code f__law_is)
  | 16 => some .draw
  | 17 => some .begun
  | 18 => some (.code f__law_word)
  | 19 => some (.code f__law_words)
  | 20 => some (.code f__law_stamps)
  | 21 => some (.code f__law_odd)
  | 22 => some (.code f_law)
  | _ => none
structure BN (mg : Str → Option Value) : Prop where
  all : mg "all" = none
  bool : mg "bool" = none
  int : mg "int" = none
  isinstance : mg "isinstance" = none
  len : mg "len" = none
  list : mg "list" = none
  range : mg "range" = none
  set : mg "set" = none
  sorted : mg "sorted" = none
  str : mg "str" = none
  tuple : mg "tuple" = none
  zip : mg "zip" = none
def DEFS : List (Nat × Str × List Str × Stmt) := [
  (0, "is_between", ["value", "low", "high"], top 12),
  (1, "is_string_of", ["value", "most"], top 13),
  (2, "are_words", ["value"], top 14),
  (3, "is_row", ["value"], top 15),
  (4, "check_words", ["words"], top 16),
  (5, "check_boxes", ["boxes"], top 17),
  (6, "check_both", ["words", "boxes"], top 18),
  (7, "is_stamp", ["words", "boxes", "value"], top 19),
  (8, "are_stamps_on", ["words", "boxes", "value"], top 20),
  (9, "are_stamps", ["words", "boxes", "value"], top 21),
  (10, "check_stamps", ["words", "boxes", "stamps"], top 22),
  (11, "boxes_of", ["words", "stamp"], top 23),
  (12, "seen_after", ["words", "boxes", "stamps"], top 24),
  (13, "seen", ["words", "boxes", "stamps"], top 25),
  (14, "last_stamps", ["words", "boxes", "stamps"], top 26),
  (15, "_law_is", ["_law_found", "_law_expected"], top 29),
  (16, "_law_draw", ["_law_script", "_law_town", "_law_many"], top 30),
  (17, "_law_begun", [], top 31),
  (18, "_law_word", ["_law_script", "_law_town", "_law_most", "_law_letters"], top 32),
  (19, "_law_words", ["_law_script", "_law_town", "_law_most", "_law_letters"], top 33),
  (20, "_law_stamps", ["_law_script", "_law_town", "_law_words_of", "_law_many", "_law_most"], top 34),
  (21, "_law_odd", [], top 35),
  (22, "law", ["_law_script"], top 36)]
def ERRS : List (Nat × Str) := [(0, "InvalidWords"), (1, "InvalidBoxes"), (2, "InvalidStamps"), (3, "InvalidRow"), (4, "InvalidLength"), (5, "InvalidText"), (6, "TooMany"), (7, "NothingToUndo")]
abbrev ST (K : PySem.W.Frag) (fa ca : Nat → Addr) (sa : Addr) (ns : List Int) (tab : List (Addr × Str)) : Sta := ⟨K, fun _ => true, fa, ca, sa, ns, tab⟩
def AllOk (P : Program) (w : PySem.World) (K : PySem.W.Frag) (mg : Str → Option Value) (base : Heap) (T : Sta) (k : Nat) (Φ : PHI) : Prop := ∀ (i : Nat) (d : Nat × Str × List Str × Stmt), DEFS[i]? = some d → Cal P w K mg base T k Φ d.1 d.2.1 d.2.2.1 d.2.2.2
def ErrOk (K : PySem.W.Frag) (mg : Str → Option Value) (ca : Nat → Addr) : Prop := ∀ (i : Nat) (d : Nat × Str), ERRS[i]? = some d → Err K mg (ca d.1) d.2
theorem kb_are_stamps_2 : KB (top 21) "are_stamps" ["words", "boxes", "value"] ["value"] 2 := fun _ _ _ _ _ _ us ws h1 h2 => match us, ws, h1, h2 with | [_, _], [_], _, _ => rfl
theorem kb_are_words_0 : KB (top 14) "are_words" ["value"] ["value"] 0 := fun _ _ _ _ _ _ us ws h1 h2 => match us, ws, h1, h2 with | [], [_], _, _ => rfl
theorem kb_is_row_0 : KB (top 15) "is_row" ["value"] ["value"] 0 := fun _ _ _ _ _ _ us ws h1 h2 => match us, ws, h1, h2 with | [], [_], _, _ => rfl
section
variable {X : Cx} {ca : Nat → Addr} {cs : Addr}
theorem sc__law_result : FnScope NgR ["_law_call"] (defScope (top 28)) := ⟨rfl, rfl, rfl, by decide +kernel, rfl, by decide +kernel, by decide +kernel⟩
theorem ret_eq : (("returns" : Str)) = mkS [114, 101, 116, 117, 114, 110, 115] := by decide +kernel
abbrev ZR (X : Cx) (g : Addr) (cdg : Value) (s : Shared) (H : Hp) : Cx := (cxOf C8.CX0 X.prog X.w X.K X.mg X.base NgR "_law_result" (defScope (top 28)) g cdg X.A X.stack s H C8.E0).nox
theorem gives (R : ResE X.K X.mg ca cs) {g : Addr} {cdg : Value} {q : Str} (hu : ∀ s : Shared, (X.A.deeper (envOfC "_law_result" (defScope (top 28)) s.heap.objs.size g cdg)).units + 64 < cLine) :
    LamX.GivesTo X NgR "_law_result" (defScope (top 28)) g cdg (defBody (top 28)) "_law_call" q (TTr ca) := by
  intro f c' s H Q tl act hcc h
  have hu1 := hu s
  have nd : (ZR X g cdg s H).N.Nodup := sc__law_result.nd
  replace R : ResE (ZR X g cdg s H).K (ZR X g cdg s H).mg ca cs := R
  show ∃ t, PSs (ZR X g cdg s H) _ t ∧ _
  refine ⟨_, pss_cons (ps_pair rfl (pa_cons pe_non (pa_cons pe_non pa_nil)) (pgs_cons (pg_name (i := 1) nd rfl (.inl rfl)) (pgs_cons (pg_name (i := 2) nd rfl (.inl rfl)) pgs_nil)))
    (pss_cons (ps_try_keep (c := .ref cs) (i := 3) (j := 1) (tb := fun W D σ H => ∃ Ech : XK, (∀ cls d σ' H', Ech cls d H' → W cls d σ' H') ∧ σ[0]? = some (some (.ref f)) ∧ H c' = some (LamX.CodeO c' q) ∧ tl Ech H fun v H' => D.nx (σ.set 2 (some v)) H')
        rfl rfl rfl nd rfl rfl (by decide) rfl rfl ⟨rfl, by decide, .inl R.gS⟩ (by decide) (by decide) (fun _ _ => rfl) (fun W pn xe tk => ?_))
    (pss_cons (ps_if (pt_cmpR op_isN (pv 1) pe_non (nomark _)) (pss_one (ps_ret (pe_tup (pa_cons pe_str (pa_cons (pv 2) pa_nil))))) pss_nil)
    (pss_cons (ps_set (i := 4) nd rfl (by first | exact Or.inl rfl | exact Or.inr rfl) (pe_disp (pps_cons pe_str (pe_callB call_isT (by rfl) R.isi (by decide +kernel) (pa_cons (pv 1) (pa_cons (pe_glob (v := .ref (ca 1)) (by rfl) R.g1 rfl) pa_nil)))
      (pps_cons pe_str (pe_callB call_isT (by rfl) R.isi (by decide +kernel) (pa_cons (pv 1) (pa_cons (pe_glob (v := .ref (ca 4)) (by rfl) R.g4 rfl) pa_nil))) pps_nil)) (by rfl) (by rfl) (fun z => by cases z) (by decide)))
    (pss_cons (ps_expr (pe_bm PySem.F.plainAttrs_dict PySem.F.slot_dict_update PySem.F.type_dict_update mt_dupd (pv 4) (pa_cons (pe_disp (pps_cons pe_str (pe_callB call_isT (by rfl) R.isi (by decide +kernel) (pa_cons (pv 1) (pa_cons (pe_glob (v := .ref (ca 3)) (by rfl) R.g3 rfl) pa_nil)))
      (pps_cons pe_str (pe_callB call_isT (by rfl) R.isi (by decide +kernel) (pa_cons (pv 1) (pa_cons (pe_glob (v := .ref (ca 2)) (by rfl) R.g2 rfl) pa_nil))) pps_nil)) (by rfl) (by rfl) (fun z => by cases z) (by decide)) pa_nil)))
    (pss_cons (ps_expr (pe_bm PySem.F.plainAttrs_dict PySem.F.slot_dict_update PySem.F.type_dict_update mt_dupd (pv 4) (pa_cons (pe_disp (pps_cons pe_str (pe_callB call_isT (by rfl) R.isi (by decide +kernel) (pa_cons (pv 1) (pa_cons (pe_glob (v := .ref (ca 5)) (by rfl) R.g5 rfl) pa_nil)))
      (pps_cons pe_str (pe_callB call_isT (by rfl) R.isi (by decide +kernel) (pa_cons (pv 1) (pa_cons (pe_glob (v := .ref (ca 0)) (by rfl) R.g0 rfl) pa_nil))) pps_nil)) (by rfl) (by rfl) (fun z => by cases z) (by decide)) pa_nil)))
    (pss_cons (ps_expr (pe_bm PySem.F.plainAttrs_dict PySem.F.slot_dict_update PySem.F.type_dict_update mt_dupd (pv 4) (pa_cons (pe_disp (pps_cons pe_str (pe_callB call_isT (by rfl) R.isi (by decide +kernel) (pa_cons (pv 1) (pa_cons (pe_glob (v := .ref (ca 7)) (by rfl) R.g7 rfl) pa_nil)))
      (pps_cons pe_str (pe_callB call_isT (by rfl) R.isi (by decide +kernel) (pa_cons (pv 1) (pa_cons (pe_glob (v := .ref (ca 6)) (by rfl) R.g6 rfl) pa_nil))) pps_nil)) (by rfl) (by rfl) (fun z => by cases z) (by decide)) pa_nil)))
    (pss_cons (ps_lock (ps_setLc (i := 5) (own := [("_law_name", 6)]) (g := gName 6) (tt := tB (tDGet (tVar 4) (tVar 6))) rfl nd rfl rfl (sw_true rfl rfl rfl (by decide +kernel)) (pi_keys (pv 4)) (blkOk_by (N := NgR) (sc := defScope (top 28)) (own := [("_law_name", 6)]) (by decide +kernel))
      (fun _ _ _ _ _ => pg_name (i := 6) nd rfl (by first | exact Or.inl rfl | exact Or.inr rfl)) (fun _ _ _ _ _ => pts_one (pt_val (pe_dget ((Nat.lt_of_le_of_lt (Nat.add_le_add_left (by decide : 1 ≤ 64) _) hu1)) (pv 4) (pv 6) (fun _ _ => rfl)))) (fun _ _ _ _ _ => pv 6)))
    (pss_one (ps_ret (pe_ifExp (PW.pt (pw_and (pt_cmpR op_eq (pe_callB call_len_seq (by rfl) R.len PySem.boot_len (pa_cons (pv 5) pa_nil)) pe_int (nomark _)) (pw_and1 (pt_val (pe_callB call_isT (by rfl) R.isi (by decide +kernel) (pa_cons (pv 1) (pa_cons (pe_bltn (v := .ty "ValueError") (by rfl) R.ve (by decide +kernel) rfl) pa_nil)))))))
      (pe_tup (pa_cons (pe_ix ix_list (pv 5) pe_int (fun _ _ => rfl)) pa_nil)) (pe_tup (pa_cons pe_str pa_nil)))))))))))), ?_⟩
  · refine ⟨fun pins s' σ H' D I h' => ?_⟩
    obtain ⟨Ech, hW, h1, h2, h3⟩ := h'
    exact (pss_one (ps_set (X := (ZR X g cdg s H).tr pn xe) (i := 2) nd rfl (.inl rfl) (act W pn xe Ech _ _ tk hW))).run pins s' σ H' D I ⟨h1, h2, h3⟩
  · refine ⟨(by show 2 ≤ sizeLine; decide), rfl, _, _, rfl, _, _, rfl, rfl, ?_⟩
    refine ⟨fun cls d H' => ∀ σ' : L2.St, wKeep (ZR X g cdg s H).K (.ref cs) 3 1 7 _ cls d σ' H', fun cls d σ' H' h => h σ', rfl, hcc, h _ _ ?_ ?_⟩
    · rintro cls d H' ⟨c, hc8, rfl, rfl, fin⟩ σ'
      refine ⟨rfl, R.m c hc8, fun a ha hl => ?_⟩
      obtain ⟨x0, x1, x2, x3, x4, x5, x6, rfl⟩ : ∃ x0 x1 x2 x3 x4 x5 x6, σ' = [x0, x1, x2, x3, x4, x5, x6] := by
        match σ', hl with
        | [x0, x1, x2, x3, x4, x5, x6], _ => exact ⟨_, _, _, _, _, _, _, rfl⟩
      have hne : ∀ {G : Hp} {p q : Addr} {o : HO}, G p = some o → G q = none → p ≠ q := fun h1 h2 z => by subst z; rw [h1] at h2; cases h2
      generalize hH1 : upd H' a (ExT (.ref (ca c)) a) = H1
      have xa1 : H1 a = some (ExT (.ref (ca c)) a) := by rw [← hH1, upd_same]
      have o1 : ∀ b o, H' b = some o → H1 b = some o := fun b o e => by rw [← hH1, upd_ne (hne e ha)]; exact e
      refine ⟨_, rfl, rfl, _, rfl, ite2 (fun z => by simp at z) fun _ => ?_⟩
      -- the first dict
      refine fun p1 hp1 => ?_
      have xa2 : (upd H1 p1 (.dK [])) a = some (ExT (.ref (ca c)) a) := by rw [upd_ne (hne xa1 hp1)]; exact xa1
      refine ⟨_, rfl, a, ca c, _, _, _, rfl, xa2, R.c c hc8, fun _ r => r, R.k c hc8 1 (by decide), _, rfl, a, ca c, _, _, _, rfl, xa2, R.c c hc8, fun _ r => r, R.k c hc8 4 (by decide), upd_same,
        [(Sum.inr "boxes", .bl (decide (c = 1))), (Sum.inr "length", .bl (decide (c = 4)))], rfl, (by show 2 ≤ 15; decide), ?_⟩
      have m1 : mergeK [] [((Sum.inr "boxes" : Key), V.bl (decide (c = 1))), (Sum.inr "length", .bl (decide (c = 4)))] = [((Sum.inr "boxes" : Key), V.bl (decide (c = 1))), (Sum.inr "length", .bl (decide (c = 4)))] := rfl
      rw [m1]
      generalize hH2 : upd (upd H1 p1 (.dK [])) p1 (.dK [((Sum.inr "boxes" : Key), V.bl (decide (c = 1))), (Sum.inr "length", .bl (decide (c = 4)))]) = H2
      have d2 : H2 p1 = some (.dK [((Sum.inr "boxes" : Key), V.bl (decide (c = 1))), (Sum.inr "length", .bl (decide (c = 4)))]) := by rw [← hH2, upd_same]
      have x2 : H2 a = some (ExT (.ref (ca c)) a) := by rw [← hH2, upd_ne (hne xa1 hp1)]; exact xa2
      have o2 : ∀ b o, H' b = some o → H2 b = some o := fun b o e => by rw [← hH2, upd_ne (hne (o1 b o e) hp1), upd_ne (hne (o1 b o e) hp1)]; exact o1 b o e
      have n1 : ∀ b o, H' b = some o → b ≠ p1 := fun b o e => hne (o1 b o e) hp1
      -- the three updates
      refine ⟨_, rfl, .inr (.inr (.inl ⟨rfl, .inl ⟨_, d2⟩⟩)), fun p2 hp2 => ?_⟩
      have xa3 : (upd H2 p2 (.dK [])) a = some (ExT (.ref (ca c)) a) := by rw [upd_ne (hne x2 hp2)]; exact x2
      refine ⟨_, rfl, a, ca c, _, _, _, rfl, xa3, R.c c hc8, fun _ r => r, R.k c hc8 3 (by decide), _, rfl, a, ca c, _, _, _, rfl, xa3, R.c c hc8, fun _ r => r, R.k c hc8 2 (by decide), upd_same,
        [(Sum.inr "line", .bl (decide (c = 3))), (Sum.inr "marks", .bl (decide (c = 2)))], rfl, (by show 2 ≤ 15; decide), ?_⟩
      refine ⟨p1, p2, _, _, rfl, rfl, (by rw [upd_ne (hne d2 hp2), upd_ne (hne d2 hp2)]; exact d2), upd_same, hne d2 hp2, (by show 4 ≤ sizeLine; decide), (by show 4 ≤ sizeLine; decide), ?_⟩
      have e3 : mergeK [((Sum.inr "boxes" : Key), V.bl (decide (c = 1))), ((Sum.inr "length" : Key), V.bl (decide (c = 4)))] (mergeK [] [((Sum.inr "line" : Key), V.bl (decide (c = 3))), (Sum.inr "marks", .bl (decide (c = 2)))]) = [((Sum.inr "boxes" : Key), V.bl (decide (c = 1))), ((Sum.inr "length" : Key), V.bl (decide (c = 4))), ((Sum.inr "line" : Key), V.bl (decide (c = 3))), ((Sum.inr "marks" : Key), V.bl (decide (c = 2)))] := rfl
      rw [e3]
      generalize hH3 : upd (upd (upd H2 p2 (.dK [])) p2 (.dK (mergeK [] [((Sum.inr "line" : Key), V.bl (decide (c = 3))), (Sum.inr "marks", .bl (decide (c = 2)))]))) p1 (.dK [((Sum.inr "boxes" : Key), V.bl (decide (c = 1))), ((Sum.inr "length" : Key), V.bl (decide (c = 4))), ((Sum.inr "line" : Key), V.bl (decide (c = 3))), ((Sum.inr "marks" : Key), V.bl (decide (c = 2)))]) = H3
      have d3 : H3 p1 = some (.dK [((Sum.inr "boxes" : Key), V.bl (decide (c = 1))), ((Sum.inr "length" : Key), V.bl (decide (c = 4))), ((Sum.inr "line" : Key), V.bl (decide (c = 3))), ((Sum.inr "marks" : Key), V.bl (decide (c = 2)))]) := by rw [← hH3, upd_same]
      have x3 : H3 a = some (ExT (.ref (ca c)) a) := by rw [← hH3, upd_ne (hne xa1 hp1), upd_ne (hne x2 hp2), upd_ne (hne x2 hp2)]; exact x2
      have o3 : ∀ b o, H' b = some o → H3 b = some o := fun b o e => by rw [← hH3, upd_ne (n1 b o e), upd_ne (hne (o2 b o e) hp2), upd_ne (hne (o2 b o e) hp2)]; exact o2 b o e
      refine ⟨_, rfl, .inr (.inr (.inl ⟨rfl, .inl ⟨_, d3⟩⟩)), fun p3 hp3 => ?_⟩
      have xb3 : (upd H3 p3 (.dK [])) a = some (ExT (.ref (ca c)) a) := by rw [upd_ne (hne x3 hp3)]; exact x3
      refine ⟨_, rfl, a, ca c, _, _, _, rfl, xb3, R.c c hc8, fun _ r => r, R.k c hc8 5 (by decide), _, rfl, a, ca c, _, _, _, rfl, xb3, R.c c hc8, fun _ r => r, R.k c hc8 0 (by decide), upd_same,
        [(Sum.inr "text", .bl (decide (c = 5))), (Sum.inr "set", .bl (decide (c = 0)))], rfl, (by show 2 ≤ 15; decide), ?_⟩
      refine ⟨p1, p3, _, _, rfl, rfl, (by rw [upd_ne (hne d3 hp3), upd_ne (hne d3 hp3)]; exact d3), upd_same, hne d3 hp3, (by show 6 ≤ sizeLine; decide), (by show 6 ≤ sizeLine; decide), ?_⟩
      have e4 : mergeK [((Sum.inr "boxes" : Key), V.bl (decide (c = 1))), ((Sum.inr "length" : Key), V.bl (decide (c = 4))), ((Sum.inr "line" : Key), V.bl (decide (c = 3))), ((Sum.inr "marks" : Key), V.bl (decide (c = 2)))] (mergeK [] [((Sum.inr "text" : Key), V.bl (decide (c = 5))), (Sum.inr "set", .bl (decide (c = 0)))]) = [((Sum.inr "boxes" : Key), V.bl (decide (c = 1))), ((Sum.inr "length" : Key), V.bl (decide (c = 4))), ((Sum.inr "line" : Key), V.bl (decide (c = 3))), ((Sum.inr "marks" : Key), V.bl (decide (c = 2))), ((Sum.inr "text" : Key), V.bl (decide (c = 5))), ((Sum.inr "set" : Key), V.bl (decide (c = 0)))] := rfl
      rw [e4]
      generalize hH4 : upd (upd (upd H3 p3 (.dK [])) p3 (.dK (mergeK [] [((Sum.inr "text" : Key), V.bl (decide (c = 5))), (Sum.inr "set", .bl (decide (c = 0)))]))) p1 (.dK [((Sum.inr "boxes" : Key), V.bl (decide (c = 1))), ((Sum.inr "length" : Key), V.bl (decide (c = 4))), ((Sum.inr "line" : Key), V.bl (decide (c = 3))), ((Sum.inr "marks" : Key), V.bl (decide (c = 2))), ((Sum.inr "text" : Key), V.bl (decide (c = 5))), ((Sum.inr "set" : Key), V.bl (decide (c = 0)))]) = H4
      have d4 : H4 p1 = some (.dK [((Sum.inr "boxes" : Key), V.bl (decide (c = 1))), ((Sum.inr "length" : Key), V.bl (decide (c = 4))), ((Sum.inr "line" : Key), V.bl (decide (c = 3))), ((Sum.inr "marks" : Key), V.bl (decide (c = 2))), ((Sum.inr "text" : Key), V.bl (decide (c = 5))), ((Sum.inr "set" : Key), V.bl (decide (c = 0)))]) := by rw [← hH4, upd_same]
      have x4 : H4 a = some (ExT (.ref (ca c)) a) := by rw [← hH4, upd_ne (hne xa1 hp1), upd_ne (hne x3 hp3), upd_ne (hne x3 hp3)]; exact x3
      have o4 : ∀ b o, H' b = some o → H4 b = some o := fun b o e => by rw [← hH4, upd_ne (n1 b o e), upd_ne (hne (o3 b o e) hp3), upd_ne (hne (o3 b o e) hp3)]; exact o3 b o e
      refine ⟨_, rfl, .inr (.inr (.inl ⟨rfl, .inl ⟨_, d4⟩⟩)), fun p4 hp4 => ?_⟩
      have xb4 : (upd H4 p4 (.dK [])) a = some (ExT (.ref (ca c)) a) := by rw [upd_ne (hne x4 hp4)]; exact x4
      refine ⟨_, rfl, a, ca c, _, _, _, rfl, xb4, R.c c hc8, fun _ r => r, R.k c hc8 7 (by decide), _, rfl, a, ca c, _, _, _, rfl, xb4, R.c c hc8, fun _ r => r, R.k c hc8 6 (by decide), upd_same,
        [(Sum.inr "undo", .bl (decide (c = 7))), (Sum.inr "many", .bl (decide (c = 6)))], rfl, (by show 2 ≤ 15; decide), ?_⟩
      refine ⟨p1, p4, _, _, rfl, rfl, (by rw [upd_ne (hne d4 hp4), upd_ne (hne d4 hp4)]; exact d4), upd_same, hne d4 hp4, (by show 8 ≤ sizeLine; decide), (by show 8 ≤ sizeLine; decide), ?_⟩
      have e5 : mergeK [((Sum.inr "boxes" : Key), V.bl (decide (c = 1))), ((Sum.inr "length" : Key), V.bl (decide (c = 4))), ((Sum.inr "line" : Key), V.bl (decide (c = 3))), ((Sum.inr "marks" : Key), V.bl (decide (c = 2))), ((Sum.inr "text" : Key), V.bl (decide (c = 5))), ((Sum.inr "set" : Key), V.bl (decide (c = 0)))] (mergeK [] [((Sum.inr "undo" : Key), V.bl (decide (c = 7))), (Sum.inr "many", .bl (decide (c = 6)))]) = [((Sum.inr "boxes" : Key), V.bl (decide (c = 1))), ((Sum.inr "length" : Key), V.bl (decide (c = 4))), ((Sum.inr "line" : Key), V.bl (decide (c = 3))), ((Sum.inr "marks" : Key), V.bl (decide (c = 2))), ((Sum.inr "text" : Key), V.bl (decide (c = 5))), ((Sum.inr "set" : Key), V.bl (decide (c = 0))), ((Sum.inr "undo" : Key), V.bl (decide (c = 7))), ((Sum.inr "many" : Key), V.bl (decide (c = 6)))] := rfl
      rw [e5]
      generalize hH5 : upd (upd (upd H4 p4 (.dK [])) p4 (.dK (mergeK [] [((Sum.inr "undo" : Key), V.bl (decide (c = 7))), (Sum.inr "many", .bl (decide (c = 6)))]))) p1 (.dK [((Sum.inr "boxes" : Key), V.bl (decide (c = 1))), ((Sum.inr "length" : Key), V.bl (decide (c = 4))), ((Sum.inr "line" : Key), V.bl (decide (c = 3))), ((Sum.inr "marks" : Key), V.bl (decide (c = 2))), ((Sum.inr "text" : Key), V.bl (decide (c = 5))), ((Sum.inr "set" : Key), V.bl (decide (c = 0))), ((Sum.inr "undo" : Key), V.bl (decide (c = 7))), ((Sum.inr "many" : Key), V.bl (decide (c = 6)))]) = H5
      have d5 : H5 p1 = some (.dK [((Sum.inr "boxes" : Key), V.bl (decide (c = 1))), ((Sum.inr "length" : Key), V.bl (decide (c = 4))), ((Sum.inr "line" : Key), V.bl (decide (c = 3))), ((Sum.inr "marks" : Key), V.bl (decide (c = 2))), ((Sum.inr "text" : Key), V.bl (decide (c = 5))), ((Sum.inr "set" : Key), V.bl (decide (c = 0))), ((Sum.inr "undo" : Key), V.bl (decide (c = 7))), ((Sum.inr "many" : Key), V.bl (decide (c = 6)))]) := by rw [← hH5, upd_same]
      have x5 : H5 a = some (ExT (.ref (ca c)) a) := by rw [← hH5, upd_ne (hne xa1 hp1), upd_ne (hne x4 hp4), upd_ne (hne x4 hp4)]; exact x4
      have o5 : ∀ b o, H' b = some o → H5 b = some o := fun b o e => by rw [← hH5, upd_ne (n1 b o e), upd_ne (hne (o4 b o e) hp4), upd_ne (hne (o4 b o e) hp4)]; exact o4 b o e
      have d6 : H5 p1 = some (.dK (kvsE c)) := d5
      refine ⟨p1, _, d6, True.intro, fun od => ⟨_, rfl, p1, od, rfl, .inl ⟨_, upd_same, fun Da hDa => ?_⟩⟩⟩
      have nDa : Da ≠ p1 := fun z => by rw [z, upd_same] at hDa; cases hDa
      have hDa5 : H5 Da = none := by rw [upd_ne nDa] at hDa; exact hDa
      refine lc_it (Qd := _) walk_keys (fun i Hh => Hh p1 = some (.frz od (.dK (kvsE c))) ∧ Hh Da = some (.lst (((KS.take i).filter fun p => decide (c = p.2)).map fun p => V.str p.1)) ∧ (∀ b o, H' b = some o → Hh b = some o) ∧ Hh a = some (ExT (.ref (ca c)) a)) ?_ (fun i Hh _ h => h.1) ?_ ?_
      · refine ⟨by rw [upd_ne (Ne.symm nDa), upd_same], upd_same, fun b o e => ?_, ?_⟩
        · rw [upd_ne (hne (o5 b o e) hDa5), upd_ne (n1 b o e)]; exact o5 b o e
        · rw [upd_ne (hne x5 hDa5), upd_ne (hne xa1 hp1)]; exact x5
      · rintro i x Hh Hh' hi ⟨h1, h2, h3, h4⟩ ⟨rfl, k, v, hk, rfl⟩
        obtain ⟨nm, ix, hKS, rfl, rfl⟩ : ∃ nm ix, KS[i]? = some (nm, ix) ∧ k = Sum.inr nm ∧ v = .bl (decide (c = ix)) := by
          unfold kvsE at hk
          rw [List.getElem?_map] at hk
          cases z : KS[i]? with
          | none => rw [z] at hk; cases hk
          | some p => rw [z] at hk; cases hk; exact ⟨p.1, p.2, rfl, rfl, rfl⟩
        have tk : KS.take (i + 1) = KS.take i ++ [(nm, ix)] := by rw [List.take_add_one, hKS]; rfl
        refine ⟨rfl, _, rfl, _, rfl, p1, _, rfl, .inl ⟨_, Sum.inr nm, .inr ⟨od, h1⟩, rfl, (kvsE_val c i nm ix hKS).symm⟩, _, rfl, ite2 (fun hb => ?_) fun hb => ?_⟩
        · refine ⟨_, rfl, _, h2, ?_, ?_⟩
          · refine Nat.lt_of_le_of_lt (m := 8) ?_ (by decide)
            rw [List.length_map]
            exact Nat.le_trans (List.length_filter_le _ _) (by rw [List.length_take]; exact Nat.min_le_right _ _)
          · refine ⟨by rw [upd_ne (Ne.symm nDa)]; exact h1, ?_, fun b o e => by rw [upd_ne (hne (o5 b o e) hDa5)]; exact h3 b o e, by rw [upd_ne (hne x5 hDa5)]; exact h4⟩
            rw [upd_same, tk, List.filter_append, List.map_append]
            have : decide (c = ix) = true := by simpa using hb
            simp [this, kV]
        · refine ⟨h1, ?_, h3, h4⟩
          rw [h2, tk, List.filter_append, List.map_append]
          have : decide (c = ix) = false := by simpa using hb
          simp [this]
      · rintro Hh ⟨h1, h2, h3, h4⟩
        have e8 : KS.take (kvsE c).length = KS := rfl
        rw [e8, kvsE_names c hc8] at h2
        refine ⟨h1, ?_⟩
        have h2' : (upd Hh p1 (.dK (kvsE c))) Da = some (.lst [V.str (mkS (Mn.errName c))]) := by rw [upd_ne nDa]; exact h2
        have h4' : (upd Hh p1 (.dK (kvsE c))) a = some (ExT (.ref (ca c)) a) := by rw [upd_ne (hne xa1 hp1)]; exact h4
        have h3' : ∀ b o, H' b = some o → (upd Hh p1 (.dK (kvsE c))) b = some o := fun b o e => by rw [upd_ne (n1 b o e)]; exact h3 b o e
        refine ⟨_, rfl, Da, _, rfl, .inl (SqL.of h2'), rfl, _, rfl, iteT ?_⟩
        refine ⟨_, rfl, a, ca c, _, _, _, rfl, h4', R.c c hc8, fun _ r => r, R.v c hc8, _, rfl, iteT ?_⟩
        refine ⟨_, rfl, Da, _, _, _, rfl, rfl, SqL.of h2', rfl, (by show 1 ≤ sizeLine; decide), fun p hp => ?_⟩
        refine fin _ p (fun b o e => by rw [upd_ne (hne (h3' b o e) hp)]; exact h3' b o e) ?_ upd_same
        cases z : H' p with
        | none => rfl
        | some o => rw [h3' p o z] at hp; cases hp
    · intro v H' hq
      refine ⟨_, rfl, rfl, _, rfl, ite2 (fun _ => ?_) fun z => absurd rfl z⟩
      refine ⟨_, rfl, (by show 2 ≤ sizeLine; decide), fun p hp => ?_⟩
      have := hq p hp
      rw [← ret_eq] at this
      exact this
end
section
variable {P : Program} {w : PySem.World} {K : PySem.W.Frag} {mg : Str → Option Value} {base : Heap} {fa ca : Nat → Addr} {cs sa g : Addr} {ns : List Int} {tab : List (Addr × Str)} {k N : Nat}
section
variable {PR : Nat → Option Mn.Df}
theorem sc__law_draw : FnScope ["_law_script", "_law_town", "_law_many", "_law_at", "_law_rest", "_law_number"] ["_law_script", "_law_town", "_law_many"] (defScope (top 30)) := ⟨rfl, rfl, rfl, by decide +kernel, rfl, by decide +kernel, by decide +kernel⟩
theorem pow18 : (10 : Int) ^ (18 : Int).toNat = 1000000000000000000 := by decide
theorem ok__law_draw (hlen : mg "len" = none) (hns : ns.length ≤ 1000) {n : Nat} (hP : PR n = some .draw) {fd : FuncData} (F : Fun K "_law_draw" "_law_draw" (top 30) (fa n) fd) :
    FnOk P w K mg base (L2.CX P w) (3 * k + 3) (fa n) fd ["_law_script", "_law_town", "_law_many"] (spD (ST K fa ca sa ns tab) (Mn.Phi PR N (k + 1)) 3 n) := by
  refine Fun.okX (k := 3 * k + 2) F sc__law_draw (fun vs H Q E h => h.1) fun cdv A outer s H vs Q E hr hsp => ?_
  have hu := hu_of hr
  have nd := sc__law_draw.nd
  have hsp' : vs.length = 3 ∧ ∃ φ G w ds, World (ST K fa ca sa ns tab) φ G H w ∧ Reps (ST K fa ca sa ns tab) φ G ds vs ∧ ds.any Mn.isOwn = false ∧ Post (ST K fa ca sa ns tab) E (RepV (ST K fa ca sa ns tab)) φ G H Q (Mn.drawP ds w) := by
    obtain ⟨hl, φ, G, w, ds, W, r, no, p⟩ := hsp
    refine ⟨hl, φ, G, w, ds, W, r, no, ?_⟩
    unfold Mn.Phi at p
    rw [hP] at p
    exact p
  obtain ⟨a, b, c, rs, many, rfl, sq, ha, hb, ab, keep, okr, m0, m1, fin⟩ := draw_inv hsp'
  refine ⟨_, pss_cons (ps_dput hu (pv 1) pe_str (pe_op op_add (pe_dget hu (pv 1) pe_str (fun _ _ => rfl)) pe_int) rfl)
    (pss_cons (ps_set (i := 3) nd rfl (by first | exact Or.inl rfl | exact Or.inr rfl) (pe_ifExp (pt_truth (pv 0) (by intro _; rfl)) (pe_op op_mod (pe_dget hu (pv 1) pe_str (fun _ _ => rfl)) (pe_callB call_len_seq (by rfl) hlen PySem.boot_len (pa_cons (pv 0) pa_nil))) pe_int))
    (pss_cons (ps_set (i := 4) nd rfl (by first | exact Or.inl rfl | exact Or.inr rfl) (pe_dget2 hu (pe_dget hu (pv 1) pe_str (fun _ _ => rfl)) (pv 3) (pe_ifExp (pt_truth (pv 0) (by intro _; rfl)) (pe_ix ix_list (pv 0) (pv 3) (fun _ _ => rfl)) pe_int) ⟨rfl, rfl, rfl, rfl⟩))
    (pss_cons (ps_if (pt_cmpR op_ge (pv 4) (pe_op op_pow pe_int pe_int) (nomark _))
      (pss_cons (ps_dput hu (pe_dget hu (pv 1) pe_str (fun _ _ => rfl)) (pv 3) (pe_op op_fdiv (pv 4) (pv 2)) rfl) (pss_one (ps_ret (pe_op op_mod (pv 4) (pv 2))))) pss_nil)
    (pss_cons (ps_set (i := 5) nd rfl (by first | exact Or.inl rfl | exact Or.inr rfl) (pe_op op_mod (pe_op op_add (pv 4) (pe_op op_mul pe_int (pe_dget hu (pv 1) pe_str (fun _ _ => rfl)))) pe_int))
    (pss_cons (ps_set (i := 5) nd rfl (by first | exact Or.inl rfl | exact Or.inr rfl) (pe_op op_mod (pe_op op_pow (pv 5) pe_int) pe_int))
    (pss_one (ps_ret (pe_op op_mod (pe_op op_fdiv (pe_op op_mod (pe_op op_add (pe_op op_mul (pe_op op_fdiv (pv 5) pe_int) pe_int) (pv 5)) pe_int) pe_int) (pv 2))))))))), ?_⟩
  -- count + 1
  refine ⟨_, rfl, a, .int c, rfl, DGet.k (k := cntK) ha, _, _, rfl, rfl, _, rfl, a, _, rfl, DPut.k (k := cntK) ha (by show 2 < sizeLine; decide), ?_⟩
  have eP : putK [(cntK, V.int c), (rstK, V.ref b)] cntK (.int (c + 1)) = [(cntK, V.int (c + 1)), (rstK, V.ref b)] := by rfl
  rw [eP]
  generalize hH1 : upd H a (.dK [(cntK, V.int (c + 1)), (rstK, V.ref b)]) = H1
  have hA1 : H1 a = some (.dK [(cntK, V.int (c + 1)), (rstK, V.ref b)]) := by rw [← hH1, upd_same]
  have hB1 : H1 b = some (.dK (mpK rs)) := by rw [← hH1, upd_ne (Ne.symm ab)]; exact hb
  have sq1 : SqL K H1 sa (ns.map V.int) := keep H1 fun q h1 h2 => by rw [← hH1, upd_ne h1]
  have tr : TruV K (V.ref sa) H1 (!ns.isEmpty) := .inl ⟨_, sq1, by simp⟩
  have dC : DGet H1 a (V.str "count") (some (.int (c + 1))) := DGet.k (k := cntK) hA1
  have dR : DGet H1 a (V.str "rests") (some (.ref b)) := DGet.k (k := rstK) hA1
  have rest_of : ∀ z : Int, DGet H1 b (.int z) ((Mn.rget z rs).map V.int) := fun z => by
    rw [← rget_val]
    exact DGet.k (k := Sum.inl z) hB1
  have getD_int : ∀ (o : Option Int) (z : Int), (o.map V.int).getD (.int z) = V.int (o.getD z) := fun o z => by cases o <;> rfl
  have hz : (mpK rs).length < sizeLine := by
    have : rs.length ≤ ns.length + 1 := okr.len
    have : (mpK rs).length = rs.length := by simp [mpK]
    have : (1002 : Nat) < sizeLine := by decide
    omega
  rcases Classical.em (ns = []) with hne | hne
  all_goals
    have e1 : (!ns.isEmpty) = decide (ns ≠ []) := by cases ns <;> simp
    have hAt : Mn.drawAt ns (c + 1) = if ns = [] then 0 else (c + 1) % ns.length := rfl
    have hRest : Mn.drawRest ns (c + 1) rs = (Mn.rget (Mn.drawAt ns (c + 1)) rs).getD (ns.getD (Mn.drawAt ns (c + 1)).toNat 0) := rfl
    refine ⟨_, rfl, (!ns.isEmpty), tr, ?_⟩
    rw [e1]
  · rw [decide_eq_false (by simpa using hne)]
    rw [if_pos hne] at hAt
    have hR2 : ns.getD (Mn.drawAt ns (c + 1)).toNat 0 = 0 := by rw [hne]; rfl
    refine iteF ⟨_, rfl, a, .ref b, rfl, dR, b, rfl, .inl ⟨_, .inl hB1⟩, _, rfl, _, rfl, (!ns.isEmpty), tr, ?_⟩
    rw [e1, decide_eq_false (by simpa using hne)]
    refine iteF ⟨_, rest_of 0, ?_⟩
    rw [getD_int]
    have hR : (Mn.rget 0 rs).getD 0 = Mn.drawRest ns (c + 1) rs := by rw [hRest, hR2, hAt]
    rw [hR]
    refine ⟨_, rfl, _, _, rfl, rfl, ⟨by decide, by decide, by decide⟩, _, _, rfl, rfl, _, rfl, ?_⟩
    have hc : decide ((10 : Int) ^ (18 : Int).toNat ≤ Mn.drawRest ns (c + 1) rs) = decide (Mn.drawRest ns (c + 1) rs ≥ 1000000000000000000) := by rw [pow18]
    rw [hc]
    refine ite2 (fun h => ?_) (fun h => ?_)
    · refine ⟨_, rfl, _, rfl, _, _, rfl, rfl, ⟨m0, by omega⟩, _, rfl, a, .ref b, rfl, dR, _, rfl, b, _, rfl, DPut.k (k := Sum.inl 0) hB1 hz, _, rfl, _, rfl, _, _, rfl, rfl, m0, ?_⟩
      have h' : Mn.drawRest ns (c + 1) rs ≥ 1000000000000000000 := by simpa using h
      have f1 := fin _ rfl
      have e5 : Mn.drawLeft ns (c + 1) rs many = Mn.rput 0 (Mn.drawRest ns (c + 1) rs / many) rs := by
        unfold Mn.drawLeft
        rw [if_pos h', hAt]
      have e6 : Mn.drawNum ns (c + 1) rs many = Mn.drawRest ns (c + 1) rs % many := by
        unfold Mn.drawNum Mn.drawOf
        rw [if_pos h']
      rw [show (ST K fa ca sa ns tab).ns = ns from rfl, e5, e6, hH1, ← rput_map _ _ _ okr.1] at f1
      exact f1
    · have h' : ¬ Mn.drawRest ns (c + 1) rs ≥ 1000000000000000000 := by simpa using h
      have f1 := fin _ rfl
      have e5 : Mn.drawLeft ns (c + 1) rs many = rs := by
        unfold Mn.drawLeft
        rw [if_neg h']
      have e6 : Mn.drawNum ns (c + 1) rs many = (((Mn.drawRest ns (c + 1) rs + 104729 * (c + 1)) % 4294967291) ^ 5 % 4294967279 / 64 * 69621 + ((Mn.drawRest ns (c + 1) rs + 104729 * (c + 1)) % 4294967291) ^ 5 % 4294967279) % 4294967231 / 8 % many := by
        unfold Mn.drawNum Mn.drawOf
        rw [if_neg h']
      have e7 : upd H1 b (.dK (mpK rs)) = H1 := by
        funext q
        by_cases z : q = b
        · subst z; rw [upd_same, hB1]
        · rw [upd_ne z]
      rw [show (ST K fa ca sa ns tab).ns = ns from rfl, e5, e6, hH1, e7] at f1
      have b1 : 0 ≤ (Mn.drawRest ns (c + 1) rs + 104729 * (c + 1)) % 4294967291 := Int.emod_nonneg _ (by decide)
      have b2 : (Mn.drawRest ns (c + 1) rs + 104729 * (c + 1)) % 4294967291 < 4294967291 := Int.emod_lt_of_pos _ (by decide)
      have b3 : 0 ≤ ((Mn.drawRest ns (c + 1) rs + 104729 * (c + 1)) % 4294967291) ^ 5 % 4294967279 := Int.emod_nonneg _ (by decide)
      have b4 : ((Mn.drawRest ns (c + 1) rs + 104729 * (c + 1)) % 4294967291) ^ 5 % 4294967279 < 4294967279 := Int.emod_lt_of_pos _ (by decide)
      refine ⟨_, rfl, _, rfl, a, .int (c + 1), rfl, dC, _, _, rfl, rfl, .inl ⟨by decide, by decide⟩, _, _, rfl, rfl, _, _, rfl, rfl, (by show (0 : Int) < 4294967291; decide), ?_⟩
      refine ⟨_, rfl, _, _, rfl, rfl, ⟨by decide, by decide, by omega⟩, _, _, rfl, rfl, (by show (0 : Int) < 4294967279; decide), ?_⟩
      refine ⟨_, rfl, _, _, rfl, rfl, ⟨by decide, by decide⟩, _, _, rfl, rfl, .inl ⟨?_, ?_⟩, _, rfl, _, _, rfl, rfl, _, _, rfl, rfl, (by show (0 : Int) < 4294967231; decide), _, _, rfl, rfl, ⟨by decide, by decide⟩, _, rfl, _, _, rfl, rfl, m0, ?_⟩
      · have : 0 ≤ ((Mn.drawRest ns (c + 1) rs + 104729 * (c + 1)) % 4294967291) ^ 5 % 4294967279 / 64 := Int.ediv_nonneg b3 (by decide)
        exact Int.lt_of_lt_of_le (by decide) this
      · have : ((Mn.drawRest ns (c + 1) rs + 104729 * (c + 1)) % 4294967291) ^ 5 % 4294967279 / 64 < 4294967279 := Int.lt_of_le_of_lt (Int.ediv_le_self _ b3) b4
        exact Int.lt_trans this (by decide)
      · exact f1
  · rw [decide_eq_true (by simpa using hne)]
    rw [if_neg hne] at hAt
    have hl0 : (0 : Int) < ns.length := by
      have : ns.length ≠ 0 := fun z => hne (List.length_eq_zero_iff.mp z)
      omega
    have i0 : 0 ≤ (c + 1) % (ns.length : Int) := Int.emod_nonneg _ (by omega)
    have i1 : (c + 1) % (ns.length : Int) < ns.length := Int.emod_lt_of_pos _ hl0
    refine iteT ⟨_, rfl, a, .int (c + 1), rfl, dC, _, rfl, sa, _, rfl, .inl sq1, _, _, rfl, rfl, ?_, ?_⟩
    · simpa using hl0
    refine ⟨_, rfl, a, .ref b, rfl, dR, b, rfl, .inl ⟨_, .inl hB1⟩, _, rfl, _, rfl, (!ns.isEmpty), tr, ?_⟩
    rw [e1, decide_eq_true (by simpa using hne)]
    have hg : L2.atI (ns.map V.int) ((c + 1) % (ns.map V.int).length) = some (.int (ns.getD ((c + 1) % ns.length).toNat 0)) := by
      have hlt : ((c + 1) % (ns.length : Int)).toNat < ns.length := by omega
      unfold L2.atI L2.ixN
      rw [List.length_map, if_pos i0, if_pos i1, Option.bind_some, List.getElem?_map, List.getElem?_eq_getElem hlt]
      simp [List.getD, List.getElem?_eq_getElem hlt]
    refine iteT ⟨_, rfl, _, rfl, sa, _, _, _, rfl, rfl, sq1, hg, _, rest_of _, ?_⟩
    rw [getD_int]
    rw [List.length_map]
    have hR : (Mn.rget ((c + 1) % (ns.length : Int)) rs).getD (ns.getD ((c + 1) % (ns.length : Int)).toNat 0) = Mn.drawRest ns (c + 1) rs := by rw [hRest, hAt]
    rw [hR]
    refine ⟨_, rfl, _, _, rfl, rfl, ⟨by decide, by decide, by decide⟩, _, _, rfl, rfl, _, rfl, ?_⟩
    have hc : decide ((10 : Int) ^ (18 : Int).toNat ≤ Mn.drawRest ns (c + 1) rs) = decide (Mn.drawRest ns (c + 1) rs ≥ 1000000000000000000) := by rw [pow18]
    rw [hc]
    refine ite2 (fun h => ?_) (fun h => ?_)
    · refine ⟨_, rfl, _, rfl, _, _, rfl, rfl, ⟨m0, by omega⟩, _, rfl, a, .ref b, rfl, dR, _, rfl, b, _, rfl, DPut.k (k := Sum.inl ((c + 1) % (ns.length : Int))) hB1 hz, _, rfl, _, rfl, _, _, rfl, rfl, m0, ?_⟩
      have h' : Mn.drawRest ns (c + 1) rs ≥ 1000000000000000000 := by simpa using h
      have f1 := fin _ rfl
      have e5 : Mn.drawLeft ns (c + 1) rs many = Mn.rput ((c + 1) % (ns.length : Int)) (Mn.drawRest ns (c + 1) rs / many) rs := by
        unfold Mn.drawLeft
        rw [if_pos h', hAt]
      have e6 : Mn.drawNum ns (c + 1) rs many = Mn.drawRest ns (c + 1) rs % many := by
        unfold Mn.drawNum Mn.drawOf
        rw [if_pos h']
      rw [show (ST K fa ca sa ns tab).ns = ns from rfl, e5, e6, hH1, ← rput_map _ _ _ okr.1] at f1
      exact f1
    · have h' : ¬ Mn.drawRest ns (c + 1) rs ≥ 1000000000000000000 := by simpa using h
      have f1 := fin _ rfl
      have e5 : Mn.drawLeft ns (c + 1) rs many = rs := by
        unfold Mn.drawLeft
        rw [if_neg h']
      have e6 : Mn.drawNum ns (c + 1) rs many = (((Mn.drawRest ns (c + 1) rs + 104729 * (c + 1)) % 4294967291) ^ 5 % 4294967279 / 64 * 69621 + ((Mn.drawRest ns (c + 1) rs + 104729 * (c + 1)) % 4294967291) ^ 5 % 4294967279) % 4294967231 / 8 % many := by
        unfold Mn.drawNum Mn.drawOf
        rw [if_neg h']
      have e7 : upd H1 b (.dK (mpK rs)) = H1 := by
        funext q
        by_cases z : q = b
        · subst z; rw [upd_same, hB1]
        · rw [upd_ne z]
      rw [show (ST K fa ca sa ns tab).ns = ns from rfl, e5, e6, hH1, e7] at f1
      have b1 : 0 ≤ (Mn.drawRest ns (c + 1) rs + 104729 * (c + 1)) % 4294967291 := Int.emod_nonneg _ (by decide)
      have b2 : (Mn.drawRest ns (c + 1) rs + 104729 * (c + 1)) % 4294967291 < 4294967291 := Int.emod_lt_of_pos _ (by decide)
      have b3 : 0 ≤ ((Mn.drawRest ns (c + 1) rs + 104729 * (c + 1)) % 4294967291) ^ 5 % 4294967279 := Int.emod_nonneg _ (by decide)
      have b4 : ((Mn.drawRest ns (c + 1) rs + 104729 * (c + 1)) % 4294967291) ^ 5 % 4294967279 < 4294967279 := Int.emod_lt_of_pos _ (by decide)
      refine ⟨_, rfl, _, rfl, a, .int (c + 1), rfl, dC, _, _, rfl, rfl, .inl ⟨by decide, by decide⟩, _, _, rfl, rfl, _, _, rfl, rfl, (by show (0 : Int) < 4294967291; decide), ?_⟩
      refine ⟨_, rfl, _, _, rfl, rfl, ⟨by decide, by decide, by omega⟩, _, _, rfl, rfl, (by show (0 : Int) < 4294967279; decide), ?_⟩
      refine ⟨_, rfl, _, _, rfl, rfl, ⟨by decide, by decide⟩, _, _, rfl, rfl, .inl ⟨?_, ?_⟩, _, rfl, _, _, rfl, rfl, _, _, rfl, rfl, (by show (0 : Int) < 4294967231; decide), _, _, rfl, rfl, ⟨by decide, by decide⟩, _, rfl, _, _, rfl, rfl, m0, ?_⟩
      · have : 0 ≤ ((Mn.drawRest ns (c + 1) rs + 104729 * (c + 1)) % 4294967291) ^ 5 % 4294967279 / 64 := Int.ediv_nonneg b3 (by decide)
        exact Int.lt_of_lt_of_le (by decide) this
      · have : ((Mn.drawRest ns (c + 1) rs + 104729 * (c + 1)) % 4294967291) ^ 5 % 4294967279 / 64 < 4294967279 := Int.lt_of_le_of_lt (Int.ediv_le_self _ b3) b4
        exact Int.lt_trans this (by decide)
      · exact f1
theorem sc__law_begun : FnScope [] [] (defScope (top 31)) := ⟨rfl, rfl, rfl, by decide +kernel, rfl, by decide +kernel, by decide +kernel⟩
theorem ok__law_begun {n : Nat} (hP : PR n = some .begun) {fd : FuncData} (F : Fun K "_law_begun" "_law_begun" (top 31) (fa n) fd) :
    FnOk P w K mg base (L2.CX P w) (3 * k + 3) (fa n) fd [] (spD (ST K fa ca sa ns tab) (Mn.Phi PR N (k + 1)) 0 n) := by
  refine Fun.okX (k := 3 * k + 2) F sc__law_begun (fun vs H Q E h => h.1) fun cdv A outer s H vs Q E hr hsp => ?_
  have hsp' : vs.length = 0 ∧ ∃ φ G w ds, World (ST K fa ca sa ns tab) φ G H w ∧ Reps (ST K fa ca sa ns tab) φ G ds vs ∧ ds.any Mn.isOwn = false ∧ Post (ST K fa ca sa ns tab) E (RepV (ST K fa ca sa ns tab)) φ G H Q (Mn.begunP ds w) := by
    obtain ⟨hl, φ, G, w, ds, W, r, no, p⟩ := hsp
    refine ⟨hl, φ, G, w, ds, W, r, no, ?_⟩
    unfold Mn.Phi at p
    rw [hP] at p
    exact p
  obtain ⟨rfl, fin⟩ := begun_inv hsp'
  refine ⟨_, pss_one (ps_ret (pe_disp (pps_cons pe_str pe_int (pps_cons pe_str pe_dnewK pps_nil)) (by rfl) (by rfl) (fun z => by cases z) (by decide))), ?_⟩
  refine fun p hp q hq => ?_
  have hqp : q ≠ p := fun z => by subst z; rw [upd_same] at hq; cases hq
  have hq0 : H q = none := by rw [upd_ne hqp] at hq; exact hq
  refine ⟨by rw [upd_ne (Ne.symm hqp)]; exact upd_same, [(cntK, .int 0), (rstK, .ref q)], rfl, by show 2 ≤ 15; decide, ?_⟩
  refine fin p q _ hp hq0 (Ne.symm hqp) (fun r h1 h2 => by rw [upd_ne h1, upd_ne h2, upd_ne h1]) ?_ ?_
  · rw [upd_same]; rfl
  · rw [upd_ne hqp, upd_same]
end
theorem sc_is_between : FnScope ["value", "low", "high"] ["value", "low", "high"] (defScope (top 12)) := ⟨rfl, rfl, rfl, by decide +kernel, rfl, by decide +kernel, by decide +kernel⟩
theorem ok_is_between (M : BN mg) (hC_LETTERS : ∃ z t, mg "LETTERS" = some (.str z t) ∧ z.cps.toList = [97, 98, 99, 100]) (ER : ErrOk K mg ca) (IH : AllOk P w K mg base (ST K fa ca sa ns tab) (3 * k) (Mn.Phi PR N k)) {fd : FuncData} (F : Fun K "is_between" "is_between" (top 12) (fa 0) fd) :
    FnOk P w K mg base (L2.CX P w) (3 * k + 3) (fa 0) fd ["value", "low", "high"] (spD (ST K fa ca sa ns tab) (Mn.Phi PR N (k + 1)) 3 0) := by
  refine Fun.okX (k := 3 * k + 2) F sc_is_between (fun vs H Q E h => h.1) fun cdv A outer s H vs Q E hr2 hsp => body_of (fn := f_is_between) rfl hsp rfl (by decide) fun e0 => ?_
  have hr := hr2.mono (Nat.le_add_right (3 * k) 2)
  have x : XOk (ST K fa ca sa ns tab) (cxOf (L2.CX P w) P w K mg base ["value", "low", "high"] "is_between" (defScope (top 12)) (fa 0) cdv A outer s H E) := ⟨rfl, rfl, hr.units, sc_is_between.nd⟩
  have tk : Takes (cxOf (L2.CX P w) P w K mg base ["value", "low", "high"] "is_between" (defScope (top 12)) (fa 0) cdv A outer s H E) (fun cls d _ H => E cls d H) := takes_of rfl rfl rfl rfl
  have px := passes_call tk (fun _ _ _ _ h => h)
  have po := passes_of (X := (cxOf (L2.CX P w) P w K mg base ["value", "low", "high"] "is_between" (defScope (top 12)) (fa 0) cdv A outer s H E)) rfl
  exact (s_one (s_ret (ps_ret (e_and (and_cons (e_isi x.K (by rfl) (M.isinstance) (by decide +kernel) (e_var (pv 0)) (by rfl) (M.int) (by decide +kernel)) (and_cons (e_not (e_isi x.K (by rfl) (M.isinstance) (by decide +kernel) (e_var (pv 0)) (by rfl) (M.bool) (by decide +kernel))) (and_one (e_chainLE (e_var (pv 1)) (e_var (pv 0)) (e_var (pv 2))))))))))
theorem sc_is_string_of : FnScope ["value", "most", "letter"] ["value", "most"] (defScope (top 13)) := ⟨rfl, rfl, rfl, by decide +kernel, rfl, by decide +kernel, by decide +kernel⟩
theorem ok_is_string_of (M : BN mg) (hC_LETTERS : ∃ z t, mg "LETTERS" = some (.str z t) ∧ z.cps.toList = [97, 98, 99, 100]) (ER : ErrOk K mg ca) (IH : AllOk P w K mg base (ST K fa ca sa ns tab) (3 * k) (Mn.Phi PR N k)) {fd : FuncData} (F : Fun K "is_string_of" "is_string_of" (top 13) (fa 1) fd) :
    FnOk P w K mg base (L2.CX P w) (3 * k + 3) (fa 1) fd ["value", "most"] (spD (ST K fa ca sa ns tab) (Mn.Phi PR N (k + 1)) 2 1) := by
  refine Fun.okX (k := 3 * k + 2) F sc_is_string_of (fun vs H Q E h => h.1) fun cdv A outer s H vs Q E hr2 hsp => body_of (fn := f_is_string_of) rfl hsp rfl (by decide) fun e0 => ?_
  have hr := hr2.mono (Nat.le_add_right (3 * k) 2)
  have x : XOk (ST K fa ca sa ns tab) (cxOf (L2.CX P w) P w K mg base ["value", "most", "letter"] "is_string_of" (defScope (top 13)) (fa 1) cdv A outer s H E) := ⟨rfl, rfl, hr.units, sc_is_string_of.nd⟩
  have tk : Takes (cxOf (L2.CX P w) P w K mg base ["value", "most", "letter"] "is_string_of" (defScope (top 13)) (fa 1) cdv A outer s H E) (fun cls d _ H => E cls d H) := takes_of rfl rfl rfl rfl
  have px := passes_call tk (fun _ _ _ _ h => h)
  have po := passes_of (X := (cxOf (L2.CX P w) P w K mg base ["value", "most", "letter"] "is_string_of" (defScope (top 13)) (fa 1) cdv A outer s H E)) rfl
  exact (s_one (s_ret (ps_ret (e_and (and_cons (e_isi x.K (by rfl) (M.isinstance) (by decide +kernel) (e_var (pv 0)) (by rfl) (M.str) (by decide +kernel)) (and_cons (e_chainLE e_int (e_len x (by rfl) (M.len) (e_var (pv 0))) (e_var (pv 1))) (and_one (e_all x (by rfl) (M.all) (e_lc (pe_lc (own := [("letter", 2)]) (g := tgR K [2] true) rfl x.nd (i_seq (e_var (pv 0)) x.K) (blkOk_by (N := ["value", "most", "letter"]) (sc := defScope (top 13)) (own := [("letter", 2)]) (by decide +kernel)) (fun _ _ _ _ _ => (pg_name (i := 2) x.nd rfl (by first | exact Or.inl rfl | exact Or.inr rfl))) (fun _ _ _ _ _ => inT x fun x px => c_nil) (fun _ _ _ _ _ => inE x fun x px => (e_in x (e_var (pv 2)) (e_globE (by rfl) hC_LETTERS (by decide))))))))))))))
theorem sc_are_words : FnScope ["value", "one", "other"] ["value"] (defScope (top 14)) := ⟨rfl, rfl, rfl, by decide +kernel, rfl, by decide +kernel, by decide +kernel⟩
theorem ok_are_words (M : BN mg) (hC_LETTERS : ∃ z t, mg "LETTERS" = some (.str z t) ∧ z.cps.toList = [97, 98, 99, 100]) (ER : ErrOk K mg ca) (IH : AllOk P w K mg base (ST K fa ca sa ns tab) (3 * k) (Mn.Phi PR N k)) {fd : FuncData} (F : Fun K "are_words" "are_words" (top 14) (fa 2) fd) :
    FnOk P w K mg base (L2.CX P w) (3 * k + 3) (fa 2) fd ["value"] (spD (ST K fa ca sa ns tab) (Mn.Phi PR N (k + 1)) 1 2) := by
  refine Fun.okX (k := 3 * k + 2) F sc_are_words (fun vs H Q E h => h.1) fun cdv A outer s H vs Q E hr2 hsp => body_of (fn := f_are_words) rfl hsp rfl (by decide) fun e0 => ?_
  have hr := hr2.mono (Nat.le_add_right (3 * k) 2)
  have x : XOk (ST K fa ca sa ns tab) (cxOf (L2.CX P w) P w K mg base ["value", "one", "other"] "are_words" (defScope (top 14)) (fa 2) cdv A outer s H E) := ⟨rfl, rfl, hr.units, sc_are_words.nd⟩
  have tk : Takes (cxOf (L2.CX P w) P w K mg base ["value", "one", "other"] "are_words" (defScope (top 14)) (fa 2) cdv A outer s H E) (fun cls d _ H => E cls d H) := takes_of rfl rfl rfl rfl
  have px := passes_call tk (fun _ _ _ _ h => h)
  have po := passes_of (X := (cxOf (L2.CX P w) P w K mg base ["value", "one", "other"] "are_words" (defScope (top 14)) (fa 2) cdv A outer s H E)) rfl
  exact (s_cons (s_if (t_or (t_orC (t_not (t_val (e_isi x.K (by rfl) (M.isinstance) (by decide +kernel) (e_var (pv 0)) (by rfl) (M.tuple) (by decide +kernel)))) (t_orC (t_not (t_chainLE e_int (e_len x (by rfl) (M.len) (e_var (pv 0))) e_int)) (t_or1 (t_not (t_val (e_all x (by rfl) (M.all) (e_lc (pe_lc (own := [("one", 1)]) (g := tgR K [1] true) rfl x.nd (i_seq (e_var (pv 0)) x.K) (blkOk_by (N := ["value", "one", "other"]) (sc := defScope (top 14)) (own := [("one", 1)]) (by decide +kernel)) (fun _ _ _ _ _ => (pg_name (i := 1) x.nd rfl (by first | exact Or.inl rfl | exact Or.inr rfl))) (fun _ _ _ _ _ => inT x fun x px => c_nil) (fun _ _ _ _ _ => inE x fun x px => (e_callC (IH 1 _ rfl) hr (by rfl) px (a_cons (e_var (pv 1)) (a_cons e_int a_nil))))))))))))) (s_one (s_ret (ps_ret e_bl))) s_nil)
    (s_one (s_ret (ps_ret (e_all x (by rfl) (M.all) (e_lc (pe_lc (own := [("one", 1), ("other", 2)]) (g := tgR K [1, 2] false) rfl x.nd (i_zip x.K (by rfl) (M.zip) (e_var (pv 0)) (e_sl x (e_var (pv 0)) (p_some e_int) p_none)) (blkOk_by (N := ["value", "one", "other"]) (sc := defScope (top 14)) (own := [("one", 1), ("other", 2)]) (by decide +kernel)) (fun _ _ _ _ _ => (pg_tup x.calm (pgs_cons (pg_name (i := 1) x.nd rfl (by first | exact Or.inl rfl | exact Or.inr rfl)) (pgs_cons (pg_name (i := 2) x.nd rfl (by first | exact Or.inl rfl | exact Or.inr rfl)) pgs_nil)))) (fun _ _ _ _ _ => inT x fun x px => c_nil) (fun _ _ _ _ _ => inE x fun x px => (e_lt (e_var (pv 1)) (e_var (pv 2)))))))))))
theorem sc_is_row : FnScope ["value"] ["value"] (defScope (top 15)) := ⟨rfl, rfl, rfl, by decide +kernel, rfl, by decide +kernel, by decide +kernel⟩
theorem ok_is_row (M : BN mg) (hC_LETTERS : ∃ z t, mg "LETTERS" = some (.str z t) ∧ z.cps.toList = [97, 98, 99, 100]) (ER : ErrOk K mg ca) (IH : AllOk P w K mg base (ST K fa ca sa ns tab) (3 * k) (Mn.Phi PR N k)) {fd : FuncData} (F : Fun K "is_row" "is_row" (top 15) (fa 3) fd) :
    FnOk P w K mg base (L2.CX P w) (3 * k + 3) (fa 3) fd ["value"] (spD (ST K fa ca sa ns tab) (Mn.Phi PR N (k + 1)) 1 3) := by
  refine Fun.okX (k := 3 * k + 2) F sc_is_row (fun vs H Q E h => h.1) fun cdv A outer s H vs Q E hr2 hsp => body_of (fn := f_is_row) rfl hsp rfl (by decide) fun e0 => ?_
  have hr := hr2.mono (Nat.le_add_right (3 * k) 2)
  have x : XOk (ST K fa ca sa ns tab) (cxOf (L2.CX P w) P w K mg base ["value"] "is_row" (defScope (top 15)) (fa 3) cdv A outer s H E) := ⟨rfl, rfl, hr.units, sc_is_row.nd⟩
  have tk : Takes (cxOf (L2.CX P w) P w K mg base ["value"] "is_row" (defScope (top 15)) (fa 3) cdv A outer s H E) (fun cls d _ H => E cls d H) := takes_of rfl rfl rfl rfl
  have px := passes_call tk (fun _ _ _ _ h => h)
  have po := passes_of (X := (cxOf (L2.CX P w) P w K mg base ["value"] "is_row" (defScope (top 15)) (fa 3) cdv A outer s H E)) rfl
  exact (s_one (s_ret (ps_ret (e_callC (IH 1 _ rfl) hr (by rfl) px (a_cons (e_var (pv 0)) (a_cons e_int a_nil))))))
theorem sc_check_words : FnScope ["words"] ["words"] (defScope (top 16)) := ⟨rfl, rfl, rfl, by decide +kernel, rfl, by decide +kernel, by decide +kernel⟩
theorem ok_check_words (M : BN mg) (hC_LETTERS : ∃ z t, mg "LETTERS" = some (.str z t) ∧ z.cps.toList = [97, 98, 99, 100]) (ER : ErrOk K mg ca) (IH : AllOk P w K mg base (ST K fa ca sa ns tab) (3 * k) (Mn.Phi PR N k)) {fd : FuncData} (F : Fun K "check_words" "check_words" (top 16) (fa 4) fd) :
    FnOk P w K mg base (L2.CX P w) (3 * k + 3) (fa 4) fd ["words"] (spD (ST K fa ca sa ns tab) (Mn.Phi PR N (k + 1)) 1 4) := by
  refine Fun.okX (k := 3 * k + 2) F sc_check_words (fun vs H Q E h => h.1) fun cdv A outer s H vs Q E hr2 hsp => body_of (fn := f_check_words) rfl hsp rfl (by decide) fun e0 => ?_
  have hr := hr2.mono (Nat.le_add_right (3 * k) 2)
  have x : XOk (ST K fa ca sa ns tab) (cxOf (L2.CX P w) P w K mg base ["words"] "check_words" (defScope (top 16)) (fa 4) cdv A outer s H E) := ⟨rfl, rfl, hr.units, sc_check_words.nd⟩
  have tk : Takes (cxOf (L2.CX P w) P w K mg base ["words"] "check_words" (defScope (top 16)) (fa 4) cdv A outer s H E) (fun cls d _ H => E cls d H) := takes_of rfl rfl rfl rfl
  have px := passes_call tk (fun _ _ _ _ h => h)
  have po := passes_of (X := (cxOf (L2.CX P w) P w K mg base ["words"] "check_words" (defScope (top 16)) (fa 4) cdv A outer s H E)) rfl
  exact (s_one (s_if (t_not (t_val (e_callC (IH 2 _ rfl) hr (by rfl) px (a_cons (e_var (pv 0)) a_nil)))) (s_one (s_raiseE x.calm tk (ER 0 _ rfl) (by rfl))) s_nil))
theorem sc_check_boxes : FnScope ["boxes"] ["boxes"] (defScope (top 17)) := ⟨rfl, rfl, rfl, by decide +kernel, rfl, by decide +kernel, by decide +kernel⟩
theorem ok_check_boxes (M : BN mg) (hC_LETTERS : ∃ z t, mg "LETTERS" = some (.str z t) ∧ z.cps.toList = [97, 98, 99, 100]) (ER : ErrOk K mg ca) (IH : AllOk P w K mg base (ST K fa ca sa ns tab) (3 * k) (Mn.Phi PR N k)) {fd : FuncData} (F : Fun K "check_boxes" "check_boxes" (top 17) (fa 5) fd) :
    FnOk P w K mg base (L2.CX P w) (3 * k + 3) (fa 5) fd ["boxes"] (spD (ST K fa ca sa ns tab) (Mn.Phi PR N (k + 1)) 1 5) := by
  refine Fun.okX (k := 3 * k + 2) F sc_check_boxes (fun vs H Q E h => h.1) fun cdv A outer s H vs Q E hr2 hsp => body_of (fn := f_check_boxes) rfl hsp rfl (by decide) fun e0 => ?_
  have hr := hr2.mono (Nat.le_add_right (3 * k) 2)
  have x : XOk (ST K fa ca sa ns tab) (cxOf (L2.CX P w) P w K mg base ["boxes"] "check_boxes" (defScope (top 17)) (fa 5) cdv A outer s H E) := ⟨rfl, rfl, hr.units, sc_check_boxes.nd⟩
  have tk : Takes (cxOf (L2.CX P w) P w K mg base ["boxes"] "check_boxes" (defScope (top 17)) (fa 5) cdv A outer s H E) (fun cls d _ H => E cls d H) := takes_of rfl rfl rfl rfl
  have px := passes_call tk (fun _ _ _ _ h => h)
  have po := passes_of (X := (cxOf (L2.CX P w) P w K mg base ["boxes"] "check_boxes" (defScope (top 17)) (fa 5) cdv A outer s H E)) rfl
  exact (s_one (s_if (t_not (t_val (e_callC (IH 0 _ rfl) hr (by rfl) px (a_cons (e_var (pv 0)) (a_cons e_int (a_cons e_int a_nil)))))) (s_one (s_raiseE x.calm tk (ER 1 _ rfl) (by rfl))) s_nil))
theorem sc_check_both : FnScope ["words", "boxes"] ["words", "boxes"] (defScope (top 18)) := ⟨rfl, rfl, rfl, by decide +kernel, rfl, by decide +kernel, by decide +kernel⟩
theorem ok_check_both (M : BN mg) (hC_LETTERS : ∃ z t, mg "LETTERS" = some (.str z t) ∧ z.cps.toList = [97, 98, 99, 100]) (ER : ErrOk K mg ca) (IH : AllOk P w K mg base (ST K fa ca sa ns tab) (3 * k) (Mn.Phi PR N k)) {fd : FuncData} (F : Fun K "check_both" "check_both" (top 18) (fa 6) fd) :
    FnOk P w K mg base (L2.CX P w) (3 * k + 3) (fa 6) fd ["words", "boxes"] (spD (ST K fa ca sa ns tab) (Mn.Phi PR N (k + 1)) 2 6) := by
  refine Fun.okX (k := 3 * k + 2) F sc_check_both (fun vs H Q E h => h.1) fun cdv A outer s H vs Q E hr2 hsp => body_of (fn := f_check_both) rfl hsp rfl (by decide) fun e0 => ?_
  have hr := hr2.mono (Nat.le_add_right (3 * k) 2)
  have x : XOk (ST K fa ca sa ns tab) (cxOf (L2.CX P w) P w K mg base ["words", "boxes"] "check_both" (defScope (top 18)) (fa 6) cdv A outer s H E) := ⟨rfl, rfl, hr.units, sc_check_both.nd⟩
  have tk : Takes (cxOf (L2.CX P w) P w K mg base ["words", "boxes"] "check_both" (defScope (top 18)) (fa 6) cdv A outer s H E) (fun cls d _ H => E cls d H) := takes_of rfl rfl rfl rfl
  have px := passes_call tk (fun _ _ _ _ h => h)
  have po := passes_of (X := (cxOf (L2.CX P w) P w K mg base ["words", "boxes"] "check_both" (defScope (top 18)) (fa 6) cdv A outer s H E)) rfl
  exact (s_cons (s_expr (ps_expr (e_callC (IH 4 _ rfl) hr (by rfl) px (a_cons (e_var (pv 0)) a_nil))))
    (s_one (s_expr (ps_expr (e_callC (IH 5 _ rfl) hr (by rfl) px (a_cons (e_var (pv 1)) a_nil))))))
theorem sc_is_stamp : FnScope ["words", "boxes", "value"] ["words", "boxes", "value"] (defScope (top 19)) := ⟨rfl, rfl, rfl, by decide +kernel, rfl, by decide +kernel, by decide +kernel⟩
theorem ok_is_stamp (M : BN mg) (hC_LETTERS : ∃ z t, mg "LETTERS" = some (.str z t) ∧ z.cps.toList = [97, 98, 99, 100]) (ER : ErrOk K mg ca) (IH : AllOk P w K mg base (ST K fa ca sa ns tab) (3 * k) (Mn.Phi PR N k)) {fd : FuncData} (F : Fun K "is_stamp" "is_stamp" (top 19) (fa 7) fd) :
    FnOk P w K mg base (L2.CX P w) (3 * k + 3) (fa 7) fd ["words", "boxes", "value"] (spD (ST K fa ca sa ns tab) (Mn.Phi PR N (k + 1)) 3 7) := by
  refine Fun.okX (k := 3 * k + 2) F sc_is_stamp (fun vs H Q E h => h.1) fun cdv A outer s H vs Q E hr2 hsp => body_of (fn := f_is_stamp) rfl hsp rfl (by decide) fun e0 => ?_
  have hr := hr2.mono (Nat.le_add_right (3 * k) 2)
  have x : XOk (ST K fa ca sa ns tab) (cxOf (L2.CX P w) P w K mg base ["words", "boxes", "value"] "is_stamp" (defScope (top 19)) (fa 7) cdv A outer s H E) := ⟨rfl, rfl, hr.units, sc_is_stamp.nd⟩
  have tk : Takes (cxOf (L2.CX P w) P w K mg base ["words", "boxes", "value"] "is_stamp" (defScope (top 19)) (fa 7) cdv A outer s H E) (fun cls d _ H => E cls d H) := takes_of rfl rfl rfl rfl
  have px := passes_call tk (fun _ _ _ _ h => h)
  have po := passes_of (X := (cxOf (L2.CX P w) P w K mg base ["words", "boxes", "value"] "is_stamp" (defScope (top 19)) (fa 7) cdv A outer s H E)) rfl
  exact (s_cons (s_if (t_or (t_orC (t_not (t_val (e_isi x.K (by rfl) (M.isinstance) (by decide +kernel) (e_var (pv 2)) (by rfl) (M.tuple) (by decide +kernel)))) (t_orC (t_ne x (e_len x (by rfl) (M.len) (e_var (pv 2))) e_int) (t_or1 (t_not (t_val (e_callC (IH 0 _ rfl) hr (by rfl) px (a_cons (e_ix x (e_var (pv 2)) e_int (fun _ _ => rfl)) (a_cons e_int (a_cons (e_sub x (e_len x (by rfl) (M.len) (e_var (pv 0))) e_int) a_nil)))))))))) (s_one (s_ret (ps_ret e_bl))) s_nil)
    (s_one (s_ret (ps_ret (e_callC (IH 0 _ rfl) hr (by rfl) px (a_cons (e_ix x (e_var (pv 2)) e_int (fun _ _ => rfl)) (a_cons e_int (a_cons (e_sub x (e_var (pv 1)) (e_len x (by rfl) (M.len) (e_ix x (e_var (pv 0)) (e_ix x (e_var (pv 2)) e_int (fun _ _ => rfl)) (fun _ _ => rfl)))) a_nil))))))))
theorem sc_are_stamps_on : FnScope ["words", "boxes", "value", "one"] ["words", "boxes", "value"] (defScope (top 20)) := ⟨rfl, rfl, rfl, by decide +kernel, rfl, by decide +kernel, by decide +kernel⟩
theorem ok_are_stamps_on (M : BN mg) (hC_LETTERS : ∃ z t, mg "LETTERS" = some (.str z t) ∧ z.cps.toList = [97, 98, 99, 100]) (ER : ErrOk K mg ca) (IH : AllOk P w K mg base (ST K fa ca sa ns tab) (3 * k) (Mn.Phi PR N k)) {fd : FuncData} (F : Fun K "are_stamps_on" "are_stamps_on" (top 20) (fa 8) fd) :
    FnOk P w K mg base (L2.CX P w) (3 * k + 3) (fa 8) fd ["words", "boxes", "value"] (spD (ST K fa ca sa ns tab) (Mn.Phi PR N (k + 1)) 3 8) := by
  refine Fun.okX (k := 3 * k + 2) F sc_are_stamps_on (fun vs H Q E h => h.1) fun cdv A outer s H vs Q E hr2 hsp => body_of (fn := f_are_stamps_on) rfl hsp rfl (by decide) fun e0 => ?_
  have hr := hr2.mono (Nat.le_add_right (3 * k) 2)
  have x : XOk (ST K fa ca sa ns tab) (cxOf (L2.CX P w) P w K mg base ["words", "boxes", "value", "one"] "are_stamps_on" (defScope (top 20)) (fa 8) cdv A outer s H E) := ⟨rfl, rfl, hr.units, sc_are_stamps_on.nd⟩
  have tk : Takes (cxOf (L2.CX P w) P w K mg base ["words", "boxes", "value", "one"] "are_stamps_on" (defScope (top 20)) (fa 8) cdv A outer s H E) (fun cls d _ H => E cls d H) := takes_of rfl rfl rfl rfl
  have px := passes_call tk (fun _ _ _ _ h => h)
  have po := passes_of (X := (cxOf (L2.CX P w) P w K mg base ["words", "boxes", "value", "one"] "are_stamps_on" (defScope (top 20)) (fa 8) cdv A outer s H E)) rfl
  exact (s_cons (s_if (t_or (t_orC (t_not (t_val (e_isi x.K (by rfl) (M.isinstance) (by decide +kernel) (e_var (pv 2)) (by rfl) (M.tuple) (by decide +kernel)))) (t_or1 (t_gt (e_len x (by rfl) (M.len) (e_var (pv 2))) e_int)))) (s_one (s_ret (ps_ret e_bl))) s_nil)
    (s_one (s_ret (ps_ret (e_all x (by rfl) (M.all) (e_lc (pe_lc (own := [("one", 3)]) (g := tgR K [3] true) rfl x.nd (i_seq (e_var (pv 2)) x.K) (blkOk_by (N := ["words", "boxes", "value", "one"]) (sc := defScope (top 20)) (own := [("one", 3)]) (by decide +kernel)) (fun _ _ _ _ _ => (pg_name (i := 3) x.nd rfl (by first | exact Or.inl rfl | exact Or.inr rfl))) (fun _ _ _ _ _ => inT x fun x px => c_nil) (fun _ _ _ _ _ => inE x fun x px => (e_callC (IH 7 _ rfl) hr (by rfl) px (a_cons (e_var (pv 0)) (a_cons (e_var (pv 1)) (a_cons (e_var (pv 3)) a_nil))))))))))))
theorem sc_are_stamps : FnScope ["words", "boxes", "value"] ["words", "boxes", "value"] (defScope (top 21)) := ⟨rfl, rfl, rfl, by decide +kernel, rfl, by decide +kernel, by decide +kernel⟩
theorem ok_are_stamps (M : BN mg) (hC_LETTERS : ∃ z t, mg "LETTERS" = some (.str z t) ∧ z.cps.toList = [97, 98, 99, 100]) (ER : ErrOk K mg ca) (IH : AllOk P w K mg base (ST K fa ca sa ns tab) (3 * k) (Mn.Phi PR N k)) {fd : FuncData} (F : Fun K "are_stamps" "are_stamps" (top 21) (fa 9) fd) :
    FnOk P w K mg base (L2.CX P w) (3 * k + 3) (fa 9) fd ["words", "boxes", "value"] (spD (ST K fa ca sa ns tab) (Mn.Phi PR N (k + 1)) 3 9) := by
  refine Fun.okX (k := 3 * k + 2) F sc_are_stamps (fun vs H Q E h => h.1) fun cdv A outer s H vs Q E hr2 hsp => body_of (fn := f_are_stamps) rfl hsp rfl (by decide) fun e0 => ?_
  have hr := hr2.mono (Nat.le_add_right (3 * k) 2)
  have x : XOk (ST K fa ca sa ns tab) (cxOf (L2.CX P w) P w K mg base ["words", "boxes", "value"] "are_stamps" (defScope (top 21)) (fa 9) cdv A outer s H E) := ⟨rfl, rfl, hr.units, sc_are_stamps.nd⟩
  have tk : Takes (cxOf (L2.CX P w) P w K mg base ["words", "boxes", "value"] "are_stamps" (defScope (top 21)) (fa 9) cdv A outer s H E) (fun cls d _ H => E cls d H) := takes_of rfl rfl rfl rfl
  have px := passes_call tk (fun _ _ _ _ h => h)
  have po := passes_of (X := (cxOf (L2.CX P w) P w K mg base ["words", "boxes", "value"] "are_stamps" (defScope (top 21)) (fa 9) cdv A outer s H E)) rfl
  exact (s_cons (s_expr (ps_expr (e_callC (IH 6 _ rfl) hr (by rfl) px (a_cons (e_var (pv 0)) (a_cons (e_var (pv 1)) a_nil)))))
    (s_one (s_ret (ps_ret (e_callC (IH 8 _ rfl) hr (by rfl) px (a_cons (e_var (pv 0)) (a_cons (e_var (pv 1)) (a_cons (e_var (pv 2)) a_nil))))))))
theorem sc_check_stamps : FnScope ["words", "boxes", "stamps"] ["words", "boxes", "stamps"] (defScope (top 22)) := ⟨rfl, rfl, rfl, by decide +kernel, rfl, by decide +kernel, by decide +kernel⟩
theorem ok_check_stamps (M : BN mg) (hC_LETTERS : ∃ z t, mg "LETTERS" = some (.str z t) ∧ z.cps.toList = [97, 98, 99, 100]) (ER : ErrOk K mg ca) (IH : AllOk P w K mg base (ST K fa ca sa ns tab) (3 * k) (Mn.Phi PR N k)) {fd : FuncData} (F : Fun K "check_stamps" "check_stamps" (top 22) (fa 10) fd) :
    FnOk P w K mg base (L2.CX P w) (3 * k + 3) (fa 10) fd ["words", "boxes", "stamps"] (spD (ST K fa ca sa ns tab) (Mn.Phi PR N (k + 1)) 3 10) := by
  refine Fun.okX (k := 3 * k + 2) F sc_check_stamps (fun vs H Q E h => h.1) fun cdv A outer s H vs Q E hr2 hsp => body_of (fn := f_check_stamps) rfl hsp rfl (by decide) fun e0 => ?_
  have hr := hr2.mono (Nat.le_add_right (3 * k) 2)
  have x : XOk (ST K fa ca sa ns tab) (cxOf (L2.CX P w) P w K mg base ["words", "boxes", "stamps"] "check_stamps" (defScope (top 22)) (fa 10) cdv A outer s H E) := ⟨rfl, rfl, hr.units, sc_check_stamps.nd⟩
  have tk : Takes (cxOf (L2.CX P w) P w K mg base ["words", "boxes", "stamps"] "check_stamps" (defScope (top 22)) (fa 10) cdv A outer s H E) (fun cls d _ H => E cls d H) := takes_of rfl rfl rfl rfl
  have px := passes_call tk (fun _ _ _ _ h => h)
  have po := passes_of (X := (cxOf (L2.CX P w) P w K mg base ["words", "boxes", "stamps"] "check_stamps" (defScope (top 22)) (fa 10) cdv A outer s H E)) rfl
  exact (s_cons (s_expr (ps_expr (e_callC (IH 6 _ rfl) hr (by rfl) px (a_cons (e_var (pv 0)) (a_cons (e_var (pv 1)) a_nil)))))
    (s_one (s_if (t_not (t_val (e_callC (IH 8 _ rfl) hr (by rfl) px (a_cons (e_var (pv 0)) (a_cons (e_var (pv 1)) (a_cons (e_var (pv 2)) a_nil)))))) (s_one (s_raiseE x.calm tk (ER 2 _ rfl) (by rfl))) s_nil)))
theorem sc_seen : FnScope ["words", "boxes", "stamps"] ["words", "boxes", "stamps"] (defScope (top 25)) := ⟨rfl, rfl, rfl, by decide +kernel, rfl, by decide +kernel, by decide +kernel⟩
theorem ok_seen (M : BN mg) (hC_LETTERS : ∃ z t, mg "LETTERS" = some (.str z t) ∧ z.cps.toList = [97, 98, 99, 100]) (ER : ErrOk K mg ca) (IH : AllOk P w K mg base (ST K fa ca sa ns tab) (3 * k) (Mn.Phi PR N k)) {fd : FuncData} (F : Fun K "seen" "seen" (top 25) (fa 13) fd) :
    FnOk P w K mg base (L2.CX P w) (3 * k + 3) (fa 13) fd ["words", "boxes", "stamps"] (spD (ST K fa ca sa ns tab) (Mn.Phi PR N (k + 1)) 3 13) := by
  refine Fun.okX (k := 3 * k + 2) F sc_seen (fun vs H Q E h => h.1) fun cdv A outer s H vs Q E hr2 hsp => body_of (fn := f_seen) rfl hsp rfl (by decide) fun e0 => ?_
  have hr := hr2.mono (Nat.le_add_right (3 * k) 2)
  have x : XOk (ST K fa ca sa ns tab) (cxOf (L2.CX P w) P w K mg base ["words", "boxes", "stamps"] "seen" (defScope (top 25)) (fa 13) cdv A outer s H E) := ⟨rfl, rfl, hr.units, sc_seen.nd⟩
  have tk : Takes (cxOf (L2.CX P w) P w K mg base ["words", "boxes", "stamps"] "seen" (defScope (top 25)) (fa 13) cdv A outer s H E) (fun cls d _ H => E cls d H) := takes_of rfl rfl rfl rfl
  have px := passes_call tk (fun _ _ _ _ h => h)
  have po := passes_of (X := (cxOf (L2.CX P w) P w K mg base ["words", "boxes", "stamps"] "seen" (defScope (top 25)) (fa 13) cdv A outer s H E)) rfl
  exact (s_cons (s_expr (ps_expr (e_callC (IH 10 _ rfl) hr (by rfl) px (a_cons (e_var (pv 0)) (a_cons (e_var (pv 1)) (a_cons (e_var (pv 2)) a_nil))))))
    s_stuck)
theorem sc_last_stamps : FnScope ["words", "boxes", "stamps", "found", "number", "stamp", "box", "letter"] ["words", "boxes", "stamps"] (defScope (top 26)) := ⟨rfl, rfl, rfl, by decide +kernel, rfl, by decide +kernel, by decide +kernel⟩
theorem ok_last_stamps (M : BN mg) (hC_LETTERS : ∃ z t, mg "LETTERS" = some (.str z t) ∧ z.cps.toList = [97, 98, 99, 100]) (ER : ErrOk K mg ca) (IH : AllOk P w K mg base (ST K fa ca sa ns tab) (3 * k) (Mn.Phi PR N k)) {fd : FuncData} (F : Fun K "last_stamps" "last_stamps" (top 26) (fa 14) fd) :
    FnOk P w K mg base (L2.CX P w) (3 * k + 3) (fa 14) fd ["words", "boxes", "stamps"] (spD (ST K fa ca sa ns tab) (Mn.Phi PR N (k + 1)) 3 14) := by
  refine Fun.okX (k := 3 * k + 2) F sc_last_stamps (fun vs H Q E h => h.1) fun cdv A outer s H vs Q E hr2 hsp => body_of (fn := f_last_stamps) rfl hsp rfl (by decide) fun e0 => ?_
  have hr := hr2.mono (Nat.le_add_right (3 * k) 2)
  have x : XOk (ST K fa ca sa ns tab) (cxOf (L2.CX P w) P w K mg base ["words", "boxes", "stamps", "found", "number", "stamp", "box", "letter"] "last_stamps" (defScope (top 26)) (fa 14) cdv A outer s H E) := ⟨rfl, rfl, hr.units, sc_last_stamps.nd⟩
  have tk : Takes (cxOf (L2.CX P w) P w K mg base ["words", "boxes", "stamps", "found", "number", "stamp", "box", "letter"] "last_stamps" (defScope (top 26)) (fa 14) cdv A outer s H E) (fun cls d _ H => E cls d H) := takes_of rfl rfl rfl rfl
  have px := passes_call tk (fun _ _ _ _ h => h)
  have po := passes_of (X := (cxOf (L2.CX P w) P w K mg base ["words", "boxes", "stamps", "found", "number", "stamp", "box", "letter"] "last_stamps" (defScope (top 26)) (fa 14) cdv A outer s H E)) rfl
  exact (s_cons (s_expr (ps_expr (e_callC (IH 10 _ rfl) hr (by rfl) px (a_cons (e_var (pv 0)) (a_cons (e_var (pv 1)) (a_cons (e_var (pv 2)) a_nil))))))
    s_stuck)
theorem sc__law_is : FnScope ["_law_found", "_law_expected"] ["_law_found", "_law_expected"] (defScope (top 29)) := ⟨rfl, rfl, rfl, by decide +kernel, rfl, by decide +kernel, by decide +kernel⟩
theorem ok__law_is (M : BN mg) (hC_LETTERS : ∃ z t, mg "LETTERS" = some (.str z t) ∧ z.cps.toList = [97, 98, 99, 100]) (ER : ErrOk K mg ca) (IH : AllOk P w K mg base (ST K fa ca sa ns tab) (3 * k) (Mn.Phi PR N k)) {fd : FuncData} (F : Fun K "_law_is" "_law_is" (top 29) (fa 15) fd) :
    FnOk P w K mg base (L2.CX P w) (3 * k + 3) (fa 15) fd ["_law_found", "_law_expected"] (spD (ST K fa ca sa ns tab) (Mn.Phi PR N (k + 1)) 2 15) := by
  refine Fun.okX (k := 3 * k + 2) F sc__law_is (fun vs H Q E h => h.1) fun cdv A outer s H vs Q E hr2 hsp => body_of (fn := f__law_is) rfl hsp rfl (by decide) fun e0 => ?_
  have hr := hr2.mono (Nat.le_add_right (3 * k) 2)
  have x : XOk (ST K fa ca sa ns tab) (cxOf (L2.CX P w) P w K mg base ["_law_found", "_law_expected"] "_law_is" (defScope (top 29)) (fa 15) cdv A outer s H E) := ⟨rfl, rfl, hr.units, sc__law_is.nd⟩
  have tk : Takes (cxOf (L2.CX P w) P w K mg base ["_law_found", "_law_expected"] "_law_is" (defScope (top 29)) (fa 15) cdv A outer s H E) (fun cls d _ H => E cls d H) := takes_of rfl rfl rfl rfl
  have px := passes_call tk (fun _ _ _ _ h => h)
  have po := passes_of (X := (cxOf (L2.CX P w) P w K mg base ["_law_found", "_law_expected"] "_law_is" (defScope (top 29)) (fa 15) cdv A outer s H E)) rfl
  exact (s_one (s_ret (ps_ret (e_and (and_cons (e_isi x.K (by rfl) (M.isinstance) (by decide +kernel) (e_var (pv 0)) (by rfl) (M.bool) (by decide +kernel)) (and_one (e_eq x (e_var (pv 0)) (e_var (pv 1)))))))))
theorem sc__law_word : FnScope ["_law_script", "_law_town", "_law_most", "_law_letters", "_law_k"] ["_law_script", "_law_town", "_law_most", "_law_letters"] (defScope (top 32)) := ⟨rfl, rfl, rfl, by decide +kernel, rfl, by decide +kernel, by decide +kernel⟩
theorem ok__law_word (M : BN mg) (hC_LETTERS : ∃ z t, mg "LETTERS" = some (.str z t) ∧ z.cps.toList = [97, 98, 99, 100]) (ER : ErrOk K mg ca) (IH : AllOk P w K mg base (ST K fa ca sa ns tab) (3 * k) (Mn.Phi PR N k)) {fd : FuncData} (F : Fun K "_law_word" "_law_word" (top 32) (fa 18) fd) :
    FnOk P w K mg base (L2.CX P w) (3 * k + 3) (fa 18) fd ["_law_script", "_law_town", "_law_most", "_law_letters"] (spD (ST K fa ca sa ns tab) (Mn.Phi PR N (k + 1)) 4 18) := by
  refine Fun.okX (k := 3 * k + 2) F sc__law_word (fun vs H Q E h => h.1) fun cdv A outer s H vs Q E hr2 hsp => body_of (fn := f__law_word) rfl hsp rfl (by decide) fun e0 => ?_
  have hr := hr2.mono (Nat.le_add_right (3 * k) 2)
  have x : XOk (ST K fa ca sa ns tab) (cxOf (L2.CX P w) P w K mg base ["_law_script", "_law_town", "_law_most", "_law_letters", "_law_k"] "_law_word" (defScope (top 32)) (fa 18) cdv A outer s H E) := ⟨rfl, rfl, hr.units, sc__law_word.nd⟩
  have tk : Takes (cxOf (L2.CX P w) P w K mg base ["_law_script", "_law_town", "_law_most", "_law_letters", "_law_k"] "_law_word" (defScope (top 32)) (fa 18) cdv A outer s H E) (fun cls d _ H => E cls d H) := takes_of rfl rfl rfl rfl
  have px := passes_call tk (fun _ _ _ _ h => h)
  have po := passes_of (X := (cxOf (L2.CX P w) P w K mg base ["_law_script", "_law_town", "_law_most", "_law_letters", "_law_k"] "_law_word" (defScope (top 32)) (fa 18) cdv A outer s H E)) rfl
  exact (s_one (s_ret (ps_ret (e_join x.K (e_str (by rfl) (by decide)) (e_lc (pe_lc (own := [("_law_k", 4)]) (g := tgR K [4] true) rfl x.nd (i_range1 (by rfl) (M.range) (e_add x e_int (e_callC (IH 16 _ rfl) hr (by rfl) px (a_cons (e_var (pv 0)) (a_cons (e_var (pv 1)) (a_cons (e_var (pv 2)) a_nil)))))) (blkOk_by (N := ["_law_script", "_law_town", "_law_most", "_law_letters", "_law_k"]) (sc := defScope (top 32)) (own := [("_law_k", 4)]) (by decide +kernel)) (fun _ _ _ _ _ => (pg_name (i := 4) x.nd rfl (by first | exact Or.inl rfl | exact Or.inr rfl))) (fun _ _ _ _ _ => inT x fun x px => c_nil) (fun _ _ _ _ _ => inE x fun x px => (e_ix x (e_var (pv 3)) (e_callC (IH 16 _ rfl) hr (by rfl) px (a_cons (e_var (pv 0)) (a_cons (e_var (pv 1)) (a_cons (e_len x (by rfl) (M.len) (e_var (pv 3))) a_nil)))) (fun _ _ => rfl)))))))))
theorem sc__law_words : FnScope ["_law_script", "_law_town", "_law_most", "_law_letters", "_law_found", "_law_k"] ["_law_script", "_law_town", "_law_most", "_law_letters"] (defScope (top 33)) := ⟨rfl, rfl, rfl, by decide +kernel, rfl, by decide +kernel, by decide +kernel⟩
theorem ok__law_words (M : BN mg) (hC_LETTERS : ∃ z t, mg "LETTERS" = some (.str z t) ∧ z.cps.toList = [97, 98, 99, 100]) (ER : ErrOk K mg ca) (IH : AllOk P w K mg base (ST K fa ca sa ns tab) (3 * k) (Mn.Phi PR N k)) {fd : FuncData} (F : Fun K "_law_words" "_law_words" (top 33) (fa 19) fd) :
    FnOk P w K mg base (L2.CX P w) (3 * k + 3) (fa 19) fd ["_law_script", "_law_town", "_law_most", "_law_letters"] (spD (ST K fa ca sa ns tab) (Mn.Phi PR N (k + 1)) 4 19) := by
  refine Fun.okX (k := 3 * k + 2) F sc__law_words (fun vs H Q E h => h.1) fun cdv A outer s H vs Q E hr2 hsp => body_of (fn := f__law_words) rfl hsp rfl (by decide) fun e0 => ?_
  have hr := hr2.mono (Nat.le_add_right (3 * k) 2)
  have x : XOk (ST K fa ca sa ns tab) (cxOf (L2.CX P w) P w K mg base ["_law_script", "_law_town", "_law_most", "_law_letters", "_law_found", "_law_k"] "_law_words" (defScope (top 33)) (fa 19) cdv A outer s H E) := ⟨rfl, rfl, hr.units, sc__law_words.nd⟩
  have tk : Takes (cxOf (L2.CX P w) P w K mg base ["_law_script", "_law_town", "_law_most", "_law_letters", "_law_found", "_law_k"] "_law_words" (defScope (top 33)) (fa 19) cdv A outer s H E) (fun cls d _ H => E cls d H) := takes_of rfl rfl rfl rfl
  have px := passes_call tk (fun _ _ _ _ h => h)
  have po := passes_of (X := (cxOf (L2.CX P w) P w K mg base ["_law_script", "_law_town", "_law_most", "_law_letters", "_law_found", "_law_k"] "_law_words" (defScope (top 33)) (fa 19) cdv A outer s H E)) rfl
  exact (s_cons (s_asgN (n_lc (ps_setLc (i := 4) (own := [("_law_k", 5)]) (g := tgR K [5] true) rfl x.nd rfl rfl (sw_true rfl rfl rfl (by decide +kernel)) (i_range1 (by rfl) (M.range) (e_add x e_int (e_callC (IH 16 _ rfl) hr (by rfl) px (a_cons (e_var (pv 0)) (a_cons (e_var (pv 1)) (a_cons (e_var (pv 2)) a_nil)))))) (blkOk_by (N := ["_law_script", "_law_town", "_law_most", "_law_letters", "_law_found", "_law_k"]) (sc := defScope (top 33)) (own := [("_law_k", 5)]) (by decide +kernel)) (fun _ _ _ _ _ => (pg_name (i := 5) x.nd rfl (by first | exact Or.inl rfl | exact Or.inr rfl))) (fun _ _ _ _ _ => inT x fun x px => c_nil) (fun _ _ _ _ _ => inE x fun x px => (e_callC (IH 18 _ rfl) hr (by rfl) px (a_cons (e_var (pv 0)) (a_cons (e_var (pv 1)) (a_cons e_int (a_cons (e_var (pv 3)) a_nil)))))))))
    (s_cons (s_if (t_eq x (e_callC (IH 16 _ rfl) hr (by rfl) px (a_cons (e_var (pv 0)) (a_cons (e_var (pv 1)) (a_cons e_int a_nil)))) e_int) (s_one (s_app x.K (ps_expr (pe_bm PySem.F.plainAttrs_list PySem.F.slot_list_append PySem.F.type_list_append mt_append (pv 4) (pa_cons (e_callC (IH 18 _ rfl) hr (by rfl) px (a_cons (e_var (pv 0)) (a_cons (e_var (pv 1)) (a_cons e_int (a_cons (e_var (pv 3)) a_nil))))) pa_nil))))) s_nil)
    (s_one (s_ret (ps_ret (e_tuple x (by rfl) (M.tuple) (e_sl x (e_sortset x (by rfl) (M.sorted) (by rfl) (M.set) (e_var (pv 4))) p_none (p_some e_int))))))))
theorem sc__law_stamps : FnScope ["_law_script", "_law_town", "_law_words_of", "_law_many", "_law_most", "_law_found", "_law_k", "_law_number", "_law_spare"] ["_law_script", "_law_town", "_law_words_of", "_law_many", "_law_most"] (defScope (top 34)) := ⟨rfl, rfl, rfl, by decide +kernel, rfl, by decide +kernel, by decide +kernel⟩
theorem ok__law_stamps (M : BN mg) (hC_LETTERS : ∃ z t, mg "LETTERS" = some (.str z t) ∧ z.cps.toList = [97, 98, 99, 100]) (ER : ErrOk K mg ca) (IH : AllOk P w K mg base (ST K fa ca sa ns tab) (3 * k) (Mn.Phi PR N k)) {fd : FuncData} (F : Fun K "_law_stamps" "_law_stamps" (top 34) (fa 20) fd) :
    FnOk P w K mg base (L2.CX P w) (3 * k + 3) (fa 20) fd ["_law_script", "_law_town", "_law_words_of", "_law_many", "_law_most"] (spD (ST K fa ca sa ns tab) (Mn.Phi PR N (k + 1)) 5 20) := by
  refine Fun.okX (k := 3 * k + 2) F sc__law_stamps (fun vs H Q E h => h.1) fun cdv A outer s H vs Q E hr2 hsp => body_of (fn := f__law_stamps) rfl hsp rfl (by decide) fun e0 => ?_
  have hr := hr2.mono (Nat.le_add_right (3 * k) 2)
  have x : XOk (ST K fa ca sa ns tab) (cxOf (L2.CX P w) P w K mg base ["_law_script", "_law_town", "_law_words_of", "_law_many", "_law_most", "_law_found", "_law_k", "_law_number", "_law_spare"] "_law_stamps" (defScope (top 34)) (fa 20) cdv A outer s H E) := ⟨rfl, rfl, hr.units, sc__law_stamps.nd⟩
  have tk : Takes (cxOf (L2.CX P w) P w K mg base ["_law_script", "_law_town", "_law_words_of", "_law_many", "_law_most", "_law_found", "_law_k", "_law_number", "_law_spare"] "_law_stamps" (defScope (top 34)) (fa 20) cdv A outer s H E) (fun cls d _ H => E cls d H) := takes_of rfl rfl rfl rfl
  have px := passes_call tk (fun _ _ _ _ h => h)
  have po := passes_of (X := (cxOf (L2.CX P w) P w K mg base ["_law_script", "_law_town", "_law_words_of", "_law_many", "_law_most", "_law_found", "_law_k", "_law_number", "_law_spare"] "_law_stamps" (defScope (top 34)) (fa 20) cdv A outer s H E)) rfl
  exact (s_cons (s_asg (ps_set (i := 5) x.nd rfl (by first | exact Or.inl rfl | exact Or.inr rfl) (e_tup a_nil)))
    (s_cons (s_for (ps_for po x.calm (i_range1 (by rfl) (M.range) (e_callC (IH 16 _ rfl) hr (by rfl) px (a_cons (e_var (pv 0)) (a_cons (e_var (pv 1)) (a_cons (e_add x (e_var (pv 4)) e_int) a_nil))))) (pg_name (i := 6) x.nd rfl (by first | exact Or.inl rfl | exact Or.inr rfl)) (s_cons (s_asg (ps_set (i := 7) x.nd rfl (by first | exact Or.inl rfl | exact Or.inr rfl) (e_callC (IH 16 _ rfl) hr (by rfl) px (a_cons (e_var (pv 0)) (a_cons (e_var (pv 1)) (a_cons (e_len x (by rfl) (M.len) (e_var (pv 2))) a_nil))))))
    (s_cons (s_asg (ps_set (i := 8) x.nd rfl (by first | exact Or.inl rfl | exact Or.inr rfl) (e_sub x (e_var (pv 3)) (e_len x (by rfl) (M.len) (e_ix x (e_var (pv 2)) (e_var (pv 7)) (fun _ _ => rfl))))))
    (s_one (s_if (t_ge (e_var (pv 8)) e_int) (s_one (s_asg (ps_set (i := 5) x.nd rfl (by first | exact Or.inl rfl | exact Or.inr rfl) (e_add x (e_var (pv 5)) (e_tup (a_cons (e_tup (a_cons (e_var (pv 7)) (a_cons (e_callC (IH 16 _ rfl) hr (by rfl) px (a_cons (e_var (pv 0)) (a_cons (e_var (pv 1)) (a_cons (e_add x (e_var (pv 8)) e_int) a_nil)))) a_nil))) a_nil)))))) s_nil))))))
    (s_one (s_ret (ps_ret (e_var (pv 5)))))))
theorem sc__law_odd : FnScope ["_law_odds", "_law_odd_here", "_law_answers"] [] (defScope (top 35)) := ⟨rfl, rfl, rfl, by decide +kernel, rfl, by decide +kernel, by decide +kernel⟩
theorem ok__law_odd (M : BN mg) (hC_LETTERS : ∃ z t, mg "LETTERS" = some (.str z t) ∧ z.cps.toList = [97, 98, 99, 100]) (RE : ResE K mg ca cs) (RHH : RH K mg g (top 28)) (ER : ErrOk K mg ca) (LM : LamOk K mg base tab (fa 21) "_law_odd") (IH : AllOk P w K mg base (ST K fa ca sa ns tab) (3 * k) (Mn.Phi PR N k)) {fd : FuncData} (F : Fun K "_law_odd" "_law_odd" (top 35) (fa 21) fd) :
    FnOk P w K mg base (L2.CX P w) (3 * k + 3) (fa 21) fd [] (spD (ST K fa ca sa ns tab) (Mn.Phi PR N (k + 1)) 0 21) := by
  obtain ⟨RHm, fdR, RHF, RHb⟩ := RHH
  refine okL (k := 3 * k + 2) F sc__law_odd LM (fun vs H Q E h => h.1) fun c Pt A outer s H vs Q E TB hmT hu hr2 hsp => body_of (fn := f__law_odd) rfl hsp rfl (by decide) fun e0 => ?_
  have hr := hr2.mono (Nat.le_add_right (3 * k) 2)
  have x : XOk (ST K fa ca sa ns tab) (cxOf (L2.CX P w) P w K mg base ["_law_odds", "_law_odd_here", "_law_answers"] "_law_odd" (defScope (top 35)) (fa 21) (.ref c) A outer s H E) := ⟨rfl, rfl, hr.units, sc__law_odd.nd⟩
  have tk : Takes (cxOf (L2.CX P w) P w K mg base ["_law_odds", "_law_odd_here", "_law_answers"] "_law_odd" (defScope (top 35)) (fa 21) (.ref c) A outer s H E) (fun cls d _ H => E cls d H) := takes_of rfl rfl rfl rfl
  have px := passes_call tk (fun _ _ _ _ h => h)
  have po := passes_of (X := (cxOf (L2.CX P w) P w K mg base ["_law_odds", "_law_odd_here", "_law_answers"] "_law_odd" (defScope (top 35)) (fa 21) (.ref c) A outer s H E)) rfl
  exact (s_cons (s_asg (ps_set (i := 0) x.nd rfl (by first | exact Or.inl rfl | exact Or.inr rfl) (e_lst (a_cons (e_tup a_nil) (a_cons (e_tup (a_cons (e_str (by rfl) (by decide)) (a_cons (e_str (by rfl) (by decide)) a_nil))) (a_cons (e_tup (a_cons (e_str (by rfl) (by decide)) (a_cons (e_str (by rfl) (by decide)) a_nil))) (a_cons (e_tup (a_cons (e_str (by rfl) (by decide)) (a_cons (e_str (by rfl) (by decide)) (a_cons (e_str (by rfl) (by decide)) (a_cons (e_str (by rfl) (by decide)) (a_cons (e_str (by rfl) (by decide)) a_nil)))))) (a_cons (e_tup (a_cons (e_str (by rfl) (by decide)) a_nil)) (a_cons (e_tup (a_cons (e_str (by rfl) (by decide)) a_nil)) (a_cons (e_tup (a_cons (e_str (by rfl) (by decide)) a_nil)) a_nil))))))))))
    (s_cons (s_asg (ps_set (i := 0) x.nd rfl (by first | exact Or.inl rfl | exact Or.inr rfl) (e_add x (e_var (pv 0)) (e_lst (a_cons (e_tup (a_cons (e_str (by rfl) (by decide)) a_nil)) (a_cons (e_tup (a_cons (e_str (by rfl) (by decide)) a_nil)) (a_cons (e_tup (a_cons (e_str (by rfl) (by decide)) (a_cons e_int a_nil))) (a_cons (e_lst (a_cons (e_str (by rfl) (by decide)) a_nil)) a_nil))))))))
    (s_cons (s_for (ps_for po x.calm (i_seq (e_add x (e_var (pv 0)) (e_lst (a_cons (e_tup (a_cons (e_str (by rfl) (by decide)) (a_cons e_non a_nil))) (a_cons (e_tup (a_cons (e_tup (a_cons (e_str (by rfl) (by decide)) a_nil)) a_nil)) (a_cons e_non (a_cons (e_str (by rfl) (by decide)) (a_cons e_int (a_cons (e_tup (a_cons e_bl a_nil)) a_nil)))))))) x.K) (pg_name (i := 1) x.nd rfl (by first | exact Or.inl rfl | exact Or.inr rfl)) (s_cons (s_if (t_not (t_val (e_callC (IH 15 _ rfl) hr (by rfl) px (a_cons (e_callC (IH 2 _ rfl) hr (by rfl) px (a_cons (e_var (pv 1)) a_nil)) (a_cons e_bl a_nil))))) (s_one (s_ret (ps_ret e_bl))) s_nil)
    (s_cons (s_asgN (ps_set (i := 2) x.nd rfl (by first | exact Or.inl rfl | exact Or.inr rfl) (n_lst (a_cons (e_res x hr2 (by rfl) RHm RHF RHb sc__law_result (Or.inl rfl) (fun cdg q hu => gives RE hu) TB rfl hmT hu (LamX.lamS_by (sc := defScope (top 35)) (by decide +kernel)) (by rfl) (fun _ _ _ _ _ => rfl) (fun A outer s H E f cc hr x px => (e_callC (IH 13 _ rfl) hr (by rfl) px (a_cons (e_var (pv 1)) (a_cons e_non (a_cons e_non a_nil)))))) a_nil))))
    (s_cons (s_app x.K (ps_expr (pe_bm PySem.F.plainAttrs_list PySem.F.slot_list_append PySem.F.type_list_append mt_append (pv 2) (pa_cons (e_res x hr2 (by rfl) RHm RHF RHb sc__law_result (Or.inl rfl) (fun cdg q hu => gives RE hu) TB rfl hmT hu (LamX.lamS_by (sc := defScope (top 35)) (by decide +kernel)) (by rfl) (fun _ _ _ _ _ => rfl) (fun A outer s H E f cc hr x px => (e_callC (IH 14 _ rfl) hr (by rfl) px (a_cons (e_var (pv 1)) (a_cons e_int (a_cons (e_tup a_nil) a_nil)))))) pa_nil))))
    (s_one (s_if (t_ne x (e_add x (e_var (pv 2)) (e_lst (a_cons (e_res x hr2 (by rfl) RHm RHF RHb sc__law_result (Or.inl rfl) (fun cdg q hu => gives RE hu) TB rfl hmT hu (LamX.lamS_by (sc := defScope (top 35)) (by decide +kernel)) (by rfl) (fun _ _ _ _ _ => rfl) (fun A outer s H E f cc hr x px => (e_callC (IH 9 _ rfl) hr (by rfl) px (a_cons (e_var (pv 1)) (a_cons e_int (a_cons (e_tup a_nil) a_nil)))))) a_nil))) (e_mul x (e_lst (a_cons (e_tup (a_cons (e_str (by rfl) (by decide)) a_nil)) a_nil)) e_int)) (s_one (s_ret (ps_ret e_bl))) s_nil)))))))
    (s_cons (s_for (ps_for po x.calm (i_seq (e_tup (a_cons (e_str (by rfl) (by decide)) (a_cons (e_str (by rfl) (by decide)) (a_cons (e_str (by rfl) (by decide)) (a_cons (e_str (by rfl) (by decide)) (a_cons (e_str (by rfl) (by decide)) (a_cons e_non (a_cons (e_tup (a_cons (e_str (by rfl) (by decide)) a_nil)) (a_cons e_int (a_cons (e_lst (a_cons (e_str (by rfl) (by decide)) (a_cons (e_str (by rfl) (by decide)) a_nil))) a_nil)))))))))) x.K) (pg_name (i := 1) x.nd rfl (by first | exact Or.inl rfl | exact Or.inr rfl)) (s_one (s_if (t_not (t_val (e_callC (IH 15 _ rfl) hr (by rfl) px (a_cons (e_callC (IH 3 _ rfl) hr (by rfl) px (a_cons (e_var (pv 1)) a_nil)) (a_cons e_bl a_nil))))) (s_one (s_ret (ps_ret e_bl))) s_nil))))
    (s_cons (s_for (ps_for po x.calm (i_seq (e_tup (a_cons e_non (a_cons e_int (a_cons e_int (a_cons e_bl (a_cons (e_str (by rfl) (by decide)) (a_cons (e_neg e_int) a_nil))))))) x.K) (pg_name (i := 1) x.nd rfl (by first | exact Or.inl rfl | exact Or.inr rfl)) (s_cons (s_asgN (ps_set (i := 2) x.nd rfl (by first | exact Or.inl rfl | exact Or.inr rfl) (n_lst (a_cons (e_res x hr2 (by rfl) RHm RHF RHb sc__law_result (Or.inl rfl) (fun cdg q hu => gives RE hu) TB rfl hmT hu (LamX.lamS_by (sc := defScope (top 35)) (by decide +kernel)) (by rfl) (fun _ _ _ _ _ => rfl) (fun A outer s H E f cc hr x px => (e_callC (IH 13 _ rfl) hr (by rfl) px (a_cons (e_tup (a_cons (e_str (by rfl) (by decide)) a_nil)) (a_cons (e_var (pv 1)) (a_cons e_non a_nil)))))) a_nil))))
    (s_cons (s_app x.K (ps_expr (pe_bm PySem.F.plainAttrs_list PySem.F.slot_list_append PySem.F.type_list_append mt_append (pv 2) (pa_cons (e_res x hr2 (by rfl) RHm RHF RHb sc__law_result (Or.inl rfl) (fun cdg q hu => gives RE hu) TB rfl hmT hu (LamX.lamS_by (sc := defScope (top 35)) (by decide +kernel)) (by rfl) (fun _ _ _ _ _ => rfl) (fun A outer s H E f cc hr x px => (e_callC (IH 9 _ rfl) hr (by rfl) px (a_cons (e_tup (a_cons (e_str (by rfl) (by decide)) a_nil)) (a_cons (e_var (pv 1)) (a_cons (e_tup a_nil) a_nil)))))) pa_nil))))
    (s_one (s_if (t_ne x (e_var (pv 2)) (e_mul x (e_lst (a_cons (e_tup (a_cons (e_str (by rfl) (by decide)) a_nil)) a_nil)) e_int)) (s_one (s_ret (ps_ret e_bl))) s_nil))))))
    (s_one (s_ret (ps_ret (e_and (and_cons (e_callC (IH 15 _ rfl) hr (by rfl) px (a_cons (e_callC (IH 2 _ rfl) hr (by rfl) px (a_cons (e_tup (a_cons (e_str (by rfl) (by decide)) (a_cons (e_str (by rfl) (by decide)) (a_cons (e_str (by rfl) (by decide)) (a_cons (e_str (by rfl) (by decide)) a_nil))))) a_nil)) (a_cons e_bl a_nil))) (and_one (e_callC (IH 15 _ rfl) hr (by rfl) px (a_cons (e_callC (IH 3 _ rfl) hr (by rfl) px (a_cons (e_str (by rfl) (by decide)) a_nil)) (a_cons e_bl a_nil))))))))))))))
theorem sc_law : FnScope ["_law_script", "_law_town", "_law_k", "_law_words_here", "_law_boxes_here", "_law_row", "_law_stamps_here", "_law_number", "_law_place", "_law_odds", "_law_odd_here"] ["_law_script"] (defScope (top 36)) := ⟨rfl, rfl, rfl, by decide +kernel, rfl, by decide +kernel, by decide +kernel⟩
theorem ok_law (M : BN mg) (hC_LETTERS : ∃ z t, mg "LETTERS" = some (.str z t) ∧ z.cps.toList = [97, 98, 99, 100]) (ER : ErrOk K mg ca) (IH : AllOk P w K mg base (ST K fa ca sa ns tab) (3 * k) (Mn.Phi PR N k)) {fd : FuncData} (F : Fun K "law" "law" (top 36) (fa 22) fd) :
    FnOk P w K mg base (L2.CX P w) (3 * k + 3) (fa 22) fd ["_law_script"] (spD (ST K fa ca sa ns tab) (Mn.Phi PR N (k + 1)) 1 22) := by
  refine Fun.okX (k := 3 * k + 2) F sc_law (fun vs H Q E h => h.1) fun cdv A outer s H vs Q E hr2 hsp => body_of (fn := f_law) rfl hsp rfl (by decide) fun e0 => ?_
  have hr := hr2.mono (Nat.le_add_right (3 * k) 2)
  have x : XOk (ST K fa ca sa ns tab) (cxOf (L2.CX P w) P w K mg base ["_law_script", "_law_town", "_law_k", "_law_words_here", "_law_boxes_here", "_law_row", "_law_stamps_here", "_law_number", "_law_place", "_law_odds", "_law_odd_here"] "law" (defScope (top 36)) (fa 22) cdv A outer s H E) := ⟨rfl, rfl, hr.units, sc_law.nd⟩
  have tk : Takes (cxOf (L2.CX P w) P w K mg base ["_law_script", "_law_town", "_law_k", "_law_words_here", "_law_boxes_here", "_law_row", "_law_stamps_here", "_law_number", "_law_place", "_law_odds", "_law_odd_here"] "law" (defScope (top 36)) (fa 22) cdv A outer s H E) (fun cls d _ H => E cls d H) := takes_of rfl rfl rfl rfl
  have px := passes_call tk (fun _ _ _ _ h => h)
  have po := passes_of (X := (cxOf (L2.CX P w) P w K mg base ["_law_script", "_law_town", "_law_k", "_law_words_here", "_law_boxes_here", "_law_row", "_law_stamps_here", "_law_number", "_law_place", "_law_odds", "_law_odd_here"] "law" (defScope (top 36)) (fa 22) cdv A outer s H E)) rfl
  exact (s_cons (s_asg (ps_set (i := 1) x.nd rfl (by first | exact Or.inl rfl | exact Or.inr rfl) (e_callC0 (IH 17 _ rfl) hr (by rfl) px)))
    (s_cons (s_for (ps_for po x.calm (i_range1 (by rfl) (M.range) e_int) (pg_name (i := 2) x.nd rfl (by first | exact Or.inl rfl | exact Or.inr rfl)) (s_cons (s_par (ps_par x.calm x.nd (i := 3) (j := 4) rfl rfl (by decide) rfl rfl (a_cons (e_callC (IH 19 _ rfl) hr (by rfl) px (a_cons (e_var (pv 0)) (a_cons (e_var (pv 1)) (a_cons e_int (a_cons (e_str (by rfl) (by decide)) a_nil))))) (a_cons (e_add x e_int (e_callC (IH 16 _ rfl) hr (by rfl) px (a_cons (e_var (pv 0)) (a_cons (e_var (pv 1)) (a_cons e_int a_nil))))) a_nil)) (by rfl)))
    (s_cons (s_if (t_or (t_orC (t_not (t_val (e_callC (IH 15 _ rfl) hr (by rfl) px (a_cons (e_callK0 (IH 2 _ rfl) kb_are_words_0 hr (by rfl) px (k_cons (e_var (pv 3)) k_nil)) (a_cons e_bl a_nil))))) (t_or1 (t_not (t_val (e_callC (IH 15 _ rfl) hr (by rfl) px (a_cons (e_callC (IH 2 _ rfl) hr (by rfl) px (a_cons (e_list x (by rfl) (M.list) (e_var (pv 3))) a_nil)) (a_cons e_bl a_nil)))))))) (s_one (s_ret (ps_ret e_bl))) s_nil)
    (s_cons (s_asg (ps_set (i := 5) x.nd rfl (by first | exact Or.inl rfl | exact Or.inr rfl) (e_callC (IH 18 _ rfl) hr (by rfl) px (a_cons (e_var (pv 0)) (a_cons (e_var (pv 1)) (a_cons e_int (a_cons (e_str (by rfl) (by decide)) a_nil)))))))
    (s_cons (s_if (t_or (t_orC (t_not (t_val (e_callC (IH 15 _ rfl) hr (by rfl) px (a_cons (e_callK0 (IH 3 _ rfl) kb_is_row_0 hr (by rfl) px (k_cons (e_var (pv 5)) k_nil)) (a_cons e_bl a_nil))))) (t_or1 (t_not (t_val (e_callC (IH 15 _ rfl) hr (by rfl) px (a_cons (e_callC (IH 3 _ rfl) hr (by rfl) px (a_cons (e_add x (e_var (pv 5)) (e_str (by rfl) (by decide))) a_nil)) (a_cons e_bl a_nil)))))))) (s_one (s_ret (ps_ret e_bl))) s_nil)
    (s_cons (s_asg (ps_set (i := 6) x.nd rfl (by first | exact Or.inl rfl | exact Or.inr rfl) (e_callC (IH 20 _ rfl) hr (by rfl) px (a_cons (e_var (pv 0)) (a_cons (e_var (pv 1)) (a_cons (e_var (pv 3)) (a_cons (e_var (pv 4)) (a_cons e_int a_nil))))))))
    (s_cons (s_if (t_not (t_val (e_callC (IH 15 _ rfl) hr (by rfl) px (a_cons (e_callK (mks := [(.var 6)]) (IH 9 _ rfl) kb_are_stamps_2 hr (by rfl) px (a_cons (e_var (pv 3)) (a_cons (e_var (pv 4)) a_nil)) (k_cons (e_var (pv 6)) k_nil)) (a_cons e_bl a_nil))))) (s_one (s_ret (ps_ret e_bl))) s_nil)
    (s_cons (s_asg (ps_set (i := 7) x.nd rfl (by first | exact Or.inl rfl | exact Or.inr rfl) (e_callC (IH 16 _ rfl) hr (by rfl) px (a_cons (e_var (pv 0)) (a_cons (e_var (pv 1)) (a_cons (e_len x (by rfl) (M.len) (e_var (pv 3))) a_nil))))))
    (s_cons (s_asg (ps_set (i := 8) x.nd rfl (by first | exact Or.inl rfl | exact Or.inr rfl) (e_sub x (e_var (pv 4)) (e_len x (by rfl) (M.len) (e_ix x (e_var (pv 3)) (e_var (pv 7)) (fun _ _ => rfl))))))
    (s_cons (s_if (t_not (t_val (e_callC (IH 15 _ rfl) hr (by rfl) px (a_cons (e_callC (IH 9 _ rfl) hr (by rfl) px (a_cons (e_var (pv 3)) (a_cons (e_var (pv 4)) (a_cons (e_tup (a_cons (e_tup (a_cons (e_var (pv 7)) (a_cons (e_var (pv 8)) a_nil))) a_nil)) a_nil)))) (a_cons (e_ge (e_var (pv 8)) e_int) a_nil))))) (s_one (s_ret (ps_ret e_bl))) s_nil)
    (s_cons (s_asg (ps_set (i := 9) x.nd rfl (by first | exact Or.inl rfl | exact Or.inr rfl) (e_lst (a_cons (e_tup (a_cons (e_var (pv 7)) (a_cons (e_add x (e_var (pv 8)) e_int) a_nil))) (a_cons (e_tup (a_cons (e_var (pv 7)) (a_cons (e_neg e_int) a_nil))) (a_cons (e_tup (a_cons (e_len x (by rfl) (M.len) (e_var (pv 3))) (a_cons e_int a_nil))) (a_cons (e_tup (a_cons (e_neg e_int) (a_cons e_int a_nil))) (a_cons (e_tup (a_cons (e_var (pv 7)) a_nil)) a_nil))))))))
    (s_cons (s_for (ps_for po x.calm (i_seq (e_add x (e_var (pv 9)) (e_lst (a_cons (e_lst (a_cons e_int (a_cons e_int a_nil))) (a_cons (e_tup (a_cons e_bl (a_cons e_int a_nil))) (a_cons e_non a_nil))))) x.K) (pg_name (i := 10) x.nd rfl (by first | exact Or.inl rfl | exact Or.inr rfl)) (s_one (s_if (t_not (t_val (e_callC (IH 15 _ rfl) hr (by rfl) px (a_cons (e_callC (IH 9 _ rfl) hr (by rfl) px (a_cons (e_var (pv 3)) (a_cons (e_var (pv 4)) (a_cons (e_tup (a_cons (e_var (pv 10)) a_nil)) a_nil)))) (a_cons e_bl a_nil))))) (s_one (s_ret (ps_ret e_bl))) s_nil))))
    (s_one (s_for (ps_for po x.calm (i_seq (e_tup (a_cons e_non (a_cons (e_list x (by rfl) (M.list) (e_var (pv 6))) (a_cons (e_str (by rfl) (by decide)) (a_cons e_int (a_cons (e_ite (t_ge (e_var (pv 8)) e_int) (e_mul x (e_tup (a_cons (e_tup (a_cons e_int (a_cons (e_var (pv 8)) a_nil))) a_nil)) e_int) e_int) a_nil)))))) x.K) (pg_name (i := 10) x.nd rfl (by first | exact Or.inl rfl | exact Or.inr rfl)) (s_one (s_if (t_not (t_val (e_callC (IH 15 _ rfl) hr (by rfl) px (a_cons (e_callC (IH 9 _ rfl) hr (by rfl) px (a_cons (e_var (pv 3)) (a_cons (e_var (pv 4)) (a_cons (e_var (pv 10)) a_nil)))) (a_cons e_bl a_nil))))) (s_one (s_ret (ps_ret e_bl))) s_nil))))))))))))))))))
    (s_one (s_ret (ps_ret (e_callC0 (IH 21 _ rfl) hr (by rfl) px))))))
structure Fcts (K : PySem.W.Frag) (mg : Str → Option Value) (base : Heap) (fa ca : Nat → Addr) (cs g : Addr) (ns : List Int) (tab : List (Addr × Str)) : Prop where
  M : BN mg
  hC_LETTERS : ∃ z t, mg "LETTERS" = some (.str z t) ∧ z.cps.toList = [97, 98, 99, 100]
  ER : ErrOk K mg ca
  hns : ns.length ≤ 1000
  len : mg "len" = none
  RE : ResE K mg ca cs
  RHH : RH K mg g (top 28)
  LM__law_odd : LamOk K mg base tab (fa 21) "_law_odd"
  D : ∀ (i : Nat) (d : Nat × Str × List Str × Stmt), DEFS[i]? = some d → mg d.2.1 = some (.ref (fa d.1)) ∧ ∃ fd, Fun K d.2.1 d.2.1 d.2.2.2 (fa d.1) fd
theorem bd_is_between {fd : FuncData} (F : Fun K "is_between" "is_between" (top 12) (fa 0) fd) : Binds K fd ["value", "low", "high"] [] := F.binds (fun _ _ _ _ _ _ us hl => match us, hl with | [_, _, _], _ => rfl)
theorem bd_is_string_of {fd : FuncData} (F : Fun K "is_string_of" "is_string_of" (top 13) (fa 1) fd) : Binds K fd ["value", "most"] [] := F.binds (fun _ _ _ _ _ _ us hl => match us, hl with | [_, _], _ => rfl)
theorem bd_are_words {fd : FuncData} (F : Fun K "are_words" "are_words" (top 14) (fa 2) fd) : Binds K fd ["value"] [] := F.binds (fun _ _ _ _ _ _ us hl => match us, hl with | [_], _ => rfl)
theorem bd_is_row {fd : FuncData} (F : Fun K "is_row" "is_row" (top 15) (fa 3) fd) : Binds K fd ["value"] [] := F.binds (fun _ _ _ _ _ _ us hl => match us, hl with | [_], _ => rfl)
theorem bd_check_words {fd : FuncData} (F : Fun K "check_words" "check_words" (top 16) (fa 4) fd) : Binds K fd ["words"] [] := F.binds (fun _ _ _ _ _ _ us hl => match us, hl with | [_], _ => rfl)
theorem bd_check_boxes {fd : FuncData} (F : Fun K "check_boxes" "check_boxes" (top 17) (fa 5) fd) : Binds K fd ["boxes"] [] := F.binds (fun _ _ _ _ _ _ us hl => match us, hl with | [_], _ => rfl)
theorem bd_check_both {fd : FuncData} (F : Fun K "check_both" "check_both" (top 18) (fa 6) fd) : Binds K fd ["words", "boxes"] [] := F.binds (fun _ _ _ _ _ _ us hl => match us, hl with | [_, _], _ => rfl)
theorem bd_is_stamp {fd : FuncData} (F : Fun K "is_stamp" "is_stamp" (top 19) (fa 7) fd) : Binds K fd ["words", "boxes", "value"] [] := F.binds (fun _ _ _ _ _ _ us hl => match us, hl with | [_, _, _], _ => rfl)
theorem bd_are_stamps_on {fd : FuncData} (F : Fun K "are_stamps_on" "are_stamps_on" (top 20) (fa 8) fd) : Binds K fd ["words", "boxes", "value"] [] := F.binds (fun _ _ _ _ _ _ us hl => match us, hl with | [_, _, _], _ => rfl)
theorem bd_are_stamps {fd : FuncData} (F : Fun K "are_stamps" "are_stamps" (top 21) (fa 9) fd) : Binds K fd ["words", "boxes", "value"] [] := F.binds (fun _ _ _ _ _ _ us hl => match us, hl with | [_, _, _], _ => rfl)
theorem bd_check_stamps {fd : FuncData} (F : Fun K "check_stamps" "check_stamps" (top 22) (fa 10) fd) : Binds K fd ["words", "boxes", "stamps"] [] := F.binds (fun _ _ _ _ _ _ us hl => match us, hl with | [_, _, _], _ => rfl)
theorem bd_boxes_of {fd : FuncData} (F : Fun K "boxes_of" "boxes_of" (top 23) (fa 11) fd) : Binds K fd ["words", "stamp"] [] := F.binds (fun _ _ _ _ _ _ us hl => match us, hl with | [_, _], _ => rfl)
theorem bd_seen_after {fd : FuncData} (F : Fun K "seen_after" "seen_after" (top 24) (fa 12) fd) : Binds K fd ["words", "boxes", "stamps"] [] := F.binds (fun _ _ _ _ _ _ us hl => match us, hl with | [_, _, _], _ => rfl)
theorem bd_seen {fd : FuncData} (F : Fun K "seen" "seen" (top 25) (fa 13) fd) : Binds K fd ["words", "boxes", "stamps"] [] := F.binds (fun _ _ _ _ _ _ us hl => match us, hl with | [_, _, _], _ => rfl)
theorem bd_last_stamps {fd : FuncData} (F : Fun K "last_stamps" "last_stamps" (top 26) (fa 14) fd) : Binds K fd ["words", "boxes", "stamps"] [] := F.binds (fun _ _ _ _ _ _ us hl => match us, hl with | [_, _, _], _ => rfl)
theorem bd__law_is {fd : FuncData} (F : Fun K "_law_is" "_law_is" (top 29) (fa 15) fd) : Binds K fd ["_law_found", "_law_expected"] [] := F.binds (fun _ _ _ _ _ _ us hl => match us, hl with | [_, _], _ => rfl)
theorem bd__law_draw {fd : FuncData} (F : Fun K "_law_draw" "_law_draw" (top 30) (fa 16) fd) : Binds K fd ["_law_script", "_law_town", "_law_many"] [] := F.binds (fun _ _ _ _ _ _ us hl => match us, hl with | [_, _, _], _ => rfl)
theorem bd__law_begun {fd : FuncData} (F : Fun K "_law_begun" "_law_begun" (top 31) (fa 17) fd) : Binds K fd [] [] := F.binds (fun _ _ _ _ _ _ us hl => match us, hl with | [], _ => rfl)
theorem bd__law_word {fd : FuncData} (F : Fun K "_law_word" "_law_word" (top 32) (fa 18) fd) : Binds K fd ["_law_script", "_law_town", "_law_most", "_law_letters"] [] := F.binds (fun _ _ _ _ _ _ us hl => match us, hl with | [_, _, _, _], _ => rfl)
theorem bd__law_words {fd : FuncData} (F : Fun K "_law_words" "_law_words" (top 33) (fa 19) fd) : Binds K fd ["_law_script", "_law_town", "_law_most", "_law_letters"] [] := F.binds (fun _ _ _ _ _ _ us hl => match us, hl with | [_, _, _, _], _ => rfl)
theorem bd__law_stamps {fd : FuncData} (F : Fun K "_law_stamps" "_law_stamps" (top 34) (fa 20) fd) : Binds K fd ["_law_script", "_law_town", "_law_words_of", "_law_many", "_law_most"] [] := F.binds (fun _ _ _ _ _ _ us hl => match us, hl with | [_, _, _, _, _], _ => rfl)
theorem bd__law_odd {fd : FuncData} (F : Fun K "_law_odd" "_law_odd" (top 35) (fa 21) fd) : Binds K fd [] [] := F.binds (fun _ _ _ _ _ _ us hl => match us, hl with | [], _ => rfl)
theorem bd_law {fd : FuncData} (F : Fun K "law" "law" (top 36) (fa 22) fd) : Binds K fd ["_law_script"] [] := F.binds (fun _ _ _ _ _ _ us hl => match us, hl with | [_], _ => rfl)
theorem all_ok (C : Fcts K mg base fa ca cs g ns tab) : ∀ k, AllOk P w K mg base (ST K fa ca sa ns tab) (3 * k) (Mn.Phi PR N k)
  | 0 => fun i d h => by
    obtain ⟨h1, fd, F⟩ := C.D i d h
    have bad : ∀ ds w, Mn.Phi PR N 0 d.1 ds w = .bad := fun _ _ => rfl
    refine ⟨h1, fd, F, ?_, fn_bad bad rfl⟩
    unfold DEFS at h
    match i, h with
    | 0, h => cases h; exact bd_is_between F
    | 1, h => cases h; exact bd_is_string_of F
    | 2, h => cases h; exact bd_are_words F
    | 3, h => cases h; exact bd_is_row F
    | 4, h => cases h; exact bd_check_words F
    | 5, h => cases h; exact bd_check_boxes F
    | 6, h => cases h; exact bd_check_both F
    | 7, h => cases h; exact bd_is_stamp F
    | 8, h => cases h; exact bd_are_stamps_on F
    | 9, h => cases h; exact bd_are_stamps F
    | 10, h => cases h; exact bd_check_stamps F
    | 11, h => cases h; exact bd_boxes_of F
    | 12, h => cases h; exact bd_seen_after F
    | 13, h => cases h; exact bd_seen F
    | 14, h => cases h; exact bd_last_stamps F
    | 15, h => cases h; exact bd__law_is F
    | 16, h => cases h; exact bd__law_draw F
    | 17, h => cases h; exact bd__law_begun F
    | 18, h => cases h; exact bd__law_word F
    | 19, h => cases h; exact bd__law_words F
    | 20, h => cases h; exact bd__law_stamps F
    | 21, h => cases h; exact bd__law_odd F
    | 22, h => cases h; exact bd_law F
    | i + 23, h => simp at h
  | k + 1 => fun i d h => by
    have IH := all_ok C k
    obtain ⟨h1, fd, F⟩ := C.D i d h
    unfold DEFS at h
    match i, h with
    | 0, h => cases h; exact ⟨h1, fd, F, bd_is_between F, ok_is_between C.M C.hC_LETTERS C.ER IH F⟩
    | 1, h => cases h; exact ⟨h1, fd, F, bd_is_string_of F, ok_is_string_of C.M C.hC_LETTERS C.ER IH F⟩
    | 2, h => cases h; exact ⟨h1, fd, F, bd_are_words F, ok_are_words C.M C.hC_LETTERS C.ER IH F⟩
    | 3, h => cases h; exact ⟨h1, fd, F, bd_is_row F, ok_is_row C.M C.hC_LETTERS C.ER IH F⟩
    | 4, h => cases h; exact ⟨h1, fd, F, bd_check_words F, ok_check_words C.M C.hC_LETTERS C.ER IH F⟩
    | 5, h => cases h; exact ⟨h1, fd, F, bd_check_boxes F, ok_check_boxes C.M C.hC_LETTERS C.ER IH F⟩
    | 6, h => cases h; exact ⟨h1, fd, F, bd_check_both F, ok_check_both C.M C.hC_LETTERS C.ER IH F⟩
    | 7, h => cases h; exact ⟨h1, fd, F, bd_is_stamp F, ok_is_stamp C.M C.hC_LETTERS C.ER IH F⟩
    | 8, h => cases h; exact ⟨h1, fd, F, bd_are_stamps_on F, ok_are_stamps_on C.M C.hC_LETTERS C.ER IH F⟩
    | 9, h => cases h; exact ⟨h1, fd, F, bd_are_stamps F, ok_are_stamps C.M C.hC_LETTERS C.ER IH F⟩
    | 10, h => cases h; exact ⟨h1, fd, F, bd_check_stamps F, ok_check_stamps C.M C.hC_LETTERS C.ER IH F⟩
    | 11, h => cases h; exact ⟨h1, fd, F, bd_boxes_of F, fn_bad (fun _ _ => rfl) rfl⟩
    | 12, h => cases h; exact ⟨h1, fd, F, bd_seen_after F, fn_bad (fun _ _ => rfl) rfl⟩
    | 13, h => cases h; exact ⟨h1, fd, F, bd_seen F, ok_seen C.M C.hC_LETTERS C.ER IH F⟩
    | 14, h => cases h; exact ⟨h1, fd, F, bd_last_stamps F, ok_last_stamps C.M C.hC_LETTERS C.ER IH F⟩
    | 15, h => cases h; exact ⟨h1, fd, F, bd__law_is F, ok__law_is C.M C.hC_LETTERS C.ER IH F⟩
    | 16, h => cases h; exact ⟨h1, fd, F, bd__law_draw F, ok__law_draw C.len C.hns rfl F⟩
    | 17, h => cases h; exact ⟨h1, fd, F, bd__law_begun F, ok__law_begun rfl F⟩
    | 18, h => cases h; exact ⟨h1, fd, F, bd__law_word F, ok__law_word C.M C.hC_LETTERS C.ER IH F⟩
    | 19, h => cases h; exact ⟨h1, fd, F, bd__law_words F, ok__law_words C.M C.hC_LETTERS C.ER IH F⟩
    | 20, h => cases h; exact ⟨h1, fd, F, bd__law_stamps F, ok__law_stamps C.M C.hC_LETTERS C.ER IH F⟩
    | 21, h => cases h; exact ⟨h1, fd, F, bd__law_odd F, ok__law_odd C.M C.hC_LETTERS C.RE C.RHH C.ER C.LM__law_odd IH F⟩
    | 22, h => cases h; exact ⟨h1, fd, F, bd_law F, ok_law C.M C.hC_LETTERS C.ER IH F⟩
    | i + 23, h => simp at h
end
def NN : Nat := 2000
def LL : Nat := 14
def fnL : List He.DefD := [
  ⟨("is_between", none), "is_between", "is_between", defArgs (top 12), defBody (top 12), defScope (top 12), [], []⟩,
  ⟨("is_string_of", none), "is_string_of", "is_string_of", defArgs (top 13), defBody (top 13), defScope (top 13), [], []⟩,
  ⟨("are_words", none), "are_words", "are_words", defArgs (top 14), defBody (top 14), defScope (top 14), [], []⟩,
  ⟨("is_row", none), "is_row", "is_row", defArgs (top 15), defBody (top 15), defScope (top 15), [], []⟩,
  ⟨("check_words", none), "check_words", "check_words", defArgs (top 16), defBody (top 16), defScope (top 16), [], []⟩,
  ⟨("check_boxes", none), "check_boxes", "check_boxes", defArgs (top 17), defBody (top 17), defScope (top 17), [], []⟩,
  ⟨("check_both", none), "check_both", "check_both", defArgs (top 18), defBody (top 18), defScope (top 18), [], []⟩,
  ⟨("is_stamp", none), "is_stamp", "is_stamp", defArgs (top 19), defBody (top 19), defScope (top 19), [], []⟩,
  ⟨("are_stamps_on", none), "are_stamps_on", "are_stamps_on", defArgs (top 20), defBody (top 20), defScope (top 20), [], []⟩,
  ⟨("are_stamps", none), "are_stamps", "are_stamps", defArgs (top 21), defBody (top 21), defScope (top 21), [], []⟩,
  ⟨("check_stamps", none), "check_stamps", "check_stamps", defArgs (top 22), defBody (top 22), defScope (top 22), [], []⟩,
  ⟨("boxes_of", none), "boxes_of", "boxes_of", defArgs (top 23), defBody (top 23), defScope (top 23), [], []⟩,
  ⟨("seen_after", none), "seen_after", "seen_after", defArgs (top 24), defBody (top 24), defScope (top 24), [], []⟩,
  ⟨("seen", none), "seen", "seen", defArgs (top 25), defBody (top 25), defScope (top 25), [], []⟩,
  ⟨("last_stamps", none), "last_stamps", "last_stamps", defArgs (top 26), defBody (top 26), defScope (top 26), [], []⟩,
  ⟨("_law_result", none), "_law_result", "_law_result", defArgs (top 28), defBody (top 28), defScope (top 28), [], []⟩,
  ⟨("_law_is", none), "_law_is", "_law_is", defArgs (top 29), defBody (top 29), defScope (top 29), [], []⟩,
  ⟨("_law_draw", none), "_law_draw", "_law_draw", defArgs (top 30), defBody (top 30), defScope (top 30), [], []⟩,
  ⟨("_law_begun", none), "_law_begun", "_law_begun", defArgs (top 31), defBody (top 31), defScope (top 31), [], []⟩,
  ⟨("_law_word", none), "_law_word", "_law_word", defArgs (top 32), defBody (top 32), defScope (top 32), [], []⟩,
  ⟨("_law_words", none), "_law_words", "_law_words", defArgs (top 33), defBody (top 33), defScope (top 33), [], []⟩,
  ⟨("_law_stamps", none), "_law_stamps", "_law_stamps", defArgs (top 34), defBody (top 34), defScope (top 34), [], []⟩,
  ⟨("_law_odd", none), "_law_odd", "_law_odd", defArgs (top 35), defBody (top 35), defScope (top 35), [], []⟩,
  ⟨("law", none), "law", "law", defArgs (top 36), defBody (top 36), defScope (top 36), [], []⟩]
def faL : List He.Fa := [.glo "StampError", .glo "InvalidWords", .glo "InvalidBoxes", .glo "InvalidStamps", .glo "InvalidRow", .glo "InvalidLength", .glo "InvalidText", .glo "TooMany", .glo "NothingToUndo", .glo "is_between", .glo "is_string_of", .glo "are_words", .glo "is_row", .glo "check_words", .glo "check_boxes", .glo "check_both", .glo "is_stamp", .glo "are_stamps_on", .glo "are_stamps", .glo "check_stamps", .glo "boxes_of", .glo "seen_after", .glo "seen", .glo "last_stamps", .glo "_law_result", .glo "_law_is", .glo "_law_draw", .glo "_law_begun", .glo "_law_word", .glo "_law_words", .glo "_law_stamps", .glo "_law_odd", .glo "law", .free "ValueError", .free "all", .free "bool", .free "enumerate", .free "int", .free "isinstance", .free "len", .free "list", .free "range", .free "set", .free "sorted", .free "str", .free "tuple", .free "zip", .str "LETTERS" "abcd", .exc "StampError", .exc "InvalidWords", .exc "InvalidBoxes", .exc "InvalidStamps", .exc "InvalidRow", .exc "InvalidLength", .exc "InvalidText", .exc "TooMany", .exc "NothingToUndo"]
def tfL : List He.Defn := [("_law_odd", none)]
def exB (K : PySem.W.Frag) : Bool := errsB K && decide ((tfL.map fun p => (He.cT K p).2).Nodup)
abbrev RR : PySem.W.OpenRow := PySem.W.OpenLaw.row PySem.Challenge.rw_stampedrows_k01_not_words
abbrev hkX : PySem.W.Hook := He.hookX 4 faL fnL [] tfL exB
def obS (s : PySem.W.SharedT) : He.AlX := He.obsX 4 faL fnL [] tfL exB (HandSHeadRun.getT s)
theorem obS_eq (s : PySem.W.SharedT) : obS s = hkX.obs s.abs := He.obsX_eq (HandSHeadRun.getT_eq s)
def looseL : List Str := [("__name__" : Str), ("StampError" : Str), ("InvalidWords" : Str), ("InvalidBoxes" : Str), ("InvalidStamps" : Str), ("InvalidRow" : Str), ("InvalidLength" : Str), ("InvalidText" : Str), ("TooMany" : Str), ("NothingToUndo" : Str), ("LETTERS" : Str), ("is_between" : Str), ("is_string_of" : Str), ("are_words" : Str), ("is_row" : Str), ("check_words" : Str), ("check_boxes" : Str), ("check_both" : Str), ("is_stamp" : Str), ("are_stamps_on" : Str), ("are_stamps" : Str), ("check_stamps" : Str), ("boxes_of" : Str), ("seen_after" : Str), ("seen" : Str), ("last_stamps" : Str), ("_law_result" : Str), ("_law_is" : Str), ("_law_draw" : Str), ("_law_begun" : Str), ("_law_word" : Str), ("_law_words" : Str), ("_law_stamps" : Str), ("_law_odd" : Str)]
theorem runs_so (w : PySem.World) : HandSHeadRun.RunEq RR (PySem.W.view RR.prog [36]) hkX obS 4000 looseL w := by
  intro os
  kernel_rfl
section
open PySem.W PySem.Calls
theorem headed (call : WalkO (PySem.W.view RR.prog [36]) looseL (XL (PySem.W.view RR.prog [36]) []) hkX.says RR.toRowW (HandSHeadRun.topDef RR.prog 36) [] fun f vs => PySem.call f vs) : PySem.Challenge.rw_stampedrows_k01_not_words.Holds := by
  w_on; o_law
  refine HandSHeadRun.head_any (r := RR) (q := view RR.prog [36]) (H := hkX) (ob := obS) (M := 4000) (loose := looseL) (d := HandSHeadRun.topDef RR.prog 36) (kwd := []) obS_eq (by kernel_rfl) (fun s => by kernel_rfl) runs_so (by kernel_rfl) (by kernel_rfl) (by kernel_rfl)
    (by rfl) (by first | assumption | decide +kernel) (by decide +kernel) ⟨rfl, rfl, rfl, rfl, rfl, by decide +kernel⟩ ?hw ?hc
  case hw => w_witness2
  case hc => exact call
end
def dN : Nat → Str
  | 0 => "is_between"
  | 1 => "is_string_of"
  | 2 => "are_words"
  | 3 => "is_row"
  | 4 => "check_words"
  | 5 => "check_boxes"
  | 6 => "check_both"
  | 7 => "is_stamp"
  | 8 => "are_stamps_on"
  | 9 => "are_stamps"
  | 10 => "check_stamps"
  | 11 => "boxes_of"
  | 12 => "seen_after"
  | 13 => "seen"
  | 14 => "last_stamps"
  | 15 => "_law_is"
  | 16 => "_law_draw"
  | 17 => "_law_begun"
  | 18 => "_law_word"
  | 19 => "_law_words"
  | 20 => "_law_stamps"
  | 21 => "_law_odd"
  | 22 => "law"
  | _ => "law"
def faK (K : PySem.W.Frag) (n : Nat) : Addr := He.ga K (dN n)
def tabK (K : PySem.W.Frag) : List (Addr × Str) := tfL.map fun p => ((He.cT K p).2, p.1 ++ ".<locals>." ++ "<lambda>")
theorem fcts {K : PySem.W.Frag} {w : PySem.World} {h base : Heap} {mg : Str → Option Value} {ns : List Int} (C : He.SaysX faL fnL [] tfL exB w h K) (X : K.In base) (G : base.Ns mainGlobals mg) (TB : ∀ p ∈ tfL.map (He.cT K), LamX.TabB base mg p.1 p.2) (hns : ns.length ≤ 1000) :
    Fcts K mg base (faK K) (caK K) (He.ga K "StampError") (He.ga K "_law_result") ns (tabK K) := by
  have D := C.t.d
  obtain ⟨hE, hN⟩ := He.ba C.more
  have lam : ∀ i (p : He.Defn), tfL[i]? = some p → p.2 = none → LamOk K mg base (tabK K) (He.ga K p.1) p.1 := fun i p hp hn fd c oc od osl lk e => by
    have e1 : He.codeOf K p = c := He.codeOf_eq (by rw [show He.fAd K p = He.ga K p.1 from by obtain ⟨a, b⟩ := p; subst hn; rfl]; exact lk) e
    have hm : p ∈ tfL := List.mem_of_getElem? hp
    refine ⟨(He.cT K p).2, ?_, List.mem_map.mpr ⟨p, hm, rfl⟩, fun q hq e2 => ?_⟩
    · have := TB (He.cT K p) (List.mem_map.mpr ⟨p, hm, rfl⟩)
      rw [show (He.cT K p).1 = c from e1] at this
      exact this
    · obtain ⟨r, hr, rfl⟩ := List.mem_map.mp hq
      have nd := of_decide_eq_true hN
      rw [nodup_map_eq nd hr hm e2]
  exact
  { M := ⟨He.free_ok X G (D.fact 34), He.free_ok X G (D.fact 35), He.free_ok X G (D.fact 37), He.free_ok X G (D.fact 38), He.free_ok X G (D.fact 39), He.free_ok X G (D.fact 40), He.free_ok X G (D.fact 41), He.free_ok X G (D.fact 42), He.free_ok X G (D.fact 43), He.free_ok X G (D.fact 44), He.free_ok X G (D.fact 45), He.free_ok X G (D.fact 46)⟩
    hC_LETTERS := by obtain ⟨t, h⟩ := He.str_ok X G (D.fact 47); exact ⟨_, t, h, by rfl⟩
    ER := fun i d hd => by
      unfold ERRS at hd
      match i, hd with
      | 0, hd => cases hd; obtain ⟨q1, q2, q3, q4⟩ := He.exc_ok (D.fact 49); exact ⟨He.glo_ok X G (D.fact 1), q1, q2, q3, q4⟩
      | 1, hd => cases hd; obtain ⟨q1, q2, q3, q4⟩ := He.exc_ok (D.fact 50); exact ⟨He.glo_ok X G (D.fact 2), q1, q2, q3, q4⟩
      | 2, hd => cases hd; obtain ⟨q1, q2, q3, q4⟩ := He.exc_ok (D.fact 51); exact ⟨He.glo_ok X G (D.fact 3), q1, q2, q3, q4⟩
      | 3, hd => cases hd; obtain ⟨q1, q2, q3, q4⟩ := He.exc_ok (D.fact 52); exact ⟨He.glo_ok X G (D.fact 4), q1, q2, q3, q4⟩
      | 4, hd => cases hd; obtain ⟨q1, q2, q3, q4⟩ := He.exc_ok (D.fact 53); exact ⟨He.glo_ok X G (D.fact 5), q1, q2, q3, q4⟩
      | 5, hd => cases hd; obtain ⟨q1, q2, q3, q4⟩ := He.exc_ok (D.fact 54); exact ⟨He.glo_ok X G (D.fact 6), q1, q2, q3, q4⟩
      | 6, hd => cases hd; obtain ⟨q1, q2, q3, q4⟩ := He.exc_ok (D.fact 55); exact ⟨He.glo_ok X G (D.fact 7), q1, q2, q3, q4⟩
      | 7, hd => cases hd; obtain ⟨q1, q2, q3, q4⟩ := He.exc_ok (D.fact 56); exact ⟨He.glo_ok X G (D.fact 8), q1, q2, q3, q4⟩
      | i + 8, hd => simp at hd
    hns := hns
    len := He.free_ok X G (D.fact 39)
    RE := { gS := He.glo_ok X G (D.fact 0)
            g0 := He.glo_ok X G (D.fact 1)
            g1 := He.glo_ok X G (D.fact 2)
            g2 := He.glo_ok X G (D.fact 3)
            g3 := He.glo_ok X G (D.fact 4)
            g4 := He.glo_ok X G (D.fact 5)
            g5 := He.glo_ok X G (D.fact 6)
            g6 := He.glo_ok X G (D.fact 7)
            g7 := He.glo_ok X G (D.fact 8)
            isi := He.free_ok X G (D.fact 38), len := He.free_ok X G (D.fact 39), ve := He.free_ok X G (D.fact 33)
            c := fun c hc => (excB_ok (errsB_ok hE c hc).1).1, m := fun c hc => (errsB_ok hE c hc).2.1, v := fun c hc => (excB_ok (errsB_ok hE c hc).1).2, k := fun c hc => (errsB_ok hE c hc).2.2 }
    RHH := by obtain ⟨fd, F⟩ := D.def_ 15; have F2 : Fun K "_law_result" "_law_result" (top 28) (He.ga K "_law_result") fd := fun_of F; exact ⟨He.glo_ok X G (D.fact 24), fd, F2, F2.binds (fun _ _ _ _ _ _ us hl => match us, hl with | [_], _ => rfl)⟩
    LM__law_odd := lam 0 ("_law_odd", none) rfl rfl
    D := fun i d hd => by
      unfold DEFS at hd
      match i, hd with
      | 0, hd => cases hd; obtain ⟨fd, F⟩ := D.def_ 0; exact ⟨He.glo_ok X G (D.fact 9), fd, fun_of F⟩
      | 1, hd => cases hd; obtain ⟨fd, F⟩ := D.def_ 1; exact ⟨He.glo_ok X G (D.fact 10), fd, fun_of F⟩
      | 2, hd => cases hd; obtain ⟨fd, F⟩ := D.def_ 2; exact ⟨He.glo_ok X G (D.fact 11), fd, fun_of F⟩
      | 3, hd => cases hd; obtain ⟨fd, F⟩ := D.def_ 3; exact ⟨He.glo_ok X G (D.fact 12), fd, fun_of F⟩
      | 4, hd => cases hd; obtain ⟨fd, F⟩ := D.def_ 4; exact ⟨He.glo_ok X G (D.fact 13), fd, fun_of F⟩
      | 5, hd => cases hd; obtain ⟨fd, F⟩ := D.def_ 5; exact ⟨He.glo_ok X G (D.fact 14), fd, fun_of F⟩
      | 6, hd => cases hd; obtain ⟨fd, F⟩ := D.def_ 6; exact ⟨He.glo_ok X G (D.fact 15), fd, fun_of F⟩
      | 7, hd => cases hd; obtain ⟨fd, F⟩ := D.def_ 7; exact ⟨He.glo_ok X G (D.fact 16), fd, fun_of F⟩
      | 8, hd => cases hd; obtain ⟨fd, F⟩ := D.def_ 8; exact ⟨He.glo_ok X G (D.fact 17), fd, fun_of F⟩
      | 9, hd => cases hd; obtain ⟨fd, F⟩ := D.def_ 9; exact ⟨He.glo_ok X G (D.fact 18), fd, fun_of F⟩
      | 10, hd => cases hd; obtain ⟨fd, F⟩ := D.def_ 10; exact ⟨He.glo_ok X G (D.fact 19), fd, fun_of F⟩
      | 11, hd => cases hd; obtain ⟨fd, F⟩ := D.def_ 11; exact ⟨He.glo_ok X G (D.fact 20), fd, fun_of F⟩
      | 12, hd => cases hd; obtain ⟨fd, F⟩ := D.def_ 12; exact ⟨He.glo_ok X G (D.fact 21), fd, fun_of F⟩
      | 13, hd => cases hd; obtain ⟨fd, F⟩ := D.def_ 13; exact ⟨He.glo_ok X G (D.fact 22), fd, fun_of F⟩
      | 14, hd => cases hd; obtain ⟨fd, F⟩ := D.def_ 14; exact ⟨He.glo_ok X G (D.fact 23), fd, fun_of F⟩
      | 15, hd => cases hd; obtain ⟨fd, F⟩ := D.def_ 16; exact ⟨He.glo_ok X G (D.fact 25), fd, fun_of F⟩
      | 16, hd => cases hd; obtain ⟨fd, F⟩ := D.def_ 17; exact ⟨He.glo_ok X G (D.fact 26), fd, fun_of F⟩
      | 17, hd => cases hd; obtain ⟨fd, F⟩ := D.def_ 18; exact ⟨He.glo_ok X G (D.fact 27), fd, fun_of F⟩
      | 18, hd => cases hd; obtain ⟨fd, F⟩ := D.def_ 19; exact ⟨He.glo_ok X G (D.fact 28), fd, fun_of F⟩
      | 19, hd => cases hd; obtain ⟨fd, F⟩ := D.def_ 20; exact ⟨He.glo_ok X G (D.fact 29), fd, fun_of F⟩
      | 20, hd => cases hd; obtain ⟨fd, F⟩ := D.def_ 21; exact ⟨He.glo_ok X G (D.fact 30), fd, fun_of F⟩
      | 21, hd => cases hd; obtain ⟨fd, F⟩ := D.def_ 22; exact ⟨He.glo_ok X G (D.fact 31), fd, fun_of F⟩
      | 22, hd => cases hd; obtain ⟨fd, F⟩ := D.def_ 23; exact ⟨He.glo_ok X G (D.fact 32), fd, fun_of F⟩
      | i + 23, hd => simp at hd }
theorem done (pure : ∀ ns : List Int, ns.length ≤ 63 → ∃ w, Mn.Phi PR NN LL 22 [.scr] [.script ns] = .ok (.bl true) w) : PySem.Challenge.rw_stampedrows_k01_not_words.Holds := by
  refine headed (LamX.walk_ofTsE (n := 63) (k := 3 * LL) (CX := fun w => L2.CX RR.prog w) (x := "_law_script") rfl (by decide) rfl ⟨rfl, by decide, by decide⟩ (fun w mg fa h hY hG hm => ?_) fun w H s e s' z => ?_)
  · obtain ⟨K, KX, C⟩ := hY
    have D := C.t.d
    have hfa : fa = He.ga K "law" := by
      have h1 := He.glo_ok KX hG (D.fact 32)
      rw [show mg "law" = some (.ref fa) from hm] at h1
      injection h1 with h1; injection h1
    subst hfa
    obtain ⟨fd, F0⟩ := D.def_ 23
    have F : Fun K "law" "law" (top 36) (He.ga K "law") fd := fun_of F0
    refine ⟨K, KX, fd, tfL.map (He.cT K), fun vs H Q E => ∃ i : { p : Addr × List Int // p.2.length ≤ 63 }, spD (ST K (faK K) (caK K) i.1.1 i.1.2 (tabK K)) (Mn.Phi PR NN LL) 1 22 vs H Q E, ?_, ?_, ?_, ?_, ?_, ?_⟩
    · intro p hp; obtain ⟨q, hq, rfl⟩ := List.mem_map.mp hp; exact C.empty q hq
    · intro p hp; obtain ⟨q, hq, rfl⟩ := List.mem_map.mp hp; exact C.out q hq
    · intro p hp; obtain ⟨q, hq, rfl⟩ := List.mem_map.mp hp; exact PySem.W.codeHd_of_K KX (C.hd q hq)
    · intro s u
      obtain ⟨oc, od, kV, doc, pm, an, cdv, ct, osl, rfl, lk, hcd⟩ := F.ex
      exact BindsTo.of_eq rfl
    · intro H a ns hl _ ht hs
      refine ⟨⟨(a, ns), hl⟩, law_start (T := ST K (faK K) (caK K) a ns (tabK K)) (fun p hp => ?_) hs (pure ns hl)⟩
      obtain ⟨q, hq, rfl⟩ := List.mem_map.mp hp
      exact ht _ (List.mem_map.mpr ⟨q, hq, rfl⟩)
    · intro base KB GB TB
      refine FnOk.any (fun vs H Q E i q => q.1) fun i => ?_
      have all := all_ok (P := RR.prog) (w := w) (N := NN) (sa := i.1.1) (fcts (ns := i.1.2) C KB GB TB (Nat.le_trans i.2 (by decide))) LL
      obtain ⟨_, fd2, F2, _, ok⟩ := all 22 _ rfl
      have e : fd2 = fd := by
        obtain ⟨_, _, _, _, _, _, _, _, _, _, l1, _⟩ := F2.ex
        obtain ⟨_, _, _, _, _, _, _, _, _, _, l2, _⟩ := F.ex
        have z := (show K.lookup (He.ga K "law") = _ from l1).symm.trans l2
        simp at z; exact z.2.2.1
      subst e
      exact ok
  · obtain ⟨_, _, _, _, _, _, _, _, _, _, _, _, q⟩ := z; exact q
end Sn
end
section
set_option linter.all false
set_option maxRecDepth 100000
set_option maxHeartbeats 2000000
namespace Sp
open Sn
open Mn
/-! what k01's defs compute -/
def btw : D → Int → Int → Bool
  | .int v, lo, hi => decide (lo ≤ v) && decide (v ≤ hi)
  | _, _, _ => false
theorem p_between (k : Nat) (w : W) (d : D) (lo hi : Int) (h : isTyOk d = true) : Phi PR NN (k + 1) 0 [d, .int lo, .int hi] w = .ok (.bl (btw d lo hi)) w := by
  cases d <;> first
    | rfl
    | (simp [isTyOk] at h; done)
    | skip
  rename_i v
  simp only [Phi, PR, callF, f_is_between, runs, run, List.map, List.append, List.length]
  simp [ev, evs, evAnd, Env.at, thawAt, Res.toS, Res.bind, Res.of, blt, bIsi, isTyOk, isTy, truth, cmpop, leOp, SRes.andThen, isOwn, btw]
  by_cases h1 : lo ≤ v
  · by_cases h2 : v ≤ hi
    · simp [h1, h2, isOwn]
    · simp [h1, h2, isOwn]
  · simp [h1, isOwn]
/-- a world with a town at n -/
def Good (ns : List Int) (n : Nat) (w : W) : Prop := w[0]? = some (.script ns) ∧ ∃ c rs, w[n]? = some (.town c rs)
theorem Good.ne {ns : List Int} {n : Nat} {w : W} (h : Good ns n w) : n ≠ 0 := fun z => by
  obtain ⟨h1, c, rs, h2⟩ := h
  subst z
  rw [h1] at h2; cases h2
theorem p_draw {ns : List Int} {n : Nat} {w : W} (h : Good ns n w) (k : Nat) (many : Int) (h1 : 0 < many) (h2 : many ≤ 1000000) :
    ∃ r w', Phi PR NN (k + 1) 16 [.scr, .obj n, .int many] w = .ok (.int r) w' ∧ 0 ≤ r ∧ r < many ∧ Good ns n w' := by
  obtain ⟨e1, c, rs, e2⟩ := id h
  refine ⟨drawNum ns (c + 1) rs many, w.set n (.town (c + 1) (drawLeft ns (c + 1) rs many)), ?_, (drawNum_range ns (c + 1) rs h1).1, (drawNum_range ns (c + 1) rs h1).2, ?_, c + 1, drawLeft ns (c + 1) rs many, ?_⟩
  · show drawP [.scr, .obj n, .int many] w = _
    simp only [drawP, e1, e2, h1, h2, and_self, if_true]
  · rw [List.getElem?_set_ne h.ne]; exact e1
  · rw [List.getElem?_set_self (List.getElem?_eq_some_iff.mp e2).1]
theorem p_begun (k : Nat) (ns : List Int) : Phi PR NN (k + 1) 17 [] [.script ns] = .ok (.obj 1) [.script ns, .town 0 []] := rfl
theorem good_begun (ns : List Int) : Good ns 1 [.script ns, .town 0 []] := ⟨rfl, 0, [], rfl⟩
/-- one turn of a comprehension without a test, one name -/
def turnF (Φ : Nat → List D → W → Res D) (elt : E) (i : Nat) (ρ : Env) : D → W → Res (Option D) := fun x w => (ev Φ elt (Env.put (ρ.set i none) i x) w).bind fun d w => if isOwn d then .bad else .ok (some d) w
theorem ev_comp1 (Φ : Nat → List D → W → Res D) (elt : E) (i : Nat) (k : ItK) (its : List E) (ρ : Env) (w : W) :
    ev Φ (.comp elt [i] true k its []) ρ w = (evs Φ its ρ w).bind fun ds w => match itemsOf k ds with
      | none => .bad
      | some items => if LIM < items.length then .bad else (compGo (turnF Φ elt i ρ) items w).bind fun l w => .ok (.lst l) w := by
  simp only [ev]
  rfl
theorem compGo_good {f : D → W → Res (Option D)} {Pr : D → Prop} {ns : List Int} {n : Nat} : ∀ (items : List D) (w : W), Good ns n w → (∀ x ∈ items, ∀ w, Good ns n w → ∃ d w', f x w = .ok (some d) w' ∧ Pr d ∧ Good ns n w') →
    ∃ l w', compGo f items w = .ok l w' ∧ l.length = items.length ∧ (∀ d ∈ l, Pr d) ∧ Good ns n w'
  | [], w, g, _ => ⟨[], w, rfl, rfl, by simp, g⟩
  | x :: r, w, g, h => by
    obtain ⟨d, w1, e1, p1, g1⟩ := h x List.mem_cons_self w g
    obtain ⟨l, w2, e2, el, p2, g2⟩ := compGo_good r w1 g1 fun y hy => h y (List.mem_cons_of_mem _ hy)
    refine ⟨d :: l, w2, ?_, by simp [el], ?_, g2⟩
    · simp only [compGo, e1, Res.calm, Res.bind, e2]
    · intro y hy
      rcases List.mem_cons.mp hy with z | z
      · subst z; exact p1
      · exact p2 y z
theorem rangeD_length : ∀ (m : Nat) (a : Int), (rangeD a m).length = m
  | 0, _ => rfl
  | m + 1, a => by simp [rangeD, rangeD_length m]
theorem strsOf_map (l : List (List Nat)) : strsOf (l.map D.str) = some l := by
  induction l with
  | nil => rfl
  | cons x r ih => simp [strsOf, ih]
theorem all_strs {Q : List Nat → Prop} : ∀ {l : List D}, (∀ d ∈ l, ∃ s, d = .str s ∧ Q s) → ∃ ss : List (List Nat), l = ss.map D.str ∧ ∀ s ∈ ss, Q s
  | [], _ => ⟨[], rfl, by simp⟩
  | d :: l, h => by
    obtain ⟨s, rfl, q⟩ := h d List.mem_cons_self
    obtain ⟨ss, rfl, q2⟩ := all_strs fun x hx => h x (List.mem_cons_of_mem _ hx)
    refine ⟨s :: ss, rfl, fun x hx => ?_⟩
    rcases List.mem_cons.mp hx with z | z
    · subst z; exact q
    · exact q2 x z
theorem join0 : ∀ (ss : List (List Nat)), (∀ s ∈ ss, ∃ c, s = [c]) → (joinS [] ss).length = ss.length ∧ ∀ c ∈ joinS [] ss, [c] ∈ ss
  | [], _ => ⟨rfl, by simp [joinS]⟩
  | [x], h => by
    obtain ⟨c, rfl⟩ := h x (by simp)
    simp [joinS]
  | x :: y :: r, h => by
    obtain ⟨c, rfl⟩ := h x List.mem_cons_self
    obtain ⟨h1, h2⟩ := join0 (y :: r) fun s hs => h s (List.mem_cons_of_mem _ hs)
    refine ⟨by simp [joinS] at h1 ⊢; omega, fun d hd => ?_⟩
    simp only [joinS, List.append_nil, List.singleton_append, List.mem_cons] at hd
    rcases hd with z | z
    · subst z; simp
    · exact List.mem_cons_of_mem _ (h2 d z)
theorem sum_one : ∀ ss : List (List Nat), (∀ s ∈ ss, ∃ c, s = [c]) → (ss.map List.length).sum = ss.length
  | [], _ => rfl
  | x :: r, h => by
    obtain ⟨c, rfl⟩ := h x List.mem_cons_self
    have := sum_one r fun s hs => h s (List.mem_cons_of_mem _ hs)
    simp only [List.map_cons, List.sum_cons, List.length_cons, List.length_nil, this]
    omega
section
variable (Φ : Nat → List D → W → Res D) (ρ : Env) (w : W)
theorem v_var (i : Nat) : ev Φ (.var i) ρ w = .of (ρ.at i) w := by simp only [ev]
theorem v_cst (c : C) : ev Φ (.cst c) ρ w = .ok c.val w := by simp only [ev]
theorem v_tup (es : List E) : ev Φ (.tup es) ρ w = (evs Φ es ρ w).bind fun ds w => if ds.any isOwn then .bad else .ok (.tup ds) w := by simp only [ev]
theorem v_lst (es : List E) : ev Φ (.lst es) ρ w = (evs Φ es ρ w).bind fun ds w => if ds.any isOwn then .bad else .ok (.lst ds) w := by simp only [ev]
theorem v_bin (op : BOp) (a b : E) : ev Φ (.bin op a b) ρ w = (ev Φ a ρ w).bind fun x w => (ev Φ b ρ w).bind fun y w => .of (binop op x y) w := by simp only [ev]
theorem v_neg (a : E) : ev Φ (.neg a) ρ w = (ev Φ a ρ w).bind fun x w => match x with | .int i => .ok (.int (-i)) w | _ => .bad := by simp only [ev] <;> rfl
theorem v_not (a : E) : ev Φ (.not a) ρ w = (ev Φ a ρ w).bind fun x w => .of ((truth x).map fun b => .bl (!b)) w := by simp only [ev]
theorem v_eq (a b : E) : ev Φ (.cmp .eq a b) ρ w = (ev Φ a ρ w).bind fun x w => (ev Φ b ρ w).bind fun y w => .of ((cmpop .eq x y).map .bl) w := by simp only [ev]
theorem v_ne (a b : E) : ev Φ (.cmp .ne a b) ρ w = (ev Φ a ρ w).bind fun x w => (ev Φ b ρ w).bind fun y w => .of ((cmpop .ne x y).map .bl) w := by simp only [ev]
theorem v_lt (a b : E) : ev Φ (.cmp .lt a b) ρ w = (ev Φ a ρ w).bind fun x w => (ev Φ b ρ w).bind fun y w => .of ((cmpop .lt x y).map .bl) w := by simp only [ev]
theorem v_le (a b : E) : ev Φ (.cmp .le a b) ρ w = (ev Φ a ρ w).bind fun x w => (ev Φ b ρ w).bind fun y w => .of ((cmpop .le x y).map .bl) w := by simp only [ev]
theorem v_gt (a b : E) : ev Φ (.cmp .gt a b) ρ w = (ev Φ a ρ w).bind fun x w => (ev Φ b ρ w).bind fun y w => .of ((cmpop .gt x y).map .bl) w := by simp only [ev]
theorem v_ge (a b : E) : ev Φ (.cmp .ge a b) ρ w = (ev Φ a ρ w).bind fun x w => (ev Φ b ρ w).bind fun y w => .of ((cmpop .ge x y).map .bl) w := by simp only [ev]
theorem v_isin (a b : E) : ev Φ (.cmp .isin a b) ρ w = (ev Φ a ρ w).bind fun x w => (ev Φ b ρ w).bind fun y w => .of ((cmpop .isin x y).map .bl) w := by simp only [ev]
theorem v_notin (a b : E) : ev Φ (.cmp .notin a b) ρ w = (ev Φ a ρ w).bind fun x w => (ev Φ b ρ w).bind fun y w => .of ((cmpop .notin x y).map .bl) w := by simp only [ev]
theorem v_chain (o1 o2 : COp) (a b c : E) : ev Φ (.chain o1 o2 a b c) ρ w = (ev Φ a ρ w).bind fun x w => (ev Φ b ρ w).bind fun y w => match cmpop o1 x y with
    | some true => (ev Φ c ρ w).bind fun z w => .of ((cmpop o2 y z).map .bl) w
    | some false => .ok (.bl false) w
    | none => .bad := by simp only [ev] <;> rfl
theorem v_and1 (e : E) : ev Φ (.and [e]) ρ w = ev Φ e ρ w := by simp only [ev, evAnd]
theorem v_and2 (e f : E) (r : List E) : ev Φ (.and (e :: f :: r)) ρ w = (ev Φ e ρ w).bind fun x w => match truth x with
    | some true => ev Φ (.and (f :: r)) ρ w
    | some false => .ok (.bl false) w
    | none => .bad := by simp only [ev, evAnd] <;> rfl
theorem v_or1 (e : E) : ev Φ (.or [e]) ρ w = ev Φ e ρ w := by simp only [ev, evOr]
theorem v_or2 (e f : E) (r : List E) : ev Φ (.or (e :: f :: r)) ρ w = (ev Φ e ρ w).bind fun x w => match truth x with
    | some false => ev Φ (.or (f :: r)) ρ w
    | some true => .ok (.bl true) w
    | none => .bad := by simp only [ev, evOr] <;> rfl
theorem v_ite (c a b : E) : ev Φ (.ite c a b) ρ w = (ev Φ c ρ w).bind fun x w => match truth x with
    | some true => ev Φ a ρ w
    | some false => ev Φ b ρ w
    | none => .bad := by simp only [ev] <;> rfl
theorem v_ix (a i : E) : ev Φ (.ix a i) ρ w = (ev Φ a ρ w).bind fun x w => (ev Φ i ρ w).bind fun y w => .of (index x y) w := by simp only [ev]
theorem v_sl (a : E) (lo hi : List E) : ev Φ (.sl a lo hi) ρ w = (ev Φ a ρ w).bind fun x w => ((evs Φ lo ρ w).bind fun l w => .of (part l) w).bind fun l w => ((evs Φ hi ρ w).bind fun h w => .of (part h) w).bind fun h w => .of (slice x l h) w := by simp only [ev]
theorem v_call (f : Nat) (es : List E) : ev Φ (.call f es) ρ w = (evs Φ es ρ w).bind fun ds w => if ds.any isOwn then .bad else Φ f ds w := by simp only [ev]
theorem v_blt (b : B) (es : List E) : ev Φ (.blt b es) ρ w = (evs Φ es ρ w).bind fun ds w => .of (blt b ds) w := by simp only [ev]
theorem v_mt (m : M) (o : E) (es : List E) : ev Φ (.mt m o es) ρ w = (ev Φ o ρ w).bind fun x w => if rcv m x then (evs Φ es ρ w).bind fun ds w => .of (mtd m x ds) w else .bad := by simp only [ev]
theorem v_res (b : E) : ev Φ (.res b) ρ w = told (ev Φ b ρ w) := by simp only [ev]
theorem v_nil : evs Φ [] ρ w = .ok [] w := by simp only [evs]
theorem v_cons (e : E) (r : List E) : evs Φ (e :: r) ρ w = (ev Φ e ρ w).bind fun d w => (evs Φ r ρ w).bind fun l w => .ok (d :: l) w := by simp only [evs]
end
theorem if_tt {α : Sort _} (a b : α) : (if true = true then a else b) = a := rfl
theorem if_ff {α : Sort _} (a b : α) : (if false = true then a else b) = b := rfl
theorem at_0 (x : Option D) (r : Env) : Env.at (x :: r) 0 = x := by cases x <;> rfl
theorem at_s (x : Option D) (r : Env) (i : Nat) : Env.at (x :: r) (i + 1) = Env.at r i := rfl
theorem at_1 (x : Option D) (r : Env) : Env.at (x :: r) 1 = Env.at r 0 := rfl
theorem at_2 (x : Option D) (r : Env) : Env.at (x :: r) 2 = Env.at r 1 := rfl
theorem at_3 (x : Option D) (r : Env) : Env.at (x :: r) 3 = Env.at r 2 := rfl
theorem at_4 (x : Option D) (r : Env) : Env.at (x :: r) 4 = Env.at r 3 := rfl
theorem at_5 (x : Option D) (r : Env) : Env.at (x :: r) 5 = Env.at r 4 := rfl
theorem at_6 (x : Option D) (r : Env) : Env.at (x :: r) 6 = Env.at r 5 := rfl
theorem at_7 (x : Option D) (r : Env) : Env.at (x :: r) 7 = Env.at r 6 := rfl
theorem at_8 (x : Option D) (r : Env) : Env.at (x :: r) 8 = Env.at r 7 := rfl
theorem at_9 (x : Option D) (r : Env) : Env.at (x :: r) 9 = Env.at r 8 := rfl
theorem at_10 (x : Option D) (r : Env) : Env.at (x :: r) 10 = Env.at r 9 := rfl
theorem r_bind {α β : Type} {a : α} {w : W} {f : α → W → Res β} : (Res.ok a w).bind f = f a w := rfl
theorem r_toS {α : Type} {a : α} {w : W} {f : α → W → SRes} : (Res.ok a w).toS f = f a w := rfl
theorem r_some {α : Type} {a : α} {w : W} : Res.of (some a) w = .ok a w := rfl
theorem s_next {ρ : Env} {w : W} {f : Env → W → SRes} : (SRes.next ρ w).andThen f = f ρ w := rfl
theorem s_ret {d : D} {w : W} {f : Env → W → SRes} : (SRes.ret d w).andThen f = .ret d w := rfl
theorem s_exc {c : Nat} {w : W} {f : Env → W → SRes} : (SRes.exc c w).andThen f = .exc c w := rfl
theorem s_tnext {ρ : Env} {w : W} {f : Env → W → SRes} : (SRes.next ρ w).turn f = f ρ w := rfl
theorem s_tret {d : D} {w : W} {f : Env → W → SRes} : (SRes.ret d w).turn f = .ret d w := rfl
theorem truth_bl (b : Bool) : truth (.bl b) = some b := rfl
theorem any_own0 : ([] : List D).any isOwn = false := rfl
theorem any_own (d : D) (l : List D) : (d :: l).any isOwn = (isOwn d || l.any isOwn) := rfl
theorem own_int (i : Int) : isOwn (.int i) = false := rfl
theorem own_str (i : List Nat) : isOwn (.str i) = false := rfl
theorem own_bl (i : Bool) : isOwn (.bl i) = false := rfl
theorem own_tup (i : List D) : isOwn (.tup i) = false := rfl
theorem own_lst (i : List D) : isOwn (.lst i) = false := rfl
theorem own_obj (i : Nat) : isOwn (.obj i) = false := rfl
theorem own_fn (i : Nat) : isOwn (.fn i) = false := rfl
theorem own_scr : isOwn .scr = false := rfl
theorem own_non : isOwn .non = false := rfl
theorem or_ff : (false || false) = false := rfl
theorem put_0 (x : Option D) (r : Env) (d : D) : Env.put (x :: r) 0 d = some d :: r := rfl
theorem put_s (x : Option D) (r : Env) (i : Nat) (d : D) : Env.put (x :: r) (i + 1) d = x :: Env.put r i d := rfl
def outc : SRes → Res D
  | .next _ w => .ok .non w
  | .ret d w => .ok d w
  | .exc c w => .exc c w
  | _ => .bad
theorem callF_is (Φ : Nat → List D → W → Res D) (N : Nat) (fn : Fn) (ds : List D) (w : W) (h : ds.length = fn.np) : callF Φ N fn ds w = outc (runs Φ N fn.body (ds.map some ++ List.replicate (fn.ns - fn.np) none) w) := by
  simp only [callF, if_pos h]
  cases runs Φ N fn.body (ds.map some ++ List.replicate (fn.ns - fn.np) none) w <;> rfl
theorem outc_next (ρ : Env) (w : W) : outc (.next ρ w) = .ok .non w := rfl
theorem outc_ret (d : D) (w : W) : outc (.ret d w) = .ok d w := rfl
theorem outc_exc (d : Nat) (w : W) : outc (.exc d w) = .exc d w := rfl
section
variable {Φ : Nat → List D → W → Res D} {N : Nat} {ρ : Env} {w w' : W}
theorem r_cons (s : S) (r : List S) {ρ' : Env} (h : run Φ N s ρ w = .next ρ' w') : runs Φ N (s :: r) ρ w = runs Φ N r ρ' w' := by
  simp only [runs, h, s_next]
theorem r_consR (s : S) (r : List S) {d : D} (h : run Φ N s ρ w = .ret d w') : runs Φ N (s :: r) ρ w = .ret d w' := by
  simp only [runs, h, s_ret]
theorem r_consE (s : S) (r : List S) {d : Nat} (h : run Φ N s ρ w = .exc d w') : runs Φ N (s :: r) ρ w = .exc d w' := by
  simp only [runs, h, s_exc]
theorem r_asg (i : Nat) {e : E} {d : D} (h : ev Φ e ρ w = .ok d w') (o : isOwn d = false) : run Φ N (.asg i e) ρ w = .next (ρ.put i d) w' := by
  simp only [run, h, r_toS, o, Bool.false_eq_true, if_false]
theorem r_asgN (i : Nat) {e : E} {l : List D} (h : ev Φ e ρ w = .ok (.lst l) w') : run Φ N (.asgN i e) ρ w = .next (ρ.put i (.own l)) w' := by
  simp only [run, h, r_bind, fresh, r_some, r_toS]
theorem r_app (i : Nat) {e : E} {d : D} {l : List D} (a : ρ.at i = some (.own l)) (h : ev Φ e ρ w = .ok d w') (o : isOwn d = false) (z : l.length < LIM) : run Φ N (.app i e) ρ w = .next (ρ.put i (.own (l ++ [d]))) w' := by
  simp only [run, a, h, r_toS, o, Bool.false_or, decide_eq_true_eq, if_neg (Nat.not_le.mpr z)]
theorem r_iffT (a b : List S) {e : E} (h : ev Φ e ρ w = .ok (.bl true) w') : run Φ N (.iff e a b) ρ w = runs Φ N a ρ w' := by
  simp only [run, h, r_toS, truth_bl]
theorem r_iffF (a b : List S) {e : E} (h : ev Φ e ρ w = .ok (.bl false) w') : run Φ N (.iff e a b) ρ w = runs Φ N b ρ w' := by
  simp only [run, h, r_toS, truth_bl]
theorem r_ret (js : List Nat) {e : E} {d : D} (h : ev Φ e (thawAt ρ js) w = .ok d w') (o : isOwn d = false) : run Φ N (.ret js e) ρ w = .ret d w' := by
  simp only [run, h, r_toS, o, Bool.false_eq_true, if_false]
theorem r_expr {e : E} {d : D} (h : ev Φ e ρ w = .ok d w') : run Φ N (.expr e) ρ w = .next ρ w' := by
  simp only [run, h, r_toS]
theorem r_nil : runs Φ N [] ρ w = .next ρ w := by simp only [runs]
end
theorem p_word {ns : List Int} {n : Nat} {w : W} (g : Good ns n w) (k : Nat) (most : Int) (ls : List Nat) (h1 : 0 < most) (h2 : most ≤ 1000) (h3 : 0 < ls.length) (h4 : ls.length ≤ 1000) :
    ∃ s w', Phi PR NN (k + 2) 18 [.scr, .obj n, .int most, .str ls] w = .ok (.str s) w' ∧ 1 ≤ s.length ∧ (s.length : Int) ≤ most ∧ (∀ c ∈ s, c ∈ ls) ∧ Good ns n w' := by
  obtain ⟨r, w1, e1, r0, r1, g1⟩ := p_draw g k most h1 (by omega)
  have turn : ∀ x ∈ rangeD 0 (1 + r).toNat, ∀ w, Good ns n w → ∃ d w', turnF (Phi PR NN (k + 1)) (.ix (.var 3) (.call 16 [.var 0, .var 1, .blt .len [.var 3]])) 4 [some .scr, some (.obj n), some (.int most), some (.str ls), none] x w = .ok (some d) w' ∧ (∃ s, d = .str s ∧ ∃ c, s = [c] ∧ c ∈ ls) ∧ Good ns n w' := by
    intro x hx w g
    obtain ⟨i, w2, e2, i0, i1, g2⟩ := p_draw g k ls.length (by omega) (by omega)
    have hi : i.toNat < ls.length := by omega
    refine ⟨.str [ls[i.toNat]], w2, ?_, ⟨_, rfl, _, rfl, List.getElem_mem hi⟩, g2⟩
    simp only [turnF, ev, evs, Env.at, Env.put, List.set, List.getElem?_cons_zero, List.getElem?_cons_succ, Option.bind_some, id, Res.of, Res.bind, blt, bLen, lenD, Option.map_some, List.any_cons, List.any_nil, isOwn, Bool.or_self, Bool.false_eq_true, if_false, e2, index, atI, ixN, i0, if_true]
    simp [i1, List.getElem?_eq_getElem hi, isOwn]
  obtain ⟨l, w3, e3, el, pl, g3⟩ := compGo_good _ w1 g1 turn
  rw [rangeD_length] at el
  obtain ⟨ss, rfl, q⟩ := all_strs pl
  have q' : ∀ s ∈ ss, ∃ c, s = [c] := fun s hs => let ⟨c, e, _⟩ := q s hs; ⟨c, e⟩
  obtain ⟨j1, j2⟩ := join0 ss q'
  rw [List.length_map] at el
  refine ⟨joinS [] ss, w3, ?_, by omega, by omega, fun c hc => ?_, g3⟩
  · have hc : ev (Phi PR NN (k + 1)) (.comp (.ix (.var 3) (.call 16 [.var 0, .var 1, .blt .len [.var 3]])) [4] true .range [.bin .add (.cst (.int 1)) (.call 16 [.var 0, .var 1, .var 2])] []) [some .scr, some (.obj n), some (.int most), some (.str ls), none] w = .ok (.lst (ss.map .str)) w3 := by
      rw [ev_comp1]
      simp only [evs, ev, C.val, Env.at, List.getElem?_cons_zero, List.getElem?_cons_succ, Option.bind_some, id, Res.of, Res.bind, List.any_cons, List.any_nil, isOwn, Bool.or_self, Bool.false_eq_true, if_false, e1, binop, addD, itemsOf]
      rw [if_pos (by omega)]
      simp only
      rw [rangeD_length, if_neg (by simp only [LIM]; omega), e3]
    show callF (Phi PR NN (k + 1)) NN f__law_word _ w = _
    rw [callF_is _ _ _ _ _ rfl]
    simp only [f__law_word, runs, run, thawAt, List.map, List.replicate, List.cons_append, List.nil_append]
    simp only [v_var, v_cst, v_tup, v_lst, v_bin, v_neg, v_not, v_eq, v_ne, v_lt, v_le, v_gt, v_ge, v_isin, v_notin, v_chain, v_and1, v_and2, v_or1, v_or2, v_ite, v_ix, v_sl, v_call, v_blt, v_mt, v_res, v_nil, v_cons, Bool.false_eq_true, at_0, at_1, at_2, at_3, at_4, at_5, at_6, at_7, at_8, at_9, at_10, r_bind, r_toS, r_some, s_next, s_ret, s_exc, s_tnext, s_tret, truth_bl, any_own0, any_own, own_int, own_str, own_bl, own_tup, own_lst, own_obj, own_fn, own_scr, own_non, or_ff, C.val, put_0, put_s, outc_next, outc_ret, outc_exc, if_true, if_false, Option.map_some, Bool.not_true, Bool.not_false, rcv, hc, mtd, mJoin, seqOf, Option.bind_some, strsOf_map]
    have hz : (ss.map List.length).sum + ([] : List Nat).length * ss.length ≤ LIM := by
      have : (ss.map List.length).sum = ss.length := sum_one ss q'
      rw [this]
      simp only [LIM, List.length_nil]
      omega
    simp only [v_var, v_cst, v_tup, v_lst, v_bin, v_neg, v_not, v_eq, v_ne, v_lt, v_le, v_gt, v_ge, v_isin, v_notin, v_chain, v_and1, v_and2, v_or1, v_or2, v_ite, v_ix, v_sl, v_call, v_blt, v_mt, v_res, v_nil, v_cons, Bool.false_eq_true, at_0, at_1, at_2, at_3, at_4, at_5, at_6, at_7, at_8, at_9, at_10, r_bind, r_toS, r_some, s_next, s_ret, s_exc, s_tnext, s_tret, truth_bl, any_own0, any_own, own_int, own_str, own_bl, own_tup, own_lst, own_obj, own_fn, own_scr, own_non, or_ff, C.val, put_0, put_s, outc_next, outc_ret, outc_exc, if_true, if_false, Option.map_some, Bool.not_true, Bool.not_false, hz]
  · obtain ⟨d, e, hd⟩ := q _ (j2 c hc)
    cases e; exact hd
theorem take_map {α β : Type} (f : α → β) (l : List α) : cut (l.map f) none (some 4) = (l.take 4).map f := by
  simp only [cut, sIx, List.drop_zero, List.length_map, Nat.sub_zero]
  rw [if_neg (by omega), List.map_take]
  by_cases h : l.length ≤ 4
  · rw [show min (Int.toNat 4) l.length = l.length by omega, List.take_of_length_le (by simp), List.take_of_length_le (by simpa using h)]
  · rw [show min (Int.toNat 4) l.length = 4 by omega]
/-- words as a law draws them -/
structure Ws (ls : List Nat) (ws : List (List Nat)) : Prop where
  one : 1 ≤ ws.length
  four : ws.length ≤ 4
  sorted : ws.Pairwise (· < ·)
  each : ∀ s ∈ ws, 1 ≤ s.length ∧ s.length ≤ 4 ∧ ∀ c ∈ s, c ∈ ls
theorem p_words {ns : List Int} {n : Nat} {w : W} (g : Good ns n w) (k : Nat) (most : Int) (ls : List Nat) (h1 : 0 < most) (h2 : most ≤ 100) (h3 : 0 < ls.length) (h4 : ls.length ≤ 1000) :
    ∃ ws w', Phi PR NN (k + 3) 19 [.scr, .obj n, .int most, .str ls] w = .ok (.tup (ws.map .str)) w' ∧ Ws ls ws ∧ Good ns n w' := by
  obtain ⟨r, w1, e1, r0, r1, g1⟩ := p_draw g (k + 1) most h1 (by omega)
  have turn : ∀ x ∈ rangeD 0 (1 + r).toNat, ∀ w, Good ns n w → ∃ d w', turnF (Phi PR NN (k + 2)) (.call 18 [.var 0, .var 1, .cst (.int 3), .var 3]) 5 [some .scr, some (.obj n), some (.int most), some (.str ls), none, none] x w = .ok (some d) w' ∧ (∃ s, d = .str s ∧ 1 ≤ s.length ∧ s.length ≤ 4 ∧ ∀ c ∈ s, c ∈ ls) ∧ Good ns n w' := by
    intro x hx w g
    obtain ⟨s, w2, e2, i0, i1, i2, g2⟩ := p_word g k 3 ls (by omega) (by omega) h3 h4
    refine ⟨.str s, w2, ?_, ⟨s, rfl, i0, by omega, i2⟩, g2⟩
    simp only [turnF, List.set]
    simp only [v_var, v_cst, v_tup, v_lst, v_bin, v_neg, v_not, v_eq, v_ne, v_lt, v_le, v_gt, v_ge, v_isin, v_notin, v_chain, v_and1, v_and2, v_or1, v_or2, v_ite, v_ix, v_sl, v_call, v_blt, v_mt, v_res, v_nil, v_cons, Bool.false_eq_true, at_0, at_1, at_2, at_3, at_4, at_5, at_6, at_7, at_8, at_9, at_10, r_bind, r_toS, r_some, s_next, s_ret, s_exc, s_tnext, s_tret, truth_bl, any_own0, any_own, own_int, own_str, own_bl, own_tup, own_lst, own_obj, own_fn, own_scr, own_non, or_ff, C.val, put_0, put_s, outc_next, outc_ret, outc_exc, if_true, if_false, Option.map_some, Bool.not_true, Bool.not_false, e2]
  obtain ⟨l, w3, e3, el, pl, g3⟩ := compGo_good _ w1 g1 turn
  rw [rangeD_length] at el
  obtain ⟨ss, rfl, q⟩ := all_strs pl
  rw [List.length_map] at el
  have fin : ∀ (ss : List (List Nat)) (w : W), 1 ≤ ss.length → ss.length ≤ 1000 → (∀ s ∈ ss, 1 ≤ s.length ∧ s.length ≤ 4 ∧ ∀ c ∈ s, c ∈ ls) → ∃ ws, runs (Phi PR NN (k + 2)) NN [.ret [4] (.blt .tuple [(.sl (.blt .sortset [(.var 4)]) [] [(.cst (.int 4))])])] [some .scr, some (.obj n), some (.int most), some (.str ls), some (.own (ss.map .str)), none] w = .ret (.tup (ws.map .str)) w ∧ Ws ls ws := by
    intro ss w a b q
    refine ⟨(sortS (onceS ss)).take 4, ?_, ?_, ?_, ?_, ?_⟩
    · simp only [runs, run, thawAt, at_4, at_3, at_2, at_1, at_0, put_s, put_0, D.thaw]
      simp only [v_var, v_cst, v_tup, v_lst, v_bin, v_neg, v_not, v_eq, v_ne, v_lt, v_le, v_gt, v_ge, v_isin, v_notin, v_chain, v_and1, v_and2, v_or1, v_or2, v_ite, v_ix, v_sl, v_call, v_blt, v_mt, v_res, v_nil, v_cons, Bool.false_eq_true, at_0, at_1, at_2, at_3, at_4, at_5, at_6, at_7, at_8, at_9, at_10, r_bind, r_toS, r_some, s_next, s_ret, s_exc, s_tnext, s_tret, truth_bl, any_own0, any_own, own_int, own_str, own_bl, own_tup, own_lst, own_obj, own_fn, own_scr, own_non, or_ff, C.val, put_0, put_s, outc_next, outc_ret, outc_exc, if_true, if_false, Option.map_some, Bool.not_true, Bool.not_false, blt, bSortset, lstOf, Option.bind_some, List.length_map, b, strsOf_map, part, slice, take_map, bTuple, seqOf]
    · obtain ⟨x, hx⟩ := List.exists_mem_of_length_pos (l := ss) (by omega)
      have := List.length_pos_of_mem (mem_sortS.mpr (mem_onceS.mpr hx))
      rw [List.length_take]; omega
    · rw [List.length_take]; omega
    · exact (sortS_sorted (onceS_nodup ss)).sublist (List.take_sublist _ _)
    · intro s hs
      exact q s (mem_onceS.mp (mem_sortS.mp (List.mem_of_mem_take hs)))
  have hc : ev (Phi PR NN (k + 2)) (.comp (.call 18 [.var 0, .var 1, .cst (.int 3), .var 3]) [5] true .range [.bin .add (.cst (.int 1)) (.call 16 [.var 0, .var 1, .var 2])] []) [some .scr, some (.obj n), some (.int most), some (.str ls), none, none] w = .ok (.lst (ss.map .str)) w3 := by
    rw [ev_comp1]
    simp only [v_var, v_cst, v_tup, v_lst, v_bin, v_neg, v_not, v_eq, v_ne, v_lt, v_le, v_gt, v_ge, v_isin, v_notin, v_chain, v_and1, v_and2, v_or1, v_or2, v_ite, v_ix, v_sl, v_call, v_blt, v_mt, v_res, v_nil, v_cons, Bool.false_eq_true, at_0, at_1, at_2, at_3, at_4, at_5, at_6, at_7, at_8, at_9, at_10, r_bind, r_toS, r_some, s_next, s_ret, s_exc, s_tnext, s_tret, truth_bl, any_own0, any_own, own_int, own_str, own_bl, own_tup, own_lst, own_obj, own_fn, own_scr, own_non, or_ff, C.val, put_0, put_s, outc_next, outc_ret, outc_exc, if_true, if_false, Option.map_some, Bool.not_true, Bool.not_false, e1, binop, addD, itemsOf]
    rw [if_pos (by omega)]
    simp only
    rw [rangeD_length, if_neg (by simp only [LIM]; omega), e3]
    rfl
  obtain ⟨z, w4, e4, z0, z1, g4⟩ := p_draw g3 (k + 1) 5 (by omega) (by omega)
  by_cases hz : z = 0
  · subst hz
    obtain ⟨s, w5, e5, i0, i1, i2, g5⟩ := p_word g4 k 4 ls (by omega) (by omega) h3 h4
    obtain ⟨ws, ef, hw⟩ := fin (ss ++ [s]) w5 (by simp) (by simp; omega) (by
      intro y hy
      rcases List.mem_append.mp hy with h | h
      · exact q y h
      · rw [List.mem_singleton.mp h]; exact ⟨i0, by omega, i2⟩)
    refine ⟨ws, w5, ?_, hw, g5⟩
    show callF (Phi PR NN (k + 2)) NN f__law_words _ w = _
    rw [callF_is _ _ _ _ _ rfl]
    simp only [f__law_words, List.map, List.length, List.replicate, List.cons_append, List.nil_append]
    rw [r_cons _ _ (r_asgN 4 hc)]
    simp only [put_s, put_0]
    have ht : ev (Phi PR NN (k + 2)) (.cmp .eq (.call 16 [.var 0, .var 1, .cst (.int 5)]) (.cst (.int 0))) [some .scr, some (.obj n), some (.int most), some (.str ls), some (.own (ss.map .str)), none] w3 = .ok (.bl true) w4 := by
      simp only [v_var, v_cst, v_tup, v_lst, v_bin, v_neg, v_not, v_eq, v_ne, v_lt, v_le, v_gt, v_ge, v_isin, v_notin, v_chain, v_and1, v_and2, v_or1, v_or2, v_ite, v_ix, v_sl, v_call, v_blt, v_mt, v_res, v_nil, v_cons, Bool.false_eq_true, at_0, at_1, at_2, at_3, at_4, at_5, at_6, at_7, at_8, at_9, at_10, r_bind, r_toS, r_some, s_next, s_ret, s_exc, s_tnext, s_tret, truth_bl, any_own0, any_own, own_int, own_str, own_bl, own_tup, own_lst, own_obj, own_fn, own_scr, own_non, or_ff, C.val, put_0, put_s, outc_next, outc_ret, outc_exc, if_true, if_false, Option.map_some, Bool.not_true, Bool.not_false, e4, cmpop, eqOp, D.thaw, plain, Bool.and_self, eqD, BEq.rfl]
    have ha : run (Phi PR NN (k + 2)) NN (.app 4 (.call 18 [.var 0, .var 1, .cst (.int 4), .var 3])) [some .scr, some (.obj n), some (.int most), some (.str ls), some (.own (ss.map .str)), none] w4 = .next [some .scr, some (.obj n), some (.int most), some (.str ls), some (.own ((ss ++ [s]).map .str)), none] w5 := by
      rw [r_app (d := .str s) (l := ss.map .str) (w' := w5) 4 rfl (by simp only [v_var, v_cst, v_tup, v_lst, v_bin, v_neg, v_not, v_eq, v_ne, v_lt, v_le, v_gt, v_ge, v_isin, v_notin, v_chain, v_and1, v_and2, v_or1, v_or2, v_ite, v_ix, v_sl, v_call, v_blt, v_mt, v_res, v_nil, v_cons, Bool.false_eq_true, at_0, at_1, at_2, at_3, at_4, at_5, at_6, at_7, at_8, at_9, at_10, r_bind, r_toS, r_some, s_next, s_ret, s_exc, s_tnext, s_tret, truth_bl, any_own0, any_own, own_int, own_str, own_bl, own_tup, own_lst, own_obj, own_fn, own_scr, own_non, or_ff, C.val, put_0, put_s, outc_next, outc_ret, outc_exc, if_true, if_false, Option.map_some, Bool.not_true, Bool.not_false, e5]) rfl (by simp [LIM]; omega)]
      simp [put_s, put_0]
    rw [r_cons _ _ ((r_iffT _ _ ht).trans ((r_cons _ _ ha).trans r_nil)), ef]
    rfl
  · obtain ⟨ws, ef, hw⟩ := fin ss w4 (by omega) (by omega) q
    refine ⟨ws, w4, ?_, hw, g4⟩
    show callF (Phi PR NN (k + 2)) NN f__law_words _ w = _
    rw [callF_is _ _ _ _ _ rfl]
    simp only [f__law_words, List.map, List.length, List.replicate, List.cons_append, List.nil_append]
    rw [r_cons _ _ (r_asgN 4 hc)]
    simp only [put_s, put_0]
    have ht : ev (Phi PR NN (k + 2)) (.cmp .eq (.call 16 [.var 0, .var 1, .cst (.int 5)]) (.cst (.int 0))) [some .scr, some (.obj n), some (.int most), some (.str ls), some (.own (ss.map .str)), none] w3 = .ok (.bl false) w4 := by
      simp only [v_var, v_cst, v_tup, v_lst, v_bin, v_neg, v_not, v_eq, v_ne, v_lt, v_le, v_gt, v_ge, v_isin, v_notin, v_chain, v_and1, v_and2, v_or1, v_or2, v_ite, v_ix, v_sl, v_call, v_blt, v_mt, v_res, v_nil, v_cons, Bool.false_eq_true, at_0, at_1, at_2, at_3, at_4, at_5, at_6, at_7, at_8, at_9, at_10, r_bind, r_toS, r_some, s_next, s_ret, s_exc, s_tnext, s_tret, truth_bl, any_own0, any_own, own_int, own_str, own_bl, own_tup, own_lst, own_obj, own_fn, own_scr, own_non, or_ff, C.val, put_0, put_s, outc_next, outc_ret, outc_exc, if_true, if_false, Option.map_some, Bool.not_true, Bool.not_false, e4, cmpop, eqOp, D.thaw, plain, Bool.and_self, eqD]
      simp [hz]
    rw [r_cons _ _ ((r_iffF _ _ ht).trans r_nil), ef]
    rfl
end Sp
end
section
set_option linter.all false
set_option maxRecDepth 100000
set_option maxHeartbeats 2000000
namespace Sp
open Sn
open Mn
/-- pairs that a law draws for words and boxes -/
structure Ps (ws : List (List Nat)) (m : Int) (ps : List D) : Prop where
  few : ps.length ≤ 12
  each : ∀ d ∈ ps, ∃ (i : Nat) (j : Int) (h : i < ws.length), d = .tup [.int i, .int j] ∧ 0 ≤ j ∧ j ≤ m - (ws[i].length : Int)
theorem at_map {ws : List (List Nat)} {r : Int} (r0 : 0 ≤ r) (r1 : r < ws.length) : ∃ h : r.toNat < ws.length, atI (ws.map D.str) r = some (.str ws[r.toNat]) := by
  have h : r.toNat < ws.length := by omega
  refine ⟨h, ?_⟩
  simp only [atI, ixN, List.length_map]
  rw [if_pos r0, if_pos (by omega)]
  simp [List.getElem?_eq_getElem h]
theorem p_stamps {ns : List Int} {n : Nat} {w : W} (g : Good ns n w) (k : Nat) {ls : List Nat} {ws : List (List Nat)} (hw : Ws ls ws) (m : Int) (h1 : 1 ≤ m) (h2 : m ≤ 8) :
    ∃ ps w', Phi PR NN (k + 2) 20 [.scr, .obj n, .tup (ws.map .str), .int m, .int 12] w = .ok (.tup ps) w' ∧ Ps ws m ps ∧ Good ns n w' := by
  obtain ⟨r, w1, e1, r0, r1, g1⟩ := p_draw g k 13 (by omega) (by omega)
  have loop : ∀ (xs : List D) (ps : List D) (a b c : Option D) (w : W), ps.length + xs.length ≤ 12 → Ps ws m ps → Good ns n w →
      ∃ ps' a' b' c' w', forGo [6] true (fun ρ w => runs (Phi PR NN (k + 1)) NN [.asg 7 (.call 16 [(.var 0), (.var 1), (.blt .len [(.var 2)])]), .asg 8 (.bin .sub (.var 3) (.blt .len [(.ix (.var 2) (.var 7))])), .iff (.cmp .ge (.var 8) (.cst (.int 0))) [.asg 5 (.bin .add (.var 5) (.tup [(.tup [(.var 7), (.call 16 [(.var 0), (.var 1), (.bin .add (.var 8) (.cst (.int 1)))])])]))] []] ρ w) xs
        [some .scr, some (.obj n), some (.tup (ws.map .str)), some (.int m), some (.int 12), some (.tup ps), a, b, c] w
        = .next [some .scr, some (.obj n), some (.tup (ws.map .str)), some (.int m), some (.int 12), some (.tup ps'), a', b', c'] w' ∧ Ps ws m ps' ∧ Good ns n w' := by
    intro xs
    induction xs with
    | nil => intro ps a b c w _ hp g; exact ⟨ps, a, b, c, w, rfl, hp, g⟩
    | cons x xs ih =>
      intro ps a b c w hl hp g
      have := hw.one
      have := hw.four
      obtain ⟨i, w2, e2, i0, i1, g2⟩ := p_draw g k ws.length (by omega) (by omega)
      obtain ⟨hi, ei⟩ := at_map i0 i1
      have hx := hw.each _ (List.getElem_mem hi)
      simp only [forGo, bindT, put_s, put_0]
      have s1 : ∀ a b c : Option D, run (Phi PR NN (k + 1)) NN (.asg 7 (.call 16 [(.var 0), (.var 1), (.blt .len [(.var 2)])])) [some .scr, some (.obj n), some (.tup (ws.map .str)), some (.int m), some (.int 12), some (.tup ps), a, b, c] w = .next [some .scr, some (.obj n), some (.tup (ws.map .str)), some (.int m), some (.int 12), some (.tup ps), a, some (.int i), c] w2 := by
        intro a b c
        rw [r_asg (d := .int i) (w' := w2) 7 (by simp only [v_var, v_cst, v_tup, v_lst, v_bin, v_neg, v_not, v_eq, v_ne, v_lt, v_le, v_gt, v_ge, v_isin, v_notin, v_chain, v_and1, v_and2, v_or1, v_or2, v_ite, v_ix, v_sl, v_call, v_blt, v_mt, v_res, v_nil, v_cons, Bool.false_eq_true, at_0, at_1, at_2, at_3, at_4, at_5, at_6, at_7, at_8, at_9, at_10, r_bind, r_toS, r_some, s_next, s_ret, s_exc, s_tnext, s_tret, truth_bl, any_own0, any_own, own_int, own_str, own_bl, own_tup, own_lst, own_obj, own_fn, own_scr, own_non, or_ff, C.val, put_0, put_s, outc_next, outc_ret, outc_exc, if_true, if_false, Option.map_some, Bool.not_true, Bool.not_false, blt, bLen, lenD, List.length_map, e2]) rfl]
        rfl
      have s2 : ∀ a c : Option D, run (Phi PR NN (k + 1)) NN (.asg 8 (.bin .sub (.var 3) (.blt .len [(.ix (.var 2) (.var 7))]))) [some .scr, some (.obj n), some (.tup (ws.map .str)), some (.int m), some (.int 12), some (.tup ps), a, some (.int i), c] w2 = .next [some .scr, some (.obj n), some (.tup (ws.map .str)), some (.int m), some (.int 12), some (.tup ps), a, some (.int i), some (.int (m - (ws[i.toNat].length : Int)))] w2 := by
        intro a c
        rw [r_asg (d := .int (m - (ws[i.toNat].length : Int))) (w' := w2) 8 (by simp only [v_var, v_cst, v_tup, v_lst, v_bin, v_neg, v_not, v_eq, v_ne, v_lt, v_le, v_gt, v_ge, v_isin, v_notin, v_chain, v_and1, v_and2, v_or1, v_or2, v_ite, v_ix, v_sl, v_call, v_blt, v_mt, v_res, v_nil, v_cons, Bool.false_eq_true, at_0, at_1, at_2, at_3, at_4, at_5, at_6, at_7, at_8, at_9, at_10, r_bind, r_toS, r_some, s_next, s_ret, s_exc, s_tnext, s_tret, truth_bl, any_own0, any_own, own_int, own_str, own_bl, own_tup, own_lst, own_obj, own_fn, own_scr, own_non, or_ff, C.val, put_0, put_s, outc_next, outc_ret, outc_exc, if_true, if_false, Option.map_some, Bool.not_true, Bool.not_false, index, ei, blt, bLen, lenD, binop, subD]) rfl]
        rfl
      rw [r_cons _ _ (s1 _ _ _), r_cons _ _ (s2 _ _)]
      have ht : ∀ a : Option D, ev (Phi PR NN (k + 1)) (.cmp .ge (.var 8) (.cst (.int 0))) [some .scr, some (.obj n), some (.tup (ws.map .str)), some (.int m), some (.int 12), some (.tup ps), a, some (.int i), some (.int (m - (ws[i.toNat].length : Int)))] w2 = .ok (.bl (decide (0 ≤ m - (ws[i.toNat].length : Int)))) w2 := by
        intro a
        simp only [v_var, v_cst, v_tup, v_lst, v_bin, v_neg, v_not, v_eq, v_ne, v_lt, v_le, v_gt, v_ge, v_isin, v_notin, v_chain, v_and1, v_and2, v_or1, v_or2, v_ite, v_ix, v_sl, v_call, v_blt, v_mt, v_res, v_nil, v_cons, Bool.false_eq_true, at_0, at_1, at_2, at_3, at_4, at_5, at_6, at_7, at_8, at_9, at_10, r_bind, r_toS, r_some, s_next, s_ret, s_exc, s_tnext, s_tret, truth_bl, any_own0, any_own, own_int, own_str, own_bl, own_tup, own_lst, own_obj, own_fn, own_scr, own_non, or_ff, C.val, put_0, put_s, outc_next, outc_ret, outc_exc, if_true, if_false, Option.map_some, Bool.not_true, Bool.not_false, cmpop, geOp]
      by_cases hz : 0 ≤ m - (ws[i.toNat].length : Int)
      · simp only [hz, decide_true] at ht
        obtain ⟨j, w3, e3, j0, j1, g3⟩ := p_draw g2 k (m - (ws[i.toNat].length : Int) + 1) (by omega) (by omega)
        have s3 : ∀ a : Option D, run (Phi PR NN (k + 1)) NN (.asg 5 (.bin .add (.var 5) (.tup [(.tup [(.var 7), (.call 16 [(.var 0), (.var 1), (.bin .add (.var 8) (.cst (.int 1)))])])]))) [some .scr, some (.obj n), some (.tup (ws.map .str)), some (.int m), some (.int 12), some (.tup ps), a, some (.int i), some (.int (m - (ws[i.toNat].length : Int)))] w2 = .next [some .scr, some (.obj n), some (.tup (ws.map .str)), some (.int m), some (.int 12), some (.tup (ps ++ [.tup [.int i, .int j]])), a, some (.int i), some (.int (m - (ws[i.toNat].length : Int)))] w3 := by
          intro a
          rw [r_asg (d := .tup (ps ++ [.tup [.int i, .int j]])) (w' := w3) 5 (by
            simp only [v_var, v_cst, v_tup, v_lst, v_bin, v_neg, v_not, v_eq, v_ne, v_lt, v_le, v_gt, v_ge, v_isin, v_notin, v_chain, v_and1, v_and2, v_or1, v_or2, v_ite, v_ix, v_sl, v_call, v_blt, v_mt, v_res, v_nil, v_cons, Bool.false_eq_true, at_0, at_1, at_2, at_3, at_4, at_5, at_6, at_7, at_8, at_9, at_10, r_bind, r_toS, r_some, s_next, s_ret, s_exc, s_tnext, s_tret, truth_bl, any_own0, any_own, own_int, own_str, own_bl, own_tup, own_lst, own_obj, own_fn, own_scr, own_non, or_ff, C.val, put_0, put_s, outc_next, outc_ret, outc_exc, if_true, if_false, Option.map_some, Bool.not_true, Bool.not_false, binop, addD, e3]
            rw [if_pos (by simp only [List.length_cons, List.length_nil, LIM] at hl ⊢; omega)]
            simp only [v_var, v_cst, v_tup, v_lst, v_bin, v_neg, v_not, v_eq, v_ne, v_lt, v_le, v_gt, v_ge, v_isin, v_notin, v_chain, v_and1, v_and2, v_or1, v_or2, v_ite, v_ix, v_sl, v_call, v_blt, v_mt, v_res, v_nil, v_cons, Bool.false_eq_true, at_0, at_1, at_2, at_3, at_4, at_5, at_6, at_7, at_8, at_9, at_10, r_bind, r_toS, r_some, s_next, s_ret, s_exc, s_tnext, s_tret, truth_bl, any_own0, any_own, own_int, own_str, own_bl, own_tup, own_lst, own_obj, own_fn, own_scr, own_non, or_ff, C.val, put_0, put_s, outc_next, outc_ret, outc_exc, if_true, if_false, Option.map_some, Bool.not_true, Bool.not_false]) rfl]
          rfl
        rw [r_cons _ _ ((r_iffT _ _ (ht _)).trans ((r_cons _ _ (s3 _)).trans r_nil)), r_nil, s_tnext]
        refine ih _ _ _ _ _ ?_ ?_ g3
        · simp only [List.length_append, List.length_cons, List.length_nil] at hl ⊢; omega
        · refine ⟨by simp only [List.length_append, List.length_cons, List.length_nil] at hl ⊢; omega, ?_⟩
          intro d hd
          rcases List.mem_append.mp hd with h | h
          · exact hp.each d h
          · rw [List.mem_singleton.mp h]
            exact ⟨i.toNat, j, hi, by rw [Int.toNat_of_nonneg i0], j0, by omega⟩
      · simp only [hz, decide_false] at ht
        rw [r_cons _ _ ((r_iffF _ _ (ht _)).trans r_nil), r_nil, s_tnext]
        exact ih _ _ _ _ _ (by simp only [List.length_cons] at hl; omega) hp g2
  obtain ⟨ps, a, b, c, w2, e2, hp, g2⟩ := loop (rangeD 0 r.toNat) [] none none none w1 (by rw [rangeD_length]; simp; omega) ⟨by simp, by simp⟩ g1
  refine ⟨ps, w2, ?_, hp, g2⟩
  show callF (Phi PR NN (k + 1)) NN f__law_stamps _ w = _
  rw [callF_is _ _ _ _ _ rfl]
  simp only [f__law_stamps, List.map, List.length, List.replicate, List.cons_append, List.nil_append]
  have s0 : run (Phi PR NN (k + 1)) NN (.asg 5 (.tup [])) [some .scr, some (.obj n), some (.tup (ws.map .str)), some (.int m), some (.int 12), none, none, none, none] w = .next [some .scr, some (.obj n), some (.tup (ws.map .str)), some (.int m), some (.int 12), some (.tup []), none, none, none] w := by
    rw [r_asg (d := .tup []) (w' := w) 5 (by simp only [v_var, v_cst, v_tup, v_lst, v_bin, v_neg, v_not, v_eq, v_ne, v_lt, v_le, v_gt, v_ge, v_isin, v_notin, v_chain, v_and1, v_and2, v_or1, v_or2, v_ite, v_ix, v_sl, v_call, v_blt, v_mt, v_res, v_nil, v_cons, Bool.false_eq_true, at_0, at_1, at_2, at_3, at_4, at_5, at_6, at_7, at_8, at_9, at_10, r_bind, r_toS, r_some, s_next, s_ret, s_exc, s_tnext, s_tret, truth_bl, any_own0, any_own, own_int, own_str, own_bl, own_tup, own_lst, own_obj, own_fn, own_scr, own_non, or_ff, C.val, put_0, put_s, outc_next, outc_ret, outc_exc, if_true, if_false, Option.map_some, Bool.not_true, Bool.not_false]) rfl]
    rfl
  rw [r_cons _ _ s0]
  have s1 : run (Phi PR NN (k + 1)) NN (.for_ [6] true .range [(.call 16 [(.var 0), (.var 1), (.bin .add (.var 4) (.cst (.int 1)))])] [.asg 7 (.call 16 [(.var 0), (.var 1), (.blt .len [(.var 2)])]), .asg 8 (.bin .sub (.var 3) (.blt .len [(.ix (.var 2) (.var 7))])), .iff (.cmp .ge (.var 8) (.cst (.int 0))) [.asg 5 (.bin .add (.var 5) (.tup [(.tup [(.var 7), (.call 16 [(.var 0), (.var 1), (.bin .add (.var 8) (.cst (.int 1)))])])]))] []]) [some .scr, some (.obj n), some (.tup (ws.map .str)), some (.int m), some (.int 12), some (.tup []), none, none, none] w = .next [some .scr, some (.obj n), some (.tup (ws.map .str)), some (.int m), some (.int 12), some (.tup ps), a, b, c] w2 := by
    rw [run]
    simp only [v_var, v_cst, v_tup, v_lst, v_bin, v_neg, v_not, v_eq, v_ne, v_lt, v_le, v_gt, v_ge, v_isin, v_notin, v_chain, v_and1, v_and2, v_or1, v_or2, v_ite, v_ix, v_sl, v_call, v_blt, v_mt, v_res, v_nil, v_cons, Bool.false_eq_true, at_0, at_1, at_2, at_3, at_4, at_5, at_6, at_7, at_8, at_9, at_10, r_bind, r_toS, r_some, s_next, s_ret, s_exc, s_tnext, s_tret, truth_bl, any_own0, any_own, own_int, own_str, own_bl, own_tup, own_lst, own_obj, own_fn, own_scr, own_non, or_ff, C.val, put_0, put_s, outc_next, outc_ret, outc_exc, if_true, if_false, Option.map_some, Bool.not_true, Bool.not_false, binop, addD]
    rw [show (12 : Int) + 1 = 13 from rfl, e1]
    simp only [v_var, v_cst, v_tup, v_lst, v_bin, v_neg, v_not, v_eq, v_ne, v_lt, v_le, v_gt, v_ge, v_isin, v_notin, v_chain, v_and1, v_and2, v_or1, v_or2, v_ite, v_ix, v_sl, v_call, v_blt, v_mt, v_res, v_nil, v_cons, Bool.false_eq_true, at_0, at_1, at_2, at_3, at_4, at_5, at_6, at_7, at_8, at_9, at_10, r_bind, r_toS, r_some, s_next, s_ret, s_exc, s_tnext, s_tret, truth_bl, any_own0, any_own, own_int, own_str, own_bl, own_tup, own_lst, own_obj, own_fn, own_scr, own_non, or_ff, C.val, put_0, put_s, outc_next, outc_ret, outc_exc, if_true, if_false, Option.map_some, Bool.not_true, Bool.not_false, itemsOf]
    rw [if_pos (by omega)]
    exact e2
  rw [r_cons _ _ s1, r_consR _ _ (r_ret (d := .tup ps) (w' := w2) [] (by simp only [thawAt]; simp only [v_var, v_cst, v_tup, v_lst, v_bin, v_neg, v_not, v_eq, v_ne, v_lt, v_le, v_gt, v_ge, v_isin, v_notin, v_chain, v_and1, v_and2, v_or1, v_or2, v_ite, v_ix, v_sl, v_call, v_blt, v_mt, v_res, v_nil, v_cons, Bool.false_eq_true, at_0, at_1, at_2, at_3, at_4, at_5, at_6, at_7, at_8, at_9, at_10, r_bind, r_toS, r_some, s_next, s_ret, s_exc, s_tnext, s_tret, truth_bl, any_own0, any_own, own_int, own_str, own_bl, own_tup, own_lst, own_obj, own_fn, own_scr, own_non, or_ff, C.val, put_0, put_s, outc_next, outc_ret, outc_exc, if_true, if_false, Option.map_some, Bool.not_true, Bool.not_false]) rfl)]
  rfl
end Sp
end
section
set_option linter.all false
set_option maxRecDepth 100000
set_option maxHeartbeats 2000000
namespace Sp
open Sn
open Mn
theorem compGo_pure {f : D → W → Res (Option D)} {g : D → D} (w : W) : ∀ (items : List D), (∀ x ∈ items, f x w = .ok (some (g x)) w) → compGo f items w = .ok (items.map g) w
  | [], _ => rfl
  | x :: r, h => by
    simp only [compGo, h x List.mem_cons_self, Res.calm, Res.bind, compGo_pure w r fun y hy => h y (List.mem_cons_of_mem _ hy), List.map_cons]
theorem bls_map (l : List D) (g : D → Bool) : blsOf (l.map fun d => .bl (g d)) = some (l.map g) := by
  induction l with
  | nil => rfl
  | cons x r ih => simp only [List.map_cons, blsOf, ih, Option.map_some]
theorem inS1 (c : Nat) : ∀ t : List Nat, inS [c] t = decide (c ∈ t)
  | [] => by simp [inS]
  | x :: r => by
    unfold inS
    rw [inS1 c r]
    by_cases h : c = x
    · simp [prefS, h]
    · simp [prefS, h]
theorem blt_len : blt .len = bLen := rfl
theorem blt_isi (t : Ty) : blt (.isi t) = bIsi t := rfl
theorem blt_all : blt .all = bAll := rfl
section
variable {Φ : Nat → List D → W → Res D} {N : Nat} {ρ : Env} {w w' : W}
theorem e_and {e f : E} {r : List E} {a b : Bool} (h1 : ev Φ e ρ w = .ok (.bl a) w) (h2 : a = true → ev Φ (.and (f :: r)) ρ w = .ok (.bl b) w) : ev Φ (.and (e :: f :: r)) ρ w = .ok (.bl (a && b)) w := by
  rw [v_and2, h1, r_bind]
  cases a
  · rfl
  · exact h2 rfl
theorem e_or {e f : E} {r : List E} {a b : Bool} (h1 : ev Φ e ρ w = .ok (.bl a) w) (h2 : a = false → ev Φ (.or (f :: r)) ρ w = .ok (.bl b) w) : ev Φ (.or (e :: f :: r)) ρ w = .ok (.bl (a || b)) w := by
  rw [v_or2, h1, r_bind]
  cases a
  · exact h2 rfl
  · rfl
theorem e_not {e : E} {a : Bool} (h1 : ev Φ e ρ w = .ok (.bl a) w') : ev Φ (.not e) ρ w = .ok (.bl (!a)) w' := by
  rw [v_not, h1]; rfl
theorem e_chain {a b c : E} {x y z : Int} (ha : ev Φ a ρ w = .ok (.int x) w) (hb : ev Φ b ρ w = .ok (.int y) w) (hc : ev Φ c ρ w = .ok (.int z) w) : ev Φ (.chain .le .le a b c) ρ w = .ok (.bl (decide (x ≤ y) && decide (y ≤ z))) w := by
  rw [v_chain, ha, r_bind, hb, r_bind, hc]
  simp only [cmpop, leOp]
  by_cases h : x ≤ y
  · simp only [h, decide_true, Bool.true_and]; rfl
  · simp only [h, decide_false, Bool.false_and]
theorem e_all {e : E} {l : List D} {g : D → Bool} (h : ev Φ e ρ w = .ok (.lst (l.map fun d => .bl (g d))) w') : ev Φ (.blt .all [e]) ρ w = .ok (.bl (l.all g)) w' := by
  simp only [v_var, v_cst, v_tup, v_lst, v_bin, v_neg, v_not, v_eq, v_ne, v_lt, v_le, v_gt, v_ge, v_isin, v_notin, v_chain, v_and1, v_and2, v_or1, v_or2, v_ite, v_ix, v_sl, v_call, v_blt, v_mt, v_res, v_nil, v_cons, Bool.false_eq_true, at_0, at_1, at_2, at_3, at_4, at_5, at_6, at_7, at_8, at_9, at_10, r_bind, r_toS, r_some, s_next, s_ret, s_exc, s_tnext, s_tret, truth_bl, any_own0, any_own, own_int, own_str, own_bl, own_tup, own_lst, own_obj, own_fn, own_scr, own_non, or_ff, C.val, put_0, put_s, outc_next, outc_ret, outc_exc, if_true, if_false, Option.map_some, Bool.not_true, Bool.not_false, h, blt, bAll, lstOf, Option.bind_some, bls_map]
  rw [List.all_map]
  rfl
theorem e_isi {e : E} {d : D} (t : Ty) {b : Bool} (h : ev Φ e ρ w = .ok d w') (o : isTyOk d = true) (q : isTy t d = b) : ev Φ (.blt (.isi t) [e]) ρ w = .ok (.bl b) w' := by
  subst q
  rw [v_blt, v_cons, h, r_bind, v_nil, r_bind, r_bind]
  simp only [blt, bIsi, o, if_true, r_some]
theorem e_len {e : E} {d : D} {n : Nat} (h : ev Φ e ρ w = .ok d w') (o : lenD d = some n) : ev Φ (.blt .len [e]) ρ w = .ok (.int n) w' := by
  rw [v_blt, v_cons, h, r_bind, v_nil, r_bind, r_bind]
  simp only [blt, bLen, o, Option.map_some, r_some]
theorem e_var {d : D} (i : Nat) (h : ρ.at i = some d) : ev Φ (.var i) ρ w = .ok d w := by rw [v_var, h]; rfl
theorem e_cst (c : C) : ev Φ (.cst c) ρ w = .ok c.val w := v_cst _ _ _ _
theorem e_and1 {e : E} {a : Bool} (h1 : ev Φ e ρ w = .ok (.bl a) w) : ev Φ (.and [e]) ρ w = .ok (.bl a) w := by rw [v_and1, h1]
theorem e_or1 {e : E} {a : Bool} (h1 : ev Φ e ρ w = .ok (.bl a) w) : ev Φ (.or [e]) ρ w = .ok (.bl a) w := by rw [v_or1, h1]
end
abbrev ABCD : List Nat := [97, 98, 99, 100]
/-- a text of 1 .. m letters of abcd -/
def strOf (m : Int) (s : List Nat) : Bool := (decide (1 ≤ (s.length : Int)) && decide ((s.length : Int) ≤ m)) && s.all fun c => decide (c ∈ ABCD)
theorem p_isstr (k : Nat) (w : W) (s : List Nat) (m : Int) (hs : s.length ≤ LIM) : Phi PR NN (k + 1) 1 [.str s, .int m] w = .ok (.bl (strOf m s)) w := by
  show callF (Phi PR NN k) NN f_is_string_of _ w = _
  rw [callF_is _ _ _ _ _ rfl]
  simp only [f_is_string_of, List.map, List.length, List.replicate, List.cons_append, List.nil_append]
  have hc : ev (Phi PR NN k) (.comp (.cmp .isin (.var 2) (.cst (.str [97, 98, 99, 100]))) [2] true .seq [(.var 0)] []) [some (.str s), some (.int m), none] w = .ok (.lst ((s.map fun c => D.str [c]).map fun d => .bl (match d with | .str t => inS t ABCD | _ => false))) w := by
    rw [ev_comp1]
    simp only [v_var, v_cst, v_tup, v_lst, v_bin, v_neg, v_not, v_eq, v_ne, v_lt, v_le, v_gt, v_ge, v_isin, v_notin, v_chain, v_and1, v_and2, v_or1, v_or2, v_ite, v_ix, v_sl, v_call, v_blt, v_mt, v_res, v_nil, v_cons, Bool.false_eq_true, at_0, at_1, at_2, at_3, at_4, at_5, at_6, at_7, at_8, at_9, at_10, r_bind, r_toS, r_some, s_next, s_ret, s_exc, s_tnext, s_tret, truth_bl, any_own0, any_own, own_int, own_str, own_bl, own_tup, own_lst, own_obj, own_fn, own_scr, own_non, or_ff, C.val, put_0, put_s, outc_next, outc_ret, outc_exc, if_true, if_false, Option.map_some, Bool.not_true, Bool.not_false, itemsOf, itemsD, List.length_map]
    rw [if_neg (by omega), compGo_pure (g := fun d => .bl (match d with | .str t => inS t ABCD | _ => false)) w]
    · rfl
    · intro x hx
      obtain ⟨c, _, rfl⟩ := List.mem_map.mp hx
      simp only [turnF, List.set]
      simp only [v_var, v_cst, v_tup, v_lst, v_bin, v_neg, v_not, v_eq, v_ne, v_lt, v_le, v_gt, v_ge, v_isin, v_notin, v_chain, v_and1, v_and2, v_or1, v_or2, v_ite, v_ix, v_sl, v_call, v_blt, v_mt, v_res, v_nil, v_cons, Bool.false_eq_true, at_0, at_1, at_2, at_3, at_4, at_5, at_6, at_7, at_8, at_9, at_10, r_bind, r_toS, r_some, s_next, s_ret, s_exc, s_tnext, s_tret, truth_bl, any_own0, any_own, own_int, own_str, own_bl, own_tup, own_lst, own_obj, own_fn, own_scr, own_non, or_ff, C.val, put_0, put_s, outc_next, outc_ret, outc_exc, if_true, if_false, Option.map_some, Bool.not_true, Bool.not_false, cmpop, inD, List.isEmpty]
  have ha := e_all hc
  rw [List.all_map] at ha
  rw [r_consR _ _ (r_ret (d := .bl (strOf m s)) (w' := w) [] ?_ rfl)]
  · rfl
  have h3 : (s.all fun c => decide (c ∈ ABCD)) = s.all ((fun d => match d with | .str t => inS t ABCD | _ => false) ∘ fun c => D.str [c]) := by
    congr 1
    funext c
    exact (inS1 c _).symm
  unfold strOf
  rw [h3]
  exact e_and (a := true) (e_isi .str (e_var 0 rfl) rfl rfl) fun _ => e_and (e_chain (e_cst (.int 1)) (e_len (e_var 0 rfl) rfl) (e_var 1 rfl)) fun _ => e_and1 ha
end Sp
end
section
set_option linter.all false
set_option maxRecDepth 100000
set_option maxHeartbeats 2000000
namespace Sp
open Sn
open Mn
/-- one turn of a comprehension over pairs -/
def turn2F (Φ : Nat → List D → W → Res D) (elt : E) (i j : Nat) (ρ : Env) : D → W → Res (Option D) := fun x w => match bindT (wipe ρ [i, j]) [i, j] false x with
  | none => .bad
  | some ρ' => (ev Φ elt ρ' w).bind fun d w => if isOwn d then .bad else .ok (some d) w
theorem ev_comp2 (Φ : Nat → List D → W → Res D) (elt : E) (i j : Nat) (k : ItK) (its : List E) (ρ : Env) (w : W) :
    ev Φ (.comp elt [i, j] false k its []) ρ w = (evs Φ its ρ w).bind fun ds w => match itemsOf k ds with
      | none => .bad
      | some items => if LIM < items.length then .bad else (compGo (turn2F Φ elt i j ρ) items w).bind fun l w => .ok (.lst l) w := by
  simp only [ev]
  rfl
theorem cut1 {α : Type} (l : List α) (h : 1 ≤ l.length) : cut l (some 1) none = l.drop 1 := by
  simp only [cut, sIx]
  rw [if_neg (by omega), show min (Int.toNat 1) l.length = 1 by omega, List.take_of_length_le (by simp)]
theorem zip_adj : ∀ (ws : List (List Nat)), ws.Pairwise (· < ·) → ∀ x ∈ zipD (ws.map D.str) ((ws.map D.str).drop 1), ∃ a b, x = .tup [.str a, .str b] ∧ ltS a b = true
  | [], _, x, h => by cases h
  | [a], _, x, h => by cases h
  | a :: b :: r, p, x, h => by
    obtain ⟨p1, p2⟩ := List.pairwise_cons.mp p
    rcases List.mem_cons.mp h with z | z
    · exact ⟨a, b, z, (lt_iff _ _).mpr (p1 b List.mem_cons_self)⟩
    · exact zip_adj (b :: r) p2 x z
theorem zip_len : ∀ (a b : List D), (zipD a b).length ≤ a.length
  | [], b => by simp [zipD]
  | x :: a, [] => by simp [zipD]
  | x :: a, y :: b => by simp [zipD, zip_len a b]
theorem p_arewords {ws : List (List Nat)} (hw : Ws ABCD ws) (k : Nat) (w : W) : Phi PR NN (k + 2) 2 [.tup (ws.map .str)] w = .ok (.bl true) w := by
  show callF (Phi PR NN (k + 1)) NN f_are_words _ w = _
  rw [callF_is _ _ _ _ _ rfl]
  simp only [f_are_words, List.map, List.length, List.replicate, List.cons_append, List.nil_append]
  have h1 := hw.one
  have h4 := hw.four
  have hc : ev (Phi PR NN (k + 1)) (.comp (.call 1 [(.var 1), (.cst (.int 4))]) [1] true .seq [(.var 0)] []) [some (.tup (ws.map .str)), none, none] w = .ok (.lst ((ws.map D.str).map fun d => .bl (match d with | .str t => strOf 4 t | _ => false))) w := by
    rw [ev_comp1]
    simp only [v_var, v_cst, v_tup, v_lst, v_bin, v_neg, v_not, v_eq, v_ne, v_lt, v_le, v_gt, v_ge, v_isin, v_notin, v_chain, v_and1, v_and2, v_or1, v_or2, v_ite, v_ix, v_sl, v_call, v_blt, v_mt, v_res, v_nil, v_cons, Bool.false_eq_true, at_0, at_1, at_2, at_3, at_4, at_5, at_6, at_7, at_8, at_9, at_10, r_bind, r_toS, r_some, s_next, s_ret, s_exc, s_tnext, s_tret, truth_bl, any_own0, any_own, own_int, own_str, own_bl, own_tup, own_lst, own_obj, own_fn, own_scr, own_non, or_ff, C.val, put_0, put_s, outc_next, outc_ret, outc_exc, if_true, if_false, Option.map_some, Bool.not_true, Bool.not_false, itemsOf, itemsD, List.length_map]
    rw [if_neg (by simp only [LIM]; omega), compGo_pure (g := fun d => .bl (match d with | .str t => strOf 4 t | _ => false)) w]
    · rfl
    · intro x hx
      obtain ⟨c, hm, rfl⟩ := List.mem_map.mp hx
      simp only [turnF, List.set]
      simp only [v_var, v_cst, v_tup, v_lst, v_bin, v_neg, v_not, v_eq, v_ne, v_lt, v_le, v_gt, v_ge, v_isin, v_notin, v_chain, v_and1, v_and2, v_or1, v_or2, v_ite, v_ix, v_sl, v_call, v_blt, v_mt, v_res, v_nil, v_cons, Bool.false_eq_true, at_0, at_1, at_2, at_3, at_4, at_5, at_6, at_7, at_8, at_9, at_10, r_bind, r_toS, r_some, s_next, s_ret, s_exc, s_tnext, s_tret, truth_bl, any_own0, any_own, own_int, own_str, own_bl, own_tup, own_lst, own_obj, own_fn, own_scr, own_non, or_ff, C.val, put_0, put_s, outc_next, outc_ret, outc_exc, if_true, if_false, Option.map_some, Bool.not_true, Bool.not_false, p_isstr k w c 4 (by have := (hw.each c hm).2.1; simp only [LIM]; omega)]
  have ha := e_all hc
  rw [show ((ws.map D.str).all fun d => match d with | .str t => strOf 4 t | _ => false) = true from by
    rw [List.all_map, List.all_eq_true]
    intro s hs
    obtain ⟨a1, a2, a3⟩ := hw.each s hs
    simp only [Function.comp, strOf, Bool.and_eq_true, decide_eq_true_eq, List.all_eq_true]
    exact ⟨⟨by omega, by omega⟩, a3⟩] at ha
  have hl : lenD (.tup (ws.map .str)) = some ws.length := by simp only [lenD, List.length_map]
  have ht : ev (Phi PR NN (k + 1)) (.or [(.not (.blt (.isi .tuple) [(.var 0)])), (.not (.chain .le .le (.cst (.int 1)) (.blt .len [(.var 0)]) (.cst (.int 4)))), (.not (.blt .all [(.comp (.call 1 [(.var 1), (.cst (.int 4))]) [1] true .seq [(.var 0)] [])]))]) [some (.tup (ws.map .str)), none, none] w = .ok (.bl false) w := by
    have := e_or (e_not (e_isi .tuple (e_var 0 rfl) rfl rfl)) (fun _ => e_or (e_not (e_chain (e_cst (.int 1)) (e_len (e_var 0 rfl) hl) (e_cst (.int 4)))) (fun _ => e_or1 (e_not ha)))
    rw [this]
    have q1 : (1 : Int) ≤ (ws.length : Int) := by omega
    have q4 : (ws.length : Int) ≤ 4 := by omega
    simp [q1, q4, isTy]
  rw [r_cons _ _ ((r_iffF _ _ ht).trans r_nil)]
  have hd : ev (Phi PR NN (k + 1)) (.comp (.cmp .lt (.var 1) (.var 2)) [1, 2] false .zip [(.var 0), (.sl (.var 0) [(.cst (.int 1))] [])] []) [some (.tup (ws.map .str)), none, none] w = .ok (.lst ((zipD (ws.map D.str) ((ws.map D.str).drop 1)).map fun _ => .bl true)) w := by
    rw [ev_comp2]
    simp only [v_var, v_cst, v_tup, v_lst, v_bin, v_neg, v_not, v_eq, v_ne, v_lt, v_le, v_gt, v_ge, v_isin, v_notin, v_chain, v_and1, v_and2, v_or1, v_or2, v_ite, v_ix, v_sl, v_call, v_blt, v_mt, v_res, v_nil, v_cons, Bool.false_eq_true, at_0, at_1, at_2, at_3, at_4, at_5, at_6, at_7, at_8, at_9, at_10, r_bind, r_toS, r_some, s_next, s_ret, s_exc, s_tnext, s_tret, truth_bl, any_own0, any_own, own_int, own_str, own_bl, own_tup, own_lst, own_obj, own_fn, own_scr, own_non, or_ff, C.val, put_0, put_s, outc_next, outc_ret, outc_exc, if_true, if_false, Option.map_some, Bool.not_true, Bool.not_false, part, slice]
    rw [cut1 _ (by simpa using h1)]
    simp only [v_var, v_cst, v_tup, v_lst, v_bin, v_neg, v_not, v_eq, v_ne, v_lt, v_le, v_gt, v_ge, v_isin, v_notin, v_chain, v_and1, v_and2, v_or1, v_or2, v_ite, v_ix, v_sl, v_call, v_blt, v_mt, v_res, v_nil, v_cons, Bool.false_eq_true, at_0, at_1, at_2, at_3, at_4, at_5, at_6, at_7, at_8, at_9, at_10, r_bind, r_toS, r_some, s_next, s_ret, s_exc, s_tnext, s_tret, truth_bl, any_own0, any_own, own_int, own_str, own_bl, own_tup, own_lst, own_obj, own_fn, own_scr, own_non, or_ff, C.val, put_0, put_s, outc_next, outc_ret, outc_exc, if_true, if_false, Option.map_some, Bool.not_true, Bool.not_false, itemsOf]
    rw [if_neg (by have := zip_len (ws.map D.str) ((ws.map D.str).drop 1); simp only [LIM, List.length_map] at this ⊢; omega), compGo_pure (g := fun _ => .bl true) w]
    · rfl
    · intro x hx
      obtain ⟨a, b, rfl, h⟩ := zip_adj ws hw.sorted x hx
      simp only [turn2F, wipe, List.set, bindT, putAll, put_s, put_0]
      simp only [v_var, v_cst, v_tup, v_lst, v_bin, v_neg, v_not, v_eq, v_ne, v_lt, v_le, v_gt, v_ge, v_isin, v_notin, v_chain, v_and1, v_and2, v_or1, v_or2, v_ite, v_ix, v_sl, v_call, v_blt, v_mt, v_res, v_nil, v_cons, Bool.false_eq_true, at_0, at_1, at_2, at_3, at_4, at_5, at_6, at_7, at_8, at_9, at_10, r_bind, r_toS, r_some, s_next, s_ret, s_exc, s_tnext, s_tret, truth_bl, any_own0, any_own, own_int, own_str, own_bl, own_tup, own_lst, own_obj, own_fn, own_scr, own_non, or_ff, C.val, put_0, put_s, outc_next, outc_ret, outc_exc, if_true, if_false, Option.map_some, Bool.not_true, Bool.not_false, cmpop, ltOp, h]
  have hb := e_all hd
  rw [List.all_eq_true.mpr (fun _ _ => rfl)] at hb
  rw [r_consR _ _ (r_ret (d := .bl true) (w' := w) [] hb rfl)]
  rfl
theorem p_arewords_lst (l : List D) (k : Nat) (w : W) : Phi PR NN (k + 1) 2 [.lst l] w = .ok (.bl false) w := by
  show callF (Phi PR NN k) NN f_are_words _ w = _
  rw [callF_is _ _ _ _ _ rfl]
  simp only [f_are_words, List.map, List.length, List.replicate, List.cons_append, List.nil_append]
  have ht : ev (Phi PR NN k) (.or [(.not (.blt (.isi .tuple) [(.var 0)])), (.not (.chain .le .le (.cst (.int 1)) (.blt .len [(.var 0)]) (.cst (.int 4)))), (.not (.blt .all [(.comp (.call 1 [(.var 1), (.cst (.int 4))]) [1] true .seq [(.var 0)] [])]))]) [some (.lst l), none, none] w = .ok (.bl true) w :=
    e_or (b := true) (e_not (a := false) (e_isi .tuple (e_var 0 rfl) rfl rfl)) (fun h => by cases h)
  rw [r_consR _ _ ((r_iffT _ _ ht).trans (r_consR _ _ (r_ret (d := .bl false) (w' := w) [] (e_cst _) rfl)))]
  rfl
theorem p_row (k : Nat) (w : W) (s : List Nat) (hs : s.length ≤ LIM) : Phi PR NN (k + 2) 3 [.str s] w = .ok (.bl (strOf 8 s)) w := by
  show callF (Phi PR NN (k + 1)) NN f_is_row _ w = _
  rw [callF_is _ _ _ _ _ rfl]
  simp only [f_is_row, List.map, List.length, List.replicate, List.cons_append, List.nil_append, Nat.sub_self]
  rw [r_consR _ _ (r_ret (d := .bl (strOf 8 s)) (w' := w) [] (by simp only [thawAt]; simp only [v_var, v_cst, v_tup, v_lst, v_bin, v_neg, v_not, v_eq, v_ne, v_lt, v_le, v_gt, v_ge, v_isin, v_notin, v_chain, v_and1, v_and2, v_or1, v_or2, v_ite, v_ix, v_sl, v_call, v_blt, v_mt, v_res, v_nil, v_cons, Bool.false_eq_true, at_0, at_1, at_2, at_3, at_4, at_5, at_6, at_7, at_8, at_9, at_10, r_bind, r_toS, r_some, s_next, s_ret, s_exc, s_tnext, s_tret, truth_bl, any_own0, any_own, own_int, own_str, own_bl, own_tup, own_lst, own_obj, own_fn, own_scr, own_non, or_ff, C.val, put_0, put_s, outc_next, outc_ret, outc_exc, if_true, if_false, Option.map_some, Bool.not_true, Bool.not_false, p_isstr k w s 8 hs]) rfl)]
  rfl
theorem p_is (a b : Bool) (k : Nat) (w : W) : Phi PR NN (k + 1) 15 [.bl a, .bl b] w = .ok (.bl (a == b)) w := by
  cases a <;> cases b <;> rfl
end Sp
end
section
set_option linter.all false
set_option maxRecDepth 100000
set_option maxHeartbeats 2000000
namespace Sp
open Sn
open Mn
section
variable {Φ : Nat → List D → W → Res D} {N : Nat} {ρ : Env} {w w' : W}
theorem e_call1 (f : Nat) {a : E} {x : D} {r : Res D} (ha : ev Φ a ρ w = .ok x w') (o : isOwn x = false) (h : Φ f [x] w' = r) : ev Φ (.call f [a]) ρ w = r := by
  rw [v_call, v_cons, ha, r_bind, v_nil, r_bind, r_bind]
  simp only [any_own, any_own0, o, Bool.or_self, Bool.false_eq_true, if_false, h]
theorem e_call2 (f : Nat) {a b : E} {x y : D} {r : Res D} (ha : ev Φ a ρ w = .ok x w) (hb : ev Φ b ρ w = .ok y w') (ox : isOwn x = false) (oy : isOwn y = false) (h : Φ f [x, y] w' = r) : ev Φ (.call f [a, b]) ρ w = r := by
  rw [v_call, v_cons, ha, r_bind, v_cons, hb, r_bind, v_nil, r_bind, r_bind, r_bind]
  simp only [any_own, any_own0, ox, oy, Bool.or_self, Bool.false_eq_true, if_false, h]
theorem e_call3 (f : Nat) {a b c : E} {x y z : D} {r : Res D} (ha : ev Φ a ρ w = .ok x w) (hb : ev Φ b ρ w = .ok y w) (hc : ev Φ c ρ w = .ok z w') (ox : isOwn x = false) (oy : isOwn y = false) (oz : isOwn z = false) (h : Φ f [x, y, z] w' = r) : ev Φ (.call f [a, b, c]) ρ w = r := by
  rw [v_call, v_cons, ha, r_bind, v_cons, hb, r_bind, v_cons, hc, r_bind, v_nil, r_bind, r_bind, r_bind, r_bind]
  simp only [any_own, any_own0, ox, oy, oz, Bool.or_self, Bool.false_eq_true, if_false, h]
theorem e_ix {a i : E} {x y z : D} (ha : ev Φ a ρ w = .ok x w) (hi : ev Φ i ρ w = .ok y w) (h : index x y = some z) : ev Φ (.ix a i) ρ w = .ok z w := by
  rw [v_ix, ha, r_bind, hi, r_bind, h]; rfl
theorem e_sub {a b : E} {x y : Int} (ha : ev Φ a ρ w = .ok (.int x) w) (hb : ev Φ b ρ w = .ok (.int y) w) : ev Φ (.bin .sub a b) ρ w = .ok (.int (x - y)) w := by
  rw [v_bin, ha, r_bind, hb, r_bind]; rfl
theorem e_neI {a b : E} {x y : Int} (ha : ev Φ a ρ w = .ok (.int x) w) (hb : ev Φ b ρ w = .ok (.int y) w) : ev Φ (.cmp .ne a b) ρ w = .ok (.bl (!(x == y))) w := by
  rw [v_ne, ha, r_bind, hb, r_bind]; rfl
theorem e_gtI {a b : E} {x y : Int} (ha : ev Φ a ρ w = .ok (.int x) w) (hb : ev Φ b ρ w = .ok (.int y) w) : ev Φ (.cmp .gt a b) ρ w = .ok (.bl (decide (y < x))) w := by
  rw [v_gt, ha, r_bind, hb, r_bind]; rfl
end
/-- a pair that words and boxes take -/
def stampB (ws : List (List Nat)) (m : Int) : D → Bool
  | .tup [a, b] => btw a 0 ((ws.length : Int) - 1) && (match a with | .int i => btw b 0 (m - ((ws.getD i.toNat []).length : Int)) | _ => false)
  | _ => false
/-- data for a pair: no two things in a tuple, or two that isinstance may be asked of -/
def pairOk : D → Bool
  | .tup [a, b] => isTyOk a && isTyOk b && !isOwn a && !isOwn b
  | d => isTyOk d && !isOwn d
theorem p_stamp (ws : List (List Nat)) (m : Int) (d : D) (h : pairOk d = true) (k : Nat) (w : W) : Phi PR NN (k + 2) 7 [.tup (ws.map .str), .int m, d] w = .ok (.bl (stampB ws m d)) w := by
  show callF (Phi PR NN (k + 1)) NN f_is_stamp _ w = _
  rw [callF_is _ _ _ _ _ rfl]
  simp only [f_is_stamp, List.map, List.length, List.replicate, List.cons_append, List.nil_append, Nat.sub_self]
  have hl : lenD (.tup (ws.map .str)) = some ws.length := by simp only [lenD, List.length_map]
  have no : ∀ (d : D) (a : Bool), ev (Phi PR NN (k + 1)) (.or [(.not (.blt (.isi .tuple) [(.var 2)])), (.cmp .ne (.blt .len [(.var 2)]) (.cst (.int 2))), (.not (.call 0 [(.ix (.var 2) (.cst (.int 0))), (.cst (.int 0)), (.bin .sub (.blt .len [(.var 0)]) (.cst (.int 1)))]))]) [some (.tup (ws.map .str)), some (.int m), some d] w = .ok (.bl true) w →
      outc (runs (Phi PR NN (k + 1)) NN [.iff (.or [(.not (.blt (.isi .tuple) [(.var 2)])), (.cmp .ne (.blt .len [(.var 2)]) (.cst (.int 2))), (.not (.call 0 [(.ix (.var 2) (.cst (.int 0))), (.cst (.int 0)), (.bin .sub (.blt .len [(.var 0)]) (.cst (.int 1)))]))]) [.ret [] (.cst (.bl false))] [], .ret [] (.call 0 [(.ix (.var 2) (.cst (.int 1))), (.cst (.int 0)), (.bin .sub (.var 1) (.blt .len [(.ix (.var 0) (.ix (.var 2) (.cst (.int 0))))]))])] [some (.tup (ws.map .str)), some (.int m), some d] w) = .ok (.bl false) w := by
    intro d _ h
    rw [r_consR _ _ ((r_iffT _ _ h).trans (r_consR _ _ (r_ret (d := .bl false) (w' := w) [] (e_cst _) rfl)))]
    rfl
  have notT : ∀ d : D, isTyOk d = true → isTy .tuple d = false → ev (Phi PR NN (k + 1)) (.or [(.not (.blt (.isi .tuple) [(.var 2)])), (.cmp .ne (.blt .len [(.var 2)]) (.cst (.int 2))), (.not (.call 0 [(.ix (.var 2) (.cst (.int 0))), (.cst (.int 0)), (.bin .sub (.blt .len [(.var 0)]) (.cst (.int 1)))]))]) [some (.tup (ws.map .str)), some (.int m), some d] w = .ok (.bl true) w :=
    fun d o q => e_or (b := true) (e_not (a := false) (e_isi .tuple (e_var 2 rfl) o q)) (fun h => by cases h)
  have notL : ∀ l : List D, l.length ≠ 2 → ev (Phi PR NN (k + 1)) (.or [(.not (.blt (.isi .tuple) [(.var 2)])), (.cmp .ne (.blt .len [(.var 2)]) (.cst (.int 2))), (.not (.call 0 [(.ix (.var 2) (.cst (.int 0))), (.cst (.int 0)), (.bin .sub (.blt .len [(.var 0)]) (.cst (.int 1)))]))]) [some (.tup (ws.map .str)), some (.int m), some (.tup l)] w = .ok (.bl true) w := by
    intro l hl
    refine e_or (a := false) (b := true) (e_not (a := true) (e_isi .tuple (e_var 2 rfl) rfl rfl)) fun _ => e_or (a := true) (b := true) ?_ fun h => by cases h
    have := e_neI (Φ := Phi PR NN (k + 1)) (ρ := [some (.tup (ws.map .str)), some (.int m), some (.tup l)]) (w := w) (e_len (e_var 2 rfl) (rfl : lenD (.tup l) = some l.length)) (e_cst (.int 2))
    rw [this]
    have : ((l.length : Int) == 2) = false := by simp; omega
    simp [this]
  match d, h with
  | .tup [a, b], h =>
    simp only [pairOk, Bool.and_eq_true, Bool.not_eq_true'] at h
    obtain ⟨⟨⟨oa, ob⟩, na⟩, nb⟩ := h
    have hb1 : ev (Phi PR NN (k + 1)) (.call 0 [(.ix (.var 2) (.cst (.int 0))), (.cst (.int 0)), (.bin .sub (.blt .len [(.var 0)]) (.cst (.int 1)))]) [some (.tup (ws.map .str)), some (.int m), some (.tup [a, b])] w = .ok (.bl (btw a 0 ((ws.length : Int) - 1))) w :=
      e_call3 0 (e_ix (e_var 2 rfl) (e_cst (.int 0)) rfl) (e_cst (.int 0)) (e_sub (e_len (e_var 0 rfl) hl) (e_cst (.int 1))) na rfl rfl (p_between k w a _ _ oa)
    have ht := e_or (a := false) (e_not (a := true) (e_isi .tuple (e_var 2 rfl) rfl rfl)) fun _ => e_or (a := false) (e_neI (e_len (e_var 2 rfl) (rfl : lenD (.tup [a, b]) = some 2)) (e_cst (.int 2))) fun _ => e_or1 (e_not hb1)
    cases hq : btw a 0 ((ws.length : Int) - 1) with
    | false =>
      rw [hq] at ht
      rw [no _ true ht]
      simp only [stampB, hq, Bool.false_and]
    | true =>
      rw [hq] at ht
      rw [r_cons _ _ ((r_iffF _ _ ht).trans r_nil)]
      cases a with
      | int i =>
        simp only [btw, Bool.and_eq_true, decide_eq_true_eq] at hq
        obtain ⟨hi, ei⟩ := at_map (ws := ws) hq.1 (by omega)
        have hs : ev (Phi PR NN (k + 1)) (.call 0 [(.ix (.var 2) (.cst (.int 1))), (.cst (.int 0)), (.bin .sub (.var 1) (.blt .len [(.ix (.var 0) (.ix (.var 2) (.cst (.int 0))))]))]) [some (.tup (ws.map .str)), some (.int m), some (.tup [.int i, b])] w = .ok (.bl (btw b 0 (m - (ws[i.toNat].length : Int)))) w :=
          e_call3 0 (e_ix (e_var 2 rfl) (e_cst (.int 1)) rfl) (e_cst (.int 0)) (e_sub (e_var 1 rfl) (e_len (e_ix (e_var 0 rfl) (e_ix (e_var 2 rfl) (e_cst (.int 0)) rfl) ei) rfl)) nb rfl rfl (p_between k w b _ _ ob)
        rw [r_consR _ _ (r_ret (d := .bl (btw b 0 (m - (ws[i.toNat].length : Int)))) (w' := w) [] hs rfl)]
        have : ws.getD i.toNat [] = ws[i.toNat] := by simp [List.getD, List.getElem?_eq_getElem hi]
        simp only [stampB, btw, hq, this, decide_true, Bool.and_self, Bool.true_and, outc_ret]
      | _ => simp [btw] at hq
  | .tup [], h => exact no _ true (notL _ (by simp))
  | .tup [a], h => exact no _ true (notL _ (by simp))
  | .tup (a :: b :: c :: r), h => exact no _ true (notL _ (by simp))
  | .non, h => exact no _ true (notT _ rfl rfl)
  | .bl _, h => exact no _ true (notT _ rfl rfl)
  | .int _, h => exact no _ true (notT _ rfl rfl)
  | .str _, h => exact no _ true (notT _ rfl rfl)
  | .lst _, h => exact no _ true (notT _ rfl rfl)
end Sp
end
section
set_option linter.all false
set_option maxRecDepth 100000
set_option maxHeartbeats 2000000
namespace Sp
open Sn
open Mn
theorem own_of_pairOk {d : D} (h : pairOk d = true) : isOwn d = false := by
  cases d <;> first | rfl | (simp [pairOk, isTyOk, isOwn] at h)
def onB (ws : List (List Nat)) (m : Int) : D → Bool
  | .tup l => decide (l.length ≤ 12) && l.all (stampB ws m)
  | _ => false
def onOk : D → Bool
  | .tup l => l.all pairOk
  | d => isTyOk d && !isOwn d
theorem own_of_onOk {d : D} (h : onOk d = true) : isOwn d = false := by
  cases d <;> first | rfl | (simp [onOk, isTyOk, isOwn] at h)
theorem p_on (ws : List (List Nat)) (m : Int) (d : D) (h : onOk d = true) (k : Nat) (w : W) : Phi PR NN (k + 3) 8 [.tup (ws.map .str), .int m, d] w = .ok (.bl (onB ws m d)) w := by
  show callF (Phi PR NN (k + 2)) NN f_are_stamps_on _ w = _
  rw [callF_is _ _ _ _ _ rfl]
  simp only [f_are_stamps_on, List.map, List.length, List.replicate, List.cons_append, List.nil_append]
  have notT : ∀ d : D, isTyOk d = true → isTy .tuple d = false → outc (runs (Phi PR NN (k + 2)) NN [.iff (.or [(.not (.blt (.isi .tuple) [(.var 2)])), (.cmp .gt (.blt .len [(.var 2)]) (.cst (.int 12)))]) [.ret [] (.cst (.bl false))] [], .ret [] (.blt .all [(.comp (.call 7 [(.var 0), (.var 1), (.var 3)]) [3] true .seq [(.var 2)] [])])] [some (.tup (ws.map .str)), some (.int m), some d, none] w) = .ok (.bl false) w := by
    intro d o q
    have ht : ev (Phi PR NN (k + 2)) (.or [(.not (.blt (.isi .tuple) [(.var 2)])), (.cmp .gt (.blt .len [(.var 2)]) (.cst (.int 12)))]) [some (.tup (ws.map .str)), some (.int m), some d, none] w = .ok (.bl true) w :=
      e_or (b := true) (e_not (a := false) (e_isi .tuple (e_var 2 rfl) o q)) (fun h => by cases h)
    rw [r_consR _ _ ((r_iffT _ _ ht).trans (r_consR _ _ (r_ret (d := .bl false) (w' := w) [] (e_cst _) rfl)))]
    rfl
  match d, h with
  | .tup l, h =>
    have ht := e_or (Φ := Phi PR NN (k + 2)) (ρ := [some (.tup (ws.map .str)), some (.int m), some (.tup l), none]) (w := w) (e_not (a := true) (e_isi .tuple (e_var 2 rfl) rfl rfl)) fun _ => e_or1 (e_gtI (e_len (e_var 2 rfl) (rfl : lenD (.tup l) = some l.length)) (e_cst (.int 12)))
    by_cases hl : l.length ≤ 12
    · rw [show (!true || decide ((12 : Int) < (l.length : Int))) = false by simp; omega] at ht
      rw [r_cons _ _ ((r_iffF _ _ ht).trans r_nil)]
      have hc : ev (Phi PR NN (k + 2)) (.comp (.call 7 [(.var 0), (.var 1), (.var 3)]) [3] true .seq [(.var 2)] []) [some (.tup (ws.map .str)), some (.int m), some (.tup l), none] w = .ok (.lst (l.map fun d => .bl (stampB ws m d))) w := by
        rw [ev_comp1]
        simp only [v_var, v_cst, v_tup, v_lst, v_bin, v_neg, v_not, v_eq, v_ne, v_lt, v_le, v_gt, v_ge, v_isin, v_notin, v_chain, v_and1, v_and2, v_or1, v_or2, v_ite, v_ix, v_sl, v_call, v_blt, v_mt, v_res, v_nil, v_cons, Bool.false_eq_true, at_0, at_1, at_2, at_3, at_4, at_5, at_6, at_7, at_8, at_9, at_10, r_bind, r_toS, r_some, s_next, s_ret, s_exc, s_tnext, s_tret, truth_bl, any_own0, any_own, own_int, own_str, own_bl, own_tup, own_lst, own_obj, own_fn, own_scr, own_non, or_ff, C.val, put_0, put_s, outc_next, outc_ret, outc_exc, if_true, if_false, Option.map_some, Bool.not_true, Bool.not_false, itemsOf, itemsD]
        rw [if_neg (by simp only [LIM]; omega), compGo_pure (g := fun d => .bl (stampB ws m d)) w]
        · rfl
        · intro x hx
          have px : pairOk x = true := List.all_eq_true.mp h x hx
          simp only [turnF, List.set]
          rw [e_call3 (x := .tup (ws.map .str)) (y := .int m) (z := x) (w' := w) 7 (e_var 0 rfl) (e_var 1 rfl) (e_var 3 rfl) rfl rfl (own_of_pairOk px) (p_stamp ws m x px k w)]
          rfl
      have ha := e_all hc
      rw [r_consR _ _ (r_ret (d := .bl (l.all (stampB ws m))) (w' := w) [] ha rfl)]
      simp only [onB, hl, decide_true, Bool.true_and, outc_ret]
    · rw [show (!true || decide ((12 : Int) < (l.length : Int))) = true by simp; omega] at ht
      rw [r_consR _ _ ((r_iffT _ _ ht).trans (r_consR _ _ (r_ret (d := .bl false) (w' := w) [] (e_cst _) rfl)))]
      simp only [onB, hl, decide_false, Bool.false_and, outc_ret]
  | .non, h => exact notT _ rfl rfl
  | .bl _, h => exact notT _ rfl rfl
  | .int _, h => exact notT _ rfl rfl
  | .str _, h => exact notT _ rfl rfl
  | .lst _, h => exact notT _ rfl rfl
theorem p_ckwords {ws : List (List Nat)} (hw : Ws ABCD ws) (k : Nat) (w : W) : Phi PR NN (k + 3) 4 [.tup (ws.map .str)] w = .ok .non w := by
  show callF (Phi PR NN (k + 2)) NN f_check_words _ w = _
  rw [callF_is _ _ _ _ _ rfl]
  simp only [f_check_words, List.map, List.length, List.replicate, List.cons_append, List.nil_append, Nat.sub_self]
  rw [r_cons _ _ ((r_iffF _ _ (e_not (a := true) (e_call1 2 (e_var 0 rfl) rfl (p_arewords hw k w)))).trans r_nil), r_nil]
  rfl
theorem p_ckboxes {m : Int} (h1 : 1 ≤ m) (h2 : m ≤ 8) (k : Nat) (w : W) : Phi PR NN (k + 2) 5 [.int m] w = .ok .non w := by
  show callF (Phi PR NN (k + 1)) NN f_check_boxes _ w = _
  rw [callF_is _ _ _ _ _ rfl]
  simp only [f_check_boxes, List.map, List.length, List.replicate, List.cons_append, List.nil_append, Nat.sub_self]
  have hb := p_between k w (.int m) 1 8 rfl
  rw [show btw (.int m) 1 8 = true by simp [btw, h1, h2]] at hb
  rw [r_cons _ _ ((r_iffF _ _ (e_not (a := true) (e_call3 0 (e_var 0 rfl) (e_cst (.int 1)) (e_cst (.int 8)) rfl rfl rfl hb))).trans r_nil), r_nil]
  rfl
theorem p_ckboth {ws : List (List Nat)} (hw : Ws ABCD ws) {m : Int} (h1 : 1 ≤ m) (h2 : m ≤ 8) (k : Nat) (w : W) : Phi PR NN (k + 4) 6 [.tup (ws.map .str), .int m] w = .ok .non w := by
  show callF (Phi PR NN (k + 3)) NN f_check_both _ w = _
  rw [callF_is _ _ _ _ _ rfl]
  simp only [f_check_both, List.map, List.length, List.replicate, List.cons_append, List.nil_append, Nat.sub_self]
  rw [r_cons _ _ (r_expr (e_call1 4 (e_var 0 rfl) rfl (p_ckwords hw k w))), r_cons _ _ (r_expr (e_call1 5 (e_var 1 rfl) rfl (p_ckboxes h1 h2 (k + 1) w))), r_nil]
  rfl
theorem p_are {ws : List (List Nat)} (hw : Ws ABCD ws) {m : Int} (h1 : 1 ≤ m) (h2 : m ≤ 8) (d : D) (h : onOk d = true) (k : Nat) (w : W) : Phi PR NN (k + 5) 9 [.tup (ws.map .str), .int m, d] w = .ok (.bl (onB ws m d)) w := by
  show callF (Phi PR NN (k + 4)) NN f_are_stamps _ w = _
  rw [callF_is _ _ _ _ _ rfl]
  simp only [f_are_stamps, List.map, List.length, List.replicate, List.cons_append, List.nil_append, Nat.sub_self]
  rw [r_cons _ _ (r_expr (e_call2 6 (e_var 0 rfl) (e_var 1 rfl) rfl rfl (p_ckboth hw h1 h2 k w))), r_consR _ _ (r_ret (d := .bl (onB ws m d)) (w' := w) [] (e_call3 8 (e_var 0 rfl) (e_var 1 rfl) (e_var 2 rfl) rfl rfl (own_of_onOk h) (p_on ws m d h (k + 1) w)) rfl)]
  rfl
end Sp
end
section
set_option linter.all false
set_option maxRecDepth 100000
set_option maxHeartbeats 4000000
namespace Sp
open Sn
open Mn
theorem p_odd (k : Nat) (w : W) : Phi PR NN (k + 8) 21 [] w = .ok (.bl true) w := by rfl
end Sp
end
section
set_option linter.all false
set_option maxRecDepth 100000
set_option maxHeartbeats 4000000
namespace Sp
open Sn
open Mn
section
variable {Φ : Nat → List D → W → Res D} {N : Nat} {ρ : Env} {w w' w2 : W}
theorem r_par2 (i j : Nat) {a b : E} {x y : D} (ha : ev Φ a ρ w = .ok x w') (hb : ev Φ b ρ w' = .ok y w2) (ox : isOwn x = false) (oy : isOwn y = false) : run Φ N (.par [(i, false), (j, false)] [a, b]) ρ w = .next ((ρ.put i x).put j y) w2 := by
  rw [run, v_cons, ha, r_bind, v_cons, hb, r_bind, v_nil, r_bind, r_bind, r_toS]
  simp only [putPar, ox, oy, Bool.false_eq_true, if_false]
  rfl
theorem e_addI {a b : E} {x y : Int} (ha : ev Φ a ρ w = .ok (.int x) w) (hb : ev Φ b ρ w = .ok (.int y) w') : ev Φ (.bin .add a b) ρ w = .ok (.int (x + y)) w' := by
  rw [v_bin, ha, r_bind, hb, r_bind]; rfl
theorem e_geI {a b : E} {x y : Int} (ha : ev Φ a ρ w = .ok (.int x) w) (hb : ev Φ b ρ w = .ok (.int y) w) : ev Φ (.cmp .ge a b) ρ w = .ok (.bl (decide (y ≤ x))) w := by
  rw [v_ge, ha, r_bind, hb, r_bind]; rfl
theorem e_cons {e : E} {r : List E} {d : D} {l : List D} (h1 : ev Φ e ρ w = .ok d w') (h2 : evs Φ r ρ w' = .ok l w2) : evs Φ (e :: r) ρ w = .ok (d :: l) w2 := by
  rw [v_cons, h1, r_bind, h2]; rfl
theorem e_nil : evs Φ [] ρ w = .ok [] w := v_nil _ _ _
theorem e_tup {es : List E} {l : List D} (h : evs Φ es ρ w = .ok l w') (o : l.any isOwn = false) : ev Φ (.tup es) ρ w = .ok (.tup l) w' := by
  rw [v_tup, h, r_bind, o]; rfl
end
theorem loop_no {body : Env → W → SRes} (a b c d e f g h i j : Option D) (w : W) : ∀ (xs : List D) (l : Option D), (∀ x ∈ xs, body [a, b, c, d, e, f, g, h, i, j, some x] w = .next [a, b, c, d, e, f, g, h, i, j, some x] w) → ∃ l', forGo [10] true body xs [a, b, c, d, e, f, g, h, i, j, l] w = .next [a, b, c, d, e, f, g, h, i, j, l'] w
  | [], l, _ => ⟨l, rfl⟩
  | x :: r, l, hb => by
    obtain ⟨l', hl⟩ := loop_no a b c d e f g h i j w r (some x) fun y hy => hb y (List.mem_cons_of_mem _ hy)
    refine ⟨l', ?_⟩
    simp only [forGo, bindT, put_s, put_0]
    rw [hb x List.mem_cons_self, s_tnext, hl]
theorem ps_on {ws : List (List Nat)} {m : Int} {ps : List D} (h : Ps ws m ps) : onOk (.tup ps) = true ∧ onB ws m (.tup ps) = true := by
  constructor
  · simp only [onOk, List.all_eq_true]
    intro d hd
    obtain ⟨i, j, hi, rfl, j0, j1⟩ := h.each d hd
    rfl
  · simp only [onB, Bool.and_eq_true, decide_eq_true_eq, List.all_eq_true]
    refine ⟨h.few, fun d hd => ?_⟩
    obtain ⟨i, j, hi, rfl, j0, j1⟩ := h.each d hd
    have : ws.getD i [] = ws[i] := by simp [List.getD, List.getElem?_eq_getElem hi]
    simp only [stampB, btw, Int.toNat_natCast, this, Bool.and_eq_true, decide_eq_true_eq]
    omega
theorem one_on {ws : List (List Nat)} {m : Int} (d : D) : onB ws m (.tup [d]) = stampB ws m d := by
  simp [onB]
theorem strOf_good {s : List Nat} {m : Int} (h1 : 1 ≤ s.length) (h2 : (s.length : Int) ≤ m) (h : ∀ c ∈ s, c ∈ ABCD) : strOf m s = true := by
  simp only [strOf, Bool.and_eq_true, decide_eq_true_eq, List.all_eq_true]
  exact ⟨⟨by omega, h2⟩, h⟩
theorem strOf_e (s : List Nat) (m : Int) : strOf m (s ++ [101]) = false := by
  simp [strOf, ABCD]
/-- one turn of the law's loop -/
theorem p_turn {ns : List Int} {n : Nat} {w : W} (g : Good ns n w) (k : Nat) (x a3 a4 a5 a6 a7 a8 a9 a10 : Option D) (body : List S)
    (hb : f_law.body = [.asg 1 (.call 17 []), .for_ [2] true .range [(.cst (.int 6))] body, .ret [] (.call 21 [])]) :
    ∃ b3 b4 b5 b6 b7 b8 b9 b10 w', runs (Phi PR NN (k + 8)) NN body [some .scr, some (.obj n), x, a3, a4, a5, a6, a7, a8, a9, a10] w = .next [some .scr, some (.obj n), x, b3, b4, b5, b6, b7, b8, b9, b10] w' ∧ Good ns n w' := by
  simp only [f_law, List.cons.injEq, S.for_.injEq, and_true, true_and] at hb
  subst hb
  obtain ⟨ws, w1, e1, hw, g1⟩ := p_words g (k + 5) 4 ABCD (by omega) (by omega) (by simp [ABCD]) (by simp [ABCD])
  obtain ⟨b, w2, e2, b0, b1, g2⟩ := p_draw g1 (k + 7) 8 (by omega) (by omega)
  obtain ⟨s, w3, e3, s0, s1, s2, g3⟩ := p_word g2 (k + 6) 8 ABCD (by omega) (by omega) (by simp [ABCD]) (by simp [ABCD])
  obtain ⟨ps, w4, e4, hp, g4⟩ := p_stamps g3 (k + 6) hw (1 + b) (by omega) (by omega)
  have h1 := hw.one
  have h4 := hw.four
  obtain ⟨i, w5, e5, i0, i1, g5⟩ := p_draw g4 (k + 7) ws.length (by omega) (by omega)
  obtain ⟨hi, ei⟩ := at_map i0 i1
  have hl : lenD (.tup (ws.map .str)) = some ws.length := by simp only [lenD, List.length_map]
  have hgd : ws.getD i.toNat [] = ws[i.toNat] := by simp [List.getD, List.getElem?_eq_getElem hi]
  rw [r_cons _ _ (r_par2 (w' := w1) (w2 := w2) (x := .tup (ws.map .str)) (y := .int (1 + b)) 3 4 (by simp only [v_var, v_cst, v_tup, v_lst, v_bin, v_neg, v_not, v_eq, v_ne, v_lt, v_le, v_gt, v_ge, v_isin, v_notin, v_chain, v_and1, v_and2, v_or1, v_or2, v_ite, v_ix, v_sl, v_call, v_blt, v_mt, v_res, v_nil, v_cons, Bool.false_eq_true, at_0, at_1, at_2, at_3, at_4, at_5, at_6, at_7, at_8, at_9, at_10, r_bind, r_toS, r_some, s_next, s_ret, s_exc, s_tnext, s_tret, truth_bl, any_own0, any_own, own_int, own_str, own_bl, own_tup, own_lst, own_obj, own_fn, own_scr, own_non, or_ff, C.val, put_0, put_s, outc_next, outc_ret, outc_exc, if_true, if_false, Option.map_some, Bool.not_true, Bool.not_false, e1]) (e_addI (e_cst (.int 1)) (by simp only [v_var, v_cst, v_tup, v_lst, v_bin, v_neg, v_not, v_eq, v_ne, v_lt, v_le, v_gt, v_ge, v_isin, v_notin, v_chain, v_and1, v_and2, v_or1, v_or2, v_ite, v_ix, v_sl, v_call, v_blt, v_mt, v_res, v_nil, v_cons, Bool.false_eq_true, at_0, at_1, at_2, at_3, at_4, at_5, at_6, at_7, at_8, at_9, at_10, r_bind, r_toS, r_some, s_next, s_ret, s_exc, s_tnext, s_tret, truth_bl, any_own0, any_own, own_int, own_str, own_bl, own_tup, own_lst, own_obj, own_fn, own_scr, own_non, or_ff, C.val, put_0, put_s, outc_next, outc_ret, outc_exc, if_true, if_false, Option.map_some, Bool.not_true, Bool.not_false, e2])) rfl rfl)]
  simp only [put_s, put_0]
  have t1 : ∀ a5, ev (Phi PR NN (k + 8)) (.or [(.not (.call 15 [(.call 2 [(.var 3)]), (.cst (.bl true))])), (.not (.call 15 [(.call 2 [(.blt .list [(.var 3)])]), (.cst (.bl false))]))]) [some .scr, some (.obj n), x, some (.tup (ws.map .str)), some (.int (1 + b)), a5, a6, a7, a8, a9, a10] w2 = .ok (.bl false) w2 := fun a5 =>
    e_or (a := false) (b := false) (e_not (a := true) (e_call2 15 (e_call1 2 (e_var 3 rfl) rfl (p_arewords hw (k + 6) w2)) (e_cst (.bl true)) rfl rfl (p_is true true (k + 7) w2))) fun _ =>
      e_or1 (e_not (a := true) (e_call2 15 (e_call1 (x := .lst (ws.map .str)) (w' := w2) 2 (by simp only [v_var, v_cst, v_tup, v_lst, v_bin, v_neg, v_not, v_eq, v_ne, v_lt, v_le, v_gt, v_ge, v_isin, v_notin, v_chain, v_and1, v_and2, v_or1, v_or2, v_ite, v_ix, v_sl, v_call, v_blt, v_mt, v_res, v_nil, v_cons, Bool.false_eq_true, at_0, at_1, at_2, at_3, at_4, at_5, at_6, at_7, at_8, at_9, at_10, r_bind, r_toS, r_some, s_next, s_ret, s_exc, s_tnext, s_tret, truth_bl, any_own0, any_own, own_int, own_str, own_bl, own_tup, own_lst, own_obj, own_fn, own_scr, own_non, or_ff, C.val, put_0, put_s, outc_next, outc_ret, outc_exc, if_true, if_false, Option.map_some, Bool.not_true, Bool.not_false, blt, bList, seqOf]) rfl (p_arewords_lst (ws.map .str) (k + 7) w2)) (e_cst (.bl false)) rfl rfl (p_is false false (k + 7) w2)))
  rw [r_cons _ _ ((r_iffF _ _ (t1 _)).trans r_nil)]
  rw [r_cons _ _ (r_asg (d := .str s) (w' := w3) 5 (by simp only [v_var, v_cst, v_tup, v_lst, v_bin, v_neg, v_not, v_eq, v_ne, v_lt, v_le, v_gt, v_ge, v_isin, v_notin, v_chain, v_and1, v_and2, v_or1, v_or2, v_ite, v_ix, v_sl, v_call, v_blt, v_mt, v_res, v_nil, v_cons, Bool.false_eq_true, at_0, at_1, at_2, at_3, at_4, at_5, at_6, at_7, at_8, at_9, at_10, r_bind, r_toS, r_some, s_next, s_ret, s_exc, s_tnext, s_tret, truth_bl, any_own0, any_own, own_int, own_str, own_bl, own_tup, own_lst, own_obj, own_fn, own_scr, own_non, or_ff, C.val, put_0, put_s, outc_next, outc_ret, outc_exc, if_true, if_false, Option.map_some, Bool.not_true, Bool.not_false, e3]) rfl)]
  simp only [put_s, put_0]
  have hs : s.length + 1 ≤ LIM := by simp only [LIM]; omega
  have t2 : ∀ a6, ev (Phi PR NN (k + 8)) (.or [(.not (.call 15 [(.call 3 [(.var 5)]), (.cst (.bl true))])), (.not (.call 15 [(.call 3 [(.bin .add (.var 5) (.cst (.str [101])))]), (.cst (.bl false))]))]) [some .scr, some (.obj n), x, some (.tup (ws.map .str)), some (.int (1 + b)), some (.str s), a6, a7, a8, a9, a10] w3 = .ok (.bl false) w3 := by
    intro a6
    have q1 := p_row (k + 6) w3 s (by omega)
    rw [strOf_good s0 s1 s2] at q1
    have q2 := p_row (k + 6) w3 (s ++ [101]) (by simpa using hs)
    rw [strOf_e] at q2
    refine e_or (a := false) (b := false) (e_not (a := true) (e_call2 15 (e_call1 3 (e_var 5 rfl) rfl q1) (e_cst (.bl true)) rfl rfl (p_is true true (k + 7) w3))) fun _ =>
      e_or1 (e_not (a := true) (e_call2 15 (e_call1 (x := .str (s ++ [101])) (w' := w3) 3 ?_ rfl q2) (e_cst (.bl false)) rfl rfl (p_is false false (k + 7) w3)))
    simp only [v_var, v_cst, v_tup, v_lst, v_bin, v_neg, v_not, v_eq, v_ne, v_lt, v_le, v_gt, v_ge, v_isin, v_notin, v_chain, v_and1, v_and2, v_or1, v_or2, v_ite, v_ix, v_sl, v_call, v_blt, v_mt, v_res, v_nil, v_cons, Bool.false_eq_true, at_0, at_1, at_2, at_3, at_4, at_5, at_6, at_7, at_8, at_9, at_10, r_bind, r_toS, r_some, s_next, s_ret, s_exc, s_tnext, s_tret, truth_bl, any_own0, any_own, own_int, own_str, own_bl, own_tup, own_lst, own_obj, own_fn, own_scr, own_non, or_ff, C.val, put_0, put_s, outc_next, outc_ret, outc_exc, if_true, if_false, Option.map_some, Bool.not_true, Bool.not_false, binop, addD]
    rw [if_pos (by simpa using hs)]
    rfl
  rw [r_cons _ _ ((r_iffF _ _ (t2 _)).trans r_nil)]
  rw [r_cons _ _ (r_asg (d := .tup ps) (w' := w4) 6 (by simp only [v_var, v_cst, v_tup, v_lst, v_bin, v_neg, v_not, v_eq, v_ne, v_lt, v_le, v_gt, v_ge, v_isin, v_notin, v_chain, v_and1, v_and2, v_or1, v_or2, v_ite, v_ix, v_sl, v_call, v_blt, v_mt, v_res, v_nil, v_cons, Bool.false_eq_true, at_0, at_1, at_2, at_3, at_4, at_5, at_6, at_7, at_8, at_9, at_10, r_bind, r_toS, r_some, s_next, s_ret, s_exc, s_tnext, s_tret, truth_bl, any_own0, any_own, own_int, own_str, own_bl, own_tup, own_lst, own_obj, own_fn, own_scr, own_non, or_ff, C.val, put_0, put_s, outc_next, outc_ret, outc_exc, if_true, if_false, Option.map_some, Bool.not_true, Bool.not_false, e4]) rfl)]
  simp only [put_s, put_0]
  have pa : ∀ d, onOk d = true → ∀ w, Phi PR NN (k + 8) 9 [.tup (ws.map .str), .int (1 + b), d] w = .ok (.bl (onB ws (1 + b) d)) w := fun d h w => p_are hw (by omega) (by omega) d h (k + 3) w
  have t3 : ∀ a7 a8 a9 a10, ev (Phi PR NN (k + 8)) (.not (.call 15 [(.call 9 [(.var 3), (.var 4), (.var 6)]), (.cst (.bl true))])) [some .scr, some (.obj n), x, some (.tup (ws.map .str)), some (.int (1 + b)), some (.str s), some (.tup ps), a7, a8, a9, a10] w4 = .ok (.bl false) w4 := by
    intro a7 a8 a9 a10
    have q := pa (.tup ps) (ps_on hp).1 w4
    rw [(ps_on hp).2] at q
    exact e_not (a := true) (e_call2 15 (e_call3 9 (e_var 3 rfl) (e_var 4 rfl) (e_var 6 rfl) rfl rfl rfl q) (e_cst (.bl true)) rfl rfl (p_is true true (k + 7) w4))
  rw [r_cons _ _ ((r_iffF _ _ (t3 _ _ _ _)).trans r_nil)]
  rw [r_cons _ _ (r_asg (d := .int i) (w' := w5) 7 (by simp only [v_var, v_cst, v_tup, v_lst, v_bin, v_neg, v_not, v_eq, v_ne, v_lt, v_le, v_gt, v_ge, v_isin, v_notin, v_chain, v_and1, v_and2, v_or1, v_or2, v_ite, v_ix, v_sl, v_call, v_blt, v_mt, v_res, v_nil, v_cons, Bool.false_eq_true, at_0, at_1, at_2, at_3, at_4, at_5, at_6, at_7, at_8, at_9, at_10, r_bind, r_toS, r_some, s_next, s_ret, s_exc, s_tnext, s_tret, truth_bl, any_own0, any_own, own_int, own_str, own_bl, own_tup, own_lst, own_obj, own_fn, own_scr, own_non, or_ff, C.val, put_0, put_s, outc_next, outc_ret, outc_exc, if_true, if_false, Option.map_some, Bool.not_true, Bool.not_false, blt, bLen, lenD, List.length_map, e5]) rfl)]
  simp only [put_s, put_0]
  rw [r_cons _ _ (r_asg (d := .int (1 + b - (ws[i.toNat].length : Int))) (w' := w5) 8 (e_sub (e_var 4 rfl) (e_len (e_ix (e_var 3 rfl) (e_var 7 rfl) (show index (.tup (ws.map .str)) (.int i) = some (.str ws[i.toNat]) from ei)) rfl)) rfl)]
  simp only [put_s, put_0]
  generalize hr : 1 + b - (ws[i.toNat].length : Int) = room
  have t4 : ∀ a9 a10, ev (Phi PR NN (k + 8)) (.not (.call 15 [(.call 9 [(.var 3), (.var 4), (.tup [(.tup [(.var 7), (.var 8)])])]), (.cmp .ge (.var 8) (.cst (.int 0)))])) [some .scr, some (.obj n), x, some (.tup (ws.map .str)), some (.int (1 + b)), some (.str s), some (.tup ps), some (.int i), some (.int room), a9, a10] w5 = .ok (.bl false) w5 := by
    intro a9 a10
    have q := pa (.tup [.tup [.int i, .int room]]) rfl w5
    rw [one_on, show stampB ws (1 + b) (.tup [.int i, .int room]) = decide (0 ≤ room) by
      rw [Bool.eq_iff_iff]
      simp only [stampB, btw, hgd, Bool.and_eq_true, decide_eq_true_eq]
      omega] at q
    rw [show D.bl false = D.bl (!(decide (0 ≤ room) == decide (0 ≤ room))) by simp]
    exact e_not (e_call2 15 (e_call3 (z := .tup [.tup [.int i, .int room]]) (w' := w5) 9 (e_var 3 rfl) (e_var 4 rfl) (by simp only [v_var, v_cst, v_tup, v_lst, v_bin, v_neg, v_not, v_eq, v_ne, v_lt, v_le, v_gt, v_ge, v_isin, v_notin, v_chain, v_and1, v_and2, v_or1, v_or2, v_ite, v_ix, v_sl, v_call, v_blt, v_mt, v_res, v_nil, v_cons, Bool.false_eq_true, at_0, at_1, at_2, at_3, at_4, at_5, at_6, at_7, at_8, at_9, at_10, r_bind, r_toS, r_some, s_next, s_ret, s_exc, s_tnext, s_tret, truth_bl, any_own0, any_own, own_int, own_str, own_bl, own_tup, own_lst, own_obj, own_fn, own_scr, own_non, or_ff, C.val, put_0, put_s, outc_next, outc_ret, outc_exc, if_true, if_false, Option.map_some, Bool.not_true, Bool.not_false]) rfl rfl rfl q) (e_geI (e_var 8 rfl) (e_cst (.int 0))) rfl rfl (p_is (decide (0 ≤ room)) (decide (0 ≤ room)) (k + 7) w5))
  rw [r_cons _ _ ((r_iffF _ _ (t4 _ _)).trans r_nil)]
  rw [r_cons _ _ (r_asg (d := .lst [.tup [.int i, .int (room + 1)], .tup [.int i, .int (-1)], .tup [.int ws.length, .int 0], .tup [.int (-1), .int 0], .tup [.int i]]) (w' := w5) 9 (by simp only [v_var, v_cst, v_tup, v_lst, v_bin, v_neg, v_not, v_eq, v_ne, v_lt, v_le, v_gt, v_ge, v_isin, v_notin, v_chain, v_and1, v_and2, v_or1, v_or2, v_ite, v_ix, v_sl, v_call, v_blt, v_mt, v_res, v_nil, v_cons, Bool.false_eq_true, at_0, at_1, at_2, at_3, at_4, at_5, at_6, at_7, at_8, at_9, at_10, r_bind, r_toS, r_some, s_next, s_ret, s_exc, s_tnext, s_tret, truth_bl, any_own0, any_own, own_int, own_str, own_bl, own_tup, own_lst, own_obj, own_fn, own_scr, own_non, or_ff, C.val, put_0, put_s, outc_next, outc_ret, outc_exc, if_true, if_false, Option.map_some, Bool.not_true, Bool.not_false, binop, addD, blt, bLen, lenD, List.length_map]) rfl)]
  simp only [put_s, put_0]
  obtain ⟨l1, f1⟩ := loop_no (body := fun ρ w => runs (Phi PR NN (k + 8)) NN [.iff (.not (.call 15 [(.call 9 [(.var 3), (.var 4), (.tup [(.var 10)])]), (.cst (.bl false))])) [.ret [] (.cst (.bl false))] []] ρ w) (some .scr) (some (.obj n)) x (some (.tup (ws.map .str))) (some (.int (1 + b))) (some (.str s)) (some (.tup ps)) (some (.int i)) (some (.int room)) (some (.lst [.tup [.int i, .int (room + 1)], .tup [.int i, .int (-1)], .tup [.int ws.length, .int 0], .tup [.int (-1), .int 0], .tup [.int i]])) w5
    [.tup [.int i, .int (room + 1)], .tup [.int i, .int (-1)], .tup [.int ws.length, .int 0], .tup [.int (-1), .int 0], .tup [.int i], .lst [.int 0, .int 0], .tup [.bl true, .int 0], .non] a10 (by
      intro d hd
      have key : pairOk d = true ∧ stampB ws (1 + b) d = false := by
        simp only [List.mem_cons, List.not_mem_nil, or_false] at hd
        rcases hd with rfl | rfl | rfl | rfl | rfl | rfl | rfl | rfl
        · refine ⟨rfl, ?_⟩
          rw [Bool.eq_false_iff]
          simp only [stampB, btw, hgd, ne_eq, Bool.and_eq_true, decide_eq_true_eq]
          omega
        · refine ⟨rfl, ?_⟩
          rw [Bool.eq_false_iff]
          simp only [stampB, btw, hgd, ne_eq, Bool.and_eq_true, decide_eq_true_eq]
          omega
        · refine ⟨rfl, ?_⟩
          rw [Bool.eq_false_iff]
          simp only [stampB, btw, ne_eq, Bool.and_eq_true, decide_eq_true_eq]
          omega
        · refine ⟨rfl, ?_⟩
          rw [Bool.eq_false_iff]
          simp only [stampB, btw, ne_eq, Bool.and_eq_true, decide_eq_true_eq]
          omega
        · exact ⟨rfl, rfl⟩
        · exact ⟨rfl, rfl⟩
        · exact ⟨rfl, rfl⟩
        · exact ⟨rfl, rfl⟩
      have q := pa (.tup [d]) (by simp [onOk, key.1]) w5
      rw [one_on, key.2] at q
      refine (r_cons _ _ ((r_iffF _ _ (e_not (a := true) (e_call2 15 (e_call3 (z := .tup [d]) (w' := w5) 9 (e_var 3 rfl) (e_var 4 rfl) ?_ rfl rfl rfl q) (e_cst (.bl false)) rfl rfl (p_is false false (k + 7) w5)))).trans r_nil)).trans r_nil
      simp only [v_var, v_cst, v_tup, v_lst, v_bin, v_neg, v_not, v_eq, v_ne, v_lt, v_le, v_gt, v_ge, v_isin, v_notin, v_chain, v_and1, v_and2, v_or1, v_or2, v_ite, v_ix, v_sl, v_call, v_blt, v_mt, v_res, v_nil, v_cons, Bool.false_eq_true, at_0, at_1, at_2, at_3, at_4, at_5, at_6, at_7, at_8, at_9, at_10, r_bind, r_toS, r_some, s_next, s_ret, s_exc, s_tnext, s_tret, truth_bl, any_own0, any_own, own_int, own_str, own_bl, own_tup, own_lst, own_obj, own_fn, own_scr, own_non, or_ff, C.val, put_0, put_s, outc_next, outc_ret, outc_exc, if_true, if_false, Option.map_some, Bool.not_true, Bool.not_false, own_of_pairOk key.1])
  have r1 : run (Phi PR NN (k + 8)) NN (.for_ [10] true .seq [(.bin .add (.var 9) (.lst [(.lst [(.cst (.int 0)), (.cst (.int 0))]), (.tup [(.cst (.bl true)), (.cst (.int 0))]), (.cst .non)]))] [.iff (.not (.call 15 [(.call 9 [(.var 3), (.var 4), (.tup [(.var 10)])]), (.cst (.bl false))])) [.ret [] (.cst (.bl false))] []]) [some .scr, some (.obj n), x, some (.tup (ws.map .str)), some (.int (1 + b)), some (.str s), some (.tup ps), some (.int i), some (.int room), some (.lst [.tup [.int i, .int (room + 1)], .tup [.int i, .int (-1)], .tup [.int ws.length, .int 0], .tup [.int (-1), .int 0], .tup [.int i]]), a10] w5 = .next [some .scr, some (.obj n), x, some (.tup (ws.map .str)), some (.int (1 + b)), some (.str s), some (.tup ps), some (.int i), some (.int room), some (.lst [.tup [.int i, .int (room + 1)], .tup [.int i, .int (-1)], .tup [.int ws.length, .int 0], .tup [.int (-1), .int 0], .tup [.int i]]), l1] w5 := by
    rw [run]
    simp only [v_var, v_cst, v_tup, v_lst, v_bin, v_neg, v_not, v_eq, v_ne, v_lt, v_le, v_gt, v_ge, v_isin, v_notin, v_chain, v_and1, v_and2, v_or1, v_or2, v_ite, v_ix, v_sl, v_call, v_blt, v_mt, v_res, v_nil, v_cons, Bool.false_eq_true, at_0, at_1, at_2, at_3, at_4, at_5, at_6, at_7, at_8, at_9, at_10, r_bind, r_toS, r_some, s_next, s_ret, s_exc, s_tnext, s_tret, truth_bl, any_own0, any_own, own_int, own_str, own_bl, own_tup, own_lst, own_obj, own_fn, own_scr, own_non, or_ff, C.val, put_0, put_s, outc_next, outc_ret, outc_exc, if_true, if_false, Option.map_some, Bool.not_true, Bool.not_false]
    exact f1
  rw [r_cons _ _ r1]
  obtain ⟨l2, f2⟩ := loop_no (body := fun ρ w => runs (Phi PR NN (k + 8)) NN [.iff (.not (.call 15 [(.call 9 [(.var 3), (.var 4), (.var 10)]), (.cst (.bl false))])) [.ret [] (.cst (.bl false))] []] ρ w) (some .scr) (some (.obj n)) x (some (.tup (ws.map .str))) (some (.int (1 + b))) (some (.str s)) (some (.tup ps)) (some (.int i)) (some (.int room)) (some (.lst [.tup [.int i, .int (room + 1)], .tup [.int i, .int (-1)], .tup [.int ws.length, .int 0], .tup [.int (-1), .int 0], .tup [.int i]])) w5
    [.non, .lst ps, .str [48], .int 0, if 0 ≤ room then .tup (List.replicate 13 [D.tup [.int 0, .int room]]).flatten else .int 1] l1 (by
      intro d hd
      have key : onOk d = true ∧ onB ws (1 + b) d = false := by
        simp only [List.mem_cons, List.not_mem_nil, or_false] at hd
        rcases hd with rfl | rfl | rfl | rfl | rfl
        · exact ⟨rfl, rfl⟩
        · exact ⟨rfl, rfl⟩
        · exact ⟨rfl, rfl⟩
        · exact ⟨rfl, rfl⟩
        · by_cases h : 0 ≤ room
          · rw [if_pos h]; exact ⟨rfl, rfl⟩
          · rw [if_neg h]; exact ⟨rfl, rfl⟩
      have q := pa d key.1 w5
      rw [key.2] at q
      exact (r_cons _ _ ((r_iffF _ _ (e_not (a := true) (e_call2 15 (e_call3 9 (e_var 3 rfl) (e_var 4 rfl) (e_var 10 rfl) rfl rfl (own_of_onOk key.1) q) (e_cst (.bl false)) rfl rfl (p_is false false (k + 7) w5)))).trans r_nil)).trans r_nil)
  have ht : ev (Phi PR NN (k + 8)) (.ite (.cmp .ge (.var 8) (.cst (.int 0))) (.bin .mul (.tup [(.tup [(.cst (.int 0)), (.var 8)])]) (.cst (.int 13))) (.cst (.int 1))) [some .scr, some (.obj n), x, some (.tup (ws.map .str)), some (.int (1 + b)), some (.str s), some (.tup ps), some (.int i), some (.int room), some (.lst [.tup [.int i, .int (room + 1)], .tup [.int i, .int (-1)], .tup [.int ws.length, .int 0], .tup [.int (-1), .int 0], .tup [.int i]]), l1] w5 = .ok (if 0 ≤ room then .tup (List.replicate 13 [D.tup [.int 0, .int room]]).flatten else .int 1) w5 := by
    rw [v_ite, e_geI (e_var 8 rfl) (e_cst (.int 0)), r_bind]
    by_cases h : 0 ≤ room
    · simp only [h, decide_true, truth_bl, if_true]
      simp only [v_var, v_cst, v_tup, v_lst, v_bin, v_neg, v_not, v_eq, v_ne, v_lt, v_le, v_gt, v_ge, v_isin, v_notin, v_chain, v_and1, v_and2, v_or1, v_or2, v_ite, v_ix, v_sl, v_call, v_blt, v_mt, v_res, v_nil, v_cons, Bool.false_eq_true, at_0, at_1, at_2, at_3, at_4, at_5, at_6, at_7, at_8, at_9, at_10, r_bind, r_toS, r_some, s_next, s_ret, s_exc, s_tnext, s_tret, truth_bl, any_own0, any_own, own_int, own_str, own_bl, own_tup, own_lst, own_obj, own_fn, own_scr, own_non, or_ff, C.val, put_0, put_s, outc_next, outc_ret, outc_exc, if_true, if_false, Option.map_some, Bool.not_true, Bool.not_false]
      rfl
    · simp only [h, decide_false, truth_bl, if_false]
      simp only [v_var, v_cst, v_tup, v_lst, v_bin, v_neg, v_not, v_eq, v_ne, v_lt, v_le, v_gt, v_ge, v_isin, v_notin, v_chain, v_and1, v_and2, v_or1, v_or2, v_ite, v_ix, v_sl, v_call, v_blt, v_mt, v_res, v_nil, v_cons, Bool.false_eq_true, at_0, at_1, at_2, at_3, at_4, at_5, at_6, at_7, at_8, at_9, at_10, r_bind, r_toS, r_some, s_next, s_ret, s_exc, s_tnext, s_tret, truth_bl, any_own0, any_own, own_int, own_str, own_bl, own_tup, own_lst, own_obj, own_fn, own_scr, own_non, or_ff, C.val, put_0, put_s, outc_next, outc_ret, outc_exc, if_true, if_false, Option.map_some, Bool.not_true, Bool.not_false]
  have r2 : run (Phi PR NN (k + 8)) NN (.for_ [10] true .seq [(.tup [(.cst .non), (.blt .list [(.var 6)]), (.cst (.str [48])), (.cst (.int 0)), (.ite (.cmp .ge (.var 8) (.cst (.int 0))) (.bin .mul (.tup [(.tup [(.cst (.int 0)), (.var 8)])]) (.cst (.int 13))) (.cst (.int 1)))])] [.iff (.not (.call 15 [(.call 9 [(.var 3), (.var 4), (.var 10)]), (.cst (.bl false))])) [.ret [] (.cst (.bl false))] []]) [some .scr, some (.obj n), x, some (.tup (ws.map .str)), some (.int (1 + b)), some (.str s), some (.tup ps), some (.int i), some (.int room), some (.lst [.tup [.int i, .int (room + 1)], .tup [.int i, .int (-1)], .tup [.int ws.length, .int 0], .tup [.int (-1), .int 0], .tup [.int i]]), l1] w5 = .next [some .scr, some (.obj n), x, some (.tup (ws.map .str)), some (.int (1 + b)), some (.str s), some (.tup ps), some (.int i), some (.int room), some (.lst [.tup [.int i, .int (room + 1)], .tup [.int i, .int (-1)], .tup [.int ws.length, .int 0], .tup [.int (-1), .int 0], .tup [.int i]]), l2] w5 := by
    have no : ([.non, .lst ps, .str [48], .int 0, if 0 ≤ room then .tup (List.replicate 13 [D.tup [.int 0, .int room]]).flatten else .int 1] : List D).any isOwn = false := by
      by_cases h : 0 ≤ room
      · rw [if_pos h]; rfl
      · rw [if_neg h]; rfl
    rw [run, e_cons (e_tup (e_cons (e_cst .non) (e_cons (d := .lst ps) (w' := w5) (by simp only [v_var, v_cst, v_tup, v_lst, v_bin, v_neg, v_not, v_eq, v_ne, v_lt, v_le, v_gt, v_ge, v_isin, v_notin, v_chain, v_and1, v_and2, v_or1, v_or2, v_ite, v_ix, v_sl, v_call, v_blt, v_mt, v_res, v_nil, v_cons, Bool.false_eq_true, at_0, at_1, at_2, at_3, at_4, at_5, at_6, at_7, at_8, at_9, at_10, r_bind, r_toS, r_some, s_next, s_ret, s_exc, s_tnext, s_tret, truth_bl, any_own0, any_own, own_int, own_str, own_bl, own_tup, own_lst, own_obj, own_fn, own_scr, own_non, or_ff, C.val, put_0, put_s, outc_next, outc_ret, outc_exc, if_true, if_false, Option.map_some, Bool.not_true, Bool.not_false, blt, bList, seqOf]) (e_cons (e_cst (.str [48])) (e_cons (e_cst (.int 0)) (e_cons ht e_nil))))) no) e_nil, r_toS]
    exact f2
  rw [r_cons _ _ r2, r_nil]
  exact ⟨_, _, _, _, _, _, _, _, _, rfl, g5⟩
end Sp
end
section
set_option linter.all false
set_option maxRecDepth 100000
set_option maxHeartbeats 4000000
namespace Sp
open Sn
open Mn
def lawBody : List S := [.par [(3, false), (4, false)] [(.call 19 [(.var 0), (.var 1), (.cst (.int 4)), (.cst (.str [97, 98, 99, 100]))]), (.bin .add (.cst (.int 1)) (.call 16 [(.var 0), (.var 1), (.cst (.int 8))]))], .iff (.or [(.not (.call 15 [(.call 2 [(.var 3)]), (.cst (.bl true))])), (.not (.call 15 [(.call 2 [(.blt .list [(.var 3)])]), (.cst (.bl false))]))]) [.ret [] (.cst (.bl false))] [], .asg 5 (.call 18 [(.var 0), (.var 1), (.cst (.int 8)), (.cst (.str [97, 98, 99, 100]))]), .iff (.or [(.not (.call 15 [(.call 3 [(.var 5)]), (.cst (.bl true))])), (.not (.call 15 [(.call 3 [(.bin .add (.var 5) (.cst (.str [101])))]), (.cst (.bl false))]))]) [.ret [] (.cst (.bl false))] [], .asg 6 (.call 20 [(.var 0), (.var 1), (.var 3), (.var 4), (.cst (.int 12))]), .iff (.not (.call 15 [(.call 9 [(.var 3), (.var 4), (.var 6)]), (.cst (.bl true))])) [.ret [] (.cst (.bl false))] [], .asg 7 (.call 16 [(.var 0), (.var 1), (.blt .len [(.var 3)])]), .asg 8 (.bin .sub (.var 4) (.blt .len [(.ix (.var 3) (.var 7))])), .iff (.not (.call 15 [(.call 9 [(.var 3), (.var 4), (.tup [(.tup [(.var 7), (.var 8)])])]), (.cmp .ge (.var 8) (.cst (.int 0)))])) [.ret [] (.cst (.bl false))] [], .asg 9 (.lst [(.tup [(.var 7), (.bin .add (.var 8) (.cst (.int 1)))]), (.tup [(.var 7), (.neg (.cst (.int 1)))]), (.tup [(.blt .len [(.var 3)]), (.cst (.int 0))]), (.tup [(.neg (.cst (.int 1))), (.cst (.int 0))]), (.tup [(.var 7)])]), .for_ [10] true .seq [(.bin .add (.var 9) (.lst [(.lst [(.cst (.int 0)), (.cst (.int 0))]), (.tup [(.cst (.bl true)), (.cst (.int 0))]), (.cst .non)]))] [.iff (.not (.call 15 [(.call 9 [(.var 3), (.var 4), (.tup [(.var 10)])]), (.cst (.bl false))])) [.ret [] (.cst (.bl false))] []], .for_ [10] true .seq [(.tup [(.cst .non), (.blt .list [(.var 6)]), (.cst (.str [48])), (.cst (.int 0)), (.ite (.cmp .ge (.var 8) (.cst (.int 0))) (.bin .mul (.tup [(.tup [(.cst (.int 0)), (.var 8)])]) (.cst (.int 13))) (.cst (.int 1)))])] [.iff (.not (.call 15 [(.call 9 [(.var 3), (.var 4), (.var 10)]), (.cst (.bl false))])) [.ret [] (.cst (.bl false))] []]]
theorem law_eq : f_law.body = [.asg 1 (.call 17 []), .for_ [2] true .range [(.cst (.int 6))] lawBody, .ret [] (.call 21 [])] := rfl
theorem p_loop {ns : List Int} {n : Nat} (k : Nat) : ∀ (xs : List D) (a2 a3 a4 a5 a6 a7 a8 a9 a10 : Option D) (w : W), Good ns n w → ∃ b2 b3 b4 b5 b6 b7 b8 b9 b10 w', forGo [2] true (fun ρ w => runs (Phi PR NN (k + 8)) NN lawBody ρ w) xs [some .scr, some (.obj n), a2, a3, a4, a5, a6, a7, a8, a9, a10] w = .next [some .scr, some (.obj n), b2, b3, b4, b5, b6, b7, b8, b9, b10] w' ∧ Good ns n w'
  | [], _, _, _, _, _, _, _, _, _, w, g => ⟨_, _, _, _, _, _, _, _, _, w, rfl, g⟩
  | x :: xs, a2, a3, a4, a5, a6, a7, a8, a9, a10, w, g => by
    obtain ⟨b3, b4, b5, b6, b7, b8, b9, b10, w1, e, g1⟩ := p_turn g k (some x) a3 a4 a5 a6 a7 a8 a9 a10 lawBody law_eq
    obtain ⟨c2, c3, c4, c5, c6, c7, c8, c9, c10, w2, e2, g2⟩ := p_loop k xs (some x) b3 b4 b5 b6 b7 b8 b9 b10 w1 g1
    refine ⟨c2, c3, c4, c5, c6, c7, c8, c9, c10, w2, ?_, g2⟩
    simp only [forGo, bindT, put_s, put_0]
    rw [e, s_tnext, e2]
theorem pure_law (ns : List Int) : ∃ w, Phi PR NN LL 22 [.scr] [.script ns] = .ok (.bl true) w := by
  obtain ⟨b2, b3, b4, b5, b6, b7, b8, b9, b10, w1, e, g1⟩ := p_loop 5 (rangeD 0 6) none none none none none none none none none [.script ns, .town 0 []] (good_begun ns)
  refine ⟨w1, ?_⟩
  show callF (Phi PR NN 13) NN f_law _ _ = _
  rw [callF_is _ _ _ _ _ rfl, law_eq]
  simp only [List.map, List.length, show f_law.ns = 11 from rfl, show f_law.np = 1 from rfl, List.replicate, List.cons_append, List.nil_append]
  have s1 : run (Phi PR NN 13) NN (.asg 1 (.call 17 [])) [some .scr, none, none, none, none, none, none, none, none, none, none] [.script ns] = .next [some .scr, some (.obj 1), none, none, none, none, none, none, none, none, none] [.script ns, .town 0 []] := by
    rw [r_asg (d := .obj 1) (w' := [.script ns, .town 0 []]) 1 (by rw [v_call, v_nil, r_bind]; exact p_begun 12 ns) rfl]
    rfl
  have s2 : run (Phi PR NN 13) NN (.for_ [2] true .range [(.cst (.int 6))] lawBody) [some .scr, some (.obj 1), none, none, none, none, none, none, none, none, none] [.script ns, .town 0 []] = .next [some .scr, some (.obj 1), b2, b3, b4, b5, b6, b7, b8, b9, b10] w1 := by
    rw [run, Sp.e_cons (Sp.e_cst (.int 6)) Sp.e_nil, r_toS]
    exact e
  rw [r_cons _ _ s1, r_cons _ _ s2, r_consR _ _ (r_ret (d := .bl true) (w' := w1) [] (by rw [v_call, v_nil, r_bind]; exact p_odd 5 w1) rfl)]
  rfl
end Sp
end
theorem PySem.Challenge.cw_stampedrows_k01_not_words_holds : PySem.Challenge.rw_stampedrows_k01_not_words.Holds :=
  Sn.done fun ns _ => Sp.pure_law ns
