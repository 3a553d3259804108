import PyProof.Rows.All
import Wide.All
import OpenK.AllK
import Wide.FinOn
import HandS.ForMost
import HandS.ForExc
import HandS.Lambda
import HandS.StrMore
import HandS.Wide
import PyProof.StrOps2
import KE.KEqNest
import HandS.CallSlots
import HandS.Flow
import HandS.Iter
import HandS.IsInst
import HandS.TupLen
import HandS.More
import HandS.Steps
import HandS.Small
import KE.SortData
import PyProof.ListStr
import HandS.Conv
import HandS.Zip
import HandS.ClsMeth
import HandS.Set
import HandS.SetFor
import PyProof.StrWalks
import KE.SortKeyHeap
import HandS.EndTab
import HandS.ExcOwn
import HandS.ExcInit
import HandS.ExcField
import HandS.ExcIs
import HandS.TryMany
import HandS.ExcValue
import KE.KExcIs
import HandS.HeadHook1
import HandS.WordsExc
import HandS.Defaults
import HandS.Head0
import HandS.Head1
import HandS.Head2
import HandS.HeadEnd
import HandS.HeadHook2
import HandS.HeadHook4
import HandS.EndBits
import PySem.Challenge.RW_lackword_k22_missing_or_not
set_option Elab.async false
set_option linter.all false
set_option maxRecDepth 100000
/-! PVL.Dom: plain values, the IR of the Python that is met, and what the IR means (core Lean alone). -/
namespace PVL

abbrev Txt := List Nat

/-- plain values: obj n is the n-th object of the store; exc: an exception of the class c with its fields -/
inductive PV where
  | non | bl (b : Bool) | int (i : Int) | str (s : Txt)
  | tup (xs : List PV) | lst (xs : List PV) | dic (kvs : List (PV × PV))
  | obj (n : Nat) | exc (c : Nat) (xs : List PV)
  deriving Inhabited

/-- own: a container that just this place holds, it may be changed; fz: never changed any more; br: lent, read only; lv: a name's own container, read just now -/
inductive Md where
  | own | fz | br | lv
  deriving DecidableEq, Inhabited

structure Rec where
  cls : Nat
  flds : List (Nat × PV)
  deriving Inhabited
abbrev Store := List Rec
inductive R (α : Type) where
  | ok (a : α) (ω : Store) | exc (c : Nat) (xs : List PV) (ω : Store) | bad
def R.bind {α β : Type} : R α → (α → Store → R β) → R β
  | .ok a ω, f => f a ω
  | .exc c xs ω, _ => .exc c xs ω
  | .bad, _ => .bad
abbrev VM := PV × Md
abbrev Fn := List VM → Store → R VM
abbrev Env := List (Option VM)
/-- the longest list, text -/
def line : Nat := 16777216

/-! ### values -/
def isC : PV → Bool
  | .lst _ => true
  | .dic _ => true
  | _ => false
mutual
def eqv : PV → PV → Bool
  | .non, y => match y with | .non => true | _ => false
  | .bl a, y => match y with | .bl b => a == b | .int j => (if a then 1 else 0) == j | _ => false
  | .int i, y => match y with | .bl b => i == (if b then 1 else 0) | .int j => i == j | _ => false
  | .str a, y => match y with | .str b => a == b | _ => false
  | .tup xs, y => match y with | .tup ys => eqvs xs ys | _ => false
  | .lst xs, y => match y with | .lst ys => eqvs xs ys | _ => false
  | .dic _, _ => false
  | .obj _, _ => false
  | .exc _ _, _ => false
def eqvs : List PV → List PV → Bool
  | [], ys => match ys with | [] => true | _ :: _ => false
  | x :: xs, ys => match ys with | [] => false | y :: ys => eqv x y && eqvs xs ys
end
mutual
/-- data whose == is served: how deep; none where it holds a dict, an object, an exception -/
def deep : PV → Option Nat
  | .non => some 0
  | .bl _ => some 0
  | .int _ => some 0
  | .str _ => some 0
  | .tup xs => (deeps xs).map (· + 1)
  | .lst xs => (deeps xs).map (· + 1)
  | .dic _ => none
  | .obj _ => none
  | .exc _ _ => none
def deeps : List PV → Option Nat
  | [] => some 0
  | x :: xs => (deep x).bind fun a => (deeps xs).map fun b => max a b
end
def eqOk (x y : PV) : Bool := match deep x, deep y with
  | some a, some b => decide (min a b ≤ 60)
  | _, _ => false
/-- a dict's key: an int, a text, a tuple of these -/
def flatKey : PV → Bool
  | .int _ => true
  | .str _ => true
  | _ => false
def tupKey : PV → Bool
  | .tup xs => xs.all flatKey
  | _ => false
def keyEq : PV → PV → Bool
  | .int i, y => match y with | .int j => i == j | _ => false
  | .str a, y => match y with | .str b => a == b | _ => false
  | .tup xs, y => match y with | .tup ys => eqvs xs ys | _ => false
  | _, _ => false
/-- does the key fit the dict: all its keys of one sort -/
def keyFits (kvs : List (PV × PV)) (k : PV) : Bool :=
  (flatKey k && kvs.all fun p => flatKey p.1) || (tupKey k && !kvs.isEmpty && kvs.all fun p => tupKey p.1)
def look (kvs : List (PV × PV)) (k : PV) : Option PV := (kvs.find? fun p => keyEq p.1 k).map (·.2)
def put (kvs : List (PV × PV)) (k v : PV) : List (PV × PV) :=
  if kvs.any (fun p => keyEq p.1 k) then kvs.map (fun p => if keyEq p.1 k then (p.1, v) else p) else kvs ++ [(k, v)]
def drop (kvs : List (PV × PV)) (k : PV) : List (PV × PV) := kvs.filter fun p => !keyEq p.1 k
/-- the truth of a value -/
def truthy : PV → Option Bool
  | .non => some false
  | .bl b => some b
  | .int i => some (i != 0)
  | .str s => some (!s.isEmpty)
  | .tup xs => some (!xs.isEmpty)
  | .lst xs => some (!xs.isEmpty)
  | _ => none
/-- an index within, from the left or from behind -/
def ixAt (n : Nat) (i : Int) : Option Nat :=
  if 0 ≤ i then (if i < n then some i.toNat else none) else if -(n : Int) ≤ i then some (i + n).toNat else none
/-- an end of a slice -/
def clip (n d : Nat) : Option Int → Nat
  | none => d
  | some i => if i < 0 then (i + (n : Int)).toNat else min i.toNat n
def cut {α : Type} (xs : List α) (lo hi : Option Int) : List α :=
  (xs.drop (clip xs.length 0 lo)).take (clip xs.length xs.length hi - clip xs.length 0 lo)
/-- does the word stand at the head -/
def isPre : Txt → Txt → Bool
  | [], _ => true
  | _ :: _, [] => false
  | a :: w, b :: t => a == b && isPre w t
/-- the first place from i on -/
def findFrom (w : Txt) : Txt → Nat → Int
  | [], i => if w = [] then (i : Int) else -1
  | c :: t, i => if isPre w (c :: t) then (i : Int) else findFrom w t (i + 1)
def find (t w : Txt) : Int := findFrom w t 0
def isIn (w t : Txt) : Bool := decide (0 ≤ find t w)
def joinT (sep : Txt) : List Txt → Txt
  | [] => []
  | [p] => p
  | p :: q :: r => p ++ (sep ++ joinT sep (q :: r))
def strsV : List PV → Option (List Txt)
  | [] => some []
  | .str s :: r => (strsV r).map (s :: ·)
  | _ :: _ => none
def intsV : List PV → Option (List Int)
  | [] => some []
  | .int i :: r => (intsV r).map (i :: ·)
  | _ :: _ => none
def boolsV : List PV → Option (List Bool)
  | [] => some []
  | .bl b :: r => (boolsV r).map (b :: ·)
  | _ :: _ => none
/-- the order of texts -/
def ltT : Txt → Txt → Bool
  | [], [] => false
  | [], _ :: _ => true
  | _ :: _, [] => false
  | a :: s, b :: t => if a < b then true else if b < a then false else ltT s t
def leT (a b : Txt) : Bool := !ltT b a
/-- the order of rows of ints -/
def ltI : List Int → List Int → Bool
  | [], [] => false
  | [], _ :: _ => true
  | _ :: _, [] => false
  | x :: xs, y :: ys => if x = y then ltI xs ys else decide (x < y)
/-- the order of words: by length, then as texts -/
def leW (a b : Txt) : Bool := if a.length < b.length then true else if b.length < a.length then false else leT a b

/-! ### operators -/
inductive BOp where | add | sub | mul | fdiv | mod | pow
  deriving DecidableEq
inductive COp where | eq | ne | lt | le | gt | ge | isin | notin | is | isnot
  deriving DecidableEq
/-- a product that the machine reckons -/
def mulOk (i j : Int) : Bool := decide (i.natAbs.log2 + j.natAbs.log2 < 100000000)
def binV : BOp → PV → PV → Option PV
  | .add, .int i, .int j => some (.int (i + j))
  | .add, .str a, .str b => if a.length + b.length ≤ line then some (.str (a ++ b)) else none
  | .add, .lst a, .lst b => if a.length + b.length ≤ line then some (.lst (a ++ b)) else none
  | .sub, .int i, .int j => some (.int (i - j))
  | .mul, .int i, .int j => if mulOk i j then some (.int (i * j)) else none
  | .mul, .str a, .int n => if a.length * n.toNat ≤ line ∧ -(2 ^ 62) ≤ n ∧ n < 2 ^ 62 then some (.str (List.replicate n.toNat a).flatten) else none
  | .fdiv, .int i, .int j => if 0 < j ∧ j.natAbs.log2 < 9000 then some (.int (i / j)) else none
  | .mod, .int i, .int j => if 0 < j then some (.int (i % j)) else none
  | .pow, .int i, .int j => if 0 ≤ j ∧ j ≤ 1000000 ∧ i.natAbs < 2 ^ 64 then some (.int (i ^ j.toNat)) else none
  | _, _, _ => none
/-- x op= y, of intsV and texts -/
def augV : BOp → PV → PV → Option PV
  | .add, .int i, .int j => some (.int (i + j))
  | .add, .str a, .str b => if a.length + b.length ≤ line then some (.str (a ++ b)) else none
  | .sub, .int i, .int j => some (.int (i - j))
  | _, _, _ => none
def flatS : PV → Bool
  | .non => true
  | .bl _ => true
  | .int _ => true
  | .str _ => true
  | _ => false
def inV (x : PV) : PV → Option Bool
  | .str t => match x with | .str w => some (isIn w t) | _ => none
  | .lst xs => if flatS x && xs.all flatS then some (xs.any fun y => eqv y x) else none
  | .tup xs => if flatS x && xs.all flatS then some (xs.any fun y => eqv y x) else none
  | .dic kvs => if keyFits kvs x then some (look kvs x).isSome else none
  | _ => none
def shal (x : PV) : Bool := match deep x with
  | some a => decide (a ≤ 60)
  | none => false
/-- d == e for two dicts whose keys are ints and texts, whose values are data -/
def dicEq : PV → PV → Option Bool
  | .dic ka, y => match y with
    | .dic kb => if ka.all (fun p => flatKey p.1 && shal p.2) && kb.all (fun p => flatKey p.1 && shal p.2) then
        some (ka.length == kb.length && ka.all fun p => match look kb p.1 with
          | none => false
          | some z => eqv p.2 z) else none
    | _ => none
  | _, _ => none
def cmpV : COp → PV → PV → Option Bool
  | .eq, x, y => if eqOk x y then some (eqv x y) else dicEq x y
  | .ne, x, y => if eqOk x y then some (!eqv x y) else none
  | .lt, .int i, .int j => some (decide (i < j))
  | .le, .int i, .int j => some (decide (i ≤ j))
  | .gt, .int i, .int j => some (decide (j < i))
  | .ge, .int i, .int j => some (decide (j ≤ i))
  | .lt, .str a, .str b => some (ltT a b)
  | .le, .str a, .str b => some (leT a b)
  | .gt, .str a, .str b => some (ltT b a)
  | .ge, .str a, .str b => some (leT b a)
  | .lt, .tup xs, .tup ys => (intsV xs).bind fun ns => (intsV ys).map fun ms => ltI ns ms
  | .isin, x, y => inV x y
  | .notin, x, y => (inV x y).map (!·)
  | .is, x, .non => some (match x with | .non => true | _ => false)
  | .isnot, x, .non => some (match x with | .non => false | _ => true)
  | _, _, _ => none
/-- a[i] -/
def idxV : PV → PV → Option PV
  | .str s, .int i => (ixAt s.length i).bind fun j => (s[j]?).map fun c => .str [c]
  | .lst xs, .int i => (ixAt xs.length i).bind fun j => xs[j]?
  | .tup xs, .int i => (ixAt xs.length i).bind fun j => xs[j]?
  | .dic kvs, k => if keyFits kvs k then look kvs k else none
  | _, _ => none
def optI : PV → Option (Option Int)
  | .non => some none
  | .int i => some (some i)
  | _ => none
def slcX (a : PV) (l h : Option Int) : Option PV := match a with
  | .str s => some (.str (cut s l h))
  | .lst xs => some (.lst (cut xs l h))
  | _ => none
def slcV (a lo hi : PV) : Option PV := (optI lo).bind fun l => (optI hi).bind fun h => slcX a l h
/-- the types that isinstance asks for; own: any of these classes of objects; exc: any of these classes of exceptions -/
inductive Ty where
  | int | bool | str | list | tuple | dict | own (d : Bool) (cs : List (Nat × Bool)) | exc (cs : List Nat)
def isTy (ω : Store) : PV → Ty → Option Bool
  | .non, _ => some false
  | .bl _, t => match t with | .bool => some true | .int => some true | _ => some false
  | .int _, t => match t with | .int => some true | _ => some false
  | .str _, t => match t with | .str => some true | _ => some false
  | .tup _, t => match t with | .tuple => some true | _ => some false
  | .lst _, t => match t with | .list => some true | _ => some false
  | .dic kvs, t => if kvs.all (fun p => flatKey p.1) then (match t with | .dict => some true | _ => some false) else none
  | .obj n, t => match t with | .own d cs => (ω[n]?).map fun r => (cs.lookup r.cls).getD d | _ => none
  | .exc c _, t => match t with | .exc cs => some (cs.contains c) | _ => none

/-! ### built-ins -/
inductive BF where
  | len | int | abs | max | min | sum | list | tuple | dict | sorted | sortedW | sortedR | sortedSet | all | any | str | range
  deriving DecidableEq
inductive BM where
  | find | startswith | join | upper | get | values | replace | split | rfind | index | count | keys
  deriving DecidableEq
def charsOf (s : Txt) : List PV := s.map fun c => .str [c]
/-- what a walk over a value meets -/
def itemsOf : PV → Option (List PV)
  | .str s => some (charsOf s)
  | .lst xs => some xs
  | .tup xs => some xs
  | .dic kvs => if kvs.all (fun p => flatKey p.1) then some (kvs.map (·.1)) else none
  | _ => none
def insT (le : Txt → Txt → Bool) (x : Txt) : List Txt → List Txt
  | [] => [x]
  | y :: r => if le x y then x :: y :: r else y :: insT le x r
/-- texts, each once, rising -/
def insX (w : Txt) : List Txt → List Txt
  | [] => [w]
  | v :: r => if ltT w v then w :: v :: r else if ltT v w then v :: insX w r else v :: r
def setW : List Txt → List Txt
  | [] => []
  | w :: ws => insX w (setW ws)
def onesT (s : Txt) : List Txt := s.map fun c => [c]
def numT (n : Nat) : Txt := (Nat.toDigits 10 n).map Char.toNat
def rowKey : PV → Option Txt
  | .tup (.str s :: _) => some s
  | _ => none
def rowKeys : List PV → Option (List (Txt × PV))
  | [] => some []
  | r :: rs => (rowKey r).bind fun k => (rowKeys rs).map ((k, r) :: ·)
def maxI : List Int → Option PV
  | [] => none
  | n :: r => some (.int (r.foldl Max.max n))
def minI : List Int → Option PV
  | [] => none
  | n :: r => some (.int (r.foldl Min.min n))
mutual
/-- may x < y be asked in a sort: the same shape -/
def alikeV : PV → PV → Bool
  | .bl _, y => match y with | .bl _ => true | _ => false
  | .int _, y => match y with | .int _ => true | _ => false
  | .str _, y => match y with | .str _ => true | _ => false
  | .tup xs, y => match y with | .tup ys => alikeVs xs ys | _ => false
  | .lst xs, y => match y with | .lst ys => alikeVs xs ys | _ => false
  | _, _ => false
def alikeVs : List PV → List PV → Bool
  | [], _ => true
  | x :: xs, ys => match ys with | [] => true | y :: ys => alikeV x y && alikeVs xs ys
end
mutual
/-- x < y, of one shape -/
def ltV : PV → PV → Bool
  | .bl a, y => match y with | .bl b => !a && b | _ => false
  | .int i, y => match y with | .int j => decide (i < j) | _ => false
  | .str a, y => match y with | .str b => ltT a b | _ => false
  | .tup xs, y => match y with | .tup ys => ltVs xs ys | _ => false
  | .lst xs, y => match y with | .lst ys => ltVs xs ys | _ => false
  | _, _ => false
def ltVs : List PV → List PV → Bool
  | [], ys => match ys with | [] => false | _ :: _ => true
  | x :: xs, ys => match ys with | [] => false | y :: ys => if eqv x y then ltVs xs ys else ltV x y
end
def leV (x y : PV) : Bool := !ltV y x
def isTup : PV → Bool
  | .tup _ => true
  | _ => false
def sortOk (xs : List PV) : Bool := (xs.all fun x => xs.all fun y => alikeV x y) && ((xs.all fun x => match x with | .tup (_ :: _) => true | _ => false) || xs.all fun x => !isTup x) && (xs.all fun x => match deep x with | some n => decide (n ≤ 60) | none => false)
def sortV (xs : List PV) : Option PV := if sortOk xs then some (.lst (xs.mergeSort leV)) else none
def bfV : BF → List PV → Option PV
  | .len, [.str s] => some (.int s.length)
  | .len, [.lst xs] => some (.int xs.length)
  | .len, [.tup xs] => some (.int xs.length)
  | .len, [.dic kvs] => some (.int kvs.length)
  | .int, [.int i] => some (.int i)
  | .int, [.bl b] => some (.int (if b then 1 else 0))
  | .abs, [.int i] => some (.int (if i < 0 then -i else i))
  | .max, [.int i, .int j] => some (.int (if j > i then j else i))
  | .min, [.int i, .int j] => some (.int (if j < i then j else i))
  | .max, [.lst xs] => (intsV xs).bind maxI
  | .min, [.lst xs] => (intsV xs).bind minI
  | .sum, [.lst xs] => (intsV xs).map fun ns => .int ns.sum
  | .list, [.str s] => some (.lst (charsOf s))
  | .list, [.lst xs] => some (.lst xs)
  | .list, [.tup xs] => some (.lst xs)
  | .list, [.dic kvs] => if kvs.all (fun p => flatKey p.1) then some (.lst (kvs.map (·.1))) else none
  | .tuple, [.lst xs] => some (.tup xs)
  | .tuple, [.tup xs] => some (.tup xs)
  | .tuple, [.str s] => some (.tup (charsOf s))
  | .dict, [.dic kvs] => if kvs.all (fun p => flatKey p.1) then some (.dic kvs) else none
  | .sorted, [.lst xs] => sortV xs
  | .sorted, [.dic kvs] => (strsV (kvs.map (·.1))).map fun ws => .lst ((ws.mergeSort leT).map .str)
  | .sortedR, [.lst xs] => (rowKeys xs).map fun ks => .lst ((ks.mergeSort fun a b => leW a.1 b.1).map (·.2))
  | .sortedSet, [.str s] => if s.length < 4000 then some (.lst ((setW (onesT s)).map .str)) else none
  | .sortedSet, [.lst xs] => (strsV xs).bind fun ws => if ws.length < 4000 then some (.lst ((setW ws).map .str)) else none
  | .sortedW, [.lst xs] => (strsV xs).map fun ws => .lst ((ws.mergeSort leW).map .str)
  | .all, [.lst xs] => (boolsV xs).map fun bs => .bl (bs.all id)
  | .any, [.lst xs] => (boolsV xs).map fun bs => .bl (bs.any id)
  | .str, [.int i] => if i.natAbs.log2 < 1920 ∧ 0 ≤ i then some (.str (numT i.toNat)) else none
  | .str, [.str s] => some (.str s)
  | _, _ => none
def joinV (t : Txt) (ws : List Txt) : Option PV := if (ws.map List.length).sum + ws.length * t.length ≤ line then some (.str (joinT t ws)) else none
def upC (c : Nat) : Nat := if 97 ≤ c ∧ c ≤ 122 then c - 32 else c
def bmV : BM → PV → List PV → Option PV
  | .find, .str t, [.str w] => some (.int (find t w))
  | .find, .str t, [.str w, .int i] => if 0 ≤ i ∧ i < 2 ^ 62 then some (.int (if t.length < i.toNat then -1 else findFrom w (t.drop i.toNat) i.toNat)) else none
  | .startswith, .str t, [.str w] => some (.bl (isPre w t))
  | .upper, .str t, [] => if t.all (fun c => decide (c < 128)) = true ∧ t.length ≤ 5592405 then some (.str (t.map upC)) else none
  | .join, .str t, [.lst xs] => (strsV xs).bind (joinV t)
  | .join, .str t, [.tup xs] => (strsV xs).bind (joinV t)
  | .get, .dic kvs, [k] => if keyFits kvs k then some ((look kvs k).getD .non) else none
  | .get, .dic kvs, [k, d] => if keyFits kvs k then some ((look kvs k).getD d) else none
  | _, _, _ => none

/-- whose method it is -/
def bmOn : BM → PV → Bool
  | .get, x => match x with | .dic _ => true | _ => false
  | _, x => match x with | .str _ => true | _ => false

/-! ### the IR -/
mutual
inductive E where
  | var (i : Nat) | con (x : PV) | tup (es : Es) | lst (es : Es) | dct (es : Es)
  | bin (op : BOp) (a b : E) | neg (a : E) | cmp (op : COp) (a b : E) | chn (o1 o2 : COp) (a b c : E)
  | andV (a b : E) | orV (a b : E) | notV (t : T) | ite (t : T) (a b : E)
  | fld (f : Nat) (o : E) | idxF (f : Nat) (o i : E) | cmpF (op : COp) (f : Nat) (o b : E) | inF (op : COp) (a : E) (f : Nat) (o : E) | bfF (b : BF) (f : Nat) (o : E) | idx (a i : E) | slc (a lo hi : E)
  | call (f : Fn) (es : Es) | meth (tb : List (Nat × Fn)) (o : E) (es : Es) | new (c : Nat) (f : Fn) (es : Es) | mkx (c : Nat) (es : Es)
  | bm (m : BM) (o : E) (es : Es) | bf1 (f : BF) (a : E) | bf2 (f : BF) (a b : E) | inst (a : E) (ts : List Ty) | xfld (tb : List (Nat × Nat)) (o : E)
  | comp (e : E) (tg : List Nat) (it : It) (c : T) | bad
inductive Es where
  | nil | cons (e : E) (r : Es)
inductive T where
  | tt | val (e : E) | and (a b : T) | or (a b : T) | not (a : T)
inductive It where
  | val (e : E) | rng1 (a : E) | rng2 (a b : E) | rngD (a b : E) | enum (e : E) | zip (a b : E) | rev (e : E) | items (e : E) | values (e : E)
end

/-! ### names -/
def getV (ρ : Env) (i : Nat) : Option VM := (ρ[i]?).bind id
def setV (ρ : Env) (i : Nat) (v : VM) : Env := ρ.set i (some v)
/-- fresh things are handed on frozen -/
def Md.give : Md → Md
  | .own => .fz
  | .fz => .fz
  | .br => .br
  | .lv => .br
/-- may it be stored elsewhere -/
def keeps (v : VM) : Bool := !isC v.1 || match v.2 with | .own => true | .fz => true | .br => false | .lv => false
/-- what a def hands back -/
def told (v : VM) (ω : Store) : R VM := if keeps v then .ok v ω else .bad
/-- targets of a for, of an assignment -/
def assignT (ρ : Env) : List Nat → PV → Option Env
  | [i], x => some (setV ρ i (x, .fz))
  | is, .tup xs => if is.length = xs.length then some ((is.zip xs).foldl (fun ρ p => setV ρ p.1 (p.2, .fz)) ρ) else none
  | _, _ => none
/-- for x in xs: f -/
def foldC (f : PV → Store → R (Option PV)) : List PV → List PV → Store → R (List PV)
  | [], acc, ω => .ok acc ω
  | x :: xs, acc, ω => (f x ω).bind fun y ω => match y with
    | some y => if acc.length < line then foldC f xs (acc ++ [y]) ω else .bad
    | none => foldC f xs acc ω
/-- no exception leaves it -/
def R.calm {α : Type} : R α → R α
  | .ok a ω => .ok a ω
  | _ => .bad
/-- what a block sees of the names -/
def lendV (ρ : Env) : Env := ρ.map fun o => o.map fun v => (v.1, if v.2 = .own then .br else v.2)
def wipeV (ρ : Env) : List Nat → Env
  | [] => ρ
  | v :: vs => (wipeV ρ vs).set v none
/-- lo, lo + 1, .. -/
def upTo (lo : Int) (n : Nat) : List PV := (List.range n).map fun k => .int (lo + (k : Nat))
def downTo (hi : Int) (n : Nat) : List PV := (List.range n).map fun k => .int (hi - (k : Nat))
def small (i : Int) : Bool := decide (-(2 ^ 62) ≤ i ∧ i < 2 ^ 62)
/-- a mode is told of containers alone -/
def mk (x : PV) (m : Md) : VM := (x, if isC x then m else .fz)
def liftO (o : Option PV) (m : Md) (ω : Store) : R VM := match o with
  | some x => .ok (mk x m) ω
  | none => .bad
/-- a field -/
def fldV (ω : Store) (x : PV) (f : Nat) : Option PV := match x with
  | .obj n => (ω[n]?).bind fun r => r.flds.lookup f
  | _ => none
/-- a field of an exception: tb tells its place by the class -/
def xfV (tb : List (Nat × Nat)) (x : PV) : Option PV := match x with
  | .exc c xs => (tb.lookup c).bind fun j => xs[j]?
  | _ => none
def liftB (o : Option Bool) (ω : Store) : R VM := match o with
  | some b => .ok (.bl b, .fz) ω
  | none => .bad
/-- a display's pairs -/
def pairsV : List PV → Option (List (PV × PV))
  | [] => some []
  | k :: v :: r => (pairsV r).map ((k, v) :: ·)
  | _ => none
def dispV (xs : List PV) : Option PV := (pairsV xs).bind fun ps =>
  if ps.length ≤ 15 ∧ (ps.all fun p => flatKey p.1) then some (.dic (ps.foldl (fun d p => put d p.1 p.2) [])) else none

mutual
/-- an expression that calls no def -/
def pureE : E → Bool
  | .var _ => true
  | .con _ => true
  | .tup es => pureEs es
  | .lst es => pureEs es
  | .bin _ a b => pureE a && pureE b
  | .fld _ o => pureE o
  | .idxF _ o i => pureE o && pureE i
  | .idx a i => pureE a && pureE i
  | _ => false
def pureEs : Es → Bool
  | .nil => true
  | .cons e r => pureE e && pureEs r
end
def isNon : PV → Bool
  | .non => true
  | _ => false
/-- is there room for a field more -/
def roomF (ω : Store) (n : Nat) : Bool := match ω[n]? with
  | some r => decide (r.flds.length < 1000)
  | none => false
def isVar : E → Bool
  | .var _ => true
  | _ => false
def isD : PV → Bool
  | .dic _ => true
  | _ => false
mutual
/-- what an expression yields -/
def ev : E → Env → Store → R VM
  | .var i, ρ, ω => match getV ρ i with
    | some (x, m) => .ok (x, if m = .own then .lv else m) ω
    | none => .bad
  | .con x, _, ω => .ok (x, .fz) ω
  | .tup es, ρ, ω => (evK es ρ ω).bind fun xs ω => .ok (.tup xs, .fz) ω
  | .lst es, ρ, ω => (evK es ρ ω).bind fun xs ω => .ok (.lst xs, .own) ω
  | .dct es, ρ, ω => if pureEs es then (evK es ρ ω).bind fun xs ω => liftO (dispV xs) .own ω else .bad
  | .bin op a b, ρ, ω => (ev a ρ ω).bind fun x ω => (ev b ρ ω).bind fun y ω => liftO (binV op x.1 y.1) .own ω
  | .neg a, ρ, ω => (ev a ρ ω).bind fun x ω => match x.1 with | .int i => .ok (.int (-i), .fz) ω | _ => .bad
  | .cmp op a b, ρ, ω => (ev a ρ ω).bind fun x ω => (ev b ρ ω).bind fun y ω => liftB (cmpV op x.1 y.1) ω
  | .chn o1 o2 a b c, ρ, ω => (ev a ρ ω).bind fun x ω => (ev b ρ ω).bind fun y ω => match cmpV o1 x.1 y.1 with
    | some true => (ev c ρ ω).bind fun z ω => liftB (cmpV o2 y.1 z.1) ω
    | some false => .ok (.bl false, .fz) ω
    | none => .bad
  | .andV a b, ρ, ω => (ev a ρ ω).bind fun x ω => match x.1 with | .bl true => ev b ρ ω | .bl false => .ok (.bl false, .fz) ω | _ => .bad
  | .orV a b, ρ, ω => (ev a ρ ω).bind fun x ω => match x.1 with
    | .bl true => .ok (.bl true, .fz) ω
    | .bl false => ev b ρ ω
    | .str s => if s = [] then ev b ρ ω else .ok (.str s, .fz) ω
    | _ => .bad
  | .notV t, ρ, ω => (evT t ρ ω).bind fun b ω => .ok (.bl (!b), .fz) ω
  | .ite t a b, ρ, ω => (evT t ρ ω).bind fun c ω => if c then ev a ρ ω else ev b ρ ω
  | .fld f o, ρ, ω => (ev o ρ ω).bind fun x ω => (fldV ω x.1 f).elim .bad fun v => if isC v then .bad else .ok (v, .fz) ω
  | .idxF f o i, ρ, ω => (ev o ρ ω).bind fun x ω => (ev i ρ ω).bind fun y ω => (fldV ω x.1 f).elim .bad fun v => liftO (idxV v y.1) .fz ω
  | .cmpF op f o b, ρ, ω => (ev o ρ ω).bind fun x ω => (ev b ρ ω).bind fun y ω => (fldV ω x.1 f).elim .bad fun v => liftB (cmpV op v y.1) ω
  | .inF op a f o, ρ, ω => (ev a ρ ω).bind fun y ω => (ev o ρ ω).bind fun x ω => (fldV ω x.1 f).elim .bad fun v => liftB (cmpV op y.1 v) ω
  | .bfF g f o, ρ, ω => (ev o ρ ω).bind fun x ω => (fldV ω x.1 f).elim .bad fun v => liftO (bfV g [v]) .own ω
  | .idx a i, ρ, ω => (ev a ρ ω).bind fun x ω => (ev i ρ ω).bind fun y ω => liftO (idxV x.1 y.1) .fz ω
  | .slc a lo hi, ρ, ω => (ev a ρ ω).bind fun x ω => (ev lo ρ ω).bind fun l ω => if (optI l.1).isSome then (ev hi ρ ω).bind fun h ω => liftO (slcV x.1 l.1 h.1) .own ω else .bad
  | .call f es, ρ, ω => (evA es ρ ω).bind fun xs ω => (f xs ω).bind told
  | .meth tb o es, ρ, ω => (ev o ρ ω).bind fun x ω => match x.1 with
    | .obj n => match ω[n]? with
      | some r => match tb.lookup r.cls with
        | some f => (evA es ρ ω).bind fun xs ω => (f ((.obj n, .fz) :: xs) ω).bind told
        | none => .bad
      | none => .bad
    | _ => .bad
  | .new c f es, ρ, ω => (evA es ρ ω).bind fun xs ω => (f ((.obj ω.length, .fz) :: xs) (ω ++ [⟨c, []⟩])).bind fun r ω' => if isNon r.1 then .ok (.obj ω.length, .fz) ω' else .bad
  | .mkx c es, ρ, ω => (evK es ρ ω).bind fun xs ω => .ok (.exc c xs, .fz) ω
  | .bm m o es, ρ, ω => (ev o ρ ω).bind fun x ω => if bmOn m x.1 then (evK es ρ ω).bind fun xs ω => liftO (bmV m x.1 xs) .fz ω else .bad
  | .bf1 f a, ρ, ω => (ev a ρ ω).bind fun x ω => liftO (bfV f [x.1]) .own ω
  | .xfld tb o, ρ, ω => (ev o ρ ω).bind fun x ω => liftO (xfV tb x.1) .fz ω
  | .bf2 f a b, ρ, ω => (ev a ρ ω).bind fun x ω => (ev b ρ ω).bind fun y ω => liftO (bfV f [x.1, y.1]) .own ω
  | .inst a ts, ρ, ω => (ev a ρ ω).bind fun x ω => liftB (ts.foldr (fun t b => b.bind fun b => (isTy ω x.1 t).map (· || b)) (some false)) ω
  | .comp e tg it c, ρ, ω => (evI false it ρ ω).bind fun xs ω => (foldC (fun x ω => match assignT (wipeV (lendV ρ) tg) tg x with
      | none => .bad
      | some ρ' => ((evT c ρ' ω).bind fun b ω => if b then (ev e ρ' ω).bind fun y ω => if keeps y then .ok (some y.1) ω else .bad else .ok none ω).calm) xs [] ω).bind fun ys ω => .ok (.lst ys, .own) ω
  | .bad, _, _ => .bad
/-- items that are kept (of a display) -/
def evK : Es → Env → Store → R (List PV)
  | .nil, _, ω => .ok [] ω
  | .cons e r, ρ, ω => (ev e ρ ω).bind fun x ω => if keeps x then (evK r ρ ω).bind fun xs ω => .ok (x.1 :: xs) ω else .bad
/-- arguments of a def -/
def evA : Es → Env → Store → R (List VM)
  | .nil, _, ω => .ok [] ω
  | .cons e r, ρ, ω => (ev e ρ ω).bind fun x ω => (evA r ρ ω).bind fun xs ω => .ok ((x.1, x.2.give) :: xs) ω
def evT : T → Env → Store → R Bool
  | .tt, _, ω => .ok true ω
  | .val e, ρ, ω => (ev e ρ ω).bind fun x ω => match truthy x.1 with | some b => .ok b ω | none => .bad
  | .and a b, ρ, ω => (evT a ρ ω).bind fun x ω => if x then evT b ρ ω else .ok false ω
  | .or a b, ρ, ω => (evT a ρ ω).bind fun x ω => if x then .ok true ω else evT b ρ ω
  | .not a, ρ, ω => (evT a ρ ω).bind fun x ω => .ok (!x) ω
def evI (safe : Bool) : It → Env → Store → R (List PV)
  | .val e, ρ, ω => (ev e ρ ω).bind fun x ω => if safe && x.2 == .lv || isD x.1 && !(safe && isVar e) then .bad else match itemsOf x.1 with | some xs => .ok xs ω | none => .bad
  | .rng1 a, ρ, ω => (ev a ρ ω).bind fun x ω => match x.1 with
    | .int j => if small j then .ok (upTo 0 j.toNat) ω else .bad
    | _ => .bad
  | .rng2 a b, ρ, ω => (ev a ρ ω).bind fun x ω => (ev b ρ ω).bind fun y ω => match x.1, y.1 with
    | .int i, .int j => if small i && small j then .ok (upTo i (j - i).toNat) ω else .bad
    | _, _ => .bad
  | .rngD a b, ρ, ω => (ev a ρ ω).bind fun x ω => (ev b ρ ω).bind fun y ω => match x.1, y.1 with
    | .int i, .int j => if small i && small j then .ok (downTo i (i - j).toNat) ω else .bad
    | _, _ => .bad
  | .enum e, ρ, ω => (ev e ρ ω).bind fun x ω => if safe && x.2 == .lv then .bad else match x.1 with
    | .lst xs => .ok (xs.zipIdx.map fun p => .tup [.int (p.2 : Nat), p.1]) ω
    | _ => .bad
  | .zip a b, ρ, ω => (ev a ρ ω).bind fun x ω => (ev b ρ ω).bind fun y ω => if safe && (x.2 == .lv || y.2 == .lv) then .bad else match x.1, y.1 with
    | .lst xs, .lst ys => .ok ((xs.zip ys).map fun p => .tup [p.1, p.2]) ω
    | .tup xs, .tup ys => .ok ((xs.zip ys).map fun p => .tup [p.1, p.2]) ω
    | _, _ => .bad
  | .rev e, ρ, ω => (ev e ρ ω).bind fun x ω => if safe && x.2 == .lv then .bad else match x.1 with
    | .lst xs => .ok xs.reverse ω
    | _ => .bad
  | .items e, ρ, ω => (ev e ρ ω).bind fun x ω => if safe && x.2 == .lv then .bad else match x.1 with
    | .dic kvs => if kvs.all (fun p => flatKey p.1) then .ok (kvs.map fun p => .tup [p.1, p.2]) ω else .bad
    | _ => .bad
  | .values e, ρ, ω => (ev e ρ ω).bind fun x ω => if safe && x.2 == .lv then .bad else match x.1 with
    | .dic kvs => if kvs.all (fun p => flatKey p.1) then .ok (kvs.map (·.2)) ω else .bad
    | _ => .bad
end

/-! ### statements -/
/-- a place that holds a container -/
inductive Pl where
  | var (i : Nat) | fld (i : Nat) (f : Nat)
mutual
inductive S where
  | expr (e : E) | set (i : Nat) (e : E) | setT (is : List Nat) (e : E) | par (i j : Nat) (a b : E) | aug (i : Nat) (op : BOp) (e : E)
  | put (p : Pl) (k e : E) | augP (p : Pl) (k : E) (op : BOp) (e : E) | fset (i : Nat) (f : Nat) (e : E)
  | app (p : Pl) (e : E) | ins (p : Pl) (i e : E) | clr (p : Pl) | rev (p : Pl)
  | pop (is : List Nat) (p : Pl) (es : Es) | appPop (i j : Nat) (e : E)
  | frz (is : List Nat) (s : S)
  | ifs (c : T) (a b : Ss) | whl (c : T) (b : Ss) | for_ (tg : List Nat) (it : It) (b : Ss)
  | ret (e : E) | retV (i : Nat) | rais (e : E) | try_ (b : Ss) (hs : Hs)
  | brk | cnt | pass | bad
inductive Ss where
  | nil | cons (s : S) (r : Ss)
/-- clauses: the classes of exceptions, the name's slot, the suite -/
inductive Hs where
  | nil | cons (cs : List Nat) (i : Option Nat) (b : Ss) (r : Hs)
end

/-- the end of a statement -/
inductive F where
  | nx (ρ : Env) (ω : Store) | bk (ρ : Env) (ω : Store) | ct (ρ : Env) (ω : Store) | rt (v : VM) (ω : Store)
  | exc (c : Nat) (xs : List PV) (ρ : Env) (ω : Store) | bad
def F.seq (f : F) (k : Env → Store → F) : F := match f with
  | .nx ρ ω => k ρ ω
  | f => f
def R.to {α : Type} (r : R α) (ρ : Env) (k : α → Store → F) : F := match r with
  | .ok a ω => k a ω
  | .exc c xs ω => .exc c xs ρ ω
  | .bad => .bad
def freeze (ρ : Env) (i : Nat) : Env := match getV ρ i with
  | some (x, .own) => setV ρ i (x, .fz)
  | _ => ρ
/-- the container at a place -/
def plGet (p : Pl) (ρ : Env) (ω : Store) : R PV := match p with
  | .var i => match getV ρ i with
    | some (x, .own) => .ok x ω
    | _ => .bad
  | .fld i f => match getV ρ i with
    | some (.obj n, _) => match ω[n]? with
      | some r => match r.flds.lookup f with
        | some v => if isC v then .ok v ω else .bad
        | none => .bad
      | none => .bad
    | _ => .bad
def putF (f : Nat) (v : PV) : List (Nat × PV) → List (Nat × PV)
  | [] => [(f, v)]
  | (g, u) :: r => if g = f then (f, v) :: r else (g, u) :: putF f v r
def setF (ω : Store) (n f : Nat) (v : PV) : Store := match ω[n]? with
  | some r => ω.set n ⟨r.cls, putF f v r.flds⟩
  | none => ω
def plPut (p : Pl) (v : PV) (ρ : Env) (ω : Store) : F := match p with
  | .var i => .nx (setV ρ i (v, .own)) ω
  | .fld i f => match getV ρ i with
    | some (.obj n, _) => .nx ρ (setF ω n f v)
    | _ => .bad
/-- is there a list, a dict, to be changed -/
def plIs (k : PV → Bool) (p : Pl) (ρ : Env) (ω : Store) : Bool := match plGet p ρ ω with
  | .ok x _ => k x
  | _ => false
def isL : PV → Bool
  | .lst _ => true
  | _ => false
/-- are the arguments quiet (of a field's container) -/
def plE (p : Pl) (e : E) : Bool := match p with
  | .var _ => true
  | .fld _ _ => pureE e
def plEs (p : Pl) (e : Es) : Bool := match p with
  | .var _ => true
  | .fld _ _ => pureEs e
/-- x[k] = v -/
def storeV : PV → PV → PV → Option PV
  | .lst xs, .int i, v => (ixAt xs.length i).map fun j => .lst (xs.set j v)
  | .dic kvs, k, v => if keyFits kvs k ∧ kvs.length < line then some (.dic (put kvs k v)) else none
  | _, _, _ => none
/-- x.pop(..): what is told and what is left -/
def popV : PV → List PV → Option (PV × PV)
  | .lst xs, [] => (xs[xs.length - 1]?).map fun y => (y, .lst xs.dropLast)
  | .lst xs, [.int i] => if -(2 ^ 62) ≤ i ∧ i < 2 ^ 62 then (ixAt xs.length i).bind fun j => (xs[j]?).map fun y => (y, .lst (xs.eraseIdx j)) else none
  | .dic kvs, [k] => if flatKey k ∧ (kvs.all fun p => flatKey p.1) then (look kvs k).map fun y => (y, .dic (drop kvs k)) else none
  | _, _ => none
/-- the loop of a for -/
def forL (f : Env → Store → F) (tg : List Nat) : List PV → Env → Store → F
  | [], ρ, ω => .nx ρ ω
  | x :: xs, ρ, ω => match assignT ρ tg x with
    | none => .bad
    | some ρ' => match f ρ' ω with
      | .nx ρ ω => forL f tg xs ρ ω
      | .ct ρ ω => forL f tg xs ρ ω
      | .bk ρ ω => .nx ρ ω
      | r => r
/-- is a dict walked (it is locked the while: no exception may leave) -/
def lockI : It → Env → Bool
  | .val (.var i), ρ => match getV ρ i with
    | some (.dic _, _) => true
    | _ => false
  | .items _, _ => true
  | .values _, _ => true
  | _, _ => false
def F.calm (b : Bool) (f : F) : F := match f with
  | .exc c xs ρ ω => if b then .bad else .exc c xs ρ ω
  | f => f
/-- a while's turns, at most n -/
def whlN (c : Env → Store → R Bool) (f : Env → Store → F) : Nat → Env → Store → F
  | 0, _, _ => .bad
  | n + 1, ρ, ω => (c ρ ω).to ρ fun b ω => if b then (match f ρ ω with
      | .nx ρ ω => whlN c f n ρ ω
      | .ct ρ ω => whlN c f n ρ ω
      | .bk ρ ω => .nx ρ ω
      | r => r) else .nx ρ ω
open Classical in
noncomputable def whl (c : Env → Store → R Bool) (f : Env → Store → F) (ρ : Env) (ω : Store) : F :=
  if h : ∃ n, whlN c f n ρ ω ≠ .bad then whlN c f (choose h) ρ ω else .bad
/-- which clause takes an exception -/
def catch_ (c : Nat) (xs : List PV) (ρ : Env) (ω : Store) : List (List Nat × Option Nat × (Env → Store → F)) → F
  | [] => .exc c xs ρ ω
  | (cs, i, f) :: r => if cs.contains c then (match i with
      | none => (f ρ ω).calm true
      | some i => match f (setV ρ i (.exc c xs, .fz)) ω with
        | .nx ρ ω => .nx (ρ.set i none) ω
        | .bk ρ ω => .bk (ρ.set i none) ω
        | .ct ρ ω => .ct (ρ.set i none) ω
        | .rt v ω => .rt v ω
        | _ => .bad) else catch_ c xs ρ ω r
mutual
noncomputable def ex : S → Env → Store → F
  | .expr e, ρ, ω => (ev e ρ ω).to ρ fun _ ω => .nx ρ ω
  | .set i e, ρ, ω => (ev e ρ ω).to ρ fun x ω => if keeps x then .nx (setV ρ i x) ω else .bad
  | .setT is e, ρ, ω => (ev e ρ ω).to ρ fun x ω => match assignT ρ is x.1 with | some ρ => .nx ρ ω | none => .bad
  | .par i j a b, ρ, ω => (ev a ρ ω).to ρ fun x ω => if keeps x then (ev b ρ ω).to ρ fun y ω => if keeps y then .nx (setV (setV ρ i (x.1, .fz)) j (y.1, .fz)) ω else .bad else .bad
  | .aug i op e, ρ, ω => match getV ρ i with
    | some x => (ev e ρ ω).to ρ fun y ω => match augV op x.1 y.1 with
      | some z => .nx (setV ρ i (z, .fz)) ω
      | none => .bad
    | none => .bad
  | .put p k e, ρ, ω => (ev e ρ ω).to ρ fun v ω => if keeps v && plE p k && plIs isC p ρ ω then (ev k ρ ω).to ρ fun k ω => (plGet p ρ ω).to ρ fun x ω => match storeV x k.1 v.1 with
      | some x => plPut p x ρ ω
      | none => .bad
    else .bad
  | .augP p k op e, ρ, ω => if pureE k && plE p e && plIs isC p ρ ω then (ev k ρ ω).to ρ fun k ω => (plGet p ρ ω).to ρ fun x ω => match idxV x k.1 with
    | some old => (ev e ρ ω).to ρ fun v ω => match augV op old v.1 with
      | some z => match storeV x k.1 z with
        | some x => plPut p x ρ ω
        | none => .bad
      | none => .bad
    | none => .bad else .bad
  | .fset i f e, ρ, ω => (ev e ρ ω).to ρ fun v ω => match getV ρ i with
    | some (.obj n, _) => if isC v.1 && v.2 != .own || !roomF ω n then .bad else .nx ρ (setF ω n f v.1)
    | _ => .bad
  | .app p e, ρ, ω => if plIs isL p ρ ω && plE p e then (ev e ρ ω).to ρ fun v ω => if keeps v then (plGet p ρ ω).to ρ fun x ω => match x with
      | .lst xs => if xs.length < line then plPut p (.lst (xs ++ [v.1])) ρ ω else .bad
      | _ => .bad
    else .bad else .bad
  | .ins p i e, ρ, ω => if plIs isL p ρ ω && plE p i && plE p e then (ev i ρ ω).to ρ fun i ω => (ev e ρ ω).to ρ fun v ω => if keeps v then (plGet p ρ ω).to ρ fun x ω => match x, i.1 with
      | .lst xs, .int i => if 0 ≤ i ∧ i ≤ xs.length ∧ xs.length < line then plPut p (.lst (xs.take i.toNat ++ v.1 :: xs.drop i.toNat)) ρ ω else .bad
      | _, _ => .bad
    else .bad else .bad
  | .clr p, ρ, ω => (plGet p ρ ω).to ρ fun x ω => match x with
    | .lst _ => plPut p (.lst []) ρ ω
    | _ => .bad
  | .rev p, ρ, ω => (plGet p ρ ω).to ρ fun x ω => match x with
    | .lst xs => plPut p (.lst xs.reverse) ρ ω
    | _ => .bad
  | .pop is p es, ρ, ω => if plEs p es then (plGet p ρ ω).to ρ fun _ ω => (evK es ρ ω).to ρ fun ks ω => (plGet p ρ ω).to ρ fun x ω => match popV x ks with
    | some (y, x) => (plPut p x ρ ω).seq fun ρ ω => if is = [] then .nx ρ ω else (match assignT ρ is y with | some ρ => .nx ρ ω | none => .bad)
    | none => .bad
    else .bad
  | .appPop i j e, ρ, ω => if i != j && plIs isL (.var i) ρ ω && plIs isL (.var j) ρ ω then (ev e ρ ω).to ρ fun k ω => match getV ρ i, getV ρ j with
    | some (.lst xs, _), some (x, _) => match popV x [k.1] with
      | some (y, x) => if xs.length < line then .nx (setV (setV ρ j (x, .own)) i (.lst (xs ++ [y]), .own)) ω else .bad
      | none => .bad
    | _, _ => .bad
    else .bad
  | .frz is s, ρ, ω => ex s (is.foldl freeze ρ) ω
  | .ifs c a b, ρ, ω => (evT c ρ ω).to ρ fun t ω => if t then exs a ρ ω else exs b ρ ω
  | .whl c b, ρ, ω => whl (evT c) (exs b) ρ ω
  | .for_ tg it b, ρ, ω => ((evI true it ρ ω).to ρ fun xs ω => forL (exs b) tg xs ρ ω).calm (lockI it ρ)
  | .ret e, ρ, ω => (ev e ρ ω).to ρ fun x ω => if keeps x then .rt x ω else .bad
  | .retV i, ρ, ω => match getV ρ i with
    | some x => if keeps x then .rt x ω else .bad
    | none => .bad
  | .rais e, ρ, ω => (ev e ρ ω).to ρ fun x ω => match x.1 with
    | .exc c xs => .exc c xs ρ ω
    | _ => .bad
  | .try_ b hs, ρ, ω => match exs b ρ ω with
    | .exc c xs ρ ω => catch_ c xs ρ ω (exh hs)
    | f => f
  | .brk, ρ, ω => .bk ρ ω
  | .cnt, ρ, ω => .ct ρ ω
  | .pass, ρ, ω => .nx ρ ω
  | .bad, _, _ => .bad
noncomputable def exs : Ss → Env → Store → F
  | .nil, ρ, ω => .nx ρ ω
  | .cons s r, ρ, ω => (ex s ρ ω).seq (exs r)
noncomputable def exh : Hs → List (List Nat × Option Nat × (Env → Store → F))
  | .nil => []
  | .cons cs i b r => (cs, i, exs b) :: exh r
end
/-- a def: its parameters, how many names, its body -/
noncomputable def den (np n : Nat) (b : Ss) : Fn := fun xs ω =>
  if xs.length = np then (match exs b (xs.map some ++ List.replicate (n - np) none) ω with
    | .nx _ ω => .ok (.non, .fz) ω
    | .rt v ω => .ok v ω
    | .exc c xs _ ω => .exc c xs ω
    | _ => .bad) else .bad
end PVL

set_option maxHeartbeats 1000000
/-! PVS: how plain values stand in the machine's heap. -/
namespace PVS
open PySem L2 PVL

/-- what is fixed of a program: its written part, its classes and their fields' names, its exceptions -/
structure GS where
  K : PySem.W.Frag
  cl : Nat → Addr
  fnm : Nat → Str
  xcl : Nat → Addr
  xn : Nat
  xfs : Nat → List Str
  tabs : List (Addr × Str)
  inj : ∀ f g, fnm f = fnm g → f = g

abbrev mkS (s : Txt) : Str := ⟨s.toArray⟩
/-- a text as the machine has it: not too long, of code points -/
def okT (s : Txt) : Prop := s.length ≤ line ∧ ∀ c ∈ s, c < 0x110000
/-- a key as a plain value -/
def kP : Key → PV
  | .inl i => .int i
  | .inr s => .str s.cps.toList

def MutC : HO → Prop
  | .lst _ => True
  | .dK _ => True
  | .dT _ => True
  | _ => False
def At (H : Hp) (a : Addr) (u : HO) : Prop := H a = some u ∨ (MutC u ∧ ∃ o, H a = some (.frz o u))
theorem At.rd {H : Hp} {a : Addr} {u : HO} (h : At H a u) : Rd H a u := by
  rcases h with h | ⟨_, o, h⟩
  · exact .inl h
  · exact .inr ⟨o, h⟩
/-- Z within H -/
def Sub (Z H : Hp) : Prop := ∀ a u, Z a = some u → At H a u
theorem Sub.sqL {K : PySem.W.Frag} {Z H : Hp} (s : Sub Z H) {a : Addr} {xs : List V} (h : SqL K Z a xs) : SqL K H a xs := by
  rcases h with (h | ⟨o, h⟩) | h
  · exact .inl (s a _ h).rd
  · rcases s a _ h with q | ⟨m, _⟩
    · exact .inl (.inr ⟨o, q⟩)
    · exact m.elim
  · exact .inr h
theorem Sub.sqT {K : PySem.W.Frag} {Z H : Hp} (s : Sub Z H) {a : Addr} {xs : List V} (h : SqT K Z a xs) : SqT K H a xs := by
  rcases h with (h | ⟨o, h⟩) | h
  · exact .inl (s a _ h).rd
  · rcases s a _ h with q | ⟨m, _⟩
    · exact .inl (.inr ⟨o, q⟩)
    · exact m.elim
  · exact .inr h
theorem Same.sqT {K : PySem.W.Frag} {Z H : Hp} (s : Same Z H) {a : Addr} {xs : List V} (h : SqT K Z a xs) : SqT K H a xs := by
  rcases h with (h | ⟨o, h⟩) | h
  · exact .inl (.inl (s a _ h))
  · exact .inl (.inr ⟨o, s a _ h⟩)
  · exact .inr h

/-- the exception at a: its class, its own dict -/
def XO (cls : Value) (d : Option Addr) (a : Addr) : HO := .ext fun h => ∃ (oe : Obj) (vs : Array Value), h.get? a = some oe ∧ Zc cls d oe ∧ oe.data = .fields vs
mutual
/-- a value that never changes any more -/
inductive RV (G : GS) (Z : Hp) (ι : List (Addr × Addr)) : V → PV → Prop
  | non : RV G Z ι .non .non
  | bl (b : Bool) : RV G Z ι (.bl b) (.bl b)
  | int (i : Int) : RV G Z ι (.int i) (.int i)
  | str (s : Txt) : okT s → RV G Z ι (.str (mkS s)) (.str s)
  | tup {a : Addr} {vs : List V} {xs : List PV} : Z a = some (.tup vs) → RVs G Z ι vs xs → RV G Z ι (.ref a) (.tup xs)
  | lst {a : Addr} {vs : List V} {xs : List PV} : Rd Z a (.lst vs) → RVs G Z ι vs xs → RV G Z ι (.ref a) (.lst xs)
  | dK {a : Addr} {kvs : List (Key × V)} {ps : List (PV × PV)} : Z a = some (.dK kvs) → RK G Z ι kvs ps → RV G Z ι (.ref a) (.dic ps)
  | dT {a : Addr} {kvs : List (List Key × V)} {ps : List (PV × PV)} : Z a = some (.dT kvs) → RT G Z ι kvs ps → kvs ≠ [] → RV G Z ι (.ref a) (.dic ps)
  | obj {a dx : Addr} {n : Nat} : ι[n]? = some (a, dx) → RV G Z ι (.ref a) (.obj n)
  | exc0 {a : Addr} {c : Nat} : Z a = some (XO (.ref (G.xcl c)) none a) → c < G.xn → G.xfs c = [] → RV G Z ι (.ref a) (.exc c [])
  | exc {a dx : Addr} {c : Nat} {vs : List V} {xs : List PV} : Z a = some (XO (.ref (G.xcl c)) (some dx) a) → c < G.xn → Z dx = some (.xd ((G.xfs c).zip vs).reverse) → RVs G Z ι vs xs → (G.xfs c).length = xs.length → RV G Z ι (.ref a) (.exc c xs)
inductive RVs (G : GS) (Z : Hp) (ι : List (Addr × Addr)) : List V → List PV → Prop
  | nil : RVs G Z ι [] []
  | cons {v : V} {x : PV} {vs : List V} {xs : List PV} : RV G Z ι v x → RVs G Z ι vs xs → RVs G Z ι (v :: vs) (x :: xs)
inductive RK (G : GS) (Z : Hp) (ι : List (Addr × Addr)) : List (Key × V) → List (PV × PV) → Prop
  | nil : RK G Z ι [] []
  | cons {k : Key} {v : V} {x : PV} {vs : List (Key × V)} {xs : List (PV × PV)} : RV G Z ι v x → (∀ s, k = .inr s → okT s.cps.toList) → RK G Z ι vs xs → RK G Z ι ((k, v) :: vs) ((kP k, x) :: xs)
inductive RT (G : GS) (Z : Hp) (ι : List (Addr × Addr)) : List (List Key × V) → List (PV × PV) → Prop
  | nil : RT G Z ι [] []
  | cons {k : List Key} {v : V} {x : PV} {vs : List (List Key × V)} {xs : List (PV × PV)} : RV G Z ι v x → (∀ s, Sum.inr s ∈ k → okT s.cps.toList) → RT G Z ι vs xs → RT G Z ι ((k, v) :: vs) ((.tup (k.map kP), x) :: xs)
end

/-- the content of a container that may change -/
inductive RO (G : GS) (Z : Hp) (ι : List (Addr × Addr)) : HO → PV → Prop
  | lst {vs : List V} {xs : List PV} : RVs G Z ι vs xs → RO G Z ι (.lst vs) (.lst xs)
  | dK {kvs : List (Key × V)} {ps : List (PV × PV)} : RK G Z ι kvs ps → RO G Z ι (.dK kvs) (.dic ps)
  | dT {kvs : List (List Key × V)} {ps : List (PV × PV)} : RT G Z ι kvs ps → kvs ≠ [] → RO G Z ι (.dT kvs) (.dic ps)

theorem rd_mono {Z Z' : Hp} (hz : Same Z Z') {a : Addr} {u : HO} (h : Rd Z a u) : Rd Z' a u := by
  rcases h with h | ⟨o, h⟩
  · exact .inl (hz _ _ h)
  · exact .inr ⟨o, hz _ _ h⟩
theorem Sub.rdl {Z H : Hp} (s : Sub Z H) {a : Addr} {xs : List V} (h : Rd Z a (.lst xs)) : Rd H a (.lst xs) := by
  rcases h with h | ⟨o, h⟩
  · exact (s a _ h).rd
  · rcases s a _ h with q | ⟨m, _⟩
    · exact .inr ⟨o, q⟩
    · exact m.elim
theorem Sub.tup {Z H : Hp} (s : Sub Z H) {a : Addr} {xs : List V} (h : Z a = some (.tup xs)) : H a = some (.tup xs) := by
  rcases s a _ h with q | ⟨m, _⟩
  · exact q
  · exact m.elim
theorem pre_get {α : Type} {l l' : List α} {n : Nat} {x : α} (hi : l <+: l') (h : l[n]? = some x) : l'[n]? = some x := by
  obtain ⟨t, rfl⟩ := hi
  rw [List.getElem?_append_left (List.getElem?_eq_some_iff.mp h).1]
  exact h
section
variable {G : GS} {Z Z' : Hp} {ι ι' : List (Addr × Addr)}
mutual
theorem RV.mono (hz : Same Z Z') (hi : ι <+: ι') : ∀ {v : V} {x : PV}, RV G Z ι v x → RV G Z' ι' v x
  | _, _, .non => .non
  | _, _, .bl b => .bl b
  | _, _, .int i => .int i
  | _, _, .str s h => .str s h
  | _, _, .tup h r => .tup (hz _ _ h) (RVs.mono hz hi r)
  | _, _, .lst h r => .lst (rd_mono hz h) (RVs.mono hz hi r)
  | _, _, .dK h r => .dK (hz _ _ h) (RK.mono hz hi r)
  | _, _, .dT h r e => .dT (hz _ _ h) (RT.mono hz hi r) e
  | _, _, .obj h => .obj (pre_get hi h)
  | _, _, .exc0 h hc hf => .exc0 (hz _ _ h) hc hf
  | _, _, .exc h hc hd r hl => .exc (hz _ _ h) hc (hz _ _ hd) (RVs.mono hz hi r) hl
theorem RVs.mono (hz : Same Z Z') (hi : ι <+: ι') : ∀ {vs : List V} {xs : List PV}, RVs G Z ι vs xs → RVs G Z' ι' vs xs
  | _, _, .nil => .nil
  | _, _, .cons h r => .cons (RV.mono hz hi h) (RVs.mono hz hi r)
theorem RK.mono (hz : Same Z Z') (hi : ι <+: ι') : ∀ {vs : List (Key × V)} {xs : List (PV × PV)}, RK G Z ι vs xs → RK G Z' ι' vs xs
  | _, _, .nil => .nil
  | _, _, .cons h k r => .cons (RV.mono hz hi h) k (RK.mono hz hi r)
theorem RT.mono (hz : Same Z Z') (hi : ι <+: ι') : ∀ {vs : List (List Key × V)} {xs : List (PV × PV)}, RT G Z ι vs xs → RT G Z' ι' vs xs
  | _, _, .nil => .nil
  | _, _, .cons h k r => .cons (RV.mono hz hi h) k (RT.mono hz hi r)
end
theorem RO.mono (hz : Same Z Z') (hi : ι <+: ι') {o : HO} {x : PV} : RO G Z ι o x → RO G Z' ι' o x
  | .lst r => .lst (r.mono hz hi)
  | .dK r => .dK (r.mono hz hi)
  | .dT r e => .dT (r.mono hz hi) e
theorem RO.isC {o : HO} {x : PV} : RO G Z ι o x → isC x = true
  | .lst _ => rfl
  | .dK _ => rfl
  | .dT _ _ => rfl
theorem RO.mut {o : HO} {x : PV} : RO G Z ι o x → MutC o
  | .lst _ => trivial
  | .dK _ => trivial
  | .dT _ _ => trivial
/-- frozen where it stands -/
theorem RO.fz {o : HO} {x : PV} {a : Addr} (h : Z a = some o) : RO G Z ι o x → RV G Z ι (.ref a) x
  | .lst r => .lst (.inl h) r
  | .dK r => .dK h r
  | .dT r e => .dT h r e
theorem RVs.len {vs : List V} {xs : List PV} : RVs G Z ι vs xs → vs.length = xs.length
  | .nil => rfl
  | .cons _ r => congrArg (· + 1) r.len
theorem RK.len {vs : List (Key × V)} {xs : List (PV × PV)} : RK G Z ι vs xs → vs.length = xs.length
  | .nil => rfl
  | .cons _ _ r => congrArg (· + 1) r.len
theorem RT.len {vs : List (List Key × V)} {xs : List (PV × PV)} : RT G Z ι vs xs → vs.length = xs.length
  | .nil => rfl
  | .cons _ _ r => congrArg (· + 1) r.len
theorem RVs.get {i : Nat} : ∀ {vs : List V} {xs : List PV}, RVs G Z ι vs xs → ∀ {x : PV}, xs[i]? = some x → ∃ v, vs[i]? = some v ∧ RV G Z ι v x := by
  induction i with
  | zero =>
    intro vs xs h x e
    cases h with
    | nil => cases e
    | cons r _ => cases e; exact ⟨_, rfl, r⟩
  | succ i ih =>
    intro vs xs h x e
    cases h with
    | nil => cases e
    | cons _ r => exact ih r e
theorem RVs.get' {i : Nat} : ∀ {vs : List V} {xs : List PV}, RVs G Z ι vs xs → ∀ {v : V}, vs[i]? = some v → ∃ x, xs[i]? = some x ∧ RV G Z ι v x := by
  induction i with
  | zero =>
    intro vs xs h x e
    cases h with
    | nil => cases e
    | cons r _ => cases e; exact ⟨_, rfl, r⟩
  | succ i ih =>
    intro vs xs h x e
    cases h with
    | nil => cases e
    | cons _ r => exact ih r e
theorem RVs.app {vs ws : List V} {xs ys : List PV} (h : RVs G Z ι vs xs) (h' : RVs G Z ι ws ys) : RVs G Z ι (vs ++ ws) (xs ++ ys) := by
  induction vs generalizing xs with
  | nil => cases h; exact h'
  | cons v vs ih => cases h with | cons r t => exact .cons r (ih t)
theorem RVs.snoc {vs : List V} {xs : List PV} {v : V} {x : PV} (h : RVs G Z ι vs xs) (r : RV G Z ι v x) : RVs G Z ι (vs ++ [v]) (xs ++ [x]) := h.app (.cons r .nil)
theorem RVs.drop {vs : List V} {xs : List PV} (n : Nat) (h : RVs G Z ι vs xs) : RVs G Z ι (vs.drop n) (xs.drop n) := by
  induction n generalizing vs xs with
  | zero => exact h
  | succ n ih => cases h with | nil => exact .nil | cons _ t => exact ih t
theorem RVs.take {vs : List V} {xs : List PV} (n : Nat) (h : RVs G Z ι vs xs) : RVs G Z ι (vs.take n) (xs.take n) := by
  induction n generalizing vs xs with
  | zero => exact .nil
  | succ n ih => cases h with | nil => exact .nil | cons r t => exact .cons r (ih t)
theorem RVs.set {vs : List V} {xs : List PV} {v : V} {x : PV} (n : Nat) (h : RVs G Z ι vs xs) (r : RV G Z ι v x) : RVs G Z ι (vs.set n v) (xs.set n x) := by
  induction n generalizing vs xs with
  | zero => cases h with | nil => exact .nil | cons _ t => exact .cons r t
  | succ n ih => cases h with | nil => exact .nil | cons q t => exact .cons q (ih t)
theorem RVs.erase {vs : List V} {xs : List PV} (n : Nat) (h : RVs G Z ι vs xs) : RVs G Z ι (vs.eraseIdx n) (xs.eraseIdx n) := by
  induction n generalizing vs xs with
  | zero => cases h with | nil => exact .nil | cons _ t => exact t
  | succ n ih => cases h with | nil => exact .nil | cons q t => exact .cons q (ih t)
theorem RVs.rev {vs : List V} {xs : List PV} (h : RVs G Z ι vs xs) : RVs G Z ι vs.reverse xs.reverse := by
  induction vs generalizing xs with
  | nil => cases h; exact .nil
  | cons v vs ih => cases h with | cons r t => rw [List.reverse_cons, List.reverse_cons]; exact (ih t).snoc r
theorem RVs.dropLast {vs : List V} {xs : List PV} (h : RVs G Z ι vs xs) : RVs G Z ι vs.dropLast xs.dropLast := by
  rw [List.dropLast_eq_take, List.dropLast_eq_take, h.len]; exact h.take _
theorem RVs.strsV {vs : List V} {xs : List PV} {ws : List Txt} (h : RVs G Z ι vs xs) (e : PVL.strsV xs = some ws) : vs = (ws.map mkS).map V.str ∧ xs = ws.map PV.str ∧ ∀ w ∈ ws, okT w := by
  induction vs generalizing xs ws with
  | nil => cases h; cases e; exact ⟨rfl, rfl, fun _ h => by cases h⟩
  | cons v vs ih =>
    cases h with
    | cons r t =>
      cases r <;> simp only [PVL.strsV, Option.map_eq_some_iff, reduceCtorEq] at e
      obtain ⟨w, e1, rfl⟩ := e
      obtain ⟨h1, h2, h3⟩ := ih t e1
      refine ⟨by rw [h1]; rfl, by rw [h2]; rfl, fun u hu => ?_⟩
      rcases List.mem_cons.mp hu with rfl | hu
      · assumption
      · exact h3 u hu
theorem RVs.intsV {vs : List V} {xs : List PV} {ws : List Int} (h : RVs G Z ι vs xs) (e : PVL.intsV xs = some ws) : vs = ws.map V.int ∧ xs = ws.map PV.int := by
  induction vs generalizing xs ws with
  | nil => cases h; cases e; exact ⟨rfl, rfl⟩
  | cons v vs ih =>
    cases h with
    | cons r t =>
      cases r <;> simp only [PVL.intsV, Option.map_eq_some_iff, reduceCtorEq] at e
      obtain ⟨w, e1, rfl⟩ := e
      obtain ⟨h1, h2⟩ := ih t e1
      exact ⟨by rw [h1]; rfl, by rw [h2]; rfl⟩
theorem RVs.boolsV {vs : List V} {xs : List PV} {ws : List Bool} (h : RVs G Z ι vs xs) (e : PVL.boolsV xs = some ws) : vs = ws.map V.bl ∧ xs = ws.map PV.bl := by
  induction vs generalizing xs ws with
  | nil => cases h; cases e; exact ⟨rfl, rfl⟩
  | cons v vs ih =>
    cases h with
    | cons r t =>
      cases r <;> simp only [PVL.boolsV, Option.map_eq_some_iff, reduceCtorEq] at e
      obtain ⟨w, e1, rfl⟩ := e
      obtain ⟨h1, h2⟩ := ih t e1
      exact ⟨by rw [h1]; rfl, by rw [h2]; rfl⟩
end

/-! ### who holds what may change -/
inductive Ow where
  | slot (i : Nat) | ins (n : Nat) | dct (n : Nat) | fld (n j : Nat)
/-- what a field holds -/
def FR (G : GS) (Z : Hp) (ι : List (Addr × Addr)) (H : Hp) (v : V) (x : PV) : Prop :=
  if isC x = true then ∃ a o, v = .ref a ∧ H a = some o ∧ RO G Z ι o x else RV G Z ι v x
inductive FsR (G : GS) (Z : Hp) (ι : List (Addr × Addr)) (H : Hp) : List (Nat × PV) → List (Str × V) → Prop
  | nil : FsR G Z ι H [] []
  | cons {f : Nat} {x : PV} {v : V} {xs : List (Nat × PV)} {vs : List (Str × V)} : FR G Z ι H v x → FsR G Z ι H xs vs → FsR G Z ι H ((f, x) :: xs) ((G.fnm f, v) :: vs)
def owA (G : GS) (H : Hp) (ι : List (Addr × Addr)) (ω : PVL.Store) (ρ : PVL.Env) (σ : St) : Ow → Addr → Prop
  | .slot i, a => (∃ x, ρ[i]? = some (some (x, .own))) ∧ σ[i]? = some (some (.ref a))
  | .ins n, a => ∃ dx, ι[n]? = some (a, dx)
  | .dct n, a => ∃ b, ι[n]? = some (b, a)
  | .fld n j, a => ∃ b dx C fs nm r f x, ι[n]? = some (b, dx) ∧ H b = some (.ins C dx fs) ∧ fs[j]? = some (nm, .ref a) ∧ ω[n]? = some r ∧ r.flds[j]? = some (f, x) ∧ isC x = true
/-! ### the tables of code objects -/
/-- neither a table nor a thing told by its look -/
def plainO (u : HO) : Prop := (∀ ps, u ≠ .tbl ps) ∧ ∀ f, u ≠ .ext f
def NT (Z : Hp) : Prop := ∀ a ps, Z a ≠ some (.tbl ps)
theorem NT.upd {Z : Hp} (h : NT Z) {p : Addr} {o : HO} (pl : ∀ ps, o ≠ .tbl ps) : NT (upd Z p o) := fun a ps e => by
  by_cases ha : a = p
  · subst ha
    rw [upd_same] at e
    exact pl ps (Option.some.inj e)
  · rw [upd_ne ha] at e
    exact h a ps e
theorem NT.sub {Z Z1 : Hp} (h : NT Z1) (s : ∀ a u, Z a = some u → Z1 a = some u) : NT Z := fun a ps e => h a ps (s a _ e)
/-- the tables stand, and nobody else knows of one -/
structure TB (T : List (Addr × Str)) (Z B H : Hp) : Prop where
  t : LamX.Tabs T H
  z : NT Z
  b : NT B
section
variable {T : List (Addr × Str)} {Z Z' B B' H H' : Hp}
theorem tabs_at0 (t : LamX.Tabs T H) {a : Addr} (h : ∃ u, H a = some u ∧ plainO u) (k : ∀ b, b ≠ a → H' b = H b) : LamX.Tabs T H' := fun p hp => by
  obtain ⟨u, hu, h1, h2⟩ := h
  obtain ⟨ps, e1, e2, e3⟩ := t p hp
  refine ⟨ps, ?_, e2, fun pos cv hc => ?_⟩
  · rw [k _ fun z => by rw [z, hu] at e1; exact h1 ps (Option.some.inj e1)]
    exact e1
  · obtain ⟨c, q1, q2⟩ := e3 pos cv hc
    refine ⟨c, q1, ?_⟩
    rw [k _ fun z => by rw [z, hu] at q2; exact h2 _ (Option.some.inj q2)]
    exact q2
theorem TB.ext (t : TB T Z B H) (s : ∀ b u, H b = some u → H' b = some u) : TB T Z B H' := ⟨t.t.ext s, t.z, t.b⟩
theorem tabs_lay (t : TB T Z B H) {p : Addr} {o : HO} (hp : H p = none) : TB T Z B (upd H p o) := t.ext fun b u e => by rw [upd_ne (ne_of_none e hp)]; exact e
theorem tabs_upd (t : TB T Z B H) {a : Addr} {o : HO} (h : ∃ u, H a = some u ∧ plainO u) : TB T Z B (upd H a o) := ⟨tabs_at0 t.t h fun b hb => upd_ne hb, t.z, t.b⟩
theorem TB.fz (t : TB T Z B H) {p : Addr} {o : HO} (pl : ∀ ps, o ≠ .tbl ps) : TB T (upd Z p o) B H := ⟨t.t, t.z.upd pl, t.b⟩
theorem TB.addB (t : TB T Z B H) {p : Addr} {o : HO} (pl : ∀ ps, o ≠ .tbl ps) : TB T Z (upd B p o) H := ⟨t.t, t.z, t.b.upd pl⟩
end
/-- what a slot holds -/
def SR (G : GS) (Z B H : Hp) (ι : List (Addr × Addr)) (v : V) (x : PV) : Md → Prop
  | .own => ∃ a o, v = .ref a ∧ H a = some o ∧ RO G Z ι o x
  | .fz => RV G Z ι v x
  | .br => RV G Z ι v x ∨ ∃ a o, v = .ref a ∧ B a = some o ∧ RO G Z ι o x
  | .lv => False

structure Sim (G : GS) (Z B H : Hp) (ι : List (Addr × Addr)) (ω : PVL.Store) (ρ : PVL.Env) (σ : St) : Prop where
  zH : Sub Z H
  bH : Sub B H
  iL : ι.length = ω.length
  ob : ∀ (n : Nat) (r : PVL.Rec), ω[n]? = some r → ∃ b dx fs, ι[n]? = some (b, dx) ∧ H b = some (.ins (G.cl r.cls) dx fs) ∧ H dx = some (.own b) ∧ FsR G Z ι H r.flds fs
  sl : ∀ (i : Nat) (x : PV) (m : Md), ρ[i]? = some (some (x, m)) → ∃ v, σ[i]? = some (some v) ∧ SR G Z B H ι v x m
  len : ρ.length = σ.length
  inj : ∀ k k' a, owA G H ι ω ρ σ k a → owA G H ι ω ρ σ k' a → k = k'
  zno : ∀ k a, owA G H ι ω ρ σ k a → Z a = none ∧ B a = none
  zb : ∀ a o, B a = some o → Z a = none
  tb : TB G.tabs Z B H

/-- what comes behind, seen from a def's own place: what is frozen and what P tells stands as it stood -/
structure Ext (Z Z' : Hp) (P : Addr → Prop) (ι ι' : List (Addr × Addr)) (H H' : Hp) : Prop where
  z : Same Z Z'
  i : ι <+: ι'
  k : ∀ a, Z a ≠ none ∨ P a → H' a = H a
theorem Ext.refl {Z H : Hp} {P : Addr → Prop} {ι : List (Addr × Addr)} : Ext Z Z P ι ι H H := ⟨Same.refl _, List.prefix_refl _, fun _ _ => rfl⟩
theorem Ext.trans {Z Z1 Z2 H H1 H2 : Hp} {P : Addr → Prop} {ι ι1 ι2 : List (Addr × Addr)} (a : Ext Z Z1 P ι ι1 H H1) (b : Ext Z1 Z2 P ι1 ι2 H1 H2) : Ext Z Z2 P ι ι2 H H2 :=
  ⟨a.z.trans b.z, a.i.trans b.i, fun c h => (b.k c (h.imp (fun q => by
    cases e : Z c with
    | none => exact absurd e q
    | some o => rw [a.z c o e]; simp) id)).trans (a.k c h)⟩
theorem Ext.imp {Z Z1 H H1 : Hp} {P P' : Addr → Prop} {ι ι1 : List (Addr × Addr)} (a : Ext Z Z1 P ι ι1 H H1) (h : ∀ a, P' a → P a) : Ext Z Z1 P' ι ι1 H H1 := ⟨a.z, a.i, fun c q => a.k c (q.imp id (h c))⟩
/-- what is borrowed; and what the names hold, too -/
def PB (B : Hp) : Addr → Prop := fun a => B a ≠ none
def PO (B : Hp) (ρ : PVL.Env) (σ : St) : Addr → Prop := fun a => B a ≠ none ∨ ∃ (i : Nat) (x : PV), ρ[i]? = some (some (x, Md.own)) ∧ σ[i]? = some (some (V.ref a))
theorem Ext.pb {Z Z1 B H H1 : Hp} {ρ : PVL.Env} {σ : St} {ι ι1 : List (Addr × Addr)} (a : Ext Z Z1 (PO B ρ σ) ι ι1 H H1) : Ext Z Z1 (PB B) ι ι1 H H1 := a.imp fun _ h => .inl h

section
variable {G : GS} {Z Z' B H H' : Hp} {ι ι' : List (Addr × Addr)} {ω : PVL.Store} {ρ : PVL.Env} {σ : St}
theorem FsR.get {xs : List (Nat × PV)} {vs : List (Str × V)} (h : FsR G Z ι H xs vs) : ∀ {j : Nat} {f : Nat} {x : PV}, xs[j]? = some (f, x) → ∃ v, vs[j]? = some (G.fnm f, v) ∧ FR G Z ι H v x := by
  induction h with
  | nil => intro j f x e; simp at e
  | @cons f' x' v' xs' vs' r _ ih =>
    intro j f x e
    cases j with
    | zero => simp only [List.getElem?_cons_zero, Option.some.injEq, Prod.mk.injEq] at e; obtain ⟨rfl, rfl⟩ := e; exact ⟨_, rfl, r⟩
    | succ j => exact ih e
theorem FsR.imp {xs : List (Nat × PV)} {vs : List (Str × V)} (h : FsR G Z ι H xs vs) (hz : Same Z Z') (hi : ι <+: ι')
    (k : ∀ (j : Nat) (f : Nat) (x : PV) (nm : Str) (a : Addr) (o : HO), xs[j]? = some (f, x) → vs[j]? = some (nm, .ref a) → isC x = true → H a = some o → H' a = some o) : FsR G Z' ι' H' xs vs := by
  induction h with
  | nil => exact .nil
  | @cons f' x' v' xs' vs' r _ ih =>
    refine .cons ?_ (ih fun j f x nm a o h1 h2 h3 h4 => k (j + 1) f x nm a o h1 h2 h3 h4)
    unfold FR at r ⊢
    split
    · rename_i hc
      rw [if_pos hc] at r
      obtain ⟨a, o, rfl, e, q⟩ := r
      exact ⟨a, o, rfl, k 0 f' x' _ a o rfl rfl hc e, q.mono hz hi⟩
    · rename_i hc
      rw [if_neg hc] at r
      exact r.mono hz hi
theorem FsR.mono {xs : List (Nat × PV)} {vs : List (Str × V)} (h : FsR G Z ι H xs vs) (hz : Same Z Z') (hi : ι <+: ι') (s : Same H H') : FsR G Z' ι' H' xs vs := h.imp hz hi fun _ _ _ _ a o _ _ _ e => s a o e
theorem FsR.len {xs : List (Nat × PV)} {vs : List (Str × V)} (h : FsR G Z ι H xs vs) : xs.length = vs.length := by
  induction h with
  | nil => rfl
  | cons _ _ ih => simp [ih]
theorem FsR.lookup {xs : List (Nat × PV)} {vs : List (Str × V)} (h : FsR G Z ι H xs vs) {f : Nat} : ∀ {x : PV}, xs.lookup f = some x → ∃ v, vs.lookup (G.fnm f) = some v ∧ FR G Z ι H v x ∧ ∃ j : Nat, xs[j]? = some (f, x) ∧ vs[j]? = some (G.fnm f, v) := by
  induction h with
  | nil => intro x e; simp at e
  | @cons f' x' v' xs' vs' r _ ih =>
    intro x e
    rw [List.lookup_cons] at e
    by_cases hf : f = f'
    · subst hf
      simp only [beq_self_eq_true] at e
      cases e
      exact ⟨v', by simp [List.lookup_cons], r, 0, rfl, rfl⟩
    · have e1 : (f == f') = false := by simpa using hf
      have e2 : (G.fnm f == G.fnm f') = false := by simpa using fun z => hf (G.inj _ _ z)
      rw [e1] at e
      obtain ⟨v, h1, h2, j, h3, h4⟩ := ih e
      exact ⟨v, by rw [List.lookup_cons, e2]; exact h1, h2, j + 1, h3, h4⟩
theorem FsR.lookup_none {xs : List (Nat × PV)} {vs : List (Str × V)} (h : FsR G Z ι H xs vs) {f : Nat} (e : xs.lookup f = none) : vs.lookup (G.fnm f) = none := by
  induction h with
  | nil => rfl
  | @cons f' x' v' xs' vs' r _ ih =>
    rw [List.lookup_cons] at e
    by_cases hf : f = f'
    · subst hf
      simp at e
    · have e1 : (f == f') = false := by simpa using hf
      have e2 : (G.fnm f == G.fnm f') = false := by simpa using fun z => hf (G.inj _ _ z)
      rw [e1] at e
      rw [List.lookup_cons, e2]
      exact ih e
/-- the names of the fields are none but the class's -/
theorem FsR.names {xs : List (Nat × PV)} {vs : List (Str × V)} (h : FsR G Z ι H xs vs) {m : Str} (hm : ∀ f, m ≠ G.fnm f) : vs.lookup m = none := by
  induction h with
  | nil => rfl
  | @cons f' x' v' xs' vs' r _ ih =>
    have e2 : (m == G.fnm f') = false := by simpa using hm f'
    rw [List.lookup_cons, e2]
    exact ih

theorem pl_lst {vs : List V} : plainO (.lst vs) := ⟨(fun _ z => by cases z), (fun _ z => by cases z)⟩
theorem pl_dK {kvs : List (Key × V)} : plainO (.dK kvs) := ⟨(fun _ z => by cases z), (fun _ z => by cases z)⟩
theorem pl_tup {vs : List V} : plainO (.tup vs) := ⟨(fun _ z => by cases z), (fun _ z => by cases z)⟩
theorem pl_ins {C d : Addr} {fs : List (Str × V)} : plainO (.ins C d fs) := ⟨(fun _ z => by cases z), (fun _ z => by cases z)⟩
theorem pl_own {b : Addr} : plainO (.own b) := ⟨(fun _ z => by cases z), (fun _ z => by cases z)⟩
theorem pl_frz {o : Obj} {u : HO} : plainO (.frz o u) := ⟨(fun _ z => by cases z), (fun _ z => by cases z)⟩
theorem RO.pl {u : HO} {x : PV} (h : RO G Z ι u x) : plainO u := by
  cases h <;> exact ⟨(fun _ z => by cases z), (fun _ z => by cases z)⟩
/-! ### what stands in a Sim -/
theorem sub_some {Z H : Hp} (s : Sub Z H) {a : Addr} {u : HO} (h : Z a = some u) : ∃ o, H a = some o := by
  rcases s a u h with q | ⟨_, o, q⟩
  · exact ⟨_, q⟩
  · exact ⟨_, q⟩
theorem sub_none {Z H : Hp} (s : Sub Z H) {a : Addr} (h : H a = none) : Z a = none := by
  cases e : Z a with
  | none => rfl
  | some u =>
    obtain ⟨o, q⟩ := sub_some s e
    rw [h] at q; cases q
theorem Sim.owSome (S : Sim G Z B H ι ω ρ σ) {k : Ow} {a : Addr} (h : owA G H ι ω ρ σ k a) : ∃ o, H a = some o := by
  cases k with
  | slot i =>
    obtain ⟨⟨x, e⟩, e2⟩ := h
    obtain ⟨v, e3, b, o, rfl, e4, _⟩ := S.sl i x .own e
    rw [e2] at e3; cases e3
    exact ⟨o, e4⟩
  | ins n =>
    obtain ⟨dx, e⟩ := h
    have hn : n < ω.length := by rw [← S.iL]; exact (List.getElem?_eq_some_iff.mp e).1
    obtain ⟨b, dx', fs, e1, e2, _⟩ := S.ob n ω[n] (List.getElem?_eq_getElem hn)
    rw [e] at e1; cases e1
    exact ⟨_, e2⟩
  | dct n =>
    obtain ⟨dx, e⟩ := h
    have hn : n < ω.length := by rw [← S.iL]; exact (List.getElem?_eq_some_iff.mp e).1
    obtain ⟨b, dx', fs, e1, _, e2, _⟩ := S.ob n ω[n] (List.getElem?_eq_getElem hn)
    rw [e] at e1; cases e1
    exact ⟨_, e2⟩
  | fld n j =>
    obtain ⟨b, dx, C, fs, nm, r, f, x, e1, e2, e3, e4, e5, e6⟩ := h
    obtain ⟨b', dx', fs', q1, q2, _, q3⟩ := S.ob n r e4
    rw [e1] at q1; cases q1
    rw [e2] at q2; cases q2
    obtain ⟨v, q4, q5⟩ := q3.get e5
    rw [e3] at q4; cases q4
    unfold FR at q5
    rw [if_pos e6] at q5
    obtain ⟨a', o, z, q6, _⟩ := q5
    cases z
    exact ⟨o, q6⟩
theorem Sim.owPl (S : Sim G Z B H ι ω ρ σ) {k : Ow} {a : Addr} (h : owA G H ι ω ρ σ k a) : ∃ o, H a = some o ∧ plainO o := by
  cases k with
  | slot i =>
    obtain ⟨⟨x, e⟩, e2⟩ := h
    obtain ⟨v, e3, b, o, rfl, e4, e5⟩ := S.sl i x .own e
    rw [e2] at e3; cases e3
    exact ⟨o, e4, e5.pl⟩
  | ins n =>
    obtain ⟨dx, e⟩ := h
    have hn : n < ω.length := by rw [← S.iL]; exact (List.getElem?_eq_some_iff.mp e).1
    obtain ⟨b, dx', fs, e1, e2, _⟩ := S.ob n ω[n] (List.getElem?_eq_getElem hn)
    rw [e] at e1; cases e1
    exact ⟨_, e2, pl_ins⟩
  | dct n =>
    obtain ⟨dx, e⟩ := h
    have hn : n < ω.length := by rw [← S.iL]; exact (List.getElem?_eq_some_iff.mp e).1
    obtain ⟨b, dx', fs, e1, _, e2, _⟩ := S.ob n ω[n] (List.getElem?_eq_getElem hn)
    rw [e] at e1; cases e1
    exact ⟨_, e2, pl_own⟩
  | fld n j =>
    obtain ⟨b, dx, C, fs, nm, r, f, x, e1, e2, e3, e4, e5, e6⟩ := h
    obtain ⟨b', dx', fs', q1, q2, _, q3⟩ := S.ob n r e4
    rw [e1] at q1; cases q1
    rw [e2] at q2; cases q2
    obtain ⟨v, q4, q5⟩ := q3.get e5
    rw [e3] at q4; cases q4
    unfold FR at q5
    rw [if_pos e6] at q5
    obtain ⟨a', o, z, q6, q7⟩ := q5
    cases z
    exact ⟨o, q6, q7.pl⟩
theorem Sim.notOw (S : Sim G Z B H ι ω ρ σ) {a : Addr} (h : H a = none) (k : Ow) : ¬ owA G H ι ω ρ σ k a := fun z => by
  obtain ⟨o, e⟩ := S.owSome z
  rw [h] at e; cases e
theorem Sim.zn (S : Sim G Z B H ι ω ρ σ) {a : Addr} (h : H a = none) : Z a = none := sub_none S.zH h
theorem Sim.bn (S : Sim G Z B H ι ω ρ σ) {a : Addr} (h : H a = none) : B a = none := sub_none S.bH h
/-- owners are as the instances are -/
theorem owA_congr (e : ∀ (n : Nat) (b dx : Addr), ι[n]? = some (b, dx) → H' b = H b) {k : Ow} {a : Addr} : owA G H' ι ω ρ σ k a ↔ owA G H ι ω ρ σ k a := by
  cases k with
  | slot i => exact Iff.rfl
  | ins n => exact Iff.rfl
  | dct n => exact Iff.rfl
  | fld n j =>
    constructor
    · rintro ⟨b, dx, C, fs, nm, r, f, x, e1, e2, e3⟩
      exact ⟨b, dx, C, fs, nm, r, f, x, e1, by rw [← e n b dx e1]; exact e2, e3⟩
    · rintro ⟨b, dx, C, fs, nm, r, f, x, e1, e2, e3⟩
      exact ⟨b, dx, C, fs, nm, r, f, x, e1, by rw [e n b dx e1]; exact e2, e3⟩
theorem Sim.inst (S : Sim G Z B H ι ω ρ σ) {n : Nat} {b dx : Addr} (e : ι[n]? = some (b, dx)) : ∃ r fs, ω[n]? = some r ∧ H b = some (.ins (G.cl r.cls) dx fs) ∧ H dx = some (.own b) ∧ FsR G Z ι H r.flds fs := by
  have hn : n < ω.length := by rw [← S.iL]; exact (List.getElem?_eq_some_iff.mp e).1
  obtain ⟨b', dx', fs, e1, e2⟩ := S.ob n ω[n] (List.getElem?_eq_getElem hn)
  rw [e] at e1; cases e1
  exact ⟨_, fs, List.getElem?_eq_getElem hn, e2⟩

/-- a new thing is laid, nobody's -/
theorem Sim.lay (S : Sim G Z B H ι ω ρ σ) {p : Addr} (o : HO) (hp : H p = none) : Sim G Z B (upd H p o) ι ω ρ σ := by
  have s : Same H (upd H p o) := fun b u e => by rw [upd_ne (ne_of_none e hp)]; exact e
  have at_ : ∀ {a u}, At H a u → At (upd H p o) a u := fun {a u} h => by
    rcases h with h | ⟨m, x, h⟩
    · exact .inl (s _ _ h)
    · exact .inr ⟨m, x, s _ _ h⟩
  have oc : ∀ {k a}, owA G (upd H p o) ι ω ρ σ k a ↔ owA G H ι ω ρ σ k a := owA_congr fun n b dx e => by
    obtain ⟨r, fs, _, q, _⟩ := S.inst e
    rw [upd_ne (ne_of_none q hp)]
  refine ⟨fun a u e => at_ (S.zH a u e), fun a u e => at_ (S.bH a u e), S.iL, fun n r e => ?_, fun i x m e => ?_, S.len, fun k k' a h h' => S.inj k k' a (oc.mp h) (oc.mp h'), fun k a h => S.zno k a (oc.mp h), S.zb, tabs_lay S.tb hp⟩
  · obtain ⟨b, dx, fs, e1, e2, e3, e4⟩ := S.ob n r e
    exact ⟨b, dx, fs, e1, s _ _ e2, s _ _ e3, e4.mono (Same.refl _) (List.prefix_refl _) s⟩
  · obtain ⟨v, e1, e2⟩ := S.sl i x m e
    refine ⟨v, e1, ?_⟩
    cases m with
    | own => obtain ⟨a, u, h1, h2, h3⟩ := e2; exact ⟨a, u, h1, s _ _ h2, h3⟩
    | fz => exact e2
    | br => exact e2
    | lv => exact e2
theorem PO.some (S : Sim G Z B H ι ω ρ σ) {a : Addr} (h : PO B ρ σ a) : ∃ o, H a = some o := by
  rcases h with h | ⟨i, x, e1, e2⟩
  · cases e : B a with
    | none => exact absurd e h
    | some o => exact sub_some S.bH e
  · exact S.owSome (k := .slot i) ⟨⟨x, e1⟩, e2⟩
theorem Ext.lay (S : Sim G Z B H ι ω ρ σ) {p : Addr} (o : HO) (hp : H p = none) : Ext Z Z (PO B ρ σ) ι ι H (upd H p o) :=
  ⟨Same.refl _, List.prefix_refl _, fun a h => upd_ne fun z => by
    subst z
    rcases h with h | h
    · exact h (S.zn hp)
    · obtain ⟨u, e⟩ := PO.some S h
      rw [hp] at e; cases e⟩
/-- nobody's thing is frozen -/
theorem Sim.fzN (S : Sim G Z B H ι ω ρ σ) {p : Addr} {o : HO} (pl : ∀ ps, o ≠ .tbl ps) (hp : H p = some o) (hz : Z p = none) (hb : B p = none) (hn : ∀ k, ¬ owA G H ι ω ρ σ k p) : Sim G (upd Z p o) B H ι ω ρ σ := by
  have s : Same Z (upd Z p o) := fun b u e => by rw [upd_ne (ne_of_none e hz)]; exact e
  refine ⟨fun a u e => ?_, S.bH, S.iL, fun n r e => ?_, fun i x m e => ?_, S.len, S.inj, fun k a h => ?_, fun a u e => by rw [upd_ne (fun z => by subst z; rw [hb] at e; cases e)]; exact S.zb a u e, S.tb.fz pl⟩
  · by_cases ha : a = p
    · subst ha; rw [upd_same] at e; cases e; exact .inl hp
    · rw [upd_ne ha] at e; exact S.zH a u e
  · obtain ⟨b, dx, fs, e1, e2, e3, e4⟩ := S.ob n r e
    exact ⟨b, dx, fs, e1, e2, e3, e4.mono s (List.prefix_refl _) (Same.refl _)⟩
  · obtain ⟨v, e1, e2⟩ := S.sl i x m e
    refine ⟨v, e1, ?_⟩
    cases m with
    | own => obtain ⟨a, u, h1, h2, h3⟩ := e2; exact ⟨a, u, h1, h2, h3.mono s (List.prefix_refl _)⟩
    | fz => exact e2.mono s (List.prefix_refl _)
    | br =>
      rcases e2 with e2 | ⟨a, u, h1, h2, h3⟩
      · exact .inl (e2.mono s (List.prefix_refl _))
      · exact .inr ⟨a, u, h1, h2, h3.mono s (List.prefix_refl _)⟩
    | lv => exact e2
  · have ha : a ≠ p := fun z => hn k (z ▸ h)
    rw [upd_ne ha]
    exact S.zno k a h
theorem Sim.fz (S : Sim G Z B H ι ω ρ σ) {p : Addr} {o : HO} (pl : plainO o) (hp : H p = some o) (hz : Z p = none) (hb : B p = none) (hn : ∀ k, ¬ owA G H ι ω ρ σ k p) : Sim G (upd Z p o) B H ι ω ρ σ := S.fzN pl.1 hp hz hb hn
theorem Ext.fz {P : Addr → Prop} {p : Addr} {o : HO} (hz : Z p = none) : Ext Z (upd Z p o) P ι ι H H := ⟨fun b u e => by rw [upd_ne (ne_of_none e hz)]; exact e, List.prefix_refl _, fun _ _ => rfl⟩
end
end PVS

set_option maxHeartbeats 1000000
/-! PVS: what changes. -/
namespace PVS
open PySem L2 PVL
section
variable {G : GS} {Z Z' B H H' : Hp} {ι ι' : List (Addr × Addr)} {ω : PVL.Store} {ρ : PVL.Env} {σ : St}

theorem getV_some {i : Nat} {v : VM} : getV ρ i = some v ↔ ρ[i]? = some (some v) := by
  unfold getV
  cases h : ρ[i]? with
  | none => simp
  | some o => simp
/-- owners of the store alone -/
theorem owA_slots {ρ' : PVL.Env} {σ' : St} {k : Ow} {a : Addr} (h : owA G H ι ω ρ σ k a) (hk : ∀ i, k ≠ .slot i) : owA G H ι ω ρ' σ' k a := by
  cases k with
  | slot i => exact absurd rfl (hk i)
  | ins n => exact h
  | dct n => exact h
  | fld n j => exact h

/-- a name holds another thing -/
theorem Sim.setS (S : Sim G Z B H ι ω ρ σ) {i : Nat} (hi : i < ρ.length) {v : V} {x : PV} {m : Md} (r : SR G Z B H ι v x m) (ho : m = .own → ∀ a, v = .ref a → Z a = none ∧ B a = none ∧ ∀ k, ¬ owA G H ι ω ρ σ k a) :
    Sim G Z B H ι ω (setV ρ i (x, m)) (σ.set i (some v)) := by
  have hσ : i < σ.length := by rw [← S.len]; exact hi
  -- who holds what, now
  have oc : ∀ {k a}, owA G H ι ω (setV ρ i (x, m)) (σ.set i (some v)) k a → (k = .slot i ∧ m = .own ∧ v = .ref a) ∨ owA G H ι ω ρ σ k a := by
    intro k a h
    cases k with
    | slot j =>
      by_cases hj : j = i
      · subst hj
        obtain ⟨⟨y, e1⟩, e2⟩ := h
        unfold setV at e1
        rw [List.getElem?_set_self hi] at e1
        rw [List.getElem?_set_self hσ] at e2
        cases e1; cases e2
        exact .inl ⟨rfl, rfl, rfl⟩
      · obtain ⟨⟨y, e1⟩, e2⟩ := h
        unfold setV at e1
        rw [List.getElem?_set_ne (Ne.symm hj)] at e1
        rw [List.getElem?_set_ne (Ne.symm hj)] at e2
        exact .inr ⟨⟨y, e1⟩, e2⟩
    | ins n => exact .inr h
    | dct n => exact .inr h
    | fld n j => exact .inr h
  refine ⟨S.zH, S.bH, S.iL, S.ob, fun j y q e => ?_, by simp [setV, S.len], fun k k' a h h' => ?_, fun k a h => ?_, S.zb, S.tb⟩
  · by_cases hj : j = i
    · subst hj
      unfold setV at e
      rw [List.getElem?_set_self hi] at e
      cases e
      exact ⟨v, List.getElem?_set_self hσ, r⟩
    · unfold setV at e
      rw [List.getElem?_set_ne (Ne.symm hj)] at e
      obtain ⟨u, e1, e2⟩ := S.sl j y q e
      exact ⟨u, by rw [List.getElem?_set_ne (Ne.symm hj)]; exact e1, e2⟩
  · rcases oc h with ⟨rfl, hm, hv⟩ | h1
    · rcases oc h' with ⟨rfl, _, _⟩ | h2
      · rfl
      · exact absurd h2 ((ho hm a hv).2.2 k')
    · rcases oc h' with ⟨rfl, hm, hv⟩ | h2
      · exact absurd h1 ((ho hm a hv).2.2 k)
      · exact S.inj k k' a h1 h2
  · rcases oc h with ⟨rfl, hm, hv⟩ | h1
    · exact ⟨(ho hm a hv).1, (ho hm a hv).2.1⟩
    · exact S.zno k a h1

/-- what is forgotten of the names -/
theorem Sim.clear (S : Sim G Z B H ι ω ρ σ) (i : Nat) : Sim G Z B H ι ω (ρ.set i none) (σ.set i none) := by
  have oc : ∀ {k a}, owA G H ι ω (ρ.set i none) (σ.set i none) k a → owA G H ι ω ρ σ k a := by
    intro k a h
    cases k with
    | slot j =>
      obtain ⟨⟨y, e1⟩, e2⟩ := h
      by_cases hj : j = i
      · subst hj
        by_cases hl : j < ρ.length
        · rw [List.getElem?_set_self hl] at e1; cases e1
        · rw [List.getElem?_eq_none (by simpa using hl)] at e1; cases e1
      · rw [List.getElem?_set_ne (Ne.symm hj)] at e1
        rw [List.getElem?_set_ne (Ne.symm hj)] at e2
        exact ⟨⟨y, e1⟩, e2⟩
    | ins n => exact h
    | dct n => exact h
    | fld n j => exact h
  refine ⟨S.zH, S.bH, S.iL, S.ob, fun j y q e => ?_, by simp [S.len], fun k k' a h h' => S.inj k k' a (oc h) (oc h'), fun k a h => S.zno k a (oc h), S.zb, S.tb⟩
  by_cases hj : j = i
  · subst hj
    by_cases hl : j < ρ.length
    · rw [List.getElem?_set_self hl] at e; cases e
    · rw [List.getElem?_eq_none (by simpa using hl)] at e; cases e
  · rw [List.getElem?_set_ne (Ne.symm hj)] at e
    obtain ⟨u, e1, e2⟩ := S.sl j y q e
    exact ⟨u, by rw [List.getElem?_set_ne (Ne.symm hj)]; exact e1, e2⟩
/-- weaker knowledge of the names: a part of ρ -/
theorem Sim.less (S : Sim G Z B H ι ω ρ σ) {ρ' : PVL.Env} (hl : ρ'.length = ρ.length) (w : ∀ (i : Nat) (v : VM), ρ'[i]? = some (some v) → ρ[i]? = some (some v)) : Sim G Z B H ι ω ρ' σ := by
  have oc : ∀ {k a}, owA G H ι ω ρ' σ k a → owA G H ι ω ρ σ k a := by
    intro k a h
    cases k with
    | slot j => obtain ⟨⟨y, e1⟩, e2⟩ := h; exact ⟨⟨y, w _ _ e1⟩, e2⟩
    | ins n => exact h
    | dct n => exact h
    | fld n j => exact h
  exact ⟨S.zH, S.bH, S.iL, S.ob, fun j y q e => S.sl j y q (w _ _ e), by rw [hl, S.len], fun k k' a h h' => S.inj k k' a (oc h) (oc h'), fun k a h => S.zno k a (oc h), S.zb, S.tb⟩

/-- at an owner's address a thing is put anew: what the others see -/
theorem sub_upd {Z H : Hp} (s : Sub Z H) {p : Addr} {o : HO} (hp : Z p = none) : Sub Z (upd H p o) := fun a u e => by
  have ha : a ≠ p := fun z => by subst z; rw [hp] at e; cases e
  rcases s a u e with q | ⟨m, x, q⟩
  · exact .inl (by rw [upd_ne ha]; exact q)
  · exact .inr ⟨m, x, by rw [upd_ne ha]; exact q⟩
/-- the container of a name is changed -/
theorem Sim.mutS (S : Sim G Z B H ι ω ρ σ) {i : Nat} {x x' : PV} {a : Addr} {o' : HO} (e : getV ρ i = some (x, .own)) (e2 : σ[i]? = some (some (.ref a))) (r : RO G Z ι o' x') :
    Sim G Z B (upd H a o') ι ω (setV ρ i (x', .own)) σ := by
  rw [getV_some] at e
  have hi : i < ρ.length := (List.getElem?_eq_some_iff.mp e).1
  have me : owA G H ι ω ρ σ (.slot i) a := ⟨⟨x, e⟩, e2⟩
  obtain ⟨za, ba⟩ := S.zno _ _ me
  have other : ∀ {k b}, owA G H ι ω ρ σ k b → k ≠ .slot i → b ≠ a := fun {k b} h hk z => hk (S.inj _ _ _ (z ▸ h) me)
  have inst : ∀ (n : Nat) (b dx : Addr), ι[n]? = some (b, dx) → b ≠ a ∧ dx ≠ a := fun n b dx h => ⟨other (k := .ins n) ⟨dx, h⟩ (by simp), other (k := .dct n) ⟨b, h⟩ (by simp)⟩
  have oc : ∀ {k b}, owA G (upd H a o') ι ω (setV ρ i (x', .own)) σ k b → owA G H ι ω ρ σ k b := by
    intro k b h
    have h := (owA_congr (H' := upd H a o') (H := H) fun n b dx h => upd_ne (inst n b dx h).1).mp h
    cases k with
    | slot j =>
      obtain ⟨⟨y, e1⟩, e3⟩ := h
      by_cases hj : j = i
      · subst hj
        exact ⟨⟨x, e⟩, e3⟩
      · unfold setV at e1
        rw [List.getElem?_set_ne (Ne.symm hj)] at e1
        exact ⟨⟨y, e1⟩, e3⟩
    | ins n => exact h
    | dct n => exact h
    | fld n j => exact h
  refine ⟨sub_upd S.zH za, sub_upd S.bH ba, S.iL, fun n r' en => ?_, fun j y q ej => ?_, by simp [setV, S.len], fun k k' b h h' => S.inj k k' b (oc h) (oc h'), fun k b h => S.zno k b (oc h), S.zb, tabs_upd S.tb (S.owPl me)⟩
  · obtain ⟨b, dx, fs, e1, e3, e4, e5⟩ := S.ob n r' en
    obtain ⟨n1, n2⟩ := inst n b dx e1
    refine ⟨b, dx, fs, e1, by rw [upd_ne n1]; exact e3, by rw [upd_ne n2]; exact e4, e5.imp (Same.refl _) (List.prefix_refl _) fun j f y nm c u h1 h2 h3 h4 => ?_⟩
    rw [upd_ne (other (k := .fld n j) ⟨b, dx, _, fs, nm, r', f, y, e1, e3, h2, en, h1, h3⟩ (by simp))]
    exact h4
  · by_cases hj : j = i
    · subst hj
      unfold setV at ej
      rw [List.getElem?_set_self hi] at ej
      cases ej
      exact ⟨_, e2, a, o', rfl, upd_same, r⟩
    · unfold setV at ej
      rw [List.getElem?_set_ne (Ne.symm hj)] at ej
      obtain ⟨v, e3, e4⟩ := S.sl j y q ej
      refine ⟨v, e3, ?_⟩
      cases q with
      | own =>
        obtain ⟨c, u, rfl, h2, h3⟩ := e4
        exact ⟨c, u, rfl, by rw [upd_ne (other (k := .slot j) ⟨⟨y, ej⟩, e3⟩ (by simpa using hj))]; exact h2, h3⟩
      | fz => exact e4
      | br => exact e4
      | lv => exact e4
theorem Ext.mutS (S : Sim G Z B H ι ω ρ σ) {k : Ow} {a : Addr} {o' : HO} (h : owA G H ι ω ρ σ k a) : Ext Z Z (PB B) ι ι H (upd H a o') := by
  obtain ⟨za, ba⟩ := S.zno _ _ h
  exact ⟨Same.refl _, List.prefix_refl _, fun c hc => upd_ne fun z => by
    subst z
    rcases hc with q | q
    · exact q za
    · exact q ba⟩
/-- a name's container is frozen -/
theorem Sim.frzS (S : Sim G Z B H ι ω ρ σ) {i : Nat} {x : PV} {a : Addr} {o : HO} (e : getV ρ i = some (x, .own)) (e2 : σ[i]? = some (some (.ref a))) (ea : H a = some o) (r : RO G Z ι o x) :
    Sim G (upd Z a o) B H ι ω (setV ρ i (x, .fz)) σ := by
  rw [getV_some] at e
  have hi : i < ρ.length := (List.getElem?_eq_some_iff.mp e).1
  have me : owA G H ι ω ρ σ (.slot i) a := ⟨⟨x, e⟩, e2⟩
  obtain ⟨za, ba⟩ := S.zno _ _ me
  have s : Same Z (L2.upd Z a o) := fun b u q => by rw [upd_ne (ne_of_none q za)]; exact q
  have S1 : Sim G Z B H ι ω (ρ.set i none) σ := S.less (by simp) fun j v h => by
    by_cases hj : j = i
    · subst hj; rw [List.getElem?_set_self hi] at h; cases h
    · rw [List.getElem?_set_ne (Ne.symm hj)] at h; exact h
  have no : ∀ k, ¬ owA G H ι ω (ρ.set i none) σ k a := fun k h => by
    have h' : owA G H ι ω ρ σ k a := by
      cases k with
      | slot j =>
        obtain ⟨⟨y, e1⟩, e3⟩ := h
        by_cases hj : j = i
        · subst hj; rw [List.getElem?_set_self hi] at e1; cases e1
        · rw [List.getElem?_set_ne (Ne.symm hj)] at e1; exact ⟨⟨y, e1⟩, e3⟩
      | ins n => exact h
      | dct n => exact h
      | fld n j => exact h
    have q := S.inj _ _ _ h' me
    subst q
    obtain ⟨⟨y, e1⟩, _⟩ := h
    rw [List.getElem?_set_self hi] at e1; cases e1
  have S2 := S1.fz r.pl ea za ba no
  have S3 := S2.setS (i := i) (by simpa using hi) (v := .ref a) (x := x) (m := .fz) (show SR G (L2.upd Z a o) B H ι (.ref a) x .fz from RO.fz upd_same (r.mono s (List.prefix_refl _))) (fun h => by cases h)
  have es : σ.set i (some (.ref a)) = σ := by
    have hσ : i < σ.length := (List.getElem?_eq_some_iff.mp e2).1
    apply List.ext_getElem?
    intro j
    by_cases hj : j = i
    · subst hj; rw [List.getElem?_set_self hσ, e2]
    · rw [List.getElem?_set_ne (Ne.symm hj)]
  rw [es] at S3
  have ep : setV (ρ.set i none) i (x, .fz) = setV ρ i (x, .fz) := by unfold setV; rw [List.set_set]
  rw [ep] at S3
  exact S3
end
end PVS

set_option maxHeartbeats 1000000
/-! PVS: objects, calls, locks. -/
namespace PVS
open PySem L2 PVL
section
variable {G : GS} {Z Z' B H H' : Hp} {ι ι' : List (Addr × Addr)} {ω : PVL.Store} {ρ : PVL.Env} {σ : St}

theorem putF_get {f : Nat} {x : PV} : ∀ {xs : List (Nat × PV)} {j : Nat} {g : Nat} {y : PV}, (PVL.putF f x xs)[j]? = some (g, y) → (g = f ∧ y = x) ∨ (xs[j]? = some (g, y) ∧ g ≠ f) ∨ (xs[j]? = some (g, y))
  | [], j, g, y, e => by
    cases j with
    | zero => simp [PVL.putF] at e; exact .inl ⟨e.1.symm, e.2.symm⟩
    | succ j => simp [PVL.putF] at e
  | (h, u) :: r, j, g, y, e => by
    unfold PVL.putF at e
    split at e
    · rename_i hh
      cases j with
      | zero => simp at e; exact .inl ⟨e.1.symm, e.2.symm⟩
      | succ j => exact .inr (.inr e)
    · rename_i hh
      cases j with
      | zero => exact .inr (.inr e)
      | succ j =>
        rcases putF_get (xs := r) (j := j) e with q | q | q
        · exact .inl q
        · exact .inr (.inl q)
        · exact .inr (.inr q)

/-- where the first f stands, or behind all -/
def fidx (f : Nat) : List (Nat × PV) → Nat
  | [] => 0
  | (g, _) :: r => if g = f then 0 else fidx f r + 1
theorem FsR.put {xs : List (Nat × PV)} {vs : List (Str × V)} (h : FsR G Z ι H xs vs) {f : Nat} {x : PV} {v : V}
    (r : FR G Z ι H' v x) (k : ∀ (j g : Nat) (y : PV) (nm : Str) (a : Addr) (o : HO), j ≠ fidx f xs → xs[j]? = some (g, y) → vs[j]? = some (nm, .ref a) → isC y = true → H a = some o → H' a = some o) :
    FsR G Z ι H' (PVL.putF f x xs) (L2.putF (G.fnm f) v vs) := by
  induction h with
  | nil => exact .cons r .nil
  | @cons f' x' v' xs' vs' r' h' ih =>
    by_cases hf : f' = f
    · subst hf
      have e1 : PVL.putF f' x ((f', x') :: xs') = (f', x) :: xs' := if_pos rfl
      have e2 : L2.putF (G.fnm f') v ((G.fnm f', v') :: vs') = (G.fnm f', v) :: vs' := if_pos rfl
      rw [e1, e2]
      refine .cons r (h'.imp (Same.refl _) (List.prefix_refl _) fun j g y nm a o h1 h2 h3 h4 => k (j + 1) g y nm a o ?_ h1 h2 h3 h4)
      unfold fidx; rw [if_pos rfl]; exact Nat.succ_ne_zero _
    · have hn : ¬ G.fnm f' = G.fnm f := fun z => hf (G.inj _ _ z)
      have e1 : PVL.putF f x ((f', x') :: xs') = (f', x') :: PVL.putF f x xs' := if_neg hf
      have e2 : L2.putF (G.fnm f) v ((G.fnm f', v') :: vs') = (G.fnm f', v') :: L2.putF (G.fnm f) v vs' := if_neg hn
      have e3 : fidx f ((f', x') :: xs') = fidx f xs' + 1 := if_neg hf
      rw [e1, e2]
      refine .cons ?_ (ih fun j g y nm a o hj h1 h2 h3 h4 => k (j + 1) g y nm a o (by rw [e3]; omega) h1 h2 h3 h4)
      unfold FR at r' ⊢
      split
      · rename_i hc
        rw [if_pos hc] at r'
        obtain ⟨a, o, rfl, e, q⟩ := r'
        exact ⟨a, o, rfl, k 0 f' x' _ a o (by rw [e3]; omega) rfl rfl hc e, q⟩
      · rename_i hc
        rw [if_neg hc] at r'
        exact r'
theorem put_at {f : Nat} {x : PV} {nm : Str} {v : V} {xs : List (Nat × PV)} {vs : List (Str × V)} (h : FsR G Z ι H xs vs) : ∀ {j g : Nat} {y : PV} {n : Str} {u : V}, (PVL.putF f x xs)[j]? = some (g, y) → (L2.putF (G.fnm f) v vs)[j]? = some (n, u) →
    (j = fidx f xs ∧ y = x ∧ u = v) ∨ (j ≠ fidx f xs ∧ xs[j]? = some (g, y) ∧ vs[j]? = some (n, u)) := by
  induction h with
  | nil =>
    intro j g y n u e1 e2
    cases j with
    | zero => simp [PVL.putF, L2.putF] at e1 e2; exact .inl ⟨rfl, e1.2.symm, e2.2.symm⟩
    | succ j => simp [PVL.putF] at e1
  | @cons f' x' v' xs' vs' r' h' ih =>
    intro j g y n u e1 e2
    by_cases hf : f' = f
    · subst hf
      rw [show PVL.putF f' x ((f', x') :: xs') = (f', x) :: xs' from if_pos rfl] at e1
      rw [show L2.putF (G.fnm f') v ((G.fnm f', v') :: vs') = (G.fnm f', v) :: vs' from if_pos rfl] at e2
      have e3 : fidx f' ((f', x') :: xs') = 0 := if_pos rfl
      rw [e3]
      cases j with
      | zero => simp at e1 e2; exact .inl ⟨rfl, e1.2.symm, e2.2.symm⟩
      | succ j => exact .inr ⟨Nat.succ_ne_zero _, e1, e2⟩
    · have hn : ¬ G.fnm f' = G.fnm f := fun z => hf (G.inj _ _ z)
      rw [show PVL.putF f x ((f', x') :: xs') = (f', x') :: PVL.putF f x xs' from if_neg hf] at e1
      rw [show L2.putF (G.fnm f) v ((G.fnm f', v') :: vs') = (G.fnm f', v') :: L2.putF (G.fnm f) v vs' from if_neg hn] at e2
      have e3 : fidx f ((f', x') :: xs') = fidx f xs' + 1 := if_neg hf
      rw [e3]
      cases j with
      | zero => exact .inr ⟨by omega, e1, e2⟩
      | succ j =>
        rcases ih e1 e2 with ⟨q1, q2, q3⟩ | ⟨q1, q2, q3⟩
        · exact .inl ⟨by omega, q2, q3⟩
        · exact .inr ⟨by omega, q2, q3⟩
theorem fidx_of {f : Nat} {x : PV} : ∀ {xs : List (Nat × PV)}, xs.lookup f = some x → xs[fidx f xs]? = some (f, x)
  | [], e => by simp at e
  | (g, y) :: r, e => by
    rw [List.lookup_cons] at e
    by_cases h : f = g
    · subst h
      simp at e
      subst e
      unfold fidx
      rw [if_pos rfl]
      rfl
    · have e1 : (f == g) = false := by simpa using h
      rw [e1] at e
      unfold fidx
      rw [if_neg (fun z => h z.symm)]
      exact fidx_of e

/-- a field is set: H1 the heap where a new container may stand that nobody holds -/
theorem Sim.setF (S : Sim G Z B H ι ω ρ σ) {n : Nat} {r : PVL.Rec} {b dx C : Addr} {fs : List (Str × V)} (en : ω[n]? = some r) (ei : ι[n]? = some (b, dx)) (eb : H b = some (.ins C dx fs)) {f : Nat} {x : PV} {v : V}
    (hr : FR G Z ι H v x) (ho : isC x = true → ∀ a, v = .ref a → Z a = none ∧ B a = none ∧ ∀ k, ¬ owA G H ι ω ρ σ k a) :
    Sim G Z B (upd H b (.ins C dx (L2.putF (G.fnm f) v fs))) ι (PVL.setF ω n f x) ρ σ := by
  have me : owA G H ι ω ρ σ (.ins n) b := ⟨dx, ei⟩
  obtain ⟨zb, bb⟩ := S.zno _ _ me
  have hn : n < ω.length := (List.getElem?_eq_some_iff.mp en).1
  have eω : PVL.setF ω n f x = ω.set n ⟨r.cls, PVL.putF f x r.flds⟩ := by unfold PVL.setF; rw [en]
  rw [eω]
  obtain ⟨b', dx', fs', q1, q2, q3, q4⟩ := S.ob n r en
  rw [ei] at q1; cases q1
  rw [eb] at q2; cases q2
  have other : ∀ {k c}, owA G H ι ω ρ σ k c → k ≠ .ins n → c ≠ b := fun {k c} h hk z => hk (S.inj _ _ _ (z ▸ h) me)
  have instne : ∀ (m : Nat) (c dy : Addr), ι[m]? = some (c, dy) → m ≠ n → c ≠ b := fun m c dy h hm => other (k := .ins m) ⟨dy, h⟩ (by simpa using hm)
  -- the new container is nobody's: it stands apart from the instance
  have oc : ∀ {k a}, owA G (upd H b (.ins (G.cl r.cls) dx (L2.putF (G.fnm f) v fs))) ι (ω.set n ⟨r.cls, PVL.putF f x r.flds⟩) ρ σ k a → (k = .fld n (fidx f r.flds) ∧ isC x = true ∧ v = .ref a) ∨ owA G H ι ω ρ σ k a := by
    intro k a h
    cases k with
    | slot i => exact .inr h
    | ins m => exact .inr h
    | dct m => exact .inr h
    | fld m j =>
      obtain ⟨c, dy, C', gs, nm, r', g, y, h1, h2, h3, h4, h5, h6⟩ := h
      by_cases hm : m = n
      · subst hm
        rw [ei] at h1; cases h1
        rw [upd_same] at h2; cases h2
        rw [List.getElem?_set_self hn] at h4; cases h4
        rcases put_at (nm := nm) q4 h5 h3 with ⟨z1, z2, z3⟩ | ⟨z1, z2, z3⟩
        · subst z1; subst z2
          exact .inl ⟨rfl, h6, z3.symm⟩
        · exact .inr ⟨b, dx, _, fs, nm, r, g, y, ei, eb, z3, en, z2, h6⟩
      · rw [List.getElem?_set_ne (Ne.symm hm)] at h4
        rw [upd_ne (instne m c dy h1 hm)] at h2
        exact .inr ⟨c, dy, C', gs, nm, r', g, y, h1, h2, h3, h4, h5, h6⟩
  refine ⟨sub_upd S.zH zb, sub_upd S.bH bb, by simp [S.iL], fun m r' em => ?_, fun i y q e => ?_, S.len, fun k k' a h h' => ?_, fun k a h => ?_, S.zb, tabs_upd S.tb (S.owPl me)⟩
  · by_cases hm : m = n
    · subst hm
      rw [List.getElem?_set_self hn] at em; cases em
      refine ⟨b, dx, _, ei, upd_same, by rw [upd_ne (other (k := .dct m) ⟨b, ei⟩ (by simp))]; exact q3, ?_⟩
      refine q4.put ?_ fun j g y nm a o hj h1 h2 h3 h4 => ?_
      · unfold FR at hr ⊢
        split
        · rename_i hc
          rw [if_pos hc] at hr
          obtain ⟨a, o, rfl, e, q⟩ := hr
          exact ⟨a, o, rfl, by rw [upd_ne (fun z => (ho hc a rfl).2.2 _ (z ▸ me))]; exact e, q⟩
        · rename_i hc
          rw [if_neg hc] at hr
          exact hr
      · rw [upd_ne (other (k := .fld m j) ⟨b, dx, _, fs, nm, r, g, y, ei, eb, h2, en, h1, h3⟩ (by simp))]
        exact h4
    · rw [List.getElem?_set_ne (Ne.symm hm)] at em
      obtain ⟨c, dy, gs, h1, h2, h3, h4⟩ := S.ob m r' em
      refine ⟨c, dy, gs, h1, by rw [upd_ne (instne m c dy h1 hm)]; exact h2, by rw [upd_ne (other (k := .dct m) ⟨c, h1⟩ (by simp))]; exact h3, h4.imp (Same.refl _) (List.prefix_refl _) fun j g y nm a o z1 z2 z3 z4 => ?_⟩
      rw [upd_ne (other (k := .fld m j) ⟨c, dy, _, gs, nm, r', g, y, h1, h2, z2, em, z1, z3⟩ (by simp))]
      exact z4
  · obtain ⟨u, e1, e2⟩ := S.sl i y q e
    refine ⟨u, e1, ?_⟩
    cases q with
    | own =>
      obtain ⟨a, o, rfl, h2, h3⟩ := e2
      exact ⟨a, o, rfl, by rw [upd_ne (other (k := .slot i) ⟨⟨y, e⟩, e1⟩ (by simp))]; exact h2, h3⟩
    | fz => exact e2
    | br => exact e2
    | lv => exact e2
  · rcases oc h with ⟨rfl, hc, hv⟩ | h1
    · rcases oc h' with ⟨rfl, _, _⟩ | h2
      · rfl
      · exact absurd h2 ((ho hc a hv).2.2 k')
    · rcases oc h' with ⟨rfl, hc, hv⟩ | h2
      · exact absurd h1 ((ho hc a hv).2.2 k)
      · exact S.inj k k' a h1 h2
  · rcases oc h with ⟨rfl, hc, hv⟩ | h1
    · exact ⟨(ho hc a hv).1, (ho hc a hv).2.1⟩
    · exact S.zno k a h1
/-- a field's container is changed in its place -/
theorem Sim.mutF (S : Sim G Z B H ι ω ρ σ) {n : Nat} {r : PVL.Rec} {b dx C : Addr} {fs : List (Str × V)} (en : ω[n]? = some r) (ei : ι[n]? = some (b, dx)) (eb : H b = some (.ins C dx fs)) {f : Nat} {x x' : PV} {a : Addr} {o' : HO}
    (hl : r.flds.lookup f = some x) (hc : isC x = true) (hv : fs.lookup (G.fnm f) = some (.ref a)) (hr : RO G Z ι o' x') : Sim G Z B (upd H a o') ι (PVL.setF ω n f x') ρ σ ∧ ∃ k, owA G H ι ω ρ σ k a := by
  have hn : n < ω.length := (List.getElem?_eq_some_iff.mp en).1
  have eω : PVL.setF ω n f x' = ω.set n ⟨r.cls, PVL.putF f x' r.flds⟩ := by unfold PVL.setF; rw [en]
  rw [eω]
  obtain ⟨b', dx', fs', q1, q2, q3, q4⟩ := S.ob n r en
  rw [ei] at q1; cases q1
  rw [eb] at q2; cases q2
  obtain ⟨v, l1, l2, j0, l3, l4⟩ := q4.lookup hl
  rw [hv] at l1; cases l1
  have hj : r.flds[fidx f r.flds]? = some (f, x) := fidx_of hl
  -- the place of f
  obtain ⟨v2, p1, p2⟩ := q4.get hj
  -- the value there is the one that lookup finds
  have same : ∀ {xs : List (Nat × PV)} {vs : List (Str × V)}, FsR G Z ι H xs vs → xs.lookup f = some x → ∀ u, vs.lookup (G.fnm f) = some u → vs[fidx f xs]? = some (G.fnm f, u) := by
    intro xs vs h
    induction h with
    | nil => intro e; simp at e
    | @cons f' x' v' xs' vs' r' h' ih =>
      intro e u e2
      by_cases hf : f = f'
      · subst hf
        simp [List.lookup_cons] at e2
        subst e2
        unfold fidx; rw [if_pos rfl]; rfl
      · have e1 : (f == f') = false := by simpa using hf
        have e3 : (G.fnm f == G.fnm f') = false := by simpa using fun z => hf (G.inj _ _ z)
        rw [List.lookup_cons, e1] at e
        rw [List.lookup_cons, e3] at e2
        unfold fidx; rw [if_neg (fun z => hf z.symm)]
        exact ih e u e2
  have pa := same q4 hl _ hv
  have me : owA G H ι ω ρ σ (.fld n (fidx f r.flds)) a := ⟨b, dx, _, fs, _, r, f, x, ei, eb, pa, en, hj, hc⟩
  obtain ⟨za, ba⟩ := S.zno _ _ me
  have other : ∀ {k c}, owA G H ι ω ρ σ k c → k ≠ .fld n (fidx f r.flds) → c ≠ a := fun {k c} h hk z => hk (S.inj _ _ _ (z ▸ h) me)
  have inst : ∀ (m : Nat) (c dy : Addr), ι[m]? = some (c, dy) → c ≠ a ∧ dy ≠ a := fun m c dy h => ⟨other (k := .ins m) ⟨dy, h⟩ (by simp), other (k := .dct m) ⟨c, h⟩ (by simp)⟩
  -- the names stay: putF puts the same reference
  have efs : L2.putF (G.fnm f) (.ref a) fs = fs := by
    have go : ∀ (vs : List (Str × V)), vs.lookup (G.fnm f) = some (.ref a) → L2.putF (G.fnm f) (.ref a) vs = vs := by
      intro vs
      induction vs with
      | nil => intro e; simp at e
      | cons p vs ih =>
        obtain ⟨nm, u⟩ := p
        intro e
        rw [List.lookup_cons] at e
        by_cases h : nm = G.fnm f
        · subst h
          simp at e
          subst e
          exact if_pos rfl
        · have e1 : (G.fnm f == nm) = false := by simpa using fun z => h z.symm
          rw [e1] at e
          rw [show L2.putF (G.fnm f) (.ref a) ((nm, u) :: vs) = (nm, u) :: L2.putF (G.fnm f) (.ref a) vs from if_neg h, ih e]
    exact go fs hv
  have oc : ∀ {k c}, owA G (upd H a o') ι (ω.set n ⟨r.cls, PVL.putF f x' r.flds⟩) ρ σ k c → owA G H ι ω ρ σ k c := by
    intro k c h
    have h := (owA_congr (H' := upd H a o') (H := H) fun m c dy h => upd_ne (inst m c dy h).1).mp h
    cases k with
    | slot i => exact h
    | ins m => exact h
    | dct m => exact h
    | fld m j =>
      obtain ⟨c', dy, C', gs, nm, r', g, y, h1, h2, h3, h4, h5, h6⟩ := h
      by_cases hm : m = n
      · subst hm
        rw [ei] at h1; cases h1
        rw [eb] at h2; cases h2
        rw [List.getElem?_set_self hn] at h4; cases h4
        rcases put_at (nm := nm) (v := .ref a) q4 h5 (by rw [efs]; exact h3) with ⟨z1, z2, z3⟩ | ⟨z1, z2, z3⟩
        · subst z1
          cases z3
          exact me
        · exact ⟨b, dx, _, fs, nm, r, g, y, ei, eb, z3, en, z2, h6⟩
      · rw [List.getElem?_set_ne (Ne.symm hm)] at h4
        exact ⟨c', dy, C', gs, nm, r', g, y, h1, h2, h3, h4, h5, h6⟩
  refine ⟨⟨sub_upd S.zH za, sub_upd S.bH ba, by simp [S.iL], fun m r' em => ?_, fun i y q e => ?_, S.len, fun k k' c h h' => S.inj k k' c (oc h) (oc h'), fun k c h => S.zno k c (oc h), S.zb, tabs_upd S.tb (S.owPl me)⟩, _, me⟩
  · by_cases hm : m = n
    · subst hm
      rw [List.getElem?_set_self hn] at em; cases em
      obtain ⟨n1, n2⟩ := inst m b dx ei
      refine ⟨b, dx, fs, ei, by rw [upd_ne n1]; exact eb, by rw [upd_ne n2]; exact q3, ?_⟩
      have z := q4.put (H' := upd H a o') (f := f) (x := x') (v := .ref a) (by unfold FR; rw [if_pos hr.isC]; exact ⟨a, o', rfl, upd_same, hr⟩) fun j g y nm c o hj h1 h2 h3 h4 => by
        rw [upd_ne (other (k := .fld m j) ⟨b, dx, _, fs, nm, r, g, y, ei, eb, h2, en, h1, h3⟩ (by simpa using hj))]
        exact h4
      rw [efs] at z
      exact z
    · rw [List.getElem?_set_ne (Ne.symm hm)] at em
      obtain ⟨c, dy, gs, h1, h2, h3, h4⟩ := S.ob m r' em
      obtain ⟨n1, n2⟩ := inst m c dy h1
      refine ⟨c, dy, gs, h1, by rw [upd_ne n1]; exact h2, by rw [upd_ne n2]; exact h3, h4.imp (Same.refl _) (List.prefix_refl _) fun j g y nm d o z1 z2 z3 z4 => ?_⟩
      rw [upd_ne (other (k := .fld m j) ⟨c, dy, _, gs, nm, r', g, y, h1, h2, z2, em, z1, z3⟩ (by simp; exact fun z => absurd z hm))]
      exact z4
  · obtain ⟨u, e1, e2⟩ := S.sl i y q e
    refine ⟨u, e1, ?_⟩
    cases q with
    | own =>
      obtain ⟨c, o, rfl, h2, h3⟩ := e2
      exact ⟨c, o, rfl, by rw [upd_ne (other (k := .slot i) ⟨⟨y, e⟩, e1⟩ (by simp))]; exact h2, h3⟩
    | fz => exact e2
    | br => exact e2
    | lv => exact e2
end
end PVS

set_option maxHeartbeats 1000000
/-! PVS: new objects, calls, locks. -/
namespace PVS
open PySem L2 PVL
section
variable {G : GS} {Z Z' B H H' : Hp} {ι ι' : List (Addr × Addr)} {ω : PVL.Store} {ρ : PVL.Env} {σ : St}

/-- a new object of the class c, without fields -/
theorem Sim.make (S : Sim G Z B H ι ω ρ σ) {x dx : Addr} (c : Nat) (hx : H x = none) (hd : H dx = none) (hne : dx ≠ x) :
    Sim G Z B (upd (upd H dx (.own x)) x (.ins (G.cl c) dx [])) (ι ++ [(x, dx)]) (ω ++ [⟨c, []⟩]) ρ σ ∧ Ext Z Z (PO B ρ σ) ι (ι ++ [(x, dx)]) H (upd (upd H dx (.own x)) x (.ins (G.cl c) dx [])) := by
  generalize hH : upd (upd H dx (.own x)) x (.ins (G.cl c) dx []) = H1
  have hx1 : H1 x = some (.ins (G.cl c) dx []) := by rw [← hH]; exact upd_same
  have hd1 : H1 dx = some (.own x) := by rw [← hH, upd_ne hne]; exact upd_same
  have s : Same H H1 := fun b u e => by rw [← hH, upd_ne (ne_of_none e hx), upd_ne (ne_of_none e hd)]; exact e
  have keep : ∀ b, b ≠ x → b ≠ dx → H1 b = H b := fun b h1 h2 => by rw [← hH, upd_ne h1, upd_ne h2]
  have at_ : ∀ {a u}, At H a u → At H1 a u := fun {a u} h => by
    rcases h with h | ⟨m, z, h⟩
    · exact .inl (s _ _ h)
    · exact .inr ⟨m, z, s _ _ h⟩
  have pre : ι <+: ι ++ [(x, dx)] := List.prefix_append ι _
  have last : (ι ++ [(x, dx)])[ι.length]? = some (x, dx) := by simp
  have old : ∀ {n : Nat} {p : Addr × Addr}, (ι ++ [(x, dx)])[n]? = some p → (n = ι.length ∧ p = (x, dx)) ∨ ι[n]? = some p := by
    intro n p h
    by_cases hn : n < ι.length
    · rw [List.getElem?_append_left hn] at h; exact .inr h
    · have hl := (List.getElem?_eq_some_iff.mp h).1
      have : n = ι.length := by simp at hl; omega
      subst this
      rw [last] at h; cases h
      exact .inl ⟨rfl, rfl⟩
  have oldω : ∀ {n : Nat} {r : PVL.Rec}, (ω ++ [⟨c, []⟩])[n]? = some r → (n = ω.length ∧ r = ⟨c, []⟩) ∨ ω[n]? = some r := by
    intro n r h
    by_cases hn : n < ω.length
    · rw [List.getElem?_append_left hn] at h; exact .inr h
    · have hl := (List.getElem?_eq_some_iff.mp h).1
      have : n = ω.length := by simp at hl; omega
      subst this
      simp at h
      exact .inl ⟨rfl, h.symm⟩
  have oc : ∀ {k a}, owA G H1 (ι ++ [(x, dx)]) (ω ++ [⟨c, []⟩]) ρ σ k a → (k = .ins ι.length ∧ a = x) ∨ (k = .dct ι.length ∧ a = dx) ∨ owA G H ι ω ρ σ k a := by
    intro k a h
    cases k with
    | slot i => exact .inr (.inr h)
    | ins n =>
      obtain ⟨dy, h⟩ := h
      rcases old h with ⟨rfl, e⟩ | h
      · cases e; exact .inl ⟨rfl, rfl⟩
      · exact .inr (.inr ⟨dy, h⟩)
    | dct n =>
      obtain ⟨dy, h⟩ := h
      rcases old h with ⟨rfl, e⟩ | h
      · cases e; exact .inr (.inl ⟨rfl, rfl⟩)
      · exact .inr (.inr ⟨dy, h⟩)
    | fld n j =>
      obtain ⟨b, dy, C, fs, nm, r, f, y, h1, h2, h3, h4, h5, h6⟩ := h
      rcases oldω h4 with ⟨rfl, rfl⟩ | h4
      · simp at h5
      · rcases old h1 with ⟨rfl, e⟩ | h1
        · exfalso
          have := (List.getElem?_eq_some_iff.mp h4).1
          rw [S.iL] at this
          exact absurd this (Nat.lt_irrefl _)
        · obtain ⟨r2, fs2, _, q, _⟩ := S.inst h1
          rw [s _ _ q] at h2
          cases h2
          exact .inr (.inr ⟨b, dy, _, _, nm, r, f, y, h1, q, h3, h4, h5, h6⟩)
  refine ⟨⟨fun a u e => at_ (S.zH a u e), fun a u e => at_ (S.bH a u e), by simp [S.iL], fun n r en => ?_, fun i y q e => ?_, S.len, fun k k' a h h' => ?_, fun k a h => ?_, S.zb, S.tb.ext s⟩, ⟨Same.refl _, pre, fun a h => keep a (fun z => ?_) (fun z => ?_)⟩⟩
  · rcases oldω en with ⟨rfl, rfl⟩ | en
    · exact ⟨x, dx, [], by rw [← S.iL]; exact last, hx1, hd1, .nil⟩
    · obtain ⟨b, dy, fs, h1, h2, h3, h4⟩ := S.ob n r en
      exact ⟨b, dy, fs, pre_get pre h1, s _ _ h2, s _ _ h3, h4.mono (Same.refl _) pre s⟩
  · obtain ⟨u, e1, e2⟩ := S.sl i y q e
    refine ⟨u, e1, ?_⟩
    cases q with
    | own => obtain ⟨a, o, h1, h2, h3⟩ := e2; exact ⟨a, o, h1, s _ _ h2, h3.mono (Same.refl _) pre⟩
    | fz => exact e2.mono (Same.refl _) pre
    | br =>
      rcases e2 with e2 | ⟨a, o, h1, h2, h3⟩
      · exact .inl (e2.mono (Same.refl _) pre)
      · exact .inr ⟨a, o, h1, h2, h3.mono (Same.refl _) pre⟩
    | lv => exact e2
  · rcases oc h with ⟨rfl, rfl⟩ | ⟨rfl, rfl⟩ | h1
    · rcases oc h' with ⟨rfl, _⟩ | ⟨rfl, z⟩ | h2
      · rfl
      · exact absurd z.symm hne
      · exact absurd h2 (S.notOw hx k')
    · rcases oc h' with ⟨rfl, z⟩ | ⟨rfl, _⟩ | h2
      · exact absurd z hne
      · rfl
      · exact absurd h2 (S.notOw hd k')
    · rcases oc h' with ⟨rfl, rfl⟩ | ⟨rfl, rfl⟩ | h2
      · exact absurd h1 (S.notOw hx k)
      · exact absurd h1 (S.notOw hd k)
      · exact S.inj k k' a h1 h2
  · rcases oc h with ⟨rfl, rfl⟩ | ⟨rfl, rfl⟩ | h1
    · exact ⟨S.zn hx, S.bn hx⟩
    · exact ⟨S.zn hd, S.bn hd⟩
    · exact S.zno k a h1
  · subst z
    rcases h with h | h
    · exact h (S.zn hx)
    · obtain ⟨u, e⟩ := PO.some S h
      rw [hx] at e; cases e
  · subst z
    rcases h with h | h
    · exact h (S.zn hd)
    · obtain ⟨u, e⟩ := PO.some S h
      rw [hd] at e; cases e

open Classical in
/-- what a callee may not touch: what we have borrowed, what our names hold -/
noncomputable def lend (B H : Hp) (ρ : PVL.Env) (σ : St) : Hp := fun a => if (∃ (i : Nat) (x : PV), ρ[i]? = some (some (x, Md.own)) ∧ σ[i]? = some (some (V.ref a))) then H a else B a
theorem lend_slot {i : Nat} {x : PV} {a : Addr} (e : ρ[i]? = some (some (x, .own))) (e2 : σ[i]? = some (some (V.ref a))) : lend B H ρ σ a = H a := by
  unfold lend; rw [if_pos ⟨i, x, e, e2⟩]
theorem lend_b (S : Sim G Z B H ι ω ρ σ) {a : Addr} {o : HO} (h : B a = some o) : lend B H ρ σ a = some o := by
  unfold lend
  rw [if_neg]
  · exact h
  · rintro ⟨i, x, e1, e2⟩
    have := (S.zno (.slot i) a ⟨⟨x, e1⟩, e2⟩).2
    rw [h] at this; cases this
/-- the callee's view -/
theorem Sim.call (S : Sim G Z B H ι ω ρ σ) : Sim G Z (lend B H ρ σ) H ι ω [] [] := by
  have oc : ∀ {k a}, owA G H ι ω [] [] k a → owA G H ι ω ρ σ k a ∧ ∀ i, k ≠ .slot i := by
    intro k a h
    cases k with
    | slot i => obtain ⟨⟨x, e⟩, _⟩ := h; simp at e
    | ins n => exact ⟨h, fun _ z => by cases z⟩
    | dct n => exact ⟨h, fun _ z => by cases z⟩
    | fld n j => exact ⟨h, fun _ z => by cases z⟩
  refine ⟨S.zH, fun a u e => ?_, S.iL, S.ob, fun i x m e => by simp at e, rfl, fun k k' a h h' => S.inj k k' a (oc h).1 (oc h').1, fun k a h => ⟨(S.zno k a (oc h).1).1, ?_⟩, fun a o e => ?_, ⟨S.tb.t, S.tb.z, fun a ps e => by
    unfold lend at e
    split at e
    · rename_i hx
      obtain ⟨i, x, e1, e2⟩ := hx
      obtain ⟨u, q1, q2⟩ := S.owPl (k := .slot i) ⟨⟨x, e1⟩, e2⟩
      rw [e] at q1
      exact q2.1 ps (Option.some.inj q1).symm
    · exact S.tb.b a ps e⟩⟩
  · unfold lend at e
    split at e
    · exact .inl e
    · exact S.bH a u e
  · unfold lend
    rw [if_neg]
    · exact (S.zno k a (oc h).1).2
    · rintro ⟨i, x, e1, e2⟩
      exact (oc h).2 i (S.inj _ _ _ (oc h).1 ⟨⟨x, e1⟩, e2⟩)
  · unfold lend at e
    split at e
    · rename_i hc
      obtain ⟨i, x, e1, e2⟩ := hc
      exact (S.zno (.slot i) a ⟨⟨x, e1⟩, e2⟩).1
    · exact S.zb a o e
/-- back from the callee -/
theorem Sim.back (S : Sim G Z B H ι ω ρ σ) {ω' : PVL.Store} (S' : Sim G Z' (lend B H ρ σ) H' ι' ω' [] []) (E : Ext Z Z' (PB (lend B H ρ σ)) ι ι' H H') : Sim G Z' B H' ι' ω' ρ σ ∧ Ext Z Z' (PO B ρ σ) ι ι' H H' := by
  have keepB : ∀ a, Z a ≠ none ∨ B a ≠ none → H' a = H a := fun a h => E.k a (h.imp id fun q => by
    cases e : B a with
    | none => exact absurd e q
    | some o => show lend B H ρ σ a ≠ none; rw [lend_b S e]; simp)
  have own : ∀ {i x a}, ρ[i]? = some (some (x, Md.own)) → σ[i]? = some (some (V.ref a)) → ∃ o, H a = some o ∧ H' a = some o ∧ lend B H ρ σ a = some o := fun {i x a} e1 e2 => by
    obtain ⟨o, ho⟩ := S.owSome (k := .slot i) ⟨⟨x, e1⟩, e2⟩
    have hl : lend B H ρ σ a = some o := by rw [lend_slot e1 e2]; exact ho
    exact ⟨o, ho, by rw [E.k a (.inr (by show lend B H ρ σ a ≠ none; rw [hl]; simp))]; exact ho, hl⟩
  have zl : ∀ {k a}, owA G H' ι' ω' [] [] k a → Z' a = none ∧ lend B H ρ σ a = none := fun {k a} h => S'.zno k a h
  have oc : ∀ {k a}, owA G H' ι' ω' ρ σ k a → (∃ i, k = .slot i) ∨ owA G H' ι' ω' [] [] k a := by
    intro k a h
    cases k with
    | slot i => exact .inl ⟨i, rfl⟩
    | ins n => exact .inr h
    | dct n => exact .inr h
    | fld n j => exact .inr h
  exact ⟨⟨S'.zH, fun a u e => by
      rcases S.bH a u e with q | ⟨m, o, q⟩
      · exact .inl (by rw [keepB a (.inr (by rw [e]; simp))]; exact q)
      · exact .inr ⟨m, o, by rw [keepB a (.inr (by rw [e]; simp))]; exact q⟩, S'.iL, S'.ob, fun i x m e => by
      obtain ⟨v, e1, e2⟩ := S.sl i x m e
      refine ⟨v, e1, ?_⟩
      cases m with
      | own =>
        obtain ⟨a, o, rfl, h2, h3⟩ := e2
        obtain ⟨o', q1, q2, _⟩ := own e e1
        rw [h2] at q1; cases q1
        exact ⟨a, o, rfl, q2, h3.mono E.z E.i⟩
      | fz => exact e2.mono E.z E.i
      | br =>
        rcases e2 with e2 | ⟨a, o, h1, h2, h3⟩
        · exact .inl (e2.mono E.z E.i)
        · exact .inr ⟨a, o, h1, h2, h3.mono E.z E.i⟩
      | lv => exact e2, S.len, fun k k' a h h' => by
      rcases oc h with ⟨i, rfl⟩ | h1
      · rcases oc h' with ⟨j, rfl⟩ | h2
        · exact S.inj _ _ a h h'
        · obtain ⟨⟨x, e1⟩, e2⟩ := h
          obtain ⟨o, _, _, q⟩ := own e1 e2
          rw [(zl h2).2] at q; cases q
      · rcases oc h' with ⟨j, rfl⟩ | h2
        · obtain ⟨⟨x, e1⟩, e2⟩ := h'
          obtain ⟨o, _, _, q⟩ := own e1 e2
          rw [(zl h1).2] at q; cases q
        · exact S'.inj k k' a h1 h2, fun k a h => by
      rcases oc h with ⟨i, rfl⟩ | h1
      · obtain ⟨⟨x, e1⟩, e2⟩ := h
        obtain ⟨o, _, _, q⟩ := own e1 e2
        exact ⟨S'.zb a o q, (S.zno (.slot i) a ⟨⟨x, e1⟩, e2⟩).2⟩
      · refine ⟨(zl h1).1, ?_⟩
        cases e : B a with
        | none => rfl
        | some o =>
          have := (zl h1).2
          rw [lend_b S e] at this
          contradiction, fun a o e => S'.zb a o (lend_b S e), ⟨S'.tb.t, S'.tb.z, S.tb.b⟩⟩, ⟨E.z, E.i, fun a h => by
      rcases h with h | h | ⟨i, x, e1, e2⟩
      · exact keepB a (.inl h)
      · exact keepB a (.inr h)
      · obtain ⟨o, q1, q2, _⟩ := own e1 e2
        rw [q1, q2]⟩⟩
end
end PVS

/-! PVL: texts: what find, slices and orders are (core Lean). -/
namespace PVL
theorem isPre_iff : ∀ {w t : Txt}, isPre w t = true ↔ w <+: t
  | [], t => by simp [isPre]
  | a :: w, [] => by simp [isPre]
  | a :: w, b :: t => by simp [isPre, isPre_iff (w := w) (t := t), List.cons_prefix_cons]
theorem findFrom_spec (w : Txt) : ∀ (t : Txt) (i : Nat),
    (findFrom w t i = -1 ∧ ∀ k, k ≤ t.length → ¬ w <+: t.drop k) ∨ ∃ k, k ≤ t.length ∧ findFrom w t i = ((i + k : Nat) : Int) ∧ w <+: t.drop k ∧ ∀ j, j < k → ¬ w <+: t.drop j
  | [], i => by
    unfold findFrom
    by_cases h : w = []
    · subst h
      exact .inr ⟨0, Nat.le_refl _, by simp, by simp, fun j hj => absurd hj (Nat.not_lt_zero _)⟩
    · refine .inl ⟨if_neg h, fun k _ => ?_⟩
      simp [h]
  | c :: t, i => by
    unfold findFrom
    by_cases h : isPre w (c :: t) = true
    · exact .inr ⟨0, Nat.zero_le _, by rw [if_pos h]; simp, isPre_iff.mp h, fun j hj => absurd hj (Nat.not_lt_zero _)⟩
    · rw [if_neg h]
      have h0 : ¬ w <+: (c :: t).drop 0 := fun z => h (isPre_iff.mpr z)
      rcases findFrom_spec w t (i + 1) with ⟨e, n⟩ | ⟨k, h1, h2, h3, h4⟩
      · refine .inl ⟨e, fun k hk => ?_⟩
        cases k with
        | zero => exact h0
        | succ k => exact n k (by simpa using hk)
      · refine .inr ⟨k + 1, by simpa using h1, by rw [h2]; congr 1; omega, h3, fun j hj => ?_⟩
        cases j with
        | zero => exact h0
        | succ j => exact h4 j (by omega)
/-- w stands in t at i -/
def At (w t : Txt) (i : Nat) : Prop := i ≤ t.length ∧ w <+: t.drop i
theorem find_spec (t w : Txt) : (find t w = -1 ∧ ∀ k, ¬ At w t k) ∨ ∃ k : Nat, find t w = (k : Int) ∧ At w t k ∧ ∀ j, j < k → ¬ At w t j := by
  unfold find
  rcases findFrom_spec w t 0 with ⟨e, n⟩ | ⟨k, h1, h2, h3, h4⟩
  · exact .inl ⟨e, fun k ⟨h, z⟩ => n k h z⟩
  · exact .inr ⟨k, by rw [h2]; simp, ⟨h1, h3⟩, fun j hj ⟨_, z⟩ => h4 j hj z⟩
theorem isIn_iff {w t : Txt} : isIn w t = true ↔ ∃ k, At w t k := by
  unfold isIn
  rcases find_spec t w with ⟨e, n⟩ | ⟨k, e, h, _⟩
  · rw [e]
    simp
    exact n
  · rw [e]
    simp
    exact ⟨k, h⟩
theorem at_len {w t : Txt} {i : Nat} (h : At w t i) : i + w.length ≤ t.length := by
  have := h.2.length_le
  rw [List.length_drop] at this
  have := h.1
  omega
theorem at_iff_take {w t : Txt} {i : Nat} (hi : i ≤ t.length) : At w t i ↔ (t.drop i).take w.length = w := by
  constructor
  · intro h; exact (List.prefix_iff_eq_take.mp h.2).symm
  · intro h; exact ⟨hi, List.prefix_iff_eq_take.mpr h.symm⟩
theorem at_infix {w t : Txt} : (∃ k, At w t k) ↔ w <:+: t := by
  constructor
  · rintro ⟨k, h1, r, h2⟩
    exact ⟨t.take k, r, by rw [List.append_assoc, h2, List.take_append_drop]⟩
  · rintro ⟨a, b, rfl⟩
    refine ⟨a.length, by simp only [List.length_append]; omega, b, ?_⟩
    rw [List.append_assoc, List.drop_left]
theorem isIn_infix {w t : Txt} : isIn w t = true ↔ w <:+: t := isIn_iff.trans at_infix

/-! ### orders -/
theorem ltT_iff : ∀ {a b : Txt}, ltT a b = true ↔ a < b
  | [], [] => by simp [ltT]
  | [], b :: t => by simp [ltT]
  | a :: s, [] => by simp [ltT]
  | a :: s, b :: t => by
    rw [List.cons_lt_cons_iff]
    unfold ltT
    split
    · rename_i h; simp [h]
    · rename_i h
      split
      · rename_i h2
        simp only [Bool.false_eq_true, false_iff, not_or, not_and]
        exact ⟨h, fun e => by omega⟩
      · rename_i h2
        have e : a = b := by omega
        subst e
        simp [ltT_iff (a := s) (b := t)]
theorem leT_iff {a b : Txt} : leT a b = true ↔ ¬ b < a := by
  unfold leT
  rw [Bool.not_eq_true', ← Bool.not_eq_true, ltT_iff]
end PVL

set_option maxHeartbeats 1000000
/-! PVS: the operators. -/
namespace PVS
open PySem L2 TL PVL

theorem line_eq : PVL.line = sizeLine := by rw [sizeLine_eq]; rfl

/-- v is read as x in H -/
def RH (G : GS) (Z H : Hp) (ι : List (Addr × Addr)) (v : V) : PV → Prop
  | .lst xs => ∃ a vs, v = .ref a ∧ Rd H a (.lst vs) ∧ RVs G Z ι vs xs
  | .dic ps => ∃ a, v = .ref a ∧ ((∃ kvs, Rd H a (.dK kvs) ∧ RK G Z ι kvs ps) ∨ ∃ kvs, Rd H a (.dT kvs) ∧ RT G Z ι kvs ps ∧ kvs ≠ [])
  | x => RV G Z ι v x
section
variable {G : GS} {Z Z' B H H' : Hp} {ι ι' : List (Addr × Addr)}
theorem RH.of (s : Sub Z H) {v : V} {x : PV} (h : RV G Z ι v x) : RH G Z H ι v x := by
  cases h with
  | lst h r => exact ⟨_, _, rfl, s.rdl h, r⟩
  | dK h r => exact ⟨_, rfl, .inl ⟨_, (s _ _ h).rd, r⟩⟩
  | dT h r e => exact ⟨_, rfl, .inr ⟨_, (s _ _ h).rd, r, e⟩⟩
  | non => exact .non
  | bl b => exact .bl b
  | int i => exact .int i
  | str z h => exact .str z h
  | tup h r => exact .tup h r
  | obj h => exact .obj h
  | exc0 h hc hf => exact .exc0 h hc hf
  | exc h hc hd r hl => exact .exc h hc hd r hl
theorem RH.ofO {a : Addr} {o : HO} {x : PV} (h : Rd H a o) (r : RO G Z ι o x) : RH G Z H ι (.ref a) x := by
  cases r with
  | lst r => exact ⟨_, _, rfl, h, r⟩
  | dK r => exact ⟨_, rfl, .inl ⟨_, h, r⟩⟩
  | dT r e => exact ⟨_, rfl, .inr ⟨_, h, r, e⟩⟩
theorem RH.flat {v : V} {x : PV} (h : RH G Z H ι v x) (hc : isC x = false) : RV G Z ι v x := by
  cases x with
  | lst _ => cases hc
  | dic _ => cases hc
  | _ => exact h
theorem RH.str {v : V} {s : Txt} (h : RH G Z H ι v (.str s)) : v = .str (mkS s) ∧ okT s := by
  cases h with
  | str _ h => exact ⟨rfl, h⟩
theorem RH.int {v : V} {i : Int} (h : RH G Z H ι v (.int i)) : v = .int i := by
  cases h
  rfl
theorem RH.bl {v : V} {b : Bool} (h : RH G Z H ι v (.bl b)) : v = .bl b := by
  cases h
  rfl
theorem RH.non {v : V} (h : RH G Z H ι v .non) : v = .non := by
  cases h
  rfl
theorem RH.tup (s : Sub Z H) {v : V} {xs : List PV} (h : RH G Z H ι v (.tup xs)) : ∃ a vs, v = .ref a ∧ H a = some (.tup vs) ∧ RVs G Z ι vs xs := by
  cases h with
  | tup h r => exact ⟨_, _, rfl, s.tup h, r⟩

/-- a result: a thing that stands, or a new one -/
def Nw (G : GS) (Z H : Hp) (ι : List (Addr × Addr)) (m : Md) (z : PV) (v : V) (H' : Hp) : Prop :=
  ((m = .own → isC z = false) ∧ RV G Z ι v z ∧ H' = H) ∨
  ∃ p o, H p = none ∧ v = .ref p ∧ H' = upd H p o ∧ (RO G Z ι o z ∨ ∃ vs xs, o = .tup vs ∧ z = .tup xs ∧ RVs G Z ι vs xs)
theorem Nw.val {m : Md} {z : PV} {v : V} (h : RV G Z ι v z) (hc : isC z = false) : Nw G Z H ι m z v H := .inl ⟨fun _ => hc, h, rfl⟩
theorem Nw.lst {m : Md} {vs : List V} {xs : List PV} {p : Addr} (hp : H p = none) (r : RVs G Z ι vs xs) : Nw G Z H ι m (.lst xs) (.ref p) (upd H p (.lst vs)) := .inr ⟨p, _, hp, rfl, rfl, .inl (.lst r)⟩
theorem Nw.tup {m : Md} {vs : List V} {xs : List PV} {p : Addr} (hp : H p = none) (r : RVs G Z ι vs xs) : Nw G Z H ι m (.tup xs) (.ref p) (upd H p (.tup vs)) := .inr ⟨p, _, hp, rfl, rfl, .inr ⟨vs, xs, rfl, rfl, r⟩⟩
end

/-- an operation of two values -/
def rOp (G : GS) (g : PV → PV → Option PV) (m : Md) : R2 := fun v u H Q => ∃ Z ι x y z, Sub Z H ∧ RH G Z H ι v x ∧ RH G Z H ι u y ∧ g x y = some z ∧ ∀ w H', Nw G Z H ι m z w H' → Q w H'
/-- a comparison -/
def rCm (G : GS) (g : PV → PV → Option Bool) : R2 := fun v u H Q => ∃ Z ι x y b, Sub Z H ∧ RH G Z H ι v x ∧ RH G Z H ι u y ∧ g x y = some b ∧ Q (.bl b) H

section
variable {X : Cx} {G : GS}
theorem okT.app {a b : Txt} (ha : okT a) (hb : okT b) (h : a.length + b.length ≤ PVL.line) : okT (a ++ b) :=
  ⟨by rw [List.length_append]; exact h, fun c hc => (List.mem_append.mp hc).elim (ha.2 c) (hb.2 c)⟩
theorem mkS_len (a : Txt) : (mkS a).length = a.length := by simp [mkS, Str.length]
theorem mkS_app (a b : Txt) : mkS a ++ mkS b = mkS (a ++ b) := ext_tl (by rw [tl_append])
theorem mkS_inj {a b : Txt} (h : mkS a = mkS b) : a = b := by
  have := congrArg tl h
  simpa [tl] using this

/-! ### + of lists that are read -/
theorem Inv.lstR {pins : List (Addr × Obj)} {σ : St} {H : Hp} {s : Shared} (I : Inv X pins σ H s) {l : Addr} {xs : List V} (h : Rd H l (.lst xs)) : xs.length ≤ sizeLine ∧ ∃ (its : List Value) (n : Nat), Vals xs its ∧ xs.length = its.length ∧ s.heap.get? l = some { cls := .type "list", data := .seq its.toArray n } := by
  obtain ⟨z, its, n, r, e⟩ := h.ok I.hok
  exact ⟨z, its, n, r, r.length, e⟩
theorem op_catR : OpR X (binaryOp .Add) (fun x y H Q => ∃ l b xs zs, x = .ref l ∧ y = .ref b ∧ Rd H l (.lst xs) ∧ Rd H b (.lst zs) ∧ xs.length + zs.length ≤ sizeLine ∧ ∀ p, H p = none → Q (.ref p) (upd H p (.lst (xs ++ zs)))) := by
  intro pins s σ H x y v u Q I rx ry h
  obtain ⟨l, b, xs, zs, rfl, rfl, hH, hB, hz, q⟩ := h
  cases rx
  cases ry
  obtain ⟨z, its, n, r, hl, e⟩ := PVS.Inv.lstR I hH
  obtain ⟨z2, its2, n2, r2, hl2, e2⟩ := PVS.Inv.lstR I hB
  refine PySem.P.add_list e e2 ?_ (by rw [List.size_toArray, List.size_toArray]; omega)
  have ea : its.toArray ++ its2.toArray = (its ++ its2).toArray := by simp
  rw [ea]
  exact ⟨.ref _, _, I.lnew (t' := s.toks) (r.append r2) (by rw [List.length_append]; omega), rfl, q _ I.fresh⟩
theorem o_add : OpR X (binaryOp .Add) (rOp G (binV .add) .own) := by
  intro pins s σ H v u vv uu Q I rv ru h
  obtain ⟨Z, ι, x, y, z, sz, hx, hy, hg, k⟩ := h
  cases x <;> cases y <;> simp only [binV, reduceCtorEq] at hg
  · cases hg
    rw [hx.int] at rv; rw [hy.int] at ru
    exact op_add pins s σ H _ _ vv uu Q I rv ru ⟨_, _, rfl, rfl, k _ _ (.val (.int _) rfl)⟩
  · split at hg
    · rename_i hl
      cases hg
      obtain ⟨rfl, h1⟩ := hx.str
      obtain ⟨rfl, h2⟩ := hy.str
      refine op_add_str pins s σ H _ _ vv uu Q I rv ru ⟨_, _, rfl, rfl, by rw [mkS_len, mkS_len, ← line_eq]; exact hl, ?_⟩
      rw [mkS_app]
      exact k _ _ (.val (.str _ (h1.app h2 hl)) rfl)
    · cases hg
  · split at hg
    · rename_i hl
      cases hg
      obtain ⟨a, vs, rfl, h1, r1⟩ := hx
      obtain ⟨b, ws, rfl, h2, r2⟩ := hy
      exact op_catR pins s σ H _ _ vv uu Q I rv ru ⟨_, _, _, _, rfl, rfl, h1, h2, by rw [r1.len, r2.len, ← line_eq]; exact hl, fun p hp => k _ _ (.lst hp (r1.app r2))⟩
    · cases hg
theorem o_sub : OpR X (binaryOp .Sub) (rOp G (binV .sub) .own) := by
  intro pins s σ H v u vv uu Q I rv ru h
  obtain ⟨Z, ι, x, y, z, sz, hx, hy, hg, k⟩ := h
  cases x <;> cases y <;> simp only [binV, reduceCtorEq] at hg
  cases hg
  rw [hx.int] at rv; rw [hy.int] at ru
  exact op_sub pins s σ H _ _ vv uu Q I rv ru ⟨_, _, rfl, rfl, k _ _ (.val (.int _) rfl)⟩
theorem o_fdiv : OpR X (binaryOp .FloorDiv) (rOp G (binV .fdiv) .own) := by
  intro pins s σ H v u vv uu Q I rv ru h
  obtain ⟨Z, ι, x, y, z, sz, hx, hy, hg, k⟩ := h
  cases x <;> cases y <;> simp only [binV, reduceCtorEq] at hg
  split at hg
  · rename_i hc
    cases hg
    rw [hx.int] at rv; rw [hy.int] at ru
    exact op_fdivW pins s σ H _ _ vv uu Q I rv ru ⟨_, _, rfl, rfl, hc, k _ _ (.val (.int _) rfl)⟩
  · cases hg
theorem o_mod : OpR X (binaryOp .Mod) (rOp G (binV .mod) .own) := by
  intro pins s σ H v u vv uu Q I rv ru h
  obtain ⟨Z, ι, x, y, z, sz, hx, hy, hg, k⟩ := h
  cases x <;> cases y <;> simp only [binV, reduceCtorEq] at hg
  split at hg
  · rename_i hc
    cases hg
    rw [hx.int] at rv; rw [hy.int] at ru
    exact op_mod pins s σ H _ _ vv uu Q I rv ru ⟨_, _, rfl, rfl, hc, k _ _ (.val (.int _) rfl)⟩
  · cases hg
theorem o_pow : OpR X (binaryOp .Pow) (rOp G (binV .pow) .own) := by
  intro pins s σ H v u vv uu Q I rv ru h
  obtain ⟨Z, ι, x, y, z, sz, hx, hy, hg, k⟩ := h
  cases x <;> cases y <;> simp only [binV, reduceCtorEq] at hg
  split at hg
  · rename_i hc
    cases hg
    rw [hx.int] at rv; rw [hy.int] at ru
    exact op_pow pins s σ H _ _ vv uu Q I rv ru ⟨_, _, rfl, rfl, hc, k _ _ (.val (.int _) rfl)⟩
  · cases hg
theorem foldl_rep (a : Txt) : ∀ (n : Nat) (acc : Array Nat), ((List.replicate n a.toArray).foldl (· ++ ·) acc).toList = acc.toList ++ (List.replicate n a).flatten
  | 0, acc => by simp
  | n + 1, acc => by rw [List.replicate_succ, List.foldl_cons, foldl_rep a n]; simp [List.replicate_succ]
theorem flatten_len (a : Txt) : ∀ n : Nat, ((List.replicate n a).flatten).length = a.length * n
  | 0 => by simp
  | n + 1 => by simp [List.replicate_succ, flatten_len a n, Nat.mul_succ, Nat.add_comm]
theorem okT.rep {a : Txt} (ha : okT a) (n : Nat) (h : a.length * n ≤ PVL.line) : okT (List.replicate n a).flatten :=
  ⟨by rw [flatten_len]; exact h, fun c hc => by
    obtain ⟨l, h1, h2⟩ := List.mem_flatten.mp hc
    rw [(List.mem_replicate.mp h1).2] at h2
    exact ha.2 c h2⟩
/-- * of two factors of together less than a hundred million bits -/
def CMulX (i j : Int) : Prop := i.natAbs.log2 + j.natAbs.log2 < 100000000
theorem CMulX.ok {i j : Int} (h : CMulX i j) : IntMulOk i j := by
  have b : ∀ x : Int, Builtin.Int.intBits x ≤ x.natAbs.log2 + 1 := fun x => by
    unfold Builtin.Int.intBits
    split <;> omega
  have h1 := b i
  have h2 := b j
  have h3 : i.natAbs.log2 + j.natAbs.log2 < 100000000 := h
  have e : bitsLine = 134217728 := by decide
  unfold IntMulOk
  intro z
  rw [Bool.and_eq_true] at z
  have z2 := z.2
  unfold Builtin.Int.intTooBig at z2
  have z3 := of_decide_eq_true z2
  rw [e] at z3
  omega
theorem op_mulX : OpR X (binaryOp .Mult) (rI CMulX fun i j => .int (i * j)) := opI fun _ _ _ _ _ _ _ hc q => PySem.P.mul_int q hc.ok
theorem o_mul : OpR X (binaryOp .Mult) (rOp G (binV .mul) .own) := by
  intro pins s σ H v u vv uu Q I rv ru h
  obtain ⟨Z, ι, x, y, z, sz, hx, hy, hg, k⟩ := h
  cases x <;> cases y <;> simp only [binV, reduceCtorEq] at hg
  · split at hg
    · rename_i hc
      cases hg
      rw [hx.int] at rv; rw [hy.int] at ru
      exact op_mulX pins s σ H _ _ vv uu Q I rv ru ⟨_, _, rfl, rfl, of_decide_eq_true (p := _ < _) hc, k _ _ (.val (.int _) rfl)⟩
    · cases hg
  · split at hg
    · rename_i a n hc
      cases hg
      obtain ⟨rfl, h1⟩ := hx.str
      rw [hy.int] at ru
      obtain ⟨t, rfl⟩ := rv
      obtain ⟨t', rfl⟩ := ru
      have fin : ∀ (st : Shared), Inv X pins σ H st → ∀ t2, EP X pins σ Q (.str (mkS (List.replicate n.toNat a).flatten) t2) st := fun st J t2 => ⟨.str (mkS (List.replicate n.toNat a).flatten), H, J, ⟨_, rfl⟩, k _ _ (.val (.str _ (h1.rep _ hc.1)) rfl)⟩
      by_cases hn : n < 1
      · by_cases hlo : n < -(2 ^ 63 : Int)
        · have := hc.2.1
          omega
        · refine PySem.P.mul_str_none hn hlo ?_
          have e : (List.replicate n.toNat a).flatten = [] := by rw [show n.toNat = 0 by omega]; rfl
          have := fin { s with toks := s.toks + 1 } (I.tok _) s.toks
          rw [e] at this
          exact this
      · refine PySem.P.mul_str ?_ ?_ ?_ ?_
        · rw [decide_eq_false (by omega), decide_eq_false (by have := hc.2.2; omega)]; rfl
        · intro _ _ hgt
          rw [mkS_len] at hgt
          have h1 := hc.1
          have h3 : (a.length * n.toNat : Nat) ≤ 2 ^ 24 := h1
          have h4 : ((a.length * n.toNat : Nat) : Int) = a.length * n := by rw [Int.natCast_mul, Int.toNat_of_nonneg (by omega)]
          have h5 : (a.length : Int) * n ≤ 2 ^ 63 - 1 := by omega
          have h6 : (a.length : Int) ≤ (2 ^ 63 - 1) / n := (Int.le_ediv_iff_mul_le (by omega)).mpr h5
          omega
        · intro _ _
          unfold Builtin.Str.tooLong
          rw [mkS_len, decide_eq_false]
          rw [← line_eq]
          have := hc.1
          omega
        · rw [if_neg hn]
          split
          · rename_i h2
            have e : (List.replicate n.toNat a).flatten = a := by
              rcases Bool.or_eq_true _ _ ▸ h2 with q | q
              · have : n = 1 := by simpa using q
                subst this
                simp
              · have : a = [] := by
                  have : (mkS a).length = 0 := by simpa using q
                  rw [mkS_len] at this
                  exact List.eq_nil_of_length_eq_zero this
                subst this
                apply List.flatten_eq_nil_iff.mpr
                intro l hl
                exact (List.mem_replicate.mp hl).2
            have := fin { s with toks := s.toks } (I.tok _) t
            rw [e] at this
            exact this
          · have e : (⟨(List.replicate n.toNat (mkS a).cps).foldl (· ++ ·) #[]⟩ : Str) = mkS (List.replicate n.toNat a).flatten := ext_tl (by
              show ((List.replicate n.toNat a.toArray).foldl (· ++ ·) #[]).toList = _
              rw [foldl_rep]; simp [tl])
            rw [e]
            refine ⟨?_, fin _ (I.tok _) _⟩
            rw [mkS_len, flatten_len, ← line_eq]
            exact hc.1
    · cases hg
end
end PVS

set_option maxHeartbeats 1000000
/-! PVS: comparisons. -/
namespace PVS
open PySem L2 TL PVL
/-! ### plain values as the library's data -/
mutual
def toPD : PV → PyData
  | .non => .none
  | .bl b => .bool b
  | .int i => .int i
  | .str s => .str (mkS s)
  | .tup xs => .tuple (toPDs xs)
  | .lst xs => .list (toPDs xs)
  | .dic _ => .none
  | .obj _ => .none
  | .exc _ _ => .none
def toPDs : List PV → List PyData
  | [] => []
  | x :: xs => toPD x :: toPDs xs
end
mutual
theorem depth_of : ∀ {x : PV} {n : Nat}, deep x = some n → (toPD x).depth = n
  | .non, n, h => by cases h; rfl
  | .bl _, n, h => by cases h; rfl
  | .int _, n, h => by cases h; rfl
  | .str _, n, h => by cases h; rfl
  | .tup xs, n, h => by
    simp only [deep, Option.map_eq_some_iff] at h
    obtain ⟨m, h1, rfl⟩ := h
    simp [toPD, PyData.depth, depths_of h1]
  | .lst xs, n, h => by
    simp only [deep, Option.map_eq_some_iff] at h
    obtain ⟨m, h1, rfl⟩ := h
    simp [toPD, PyData.depth, depths_of h1]
  | .dic _, n, h => by cases h
  | .obj _, n, h => by cases h
  | .exc _ _, n, h => by cases h
theorem depths_of : ∀ {xs : List PV} {n : Nat}, deeps xs = some n → PyData.depthAll (toPDs xs) = n
  | [], n, h => by cases h; rfl
  | x :: xs, n, h => by
    simp only [deeps, Option.bind_eq_some_iff, Option.map_eq_some_iff] at h
    obtain ⟨a, h1, b, h2, rfl⟩ := h
    simp [toPDs, PyData.depthAll, depth_of h1, depths_of h2]
end
theorem beq_mkS (a b : Txt) : (mkS a == mkS b) = (a == b) := by
  by_cases h : a = b
  · subst h; simp
  · have : ¬ mkS a = mkS b := fun z => h (mkS_inj z)
    rw [beq_eq_false_iff_ne.mpr h, beq_eq_false_iff_ne.mpr this]
mutual
theorem eqv_pd : ∀ {x y : PV} {n m : Nat}, deep x = some n → deep y = some m → eqv x y = PyData.eqv (toPD x) (toPD y)
  | .non, y, n, m, h, h' => by cases y <;> simp [deep] at h' <;> simp [eqv, toPD, PyData.eqv]
  | .bl _, y, n, m, h, h' => by cases y <;> simp [deep] at h' <;> simp [eqv, toPD, PyData.eqv]
  | .int _, y, n, m, h, h' => by cases y <;> simp [deep] at h' <;> simp [eqv, toPD, PyData.eqv]
  | .str _, y, n, m, h, h' => by cases y <;> simp [deep] at h' <;> simp [eqv, toPD, PyData.eqv, beq_mkS]
  | .tup xs, y, n, m, h, h' => by
    simp only [deep, Option.map_eq_some_iff] at h
    obtain ⟨a, h1, rfl⟩ := h
    cases y with
    | tup ys =>
      simp only [deep, Option.map_eq_some_iff] at h'
      obtain ⟨b, h2, rfl⟩ := h'
      simp [eqv, toPD, PyData.eqv, eqvs_pd h1 h2]
    | _ => simp [deep] at h' <;> simp [eqv, toPD, PyData.eqv]
  | .lst xs, y, n, m, h, h' => by
    simp only [deep, Option.map_eq_some_iff] at h
    obtain ⟨a, h1, rfl⟩ := h
    cases y with
    | lst ys =>
      simp only [deep, Option.map_eq_some_iff] at h'
      obtain ⟨b, h2, rfl⟩ := h'
      simp [eqv, toPD, PyData.eqv, eqvs_pd h1 h2]
    | _ => simp [deep] at h' <;> simp [eqv, toPD, PyData.eqv]
  | .dic _, y, n, m, h, h' => by cases h
  | .obj _, y, n, m, h, h' => by cases h
  | .exc _ _, y, n, m, h, h' => by cases h
theorem eqvs_pd : ∀ {xs ys : List PV} {n m : Nat}, deeps xs = some n → deeps ys = some m → eqvs xs ys = PyData.eqvAll (toPDs xs) (toPDs ys)
  | [], [], n, m, h, h' => rfl
  | [], y :: ys, n, m, h, h' => rfl
  | x :: xs, [], n, m, h, h' => rfl
  | x :: xs, y :: ys, n, m, h, h' => by
    simp only [deeps, Option.bind_eq_some_iff, Option.map_eq_some_iff] at h h'
    obtain ⟨a, h1, b, h2, rfl⟩ := h
    obtain ⟨a', h1', b', h2', rfl⟩ := h'
    simp [eqvs, toPDs, PyData.eqvAll, eqv_pd h1 h1', eqvs_pd h2 h2']
end
section
variable {G : GS} {Z Z' B H H' : Hp} {ι ι' : List (Addr × Addr)}
theorem okT.strOk {s : Txt} (h : okT s) : PyData.strOk (mkS s) = true := by
  unfold PyData.strOk
  simp only [mkS, List.all_toArray, List.all_eq_true, decide_eq_true_eq]
  exact h.2
mutual
theorem RV.lay : ∀ {v : V} {x : PV} {n : Nat}, RV G Z ι v x → deep x = some n → (toPD x).canLay0 = true
  | _, _, _, .non, _ => rfl
  | _, _, _, .bl _, _ => rfl
  | _, _, _, .int _, _ => rfl
  | _, _, _, .str s h, _ => h.strOk
  | _, _, _, .tup h r, e => by
    simp only [deep, Option.map_eq_some_iff] at e
    obtain ⟨m, h1, rfl⟩ := e
    exact RVs.lay r h1
  | _, _, _, .lst h r, e => by
    simp only [deep, Option.map_eq_some_iff] at e
    obtain ⟨m, h1, rfl⟩ := e
    exact RVs.lay r h1
  | _, _, _, .dK h r, e => by cases e
  | _, _, _, .dT h r _, e => by cases e
  | _, _, _, .obj h, e => by cases e
  | _, _, _, .exc0 _ _ _, e => by cases e
  | _, _, _, .exc _ _ _ _ _, e => by cases e
theorem RVs.lay : ∀ {vs : List V} {xs : List PV} {n : Nat}, RVs G Z ι vs xs → deeps xs = some n → PyData.canLayAll0 (toPDs xs) = true
  | _, _, _, .nil, _ => rfl
  | _, _, _, .cons r t, e => by
    simp only [deeps, Option.bind_eq_some_iff, Option.map_eq_some_iff] at e
    obtain ⟨a, h1, b, h2, rfl⟩ := e
    simp [toPDs, PyData.canLayAll0, RV.lay r h1, RVs.lay t h2]
end
mutual
theorem RV.dp (s : Sub Z H) {K : PySem.W.Frag} (hK : G.K = K) : ∀ {v : V} {x : PV} {n : Nat}, RV G Z ι v x → deep x = some n → Dp K H v (toPD x)
  | _, _, _, .non, _ => .non
  | _, _, _, .bl _, _ => .bl _
  | _, _, _, .int _, _ => .int _
  | _, _, _, .str _ h, _ => .str _
  | _, _, _, .tup h r, e => by
    simp only [deep, Option.map_eq_some_iff] at e
    obtain ⟨m, h1, rfl⟩ := e
    exact .tup (SqT.of (s.tup h)) (RVs.dp s hK r h1)
  | _, _, _, .lst h r, e => by
    simp only [deep, Option.map_eq_some_iff] at e
    obtain ⟨m, h1, rfl⟩ := e
    exact .lst (.inl (s.rdl h)) (RVs.dp s hK r h1)
  | _, _, _, .dK h r, e => by cases e
  | _, _, _, .dT h r _, e => by cases e
  | _, _, _, .obj h, e => by cases e
  | _, _, _, .exc0 _ _ _, e => by cases e
  | _, _, _, .exc _ _ _ _ _, e => by cases e
theorem RVs.dp (s : Sub Z H) {K : PySem.W.Frag} (hK : G.K = K) : ∀ {vs : List V} {xs : List PV} {n : Nat}, RVs G Z ι vs xs → deeps xs = some n → DpAll K H vs (toPDs xs)
  | _, _, _, .nil, _ => .nil
  | _, _, _, .cons r t, e => by
    simp only [deeps, Option.bind_eq_some_iff, Option.map_eq_some_iff] at e
    obtain ⟨a, h1, b, h2, rfl⟩ := e
    exact .cons (RV.dp s hK r h1) (RVs.dp s hK t h2)
end
theorem RH.dp (s : Sub Z H) {K : PySem.W.Frag} (hK : G.K = K) {v : V} {x : PV} {n : Nat} (h : RH G Z H ι v x) (e : deep x = some n) : Dp K H v (toPD x) ∧ (toPD x).canLay0 = true := by
  cases x with
  | lst xs =>
    obtain ⟨a, vs, rfl, h1, r⟩ := h
    simp only [deep, Option.map_eq_some_iff] at e
    obtain ⟨m, h2, rfl⟩ := e
    exact ⟨.lst (.inl h1) (r.dp s hK h2), r.lay h2⟩
  | dic _ => cases e
  | _ => exact ⟨RV.dp s hK h e, RV.lay h e⟩
end
section
variable {X : Cx} {G : GS}
theorem eq_run (hK : G.K = X.K) (hu : X.A.units + 64 < cLine) {pins : List (Addr × Obj)} {s : Shared} {σ : St} {H : Hp} {v u : V} {vv uu : Value} (I : Inv X pins σ H s) (rv : RelV v vv) (ru : RelV u uu) {Z : Hp} {ι : List (Addr × Addr)} {x y : PV}
    (sz : Sub Z H) (hx : RH G Z H ι v x) (hy : RH G Z H ι u y) (hk : eqOk x y = true) :
    ∃ as bs, Reads s.heap vv (toPD x) as ∧ Reads s.heap uu (toPD y) bs ∧ (toPD x).canLay0 = true ∧ (toPD y).canLay0 = true ∧ X.A.units + min (toPD x).depth (toPD y).depth < cLine ∧ eqv x y = PyData.eqv (toPD x) (toPD y) := by
  unfold eqOk at hk
  cases e1 : deep x with
  | none => rw [e1] at hk; cases hk
  | some a =>
    cases e2 : deep y with
    | none => rw [e1, e2] at hk; cases hk
    | some b =>
      rw [e1, e2] at hk
      have hk := of_decide_eq_true hk
      obtain ⟨d1, l1⟩ := hx.dp sz hK e1
      obtain ⟨d2, l2⟩ := hy.dp sz hK e2
      obtain ⟨as, r1⟩ := Dp.reads I _ _ _ d1 rv
      obtain ⟨bs, r2⟩ := Dp.reads I _ _ _ d2 ru
      exact ⟨as, bs, r1, r2, l1, l2, by rw [depth_of e1, depth_of e2]; omega, eqv_pd e1 e2⟩
theorem o_ne (hK : G.K = X.K) (hu : X.A.units + 64 < cLine) : OpR X (compareOp .NotEq) (rCm G (cmpV .ne)) := by
  intro pins s σ H v u vv uu Q I rv ru h
  obtain ⟨Z, ι, x, y, b, sz, hx, hy, hg, k⟩ := h
  simp only [cmpV] at hg
  split at hg
  · rename_i hk
    cases hg
    obtain ⟨as, bs, r1, r2, l1, l2, hu', e⟩ := eq_run hK hu I rv ru sz hx hy hk
    exact SeqAt.compareNe_reads r1 r2 l1 l2 hu' ⟨.bl _, H, I, by rw [e]; rfl, k⟩
  · cases hg
theorem dec_lt (a b : Txt) : decide ((mkS a).cps.toList < (mkS b).cps.toList) = ltT a b := by
  show decide (a < b) = ltT a b
  by_cases h : a < b
  · rw [decide_eq_true h, ltT_iff.mpr h]
  · rw [decide_eq_false h]
    exact (Bool.eq_false_iff.mpr fun z => h (ltT_iff.mp z)).symm
theorem lexLt_eq : ∀ a b : List Int, HT.lexLt a b = ltI a b
  | [], [] => rfl
  | [], _ :: _ => rfl
  | _ :: _, [] => rfl
  | x :: xs, y :: ys => by
    show (if x = y then HT.lexLt xs ys else decide (x < y)) = if x = y then ltI xs ys else decide (x < y)
    rw [lexLt_eq xs ys]
theorem o_lt (hu : X.A.units + 64 < cLine) : OpR X (compareOp .Lt) (rCm G (cmpV .lt)) := by
  intro pins s σ H v u vv uu Q I rv ru h
  obtain ⟨Z, ι, x, y, b, sz, hx, hy, hg, k⟩ := h
  cases x <;> cases y <;> simp only [cmpV, reduceCtorEq] at hg
  · cases hg
    rw [hx.int] at rv; rw [hy.int] at ru
    exact op_lt pins s σ H _ _ vv uu Q I rv ru ⟨_, _, rfl, rfl, k⟩
  · cases hg
    rw [hx.str.1] at rv; rw [hy.str.1] at ru
    exact op_lt_str pins s σ H _ _ vv uu Q I rv ru ⟨_, _, rfl, rfl, by rw [dec_lt]; exact k⟩
  · rename_i xs ys
    cases e1 : intsV xs with
    | none => rw [e1] at hg; cases hg
    | some ns =>
      cases e2 : intsV ys with
      | none => rw [e1, e2] at hg; cases hg
      | some ms =>
        rw [e1, e2] at hg
        cases hg
        obtain ⟨a1, vs1, rfl, h1, r1⟩ := hx.tup sz
        obtain ⟨a2, vs2, rfl, h2, r2⟩ := hy.tup sz
        obtain ⟨rfl, _⟩ := r1.intsV e1
        obtain ⟨rfl, _⟩ := r2.intsV e2
        exact op_ltT (by omega) pins s σ H _ _ vv uu Q I rv ru ⟨_, _, ns, ms, rfl, rfl, SqT.of h1, SqT.of h2, by rw [lexLt_eq]; exact k⟩
theorem o_le : OpR X (compareOp .LtE) (rCm G (cmpV .le)) := by
  intro pins s σ H v u vv uu Q I rv ru h
  obtain ⟨Z, ι, x, y, b, sz, hx, hy, hg, k⟩ := h
  cases x <;> cases y <;> simp only [cmpV, reduceCtorEq] at hg <;> cases hg
  · rw [hx.int] at rv; rw [hy.int] at ru
    exact op_le pins s σ H _ _ vv uu Q I rv ru ⟨_, _, rfl, rfl, k⟩
  · rw [hx.str.1] at rv; rw [hy.str.1] at ru
    exact op_le_str pins s σ H _ _ vv uu Q I rv ru ⟨_, _, rfl, rfl, by rw [dec_lt]; exact k⟩
theorem o_gt : OpR X (compareOp .Gt) (rCm G (cmpV .gt)) := by
  intro pins s σ H v u vv uu Q I rv ru h
  obtain ⟨Z, ι, x, y, b, sz, hx, hy, hg, k⟩ := h
  cases x <;> cases y <;> simp only [cmpV, reduceCtorEq] at hg <;> cases hg
  · rw [hx.int] at rv; rw [hy.int] at ru
    exact op_gt pins s σ H _ _ vv uu Q I rv ru ⟨_, _, rfl, rfl, k⟩
  · rw [hx.str.1] at rv; rw [hy.str.1] at ru
    exact op_gt_str pins s σ H _ _ vv uu Q I rv ru ⟨_, _, rfl, rfl, by rw [dec_lt]; exact k⟩
theorem o_ge : OpR X (compareOp .GtE) (rCm G (cmpV .ge)) := by
  intro pins s σ H v u vv uu Q I rv ru h
  obtain ⟨Z, ι, x, y, b, sz, hx, hy, hg, k⟩ := h
  cases x <;> cases y <;> simp only [cmpV, reduceCtorEq] at hg <;> cases hg
  · rw [hx.int] at rv; rw [hy.int] at ru
    exact op_ge pins s σ H _ _ vv uu Q I rv ru ⟨_, _, rfl, rfl, k⟩
  · rw [hx.str.1] at rv; rw [hy.str.1] at ru
    exact op_ge_str pins s σ H _ _ vv uu Q I rv ru ⟨_, _, rfl, rfl, by rw [dec_lt]; exact k⟩
end
end PVS

set_option maxHeartbeats 1000000
/-! PVS: in, is, items, slices. -/
namespace PVS
open PySem L2 TL PVL
section
variable {X : Cx} {G : GS}
theorem at_str {w t : Txt} {i : Nat} : PySem.StrLaws.At (mkS t) (mkS w) (mkS t).length i ↔ PVL.At w t i := by
  have h1 := mkS_len t
  have h2 := mkS_len w
  constructor
  · rintro ⟨a, b⟩
    rw [PySem.StrLaws.subAt_eq] at b
    have hi : i ≤ t.length := by omega
    refine (at_iff_take hi).mpr ?_
    have := eq_of_beq b
    rw [h2] at this
    exact this
  · intro h
    have hl := at_len h
    refine ⟨by omega, ?_⟩
    rw [PySem.StrLaws.subAt_eq, h2]
    have := (at_iff_take h.1).mp h
    exact beq_iff_eq.mpr this
theorem in_str (w t : Txt) : (!(Builtin.Str.occurrences (mkS t) (mkS w) 0 (mkS t).length 1).isEmpty) = isIn w t := by
  rcases PySem.StrLaws.occ_head (mkS t) (mkS w) 1 (Nat.le_refl _) with ⟨e, n⟩ | ⟨i, r, e, h, _⟩
  · rw [e]
    symm
    show isIn w t = false
    refine Bool.eq_false_iff.mpr fun z => ?_
    obtain ⟨k, hk⟩ := isIn_iff.mp z
    exact n k (at_str.mpr hk)
  · rw [e]
    symm
    exact isIn_iff.mpr ⟨i, at_str.mp h⟩
theorem find_str (t w : Txt) : Txt.find (mkS t) (mkS w) = PVL.find t w := by
  unfold Txt.find
  rcases PySem.StrLaws.occ_head (mkS t) (mkS w) 1 (Nat.le_refl _) with ⟨e, n⟩ | ⟨i, r, e, h, l⟩
  · rw [e]
    rcases find_spec t w with ⟨q, _⟩ | ⟨k, _, h, _⟩
    · exact q.symm
    · exact absurd (at_str.mpr h) (n k)
  · rw [e]
    rcases find_spec t w with ⟨q, n⟩ | ⟨k, q, hk, m⟩
    · exact absurd (at_str.mp h) (n i)
    · rw [q]
      have : i = k := by
        rcases Nat.lt_trichotomy i k with z | z | z
        · exact absurd (at_str.mp h) (m i z)
        · exact z
        · exact absurd (at_str.mpr hk) (l k z)
      rw [this]

/-! ### in -/
theorem eqV_flat {Z : Hp} {ι : List (Addr × Addr)} {v u : V} {x y : PV} (hx : RV G Z ι v x) (hy : RV G Z ι u y) (fx : flatS x = true) (fy : flatS y = true) : L2.eqV u v = eqv y x ∧ flatV v = true ∧ flatV u = true := by
  cases hx <;> simp [flatS] at fx <;> cases hy <;> simp [flatS] at fy <;> simp [L2.eqV, eqv, flatV, beq_mkS]
theorem inV_flat {Z : Hp} {ι : List (Addr × Addr)} {v : V} {x : PV} (hx : RV G Z ι v x) (fx : flatS x = true) : ∀ {vs : List V} {xs : List PV}, RVs G Z ι vs xs → xs.all flatS = true → L2.inV v vs = (xs.any fun y => eqv y x) ∧ vs.all flatV = true
  | _, _, .nil, _ => ⟨rfl, rfl⟩
  | _, _, .cons r t, h => by
    rw [List.all_cons, Bool.and_eq_true] at h
    obtain ⟨h1, h2, h3⟩ := eqV_flat hx r fx h.1
    obtain ⟨h4, h5⟩ := inV_flat hx fx t h.2
    unfold L2.inV at h4 ⊢
    rw [List.any_cons, List.any_cons, h1, h4, List.all_cons, h3, h5]
    exact ⟨rfl, rfl⟩
theorem flat_not {x : PV} (h : flatS x = true) : isC x = false := by cases x <;> simp [flatS] at h <;> rfl

/-! ### keys of dicts -/
theorem kP_flat (k : Key) : flatKey (kP k) = true := by cases k <;> rfl
theorem tup_kP (k : Key) : tupKey (kP k) = false := by cases k <;> rfl
theorem keyEq_kP (a b : Key) : keyEq (kP a) (kP b) = decide (a = b) := by
  cases a with
  | inl i =>
    cases b with
    | inl j => simp [kP, keyEq]; exact Bool.beq_eq_decide_eq _ _
    | inr s => simp [kP, keyEq]
  | inr s =>
    cases b with
    | inl j => simp [kP, keyEq]
    | inr t =>
      simp only [kP, keyEq]
      by_cases h : s = t
      · subst h; simp
      · have : ¬ s.cps.toList = t.cps.toList := fun z => h (ext_tl z)
        rw [beq_eq_false_iff_ne.mpr this, decide_eq_false (fun z => h (Sum.inr.inj z))]
theorem eqv_kP (a b : Key) : eqv (kP a) (kP b) = decide (a = b) := by
  rw [← keyEq_kP]
  cases a <;> cases b <;> simp [kP, keyEq, eqv]
theorem eqvs_kP : ∀ (a b : List Key), eqvs (a.map kP) (b.map kP) = decide (a = b)
  | [], [] => rfl
  | [], _ :: _ => rfl
  | _ :: _, [] => rfl
  | x :: a, y :: b => by
    show (eqv (kP x) (kP y) && eqvs (a.map kP) (b.map kP)) = _
    rw [eqv_kP, eqvs_kP a b]
    by_cases h : x = y
    · subst h; simp
    · simp [h]
theorem keyEq_tP (a b : List Key) : keyEq (.tup (a.map kP)) (.tup (b.map kP)) = decide (a = b) := eqvs_kP a b
theorem kP_inj {a b : Key} (h : kP a = kP b) : a = b := by
  have := keyEq_kP a b
  rw [h, keyEq_kP] at this
  simpa using this.symm
/-- a key as it stands -/
theorem key_flat {Z H : Hp} {ι : List (Addr × Addr)} {v : V} {x : PV} (h : RV G Z ι v x) (f : flatKey x = true) : ∃ k : Key, v = kV k ∧ x = kP k ∧ ∀ s, k = .inr s → okT s.cps.toList := by
  cases h <;> simp [flatKey] at f
  · exact ⟨.inl _, rfl, rfl, fun _ z => by cases z⟩
  · rename_i s h
    exact ⟨.inr (mkS s), rfl, rfl, fun _ z => by cases z; exact h⟩
theorem keys_flat {Z H : Hp} {ι : List (Addr × Addr)} : ∀ {vs : List V} {xs : List PV}, RVs G Z ι vs xs → xs.all flatKey = true → ∃ ks : List Key, vs = ks.map kV ∧ xs = ks.map kP ∧ ∀ s, Sum.inr s ∈ ks → okT s.cps.toList
  | _, _, .nil, _ => ⟨[], rfl, rfl, fun _ h => by cases h⟩
  | _, _, .cons r t, h => by
    rw [List.all_cons, Bool.and_eq_true] at h
    obtain ⟨k, rfl, rfl, h1⟩ := key_flat (H := H) r h.1
    obtain ⟨ks, rfl, rfl, h2⟩ := keys_flat (H := H) t h.2
    exact ⟨k :: ks, rfl, rfl, fun s hs => by
      rcases List.mem_cons.mp hs with z | z
      · exact h1 s z.symm
      · exact h2 s z⟩
section
variable {Z : Hp} {ι : List (Addr × Addr)}
theorem RK.look {kvs : List (Key × V)} {ps : List (PV × PV)} (h : RK G Z ι kvs ps) (k : Key) : (∀ x, look ps (kP k) = some x → ∃ v, valV kvs k = some v ∧ RV G Z ι v x) ∧ (look ps (kP k) = none → valV kvs k = none) := by
  induction kvs generalizing ps with
  | nil => cases h; exact ⟨fun x e => (by cases e), fun _ => rfl⟩
  | cons p kvs ih =>
    cases h with
    | @cons j v x _ xs r _ t =>
      obtain ⟨i1, i2⟩ := ih t
      unfold PVL.look at i1 i2 ⊢
      rw [List.find?_cons, keyEq_kP]
      by_cases e : j = k
      · subst e
        simp only [decide_true, Option.map_some]
        exact ⟨fun y hy => by cases hy; exact ⟨v, valV_pos rfl, r⟩, fun z => by cases z⟩
      · simp only [decide_eq_false e]
        exact ⟨fun y hy => by rw [valV_neg e]; exact i1 y hy, fun z => by rw [valV_neg e]; exact i2 z⟩
theorem RT.look {kvs : List (List Key × V)} {ps : List (PV × PV)} (h : RT G Z ι kvs ps) (k : List Key) : (∀ x, look ps (.tup (k.map kP)) = some x → ∃ v, valV kvs k = some v ∧ RV G Z ι v x) ∧ (look ps (.tup (k.map kP)) = none → valV kvs k = none) := by
  induction kvs generalizing ps with
  | nil => cases h; exact ⟨fun x e => (by cases e), fun _ => rfl⟩
  | cons p kvs ih =>
    cases h with
    | @cons j v x _ xs r _ t =>
      obtain ⟨i1, i2⟩ := ih t
      unfold PVL.look at i1 i2 ⊢
      rw [List.find?_cons, keyEq_tP]
      by_cases e : j = k
      · subst e
        simp only [decide_true, Option.map_some]
        exact ⟨fun y hy => by cases hy; exact ⟨v, valV_pos rfl, r⟩, fun z => by cases z⟩
      · simp only [decide_eq_false e]
        exact ⟨fun y hy => by rw [valV_neg e]; exact i1 y hy, fun z => by rw [valV_neg e]; exact i2 z⟩
theorem RK.flats {kvs : List (Key × V)} {ps : List (PV × PV)} (h : RK G Z ι kvs ps) : ps.all (fun p => flatKey p.1) = true := by
  induction kvs generalizing ps with
  | nil => cases h; rfl
  | cons p kvs ih => cases h with | cons r _ t => rw [List.all_cons, ih t]; simp [kP_flat]
theorem RT.tups {kvs : List (List Key × V)} {ps : List (PV × PV)} (h : RT G Z ι kvs ps) : ps.all (fun p => tupKey p.1) = true := by
  induction kvs generalizing ps with
  | nil => cases h; rfl
  | cons p kvs ih =>
    cases h with
    | cons r _ t =>
      rw [List.all_cons, ih t]
      simp [tupKey, kP_flat]
end
/-- a dict that is read by a key: what DGet asks -/
theorem dget {Z H : Hp} {ι : List (Addr × Addr)} (sz : Sub Z H) {a : Addr} {ps : List (PV × PV)} {u : V} {k : PV} (hd : RH G Z H ι (.ref a) (.dic ps)) (hk : RH G Z H ι u k) (hf : keyFits ps k = true) :
    (∀ x, PVL.look ps k = some x → ∃ v, DGet H a u (some v) ∧ RV G Z ι v x) ∧ (PVL.look ps k = none → DGet H a u none) := by
  unfold keyFits at hf
  obtain ⟨a', e, hd⟩ := hd
  cases e
  rcases (Bool.or_eq_true _ _).mp hf with hf | hf
  · rw [Bool.and_eq_true] at hf
    have hkc : isC k = false := by cases k <;> simp [flatKey] at hf <;> rfl
    obtain ⟨j, rfl, rfl, _⟩ := key_flat (H := H) (hk.flat hkc) hf.1
    rcases hd with ⟨kvs, h1, r⟩ | ⟨kvs, h1, r, ne⟩
    · obtain ⟨l1, l2⟩ := r.look j
      refine ⟨fun x hx => ?_, fun hn => ?_⟩
      · obtain ⟨v, h2, h3⟩ := l1 x hx
        exact ⟨v, .inl ⟨kvs, j, h1, rfl, h2.symm⟩, h3⟩
      · exact .inl ⟨kvs, j, h1, rfl, (l2 hn).symm⟩
    · exfalso
      have h2 := r.tups
      cases r with
      | nil => exact ne rfl
      | cons _ _ _ =>
        rw [List.all_cons, Bool.and_eq_true] at hf h2
        have := hf.2.1
        simp [flatKey] at this
  · rw [Bool.and_eq_true, Bool.and_eq_true] at hf
    cases k with
    | tup xs =>
      cases hk with
      | tup ht rs =>
        obtain ⟨ks, rfl, rfl, _⟩ := keys_flat (H := H) rs hf.1.1
        rcases hd with ⟨kvs, h1, r⟩ | ⟨kvs, h1, r, ne⟩
        · exfalso
          have h2 := r.flats
          cases r with
          | nil => simp at hf
          | cons _ _ _ =>
            rw [List.all_cons, Bool.and_eq_true] at h2
            have h3 := hf.2
            rw [List.all_cons, Bool.and_eq_true] at h3
            have := h3.1
            simp [tup_kP] at this
        · obtain ⟨l1, l2⟩ := r.look ks
          refine ⟨fun x hx => ?_, fun hn => ?_⟩
          · obtain ⟨v, h2, h3⟩ := l1 x hx
            exact ⟨v, .inr ⟨kvs, ks, _, h1, rfl, sz.tup ht, h2.symm⟩, h3⟩
          · exact .inr ⟨kvs, ks, _, h1, rfl, sz.tup ht, (l2 hn).symm⟩
    | _ => simp [tupKey] at hf
/-! ### == of dicts -/
theorem eq_in (hK : G.K = X.K) {pins : List (Addr × Obj)} {s : Shared} {σ : St} {H : Hp} {v u : V} {vv uu : Value} (I : Inv X pins σ H s) (rv : RelV v vv) (ru : RelV u uu) {Z : Hp} {ι : List (Addr × Addr)} {x y : PV}
    (sz : Sub Z H) (hx : RV G Z ι v x) (hy : RV G Z ι u y) (h1 : shal x = true) (h2 : shal y = true) {A : Around} (hu : A.units + 61 < cLine) : PySem.SeqAt.EqIn X.prog X.w A s vv uu (eqv x y) := by
  unfold shal at h1 h2
  cases e1 : deep x with
  | none => rw [e1] at h1; cases h1
  | some a =>
    cases e2 : deep y with
    | none => rw [e2] at h2; cases h2
    | some b =>
      rw [e1] at h1
      rw [e2] at h2
      have h1 := of_decide_eq_true h1
      have h2 := of_decide_eq_true h2
      have d1 := RV.dp sz hK hx e1
      have d2 := RV.dp sz hK hy e2
      obtain ⟨as, r1⟩ := Dp.reads I _ _ _ d1 rv
      obtain ⟨bs, r2⟩ := Dp.reads I _ _ _ d2 ru
      rw [eqv_pd e1 e2]
      exact (SeqAt.eqAt_reads _ _ A s _ _ _ _ r1 r2 (RV.lay hx e1) (RV.lay hy e2) (by rw [depth_of e1, depth_of e2]; omega)).inModel _ _
theorem look_mem {kb : List (PV × PV)} {k x : PV} (h : PVL.look kb k = some x) : ∃ p ∈ kb, p.2 = x := by
  unfold PVL.look at h
  obtain ⟨p, h1, h2⟩ := Option.map_eq_some_iff.mp h
  exact ⟨p, List.mem_of_find?_eq_some h1, h2⟩
theorem d_hits (hK : G.K = X.K) {pins : List (Addr × Obj)} {s : Shared} {σ : St} {H Z : Hp} {ι : List (Addr × Addr)} (I : Inv X pins σ H s) (sz : Sub Z H) {A : Around} (hu : A.units + 61 < cLine)
    {kvb : List (Key × V)} {pb : List (PV × PV)} {vb : List (Key × Value)} (rb : RK G Z ι kvb pb) (eb : KV kvb vb) (hb : ∀ p ∈ pb, shal p.2 = true) :
    ∀ {kvs : List (Key × V)} {ps : List (PV × PV)} {vs : List (Key × Value)}, RK G Z ι kvs ps → KV kvs vs → (∀ p ∈ ps, shal p.2 = true) →
      PySem.W.KeqHitsIn X.prog X.w A s vb vs (ps.all fun p => match PVL.look pb p.1 with
        | none => false
        | some z => eqv p.2 z) := by
  intro kvs
  induction kvs with
  | nil =>
    intro ps vs r e _
    cases r
    cases e
    exact .nil
  | cons p kvs ih =>
    intro ps vs r e hs
    cases r with
    | @cons k v x _ xs r _ t =>
      unfold KV at e
      cases e with
      | @cons _ q _ vs h te =>
        obtain ⟨k', u⟩ := q
        obtain ⟨h1, h2⟩ := h
        have h1 : k = k' := h1
        subst h1
        rw [List.all_cons]
        have i := ih t te fun p hp => hs p (List.mem_cons_of_mem _ hp)
        have rl := rb.look k
        have vl := eb.val k
        show PySem.W.KeqHitsIn X.prog X.w A s vb ((k, u) :: vs) ((match PVL.look pb (kP k) with | none => false | some z => eqv x z) && _)
        cases hl : PVL.look pb (kP k) with
        | none =>
          rw [rl.2 hl] at vl
          cases hv : valueAt vb k with
          | none => exact .miss hv
          | some y => rw [hv] at vl; exact vl.elim
        | some y =>
          obtain ⟨vy, q1, q2⟩ := rl.1 y hl
          rw [q1] at vl
          cases hv : valueAt vb k with
          | none => rw [hv] at vl; exact vl.elim
          | some uy =>
            rw [hv] at vl
            obtain ⟨p, hp, rfl⟩ := look_mem hl
            exact .hit hv (eq_in hK I h2 vl sz r q2 (hs _ List.mem_cons_self) (hb p hp) hu) i
theorem dic_k {Z H : Hp} {ι : List (Addr × Addr)} {v : V} {ps : List (PV × PV)} (h : RH G Z H ι v (.dic ps)) (hf : ps.all (fun p => flatKey p.1 && shal p.2) = true) :
    ∃ a kvs, v = .ref a ∧ Rd H a (.dK kvs) ∧ RK G Z ι kvs ps ∧ ∀ p ∈ ps, shal p.2 = true := by
  have hs : ∀ p ∈ ps, shal p.2 = true := fun p hp => ((Bool.and_eq_true _ _).mp (List.all_eq_true.mp hf p hp)).2
  obtain ⟨a, rfl, ⟨kvs, h1, r⟩ | ⟨kvs, h1, r, ne⟩⟩ := h
  · exact ⟨a, kvs, rfl, h1, r, hs⟩
  · exfalso
    cases r with
    | nil => exact ne rfl
    | cons _ _ _ =>
      have := ((Bool.and_eq_true _ _).mp (List.all_eq_true.mp hf _ List.mem_cons_self)).1
      simp [flatKey] at this
theorem o_eq (hK : G.K = X.K) (hu : X.A.units + 64 < cLine) : OpR X (compareOp .Eq) (rCm G (cmpV .eq)) := by
  intro pins s σ H v u vv uu Q I rv ru h
  obtain ⟨Z, ι, x, y, b, sz, hx, hy, hg, k⟩ := h
  simp only [cmpV] at hg
  split at hg
  · rename_i hk
    cases hg
    obtain ⟨as, bs, r1, r2, l1, l2, hu', e⟩ := eq_run hK hu I rv ru sz hx hy hk
    exact SeqAt.compareEq_reads r1 r2 l1 l2 hu' ⟨.bl _, H, I, by rw [e]; rfl, k⟩
  · cases x <;> simp only [dicEq, reduceCtorEq] at hg
    cases y <;> simp only [reduceCtorEq] at hg
    split at hg
    · rename_i ka kb hn hc
      cases hg
      obtain ⟨c1, c2⟩ := (Bool.and_eq_true _ _).mp hc
      obtain ⟨a1, kv1, rfl, h1, r1, s1⟩ := dic_k hx c1
      obtain ⟨a2, kv2, rfl, h2, r2, s2⟩ := dic_k hy c2
      cases rv
      cases ru
      obtain ⟨_, n1, vs1, rel1, d1⟩ := dk_rd I.hok h1
      obtain ⟨_, n2, vs2, rel2, d2⟩ := dk_rd I.hok h2
      have l1 : vs1.length = ka.length := by rw [← KV.length rel1, r1.len]
      have l2 : vs2.length = kb.length := by rw [← KV.length rel2, r2.len]
      refine PySem.W.keq_eqIn n1 n2 d1 d2 (by omega) (fun _ => d_hits hK I sz (A := X.A.in1) (by show X.A.units + 1 + 61 < cLine; omega) r2 rel2 s2 r1 rel1 s1) ?_
      rw [l1, l2]
      exact ⟨.bl _, H, I, rfl, k⟩
    · cases hg
theorem o_in (hK : G.K = X.K) (hu : X.A.units + 64 < cLine) : OpR X (compareOp .In) (rCm G (cmpV .isin)) := by
  intro pins s σ H v u vv uu Q I rv ru h
  obtain ⟨Z, ι, x, y, b, sz, hx, hy, hg, k⟩ := h
  simp only [cmpV] at hg
  cases y <;> simp only [PVL.inV, reduceCtorEq] at hg
  · cases x <;> simp only [reduceCtorEq] at hg
    cases hg
    rw [hx.str.1] at rv; rw [hy.str.1] at ru
    exact op_in_str pins s σ H _ _ vv uu Q I rv ru ⟨_, _, rfl, rfl, by rw [in_str]; exact k⟩
  · split at hg
    · rename_i hc
      cases hg
      rw [Bool.and_eq_true] at hc
      obtain ⟨a, vs, rfl, h1, r⟩ := hy.tup sz
      obtain ⟨e1, e2⟩ := inV_flat (hx.flat (flat_not hc.1)) hc.1 r hc.2
      have hv : flatV v = true := by
        have := (eqV_flat (hx.flat (flat_not hc.1)) (hx.flat (flat_not hc.1)) hc.1 hc.1).2.1
        exact this
      exact op_in_seq pins s σ H _ _ vv uu Q I rv ru ⟨_, _, rfl, .inr (SqT.of h1), hv, e2, by rw [e1]; exact k⟩
    · cases hg
  · split at hg
    · rename_i hc
      cases hg
      rw [Bool.and_eq_true] at hc
      obtain ⟨a, vs, rfl, h1, r⟩ := hy
      obtain ⟨e1, e2⟩ := inV_flat (hx.flat (flat_not hc.1)) hc.1 r hc.2
      have hv : flatV v = true := (eqV_flat (hx.flat (flat_not hc.1)) (hx.flat (flat_not hc.1)) hc.1 hc.1).2.1
      exact op_in_seq pins s σ H _ _ vv uu Q I rv ru ⟨_, _, rfl, .inl (.inl h1), hv, e2, by rw [e1]; exact k⟩
    · cases hg
  · split at hg
    · rename_i hc
      cases hg
      obtain ⟨a, e, _⟩ := id hy
      subst e
      cases ru
      obtain ⟨d1, d2⟩ := dget sz hy hx hc
      cases hl : PVL.look _ _ with
      | none =>
        rw [hl] at k
        exact d_in (by omega) I (d2 hl) rv fun s' J => ⟨.bl false, H, J, rfl, k⟩
      | some z =>
        rw [hl] at k
        obtain ⟨w, g, _⟩ := d1 z hl
        exact d_in (by omega) I g rv fun s' J => ⟨.bl true, H, J, rfl, k⟩
    · cases hg
theorem o_notin (hK : G.K = X.K) (hu : X.A.units + 64 < cLine) : OpR X (compareOp .NotIn) (rCm G (cmpV .notin)) := by
  intro pins s σ H v u vv uu Q I rv ru h
  obtain ⟨Z, ι, x, y, b, sz, hx, hy, hg, k⟩ := h
  simp only [cmpV, Option.map_eq_some_iff] at hg
  obtain ⟨c, hg, rfl⟩ := hg
  cases y <;> simp only [PVL.inV, reduceCtorEq] at hg
  · cases x <;> simp only [reduceCtorEq] at hg
    cases hg
    rw [hx.str.1] at rv; rw [hy.str.1] at ru
    exact op_notin_str pins s σ H _ _ vv uu Q I rv ru ⟨_, _, rfl, rfl, by rw [in_str]; exact k⟩
  · split at hg
    · rename_i hc
      cases hg
      rw [Bool.and_eq_true] at hc
      obtain ⟨a, vs, rfl, h1, r⟩ := hy.tup sz
      obtain ⟨e1, e2⟩ := inV_flat (hx.flat (flat_not hc.1)) hc.1 r hc.2
      have hv : flatV v = true := (eqV_flat (hx.flat (flat_not hc.1)) (hx.flat (flat_not hc.1)) hc.1 hc.1).2.1
      exact op_notIn_seq pins s σ H _ _ vv uu Q I rv ru ⟨_, _, rfl, .inr (SqT.of h1), hv, e2, by rw [e1]; exact k⟩
    · cases hg
  · split at hg
    · rename_i hc
      cases hg
      rw [Bool.and_eq_true] at hc
      obtain ⟨a, vs, rfl, h1, r⟩ := hy
      obtain ⟨e1, e2⟩ := inV_flat (hx.flat (flat_not hc.1)) hc.1 r hc.2
      have hv : flatV v = true := (eqV_flat (hx.flat (flat_not hc.1)) (hx.flat (flat_not hc.1)) hc.1 hc.1).2.1
      exact op_notIn_seq pins s σ H _ _ vv uu Q I rv ru ⟨_, _, rfl, .inl (.inl h1), hv, e2, by rw [e1]; exact k⟩
    · cases hg
  · split at hg
    · rename_i hc
      cases hg
      obtain ⟨a, e, _⟩ := id hy
      subst e
      cases ru
      obtain ⟨d1, d2⟩ := dget sz hy hx hc
      cases hl : PVL.look _ _ with
      | none =>
        rw [hl] at k
        exact d_notIn (by omega) I (d2 hl) rv fun s' J => ⟨.bl true, H, J, rfl, k⟩
      | some z =>
        rw [hl] at k
        obtain ⟨w, g, _⟩ := d1 z hl
        exact d_notIn (by omega) I g rv fun s' J => ⟨.bl false, H, J, rfl, k⟩
    · cases hg
theorem RH.none_iff {Z H : Hp} {ι : List (Addr × Addr)} {v : V} {x : PV} (h : RH G Z H ι v x) : decide (v = .non) = (match x with | .non => true | _ => false) := by
  cases x with
  | lst _ => obtain ⟨a, _, rfl, _⟩ := h; rfl
  | dic _ => obtain ⟨a, rfl, _⟩ := h; rfl
  | _ => cases h <;> rfl
theorem o_is : OpR X (compareOp .Is) (rCm G (cmpV .is)) := by
  intro pins s σ H v u vv uu Q I rv ru h
  obtain ⟨Z, ι, x, y, b, sz, hx, hy, hg, k⟩ := h
  cases y <;> simp only [cmpV, reduceCtorEq] at hg
  cases hg
  rw [hy.non] at ru
  refine op_isN pins s σ H _ _ vv uu Q I rv ru ⟨rfl, ?_⟩
  rw [hx.none_iff]
  cases x <;> exact k
theorem o_isnot : OpR X (compareOp .IsNot) (rCm G (cmpV .isnot)) := by
  intro pins s σ H v u vv uu Q I rv ru h
  obtain ⟨Z, ι, x, y, b, sz, hx, hy, hg, k⟩ := h
  cases y <;> simp only [cmpV, reduceCtorEq] at hg
  cases hg
  rw [hy.non] at ru
  refine op_notN pins s σ H _ _ vv uu Q I rv ru ⟨rfl, ?_⟩
  rw [hx.none_iff]
  cases x <;> exact k
end
end PVS

set_option maxHeartbeats 1000000
/-! PVS: items, slices, the built-ins' functions. -/
namespace PVS
open PySem L2 TL PVL
section
variable {X : Cx} {G : GS}
/-- a[i] -/
def rIxA (G : GS) : R2 := fun v u H Q => ∃ Z ι x y z, Sub Z H ∧ RH G Z H ι v x ∧ RH G Z H ι u y ∧ idxV x y = some z ∧ ∀ w, RV G Z ι w z → Q w H
theorem ix_dict (hu : X.A.units + 1 < cLine) : IxR X (fun x y H Q => ∃ a v, x = .ref a ∧ DGet H a y (some v) ∧ Q v H) := by
  intro value slice pins s σ H x y v u Q I rx ry h hs
  obtain ⟨a, w, rfl, g, q⟩ := h
  cases rx
  exact PyProof.Rows.tail_any (dict_typeIs I g) PySem.F.slot_dict_getitem.lookup (d_getItem hu I g ry fun w' s3 I3 rw' => ⟨w, H, I3, rw', q⟩) hs
theorem i_all (hu : X.A.units + 64 < cLine) : IxR X (rIxA G) := by
  intro value slice pins s σ H v u vv uu Q I rv ru h hs
  obtain ⟨Z, ι, x, y, z, sz, hx, hy, hg, k⟩ := h
  cases x <;> simp only [idxV, reduceCtorEq] at hg
  · cases y <;> simp only [idxV, reduceCtorEq, Option.bind_eq_some_iff, Option.map_eq_some_iff] at hg
    obtain ⟨j, h1, c, h2, rfl⟩ := hg
    obtain ⟨rfl, h3⟩ := hx.str
    rw [hy.int] at ru
    refine ix_str value slice pins s σ H _ _ vv uu Q I rv ru ⟨_, _, c, rfl, rfl, by rw [mkS_len, ← line_eq]; exact h3.1, ?_, k _ (.str [c] ?_)⟩ hs
    · unfold atI
      rw [show (mkS _).cps.toList = _ from rfl]
      rw [show L2.ixN _ _ = some j from h1]
      exact h2
    · exact ⟨by show 1 ≤ line; decide, fun d hd => by rw [List.mem_singleton.mp hd]; exact h3.2 c (List.mem_of_getElem? h2)⟩
  · cases y <;> simp only [idxV, reduceCtorEq, Option.bind_eq_some_iff] at hg
    obtain ⟨j, h1, h2⟩ := hg
    obtain ⟨a, vs, rfl, h3, r⟩ := hx.tup sz
    rw [hy.int] at ru
    obtain ⟨w, h4, h5⟩ := r.get h2
    refine ix_tup value slice pins s σ H _ _ vv uu Q I rv ru ⟨_, _, _, w, rfl, rfl, SqT.of h3, ?_, k _ h5⟩ hs
    unfold atI
    rw [r.len, show L2.ixN _ _ = some j from h1]
    exact h4
  · cases y <;> simp only [idxV, reduceCtorEq, Option.bind_eq_some_iff] at hg
    obtain ⟨j, h1, h2⟩ := hg
    obtain ⟨a, vs, rfl, h3, r⟩ := hx
    rw [hy.int] at ru
    obtain ⟨w, h4, h5⟩ := r.get h2
    refine ix_list value slice pins s σ H _ _ vv uu Q I rv ru ⟨_, _, _, w, rfl, rfl, .inl h3, ?_, k _ h5⟩ hs
    unfold atI
    rw [r.len, show L2.ixN _ _ = some j from h1]
    exact h4
  · split at hg
    · rename_i hc
      obtain ⟨a, e, _⟩ := id hx
      subst e
      obtain ⟨d1, d2⟩ := dget sz hx hy hc
      obtain ⟨w, g, r⟩ := d1 z hg
      exact ix_dict (by omega) value slice pins s σ H _ _ vv uu Q I rv ru ⟨a, w, rfl, g, k _ r⟩ hs
    · cases hg

/-! ### slices -/
theorem okT.sub {s t : Txt} (h : okT s) (hl : t.length ≤ s.length) (hm : ∀ c ∈ t, c ∈ s) : okT t := ⟨Nat.le_trans hl h.1, fun c hc => h.2 c (hm c hc)⟩
theorem cut_mem {α : Type} {xs : List α} {lo hi : Option Int} {x : α} (h : x ∈ PVL.cut xs lo hi) : x ∈ xs := List.mem_of_mem_drop (List.mem_of_mem_take h)
theorem cut_len {α : Type} (xs : List α) (lo hi : Option Int) : (PVL.cut xs lo hi).length ≤ xs.length := by
  unfold PVL.cut
  rw [List.length_take, List.length_drop]
  omega
theorem clip_eq (n d : Nat) (o : Option Int) : PVL.clip n d o = HT.sIx n d o := by cases o <;> rfl
theorem cutS_eq (s : Txt) (lo hi : Option Int) : cutS (mkS s) lo hi = mkS (PVL.cut s lo hi) := ext_tl (by
  unfold cutS PVL.cut
  rw [clip_eq, clip_eq, mkS_len])
theorem cutV_eq (vs : List V) (lo hi : Option Int) : cutV vs lo hi = PVL.cut vs lo hi := by unfold cutV PVL.cut; rw [clip_eq, clip_eq]
theorem RVs.cut {Z : Hp} {ι : List (Addr × Addr)} {vs : List V} {xs : List PV} (r : RVs G Z ι vs xs) (lo hi : Option Int) : RVs G Z ι (PVL.cut vs lo hi) (PVL.cut xs lo hi) := by
  unfold PVL.cut
  rw [r.len]
  exact (r.drop _).take _
/-- a[lo:hi] -/
theorem sl_all {K : PySem.W.Frag} (hK : X.K = K) : SlR X (fun v lo hi H Q => ∃ Z ι x z, Sub Z H ∧ RH G Z H ι v x ∧ slcX x lo hi = some z ∧ ∀ w H', Nw G Z H ι .own z w H' → Q w H') := by
  subst hK
  intro pins s σ H v vv vl vu lo hi sl Q I rv hsl pl pu h
  obtain ⟨Z, ι, x, z, sz, hx, hg, k⟩ := h
  cases x <;> simp only [slcX, reduceCtorEq] at hg
  · cases hg
    obtain ⟨rfl, h1⟩ := hx.str
    refine sl_str pins s σ H _ vv vl vu lo hi sl Q I rv hsl pl pu ⟨_, rfl, by rw [mkS_len, ← line_eq]; exact h1.1, ?_⟩
    rw [cutS_eq]
    exact k _ _ (.val (.str _ (h1.sub (cut_len _ _ _) fun c hc => cut_mem hc)) rfl)
  · cases hg
    obtain ⟨a, vs, rfl, h1, r⟩ := hx
    refine sl_list pins s σ H _ vv vl vu lo hi sl Q I rv hsl pl pu ⟨_, _, rfl, .inl h1, fun p hp => ?_⟩
    rw [cutV_eq]
    exact k _ _ (.lst hp (r.cut _ _))
end
end PVS

set_option maxHeartbeats 1000000
/-! PVS: what an expression's reading is. -/
namespace PVS
open PySem L2 TL PVL

/-- what is wanted of a result -/
def RP {α : Type} (r : R α) (k : α → PVL.Store → Prop) (x : Nat → List PV → PVL.Store → Prop) : Prop := match r with
  | .ok a ω => k a ω
  | .exc c xs ω => x c xs ω
  | .bad => False
theorem RP.bind {α β : Type} {r : R α} {f : α → PVL.Store → R β} {k : β → PVL.Store → Prop} {x : Nat → List PV → PVL.Store → Prop} (h : RP (r.bind f) k x) : RP r (fun a ω => RP (f a ω) k x) x := by
  cases r with
  | ok a ω => exact h
  | exc c xs ω => exact h
  | bad => exact h
theorem RP.mono {α : Type} {r : R α} {k k' : α → PVL.Store → Prop} {x x' : Nat → List PV → PVL.Store → Prop} (h : RP r k x) (hk : ∀ a ω, k a ω → k' a ω) (hx : ∀ c xs ω, x c xs ω → x' c xs ω) : RP r k' x' := by
  cases r with
  | ok a ω => exact hk _ _ h
  | exc c xs ω => exact hx _ _ _ h
  | bad => exact h

section
variable (G : GS)
/-- what is held of a value: its content and who holds it -/
def OkV (Z B H : Hp) (ι : List (Addr × Addr)) (ω : PVL.Store) (ρ : PVL.Env) (σ : St) (v : V) (x : PV) : Md → Prop
  | .own => ∃ a o, v = .ref a ∧ H a = some o ∧ RO G Z ι o x ∧ Z a = none ∧ B a = none ∧ ∀ k, ¬ owA G H ι ω ρ σ k a
  | .fz => RV G Z ι v x
  | .br => SR G Z B H ι v x .br
  | .lv => ∃ (i : Nat) (a : Addr), ρ[i]? = some (some (x, .own)) ∧ σ[i]? = some (some (.ref a)) ∧ v = .ref a
/-- an exception as it flies: its class, its own dict -/
def XR (Z : Hp) (ι : List (Addr × Addr)) (c : Nat) (xs : List PV) (cls : Value) (d : Option Addr) : Prop :=
  c < G.xn ∧ cls = .ref (G.xcl c) ∧ ((G.xfs c = [] ∧ xs = [] ∧ d = none) ∨ ∃ dx vs, d = some dx ∧ Z dx = some (.xd ((G.xfs c).zip vs).reverse) ∧ RVs G Z ι vs xs ∧ (G.xfs c).length = xs.length)
/-- what is wanted where an exception comes -/
def QX (W : WX) (Z B H : Hp) (ι : List (Addr × Addr)) (ρ : PVL.Env) (σ : St) (c : Nat) (xs : List PV) (ω' : PVL.Store) : Prop :=
  ∀ cls d H' Z' ι', Ext Z Z' (PO B ρ σ) ι ι' H H' → Sim G Z' B H' ι' ω' ρ σ → XR G Z' ι' c xs cls d → W cls d σ H'
/-- nothing that stood was touched -/
def Pu (p : Bool) (H H' : Hp) (ω ω' : PVL.Store) (ι ι' : List (Addr × Addr)) : Prop := p = true → Same H H' ∧ ω' = ω ∧ ι' = ι
def tE (W : WX) (e : E) : TE := fun σ H Q => ∃ Z B ι ω ρ, Sim G Z B H ι ω ρ σ ∧
  RP (ev e ρ ω) (fun r ω' => ∀ v H' Z' ι', Ext Z Z' (PO B ρ σ) ι ι' H H' → Sim G Z' B H' ι' ω' ρ σ → OkV G Z' B H' ι' ω' ρ σ v r.1 r.2 → Pu (pureE e) H H' ω ω' ι ι' → Q v H') (QX G W Z B H ι ρ σ)
def tT (W : WX) (t : T) : TT := fun σ H Q => ∃ Z B ι ω ρ, Sim G Z B H ι ω ρ σ ∧
  RP (evT t ρ ω) (fun b ω' => ∀ H' Z' ι', Ext Z Z' (PO B ρ σ) ι ι' H H' → Sim G Z' B H' ι' ω' ρ σ → Q b H') (QX G W Z B H ι ρ σ)
end
section
variable {G : GS} {Z Z' B H H' : Hp} {ι ι' : List (Addr × Addr)} {ω ω' : PVL.Store} {ρ : PVL.Env} {σ : St}
theorem Pu.refl {p : Bool} : Pu p H H ω ω ι ι := fun _ => ⟨Same.refl _, rfl, rfl⟩
theorem QX.on {W : WX} {c : Nat} {xs : List PV} {ω' : PVL.Store} (h : QX G W Z B H ι ρ σ c xs ω') (E : Ext Z Z' (PO B ρ σ) ι ι' H H') : QX G W Z' B H' ι' ρ σ c xs ω' := fun cls d H2 Z2 ι2 E2 => h cls d H2 Z2 ι2 (E.trans E2)
/-- a value that is read further on -/
def Lv (G : GS) (Z B H : Hp) (ι : List (Addr × Addr)) (ρ : PVL.Env) (σ : St) (v : V) (x : PV) : Prop := SR G Z B H ι v x .br ∨ ∃ (i : Nat) (a : Addr), ρ[i]? = some (some (x, .own)) ∧ σ[i]? = some (some (.ref a)) ∧ v = .ref a
theorem Lv.on {v : V} {x : PV} (h : Lv G Z B H ι ρ σ v x) (E : Ext Z Z' (PO B ρ σ) ι ι' H H') : Lv G Z' B H' ι' ρ σ v x := by
  rcases h with (h | ⟨a, o, h1, h2, h3⟩) | h
  · exact .inl (.inl (h.mono E.z E.i))
  · exact .inl (.inr ⟨a, o, h1, h2, h3.mono E.z E.i⟩)
  · exact .inr h
theorem Lv.rh {v : V} {x : PV} (S : Sim G Z B H ι ω ρ σ) (h : Lv G Z B H ι ρ σ v x) : RH G Z H ι v x := by
  rcases h with (h | ⟨a, o, rfl, h2, h3⟩) | ⟨i, a, h1, h2, rfl⟩
  · exact .of S.zH h
  · exact .ofO (S.bH a o h2).rd h3
  · obtain ⟨v, e1, b, o, rfl, e3, e4⟩ := S.sl i x .own h1
    rw [h2] at e1; cases e1
    exact .ofO (.inl e3) e4
/-- a fresh thing is frozen where it is only read -/
theorem OkV.settle (S : Sim G Z B H ι ω ρ σ) {v : V} {x : PV} {m : Md} (h : OkV G Z B H ι ω ρ σ v x m) : ∃ Z', Ext Z Z' (PO B ρ σ) ι ι H H ∧ Sim G Z' B H ι ω ρ σ ∧ Lv G Z' B H ι ρ σ v x ∧ (m = .own ∨ m = .fz → RV G Z' ι v x) := by
  cases m with
  | own =>
    obtain ⟨a, o, rfl, h1, h2, h3, h4, h5⟩ := h
    have r : RV G (upd Z a o) ι (.ref a) x := RO.fz upd_same (h2.mono (Ext.fz (P := PB B) (H := H) (ι := ι) h3).z (List.prefix_refl _))
    exact ⟨upd Z a o, Ext.fz h3, S.fz h2.pl h1 h3 h4 h5, .inl (.inl r), fun _ => r⟩
  | fz => exact ⟨Z, Ext.refl, S, .inl (.inl h), fun _ => h⟩
  | br => exact ⟨Z, Ext.refl, S, .inl h, fun z => by rcases z with z | z <;> cases z⟩
  | lv => exact ⟨Z, Ext.refl, S, .inr h, fun z => by rcases z with z | z <;> cases z⟩
/-- what may be kept is frozen -/
theorem OkV.keep (S : Sim G Z B H ι ω ρ σ) {v : V} {x : PV} {m : Md} (h : OkV G Z B H ι ω ρ σ v x m) (k : keeps (x, m) = true) : ∃ Z', Ext Z Z' (PO B ρ σ) ι ι H H ∧ Sim G Z' B H ι ω ρ σ ∧ RV G Z' ι v x := by
  cases m with
  | own => obtain ⟨Z', E, S', _, r⟩ := h.settle S; exact ⟨Z', E, S', r (by decide)⟩
  | fz => obtain ⟨Z', E, S', _, r⟩ := h.settle S; exact ⟨Z', E, S', r (by decide)⟩
  | br =>
    have hc : isC x = false := by
      unfold keeps at k
      cases h : isC x with
      | false => rfl
      | true => rw [h] at k; simp at k
    refine ⟨Z, Ext.refl, S, ?_⟩
    rcases h with h | ⟨a, o, _, _, h3⟩
    · exact h
    · rw [h3.isC] at hc; cases hc
  | lv =>
    have hc : isC x = false := by
      unfold keeps at k
      cases h : isC x with
      | false => rfl
      | true => rw [h] at k; simp at k
    obtain ⟨i, a, h1, h2, rfl⟩ := h
    obtain ⟨v, e1, b, o, rfl, e3, e4⟩ := S.sl i x .own h1
    rw [e4.isC] at hc; cases hc
/-- a result is told -/
theorem Nw.fin (S : Sim G Z B H ι ω ρ σ) {m : Md} {z : PV} {v : V} (hm : m = .own ∨ m = .fz) (h : Nw G Z H ι m z v H') : ∃ Z', Ext Z Z' (PO B ρ σ) ι ι H H' ∧ Sim G Z' B H' ι ω ρ σ ∧ OkV G Z' B H' ι ω ρ σ v (mk z m).1 (mk z m).2 ∧ Same H H' := by
  rcases h with ⟨h1, h2, rfl⟩ | ⟨p, o, hp, rfl, rfl, h⟩
  · refine ⟨Z, Ext.refl, S, ?_, Same.refl _⟩
    have e : (mk z m).2 = .fz := by
      unfold mk
      cases hc : isC z with
      | false => rfl
      | true =>
        cases m with
        | own => rw [h1 rfl] at hc; cases hc
        | fz => rfl
        | br => rcases hm with h | h <;> cases h
        | lv => rcases hm with h | h <;> cases h
    show OkV G Z B _ ι ω ρ σ v z (mk z m).2
    rw [e]
    exact h2
  · have same : Same H (upd H p o) := fun b u e => by rw [upd_ne (ne_of_none e hp)]; exact e
    have S1 := S.lay o hp
    have E1 := Ext.lay S o hp
    rcases h with h | ⟨vs, xs, rfl, rfl, r⟩
    · have hc := h.isC
      have e : (mk z m).2 = m := by unfold mk; rw [hc]; rfl
      have no : ∀ k, ¬ owA G (upd H p o) ι ω ρ σ k p := fun k q => by
        have q' : owA G H ι ω ρ σ k p := (owA_congr (H' := upd H p o) (H := H) fun n b dx e => by
          obtain ⟨r, fs, _, q, _⟩ := S.inst e
          rw [upd_ne (ne_of_none q hp)]).mp q
        exact S.notOw hp k q'
      cases m with
      | own => exact ⟨Z, E1, S1, by show OkV G Z B _ ι ω ρ σ _ z (mk z Md.own).2; rw [e]; exact ⟨p, o, rfl, upd_same, h, S.zn hp, S.bn hp, no⟩, same⟩
      | fz =>
        refine ⟨upd Z p o, E1.trans (Ext.fz (S.zn hp)), S1.fz h.pl upd_same (S.zn hp) (S.bn hp) no, ?_, same⟩
        show OkV G _ B _ ι ω ρ σ _ z (mk z Md.fz).2
        rw [e]
        exact RO.fz upd_same (h.mono (Ext.fz (P := PB B) (H := H) (ι := ι) (S.zn hp)).z (List.prefix_refl _))
      | br => rcases hm with h | h <;> cases h
      | lv => rcases hm with h | h <;> cases h
    · have no : ∀ k, ¬ owA G (upd H p (.tup vs)) ι ω ρ σ k p := fun k q => by
        have q' : owA G H ι ω ρ σ k p := (owA_congr (H' := upd H p (.tup vs)) (H := H) fun n b dx e => by
          obtain ⟨r, fs, _, q, _⟩ := S.inst e
          rw [upd_ne (ne_of_none q hp)]).mp q
        exact S.notOw hp k q'
      refine ⟨upd Z p (.tup vs), E1.trans (Ext.fz (S.zn hp)), S1.fz pl_tup upd_same (S.zn hp) (S.bn hp) no, ?_, same⟩
      exact RV.tup upd_same (r.mono (Ext.fz (P := PB B) (H := H) (ι := ι) (S.zn hp)).z (List.prefix_refl _))
end
/-- a reading that is asked for less -/
theorem PE.imp {X : Cx} {e : Expr} {t t' : TE} (h : PE X e t) (i : ∀ σ H Q, t' σ H Q → t σ H Q) : PE X e t' := ⟨fun pins s σ H Q I q => h.run pins s σ H Q I (i σ H Q q)⟩
theorem PT.imp {X : Cx} {e : Expr} {t t' : TT} (h : PT X e t) (i : ∀ σ H Q, t' σ H Q → t σ H Q) : PT X e t' := ⟨fun pins s σ H Q I q => h.run pins s σ H Q I (i σ H Q q)⟩
theorem PS.imp {X : Cx} {st : Stmt} {t t' : TS} (h : PS X st t) (i : ∀ D σ H, t' D σ H → t D σ H) : PS X st t' := ⟨fun pins s σ H D I q => h.run pins s σ H D I (i D σ H q)⟩

section
variable {X : Cx} {G : GS} {W : WX}
/-- a value that is settled: to go on with the next expression -/
theorem tE.next {ia : E} {Z B H : Hp} {ι : List (Addr × Addr)} {ω : PVL.Store} {ρ : PVL.Env} {σ : St} (S : Sim G Z B H ι ω ρ σ) {k : VM → PVL.Store → Prop} {R : V → Hp → Prop}
    (h : RP (ev ia ρ ω) k (QX G W Z B H ι ρ σ))
    (go : ∀ x ω1, k x ω1 → ∀ v H1 Z1 ι1, Ext Z Z1 (PO B ρ σ) ι ι1 H H1 → Sim G Z1 B H1 ι1 ω1 ρ σ → Lv G Z1 B H1 ι1 ρ σ v x.1 → (x.2 = .own ∨ x.2 = .fz → RV G Z1 ι1 v x.1) → Pu (pureE ia) H H1 ω ω1 ι ι1 → R v H1) : tE G W ia σ H R := by
  refine ⟨Z, B, ι, ω, ρ, S, h.mono (fun x ω1 hk v H1 Z1 ι1 E1 S1 o1 p1 => ?_) fun _ _ _ q => q⟩
  obtain ⟨Z2, E2, S2, l2, r2⟩ := o1.settle S1
  exact go x ω1 hk v H1 Z2 ι1 (E1.trans E2) S2 l2 r2 p1
theorem Pu.and {p q r : Bool} {H H1 H2 : Hp} {ω ω1 ω2 : PVL.Store} {ι ι1 ι2 : List (Addr × Addr)} (a : Pu p H H1 ω ω1 ι ι1) (b : Pu q H1 H2 ω1 ω2 ι1 ι2) (h : r = (p && q)) : Pu r H H2 ω ω2 ι ι2 := fun z => by
  rw [h, Bool.and_eq_true] at z
  obtain ⟨s1, e1, i1⟩ := a z.1
  obtain ⟨s2, e2, i2⟩ := b z.2
  exact ⟨s1.trans s2, e2.trans e1, i2.trans i1⟩
/-- a binary operator -/
theorem se_bin {a b : Expr} {ia ib : E} {op : Operator} {bop : BOp} {pos : Pos} (ho : OpR X (binaryOp op) (rOp G (binV bop) .own)) (ha : PE X a (tE G W ia)) (hb : PE X b (tE G W ib)) : PE X (.BinOp a op b pos) (tE G W (.bin bop ia ib)) := by
  refine PE.imp (pe_op ho ha hb) fun σ H Q h => ?_
  obtain ⟨Z, B, ι, ω, ρ, S, h⟩ := h
  unfold ev at h
  refine tE.next S h.bind fun x ω1 h1 v H1 Z1 ι1 E1 S1 l1 _ p1 => ?_
  refine tE.next S1 (h1.bind.mono (fun _ _ q => q) fun _ _ _ q => q.on E1) fun y ω2 h2 u H2 Z2 ι2 E2 S2 l2 _ p2 => ?_
  unfold liftO at h2
  cases e : binV bop x.1 y.1 with
  | none => rw [e] at h2; exact h2.elim
  | some z =>
    rw [e] at h2
    refine ⟨Z2, ι2, x.1, y.1, z, S2.zH, (l1.on E2).rh S2, l2.rh S2, e, fun w H3 n => ?_⟩
    obtain ⟨Z3, E3, S3, o3, s3⟩ := n.fin S2 (by decide)
    exact h2 w H3 Z3 ι2 ((E1.trans E2).trans E3) S3 o3 ((p1.and p2 rfl).and (r := pureE (.bin bop ia ib)) (q := true) (fun _ => ⟨s3, rfl, rfl⟩) (by simp [pureE]))
theorem se_cmpC {a b : Expr} {ia ib : E} {op : CmpOp} {cop : COp} (ho : OpR X (compareOp op) (rCm G (cmpV cop))) (ha : PE X a (tE G W ia)) (hb : PE X b (tE G W ib)) : PC X op a b (tE G W (.cmp cop ia ib)) := by
  refine ⟨fun pins s σ H Q I h => ?_⟩
  obtain ⟨Z, B, ι, ω, ρ, S, h⟩ := h
  unfold ev at h
  have t : tOp (rCm G (cmpV cop)) (tE G W ia) (tE G W ib) σ H Q := by
    refine tE.next S h.bind fun x ω1 h1 v H1 Z1 ι1 E1 S1 l1 _ p1 => ?_
    refine tE.next S1 (h1.bind.mono (fun _ _ q => q) fun _ _ _ q => q.on E1) fun y ω2 h2 u H2 Z2 ι2 E2 S2 l2 _ p2 => ?_
    unfold liftB at h2
    cases e : cmpV cop x.1 y.1 with
    | none => rw [e] at h2; exact h2.elim
    | some z =>
      rw [e] at h2
      exact ⟨Z2, ι2, x.1, y.1, z, S2.zH, (l1.on E2).rh S2, l2.rh S2, e, h2 _ H2 Z2 ι2 (E1.trans E2) S2 (RV.bl z) (fun z => by cases z)⟩
  exact binT ha hb I t fun v u s2 x y H2 I2 rx ry q => ho pins s2 σ H2 x y v u Q I2 rx ry q
end
end PVS

set_option maxHeartbeats 1000000
/-! PVS: names, constants, displays, tests, calls. -/
namespace PVS
open PySem L2 TL PVL
section
variable {X : Cx} {G : GS} {W : WX}

theorem se_var {i : Nat} {x : Str} {pos : Pos} (hN : X.N[i]? = some x) (hv : Vis X.env.scope x) (hd : (x == ("__debug__" : Str)) = false) (hcd : (x == ("__classdict__" : Str)) = false) : PE X (.Name x pos) (tE G W (.var i)) := by
  refine PE.imp (pe_var hN hv hd hcd) fun σ H Q h => ?_
  obtain ⟨Z, B, ι, ω, ρ, S, h⟩ := h
  unfold ev at h
  cases e : getV ρ i with
  | none => rw [e] at h; exact h.elim
  | some r =>
    obtain ⟨y, m⟩ := r
    rw [e] at h
    obtain ⟨v, e1, e2⟩ := S.sl i y m (getV_some.mp e)
    refine ⟨v, e1, h v H Z ι Ext.refl S ?_ Pu.refl⟩
    cases m with
    | own =>
      obtain ⟨a, o, rfl, h2, h3⟩ := e2
      exact ⟨i, a, getV_some.mp e, e1, rfl⟩
    | fz => exact e2
    | br => exact e2
    | lv => exact e2.elim
theorem se_con {e : Expr} {v : V} {x : PV} (h : PE X e (tC v)) (r : ∀ Z ι, RV G Z ι v x) : PE X e (tE G W (.con x)) := by
  refine PE.imp h fun σ H Q h => ?_
  obtain ⟨Z, B, ι, ω, ρ, S, h⟩ := h
  unfold ev at h
  exact h v H Z ι Ext.refl S (r Z ι) Pu.refl

/-! ### lists of expressions -/
variable (G W) in
/-- items that are kept -/
def tK (es : Es) : TA := fun σ H Q => ∃ Z B ι ω ρ, Sim G Z B H ι ω ρ σ ∧
  RP (evK es ρ ω) (fun xs ω' => ∀ vs H' Z' ι', Ext Z Z' (PO B ρ σ) ι ι' H H' → Sim G Z' B H' ι' ω' ρ σ → RVs G Z' ι' vs xs → Pu (pureEs es) H H' ω ω' ι ι' → Q vs H') (QX G W Z B H ι ρ σ)
/-- arguments of a def -/
inductive Ags (G : GS) (Z B H : Hp) (ι : List (Addr × Addr)) (ρ : PVL.Env) (σ : St) : List V → List VM → Prop
  | nil : Ags G Z B H ι ρ σ [] []
  | cons {v : V} {x : PV} {m : Md} {vs : List V} {xs : List VM} : m = .fz ∨ m = .br → Lv G Z B H ι ρ σ v x → (m = .fz → RV G Z ι v x) → Ags G Z B H ι ρ σ vs xs → Ags G Z B H ι ρ σ (v :: vs) ((x, m) :: xs)
theorem Ags.on {Z Z' B H H' : Hp} {ι ι' : List (Addr × Addr)} {ρ : PVL.Env} {σ : St} (E : Ext Z Z' (PO B ρ σ) ι ι' H H') {vs : List V} {xs : List VM} (h : Ags G Z B H ι ρ σ vs xs) : Ags G Z' B H' ι' ρ σ vs xs := by
  induction h with
  | nil => exact .nil
  | cons h1 h2 h3 _ ih => exact .cons h1 (h2.on E) (fun z => (h3 z).mono E.z E.i) ih
variable (G W) in
def tA (es : Es) : TA := fun σ H Q => ∃ Z B ι ω ρ, Sim G Z B H ι ω ρ σ ∧
  RP (evA es ρ ω) (fun xs ω' => ∀ vs H' Z' ι', Ext Z Z' (PO B ρ σ) ι ι' H H' → Sim G Z' B H' ι' ω' ρ σ → Ags G Z' B H' ι' ρ σ vs xs → Q vs H') (QX G W Z B H ι ρ σ)
theorem PA.imp {es : List Expr} {t t' : TA} (h : PA X es t) (i : ∀ σ H Q, t' σ H Q → t σ H Q) : PA X es t' := ⟨fun pos pins s σ H Q I q => h.run pos pins s σ H Q I (i σ H Q q)⟩
theorem sk_nil : PA X [] (tK G W .nil) := by
  refine PA.imp pa_nil fun σ H Q h => ?_
  obtain ⟨Z, B, ι, ω, ρ, S, h⟩ := h
  unfold evK at h
  exact h [] H Z ι Ext.refl S .nil Pu.refl
theorem sk_cons {e : Expr} {es : List Expr} {ie : E} {ies : Es} (he : PE X e (tE G W ie)) (hr : PA X es (tK G W ies)) (hs : starEach (e :: es) X.env = (false, eval e X.env) :: starEach es X.env) : PA X (e :: es) (tK G W (.cons ie ies)) := by
  refine PA.imp (pa_cons he hr hs) fun σ H Q h => ?_
  obtain ⟨Z, B, ι, ω, ρ, S, h⟩ := h
  unfold evK at h
  refine ⟨Z, B, ι, ω, ρ, S, h.bind.mono (fun x ω1 h1 v H1 Z1 ι1 E1 S1 o1 p1 => ?_) fun _ _ _ q => q⟩
  cases hk : keeps x with
  | false => rw [hk] at h1; exact h1.elim
  | true =>
    rw [hk] at h1
    obtain ⟨Z2, E2, S2, r2⟩ := o1.keep S1 hk
    refine ⟨Z2, B, ι1, ω1, ρ, S2, h1.bind.mono (fun xs ω2 h2 vs H2 Z3 ι2 E3 S3 r3 p3 => ?_) fun _ _ _ q => q.on (E1.trans E2)⟩
    exact h2 (v :: vs) H2 Z3 ι2 ((E1.trans E2).trans E3) S3 (.cons (r2.mono E3.z E3.i) r3) (p1.and p3 rfl)
theorem sa_nil : PA X [] (tA G W .nil) := by
  refine PA.imp pa_nil fun σ H Q h => ?_
  obtain ⟨Z, B, ι, ω, ρ, S, h⟩ := h
  unfold evA at h
  exact h [] H Z ι Ext.refl S .nil
theorem sa_cons {e : Expr} {es : List Expr} {ie : E} {ies : Es} (he : PE X e (tE G W ie)) (hr : PA X es (tA G W ies)) (hs : starEach (e :: es) X.env = (false, eval e X.env) :: starEach es X.env) : PA X (e :: es) (tA G W (.cons ie ies)) := by
  refine PA.imp (pa_cons he hr hs) fun σ H Q h => ?_
  obtain ⟨Z, B, ι, ω, ρ, S, h⟩ := h
  unfold evA at h
  refine ⟨Z, B, ι, ω, ρ, S, h.bind.mono (fun x ω1 h1 v H1 Z1 ι1 E1 S1 o1 p1 => ?_) fun _ _ _ q => q⟩
  obtain ⟨Z2, E2, S2, l2, r2⟩ := o1.settle S1
  refine ⟨Z2, B, ι1, ω1, ρ, S2, h1.bind.mono (fun xs ω2 h2 vs H2 Z3 ι2 E3 S3 r3 => ?_) fun _ _ _ q => q.on (E1.trans E2)⟩
  refine h2 (v :: vs) H2 Z3 ι2 ((E1.trans E2).trans E3) S3 (.cons ?_ (l2.on E3) (fun z => (r2 ?_).mono E3.z E3.i) r3)
  · cases x.2 <;> decide
  · cases e : x.2 with
    | own => exact .inl rfl
    | fz => exact .inr rfl
    | br => rw [e] at z; cases z
    | lv => rw [e] at z; cases z
/-! ### displays -/
theorem RVs.okLen {Z : Hp} {ι : List (Addr × Addr)} {vs : List V} {xs : List PV} (r : RVs G Z ι vs xs) (h : xs.length ≤ sizeLine) : vs.length ≤ sizeLine := by rw [r.len]; exact h
def esLen : Es → Nat
  | .nil => 0
  | .cons _ r => esLen r + 1
theorem evK_length : ∀ (es : Es) (ρ : PVL.Env) (ω : PVL.Store), RP (evK es ρ ω) (fun xs _ => xs.length = esLen es) (fun _ _ _ => True) ∨ evK es ρ ω = .bad
  | .nil, ρ, ω => by unfold evK; exact .inl rfl
  | .cons e r, ρ, ω => by
    unfold evK
    cases h : ev e ρ ω with
    | bad => exact .inr rfl
    | exc c xs ω' => exact .inl trivial
    | ok x ω1 =>
      show RP (if keeps x = true then _ else _) _ _ ∨ (if keeps x = true then _ else _) = _
      split
      · rcases evK_length r ρ ω1 with q | q
        · cases h2 : evK r ρ ω1 with
          | bad => exact .inr rfl
          | exc c xs ω' => exact .inl trivial
          | ok xs ω2 =>
            rw [h2] at q
            exact .inl (congrArg (· + 1) q)
        · rw [q]; exact .inr rfl
      · exact .inr rfl
theorem RP.and {α : Type} {r : R α} {k k' : α → PVL.Store → Prop} {x x' : Nat → List PV → PVL.Store → Prop} (h : RP r k x) (h' : RP r k' x') : RP r (fun a ω => k a ω ∧ k' a ω) (fun c xs ω => x c xs ω ∧ x' c xs ω) := by
  cases r with
  | ok a ω => exact ⟨h, h'⟩
  | exc c xs ω => exact ⟨h, h'⟩
  | bad => exact h
theorem RP.len {es : Es} {ρ : PVL.Env} {ω : PVL.Store} {k : List PV → PVL.Store → Prop} {x : Nat → List PV → PVL.Store → Prop} (h : RP (evK es ρ ω) k x) : RP (evK es ρ ω) (fun xs ω' => k xs ω' ∧ xs.length = esLen es) x := by
  rcases evK_length es ρ ω with q | q
  · exact (h.and q).mono (fun _ _ z => z) fun _ _ _ z => z.1
  · rw [q] at h; exact h.elim
theorem se_tup {es : List Expr} {ies : Es} {k : Nat} {pos : Pos} (h : PA X es (tK G W ies)) (hl : esLen ies ≤ sizeLine) : PE X (.Tuple es k pos) (tE G W (.tup ies)) := by
  refine PE.imp (pe_tup h) fun σ H Q h => ?_
  obtain ⟨Z, B, ι, ω, ρ, S, h⟩ := h
  unfold ev at h
  refine ⟨Z, B, ι, ω, ρ, S, h.bind.len.mono (fun xs ω1 h1 vs H1 Z1 ι1 E1 S1 r1 p1 => ?_) fun _ _ _ q => q⟩
  obtain ⟨h1, hx⟩ := h1
  refine ⟨by rw [r1.len, hx]; exact hl, fun p hp => ?_⟩
  obtain ⟨Z2, E2, S2, o2, s2⟩ := (Nw.tup (m := .fz) hp r1).fin S1 (by decide)
  exact h1 _ _ Z2 ι1 (E1.trans E2) S2 o2 (p1.and (r := pureE (.tup ies)) (q := true) (fun _ => ⟨s2, rfl, rfl⟩) (by simp [pureE]))
theorem se_lst {es : List Expr} {ies : Es} {pos : Pos} (h : PA X es (tK G W ies)) (hl : esLen ies ≤ sizeLine) : PE X (.List es pos) (tE G W (.lst ies)) := by
  refine PE.imp (pe_lst h) fun σ H Q h => ?_
  obtain ⟨Z, B, ι, ω, ρ, S, h⟩ := h
  unfold ev at h
  refine ⟨Z, B, ι, ω, ρ, S, h.bind.len.mono (fun xs ω1 h1 vs H1 Z1 ι1 E1 S1 r1 p1 => ?_) fun _ _ _ q => q⟩
  obtain ⟨h1, hx⟩ := h1
  refine ⟨by rw [r1.len, hx]; exact hl, fun p hp => ?_⟩
  obtain ⟨Z2, E2, S2, o2, s2⟩ := (Nw.lst (m := .own) hp r1).fin S1 (by decide)
  exact h1 _ _ Z2 ι1 (E1.trans E2) S2 o2 (p1.and (r := pureE (.lst ies)) (q := true) (fun _ => ⟨s2, rfl, rfl⟩) (by simp [pureE]))
theorem se_neg {a : Expr} {ia : E} {pos : Pos} (ha : PE X a (tE G W ia)) : PE X (.UnaryOp .USub a pos) (tE G W (.neg ia)) := by
  refine PE.imp (pe_un un_neg ha) fun σ H Q h => ?_
  obtain ⟨Z, B, ι, ω, ρ, S, h⟩ := h
  unfold ev at h
  refine tE.next S h.bind fun x ω1 h1 v H1 Z1 ι1 E1 S1 l1 _ p1 => ?_
  obtain ⟨y, m⟩ := x
  cases y <;> try exact h1.elim
  rename_i i
  rw [(l1.rh S1).int]
  exact ⟨_, rfl, h1 _ H1 Z1 ι1 E1 S1 (RV.int _) (fun z => by cases z)⟩
/-! ### tests -/
theorem st_tt {e : Expr} (h : PT X e tYes) : PT X e (tT G W .tt) := by
  refine PT.imp h fun σ H Q h => ?_
  obtain ⟨Z, B, ι, ω, ρ, S, h⟩ := h
  unfold evT at h
  exact h H Z ι Ext.refl S
theorem truthy_ok {Z H : Hp} {ι : List (Addr × Addr)} {K : PySem.W.Frag} (sz : Sub Z H) {v : V} {x : PV} {b : Bool} (h : RH G Z H ι v x) (e : PVL.truthy x = some b) : TruV K v H b := by
  cases x <;> simp only [PVL.truthy, reduceCtorEq, Option.some.injEq] at e
  · rw [h.non]; subst e; rfl
  · rw [h.bl]; subst e; rfl
  · rw [h.int]; subst e; rfl
  · obtain ⟨rfl, h1⟩ := h.str
    subst e
    refine ⟨by rw [mkS_len, ← line_eq]; exact h1.1, ?_⟩
    rw [mkS_len]
    rename_i s
    cases s <;> rfl
  · obtain ⟨a, vs, rfl, h1, r⟩ := h.tup sz
    subst e
    refine .inr (.inl ⟨vs, SqT.of h1, ?_⟩)
    cases r <;> rfl
  · obtain ⟨a, vs, rfl, h1, r⟩ := h
    subst e
    refine .inl ⟨vs, .inl h1, ?_⟩
    cases r <;> rfl
/-- a test by its value's truth -/
theorem st_val {e : Expr} {ie : E} (h : PE X e (tE G W ie)) (he : ∀ whole, isTrue e X.env whole = (do let v ← whole; standAt e.pos; holding [v] (PySem.truthy v))) : PT X e (tT G W (.val ie)) := by
  refine PT.imp (pt_truth h he) fun σ H Q h => ?_
  obtain ⟨Z, B, ι, ω, ρ, S, h⟩ := h
  unfold evT at h
  refine tE.next S h.bind fun x ω1 h1 v H1 Z1 ι1 E1 S1 l1 _ p1 => ?_
  cases e : PVL.truthy x.1 with
  | none => rw [e] at h1; exact h1.elim
  | some b =>
    rw [e] at h1
    exact ⟨b, truthy_ok S1.zH (l1.rh S1) e, h1 H1 Z1 ι1 E1 S1⟩
/-- a comparison's reading -/
theorem cmp_read {ia ib : E} {cop : COp} {Z B H : Hp} {ι : List (Addr × Addr)} {ω : PVL.Store} {ρ : PVL.Env} {σ : St} (S : Sim G Z B H ι ω ρ σ) {k : VM → PVL.Store → Prop} {Q : VK} (h : RP (ev (.cmp cop ia ib) ρ ω) k (QX G W Z B H ι ρ σ))
    (go : ∀ b ω2, k (.bl b, .fz) ω2 → ∀ H2 Z2 ι2, Ext Z Z2 (PO B ρ σ) ι ι2 H H2 → Sim G Z2 B H2 ι2 ω2 ρ σ → Q (.bl b) H2) : tOp (rCm G (cmpV cop)) (tE G W ia) (tE G W ib) σ H Q := by
  unfold ev at h
  refine tE.next S h.bind fun x ω1 h1 v H1 Z1 ι1 E1 S1 l1 _ p1 => ?_
  refine tE.next S1 (h1.bind.mono (fun _ _ q => q) fun _ _ _ q => q.on E1) fun y ω2 h2 u H2 Z2 ι2 E2 S2 l2 _ p2 => ?_
  unfold liftB at h2
  cases e : cmpV cop x.1 y.1 with
  | none => rw [e] at h2; exact h2.elim
  | some z =>
    rw [e] at h2
    exact ⟨Z2, ι2, x.1, y.1, z, S2.zH, (l1.on E2).rh S2, l2.rh S2, e, go z ω2 h2 H2 Z2 ι2 (E1.trans E2) S2⟩
theorem se_cmp {a b : Expr} {ia ib : E} {op : CmpOp} {cop : COp} {pos : Pos} (ho : OpR X (compareOp op) (rCm G (cmpV cop))) (ha : PE X a (tE G W ia)) (hb : PE X b (tE G W ib)) (hm : behindInMarks op b = false) : PE X (.Compare a [op] [b] pos) (tE G W (.cmp cop ia ib)) := by
  refine PE.imp (pe_cmpR ho ha hb hm) fun σ H Q h => ?_
  obtain ⟨Z, B, ι, ω, ρ, S, h⟩ := h
  exact cmp_read S h fun b ω2 h2 H2 Z2 ι2 E2 S2 => h2 _ H2 Z2 ι2 E2 S2 (RV.bl b) (fun z => by cases z)
theorem st_cmp {a b : Expr} {ia ib : E} {op : CmpOp} {cop : COp} {pos : Pos} (ho : OpR X (compareOp op) (rCm G (cmpV cop))) (ha : PE X a (tE G W ia)) (hb : PE X b (tE G W ib)) (hm : behindInMarks op b = false) : PT X (.Compare a [op] [b] pos) (tT G W (.val (.cmp cop ia ib))) := by
  refine PT.imp (pt_cmpR ho ha hb hm) fun σ H Q h => ?_
  obtain ⟨Z, B, ι, ω, ρ, S, h⟩ := h
  unfold evT at h
  exact cmp_read S h.bind fun b ω2 h2 H2 Z2 ι2 E2 S2 => ⟨b, rfl, h2 H2 Z2 ι2 E2 S2⟩
/-- a < b < c -/
theorem chn_read {ia ib ic : E} {o1 o2 : COp} {Z B H : Hp} {ι : List (Addr × Addr)} {ω : PVL.Store} {ρ : PVL.Env} {σ : St} (S : Sim G Z B H ι ω ρ σ) {k : VM → PVL.Store → Prop} {Q : VK} (h : RP (ev (.chn o1 o2 ia ib ic) ρ ω) k (QX G W Z B H ι ρ σ))
    (go : ∀ b ω2, k (.bl b, .fz) ω2 → ∀ H2 Z2 ι2, Ext Z Z2 (PO B ρ σ) ι ι2 H H2 → Sim G Z2 B H2 ι2 ω2 ρ σ → Q (.bl b) H2) : tChain (rCm G (cmpV o1)) (rCm G (cmpV o2)) (tE G W ia) (tE G W ib) (tE G W ic) σ H Q := by
  unfold ev at h
  refine tE.next S h.bind fun x ω1 h1 v H1 Z1 ι1 E1 S1 l1 _ p1 => ?_
  refine tE.next S1 (h1.bind.mono (fun _ _ q => q) fun _ _ _ q => q.on E1) fun y ω2 h2 u H2 Z2 ι2 E2 S2 l2 _ p2 => ?_
  cases e : cmpV o1 x.1 y.1 with
  | none => rw [e] at h2; exact h2.elim
  | some z =>
    rw [e] at h2
    refine ⟨Z2, ι2, x.1, y.1, z, S2.zH, (l1.on E2).rh S2, l2.rh S2, e, z, rfl, ?_⟩
    cases z with
    | false => exact go false ω2 h2 H2 Z2 ι2 (E1.trans E2) S2
    | true =>
      refine tE.next S2 (h2.bind.mono (fun _ _ q => q) fun _ _ _ q => q.on (E1.trans E2)) fun w ω3 h3 t H3 Z3 ι3 E3 S3 l3 _ p3 => ?_
      unfold liftB at h3
      cases e2 : cmpV o2 y.1 w.1 with
      | none => rw [e2] at h3; exact h3.elim
      | some z2 =>
        rw [e2] at h3
        exact ⟨Z3, ι3, y.1, w.1, z2, S3.zH, (l2.on E3).rh S3, l3.rh S3, e2, go z2 ω3 h3 H3 Z3 ι3 ((E1.trans E2).trans E3) S3⟩
theorem st_not {a : Expr} {ia : T} {pos : Pos} (h : PT X a (tT G W ia)) : PT X (.UnaryOp .Not a pos) (tT G W (.not ia)) := by
  refine PT.imp (pt_not h) fun σ H Q h => ?_
  obtain ⟨Z, B, ι, ω, ρ, S, h⟩ := h
  unfold evT at h
  exact ⟨Z, B, ι, ω, ρ, S, h.bind.mono (fun x ω1 h1 H1 Z1 ι1 E1 S1 => h1 H1 Z1 ι1 E1 S1) fun _ _ _ q => q⟩
end
end PVS

set_option maxHeartbeats 1000000
/-! PVS: chains, and, or, items, calls of defs. -/
namespace PVS
open PySem L2 TL PVL
section
variable {X : Cx} {G : GS} {W : WX}
theorem se_chn {a b c : Expr} {ia ib ic : E} {op op' : CmpOp} {o1 o2 : COp} {pos : Pos} (h1 : OpR X (compareOp op) (rCm G (cmpV o1))) (h2 : OpR X (compareOp op') (rCm G (cmpV o2))) (ha : PE X a (tE G W ia)) (hb : PE X b (tE G W ib)) (hc : PE X c (tE G W ic))
    (hm : lastMarks [op, op'] [b, c] = false) : PE X (.Compare a [op, op'] [b, c] pos) (tE G W (.chn o1 o2 ia ib ic)) := by
  refine PE.imp (pe_chain h1 h2 ha hb hc hm) fun σ H Q h => ?_
  obtain ⟨Z, B, ι, ω, ρ, S, h⟩ := h
  exact chn_read S h fun b ω2 h2 H2 Z2 ι2 E2 S2 => h2 _ H2 Z2 ι2 E2 S2 (RV.bl b) (fun z => by cases z)
theorem st_chn {a b c : Expr} {ia ib ic : E} {op op' : CmpOp} {o1 o2 : COp} {pos : Pos} (h1 : OpR X (compareOp op) (rCm G (cmpV o1))) (h2 : OpR X (compareOp op') (rCm G (cmpV o2))) (ha : PE X a (tE G W ia)) (hb : PE X b (tE G W ib)) (hc : PE X c (tE G W ic))
    (hm : lastMarks [op, op'] [b, c] = false) : PT X (.Compare a [op, op'] [b, c] pos) (tT G W (.val (.chn o1 o2 ia ib ic))) := by
  refine PT.imp (pt_chain h1 h2 ha hb hc hm) fun σ H Q h => ?_
  obtain ⟨Z, B, ι, ω, ρ, S, h⟩ := h
  unfold evT at h
  exact chn_read S h.bind fun b ω2 h2 H2 Z2 ι2 E2 S2 => ⟨b, rfl, h2 H2 Z2 ι2 E2 S2⟩
theorem PW.imp {e : Expr} {t t' : TT} (h : PW X e t) (i : ∀ σ H Q, t' σ H Q → t σ H Q) : PW X e t' := ⟨fun w pins s σ H Q I q => h.run w pins s σ H Q I (i σ H Q q)⟩
theorem tT.next {ia : T} {Z B H : Hp} {ι : List (Addr × Addr)} {ω : PVL.Store} {ρ : PVL.Env} {σ : St} (S : Sim G Z B H ι ω ρ σ) {k : Bool → PVL.Store → Prop} {R : Bool → Hp → Prop} (h : RP (evT ia ρ ω) k (QX G W Z B H ι ρ σ))
    (go : ∀ x ω1, k x ω1 → ∀ H1 Z1 ι1, Ext Z Z1 (PO B ρ σ) ι ι1 H H1 → Sim G Z1 B H1 ι1 ω1 ρ σ → R x H1) : tT G W ia σ H R :=
  ⟨Z, B, ι, ω, ρ, S, h.mono (fun x ω1 hk H1 Z1 ι1 E1 S1 => go x ω1 hk H1 Z1 ι1 E1 S1) fun _ _ _ q => q⟩
theorem sw_and1 {a : Expr} {ia : T} {pos : Pos} (h : PT X a (tT G W ia)) : PW X (.BoolOp .And [a] pos) (tT G W ia) := pw_and1 h
theorem sw_or1 {a : Expr} {ia : T} {pos : Pos} (h : PT X a (tT G W ia)) : PW X (.BoolOp .Or [a] pos) (tT G W ia) := pw_or1 h
theorem sw_and {a b : Expr} {rest : List Expr} {ia ib : T} {pos : Pos} (ha : PT X a (tT G W ia)) (hb : PW X (.BoolOp .And (b :: rest) pos) (tT G W ib)) : PW X (.BoolOp .And (a :: b :: rest) pos) (tT G W (.and ia ib)) := by
  refine PW.imp (pw_and ha hb) fun σ H Q h => ?_
  obtain ⟨Z, B, ι, ω, ρ, S, h⟩ := h
  unfold evT at h
  refine tT.next S h.bind fun x ω1 h1 H1 Z1 ι1 E1 S1 => ?_
  cases x with
  | false => rw [if_neg Bool.false_ne_true]; exact h1 H1 Z1 ι1 E1 S1
  | true =>
    rw [if_pos rfl]
    exact tT.next S1 ((show RP (evT ib ρ ω1) _ _ from h1).mono (fun _ _ q => q) fun _ _ _ q => q.on E1) fun y ω2 h2 H2 Z2 ι2 E2 S2 => h2 H2 Z2 ι2 (E1.trans E2) S2
theorem sw_or {a b : Expr} {rest : List Expr} {ia ib : T} {pos : Pos} (ha : PT X a (tT G W ia)) (hb : PW X (.BoolOp .Or (b :: rest) pos) (tT G W ib)) : PW X (.BoolOp .Or (a :: b :: rest) pos) (tT G W (.or ia ib)) := by
  refine PW.imp (pw_or ha hb) fun σ H Q h => ?_
  obtain ⟨Z, B, ι, ω, ρ, S, h⟩ := h
  unfold evT at h
  refine tT.next S h.bind fun x ω1 h1 H1 Z1 ι1 E1 S1 => ?_
  cases x with
  | true => rw [if_pos rfl]; exact h1 H1 Z1 ι1 E1 S1
  | false =>
    rw [if_neg Bool.false_ne_true]
    exact tT.next S1 ((show RP (evT ib ρ ω1) _ _ from h1).mono (fun _ _ q => q) fun _ _ _ q => q.on E1) fun y ω2 h2 H2 Z2 ι2 E2 S2 => h2 H2 Z2 ι2 (E1.trans E2) S2
theorem Pu.no {p : Bool} (h : p = false) {H H' : Hp} {ω ω' : PVL.Store} {ι ι' : List (Addr × Addr)} : Pu p H H' ω ω' ι ι' := fun z => by rw [h] at z; cases z
theorem se_and {a b : Expr} {rest : List Expr} {ia ib : E} {pos : Pos} (ha : PE X a (tE G W ia)) (hb : PE X (.BoolOp .And (b :: rest) pos) (tE G W ib)) : PE X (.BoolOp .And (a :: b :: rest) pos) (tE G W (.andV ia ib)) := by
  refine PE.imp (pe_and ha hb) fun σ H Q h => ?_
  obtain ⟨Z, B, ι, ω, ρ, S, h⟩ := h
  unfold ev at h
  refine tE.next S h.bind fun x ω1 h1 v H1 Z1 ι1 E1 S1 l1 r1 p1 => ?_
  obtain ⟨y, m⟩ := x
  cases y <;> try exact h1.elim
  rename_i c
  cases c with
  | false =>
    rw [(l1.rh S1).bl]
    exact ⟨false, rfl, by rw [if_neg Bool.false_ne_true]; exact h1 _ H1 Z1 ι1 E1 S1 (RV.bl _) (fun z => by cases z)⟩
  | true =>
    rw [(l1.rh S1).bl]
    refine ⟨true, rfl, ?_⟩
    rw [if_pos rfl]
    exact ⟨Z1, B, ι1, ω1, ρ, S1, (show RP (ev ib ρ ω1) _ _ from h1).mono (fun y ω2 h2 u H2 Z2 ι2 E2 S2 o2 p2 => h2 u H2 Z2 ι2 (E1.trans E2) S2 o2 (.no rfl)) fun _ _ _ q => q.on E1⟩
theorem se_or {a b : Expr} {rest : List Expr} {ia ib : E} {pos : Pos} (ha : PE X a (tE G W ia)) (hb : PE X (.BoolOp .Or (b :: rest) pos) (tE G W ib)) : PE X (.BoolOp .Or (a :: b :: rest) pos) (tE G W (.orV ia ib)) := by
  refine PE.imp (pe_orT ha hb) fun σ H Q h => ?_
  obtain ⟨Z, B, ι, ω, ρ, S, h⟩ := h
  unfold ev at h
  refine tE.next S h.bind fun x ω1 h1 v H1 Z1 ι1 E1 S1 l1 r1 p1 => ?_
  obtain ⟨y, m⟩ := x
  have back : RP (ev ib ρ ω1) (fun r ω' => ∀ v H' Z' ι', Ext Z Z' (PO B ρ σ) ι ι' H H' → Sim G Z' B H' ι' ω' ρ σ → OkV G Z' B H' ι' ω' ρ σ v r.1 r.2 → Pu (pureE (.orV ia ib)) H H' ω ω' ι ι' → Q v H') (QX G W Z B H ι ρ σ) → tE G W ib σ H1 Q := fun h2 =>
    ⟨Z1, B, ι1, ω1, ρ, S1, h2.mono (fun y ω2 h2 u H2 Z2 ι2 E2 S2 o2 p2 => h2 u H2 Z2 ι2 (E1.trans E2) S2 o2 (.no rfl)) fun _ _ _ q => q.on E1⟩
  cases y <;> try exact h1.elim
  · rename_i c
    cases c with
    | true =>
      rw [(l1.rh S1).bl]
      exact ⟨true, rfl, by rw [if_pos rfl]; exact h1 _ H1 Z1 ι1 E1 S1 (RV.bl _) (fun z => by cases z)⟩
    | false =>
      rw [(l1.rh S1).bl]
      exact ⟨false, rfl, by rw [if_neg Bool.false_ne_true]; exact back h1⟩
  · rename_i s
    have t := truthy_ok (K := X.K) (x := .str s) S1.zH (l1.rh S1) rfl
    have hr := (l1.rh S1).str
    refine ⟨_, t, ?_⟩
    by_cases hs : s = []
    · subst hs
      rw [if_neg (by simp)]
      exact back h1
    · rw [if_pos (by simp [hs])]
      have h1 : RP (if s = [] then ev ib ρ ω1 else .ok (.str s, .fz) ω1) _ _ := h1
      rw [if_neg hs] at h1
      exact h1 _ H1 Z1 ι1 E1 S1 (by rw [hr.1]; exact RV.str _ hr.2) (fun z => by cases z)
theorem se_notV {a : Expr} {ia : E} {pos : Pos} (ha : PE X a (tE G W ia)) : PE X (.UnaryOp .Not a pos) (tE G W (.notV (.val ia))) := by
  refine PE.imp (pe_notT ha) fun σ H Q h => ?_
  obtain ⟨Z, B, ι, ω, ρ, S, h⟩ := h
  unfold ev at h
  have h := h.bind
  unfold evT at h
  refine tE.next S h.bind fun x ω1 h1 v H1 Z1 ι1 E1 S1 l1 r1 p1 => ?_
  cases e : PVL.truthy x.1 with
  | none => rw [e] at h1; exact h1.elim
  | some b =>
    rw [e] at h1
    exact ⟨b, truthy_ok S1.zH (l1.rh S1) e, h1 _ H1 Z1 ι1 E1 S1 (RV.bl _) (fun z => by cases z)⟩
theorem se_ite {c a b : Expr} {ic : T} {ia ib : E} {pos : Pos} (hc : PT X c (tT G W ic)) (ha : PE X a (tE G W ia)) (hb : PE X b (tE G W ib)) : PE X (.IfExp c a b pos) (tE G W (.ite ic ia ib)) := by
  refine PE.imp (pe_ifExp hc ha hb) fun σ H Q h => ?_
  obtain ⟨Z, B, ι, ω, ρ, S, h⟩ := h
  unfold ev at h
  refine tT.next S h.bind fun x ω1 h1 H1 Z1 ι1 E1 S1 => ?_
  cases x with
  | true =>
    rw [if_pos rfl]
    exact ⟨Z1, B, ι1, ω1, ρ, S1, (show RP (ev ia ρ ω1) _ _ from h1).mono (fun y ω2 h2 u H2 Z2 ι2 E2 S2 o2 p2 => h2 u H2 Z2 ι2 (E1.trans E2) S2 o2 (.no rfl)) fun _ _ _ q => q.on E1⟩
  | false =>
    rw [if_neg Bool.false_ne_true]
    exact ⟨Z1, B, ι1, ω1, ρ, S1, (show RP (ev ib ρ ω1) _ _ from h1).mono (fun y ω2 h2 u H2 Z2 ι2 E2 S2 o2 p2 => h2 u H2 Z2 ι2 (E1.trans E2) S2 o2 (.no rfl)) fun _ _ _ q => q.on E1⟩
theorem Lv.rv {Z B H : Hp} {ι : List (Addr × Addr)} {ω : PVL.Store} {ρ : PVL.Env} {σ : St} (S : Sim G Z B H ι ω ρ σ) {v : V} {x : PV} (l : Lv G Z B H ι ρ σ v x) (hc : isC x = false) : RV G Z ι v x := (l.rh S).flat hc
theorem se_idx {a i : Expr} {ia ii : E} {pos : Pos} (hu : X.A.units + 64 < cLine) (ha : PE X a (tE G W ia)) (hi : PE X i (tE G W ii)) (hs : PlainIx i) : PE X (.Subscript a i pos) (tE G W (.idx ia ii)) := by
  refine PE.imp (pe_ix (i_all (G := G) hu) ha hi hs) fun σ H Q h => ?_
  obtain ⟨Z, B, ι, ω, ρ, S, h⟩ := h
  unfold ev at h
  refine tE.next S h.bind fun x ω1 h1 v H1 Z1 ι1 E1 S1 l1 _ p1 => ?_
  refine tE.next S1 (h1.bind.mono (fun _ _ q => q) fun _ _ _ q => q.on E1) fun y ω2 h2 u H2 Z2 ι2 E2 S2 l2 _ p2 => ?_
  unfold liftO at h2
  cases e : idxV x.1 y.1 with
  | none => rw [e] at h2; exact h2.elim
  | some z =>
    rw [e] at h2
    refine ⟨Z2, ι2, x.1, y.1, z, S2.zH, (l1.on E2).rh S2, l2.rh S2, e, fun w r => ?_⟩
    have em : (mk z .fz).2 = .fz := by unfold mk; cases isC z <;> rfl
    exact h2 w H2 Z2 ι2 (E1.trans E2) S2 (by show OkV G Z2 B H2 ι2 ω2 ρ σ w z (mk z .fz).2; rw [em]; exact r) (p1.and p2 rfl)

/-! ### calls -/
variable (G) in
/-- a def's promise, by what it means -/
def spOf (D : Fn) : Sp := fun vs H Q E => ∃ Z B ι ω xs, Sim G Z B H ι ω [] [] ∧ Ags G Z B H ι [] [] vs xs ∧
  RP (D xs ω) (fun r ω' => ∀ v H' Z' ι', Ext Z Z' (PB B) ι ι' H H' → Sim G Z' B H' ι' ω' [] [] → OkV G Z' B H' ι' ω' [] [] v r.1 r.2 → Q v H')
    (fun c ys ω' => ∀ cls d H' Z' ι', Ext Z Z' (PB B) ι ι' H H' → Sim G Z' B H' ι' ω' [] [] → XR G Z' ι' c ys cls d → E cls d H')
/-- the arguments as the callee has them -/
theorem Ags.call {Z B H : Hp} {ι : List (Addr × Addr)} {ω : PVL.Store} {ρ : PVL.Env} {σ : St} (S : Sim G Z B H ι ω ρ σ) {vs : List V} {xs : List VM} (h : Ags G Z B H ι ρ σ vs xs) : Ags G Z (lend B H ρ σ) H ι [] [] vs xs := by
  induction h with
  | nil => exact .nil
  | @cons v x m vs xs h1 h2 h3 _ ih =>
    refine .cons h1 ?_ h3 ih
    rcases h2 with (h | ⟨a, o, e1, e2, e3⟩) | ⟨i, a, e1, e2, rfl⟩
    · exact .inl (.inl h)
    · exact .inl (.inr ⟨a, o, e1, lend_b S e2, e3⟩)
    · obtain ⟨v, q1, b, o, rfl, q3, q4⟩ := S.sl i x .own e1
      rw [e2] at q1; cases q1
      exact .inl (.inr ⟨_, o, rfl, by rw [lend_slot e1 e2]; exact q3, q4⟩)
/-- behind a call: what was told, here -/
theorem told_ok {Z Z' B H H' : Hp} {ι ι' : List (Addr × Addr)} {ω ω' : PVL.Store} {ρ : PVL.Env} {σ : St} (S : Sim G Z B H ι ω ρ σ) (S' : Sim G Z' (lend B H ρ σ) H' ι' ω' [] []) (E : Ext Z Z' (PB (lend B H ρ σ)) ι ι' H H')
    {v : V} {x : PV} {m : Md} (k : keeps (x, m) = true) (o : OkV G Z' (lend B H ρ σ) H' ι' ω' [] [] v x m) : OkV G Z' B H' ι' ω' ρ σ v x m := by
  obtain ⟨S2, E2⟩ := S.back S' E
  cases m with
  | own =>
    obtain ⟨a, o, rfl, h1, h2, h3, h4, h5⟩ := o
    refine ⟨a, o, rfl, h1, h2, h3, ?_, fun k q => ?_⟩
    · cases e : B a with
      | none => rfl
      | some u => rw [lend_b S e] at h4; cases h4
    · cases k with
      | slot i =>
        obtain ⟨⟨y, e1⟩, e2⟩ := q
        obtain ⟨u, hu⟩ := S.owSome (k := .slot i) ⟨⟨y, e1⟩, e2⟩
        rw [lend_slot e1 e2, hu] at h4; cases h4
      | ins n => exact h5 (.ins n) q
      | dct n => exact h5 (.dct n) q
      | fld n j => exact h5 (.fld n j) q
  | fz => exact o
  | br =>
    have hc : isC x = false := by
      unfold keeps at k
      cases h : isC x with
      | false => rfl
      | true => rw [h] at k; simp at k
    exact .inl (Lv.rv S' (.inl o) hc)
  | lv =>
    obtain ⟨i, a, h1, h2, rfl⟩ := o
    simp at h1
/-- the callee's promise from the caller's place -/
theorem call_read {D : Fn} {Z B H : Hp} {ι : List (Addr × Addr)} {ω : PVL.Store} {ρ : PVL.Env} {σ : St} (S : Sim G Z B H ι ω ρ σ) {vs : List V} {xs : List VM} (ag : Ags G Z B H ι ρ σ vs xs) {k : VM → PVL.Store → Prop} {Q : VK}
    (h : RP ((D xs ω).bind told) k (QX G W Z B H ι ρ σ))
    (go : ∀ r ω', k r ω' → ∀ v H' Z' ι', Ext Z Z' (PO B ρ σ) ι ι' H H' → Sim G Z' B H' ι' ω' ρ σ → OkV G Z' B H' ι' ω' ρ σ v r.1 r.2 → Q v H') : spOf G D vs H Q (fun cls d H' => W cls d σ H') := by
  refine ⟨Z, lend B H ρ σ, ι, ω, xs, S.call, ag.call S, h.bind.mono (fun r ω' h1 v H' Z' ι' E' S' o' => ?_) fun c ys ω' h1 cls d H' Z' ι' E' S' x' => ?_⟩
  · obtain ⟨S2, E2⟩ := S.back S' E'
    unfold told at h1
    cases hk : keeps r with
    | false => rw [hk] at h1; exact h1.elim
    | true =>
      rw [if_pos hk] at h1
      exact go r ω' h1 v H' Z' ι' E2 S2 (told_ok S S' E' hk o')
  · obtain ⟨S2, E2⟩ := S.back S' E'
    exact h1 cls d H' Z' ι' E2 S2 x'
theorem se_call {D : Fn} {e : Expr} {es : List Expr} {ies : Es} {x : Str} {p pos : Pos} {k : Nat} {f : Addr} {fd : FuncData} {ps : List Str} (tk : Takes X W) (F : FnOk X.prog X.w X.K X.mg X.base (L2.CX X.prog X.w) k f fd ps (spOf G D)) (hr : Room k X.A) (hg : Gl X x) (hm : X.mg x = some (.ref f))
    (hk : PySem.W.keepIn X.K (.ref f) = true) (hb : Binds X.K fd ps []) (ha : PA X (e :: es) (tA G W ies)) (hdb : (x == ("__debug__" : Str)) = false) (he : starEach (e :: es) X.env = (false, eval e X.env) :: starEach es X.env) (hpl : (backTo pos (starEach es X.env)).any (·.1) = false) :
    PE X (.Call (.Name x p) (e :: es) [] pos) (tE G W (.call D ies)) := by
  refine PE.imp (pe_callS (E := WE W) F hr hg hm hk hb (fun σ => passAt tk σ) ha hdb he hpl) fun σ H Q h => ?_
  obtain ⟨Z, B, ι, ω, ρ, S, h⟩ := h
  unfold ev at h
  refine ⟨Z, B, ι, ω, ρ, S, h.bind.mono (fun xs ω1 h1 vs H1 Z1 ι1 E1 S1 ag => ?_) fun _ _ _ q => q⟩
  exact call_read S1 ag (h1.mono (fun _ _ q => q) fun _ _ _ q => q.on E1) fun r ω' hk v H' Z' ι' E' S' o' => hk v H' Z' ι' (E1.trans E') S' o' (.no rfl)
end
end PVS

set_option maxHeartbeats 1000000
/-! PVS: statements. -/
namespace PVS
open PySem L2 TL PVL
section
variable (G : GS) (W : WX)
/-- what is wanted of a statement's end -/
def FP (f : PVL.F) (Z B H : Hp) (ι : List (Addr × Addr)) (D : Ends) : Prop := match f with
  | .nx ρ' ω' => ∀ H' Z' ι' σ', Ext Z Z' (PB B) ι ι' H H' → Sim G Z' B H' ι' ω' ρ' σ' → D.nx σ' H'
  | .bk ρ' ω' => ∀ H' Z' ι' σ', Ext Z Z' (PB B) ι ι' H H' → Sim G Z' B H' ι' ω' ρ' σ' → D.bk σ' H'
  | .ct ρ' ω' => ∀ H' Z' ι' σ', Ext Z Z' (PB B) ι ι' H H' → Sim G Z' B H' ι' ω' ρ' σ' → D.ct σ' H'
  | .rt r ω' => ∀ v H' Z' ι', Ext Z Z' (PB B) ι ι' H H' → Sim G Z' B H' ι' ω' [] [] → OkV G Z' B H' ι' ω' [] [] v r.1 r.2 → D.rt v H'
  | .exc c xs ρ' ω' => ∀ cls d H' Z' ι' σ', Ext Z Z' (PB B) ι ι' H H' → Sim G Z' B H' ι' ω' ρ' σ' → XR G Z' ι' c xs cls d → W cls d σ' H'
  | .bad => False
def tS (s : S) : TS := fun D σ H => ∃ Z B ι ω ρ, Sim G Z B H ι ω ρ σ ∧ FP G W (ex s ρ ω) Z B H ι D
def tSs (s : Ss) : TS := fun D σ H => ∃ Z B ι ω ρ, Sim G Z B H ι ω ρ σ ∧ FP G W (exs s ρ ω) Z B H ι D
end
section
variable {G : GS} {W : WX} {Z Z' B H H' : Hp} {ι ι' : List (Addr × Addr)} {ω ω' : PVL.Store} {ρ ρ' : PVL.Env} {σ σ' : St} {D D' : Ends}
theorem FP.on {f : PVL.F} (h : FP G W f Z B H ι D) (E : Ext Z Z' (PB B) ι ι' H H') : FP G W f Z' B H' ι' D := by
  cases f with
  | nx ρ' ω' => exact fun H2 Z2 ι2 σ2 E2 => h H2 Z2 ι2 σ2 (E.trans E2)
  | bk ρ' ω' => exact fun H2 Z2 ι2 σ2 E2 => h H2 Z2 ι2 σ2 (E.trans E2)
  | ct ρ' ω' => exact fun H2 Z2 ι2 σ2 E2 => h H2 Z2 ι2 σ2 (E.trans E2)
  | rt r ω' => exact fun v H2 Z2 ι2 E2 => h v H2 Z2 ι2 (E.trans E2)
  | exc c xs ρ' ω' => exact fun cls d H2 Z2 ι2 σ2 E2 => h cls d H2 Z2 ι2 σ2 (E.trans E2)
  | bad => exact h
/-- an expression, then on -/
theorem FP.to {α : Type} {r : R α} {k : α → PVL.Store → PVL.F} (h : FP G W (r.to ρ k) Z B H ι D) : RP r (fun a ω' => FP G W (k a ω') Z B H ι D) (QX G W Z B H ι ρ σ) := by
  cases r with
  | ok a ω' => exact h
  | exc c xs ω' => exact fun cls d H2 Z2 ι2 E2 S2 x2 => h cls d H2 Z2 ι2 σ E2.pb S2 x2
  | bad => exact h
theorem Sim.drop (S : Sim G Z B H ι ω ρ σ) : Sim G Z B H ι ω [] [] := by
  have oc : ∀ {k a}, owA G H ι ω [] [] k a → owA G H ι ω ρ σ k a := by
    intro k a h
    cases k with
    | slot i => obtain ⟨⟨x, e⟩, _⟩ := h; simp at e
    | ins n => exact h
    | dct n => exact h
    | fld n j => exact h
  exact ⟨S.zH, S.bH, S.iL, S.ob, fun i x m e => by simp at e, rfl, fun k k' a h h' => S.inj k k' a (oc h) (oc h'), fun k a h => S.zno k a (oc h), S.zb, S.tb⟩
theorem OkV.drop {v : V} {x : PV} {m : Md} (S : Sim G Z B H ι ω ρ σ) (k : keeps (x, m) = true) (o : OkV G Z B H ι ω ρ σ v x m) : OkV G Z B H ι ω [] [] v x m := by
  cases m with
  | own =>
    obtain ⟨a, o, rfl, h1, h2, h3, h4, h5⟩ := o
    refine ⟨a, o, rfl, h1, h2, h3, h4, fun k q => ?_⟩
    cases k with
    | slot i => obtain ⟨⟨y, e⟩, _⟩ := q; simp at e
    | ins n => exact h5 (.ins n) q
    | dct n => exact h5 (.dct n) q
    | fld n j => exact h5 (.fld n j) q
  | fz => exact o
  | br => exact o
  | lv =>
    obtain ⟨i, a, h1, h2, rfl⟩ := o
    obtain ⟨v, e1, b, o, rfl, e3, e4⟩ := S.sl i x .own h1
    unfold keeps at k
    rw [e4.isC] at k
    cases k
end
section
variable {X : Cx} {G : GS} {W : WX}
theorem PSs.imp {st : List Stmt} {t t' : TS} (h : PSs X st t) (i : ∀ D σ H, t' D σ H → t D σ H) : PSs X st t' := ⟨fun pins s σ H D I q => h.run pins s σ H D I (i D σ H q)⟩
theorem ss_nil : PSs X [] (tSs G W .nil) := by
  refine PSs.imp pss_nil fun D σ H h => ?_
  obtain ⟨Z, B, ι, ω, ρ, S, h⟩ := h
  unfold exs at h
  exact h H Z ι σ Ext.refl S
theorem ss_cons {st : Stmt} {rest : List Stmt} {is : S} {ir : Ss} (h1 : PS X st (tS G W is)) (h2 : PSs X rest (tSs G W ir)) : PSs X (st :: rest) (tSs G W (.cons is ir)) := by
  refine PSs.imp (pss_cons h1 h2) fun D σ H h => ?_
  obtain ⟨Z, B, ι, ω, ρ, S, h⟩ := h
  unfold exs at h
  refine ⟨Z, B, ι, ω, ρ, S, ?_⟩
  cases e : ex is ρ ω with
  | nx ρ' ω' =>
    rw [e] at h
    exact fun H' Z' ι' σ' E' S' => ⟨Z', B, ι', ω', ρ', S', h.on E'⟩
  | bk ρ' ω' => rw [e] at h; exact h
  | ct ρ' ω' => rw [e] at h; exact h
  | rt r ω' => rw [e] at h; exact h
  | exc c xs ρ' ω' => rw [e] at h; exact h
  | bad => rw [e] at h; exact h
theorem ss_one {st : Stmt} {is : S} (h1 : PS X st (tS G W is)) : PSs X [st] (tSs G W (.cons is .nil)) := ss_cons h1 ss_nil
theorem sp_pass {pos : Pos} : PS X (.Pass pos) (tS G W .pass) := by
  refine PS.imp ps_pass fun D σ H h => ?_
  obtain ⟨Z, B, ι, ω, ρ, S, h⟩ := h
  unfold ex at h
  exact h H Z ι σ Ext.refl S
theorem sp_brk {pos : Pos} : PS X (.Break pos) (tS G W .brk) := by
  refine PS.imp ps_break fun D σ H h => ?_
  obtain ⟨Z, B, ι, ω, ρ, S, h⟩ := h
  unfold ex at h
  exact h H Z ι σ Ext.refl S
theorem sp_cnt {pos : Pos} : PS X (.Continue pos) (tS G W .cnt) := by
  refine PS.imp ps_continue fun D σ H h => ?_
  obtain ⟨Z, B, ι, ω, ρ, S, h⟩ := h
  unfold ex at h
  exact h H Z ι σ Ext.refl S
theorem sp_doc {x : Str} {j : Nat} {p p' : Pos} : PS X (.Expr (.Constant (.str x) j p) p') (tS G W .pass) := by
  refine PS.imp ps_doc fun D σ H h => ?_
  obtain ⟨Z, B, ι, ω, ρ, S, h⟩ := h
  unfold ex at h
  exact h H Z ι σ Ext.refl S
theorem sp_expr {e : Expr} {ie : E} {pos : Pos} (he : PE X e (tE G W ie)) (hs : swapsWith e none pos.line X.env = pure false) : PS X (.Expr e pos) (tS G W (.expr ie)) := by
  refine PS.imp (ps_expr he hs) fun D σ H h => ?_
  obtain ⟨Z, B, ι, ω, ρ, S, h⟩ := h
  unfold ex at h
  exact ⟨Z, B, ι, ω, ρ, S, h.to.mono (fun x ω1 h1 v H1 Z1 ι1 E1 S1 o1 p1 => h1 H1 Z1 ι1 σ E1.pb S1) fun _ _ _ q => q⟩
/-- a name is stored -/
theorem Sim.store {Z B H : Hp} {ι : List (Addr × Addr)} {ω : PVL.Store} {ρ : PVL.Env} {σ : St} (S : Sim G Z B H ι ω ρ σ) {i : Nat} (hi : i < ρ.length) {v : V} {x : VM} (k : keeps x = true) (o : OkV G Z B H ι ω ρ σ v x.1 x.2) : Sim G Z B H ι ω (setV ρ i x) (σ.set i (some v)) := by
  obtain ⟨x, m⟩ := x
  cases m with
  | own =>
    obtain ⟨a, o, rfl, h1, h2, h3, h4, h5⟩ := o
    exact S.setS hi (show SR G Z B H ι (.ref a) x .own from ⟨a, o, rfl, h1, h2⟩) fun _ b e => by cases e; exact ⟨h3, h4, h5⟩
  | fz => exact S.setS hi (show SR G Z B H ι v x .fz from o) fun e => by cases e
  | br =>
    have hc : isC x = false := by
      unfold keeps at k
      cases h : isC x with
      | false => rfl
      | true => rw [h] at k; simp at k
    exact S.setS hi (show SR G Z B H ι v x .br from .inl (Lv.rv S (.inl o) hc)) fun e => by cases e
  | lv =>
    obtain ⟨i, a, h1, h2, rfl⟩ := o
    obtain ⟨v, e1, b, o, rfl, e3, e4⟩ := S.sl i x .own h1
    unfold keeps at k
    rw [e4.isC] at k
    cases k
theorem sp_set {i : Nat} {x : Str} {e : Expr} {ie : E} {pos pos' : Pos} (hN : X.N.Nodup) (hi : X.N[i]? = some x) (hx : Loc X.env.scope x) (he : PE X e (tE G W ie)) (hs : swapsWith e (some (.Name x pos')) pos.line X.env = pure false) (hf : X.fn x = true ∨ X.env.scope.names.lookup x = some .local) : PS X (.Assign [.Name x pos'] e pos) (tS G W (.set i ie)) := by
  refine ⟨fun pins s σ H D I h => (ps_set hN hi hx he hs hf).run pins s σ H D I ?_⟩
  obtain ⟨Z, B, ι, ω, ρ, S, h⟩ := h
  unfold ex at h
  have hiρ : i < ρ.length := by rw [S.len, I.len]; exact (List.getElem?_eq_some_iff.mp hi).1
  refine ⟨Z, B, ι, ω, ρ, S, h.to.mono (fun y ω1 h1 v H1 Z1 ι1 E1 S1 o1 p1 => ?_) fun _ _ _ q => q⟩
  cases hk : keeps y with
  | false => rw [hk] at h1; exact h1.elim
  | true =>
    rw [hk] at h1
    exact h1 H1 Z1 ι1 _ E1.pb (S1.store hiρ hk o1)
theorem sp_ret {e : Expr} {ie : E} {pos : Pos} (he : PE X e (tE G W ie)) : PS X (.Return (some e) pos) (tS G W (.ret ie)) := by
  refine PS.imp (ps_ret he) fun D σ H h => ?_
  obtain ⟨Z, B, ι, ω, ρ, S, h⟩ := h
  unfold ex at h
  refine ⟨Z, B, ι, ω, ρ, S, h.to.mono (fun y ω1 h1 v H1 Z1 ι1 E1 S1 o1 p1 => ?_) fun _ _ _ q => q⟩
  cases hk : keeps y with
  | false => rw [hk] at h1; exact h1.elim
  | true =>
    rw [hk] at h1
    exact h1 v H1 Z1 ι1 E1.pb S1.drop (o1.drop S1 hk)
theorem sp_retN {pos : Pos} : PS X (.Return none pos) (tS G W (.ret (.con .non))) := by
  refine PS.imp ps_retN fun D σ H h => ?_
  obtain ⟨Z, B, ι, ω, ρ, S, h⟩ := h
  unfold ex ev at h
  exact h .non H Z ι Ext.refl S.drop RV.non
/-- a name is handed back: what it holds is given away -/
theorem sp_retV {i : Nat} {x : Str} {p pos : Pos} (hN : X.N[i]? = some x) (hv : Vis X.env.scope x) (hd : (x == ("__debug__" : Str)) = false) (hcd : (x == ("__classdict__" : Str)) = false) : PS X (.Return (some (.Name x p)) pos) (tS G W (.retV i)) := by
  refine PS.imp (ps_ret (pe_var hN hv hd hcd)) fun D σ H h => ?_
  obtain ⟨Z, B, ι, ω, ρ, S, h⟩ := h
  unfold ex at h
  cases e : getV ρ i with
  | none => rw [e] at h; exact h.elim
  | some r =>
    obtain ⟨y, m⟩ := r
    rw [e] at h
    obtain ⟨v, e1, e2⟩ := S.sl i y m (getV_some.mp e)
    refine ⟨v, e1, ?_⟩
    cases hk : keeps (y, m) with
    | false =>
      have h : FP G W (if keeps (y, m) = true then .rt (y, m) ω else .bad) Z B H ι D := h
      rw [hk] at h
      exact h.elim
    | true =>
      have h : FP G W (if keeps (y, m) = true then .rt (y, m) ω else .bad) Z B H ι D := h
      rw [hk, if_pos rfl] at h
      refine h v H Z ι Ext.refl S.drop ?_
      cases m with
      | own =>
        obtain ⟨a, o, rfl, h2, h3⟩ := e2
        have me : owA G H ι ω ρ σ (.slot i) a := ⟨⟨y, getV_some.mp e⟩, e1⟩
        refine ⟨a, o, rfl, h2, h3, (S.zno _ _ me).1, (S.zno _ _ me).2, fun k q => ?_⟩
        cases k with
        | slot j => obtain ⟨⟨y, e⟩, _⟩ := q; simp at e
        | ins n => cases S.inj (.ins n) _ a q me
        | dct n => cases S.inj (.dct n) _ a q me
        | fld n j => cases S.inj (.fld n j) _ a q me
      | fz => exact e2
      | br => exact e2
      | lv => exact e2.elim
theorem sp_if {c : Expr} {a b : List Stmt} {ic : T} {ia ib : Ss} {pos : Pos} (hc : PT X c (tT G W ic)) (ha : PSs X a (tSs G W ia)) (hb : PSs X b (tSs G W ib)) : PS X (.If c a b pos) (tS G W (.ifs ic ia ib)) := by
  refine PS.imp (ps_if hc ha hb) fun D σ H h => ?_
  obtain ⟨Z, B, ι, ω, ρ, S, h⟩ := h
  unfold ex at h
  refine tT.next S h.to fun x ω1 h1 H1 Z1 ι1 E1 S1 => ?_
  cases x with
  | true => rw [if_pos rfl]; exact ⟨Z1, B, ι1, ω1, ρ, S1, (show FP G W (exs ia ρ ω1) Z B H ι D from h1).on E1.pb⟩
  | false => rw [if_neg Bool.false_ne_true]; exact ⟨Z1, B, ι1, ω1, ρ, S1, (show FP G W (exs ib ρ ω1) Z B H ι D from h1).on E1.pb⟩
theorem sp_while {c : Expr} {body : List Stmt} {ic : T} {ib : Ss} {pos : Pos} (hp : PassesOwn (model X.prog X.w) X.A X.env X.xe) (hc : PT X c (tT G W ic)) (hb : PSs X body (tSs G W ib)) : PS X (.While c body [] pos) (tS G W (.whl ic ib)) := by
  refine PS.imp (ps_while hp hc hb) fun D σ H h => ?_
  obtain ⟨Z, B, ι, ω, ρ, S, h⟩ := h
  unfold ex whl at h
  split at h
  · rename_i hex
    generalize Classical.choose hex = n at h
    refine ⟨fun m σ' H' => ∃ Z' ι' ω' ρ', Sim G Z' B H' ι' ω' ρ' σ' ∧ FP G W (whlN (evT ic) (exs ib) m ρ' ω') Z' B H' ι' D, ⟨n, Z, ι, ω, ρ, S, h⟩, fun m σ' H' h' => ?_⟩
    obtain ⟨Z', ι', ω', ρ', S', h'⟩ := h'
    cases m with
    | zero => exact h'.elim
    | succ m =>
      unfold whlN at h'
      refine tT.next S' h'.to fun x ω1 h1 H1 Z1 ι1 E1 S1 => ?_
      cases x with
      | false => rw [if_neg Bool.false_ne_true]; exact h1 H1 Z1 ι1 σ' E1.pb S1
      | true =>
        rw [if_pos rfl]
        rw [if_pos rfl] at h1
        refine ⟨fun σ2 H2 => ∃ Z2 ι2 ω2 ρ2, Sim G Z2 B H2 ι2 ω2 ρ2 σ2 ∧ FP G W (whlN (evT ic) (exs ib) m ρ2 ω2) Z2 B H2 ι2 D, fun σ2 H2 q => ⟨m, Nat.lt_succ_self m, q⟩, Z1, B, ι1, ω1, ρ', S1, ?_⟩
        cases e : exs ib ρ' ω1 with
        | nx ρ2 ω2 => rw [e] at h1; exact fun H2 Z2 ι2 σ2 E2 S2 => ⟨Z2, ι2, ω2, ρ2, S2, h1.on (E1.pb.trans E2)⟩
        | ct ρ2 ω2 => rw [e] at h1; exact fun H2 Z2 ι2 σ2 E2 S2 => ⟨Z2, ι2, ω2, ρ2, S2, h1.on (E1.pb.trans E2)⟩
        | bk ρ2 ω2 => rw [e] at h1; exact fun H2 Z2 ι2 σ2 E2 S2 => h1 H2 Z2 ι2 σ2 (E1.pb.trans E2) S2
        | rt r ω2 => rw [e] at h1; exact fun v H2 Z2 ι2 E2 => h1 v H2 Z2 ι2 (E1.pb.trans E2)
        | exc c xs ρ2 ω2 => rw [e] at h1; exact fun cls d H2 Z2 ι2 σ2 E2 => h1 cls d H2 Z2 ι2 σ2 (E1.pb.trans E2)
        | bad => rw [e] at h1; exact h1.elim
  · exact h.elim
/-- what is frozen ahead -/
theorem Sim.frz1 {Z B H : Hp} {ι : List (Addr × Addr)} {ω : PVL.Store} {ρ : PVL.Env} {σ : St} (S : Sim G Z B H ι ω ρ σ) (i : Nat) : ∃ Z', Ext Z Z' (PB B) ι ι H H ∧ Sim G Z' B H ι ω (freeze ρ i) σ := by
  unfold freeze
  cases e : getV ρ i with
  | none => exact ⟨Z, Ext.refl, S⟩
  | some r =>
    obtain ⟨x, m⟩ := r
    cases m with
    | own =>
      obtain ⟨v, e1, a, o, rfl, e3, e4⟩ := S.sl i x .own (getV_some.mp e)
      have me : owA G H ι ω ρ σ (.slot i) a := ⟨⟨x, getV_some.mp e⟩, e1⟩
      exact ⟨upd Z a o, Ext.fz (S.zno _ _ me).1, S.frzS e e1 e3 e4⟩
    | fz => exact ⟨Z, Ext.refl, S⟩
    | br => exact ⟨Z, Ext.refl, S⟩
    | lv => exact ⟨Z, Ext.refl, S⟩
theorem Sim.frzL {B H : Hp} {ι : List (Addr × Addr)} {ω : PVL.Store} {σ : St} : ∀ (is : List Nat) {Z : Hp} {ρ : PVL.Env}, Sim G Z B H ι ω ρ σ → ∃ Z', Ext Z Z' (PB B) ι ι H H ∧ Sim G Z' B H ι ω (is.foldl freeze ρ) σ
  | [], Z, ρ, S => ⟨Z, Ext.refl, S⟩
  | i :: is, Z, ρ, S => by
    obtain ⟨Z1, E1, S1⟩ := S.frz1 i
    obtain ⟨Z2, E2, S2⟩ := Sim.frzL is S1
    exact ⟨Z2, E1.trans E2, S2⟩
theorem sp_frz {st : Stmt} {is : List Nat} {s : S} (h : PS X st (tS G W s)) : PS X st (tS G W (.frz is s)) := by
  refine PS.imp h fun D σ H h => ?_
  obtain ⟨Z, B, ι, ω, ρ, S, h⟩ := h
  unfold ex at h
  obtain ⟨Z1, E1, S1⟩ := S.frzL is
  exact ⟨Z1, B, ι, ω, _, S1, h.on E1⟩
end
end PVS

set_option maxHeartbeats 1000000
/-! PVS: what is walked; for. -/
namespace PVS
open PySem L2 TL PVL
section
variable {G : GS} {Z Z' B H H' : Hp} {ι ι' : List (Addr × Addr)} {ω : PVL.Store} {ρ ρ' : PVL.Env} {σ : St}
/-- a name holds another thing, within or not -/
theorem Sim.setS' (S : Sim G Z B H ι ω ρ σ) {i : Nat} {v : V} {x : PV} (r : RV G Z ι v x) : Sim G Z B H ι ω (setV ρ i (x, .fz)) (σ.set i (some v)) := by
  by_cases hi : i < ρ.length
  · exact S.setS hi (show SR G Z B H ι v x .fz from r) fun e => by cases e
  · have e1 : setV ρ i (x, .fz) = ρ := by unfold setV; exact List.set_eq_of_length_le (Nat.le_of_not_lt hi)
    have e2 : σ.set i (some v) = σ := List.set_eq_of_length_le (by rw [← S.len]; exact Nat.le_of_not_lt hi)
    rw [e1, e2]; exact S
/-- the walk meets xs, while what is frozen and what P tells stands -/
def Walk (G : GS) (P : Addr → Prop) (Z : Hp) (ι : List (Addr × Addr)) (H : Hp) (J : L2.It) (xs : List PV) : Prop :=
  ∀ Z' ι' H', Ext Z Z' P ι ι' H H' → Sub Z' H' → (∀ i, xs.length ≤ i → J.stop i H') ∧ ∀ i x, xs[i]? = some x → J.go i H' ∧ ∀ v H'', J.yld i H' v H'' → Nw G Z' H' ι' .fz x v H''
variable {P : Addr → Prop}
theorem Walk.imp {P' : Addr → Prop} {J : L2.It} {xs : List PV} (h : Walk G P Z ι H J xs) (i : ∀ a, P a → P' a) : Walk G P' Z ι H J xs := fun Z' ι' H' E => h Z' ι' H' (E.imp i)
theorem Walk.on {J : L2.It} {xs : List PV} (h : Walk G P Z ι H J xs) (E : Ext Z Z' P ι ι' H H') : Walk G P Z' ι' H' J xs := fun Z2 ι2 H2 E2 => h Z2 ι2 H2 (E.trans E2)
theorem Walk.nil_of {J : L2.It} {xs : List PV} (h : Walk G P Z ι H J xs) (s : Sub Z H) : (∀ i, xs.length ≤ i → J.stop i H) ∧ ∀ i x, xs[i]? = some x → J.go i H ∧ ∀ v H'', J.yld i H v H'' → Nw G Z H ι .fz x v H'' := h Z ι H Ext.refl s
theorem walk_list {K : PySem.W.Frag} {a : Addr} {vs : List V} {xs : List PV} (hs : Z a ≠ none ∨ P a) (h : Rd H a (.lst vs)) (r : RVs G Z ι vs xs) : Walk G P Z ι H (Itl K a) xs := by
  intro Z' ι' H' E s
  have e : H' a = H a := E.k a hs
  have h' : SqL K H' a vs := .inl (by unfold Rd; rw [e]; exact h)
  have r' := r.mono E.z E.i
  refine ⟨fun i hi => ⟨vs, h', by rw [r.len]; exact hi⟩, fun i x hx => ?_⟩
  obtain ⟨v, hv, rv⟩ := r'.get hx
  refine ⟨⟨vs, v, h', hv⟩, fun u H'' y => ?_⟩
  obtain ⟨rfl, y⟩ := y
  have := y vs h'
  rw [hv] at this; cases this
  exact .inl ⟨fun z => by (cases z), rv, rfl⟩
theorem walk_rev {K : PySem.W.Frag} {a : Addr} {vs : List V} {xs : List PV} (hs : Z a ≠ none ∨ P a) (h : Rd H a (.lst vs)) (r : RVs G Z ι vs xs) : Walk G P Z ι H (Itv K a vs.length) xs.reverse := by
  intro Z' ι' H' E s
  have e : H' a = H a := E.k a hs
  have h' : SqL K H' a vs := .inl (by unfold Rd; rw [e]; exact h)
  have r' := r.mono E.z E.i
  refine ⟨fun i hi => by rw [List.length_reverse, ← r.len] at hi; exact hi, fun i x hx => ?_⟩
  have hi : i < xs.length := by simpa using (List.getElem?_eq_some_iff.mp hx).1
  rw [List.getElem?_reverse hi] at hx
  obtain ⟨v, hv, rv⟩ := r'.get hx
  have el := r.len
  refine ⟨⟨by omega, vs, v, h', by rw [el]; exact hv⟩, fun u H'' y => ?_⟩
  obtain ⟨rfl, y⟩ := y
  have := y vs h'
  rw [el, hv] at this; cases this
  exact .inl ⟨fun z => by (cases z), rv, rfl⟩
theorem walk_tup {K : PySem.W.Frag} {a : Addr} {vs : List V} {xs : List PV} (h : Z a = some (.tup vs)) (r : RVs G Z ι vs xs) : Walk G P Z ι H (Itt K a) xs := by
  intro Z' ι' H' E s
  have h' : SqT K H' a vs := SqT.of (s.tup (E.z a _ h))
  have r' := r.mono E.z E.i
  refine ⟨fun i hi => ⟨vs, h', by rw [r.len]; exact hi⟩, fun i x hx => ?_⟩
  obtain ⟨v, hv, rv⟩ := r'.get hx
  refine ⟨⟨vs, v, h', hv⟩, fun u H'' y => ?_⟩
  obtain ⟨rfl, y⟩ := y
  have := y vs h'
  rw [hv] at this; cases this
  exact .inl ⟨fun z => by (cases z), rv, rfl⟩
theorem walk_str {s : Txt} (h : okT s) : Walk G P Z ι H (Its (mkS s)) (charsOf s) := by
  intro Z' ι' H' E sb
  have hl : (charsOf s).length = s.length := by simp [charsOf]
  refine ⟨fun i hi => by rw [hl] at hi; exact hi, fun i x hx => ?_⟩
  have hi : i < s.length := by rw [← hl]; exact (List.getElem?_eq_some_iff.mp hx).1
  refine ⟨hi, fun u H'' y => ?_⟩
  obtain ⟨rfl, c, hc, rfl⟩ := y
  have hc' : s[i]? = some c := by simpa using hc
  have ex : x = .str [c] := by
    unfold charsOf at hx
    rw [List.getElem?_map, hc'] at hx
    exact (Option.some.inj hx).symm
  subst ex
  exact .val (.str [c] ⟨by show 1 ≤ PVL.line; decide, fun d hd => by
    have : d = c := by simpa using hd
    subst this
    exact h.2 d (List.mem_of_getElem? hc')⟩) rfl
theorem walk_range {lo : Int} {n : Nat} : Walk G P Z ι H (Itr lo n) (PVL.upTo lo n) := by
  intro Z' ι' H' E sb
  have hl : (PVL.upTo lo n).length = n := by simp [PVL.upTo]
  refine ⟨fun i hi => by rw [hl] at hi; exact hi, fun i x hx => ?_⟩
  have hi : i < n := by rw [← hl]; exact (List.getElem?_eq_some_iff.mp hx).1
  refine ⟨hi, fun u H'' y => ?_⟩
  obtain ⟨rfl, rfl⟩ := y
  have ex : x = .int (lo + (i : Nat)) := by
    unfold PVL.upTo at hx
    rw [List.getElem?_map, List.getElem?_range hi] at hx
    exact (Option.some.inj hx).symm
  subst ex
  exact .val (.int _) rfl
theorem walk_down {top : Int} {n : Nat} : Walk G P Z ι H (Itc top (-1) n) (downTo top n) := by
  intro Z' ι' H' E sb
  have hl : (downTo top n).length = n := by simp [downTo]
  refine ⟨fun i hi => by rw [hl] at hi; exact hi, fun i x hx => ?_⟩
  have hi : i < n := by rw [← hl]; exact (List.getElem?_eq_some_iff.mp hx).1
  refine ⟨hi, fun u H'' y => ?_⟩
  obtain ⟨rfl, rfl⟩ := y
  have ex : x = .int (top - (i : Nat)) := by
    unfold downTo at hx
    rw [List.getElem?_map, List.getElem?_range hi] at hx
    exact (Option.some.inj hx).symm
  subst ex
  have e2 : top + (i : Int) * (-1) = top - i := by omega
  rw [e2]
  exact .val (.int _) rfl
theorem walk_enum {K : PySem.W.Frag} {a : Addr} {vs : List V} {xs : List PV} (hs : Z a ≠ none ∨ P a) (h : Rd H a (.lst vs)) (r : RVs G Z ι vs xs) : Walk G P Z ι H (Ite K a) (xs.zipIdx.map fun p => .tup [.int (p.2 : Nat), p.1]) := by
  intro Z' ι' H' E s
  have e : H' a = H a := E.k a hs
  have h' : SqL K H' a vs := .inl (by unfold Rd; rw [e]; exact h)
  have r' := r.mono E.z E.i
  refine ⟨fun i hi => ⟨vs, h', by rw [r.len]; simpa using hi⟩, fun i x hx => ?_⟩
  rw [List.getElem?_map, List.getElem?_zipIdx] at hx
  cases ex : xs[i]? with
  | none => rw [ex] at hx; cases hx
  | some y =>
    rw [ex] at hx
    obtain ⟨v, hv, rv⟩ := r'.get ex
    refine ⟨⟨vs, v, h', hv⟩, fun u H'' q => ?_⟩
    obtain ⟨T, w, rfl, hT, rfl, q⟩ := q
    have := q vs h'
    rw [hv] at this; cases this
    have e3 : x = .tup [.int (i : Nat), y] := by simpa using hx.symm
    subst e3
    exact .tup hT (.cons (.int _) (.cons rv .nil))
theorem walk_zip {K : PySem.W.Frag} {a b : Addr} {vs us : List V} {xs ys : List PV} (hs : Z a ≠ none ∨ P a) (h : Rd H a (.lst vs)) (r : RVs G Z ι vs xs) (hs2 : Z b ≠ none ∨ P b) (h2 : Rd H b (.lst us)) (r2 : RVs G Z ι us ys) : Walk G P Z ι H (Itz K a b) ((xs.zip ys).map fun p => .tup [p.1, p.2]) := by
  intro Z' ι' H' E s
  have h' : SqL K H' a vs := .inl (by unfold Rd; rw [E.k a hs]; exact h)
  have h2' : SqL K H' b us := .inl (by unfold Rd; rw [E.k b hs2]; exact h2)
  have r' := r.mono E.z E.i
  have r2' := r2.mono E.z E.i
  have l1 := r.len
  have l2 := r2.len
  refine ⟨fun i hi => ⟨vs, us, h', h2', ?_⟩, fun i x hx => ?_⟩
  · simp only [List.length_map, List.length_zip] at hi
    omega
  · rw [List.getElem?_map] at hx
    cases ex : (xs.zip ys)[i]? with
    | none => rw [ex] at hx; cases hx
    | some y =>
      rw [ex] at hx
      obtain ⟨y1, y2⟩ := y
      rw [List.getElem?_zip_eq_some] at ex
      obtain ⟨v, hv, rv⟩ := r'.get ex.1
      obtain ⟨w, hw, rw⟩ := r2'.get ex.2
      refine ⟨⟨vs, us, v, w, h', h2', hv, hw⟩, fun u H'' q => ?_⟩
      obtain ⟨T, v1, w1, rfl, hT, rfl, q1, q2⟩ := q
      have e1 := q1 vs h'
      have e2 := q2 us h2'
      rw [hv] at e1; cases e1
      rw [hw] at e2; cases e2
      have e3 : x = .tup [y1, y2] := (Option.some.inj hx).symm
      subst e3
      exact .tup hT (.cons rv (.cons rw .nil))
/-! ### dicts, locked -/
theorem RK.keyAt {kvs : List (Key × V)} {ps : List (PV × PV)} (r : RK G Z ι kvs ps) : ∀ {i : Nat} {p : PV × PV}, ps[i]? = some p → ∃ k v, kvs[i]? = some (k, v) ∧ p.1 = kP k ∧ RV G Z ι (kV k) (kP k) ∧ RV G Z ι v p.2 := by
  induction kvs generalizing ps with
  | nil => cases r; intro i p e; simp at e
  | cons q kvs ih =>
    cases r with
    | @cons k v x _ xs r hk t =>
      intro i p e
      cases i with
      | zero =>
        cases e
        refine ⟨k, v, rfl, rfl, ?_, r⟩
        cases k with
        | inl i => exact .int i
        | inr s => exact .str _ (hk s rfl)
      | succ i => exact ih t e
theorem RT.keyAt {kvs : List (List Key × V)} {ps : List (PV × PV)} (r : RT G Z ι kvs ps) : ∀ {i : Nat} {p : PV × PV}, ps[i]? = some p → ∃ k v, kvs[i]? = some (k, v) ∧ p.1 = .tup (k.map kP) ∧ RVs G Z ι (k.map kV) (k.map kP) ∧ RV G Z ι v p.2 := by
  induction kvs generalizing ps with
  | nil => cases r; intro i p e; simp at e
  | cons q kvs ih =>
    cases r with
    | @cons k v x _ xs r hk t =>
      intro i p e
      cases i with
      | zero =>
        cases e
        refine ⟨k, v, rfl, rfl, ?_, r⟩
        clear ih r t
        induction k with
        | nil => exact .nil
        | cons a k ih =>
          refine .cons ?_ (ih fun s hs => hk s (List.mem_cons_of_mem _ hs))
          cases a with
          | inl i => exact .int i
          | inr s => exact .str _ (hk s (List.mem_cons_self ..))
      | succ i => exact ih t e
theorem walk_keys {a : Addr} {o : Obj} {kvs : List (Key × V)} {ps : List (PV × PV)} (hs : Z a ≠ none ∨ P a) (h : H a = some (.frz o (.dK kvs))) (r : RK G Z ι kvs ps) : Walk G P Z ι H (Itk a o kvs) (ps.map (·.1)) := by
  intro Z' ι' H' E s
  have h' : H' a = some (.frz o (.dK kvs)) := by rw [E.k a hs]; exact h
  have r' := r.mono E.z E.i
  refine ⟨fun i hi => ⟨h', by rw [r.len]; simpa using hi⟩, fun i x hx => ?_⟩
  rw [List.getElem?_map] at hx
  cases ex : ps[i]? with
  | none => rw [ex] at hx; cases hx
  | some p =>
    rw [ex] at hx
    cases hx
    obtain ⟨k, v, e1, e2, e3, e4⟩ := r'.keyAt ex
    refine ⟨⟨h', (List.getElem?_eq_some_iff.mp e1).1⟩, fun u H'' q => ?_⟩
    obtain ⟨rfl, k2, v2, q1, rfl⟩ := q
    rw [e1] at q1; cases q1
    refine .inl ⟨fun z => by (cases z), ?_, rfl⟩
    show RV G Z' ι' (kV k) p.1
    rw [e2]
    exact e3
theorem walk_vals {a : Addr} {o : Obj} {kvs : List (Key × V)} {ps : List (PV × PV)} (hs : Z a ≠ none ∨ P a) (h : H a = some (.frz o (.dK kvs))) (r : RK G Z ι kvs ps) : Walk G P Z ι H (Itd a o kvs) (ps.map (·.2)) := by
  intro Z' ι' H' E s
  have h' : H' a = some (.frz o (.dK kvs)) := by rw [E.k a hs]; exact h
  have r' := r.mono E.z E.i
  refine ⟨fun i hi => ⟨h', by rw [r.len]; simpa using hi⟩, fun i x hx => ?_⟩
  rw [List.getElem?_map] at hx
  cases ex : ps[i]? with
  | none => rw [ex] at hx; cases hx
  | some p =>
    rw [ex] at hx
    cases hx
    obtain ⟨k, v, e1, e2, e3, e4⟩ := r'.keyAt ex
    refine ⟨⟨h', (List.getElem?_eq_some_iff.mp e1).1⟩, fun u H'' q => ?_⟩
    obtain ⟨rfl, k2, q1⟩ := q
    rw [e1] at q1; cases q1
    exact .inl ⟨fun z => by (cases z), e4, rfl⟩
theorem walk_items {a : Addr} {o : Obj} {kvs : List (Key × V)} {ps : List (PV × PV)} (hs : Z a ≠ none ∨ P a) (h : H a = some (.frz o (.dK kvs))) (r : RK G Z ι kvs ps) : Walk G P Z ι H (Iti a o kvs) (ps.map fun p => .tup [p.1, p.2]) := by
  intro Z' ι' H' E s
  have h' : H' a = some (.frz o (.dK kvs)) := by rw [E.k a hs]; exact h
  have r' := r.mono E.z E.i
  refine ⟨fun i hi => ⟨h', by rw [r.len]; simpa using hi⟩, fun i x hx => ?_⟩
  rw [List.getElem?_map] at hx
  cases ex : ps[i]? with
  | none => rw [ex] at hx; cases hx
  | some p =>
    rw [ex] at hx
    cases hx
    obtain ⟨k, v, e1, e2, e3, e4⟩ := r'.keyAt ex
    refine ⟨⟨h', (List.getElem?_eq_some_iff.mp e1).1⟩, fun u H'' q => ?_⟩
    obtain ⟨T, k2, v2, q1, rfl, hT, rfl⟩ := q
    rw [e1] at q1; cases q1
    show Nw G Z' H' ι' .fz (.tup [p.1, p.2]) _ _
    rw [e2]
    exact .tup hT (.cons e3 (.cons e4 .nil))
end
end PVS

set_option maxHeartbeats 1000000
/-! PVS: targets, for. -/
namespace PVS
open PySem L2 TL PVL
variable {X : Cx} {G : GS} {W : WX}
theorem wipe_set {i : Nat} {o : Option V} {σ : St} : ∀ {vs : List Nat}, i ∈ vs → wipe (σ.set i o) vs = wipe σ vs
  | [], h => by cases h
  | v :: vs, h => by
    unfold wipe
    by_cases e : i ∈ vs
    · rw [wipe_set e]
    · have ev : v = i := by
        rcases List.mem_cons.mp h with z | z
        · exact z.symm
        · exact absurd z e
      subst ev
      have go : ∀ (vs : List Nat) (σ : St), v ∉ vs → (wipe (σ.set v o) vs).set v none = (wipe σ vs).set v none := by
        intro vs
        induction vs with
        | nil => intro σ _; unfold wipe; rw [List.set_set]
        | cons u us ih =>
          intro σ hn
          unfold wipe
          have hu : u ≠ v := fun z => hn (by simp [z])
          rw [List.set_comm _ _ hu, List.set_comm _ _ hu, ih σ (fun z => hn (List.mem_cons_of_mem _ z))]
      exact go vs σ e
/-- a target's names -/
def TgOk (X : Cx) (G : GS) (tg : Expr) (is : List Nat) : Prop := ∃ g, PG X tg g ∧ ∀ (Z B H : Hp) (ι : List (Addr × Addr)) (ω : PVL.Store) (ρ : PVL.Env) (σ : St) (v : V) (x : PV) (ρ' : PVL.Env) (Q : St → Hp → Prop),
  Sim G Z B H ι ω ρ σ → RV G Z ι v x → assignT ρ is x = some ρ' → (∀ σ', Sim G Z B H ι ω ρ' σ' → wipe σ' is = wipe σ is → Q σ' H) → g v σ H Q
def TgsOk (X : Cx) (G : GS) (es : List Expr) (is : List Nat) : Prop := ∃ t, PGs X es t ∧ ∀ (Z B H : Hp) (ι : List (Addr × Addr)) (ω : PVL.Store) (ρ : PVL.Env) (σ : St) (vs : List V) (xs : List PV) (Q : St → Hp → Prop),
  Sim G Z B H ι ω ρ σ → RVs G Z ι vs xs → is.length = xs.length → (∀ σ', Sim G Z B H ι ω ((is.zip xs).foldl (fun ρ p => setV ρ p.1 (p.2, .fz)) ρ) σ' → (∀ js, (∀ i ∈ is, i ∈ js) → wipe σ' js = wipe σ js) → Q σ' H) → t vs σ H Q
theorem tg_name {i : Nat} {x : Str} {pos : Pos} (hN : X.N.Nodup) (hi : X.N[i]? = some x) (hx : Loc X.env.scope x) (hf : X.fn x = true ∨ X.env.scope.names.lookup x = some .local) : TgOk X G (.Name x pos) [i] := by
  refine ⟨gName i, pg_name hN hi hx hf, fun Z B H ι ω ρ σ v x ρ' Q S r e k => ?_⟩
  have e' : ρ' = setV ρ i (x, .fz) := (Option.some.inj e).symm
  subst e'
  exact k _ (S.setS' r) (wipe_set (by simp))
theorem tgs_nil : TgsOk X G [] [] := ⟨gNil, pgs_nil, fun Z B H ι ω ρ σ vs xs Q S r hl k => by
  cases xs with
  | nil => cases r; exact ⟨rfl, k σ S fun _ _ => rfl⟩
  | cons x xs => simp at hl⟩
theorem tgs_cons {i : Nat} {x : Str} {pos : Pos} {es : List Expr} {is : List Nat} (hN : X.N.Nodup) (hi : X.N[i]? = some x) (hx : Loc X.env.scope x) (hf : X.fn x = true ∨ X.env.scope.names.lookup x = some .local) (h : TgsOk X G es is)
    (hs : (assignEach (.Name x pos :: es) X.env).map (·.2) = assign (.Name x pos) X.env :: (assignEach es X.env).map (·.2)) : TgsOk X G (.Name x pos :: es) (i :: is) := by
  obtain ⟨t, h1, h2⟩ := h
  refine ⟨gCons (gName i) t, pgs_cons (pg_name hN hi hx hf) h1 hs, fun Z B H ι ω ρ σ vs xs Q S r hl k => ?_⟩
  cases xs with
  | nil => simp at hl
  | cons y xs =>
    cases r with
    | @cons v _ vs _ r rr =>
      refine ⟨v, vs, rfl, ?_⟩
      refine h2 Z B H ι ω (setV ρ i (y, .fz)) (σ.set i (some v)) vs xs Q (S.setS' r) rr (by simpa using hl) fun σ' S' w => ?_
      exact k σ' S' fun js hj => by
        rw [w js fun j hjm => hj j (List.mem_cons_of_mem _ hjm)]
        exact wipe_set (hj i (List.mem_cons_self ..))
theorem tg_tup {es : List Expr} {is : List Nat} {k : Nat} {pos : Pos} (hc : X.calm = true) (h : TgsOk X G es is) (hl : 2 ≤ is.length)
    (hn : (assignEach es X.env).length = is.length) (hst : (assignEach es X.env).findIdx? (·.1) = none) : TgOk X G (.Tuple es k pos) is := by
  obtain ⟨t, h1, h2⟩ := h
  refine ⟨gTup X.K is.length t, pg_tup hc h1 hn hst, fun Z B H ι ω ρ σ v x ρ' Q S r e kk => ?_⟩
  have e' : ∃ xs, x = .tup xs ∧ is.length = xs.length ∧ ρ' = (is.zip xs).foldl (fun ρ p => setV ρ p.1 (p.2, .fz)) ρ := by
    unfold assignT at e
    split at e
    · simp at hl
    · split at e
      · rename_i hxs
        exact ⟨_, rfl, hxs, (Option.some.inj e).symm⟩
      · cases e
    · cases e
  obtain ⟨xs, rfl, hlen, rfl⟩ := e'
  cases r with
  | @tup a vs _ hz rr =>
    refine ⟨a, vs, rfl, SqT.of (S.zH.tup hz), by rw [rr.len, hlen], ?_⟩
    exact h2 Z B H ι ω ρ σ vs xs Q S rr hlen fun σ' S' w => kk σ' S' (w is fun _ h => h)

variable (G W) in
/-- what is walked -/
def tI (safe : Bool) (it : PVL.It) : TI := fun σ H R => ∃ Z B ι ω ρ, Sim G Z B H ι ω ρ σ ∧
  RP (evI safe it ρ ω) (fun xs ω' => ∀ J H' Z' ι', Ext Z Z' (PO B ρ σ) ι ι' H H' → Sim G Z' B H' ι' ω' ρ σ → Walk G (if safe = true then PB B else PO B ρ σ) Z' ι' H' J xs → R J H') (QX G W Z B H ι ρ σ)
theorem PI.imp {tg iter : Expr} {t t' : TI} (h : PI X tg iter t) (i : ∀ σ H R, t' σ H R → t σ H R) : PI X tg iter t' := ⟨fun pins s σ H R I q => h.run pins s σ H R I (i σ H R q)⟩
theorem PI.or {tg iter : Expr} {t t' : TI} (h : PI X tg iter t) (h' : PI X tg iter t') : PI X tg iter (fun σ H R => t σ H R ∨ t' σ H R) := ⟨fun pins s σ H R I q => q.elim (h.run pins s σ H R I) (h'.run pins s σ H R I)⟩
theorem PS.or {st : Stmt} {t t' : TS} (h : PS X st t) (h' : PS X st t') : PS X st (fun D σ H => t D σ H ∨ t' D σ H) := ⟨fun pins s σ H D I q => q.elim (h.run pins s σ H D I) (h'.run pins s σ H D I)⟩
theorem PE.or {e : Expr} {t t' : TE} (h : PE X e t) (h' : PE X e t') : PE X e (fun σ H Q => t σ H Q ∨ t' σ H Q) := ⟨fun pins s σ H Q I q => q.elim (h.run pins s σ H Q I) (h'.run pins s σ H Q I)⟩
/-- for, over what is walked -/
theorem for_read {is : List Nat} {ib : Ss} {g : TG} {Z B H : Hp} {ι : List (Addr × Addr)} {ω : PVL.Store} {ρ : PVL.Env} {σ : St} {D : Ends} (S : Sim G Z B H ι ω ρ σ)
    (hg : ∀ (Z B H : Hp) (ι : List (Addr × Addr)) (ω : PVL.Store) (ρ : PVL.Env) (σ : St) (v : V) (x : PV) (ρ' : PVL.Env) (Q : St → Hp → Prop), Sim G Z B H ι ω ρ σ → RV G Z ι v x → assignT ρ is x = some ρ' → (∀ σ', Sim G Z B H ι ω ρ' σ' → wipe σ' is = wipe σ is → Q σ' H) → g v σ H Q)
    {xs : List PV} {J : L2.It} (w : Walk G (PB B) Z ι H J xs) (h : FP G W (forL (exs ib) is xs ρ ω) Z B H ι D) :
    ∃ Wv : Nat → Nat → St → Hp → Prop, (∃ m, Wv 0 m σ H) ∧ ∀ i m σ H, Wv i m σ H →
      (J.stop i H ∧ D.nx σ H) ∨ (J.go i H ∧ ∃ N : St → Hp → Prop, (∀ σ' H', N σ' H' → ∃ m', m' < m ∧ Wv (i + 1) m' σ' H') ∧ ∀ x H', J.yld i H x H' → g x σ H' fun σ2 H2 => tSs G W ib { D with nx := N, ct := N, bk := D.nx } σ2 H2) := by
  refine ⟨fun i m σ' H' => m = xs.length - i ∧ i ≤ xs.length ∧ ∃ Z' ι' ω' ρ', Ext Z Z' (PB B) ι ι' H H' ∧ Sim G Z' B H' ι' ω' ρ' σ' ∧ FP G W (forL (exs ib) is (xs.drop i) ρ' ω') Z' B H' ι' D,
    ⟨xs.length, by simp, Nat.zero_le _, Z, ι, ω, ρ, Ext.refl, S, h⟩, ?_⟩
  rintro i m σ1 H1 ⟨rfl, hi, Z1, ι1, ω1, ρ1, E1, S1, h1⟩
  obtain ⟨ws, wg⟩ := w Z1 ι1 H1 E1 S1.zH
  by_cases hlt : i < xs.length
  · obtain ⟨x, hx⟩ : ∃ x, xs[i]? = some x := ⟨xs[i], List.getElem?_eq_getElem hlt⟩
    have hd : xs.drop i = x :: xs.drop (i + 1) := by
      rw [List.drop_eq_getElem_cons hlt]
      rw [List.getElem?_eq_getElem hlt] at hx
      cases hx; rfl
    obtain ⟨w1, w2⟩ := wg i x hx
    refine .inr ⟨w1, fun σ' H' => ∃ Z' ι' ω' ρ', Ext Z Z' (PB B) ι ι' H H' ∧ Sim G Z' B H' ι' ω' ρ' σ' ∧ FP G W (forL (exs ib) is (xs.drop (i + 1)) ρ' ω') Z' B H' ι' D, fun σ' H' q => ⟨xs.length - (i + 1), by omega, rfl, hlt, q⟩, fun v H2 y => ?_⟩
    obtain ⟨Z2, E2, S2, o2, _⟩ := (w2 v H2 y).fin S1 (.inr rfl)
    have r2 : RV G Z2 ι1 v x := by
      have em : (mk x .fz).2 = .fz := by unfold mk; cases isC x <;> rfl
      have o2 : OkV G Z2 B H2 ι1 ω1 ρ1 σ1 v x (mk x .fz).2 := o2
      rw [em] at o2; exact o2
    rw [hd] at h1
    unfold forL at h1
    cases ea : assignT ρ1 is x with
    | none => rw [ea] at h1; exact h1.elim
    | some ρ2 =>
      rw [ea] at h1
      refine hg Z2 B H2 ι1 ω1 ρ1 σ1 v x ρ2 _ S2 r2 ea fun σ2 S3 _ => ?_
      refine ⟨Z2, B, ι1, ω1, ρ2, S3, ?_⟩
      have E12 := E1.trans E2.pb
      have h1 : FP G W (match exs ib ρ2 ω1 with
        | .nx ρ ω => forL (exs ib) is (xs.drop (i + 1)) ρ ω
        | .ct ρ ω => forL (exs ib) is (xs.drop (i + 1)) ρ ω
        | .bk ρ ω => .nx ρ ω
        | r => r) Z1 B H1 ι1 D := h1
      cases e : exs ib ρ2 ω1 with
      | nx ρ3 ω3 => rw [e] at h1; exact fun H3 Z3 ι3 σ3 E3 S3 => ⟨Z3, ι3, ω3, ρ3, E12.trans E3, S3, h1.on (E2.pb.trans E3)⟩
      | ct ρ3 ω3 => rw [e] at h1; exact fun H3 Z3 ι3 σ3 E3 S3 => ⟨Z3, ι3, ω3, ρ3, E12.trans E3, S3, h1.on (E2.pb.trans E3)⟩
      | bk ρ3 ω3 => rw [e] at h1; exact fun H3 Z3 ι3 σ3 E3 S3 => h1 H3 Z3 ι3 σ3 (E2.pb.trans E3) S3
      | rt r ω3 => rw [e] at h1; exact fun v H3 Z3 ι3 E3 => h1 v H3 Z3 ι3 (E2.pb.trans E3)
      | exc c ys ρ3 ω3 => rw [e] at h1; exact fun cls d H3 Z3 ι3 σ3 E3 => h1 cls d H3 Z3 ι3 σ3 (E2.pb.trans E3)
      | bad => rw [e] at h1; exact h1.elim
  · have ei : i = xs.length := by omega
    subst ei
    refine .inl ⟨ws _ (Nat.le_refl _), ?_⟩
    rw [List.drop_length] at h1
    exact h1 H1 Z1 ι1 σ1 Ext.refl S1
theorem sp_for {tg iter : Expr} {body : List Stmt} {it : PVL.It} {is : List Nat} {ib : Ss} {pos : Pos} (hp : PassesOwn (model X.prog X.w) X.A X.env X.xe) (hc : X.calm = true) (hi : PI X tg iter (tI G W true it)) (hg : TgOk X G tg is) (hb : PSs X body (tSs G W ib))
    (hs : ∀ x, foldedSetIterable iter X.env x = pure x) : PS X (.For tg iter body [] pos) (fun D σ H => ∃ Z B ι ω ρ, Sim G Z B H ι ω ρ σ ∧ FP G W ((evI true it ρ ω).to ρ fun xs ω => forL (exs ib) is xs ρ ω) Z B H ι D) := by
  obtain ⟨g, g1, g2⟩ := hg
  refine PS.imp (ps_for hp hc hi g1 hb hs) fun D σ H h => ?_
  obtain ⟨Z, B, ι, ω, ρ, S, h⟩ := h
  refine ⟨Z, B, ι, ω, ρ, S, h.to.mono (fun xs ω1 h1 J H1 Z1 ι1 E1 S1 w => ?_) fun _ _ _ q => q⟩
  exact for_read S1 g2 w (h1.on E1.pb)

/-! ### what is walked -/
theorem RV.st {Z H : Hp} {ι : List (Addr × Addr)} (s : Sub Z H) {v : V} {x : PV} (h : RV G Z ι v x) (hc : isC x = true) : ∃ a u, v = .ref a ∧ Z a ≠ none ∧ Rd H a u ∧ RO G Z ι u x := by
  cases h with
  | lst h r => exact ⟨_, _, rfl, by rcases h with h | ⟨o, h⟩ <;> rw [h] <;> simp, s.rdl h, .lst r⟩
  | dK h r => exact ⟨_, _, rfl, by rw [h]; simp, (s _ _ h).rd, .dK r⟩
  | dT h r e => exact ⟨_, _, rfl, by rw [h]; simp, (s _ _ h).rd, .dT r e⟩
  | _ => cases hc
/-- a container that stands while it is walked -/
theorem OkV.st {Z B H : Hp} {ι : List (Addr × Addr)} {ω : PVL.Store} {ρ : PVL.Env} {σ : St} (S : Sim G Z B H ι ω ρ σ) {v : V} {x : PV} {m : Md} {safe : Bool} (o : OkV G Z B H ι ω ρ σ v x m) (hm : (safe && m == .lv) = false) (hc : isC x = true) :
    ∃ Z', Ext Z Z' (PO B ρ σ) ι ι H H ∧ Sim G Z' B H ι ω ρ σ ∧ ∃ a u, v = .ref a ∧ (Z' a ≠ none ∨ (if safe = true then PB B else PO B ρ σ) a) ∧ Rd H a u ∧ RO G Z' ι u x := by
  have base : ∀ {a : Addr}, B a ≠ none → (if safe = true then PB B else PO B ρ σ) a := fun h => by
    cases safe
    · exact .inl h
    · exact h
  cases m with
  | own =>
    obtain ⟨Z', E, S', _, r⟩ := o.settle S
    obtain ⟨a, u, e, h1, h2, h3⟩ := (r (.inl rfl)).st S'.zH hc
    exact ⟨Z', E, S', a, u, e, .inl h1, h2, h3⟩
  | fz =>
    obtain ⟨a, u, e, h1, h2, h3⟩ := RV.st S.zH o hc
    exact ⟨Z, Ext.refl, S, a, u, e, .inl h1, h2, h3⟩
  | br =>
    rcases o with h | ⟨a, u, rfl, h2, h3⟩
    · obtain ⟨a, u, e, h1, h2, h3⟩ := RV.st S.zH h hc
      exact ⟨Z, Ext.refl, S, a, u, e, .inl h1, h2, h3⟩
    · exact ⟨Z, Ext.refl, S, a, u, rfl, .inr (base (by rw [h2]; simp)), (S.bH a u h2).rd, h3⟩
  | lv =>
    cases safe with
    | true => cases hm
    | false =>
      obtain ⟨i, a, h1, h2, rfl⟩ := o
      obtain ⟨v, e1, b, u, rfl, e3, e4⟩ := S.sl i x .own h1
      rw [h2] at e1; cases e1
      exact ⟨Z, Ext.refl, S, a, u, rfl, .inr (.inr ⟨i, x, h1, h2⟩), .inl e3, e4⟩
end PVS

set_option maxHeartbeats 1000000
/-! PVS: what is walked, form by form; dicts. -/
namespace PVS
open PySem L2 TL PVL
variable {X : Cx} {G : GS} {W : WX}
theorem FP.uncalm {f : PVL.F} {b : Bool} {Z B H : Hp} {ι : List (Addr × Addr)} {D : Ends} (h : FP G W (f.calm b) Z B H ι D) : FP G W f Z B H ι D ∧ (b = true → ∀ c xs ρ ω, f ≠ .exc c xs ρ ω) := by
  cases f with
  | exc c xs ρ ω =>
    cases b with
    | true => exact h.elim
    | false => exact ⟨h, fun z => by cases z⟩
  | _ => exact ⟨h, fun _ _ _ _ _ z => by cases z⟩
theorem sp_forN {tg iter : Expr} {body : List Stmt} {it : PVL.It} {is : List Nat} {ib : Ss} {pos : Pos} (hp : PassesOwn (model X.prog X.w) X.A X.env X.xe) (hc : X.calm = true) (hi : PI X tg iter (tI G W true it)) (hg : TgOk X G tg is) (hb : PSs X body (tSs G W ib))
    (hs : ∀ x, foldedSetIterable iter X.env x = pure x) : PS X (.For tg iter body [] pos) (tS G W (.for_ is it ib)) := by
  refine PS.imp (sp_for hp hc hi hg hb hs) fun D σ H h => ?_
  obtain ⟨Z, B, ι, ω, ρ, S, h⟩ := h
  unfold ex at h
  exact ⟨Z, B, ι, ω, ρ, S, h.uncalm.1⟩
theorem si_val {tg e : Expr} {ie : E} {safe : Bool} (he : PE X e (tE G W ie)) : PI X tg e (fun σ H R => ∃ Z B ι ω ρ, Sim G Z B H ι ω ρ σ ∧ (∀ x m ω', ev ie ρ ω = .ok (x, m) ω' → ∀ kvs, x ≠ .dic kvs) ∧
    RP (evI safe (.val ie) ρ ω) (fun xs ω' => ∀ J H' Z' ι', Ext Z Z' (PO B ρ σ) ι ι' H H' → Sim G Z' B H' ι' ω' ρ σ → Walk G (if safe = true then PB B else PO B ρ σ) Z' ι' H' J xs → R J H') (QX G W Z B H ι ρ σ)) := by
  refine PI.imp (PI.or (pi_list he) (PI.or (pi_tup he) (pi_str he))) fun σ H R h => ?_
  obtain ⟨Z, B, ι, ω, ρ, S, nd, h⟩ := h
  unfold evI at h
  have h := h.bind
  cases er : ev ie ρ ω with
  | bad => rw [er] at h; exact h.elim
  | exc c xs ω' =>
    rw [er] at h
    exact .inl ⟨Z, B, ι, ω, ρ, S, by rw [er]; exact h⟩
  | ok r ω1 =>
    obtain ⟨x, m⟩ := r
    rw [er] at h
    have h0 : RP (if (safe && m == .lv || isD x && !(safe && isVar ie)) = true then PVL.R.bad else match itemsOf x with | some xs => PVL.R.ok xs ω1 | none => .bad) _ _ := h
    clear h
    split at h0
    · exact h0.elim
    · rename_i hm
      have hm2 : (safe && m == .lv) = false := by
        cases q : (safe && m == .lv) with
        | false => rfl
        | true => rw [q] at hm; simp at hm
      have h := h0
      clear h0
      cases x <;> try exact h.elim
      · rename_i s
        refine .inr (.inr ⟨Z, B, ι, ω, ρ, S, ?_⟩)
        rw [er]
        intro v H1 Z1 ι1 E1 S1 o1 _
        obtain ⟨Z2, E2, S2, l2, _⟩ := o1.settle S1
        obtain ⟨rfl, hs⟩ := (l2.rh S2).str
        exact ⟨_, rfl, h _ H1 Z1 ι1 E1 S1 (walk_str hs)⟩
      · rename_i xs
        refine .inr (.inl ⟨Z, B, ι, ω, ρ, S, ?_⟩)
        rw [er]
        intro v H1 Z1 ι1 E1 S1 o1 _
        obtain ⟨Z2, E2, S2, l2, _⟩ := o1.settle S1
        obtain ⟨a, vs, rfl, hz, r⟩ : ∃ a vs, v = .ref a ∧ Z2 a = some (.tup vs) ∧ RVs G Z2 ι1 vs xs := by
          have := Lv.rv S2 l2 rfl
          cases this with
          | tup hz r => exact ⟨_, _, rfl, hz, r⟩
        exact ⟨a, rfl, ⟨vs, SqT.of (S2.zH.tup hz)⟩, h _ H1 Z2 ι1 (E1.trans E2) S2 (walk_tup hz r)⟩
      · rename_i xs
        refine .inl ⟨Z, B, ι, ω, ρ, S, ?_⟩
        rw [er]
        intro v H1 Z1 ι1 E1 S1 o1 _
        obtain ⟨Z2, E2, S2, a, u, rfl, st, hr, ro⟩ := o1.st S1 hm2 rfl
        cases ro with
        | lst r => exact ⟨a, rfl, ⟨_, .inl hr⟩, h _ H1 Z2 ι1 (E1.trans E2) S2 (walk_list st hr r)⟩
      · rename_i kvs
        exact absurd rfl (nd _ _ _ er kvs)
/-- over a value that is no name's -/
theorem si_valE {tg e : Expr} {ie : E} {safe : Bool} (he : PE X e (tE G W ie)) (hv : isVar ie = false) : PI X tg e (tI G W safe (.val ie)) := by
  refine PI.imp (si_val (safe := safe) he) fun σ H R h => ?_
  obtain ⟨Z, B, ι, ω, ρ, S, h⟩ := h
  refine ⟨Z, B, ι, ω, ρ, S, fun x m ω' q kvs z => ?_, h⟩
  subst z
  unfold evI at h
  rw [q] at h
  have h : RP (if (safe && m == .lv || isD (.dic kvs) && !(safe && isVar ie)) = true then PVL.R.bad else _) _ _ := h
  rw [hv, if_pos (by simp [isD])] at h
  exact h
theorem si_valV {tg e : Expr} {ie : E} (he : PE X e (tE G W ie)) : PI X tg e (tI G W false (.val ie)) := by
  refine PI.imp (si_val (safe := false) he) fun σ H R h => ?_
  obtain ⟨Z, B, ι, ω, ρ, S, h⟩ := h
  refine ⟨Z, B, ι, ω, ρ, S, fun x m ω' q kvs z => ?_, h⟩
  subst z
  unfold evI at h
  rw [q] at h
  have h : RP (if (false && m == .lv || isD (.dic kvs) && !(false && isVar ie)) = true then PVL.R.bad else match itemsOf (.dic kvs) with | some xs => PVL.R.ok xs ω' | none => .bad) _ _ := h
  rw [if_pos (by simp [isD])] at h
  exact h
theorem small_of {i : Int} (h : small i = true) : -(2 ^ 62) ≤ i ∧ i < 2 ^ 62 := by unfold small at h; simpa using h
theorem si_rng1 {tg a : Expr} {ia : E} {p pos : Pos} {safe : Bool} (hg : Gl X "range") (hm : X.mg "range" = none) (ha : PE X a (tE G W ia)) (hs : starEach [a] X.env = [(false, eval a X.env)]) : PI X tg (.Call (.Name "range" p) [a] [] pos) (tI G W safe (.rng1 ia)) := by
  refine PI.imp (pi_range1 hg hm (pa_cons ha pa_nil hs) hs) fun σ H R h => ?_
  obtain ⟨Z, B, ι, ω, ρ, S, h⟩ := h
  unfold evI at h
  refine tE.next S h.bind fun x ω1 h1 v H1 Z1 ι1 E1 S1 l1 r1 p1 => ?_
  obtain ⟨y, m⟩ := x
  cases y <;> try exact h1.elim
  rename_i j
  have h1 : RP (if small j = true then PVL.R.ok (PVL.upTo 0 j.toNat) ω1 else .bad) _ _ := h1
  split at h1
  · rename_i hj
    rw [(l1.rh S1).int]
    exact ⟨j, rfl, (small_of hj).1, (small_of hj).2, h1 _ H1 Z1 ι1 E1 S1 walk_range⟩
  · exact h1.elim
theorem si_rng2 {tg a b : Expr} {ia ib : E} {p pos : Pos} {safe : Bool} (hg : Gl X "range") (hm : X.mg "range" = none) (ha : PE X a (tE G W ia)) (hb : PE X b (tE G W ib)) (hs : starEach [a, b] X.env = [(false, eval a X.env), (false, eval b X.env)]) (hs2 : starEach [b] X.env = [(false, eval b X.env)]) : PI X tg (.Call (.Name "range" p) [a, b] [] pos) (tI G W safe (.rng2 ia ib)) := by
  refine PI.imp (pi_range2 hg hm (pa_cons ha (pa_cons hb pa_nil hs2) (by rw [hs, hs2])) hs hs2) fun σ H R h => ?_
  obtain ⟨Z, B, ι, ω, ρ, S, h⟩ := h
  unfold evI at h
  refine tE.next S h.bind fun x ω1 h1 v H1 Z1 ι1 E1 S1 l1 r1 p1 => ?_
  refine tE.next S1 (h1.bind.mono (fun _ _ q => q) fun _ _ _ q => q.on E1) fun y ω2 h2 u H2 Z2 ι2 E2 S2 l2 r2 p2 => ?_
  obtain ⟨x, m⟩ := x
  obtain ⟨y, m2⟩ := y
  cases x <;> try exact h2.elim
  cases y <;> try exact h2.elim
  rename_i i j
  have h2 : RP (if (small i && small j) = true then PVL.R.ok (PVL.upTo i (j - i).toNat) ω2 else .bad) _ _ := h2
  split at h2
  · rename_i hj
    rw [Bool.and_eq_true] at hj
    rw [(l1.rh S1).int, (l2.rh S2).int]
    exact ⟨i, j, rfl, ⟨(small_of hj.1).1, (small_of hj.1).2, (small_of hj.2).1, (small_of hj.2).2⟩, h2 _ H2 Z2 ι2 (E1.trans E2) S2 walk_range⟩
  · exact h2.elim
theorem si_rngD {tg a b c : Expr} {ia ib : E} {p pos : Pos} {safe : Bool} (hg : Gl X "range") (hm : X.mg "range" = none) (ha : PE X a (tE G W ia)) (hb : PE X b (tE G W ib)) (hc : PE X c (tE G W (.neg (.con (.int 1))))) (hs : starEach [a, b, c] X.env = (false, eval a X.env) :: starEach [b, c] X.env) (hs2 : starEach [b, c] X.env = (false, eval b X.env) :: starEach [c] X.env) (hs3 : starEach [c] X.env = (false, eval c X.env) :: starEach [] X.env)
    (hpl : (backTo pos (starEach [b, c] X.env)).any (·.1) = false) : PI X tg (.Call (.Name "range" p) [a, b, c] [] pos) (tI G W safe (.rngD ia ib)) := by
  refine PI.imp (pi_range3 hg hm (pa_cons ha (pa_cons hb (pa_cons hc pa_nil hs3) hs2) hs) hs hpl) fun σ H R h => ?_
  obtain ⟨Z, B, ι, ω, ρ, S, h⟩ := h
  unfold evI at h
  refine tE.next S h.bind fun x ω1 h1 v H1 Z1 ι1 E1 S1 l1 r1 p1 => ?_
  refine tE.next S1 (h1.bind.mono (fun _ _ q => q) fun _ _ _ q => q.on E1) fun y ω2 h2 u H2 Z2 ι2 E2 S2 l2 r2 p2 => ?_
  refine tE.next (k := fun r ω' => r = (.int (-1), .fz) ∧ ω' = ω2) S2 (by unfold ev ev; exact ⟨rfl, rfl⟩) fun z ω3 h3 w H3 Z3 ι3 E3 S3 l3 r3 p3 => ?_
  obtain ⟨rfl, rfl⟩ := h3
  obtain ⟨x, m⟩ := x
  obtain ⟨y, m2⟩ := y
  cases x <;> try exact h2.elim
  cases y <;> try exact h2.elim
  rename_i i j
  have h2 : RP (if (small i && small j) = true then PVL.R.ok (downTo i (i - j).toNat) ω3 else .bad) _ _ := h2
  split at h2
  · rename_i hj
    rw [Bool.and_eq_true] at hj
    rw [(l1.rh S1).int, (l2.rh S2).int, (l3.rh S3).int]
    exact ⟨i, j, -1, (i - j).toNat, rfl, RgC.neg (small_of hj.1).1 (small_of hj.1).2 (small_of hj.2).1 (small_of hj.2).2, h2 _ H3 Z3 ι3 ((E1.trans E2).trans E3) S3 walk_down⟩
  · exact h2.elim
theorem si_enum {e : Expr} {ie : E} {p pos tpos : Pos} {elts : List Expr} {kk : Nat} {safe : Bool} (hg : Gl X "enumerate") (hm : X.mg "enumerate" = none) (he : PE X e (tE G W ie)) (hs : starEach [e] X.env = [(false, eval e X.env)]) : PI X (.Tuple elts kk tpos) (.Call (.Name "enumerate" p) [e] [] pos) (tI G W safe (.enum ie)) := by
  refine PI.imp (pi_enum hg hm (pa_cons he pa_nil hs) hs) fun σ H R h => ?_
  obtain ⟨Z, B, ι, ω, ρ, S, h⟩ := h
  unfold evI at h
  refine ⟨Z, B, ι, ω, ρ, S, h.bind.mono (fun x ω1 h1 v H1 Z1 ι1 E1 S1 o1 p1 => ?_) fun _ _ _ q => q⟩
  obtain ⟨x, m⟩ := x
  have h1 : RP (if (safe && m == .lv) = true then PVL.R.bad else match x with | .lst xs => PVL.R.ok (xs.zipIdx.map fun p => PV.tup [.int (p.2 : Nat), p.1]) ω1 | _ => .bad) _ _ := h1
  split at h1
  · exact h1.elim
  · rename_i hm
    cases x <;> try exact h1.elim
    obtain ⟨Z2, E2, S2, a, u, rfl, st, hr, ro⟩ := o1.st S1 (by simpa using hm) rfl
    cases ro with
    | lst r => exact ⟨a, _, rfl, .inl hr, h1 _ H1 Z2 ι1 (E1.trans E2) S2 (walk_enum st hr r)⟩
theorem si_rev {tg e : Expr} {ie : E} {p pos : Pos} {safe : Bool} (hg : Gl X "reversed") (hm : X.mg "reversed" = none) (he : PE X e (tE G W ie)) (hs : starEach [e] X.env = [(false, eval e X.env)]) : PI X tg (.Call (.Name "reversed" p) [e] [] pos) (tI G W safe (.rev ie)) := by
  refine PI.imp (pi_reversed hg hm (pa_cons he pa_nil hs) hs) fun σ H R h => ?_
  obtain ⟨Z, B, ι, ω, ρ, S, h⟩ := h
  unfold evI at h
  refine ⟨Z, B, ι, ω, ρ, S, h.bind.mono (fun x ω1 h1 v H1 Z1 ι1 E1 S1 o1 p1 => ?_) fun _ _ _ q => q⟩
  obtain ⟨x, m⟩ := x
  have h1 : RP (if (safe && m == .lv) = true then PVL.R.bad else match x with | .lst xs => PVL.R.ok xs.reverse ω1 | _ => .bad) _ _ := h1
  split at h1
  · exact h1.elim
  · rename_i hm
    cases x <;> try exact h1.elim
    obtain ⟨Z2, E2, S2, a, u, rfl, st, hr, ro⟩ := o1.st S1 (by simpa using hm) rfl
    cases ro with
    | lst r => exact ⟨a, _, rfl, .inl hr, h1 _ H1 Z2 ι1 (E1.trans E2) S2 (walk_rev st hr r)⟩
/-! ### dicts -/
/-- what is seen of the heap is as it was -/
theorem Sim.swap {Z B H H' : Hp} {ι : List (Addr × Addr)} {ω : PVL.Store} {ρ : PVL.Env} {σ : St} (S : Sim G Z B H ι ω ρ σ) (zH : Sub Z H') (bH : Sub B H') (tb : TB G.tabs Z B H') (e : ∀ k a, owA G H ι ω ρ σ k a → H' a = H a) : Sim G Z B H' ι ω ρ σ := by
  have oc : ∀ {k a}, owA G H' ι ω ρ σ k a ↔ owA G H ι ω ρ σ k a := owA_congr fun n b dx h => e (.ins n) b ⟨dx, h⟩
  refine ⟨zH, bH, S.iL, fun n r en => ?_, fun i x m h => ?_, S.len, fun k k' a h h' => S.inj k k' a (oc.mp h) (oc.mp h'), fun k a h => S.zno k a (oc.mp h), S.zb, tb⟩
  · obtain ⟨b, dx, fs, h1, h2, h3, h4⟩ := S.ob n r en
    refine ⟨b, dx, fs, h1, by rw [e (.ins n) b ⟨dx, h1⟩]; exact h2, by rw [e (.dct n) dx ⟨b, h1⟩]; exact h3, h4.imp (Same.refl _) (List.prefix_refl _) fun j f x nm a o q1 q2 q3 q4 => ?_⟩
    rw [e (.fld n j) a ⟨b, dx, _, fs, nm, r, f, x, h1, h2, q2, en, q1, q3⟩]
    exact q4
  · obtain ⟨v, h1, h2⟩ := S.sl i x m h
    refine ⟨v, h1, ?_⟩
    cases m with
    | own =>
      obtain ⟨a, o, rfl, h3, h4⟩ := h2
      exact ⟨a, o, rfl, by rw [e (.slot i) a ⟨⟨x, h⟩, h1⟩]; exact h3, h4⟩
    | fz => exact h2
    | br => exact h2
    | lv => exact h2
theorem Sub.lock {Z H : Hp} (s : Sub Z H) {d : Addr} {u : HO} {od : Obj} (hd : H d = some u) (mu : MutC u) : Sub Z (upd H d (.frz od u)) := fun a w e => by
  by_cases ha : a = d
  · subst ha
    rcases s a w e with q | ⟨_, o, q⟩
    · rw [hd] at q; cases q
      exact .inr ⟨mu, od, upd_same⟩
    · rw [hd] at q; cases q; exact mu.elim
  · rcases s a w e with q | ⟨m, o, q⟩
    · exact .inl (by rw [upd_ne ha]; exact q)
    · exact .inr ⟨m, o, by rw [upd_ne ha]; exact q⟩
theorem Sub.unlock {Z H : Hp} (s : Sub Z H) {d : Addr} {u : HO} {od : Obj} (hd : H d = some (.frz od u)) (hz : ∀ w, Z d = some w → w = u) : Sub Z (upd H d u) := fun a w e => by
  by_cases ha : a = d
  · subst ha
    rw [hz w e]
    exact .inl upd_same
  · rcases s a w e with q | ⟨m, o, q⟩
    · exact .inl (by rw [upd_ne ha]; exact q)
    · exact .inr ⟨m, o, by rw [upd_ne ha]; exact q⟩
/-- the statement within the lock -/
theorem FP.lock {Z B H : Hp} {ι : List (Addr × Addr)} {ω : PVL.Store} {ρ : PVL.Env} {σ : St} (S : Sim G Z B H ι ω ρ σ) {d : Addr} {u : HO} {od : Obj} {D : Ends} (hd : H d = some u) (mu : MutC u) (st : Z d ≠ none ∨ PB B d) {f : PVL.F} (hx : ∀ c xs ρ ω, f ≠ .exc c xs ρ ω) (h : FP G W f Z B H ι D) :
    FP G W f Z B (upd H d (.frz od u)) ι ⟨fun σ' H' => H' d = some (.frz od u) ∧ D.nx σ' (upd H' d u), fun v H' => H' d = some (.frz od u) ∧ D.rt v (upd H' d u), fun σ' H' => H' d = some (.frz od u) ∧ D.bk σ' (upd H' d u), fun σ' H' => H' d = some (.frz od u) ∧ D.ct σ' (upd H' d u)⟩ := by
  have z1 : ∀ w, Z d = some w → w = u := fun w e => by
    rcases S.zH d w e with q | ⟨_, o, q⟩
    · rw [hd] at q; cases q; rfl
    · rw [hd] at q; cases q; exact mu.elim
  have b1 : ∀ w, B d = some w → w = u := fun w e => by
    rcases S.bH d w e with q | ⟨_, o, q⟩
    · rw [hd] at q; cases q; rfl
    · rw [hd] at q; cases q; exact mu.elim
  -- what is known behind
  have beh : ∀ {H' Z' : Hp} {ι' : List (Addr × Addr)} {ω' : PVL.Store} {ρ' : PVL.Env} {σ' : St}, Ext Z Z' (PB B) ι ι' (upd H d (.frz od u)) H' → Sim G Z' B H' ι' ω' ρ' σ' →
      H' d = some (.frz od u) ∧ Ext Z Z' (PB B) ι ι' H (upd H' d u) ∧ Sim G Z' B (upd H' d u) ι' ω' ρ' σ' := fun {H' Z' ι' ω' ρ' σ'} E S' => by
    have hd' : H' d = some (.frz od u) := by rw [E.k d st]; exact upd_same
    have z2 : ∀ w, Z' d = some w → w = u := fun w e => by
      rcases st with q | q
      · cases e2 : Z d with
        | none => exact absurd e2 q
        | some w2 =>
          have := E.z d w2 e2
          rw [e] at this; cases this
          exact z1 _ e2
      · cases e2 : B d with
        | none => exact absurd e2 q
        | some w2 =>
          have := S'.zb d w2 e2
          rw [e] at this; cases this
    have own : ∀ k a, owA G H' ι' ω' ρ' σ' k a → upd H' d u a = H' a := fun k a q => upd_ne fun z => by
      subst z
      obtain ⟨n1, n2⟩ := S'.zno k a q
      rcases st with q | q
      · cases e2 : Z a with
        | none => exact absurd e2 q
        | some w2 => rw [E.z a w2 e2] at n1; cases n1
      · exact q n2
    refine ⟨hd', ⟨E.z, E.i, fun a ha => ?_⟩, S'.swap (Sub.unlock S'.zH hd' z2) (Sub.unlock S'.bH hd' b1) (tabs_upd S'.tb ⟨_, hd', pl_frz⟩) own⟩
    by_cases e : a = d
    · subst e; rw [upd_same, hd]
    · rw [upd_ne e, E.k a ha, upd_ne e]
  cases f with
  | nx ρ' ω' => exact fun H' Z' ι' σ' E S' => let ⟨q1, q2, q3⟩ := beh E S'; ⟨q1, h _ Z' ι' σ' q2 q3⟩
  | bk ρ' ω' => exact fun H' Z' ι' σ' E S' => let ⟨q1, q2, q3⟩ := beh E S'; ⟨q1, h _ Z' ι' σ' q2 q3⟩
  | ct ρ' ω' => exact fun H' Z' ι' σ' E S' => let ⟨q1, q2, q3⟩ := beh E S'; ⟨q1, h _ Z' ι' σ' q2 q3⟩
  | rt r ω' =>
    intro v H' Z' ι' E S' o
    obtain ⟨q1, q2, q3⟩ := beh E S'
    refine ⟨q1, h v _ Z' ι' q2 q3 ?_⟩
    obtain ⟨x, m⟩ := r
    cases m with
    | own =>
      obtain ⟨a, w, rfl, h1, h2, h3, h4, h5⟩ := o
      have ha : a ≠ d := fun z => by
        subst z
        rcases st with q | q
        · cases e2 : Z a with
          | none => exact absurd e2 q
          | some w2 => rw [E.z a w2 e2] at h3; cases h3
        · exact q h4
      refine ⟨a, w, rfl, by rw [upd_ne ha]; exact h1, h2, h3, h4, fun k q => h5 k ?_⟩
      exact (owA_congr fun n b dx e => by
        have hb : b ≠ d := fun z => by
          subst z
          obtain ⟨n1, n2⟩ := S'.zno (.ins n) b ⟨dx, e⟩
          rcases st with q | q
          · cases e2 : Z b with
            | none => exact absurd e2 q
            | some w2 => rw [E.z b w2 e2] at n1; cases n1
          · exact q n2
        exact upd_ne hb).mp q
    | fz => exact o
    | br => exact o
    | lv => exact o
  | exc c xs ρ' ω' => exact absurd rfl (hx c xs ρ' ω')
  | bad => exact h
theorem Sim.lock {Z B H : Hp} {ι : List (Addr × Addr)} {ω : PVL.Store} {ρ : PVL.Env} {σ : St} (S : Sim G Z B H ι ω ρ σ) {d : Addr} {u : HO} {od : Obj} (hd : H d = some u) (mu : MutC u) (pl : plainO u) (st : Z d ≠ none ∨ PB B d) : Sim G Z B (upd H d (.frz od u)) ι ω ρ σ :=
  S.swap (Sub.lock S.zH hd mu) (Sub.lock S.bH hd mu) (tabs_upd S.tb ⟨_, hd, pl⟩) fun k a q => upd_ne fun z => by
    subst z
    obtain ⟨n1, n2⟩ := S.zno k a q
    rcases st with q | q
    · exact q n1
    · exact q n2
/-- a dict's walk: over its keys, its values, its pairs -/
structure DWalk (G : GS) (J : Addr → Obj → List (Key × V) → L2.It) (f : List (PV × PV) → List PV) : Prop where
  run : ∀ {P : Addr → Prop} {Z H : Hp} {ι : List (Addr × Addr)} {a : Addr} {o : Obj} {kvs : List (Key × V)} {ps : List (PV × PV)}, (Z a ≠ none ∨ P a) → H a = some (.frz o (.dK kvs)) → RK G Z ι kvs ps → Walk G P Z ι H (J a o kvs) (f ps)
/-- for over a name's dict -/
theorem dict_for {tg iter : Expr} {body : List Stmt} {is : List Nat} {ib : Ss} {pos : Pos} {wi : TI} {J : Addr → Obj → List (Key × V) → L2.It} {f : List (PV × PV) → List PV} {i : Nat} (hp : PassesOwn (model X.prog X.w) X.A X.env X.xe) (hc : X.calm = true) (hi : PI X tg iter wi)
    (hw : ∀ (σ : St) (H : Hp) (R : L2.It → Hp → Prop) (a : Addr) (o : Obj) (kvs : List (Key × V)), σ[i]? = some (some (.ref a)) → H a = some (.frz o (.dK kvs)) → R (J a o kvs) H → wi σ H R) (dw : DWalk G J f) (hg : TgOk X G tg is) (hb : PSs X body (tSs G W ib))
    (hs : ∀ x, foldedSetIterable iter X.env x = pure x) : PS X (.For tg iter body [] pos) (fun D σ H => ∃ Z B ι ω ρ kvs m, Sim G Z B H ι ω ρ σ ∧ getV ρ i = some (.dic kvs, m) ∧ m ≠ .own ∧ kvs.all (fun p => flatKey p.1) = true ∧
      FP G W (forL (exs ib) is (f kvs) ρ ω) Z B H ι D ∧ ∀ c xs ρ' ω', forL (exs ib) is (f kvs) ρ ω ≠ .exc c xs ρ' ω') := by
  obtain ⟨g, g1, g2⟩ := hg
  refine PS.imp (PS.or (ps_lock (ps_for hp hc hi g1 hb hs)) (ps_for hp hc hi g1 hb hs)) fun D σ H h => ?_
  obtain ⟨Z, B, ι, ω, ρ, kvs, m, S, e, hm, hf, h, hx⟩ := h
  obtain ⟨v, e1, e2⟩ := S.sl i _ m (getV_some.mp e)
  have ok : OkV G Z B H ι ω ρ σ v (.dic kvs) m := by
    cases m with
    | own => exact absurd rfl hm
    | fz => exact e2
    | br => exact e2
    | lv => exact e2.elim
  have hlv : (true && m == .lv) = false := by
    cases m <;> first | rfl | exact e2.elim
  obtain ⟨Z2, E2, S2, a, u, rfl, st, hr, ro⟩ := ok.st S hlv rfl
  have st : Z2 a ≠ none ∨ PB B a := st
  have h := h.on E2.pb
  cases ro with
  | @dK ks _ r =>
    rcases hr with hr | ⟨o, hr⟩
    · refine .inl ⟨a, _, hr, trivial, fun od => ?_⟩
      have S3 := S2.lock (od := od) hr trivial pl_dK st
      refine hw σ _ _ a od ks e1 upd_same ?_
      exact for_read S3 g2 (dw.run st upd_same r) (FP.lock S2 hr trivial st hx h)
    · refine .inr (hw σ _ _ a o ks e1 hr ?_)
      exact for_read S2 g2 (dw.run st hr r) h
  | @dT ks _ r ne =>
    exfalso
    have := r.tups
    cases r with
    | nil => exact ne rfl
    | cons r hk t =>
      simp [flatKey] at hf
theorem sp_forV {tg : Expr} {x : Str} {body : List Stmt} {is : List Nat} {ib : Ss} {p pos : Pos} {i : Nat} (hp : PassesOwn (model X.prog X.w) X.A X.env X.xe) (hc : X.calm = true) (hN : X.N[i]? = some x) (hv : Vis X.env.scope x) (hd : (x == ("__debug__" : Str)) = false) (hcd : (x == ("__classdict__" : Str)) = false)
    (hg : TgOk X G tg is) (hb : PSs X body (tSs G W ib)) : PS X (.For tg (.Name x p) body [] pos) (tS G W (.for_ is (.val (.var i)) ib)) := by
  have nd : DWalk G Itk (fun ps => ps.map (·.1)) := ⟨fun h1 h2 h3 => walk_keys h1 h2 h3⟩
  have P1 := dict_for (W := W) (i := i) hp hc (pi_keys (tg := tg) (pe_var (pos := p) hN hv hd hcd)) (fun σ H R a o kvs h1 h2 h3 => ⟨.ref a, h1, a, o, rfl, .inl ⟨kvs, h2, h3⟩⟩) nd hg hb (pos := pos) (fun _ => rfl)
  obtain ⟨g, g1, g2⟩ := hg
  have P2 := ps_for (pos := pos) hp hc (si_val (tg := tg) (safe := true) (se_var (G := G) (W := W) (pos := p) hN hv hd hcd)) g1 hb (fun _ => rfl)
  refine PS.imp (PS.or P1 P2) fun D σ H h => ?_
  obtain ⟨Z, B, ι, ω, ρ, S, h⟩ := h
  unfold ex at h
  obtain ⟨h, hx⟩ := h.uncalm
  have ee : ∀ v, getV ρ i = some v → ev (.var i) ρ ω = .ok (v.1, if v.2 = .own then .lv else v.2) ω := fun v e => by unfold ev; rw [e]
  cases e : getV ρ i with
  | none =>
    have : evI true (.val (.var i)) ρ ω = .bad := by unfold evI ev; rw [e]; rfl
    rw [this] at h; exact h.elim
  | some r =>
    obtain ⟨y, m⟩ := r
    by_cases hdic : ∃ kvs, y = .dic kvs
    · obtain ⟨kvs, rfl⟩ := hdic
      have hl : lockI (.val (.var i)) ρ = true := by show (match getV ρ i with | some (.dic _, _) => true | _ => false) = true; rw [e]
      have hx := hx hl
      have he : evI true (.val (.var i)) ρ ω = if (true && (if m = .own then Md.lv else m) == .lv || isD (.dic kvs) && !(true && isVar (.var i))) = true then .bad else match itemsOf (.dic kvs) with | some xs => .ok xs ω | none => .bad := by
        unfold evI; rw [ee _ e]; rfl
      rw [he] at h hx
      by_cases hm : m = .own
      · subst hm; exact h.elim
      · rw [if_neg hm] at h hx
        have hlv : m ≠ .lv := fun z => by
          subst z
          exact h.elim
        have hlv' : (true && m == .lv || isD (.dic kvs) && !(true && isVar (.var i))) = false := by cases m <;> first | rfl | exact absurd rfl hlv
        rw [hlv', if_neg Bool.false_ne_true] at h hx
        by_cases hf : kvs.all (fun p => flatKey p.1) = true
        · have e2 : itemsOf (.dic kvs) = some (kvs.map (·.1)) := if_pos hf
          rw [e2] at h hx
          exact .inl ⟨Z, B, ι, ω, ρ, kvs, m, S, e, hm, hf, h, hx⟩
        · have e2 : itemsOf (.dic kvs) = none := if_neg hf
          rw [e2] at h
          exact h.elim
    · refine .inr ⟨Z, B, ι, ω, ρ, S, fun x m2 ω' q kvs z => ?_, h.to.mono (fun xs ω1 h1 J H1 Z1 ι1 E1 S1 w => ?_) fun _ _ _ q => q⟩
      · rw [ee _ e] at q
        cases q
        exact hdic ⟨kvs, z⟩
      · exact for_read S1 g2 w (h1.on E1.pb)
end PVS

set_option maxHeartbeats 1000000
/-! PVS: slices, built-ins, isinstance. -/
namespace PVS
open PySem L2 TL PVL
section
variable {X : Cx} {G : GS} {W : WX}
variable (G W) in
/-- a slice's end -/
def tP (lo : E) : TO := fun σ H Q => ∃ Z B ι ω ρ, Sim G Z B H ι ω ρ σ ∧
  RP (ev lo ρ ω) (fun r ω' => ∃ o, optI r.1 = some o ∧ ∀ H' Z' ι', Ext Z Z' (PO B ρ σ) ι ι' H H' → Sim G Z' B H' ι' ω' ρ σ → Q o H') (QX G W Z B H ι ρ σ)
theorem spo_none : L2.PO X none (tP G W (.con .non)) := by
  refine ⟨fun pins s σ H Q I h => po_none.run pins s σ H Q I ?_⟩
  obtain ⟨Z, B, ι, ω, ρ, S, h⟩ := h
  unfold ev at h
  obtain ⟨o, e, h⟩ := (show ∃ o, optI .non = some o ∧ _ from h)
  cases e
  exact h H Z ι Ext.refl S
theorem spo_some {e : Expr} {ie : E} (he : PE X e (tE G W ie)) : L2.PO X (some e) (tP G W ie) := by
  refine ⟨fun pins s σ H Q I h => ?_⟩
  obtain ⟨Z, B, ι, ω, ρ, S, h⟩ := h
  rw [evalPart_some]
  refine thn (he.run pins s σ H (fun x H1 => ∃ o, (match x with | .non => o = none | .int i => o = some i | _ => False) ∧ Q o H1) I ?_) fun u s1 ⟨x, H1, I1, r1, o, e1, q1⟩ => ?_
  · refine ⟨Z, B, ι, ω, ρ, S, h.mono (fun r ω1 h1 v H1 Z1 ι1 E1 S1 o1 p1 => ?_) fun _ _ _ q => q⟩
    obtain ⟨o, e, k⟩ := h1
    obtain ⟨Z2, E2, S2, l2, r2⟩ := o1.settle S1
    obtain ⟨x, m⟩ := r
    refine ⟨o, ?_, k H1 Z2 ι1 (E1.trans E2) S2⟩
    cases x <;> simp only [optI, reduceCtorEq, Option.some.injEq] at e
    · subst e; rw [(l2.rh S2).non]
    · subst e; rw [(l2.rh S2).int]
  · cases x with
    | non =>
      subst e1
      cases u <;> first | exact ⟨none, H1, I1, .none, q1⟩ | cases r1
    | int i =>
      subst e1
      obtain ⟨t, rfl⟩ := r1
      exact ⟨some i, H1, I1, .int i t, q1⟩
    | _ => exact e1.elim
theorem se_slc {e : Expr} {lo hi : Option Expr} {ie il ih : E} {p2 pos : Pos} (hK : G.K = X.K) (he : PE X e (tE G W ie)) (hl : L2.PO X lo (tP G W il)) (hh : L2.PO X hi (tP G W ih)) : PE X (.Subscript e (.Slice lo hi none p2) pos) (tE G W (.slc ie il ih)) := by
  refine PE.imp (pe_slice (sl_all (G := G) hK.symm) he hl hh) fun σ H Q h => ?_
  obtain ⟨Z, B, ι, ω, ρ, S, h⟩ := h
  unfold ev at h
  refine tE.next S h.bind fun x ω1 h1 v H1 Z1 ι1 E1 S1 l1 _ p1 => ?_
  refine ⟨Z1, B, ι1, ω1, ρ, S1, h1.bind.mono (fun y ω2 h2 => ?_) fun _ _ _ q => q.on E1⟩
  cases el : optI y.1 with
  | none =>
    rw [el] at h2
    exact h2.elim
  | some o =>
    rw [el] at h2
    have h2 : RP ((ev ih ρ ω2).bind fun h ω => liftO (slcV x.1 y.1 h.1) .own ω) _ _ := h2
    refine ⟨o, rfl, fun H2 Z2 ι2 E2 S2 => ?_⟩
    refine ⟨Z2, B, ι2, ω2, ρ, S2, h2.bind.mono (fun z ω3 h3 => ?_) fun _ _ _ q => q.on (E1.trans E2)⟩
    unfold liftO slcV at h3
    rw [el] at h3
    cases eh : optI z.1 with
    | none => simp only [eh] at h3; exact h3.elim
    | some o2 =>
      refine ⟨o2, rfl, fun H3 Z3 ι3 E3 S3 => ?_⟩
      simp only [eh, Option.bind_some] at h3
      split at h3
      · rename_i w ew
        refine ⟨Z3, ι3, x.1, w, S3.zH, ((l1.on E2).on E3).rh S3, ew, fun u H4 n => ?_⟩
        obtain ⟨Z4, E4, S4, o4, s4⟩ := n.fin S3 (by decide)
        exact h3 u H4 Z4 ι3 (((E1.trans E2).trans E3).trans E4) S4 o4 (.no rfl)
      · exact h3.elim

/-! ### built-ins -/
inductive RHs (G : GS) (Z H : Hp) (ι : List (Addr × Addr)) : List V → List PV → Prop
  | nil : RHs G Z H ι [] []
  | cons {v : V} {x : PV} {vs : List V} {xs : List PV} : RH G Z H ι v x → RHs G Z H ι vs xs → RHs G Z H ι (v :: vs) (x :: xs)
def rF (G : GS) (g : List PV → Option PV) (m : Md) : List V → Hp → VK → Prop := fun vs H Q => ∃ Z ι xs z, Sub Z H ∧ RHs G Z H ι vs xs ∧ g xs = some z ∧ ∀ w H', Nw G Z H ι m z w H' → Q w H'
theorem RHs.one {Z H : Hp} {ι : List (Addr × Addr)} {vs : List V} {x : PV} (h : RHs G Z H ι vs [x]) : ∃ v, vs = [v] ∧ RH G Z H ι v x := by
  cases h with
  | cons r t => cases t; exact ⟨_, rfl, r⟩
theorem RHs.two {Z H : Hp} {ι : List (Addr × Addr)} {vs : List V} {x y : PV} (h : RHs G Z H ι vs [x, y]) : ∃ v w, vs = [v, w] ∧ RH G Z H ι v x ∧ RH G Z H ι w y := by
  cases h with
  | cons r t =>
    cases t with
    | cons r2 t => cases t; exact ⟨_, _, rfl, r, r2⟩
theorem CallR.imp {f : Value} {r r' : List V → Hp → VK → Prop} (h : CallR X f r) (i : ∀ vs H Q, r' vs H Q → r vs H Q) : CallR X f r' := fun pins s σ H xs us Q I rv q => h pins s σ H xs us Q I rv (i _ _ _ q)
theorem CallR.or {f : Value} {r r' : List V → Hp → VK → Prop} (h : CallR X f r) (h' : CallR X f r') : CallR X f (fun vs H Q => r vs H Q ∨ r' vs H Q) := fun pins s σ H xs us Q I rv q => q.elim (h pins s σ H xs us Q I rv) (h' pins s σ H xs us Q I rv)
theorem bf1_read {f : BF} {ie : E} {σ : St} {H : Hp} {Q : VK} (h : tE G W (.bf1 f ie) σ H Q) : tCB (rF G (bfV f) .own) (tCons (tE G W ie) tNil) σ H Q := by
  obtain ⟨Z, B, ι, ω, ρ, S, h⟩ := h
  unfold ev at h
  refine tE.next S h.bind fun x ω1 h1 v H1 Z1 ι1 E1 S1 l1 _ p1 => ?_
  unfold liftO at h1
  cases e : bfV f [x.1] with
  | none => rw [e] at h1; exact h1.elim
  | some z =>
    rw [e] at h1
    refine ⟨Z1, ι1, [x.1], z, S1.zH, .cons (l1.rh S1) .nil, e, fun w H3 n => ?_⟩
    obtain ⟨Z3, E3, S3, o3, s3⟩ := n.fin S1 (by decide)
    exact h1 w H3 Z3 ι1 (E1.trans E3) S3 o3 (.no rfl)
theorem bf2_read {f : BF} {ia ib : E} {σ : St} {H : Hp} {Q : VK} (h : tE G W (.bf2 f ia ib) σ H Q) : tCB (rF G (bfV f) .own) (tCons (tE G W ia) (tCons (tE G W ib) tNil)) σ H Q := by
  obtain ⟨Z, B, ι, ω, ρ, S, h⟩ := h
  unfold ev at h
  refine tE.next S h.bind fun x ω1 h1 v H1 Z1 ι1 E1 S1 l1 _ p1 => ?_
  refine tE.next S1 (h1.bind.mono (fun _ _ q => q) fun _ _ _ q => q.on E1) fun y ω2 h2 u H2 Z2 ι2 E2 S2 l2 _ p2 => ?_
  unfold liftO at h2
  cases e : bfV f [x.1, y.1] with
  | none => rw [e] at h2; exact h2.elim
  | some z =>
    rw [e] at h2
    refine ⟨Z2, ι2, [x.1, y.1], z, S2.zH, .cons ((l1.on E2).rh S2) (.cons (l2.rh S2) .nil), e, fun w H3 n => ?_⟩
    obtain ⟨Z3, E3, S3, o3, s3⟩ := n.fin S2 (by decide)
    exact h2 w H3 Z3 ι2 ((E1.trans E2).trans E3) S3 o3 (.no rfl)
theorem se_bf1B {f : BF} {x : Str} {id : String} {e : Expr} {ie : E} {p pos : Pos} (hc : CallR X (.builtin id) (rF G (bfV f) .own)) (hg : Gl X x) (hm : X.mg x = none) (hv : bootBuiltins x = some (.builtin id)) (he : PE X e (tE G W ie)) (hn : x ≠ "__name__") (hdb : (x == ("__debug__" : Str)) = false)
    (hs : starEach [e] X.env = [(false, eval e X.env)]) : PE X (.Call (.Name x p) [e] [] pos) (tE G W (.bf1 f ie)) :=
  PE.imp (pe_callB hc hg hm hv (pa_cons he pa_nil hs) hn hdb hs rfl) fun _ _ _ h => bf1_read h
theorem se_bf1T {f : BF} {x : Str} {T : String} {e : Expr} {ie : E} {p pos : Pos} (hc : CallR X (.type T) (rF G (bfV f) .own)) (hg : Gl X x) (hm : X.mg x = none) (hv : bootBuiltins x = some (.type T)) (he : PE X e (tE G W ie)) (hn : x ≠ "__name__") (hdb : (x == ("__debug__" : Str)) = false)
    (hs : starEach [e] X.env = [(false, eval e X.env)]) : PE X (.Call (.Name x p) [e] [] pos) (tE G W (.bf1 f ie)) :=
  PE.imp (pe_callTy hc hg hm hv (pa_cons he pa_nil hs) hn hdb hs rfl) fun _ _ _ h => bf1_read h
theorem se_bf2B {f : BF} {x : Str} {id : String} {a b : Expr} {ia ib : E} {p pos : Pos} (hc : CallR X (.builtin id) (rF G (bfV f) .own)) (hg : Gl X x) (hm : X.mg x = none) (hv : bootBuiltins x = some (.builtin id)) (ha : PE X a (tE G W ia)) (hb : PE X b (tE G W ib)) (hn : x ≠ "__name__") (hdb : (x == ("__debug__" : Str)) = false)
    (hs : starEach [a, b] X.env = (false, eval a X.env) :: starEach [b] X.env) (hs2 : starEach [b] X.env = [(false, eval b X.env)]) : PE X (.Call (.Name x p) [a, b] [] pos) (tE G W (.bf2 f ia ib)) :=
  PE.imp (pe_callB hc hg hm hv (pa_cons ha (pa_cons hb pa_nil hs2) hs) hn hdb hs (by rw [hs2]; rfl)) fun _ _ _ h => bf2_read h

theorem b_len (hK : G.K = X.K) : CallR X (.builtin "len") (rF G (bfV .len) .own) := by
  have lD : CallR X (.builtin "len") (fun xs H Q => ∃ a kvs, xs = [V.ref a] ∧ Rd H a (.dK kvs) ∧ Q (.int kvs.length) H) := by
    intro pins s σ H xs us Q I r h
    obtain ⟨a, kvs, rfl, hd, q⟩ := h
    obtain ⟨u, rfl, rx⟩ := vals1 r
    cases rx
    exact d_len I hd fun t s' I' => ⟨.int kvs.length, H, I', ⟨_, rfl⟩, q⟩
  have lT : CallR X (.builtin "len") (fun xs H Q => ∃ a kvs, xs = [V.ref a] ∧ Rd H a (.dT kvs) ∧ Q (.int ((kvs.length : Nat) : Int)) H) := by
    intro pins s σ H xs us Q I r h
    obtain ⟨p, kvs, rfl, hp, q⟩ := h
    obtain ⟨u, rfl, rx⟩ := vals1 r
    obtain rfl : u = .ref p := rx
    obtain ⟨z, hd, ys, rel, dd⟩ := dt_rd I.hok hp
    have hl : kvs.length = ys.length := Paired.length rel
    refine PySem.call_len_dictH hd dd (by rw [← hl]; rw [sizeLine_eq] at z; omega) ?_
    rw [← hl]
    exact ⟨.int ((kvs.length : Nat) : Int), H, I.tok _, ⟨_, rfl⟩, q⟩
  refine CallR.imp (CallR.or call_len (CallR.or lD lT)) fun vs H Q h => ?_
  obtain ⟨Z, ι, xs, z, sz, r, e, k⟩ := h
  match xs, e, r with
  | [.str s], e, r =>
    cases e
    obtain ⟨v, rfl, r1⟩ := r.one
    obtain ⟨rfl, h1⟩ := r1.str
    exact .inl ⟨_, s.length, rfl, ⟨by rw [mkS_len, ← line_eq]; exact h1.1, (mkS_len s).symm⟩, k _ _ (.val (.int _) rfl)⟩
  | [.lst ys], e, r =>
    cases e
    obtain ⟨v, rfl, r1⟩ := r.one
    obtain ⟨a, ws, rfl, h1, r⟩ := r1
    exact .inl ⟨_, ys.length, rfl, .inl ⟨ws, .inl h1, r.len.symm⟩, k _ _ (.val (.int _) rfl)⟩
  | [.tup ys], e, r =>
    cases e
    obtain ⟨v, rfl, r1⟩ := r.one
    obtain ⟨a, ws, rfl, h1, r⟩ := r1.tup sz
    exact .inl ⟨_, ys.length, rfl, .inr ⟨ws, SqT.of h1, r.len.symm⟩, k _ _ (.val (.int _) rfl)⟩
  | [.dic ps], e, r =>
    cases e
    obtain ⟨v, rfl, r1⟩ := r.one
    obtain ⟨a, rfl, ⟨kvs, h1, r2⟩ | ⟨kvs, h1, r2, ne⟩⟩ := r1
    · refine .inr (.inl ⟨a, kvs, rfl, h1, ?_⟩)
      rw [r2.len]
      exact k _ _ (.val (.int _) rfl)
    · refine .inr (.inr ⟨a, kvs, rfl, h1, ?_⟩)
      rw [r2.len]
      exact k _ _ (.val (.int _) rfl)
theorem b_int : CallR X (.type "int") (rF G (bfV .int) .own) := by
  refine CallR.imp call_int1 fun vs H Q h => ?_
  obtain ⟨Z, ι, xs, z, sz, r, e, k⟩ := h
  match xs, e, r with
  | [.int i], e, r =>
    cases e
    obtain ⟨v, rfl, r1⟩ := r.one
    rw [r1.int]
    exact .inl ⟨i, rfl, k _ _ (.val (.int _) rfl)⟩
  | [.bl b], e, r =>
    cases e
    obtain ⟨v, rfl, r1⟩ := r.one
    rw [r1.bl]
    exact .inr ⟨b, rfl, k _ _ (.val (.int _) rfl)⟩
theorem b_abs : CallR X (.builtin "abs") (rF G (bfV .abs) .own) := by
  refine CallR.imp call_abs fun vs H Q h => ?_
  obtain ⟨Z, ι, xs, z, sz, r, e, k⟩ := h
  match xs, e, r with
  | [.int i], e, r =>
    cases e
    obtain ⟨v, rfl, r1⟩ := r.one
    rw [r1.int]
    exact ⟨i, rfl, k _ _ (.val (.int _) rfl)⟩
theorem foldMax_mem : ∀ (l : List Int) (n : Int), l.foldl Max.max n = n ∨ l.foldl Max.max n ∈ l
  | [], n => .inl rfl
  | m :: l, n => by
    rcases foldMax_mem l (Max.max n m) with h | h
    · rw [List.foldl_cons, h]
      rcases Int.le_total n m with q | q
      · rw [Int.max_eq_right q]; exact .inr (List.mem_cons_self ..)
      · rw [Int.max_eq_left q]; exact .inl rfl
    · exact .inr (List.mem_cons_of_mem _ h)
theorem foldMax_le : ∀ (l : List Int) (n : Int), n ≤ l.foldl Max.max n ∧ ∀ y ∈ l, y ≤ l.foldl Max.max n
  | [], n => ⟨Int.le_refl _, fun _ h => by cases h⟩
  | m :: l, n => by
    obtain ⟨h1, h2⟩ := foldMax_le l (Max.max n m)
    refine ⟨Int.le_trans (Int.le_max_left n m) h1, fun y hy => ?_⟩
    rcases List.mem_cons.mp hy with rfl | hy
    · exact Int.le_trans (Int.le_max_right n y) h1
    · exact h2 y hy
theorem foldMin_mem : ∀ (l : List Int) (n : Int), l.foldl Min.min n = n ∨ l.foldl Min.min n ∈ l
  | [], n => .inl rfl
  | m :: l, n => by
    rcases foldMin_mem l (Min.min n m) with h | h
    · rw [List.foldl_cons, h]
      rcases Int.le_total n m with q | q
      · rw [Int.min_eq_left q]; exact .inl rfl
      · rw [Int.min_eq_right q]; exact .inr (List.mem_cons_self ..)
    · exact .inr (List.mem_cons_of_mem _ h)
theorem foldMin_le : ∀ (l : List Int) (n : Int), l.foldl Min.min n ≤ n ∧ ∀ y ∈ l, l.foldl Min.min n ≤ y
  | [], n => ⟨Int.le_refl _, fun _ h => by cases h⟩
  | m :: l, n => by
    obtain ⟨h1, h2⟩ := foldMin_le l (Min.min n m)
    refine ⟨Int.le_trans h1 (Int.min_le_left n m), fun y hy => ?_⟩
    rcases List.mem_cons.mp hy with rfl | hy
    · exact Int.le_trans h1 (Int.min_le_right n y)
    · exact h2 y hy
theorem b_max (hK : G.K = X.K) (hc : X.calm = true) : CallR X (.builtin "max") (rF G (bfV .max) .own) := by
  refine CallR.imp (CallR.or (call_max2 hc) (cr_max hc)) fun vs H Q h => ?_
  obtain ⟨Z, ι, xs, z, sz, r, e, k⟩ := h
  match xs, e, r with
  | [.int i, .int j], e, r =>
    cases e
    obtain ⟨v, w, rfl, r1, r2⟩ := r.two
    rw [r1.int, r2.int]
    exact .inl ⟨i, j, rfl, k _ _ (.val (.int _) rfl)⟩
  | [.lst ys], e, r =>
    obtain ⟨v, rfl, r1⟩ := r.one
    obtain ⟨a, ws, rfl, h1, r2⟩ := r1
    have e : (PVL.intsV ys).bind maxI = some z := e
    cases ei : PVL.intsV ys with
    | none => rw [ei] at e; cases e
    | some ns =>
      rw [ei] at e
      have e3 : maxI ns = some z := e
      obtain ⟨rfl, rfl⟩ := r2.intsV ei
      cases ns with
      | nil => cases e3
      | cons n ns =>
        cases e3
        refine .inr ⟨a, n :: ns, rfl, .inl h1, by simp, fun m hm hx => ?_⟩
        have e2 : m = ns.foldl Max.max n := by
          have q1 := foldMax_le ns n
          have q2 := foldMax_mem ns n
          apply Int.le_antisymm
          · rcases List.mem_cons.mp hm with rfl | hm
            · exact q1.1
            · exact q1.2 m hm
          · rcases q2 with q | q
            · rw [q]; exact hx n (List.mem_cons_self ..)
            · exact hx _ (List.mem_cons_of_mem _ q)
        rw [e2]
        exact k _ _ (.val (.int _) rfl)
theorem b_min (hK : G.K = X.K) (hc : X.calm = true) : CallR X (.builtin "min") (rF G (bfV .min) .own) := by
  refine CallR.imp (CallR.or (call_min2 hc) (cr_min hc)) fun vs H Q h => ?_
  obtain ⟨Z, ι, xs, z, sz, r, e, k⟩ := h
  match xs, e, r with
  | [.int i, .int j], e, r =>
    cases e
    obtain ⟨v, w, rfl, r1, r2⟩ := r.two
    rw [r1.int, r2.int]
    exact .inl ⟨i, j, rfl, k _ _ (.val (.int _) rfl)⟩
  | [.lst ys], e, r =>
    obtain ⟨v, rfl, r1⟩ := r.one
    obtain ⟨a, ws, rfl, h1, r2⟩ := r1
    have e : (PVL.intsV ys).bind minI = some z := e
    cases ei : PVL.intsV ys with
    | none => rw [ei] at e; cases e
    | some ns =>
      rw [ei] at e
      have e3 : minI ns = some z := e
      obtain ⟨rfl, rfl⟩ := r2.intsV ei
      cases ns with
      | nil => cases e3
      | cons n ns =>
        cases e3
        refine .inr ⟨a, n :: ns, rfl, .inl h1, by simp, fun m hm hx => ?_⟩
        have e2 : m = ns.foldl Min.min n := by
          have q1 := foldMin_le ns n
          have q2 := foldMin_mem ns n
          apply Int.le_antisymm
          · rcases q2 with q | q
            · rw [q]; exact hx n (List.mem_cons_self ..)
            · exact hx _ (List.mem_cons_of_mem _ q)
          · rcases List.mem_cons.mp hm with rfl | hm
            · exact q1.1
            · exact q1.2 m hm
        rw [e2]
        exact k _ _ (.val (.int _) rfl)
theorem b_sum (hK : G.K = X.K) (hc : X.calm = true) : CallR X (.builtin "sum") (rF G (bfV .sum) .own) := by
  refine CallR.imp (cr_sum hc) fun vs H Q h => ?_
  obtain ⟨Z, ι, xs, z, sz, r, e, k⟩ := h
  match xs, e, r with
  | [.lst ys], e, r =>
    obtain ⟨v, rfl, r1⟩ := r.one
    obtain ⟨a, ws, rfl, h1, r2⟩ := r1
    have e : (PVL.intsV ys).map (fun ns => PV.int ns.sum) = some z := e
    cases ei : PVL.intsV ys with
    | none => rw [ei] at e; cases e
    | some ns =>
      rw [ei] at e
      cases e
      obtain ⟨rfl, rfl⟩ := r2.intsV ei
      exact ⟨a, ns, rfl, .inl h1, k _ _ (.val (.int _) rfl)⟩
theorem b_all (hK : G.K = X.K) (hc : X.calm = true) : CallR X (.builtin "all") (rF G (bfV .all) .own) := by
  refine CallR.imp (cr_all hc) fun vs H Q h => ?_
  obtain ⟨Z, ι, xs, z, sz, r, e, k⟩ := h
  match xs, e, r with
  | [.lst ys], e, r =>
    obtain ⟨v, rfl, r1⟩ := r.one
    obtain ⟨a, ws, rfl, h1, r2⟩ := r1
    have e : (PVL.boolsV ys).map (fun ns => PV.bl (ns.all id)) = some z := e
    cases ei : PVL.boolsV ys with
    | none => rw [ei] at e; cases e
    | some ns =>
      rw [ei] at e
      cases e
      obtain ⟨rfl, rfl⟩ := r2.boolsV ei
      exact ⟨a, ns, rfl, .inl h1, k _ _ (.val (.bl _) rfl)⟩
theorem b_any (hK : G.K = X.K) (hc : X.calm = true) : CallR X (.builtin "any") (rF G (bfV .any) .own) := by
  refine CallR.imp (cr_any hc) fun vs H Q h => ?_
  obtain ⟨Z, ι, xs, z, sz, r, e, k⟩ := h
  match xs, e, r with
  | [.lst ys], e, r =>
    obtain ⟨v, rfl, r1⟩ := r.one
    obtain ⟨a, ws, rfl, h1, r2⟩ := r1
    have e : (PVL.boolsV ys).map (fun ns => PV.bl (ns.any id)) = some z := e
    cases ei : PVL.boolsV ys with
    | none => rw [ei] at e; cases e
    | some ns =>
      rw [ei] at e
      cases e
      obtain ⟨rfl, rfl⟩ := r2.boolsV ei
      exact ⟨a, ns, rfl, .inl h1, k _ _ (.val (.bl _) rfl)⟩

/-! ### isinstance -/
/-- the type's name -/
def tyN : PV → Option String
  | .non => some "NoneType"
  | .bl _ => some "bool"
  | .int _ => some "int"
  | .str _ => some "str"
  | .tup _ => some "tuple"
  | .lst _ => some "list"
  | .dic kvs => if kvs.all (fun p => flatKey p.1) then some "dict" else none
  | _ => none
theorem RH.tyx {Z H : Hp} {ι : List (Addr × Addr)} (sz : Sub Z H) {K : PySem.W.Frag} {v : V} {x : PV} {n : String} (h : RH G Z H ι v x) (e : tyN x = some n) : TyX K H v (.type n) := by
  cases x <;> simp only [tyN, reduceCtorEq, Option.some.injEq] at e
  · subst e; rw [h.non]; exact .base .non
  · subst e; rw [h.bl]; exact .base (.bl _)
  · subst e; rw [h.int]; exact .base (.int _)
  · subst e; rw [h.str.1]; exact .base (.str _)
  · subst e
    obtain ⟨a, vs, rfl, h1, _⟩ := h.tup sz
    exact .base (.tup h1)
  · subst e
    obtain ⟨a, vs, rfl, h1 | ⟨o, h1⟩, _⟩ := h
    · exact .base (.lst h1)
    · exact .base (.frz h1)
  · split at e
    · rename_i hf
      cases e
      obtain ⟨a, rfl, ⟨kvs, h1 | ⟨o, h1⟩, r⟩ | ⟨kvs, h1, r, ne⟩⟩ := h
      · exact .base (.dK h1)
      · exact .fDict h1
      · exfalso
        cases r with
        | nil => exact ne rfl
        | cons _ _ _ => simp [flatKey] at hf
    · cases e
/-- a built-in type's name -/
def Ty.nm : Ty → Option String
  | .int => some "int"
  | .bool => some "bool"
  | .str => some "str"
  | .list => some "list"
  | .tuple => some "tuple"
  | .dict => some "dict"
  | _ => none
theorem kit_all {K : PySem.W.Frag} {ω : PVL.Store} {x : PV} {t : Ty} {n m : String} {b : Bool} (hx : tyN x = some n) (ht : Ty.nm t = some m) (e : isTy ω x t = some b) : PySem.W.kitOne K (.type n) (.type m) = some b := by
  cases t <;> simp only [Ty.nm, reduceCtorEq, Option.some.injEq] at ht <;> subst ht <;>
  cases x <;> simp only [tyN, reduceCtorEq, Option.some.injEq] at hx <;> first
    | (subst hx; simp only [isTy, Option.some.injEq] at e; subst e; exact kit_ty (by decide +kernel))
    | (split at hx
       · rename_i hf
         cases hx
         simp only [isTy, hf, if_true, Option.some.injEq] at e; subst e; exact kit_ty (by decide +kernel)
       · cases hx)
theorem isTy_nm {ω : PVL.Store} {x : PV} {t : Ty} {m : String} {b : Bool} (ht : Ty.nm t = some m) (e : isTy ω x t = some b) : (∃ n, tyN x = some n) := by
  cases x <;> first | exact ⟨_, rfl⟩ | skip
  · simp only [isTy] at e
    split at e
    · rename_i hf; exact ⟨_, if_pos hf⟩
    · cases e
  all_goals (cases t <;> simp [Ty.nm] at ht <;> simp [isTy] at e)
/-- isinstance(a, T), T a built-in type -/
theorem se_inst1 {a : Expr} {x T : Str} {ia : E} {t : Ty} {m : String} {p pt pos : Pos} (hK : G.K = X.K) (hg : Gl X x) (hm : X.mg x = none) (hv : bootBuiltins x = some (.builtin "isinstance")) (hn : x ≠ "__name__") (hdb : (x == ("__debug__" : Str)) = false) (ha : PE X a (tE G W ia))
    (hgT : Gl X T) (hmT : X.mg T = none) (hvT : bootBuiltins T = some (.type m)) (hnT : T ≠ "__name__") (hdT : (T == ("__debug__" : Str)) = false) (ht : Ty.nm t = some m)
    (hs : starEach [a, .Name T pt] X.env = (false, eval a X.env) :: starEach [.Name T pt] X.env) : PE X (.Call (.Name x p) [a, .Name T pt] [] pos) (tE G W (.inst ia [t])) := by
  refine PE.imp (pe_callB call_isi hg hm hv (pa_cons ha (pa_cons (pe_bltn (v := .ty m) hgT hmT hvT rfl hnT hdT) pa_nil rfl) hs) hn hdb hs rfl) fun σ H Q h => ?_
  obtain ⟨Z, B, ι, ω, ρ, S, h⟩ := h
  unfold ev at h
  refine tE.next S h.bind fun y ω1 h1 v H1 Z1 ι1 E1 S1 l1 _ p1 => ?_
  unfold liftB at h1
  cases e : isTy ω1 y.1 t with
  | none => simp only [List.foldr, Option.bind_some, e, Option.map_none] at h1; exact h1.elim
  | some b =>
    simp only [List.foldr, Option.bind_some, e, Option.map_some, Bool.or_false] at h1
    obtain ⟨n, en⟩ := isTy_nm ht e
    exact ⟨v, .ty m, .type n, .type m, b, rfl, .ty m, (l1.rh S1).tyx S1.zH en, kit_all en ht e, h1 _ H1 Z1 ι1 E1 S1 (RV.bl b) (.no rfl)⟩
end
end PVS

set_option maxHeartbeats 1000000
/-! PVS: tuple targets, two names at once, augmented names. -/
namespace PVS
open PySem L2 TL PVL
section
variable {X : Cx} {G : GS} {W : WX}
theorem assignT_tup {ρ ρ' : PVL.Env} {is : List Nat} {x : PV} (hl : 2 ≤ is.length) (e : assignT ρ is x = some ρ') : isC x = false := by
  unfold assignT at e
  split at e
  · simp at hl
  · rfl
  · cases e
theorem sp_setT {tg e : Expr} {is : List Nat} {ie : E} {pos : Pos} (he : PE X e (tE G W ie)) (hg : TgOk X G tg is) (hl : 2 ≤ is.length) (hs : swapsWithSole [tg] e pos.line X.env = pure false) (hw : swappedStores [tg] e X.env = pure none)
    (h1 : (assignEach [tg] X.env).map (·.2) = [assign tg X.env]) : PS X (.Assign [tg] e pos) (tS G W (.setT is ie)) := by
  obtain ⟨g, g1, g2⟩ := hg
  refine PS.imp (ps_asg he g1 hs hw h1) fun D σ H h => ?_
  obtain ⟨Z, B, ι, ω, ρ, S, h⟩ := h
  unfold ex at h
  refine tE.next S h.to fun x ω1 h1 v H1 Z1 ι1 E1 S1 l1 _ p1 => ?_
  cases ea : assignT ρ is x.1 with
  | none => rw [ea] at h1; exact h1.elim
  | some ρ' =>
    rw [ea] at h1
    exact g2 Z1 B H1 ι1 ω1 ρ σ v x.1 ρ' _ S1 (l1.rv S1 (assignT_tup hl ea)) ea fun σ' S' _ => h1 H1 Z1 ι1 σ' E1.pb S'
theorem sp_par {i j : Nat} {x y : Str} {a b : Expr} {ia ib : E} {px py pt pos : Pos} {kt k2 pt2} (hc : X.calm = true) (hN : X.N.Nodup) (hi : X.N[i]? = some x) (hj : X.N[j]? = some y) (hij : i ≠ j)
    (hx : X.env.scope.names.lookup x = some .local) (hy : X.env.scope.names.lookup y = some .local) (ha : PE X a (tE G W ia)) (hb : PE X b (tE G W ib)) (hs1 : starEach [a, b] X.env = (false, eval a X.env) :: starEach [b] X.env) (hs2 : starEach [b] X.env = [(false, eval b X.env)])
    (hw : swappedStores [.Tuple [.Name x px, .Name y py] kt pt] (.Tuple [a, b] k2 pt2) X.env = pure (some [x, y]))
    (hs : swapsWithSole [.Tuple [.Name x px, .Name y py] kt pt] (.Tuple [a, b] k2 pt2) pos.line X.env = pure false) :
    PS X (.Assign [.Tuple [.Name x px, .Name y py] kt pt] (.Tuple [a, b] k2 pt2) pos) (tS G W (.par i j ia ib)) := by
  refine PS.imp (ps_par hc hN hi hj hij hx hy (pa_cons ha (pa_cons hb pa_nil hs2) hs1) hw hs) fun D σ H h => ?_
  obtain ⟨Z, B, ι, ω, ρ, S, h⟩ := h
  unfold ex at h
  refine ⟨Z, B, ι, ω, ρ, S, h.to.mono (fun u ω1 h1 v H1 Z1 ι1 E1 S1 o1 p1 => ?_) fun _ _ _ q => q⟩
  cases hk : keeps u with
  | false => rw [hk] at h1; exact h1.elim
  | true =>
    rw [hk, if_pos rfl] at h1
    obtain ⟨Z2, E2, S2, r2⟩ := o1.keep S1 hk
    have h1 := (h1.on (E1.trans E2).pb).to (ρ := ρ) (σ := σ)
    refine ⟨Z2, B, ι1, ω1, ρ, S2, h1.mono (fun u2 ω3 h3 w H3 Z3 ι3 E3 S3 o3 p3 => ?_) fun _ _ _ q => q⟩
    cases hk2 : keeps u2 with
    | false => rw [hk2] at h3; exact h3.elim
    | true =>
      rw [hk2, if_pos rfl] at h3
      obtain ⟨Z4, E4, S4, r4⟩ := o3.keep S3 hk2
      exact ⟨v, w, rfl, h3 H3 Z4 ι3 _ (E3.trans E4).pb ((S4.setS' ((r2.mono E3.z E3.i).mono E4.z E4.i)).setS' r4)⟩
/-! ### name op= e -/
def ipA (G : GS) (g : PV → PV → Option PV) : TIp := fun v u H Q => ∃ Z ι x y z, Sub Z H ∧ RH G Z H ι v x ∧ RH G Z H ι u y ∧ g x y = some z ∧ ∀ w, RV G Z ι w z → Q w H
theorem ia_add : PIp X .Add (ipA G (augV .add)) := by
  intro pins s σ H v u vv uu Q I rv ru h
  obtain ⟨Z, ι, x, y, z, sz, hx, hy, hg, k⟩ := h
  cases x <;> cases y <;> simp only [augV, reduceCtorEq, Option.some.injEq] at hg
  · subst hg
    exact ip_add pins s σ H v u vv uu Q I rv ru ⟨_, _, hx.int, hy.int, k _ (.int _)⟩
  · split at hg
    · rename_i a b hl
      cases hg
      obtain ⟨rfl, h1⟩ := hx.str
      obtain ⟨rfl, h2⟩ := hy.str
      exact in_addS pins s σ H _ _ vv uu Q I rv ru ⟨_, _, rfl, rfl, by rw [mkS_len, mkS_len, ← line_eq]; exact hl, by rw [mkS_app]; exact k _ (.str _ (h1.app h2 hl))⟩
    · cases hg
theorem ia_sub : PIp X .Sub (ipA G (augV .sub)) := by
  intro pins s σ H v u vv uu Q I rv ru h
  obtain ⟨Z, ι, x, y, z, sz, hx, hy, hg, k⟩ := h
  cases x <;> cases y <;> simp only [augV, reduceCtorEq, Option.some.injEq] at hg
  subst hg
  exact ip_sub pins s σ H v u vv uu Q I rv ru ⟨_, _, hx.int, hy.int, k _ (.int _)⟩
theorem aug_flat {op : BOp} {x y z : PV} (e : augV op x y = some z) : isC x = false := by
  cases op <;> cases x <;> first | rfl | (simp [augV] at e)
theorem sp_aug {i : Nat} {x : Str} {e : Expr} {ie : E} {op : Operator} {bop : BOp} {pos' pos : Pos} (hN : X.N.Nodup) (hi : X.N[i]? = some x) (hx : Loc X.env.scope x) (he : PE X e (tE G W ie)) (ho : PIp X op (ipA G (augV bop))) (hf : X.fn x = true ∨ X.env.scope.names.lookup x = some .local) :
    PS X (.AugAssign (.Name x pos') op e pos) (tS G W (.aug i bop ie)) := by
  refine PS.imp (ps_aug hN hi hx he ho hf) fun D σ H h => ?_
  obtain ⟨Z, B, ι, ω, ρ, S, h⟩ := h
  unfold ex at h
  cases eg : getV ρ i with
  | none => rw [eg] at h; exact h.elim
  | some r =>
    obtain ⟨y, m⟩ := r
    rw [eg] at h
    obtain ⟨v, e1, e2⟩ := S.sl i y m (getV_some.mp eg)
    have l0 : Lv G Z B H ι ρ σ v y := by
      cases m with
      | own =>
        obtain ⟨a, o, rfl, h2, h3⟩ := e2
        exact .inr ⟨i, a, getV_some.mp eg, e1, rfl⟩
      | fz => exact .inl (.inl e2)
      | br => exact .inl e2
      | lv => exact e2.elim
    refine ⟨v, e1, ?_⟩
    refine tE.next S h.to fun u ω1 h1 w H1 Z1 ι1 E1 S1 l1 _ p1 => ?_
    cases ez : augV bop y u.1 with
    | none => rw [ez] at h1; exact h1.elim
    | some z =>
      rw [ez] at h1
      exact ⟨Z1, ι1, y, u.1, z, S1.zH, (l0.on E1).rh S1, l1.rh S1, ez, fun t r => h1 H1 Z1 ι1 _ E1.pb (S1.setS' r)⟩
end
end PVS

set_option maxHeartbeats 1000000
/-! PVS: containers that change in their places. -/
namespace PVS
open PySem L2 TL PVL
/-! ### places -/
/-- the container x of the place stands at a -/
def PAt (G : GS) (H : Hp) (ι : List (Addr × Addr)) (ω : PVL.Store) (ρ : PVL.Env) (σ : St) (p : Pl) (x : PV) (a : Addr) : Prop := match p with
  | .var i => getV ρ i = some (x, .own) ∧ σ[i]? = some (some (.ref a))
  | .fld i f => ∃ n m r b dx fs, getV ρ i = some (.obj n, m) ∧ ω[n]? = some r ∧ ι[n]? = some (b, dx) ∧ H b = some (.ins (G.cl r.cls) dx fs) ∧ r.flds.lookup f = some x ∧ isC x = true ∧ fs.lookup (G.fnm f) = some (.ref a)
section
variable {G : GS} {Z Z' B H H' : Hp} {ι ι' : List (Addr × Addr)} {ω ω' : PVL.Store} {ρ ρ' : PVL.Env} {σ : St} {p : Pl} {x : PV} {a : Addr}
theorem PAt.of (S : Sim G Z B H ι ω ρ σ) (e : plGet p ρ ω = .ok x ω') : ω' = ω ∧ isC x = true ∧ ∃ a, PAt G H ι ω ρ σ p x a := by
  cases p with
  | var i =>
    simp only [plGet] at e
    cases eg : getV ρ i with
    | none => rw [eg] at e; cases e
    | some r =>
      obtain ⟨y, m⟩ := r
      rw [eg] at e
      cases m <;> try cases e
      obtain ⟨v, e1, b, o, rfl, e3, e4⟩ := S.sl i x .own (getV_some.mp eg)
      exact ⟨rfl, e4.isC, b, eg, e1⟩
  | fld i f =>
    simp only [plGet] at e
    cases eg : getV ρ i with
    | none => rw [eg] at e; cases e
    | some r =>
      obtain ⟨y, m⟩ := r
      rw [eg] at e
      cases y <;> try cases e
      rename_i n
      cases en : ω[n]? with
      | none => simp only [en] at e; cases e
      | some r =>
        simp only [en] at e
        cases el : r.flds.lookup f with
        | none => simp only [el] at e; cases e
        | some v =>
          simp only [el] at e
          split at e
          · rename_i hc
            cases e
            obtain ⟨b, dx, fs, e1, e2, e3, e4⟩ := S.ob n r en
            obtain ⟨u, l1, l2, _⟩ := e4.lookup el
            unfold FR at l2
            rw [if_pos hc] at l2
            obtain ⟨a, o, rfl, _, _⟩ := l2
            exact ⟨rfl, hc, a, n, m, r, b, dx, fs, eg, en, e1, e2, el, hc, l1⟩
          · cases e
theorem PAt.get (h : PAt G H ι ω ρ σ p x a) : plGet p ρ ω = .ok x ω := by
  cases p with
  | var i => simp only [plGet, h.1]
  | fld i f =>
    obtain ⟨n, m, r, b, dx, fs, h1, h2, h3, h4, h5, h6, h7⟩ := h
    simp only [plGet, h1, h2, h5, h6, if_true]
theorem lookup_at {xs : List (Nat × PV)} {vs : List (Str × V)} (h : FsR G Z ι H xs vs) {f : Nat} (e : xs.lookup f = some x) {u : V} (l : vs.lookup (G.fnm f) = some u) : vs[fidx f xs]? = some (G.fnm f, u) := by
  induction h with
  | nil => simp at e
  | @cons f' x' v' xs' vs' r' h' ih =>
    by_cases hf : f = f'
    · subst hf
      simp [List.lookup_cons] at l
      subst l
      unfold fidx; rw [if_pos rfl]; rfl
    · have e1 : (f == f') = false := by simpa using hf
      have e3 : (G.fnm f == G.fnm f') = false := by simpa using fun z => hf (G.inj _ _ z)
      rw [List.lookup_cons, e1] at e
      rw [List.lookup_cons, e3] at l
      unfold fidx; rw [if_neg (fun z => hf z.symm)]
      exact ih e l
theorem PAt.own (S : Sim G Z B H ι ω ρ σ) (h : PAt G H ι ω ρ σ p x a) : ∃ k, owA G H ι ω ρ σ k a := by
  cases p with
  | var i => exact ⟨.slot i, ⟨x, getV_some.mp h.1⟩, h.2⟩
  | fld i f =>
    obtain ⟨n, m, r, b, dx, fs, h1, h2, h3, h4, h5, h6, h7⟩ := h
    obtain ⟨b', dx', fs', e1, e2, _, e4⟩ := S.ob n r h2
    rw [h3] at e1; cases e1
    rw [h4] at e2; cases e2
    exact ⟨.fld n (fidx f r.flds), b, dx, _, fs, _, r, f, x, h3, h4, lookup_at e4 h5 h7, h2, fidx_of h5, h6⟩
theorem PAt.ro (S : Sim G Z B H ι ω ρ σ) (h : PAt G H ι ω ρ σ p x a) : ∃ u, H a = some u ∧ RO G Z ι u x := by
  cases p with
  | var i =>
    obtain ⟨v, e1, b, o, rfl, e3, e4⟩ := S.sl i x .own (getV_some.mp h.1)
    rw [h.2] at e1; cases e1
    exact ⟨o, e3, e4⟩
  | fld i f =>
    obtain ⟨n, m, r, b, dx, fs, h1, h2, h3, h4, h5, h6, h7⟩ := h
    obtain ⟨b', dx', fs', e1, e2, _, e4⟩ := S.ob n r h2
    rw [h3] at e1; cases e1
    rw [h4] at e2; cases e2
    obtain ⟨u, l1, l2, _⟩ := e4.lookup h5
    rw [h7] at l1; cases l1
    unfold FR at l2
    rw [if_pos h6] at l2
    obtain ⟨a', o, z, e, q⟩ := l2
    cases z
    exact ⟨o, e, q⟩
/-- quiet arguments leave it -/
theorem PAt.stay (S : Sim G Z B H ι ω ρ σ) (h : PAt G H ι ω ρ σ p x a) (E : Ext Z Z' (PO B ρ σ) ι ι' H H') (q : (∃ i, p = .var i) ∨ (Same H H' ∧ ω' = ω ∧ ι' = ι)) : PAt G H' ι' ω' ρ σ p x a ∧ H' a = H a := by
  cases p with
  | var i => exact ⟨h, E.k a (.inr (.inr ⟨i, x, getV_some.mp h.1, h.2⟩))⟩
  | fld i f =>
    rcases q with ⟨i, z⟩ | ⟨s, rfl, rfl⟩
    · cases z
    · obtain ⟨u, e, _⟩ := h.ro S
      obtain ⟨n, m, r, b, dx, fs, h1, h2, h3, h4, h5, h6, h7⟩ := h
      exact ⟨⟨n, m, r, b, dx, fs, h1, h2, h3, s _ _ h4, h5, h6, h7⟩, by rw [s _ _ e, e]⟩
/-- it is changed -/
theorem PAt.put (S : Sim G Z B H ι ω ρ σ) (h : PAt G H ι ω ρ σ p x a) {x' : PV} {o' : HO} (r : RO G Z ι o' x') : ∃ ρ' ω', plPut p x' ρ ω = .nx ρ' ω' ∧ Sim G Z B (upd H a o') ι ω' ρ' σ ∧ Ext Z Z (PB B) ι ι H (upd H a o') := by
  cases p with
  | var i =>
    obtain ⟨k, ok⟩ := h.own S
    exact ⟨_, _, rfl, S.mutS h.1 h.2 r, Ext.mutS S ok⟩
  | fld i f =>
    obtain ⟨k, ok⟩ := h.own S
    obtain ⟨n, m, rc, b, dx, fs, h1, h2, h3, h4, h5, h6, h7⟩ := h
    refine ⟨ρ, PVL.setF ω n f x', by simp only [plPut, h1], (S.mutF h2 h3 h4 h5 h6 h7 r).1, Ext.mutS S ok⟩
end
/-- how the place is written -/
def PlR (X : Cx) (G : GS) (p : Pl) (o : Expr) : Prop := ∃ to, PE X o to ∧ ∀ (Z B H : Hp) (ι : List (Addr × Addr)) (ω : PVL.Store) (ρ : PVL.Env) (σ : St) (x : PV) (a : Addr) (Q : VK), Sim G Z B H ι ω ρ σ → PAt G H ι ω ρ σ p x a → Q (.ref a) H → to σ H Q
section
variable {X : Cx} {G : GS} {W : WX} {p q : Pl} {o e : Expr} {ie : E}
theorem pl_var {i : Nat} {x : Str} {pos : Pos} (hN : X.N[i]? = some x) (hv : Vis X.env.scope x) (hd : (x == ("__debug__" : Str)) = false) (hcd : (x == ("__classdict__" : Str)) = false) : PlR X G (.var i) (.Name x pos) :=
  ⟨tVar i, pe_var hN hv hd hcd, fun Z B H ι ω ρ σ x a Q S h k => ⟨_, h.2, k⟩⟩
theorem plIs_of {k : PV → Bool} {ρ : PVL.Env} {ω : PVL.Store} (h : plIs k p ρ ω = true) : ∃ x ω', plGet p ρ ω = .ok x ω' ∧ k x = true := by
  unfold plIs at h
  cases e : plGet p ρ ω with
  | ok x ω' => rw [e] at h; exact ⟨x, ω', rfl, h⟩
  | exc c xs ω' => rw [e] at h; cases h
  | bad => rw [e] at h; cases h
theorem isL_of {x : PV} (h : isL x = true) : ∃ xs, x = .lst xs := by
  cases x <;> first | exact ⟨_, rfl⟩ | cases h
theorem RO.lst_of {Z : Hp} {ι : List (Addr × Addr)} {u : HO} {xs : List PV} (h : RO G Z ι u (.lst xs)) : ∃ vs, u = .lst vs ∧ RVs G Z ι vs xs := by
  cases h with
  | lst r => exact ⟨_, rfl, r⟩
theorem quiet {e : E} {H H' : Hp} {ω ω' : PVL.Store} {ι ι' : List (Addr × Addr)} (h : plE p e = true) (q : Pu (pureE e) H H' ω ω' ι ι') : (∃ i, p = .var i) ∨ (Same H H' ∧ ω' = ω ∧ ι' = ι) := by
  cases p with
  | var i => exact .inl ⟨i, rfl⟩
  | fld i f => exact .inr (q h)
theorem quiets {es : Es} {H H' : Hp} {ω ω' : PVL.Store} {ι ι' : List (Addr × Addr)} (h : plEs p es = true) (q : Pu (pureEs es) H H' ω ω' ι ι') : (∃ i, p = .var i) ∨ (Same H H' ∧ ω' = ω ∧ ι' = ι) := by
  cases p with
  | var i => exact .inl ⟨i, rfl⟩
  | fld i f => exact .inr (q h)
theorem lsttyp {a : Addr} {vs : List V} {H : Hp} (h : H a = some (.lst vs)) : tyV X.K "list" (.ref a) H := .inl ⟨rfl, vs, .inl (.inl h)⟩
/-- o.append(e) -/
theorem sp_app {p0 cpos pos : Pos} (hp : PlR X G p o) (he : PE X e (tE G W ie)) (hbase : attributeBase o "append" X.env (eval o X.env) = eval o X.env)
    (hfew : ((backTo cpos (starEach [e] X.env)).all (fun x => !x.1) && (backToKw cpos (keywordEach [] X.env)).all (fun x => x.1.isSome) && decide ([e].length + ([] : List Keyword).length + (if ([] : List Keyword).isEmpty then 0 else 1) < 30)) = true)
    (hline : (p0.endLine == cpos.line) = true) (hs : starEach [e] X.env = [(false, eval e X.env)]) (hsw : swapsWith (.Call (.Attribute o "append" p0) [e] [] cpos) none pos.line X.env = pure false) : PS X (.Expr (.Call (.Attribute o "append" p0) [e] [] cpos) pos) (tS G W (.app p ie)) := by
  obtain ⟨to, h1, h2⟩ := hp
  refine PS.imp (ps_expr (pe_bm PySem.F.plainAttrs_list PySem.F.slot_list_append PySem.F.type_list_append mt_append h1 (pa_cons he pa_nil hs) hbase hfew hline hs (by rw [show starEach [] X.env = [] from rfl]; rfl)) hsw) fun D σ H h => ?_
  obtain ⟨Z, B, ι, ω, ρ, S, h⟩ := h
  unfold ex at h
  split at h
  · rename_i hc
    rw [Bool.and_eq_true] at hc
    obtain ⟨x, ω', eg, hL⟩ := plIs_of hc.1
    obtain ⟨xs, rfl⟩ := isL_of hL
    obtain ⟨rfl, _, a, at_⟩ := PAt.of S eg
    obtain ⟨u, ha, ro⟩ := at_.ro S
    obtain ⟨vs, rfl, rv⟩ := ro.lst_of
    refine h2 Z B H ι _ ρ σ _ a _ S at_ ⟨lsttyp ha, Z, B, ι, _, ρ, S, h.to.mono (fun v ω1 h1 w H1 Z1 ι1 E1 S1 o1 p1 => ?_) fun _ _ _ q => q⟩
    cases hk : keeps v with
    | false => rw [hk] at h1; exact h1.elim
    | true =>
      rw [hk, if_pos rfl] at h1
      obtain ⟨Z2, E2, S2, r2⟩ := o1.keep S1 hk
      obtain ⟨at1, ea⟩ := at_.stay S (E1.trans E2) (quiet hc.2 p1)
      rw [at1.get] at h1
      have h1 : FP G W (if xs.length < line then plPut p (.lst (xs ++ [v.1])) ρ ω1 else .bad) Z B H ι D := h1
      split at h1
      · rename_i hl
        have rv1 := rv.mono (E1.trans E2).z (E1.trans E2).i
        obtain ⟨ρ', ω2, e3, S3, E3⟩ := at1.put S2 (.lst (rv1.snoc r2))
        rw [e3] at h1
        exact ⟨a, vs, w, rfl, rfl, by rw [ea, ha], by rw [rv.len, ← line_eq]; exact hl, h1 _ Z2 ι1 σ ((E1.trans E2).pb.trans E3) S3⟩
      · exact h1.elim
  · exact h.elim
/-- o.clear(), o.reverse() -/
theorem sp_clr {p0 cpos pos : Pos} (hp : PlR X G p o) (hbase : attributeBase o "clear" X.env (eval o X.env) = eval o X.env) (hline : (p0.endLine == cpos.line) = true) (hsw : swapsWith (.Call (.Attribute o "clear" p0) [] [] cpos) none pos.line X.env = pure false) :
    PS X (.Expr (.Call (.Attribute o "clear" p0) [] [] cpos) pos) (tS G W (.clr p)) := by
  obtain ⟨to, h1, h2⟩ := hp
  refine PS.imp (ps_expr (pe_bm0 PySem.F.plainAttrs_list PySem.F.slot_list_clear PySem.F.type_list_clear mt_clear h1 hbase hline) hsw) fun D σ H h => ?_
  obtain ⟨Z, B, ι, ω, ρ, S, h⟩ := h
  unfold ex at h
  cases eg : plGet p ρ ω with
  | bad => rw [eg] at h; exact h.elim
  | exc c ys ω' =>
    exfalso
    cases p with
    | var i => simp only [plGet] at eg; split at eg <;> cases eg
    | fld i f => simp only [plGet] at eg; repeat (first | cases eg | split at eg)
  | ok x ω' =>
    obtain ⟨rfl, _, a, at_⟩ := PAt.of S eg
    rw [eg] at h
    cases x <;> try exact h.elim
    obtain ⟨u, ha, ro⟩ := at_.ro S
    obtain ⟨vs, rfl, rv⟩ := ro.lst_of
    obtain ⟨ρ', ω2, e3, S3, E3⟩ := at_.put S (.lst .nil)
    have h : FP G W (plPut p (.lst []) ρ ω') Z B H ι D := h
    rw [e3] at h
    exact h2 Z B H ι _ ρ σ _ a _ S at_ ⟨lsttyp ha, a, vs, rfl, rfl, ha, h _ Z ι σ E3 S3⟩
theorem sp_rev {p0 cpos pos : Pos} (hp : PlR X G p o) (hbase : attributeBase o "reverse" X.env (eval o X.env) = eval o X.env) (hline : (p0.endLine == cpos.line) = true) (hsw : swapsWith (.Call (.Attribute o "reverse" p0) [] [] cpos) none pos.line X.env = pure false) :
    PS X (.Expr (.Call (.Attribute o "reverse" p0) [] [] cpos) pos) (tS G W (.rev p)) := by
  obtain ⟨to, h1, h2⟩ := hp
  refine PS.imp (ps_expr (pe_bm0 PySem.F.plainAttrs_list PySem.F.slot_list_reverse PySem.F.type_list_reverse mt_reverse h1 hbase hline) hsw) fun D σ H h => ?_
  obtain ⟨Z, B, ι, ω, ρ, S, h⟩ := h
  unfold ex at h
  cases eg : plGet p ρ ω with
  | bad => rw [eg] at h; exact h.elim
  | exc c ys ω' =>
    exfalso
    cases p with
    | var i => simp only [plGet] at eg; split at eg <;> cases eg
    | fld i f => simp only [plGet] at eg; repeat (first | cases eg | split at eg)
  | ok x ω' =>
    obtain ⟨rfl, hcc, a, at_⟩ := PAt.of S eg
    clear hcc
    rw [eg] at h
    cases x <;> try exact h.elim
    rename_i xs
    obtain ⟨u, ha, ro⟩ := at_.ro S
    obtain ⟨vs, rfl, rv⟩ := ro.lst_of
    obtain ⟨ρ', ω2, e3, S3, E3⟩ := at_.put S (.lst rv.rev)
    have h : FP G W (plPut p (.lst xs.reverse) ρ ω') Z B H ι D := h
    rw [e3] at h
    exact h2 Z B H ι _ ρ σ _ a _ S at_ ⟨lsttyp ha, a, vs, rfl, rfl, ha, h _ Z ι σ E3 S3⟩

/-! ### x[k] = v -/
theorem RK.put {Z : Hp} {ι : List (Addr × Addr)} {kvs : List (Key × V)} {ps : List (PV × PV)} (h : RK G Z ι kvs ps) {k : Key} {v : V} {x : PV} (r : RV G Z ι v x) (hk : ∀ s, k = .inr s → okT s.cps.toList) : RK G Z ι (putK kvs k v) (PVL.put ps (kP k) x) := by
  have any_ : ∀ {kvs ps}, RK G Z ι kvs ps → (ps.any fun p => keyEq p.1 (kP k)) = (kvs.any fun kv => decide (kv.1 = k)) := by
    intro kvs ps h
    induction kvs generalizing ps with
    | nil => cases h; rfl
    | cons p kvs ih => cases h with | cons r1 h1 t => rw [List.any_cons, List.any_cons, keyEq_kP, ih t]
  have map_ : ∀ {kvs ps}, RK G Z ι kvs ps → RK G Z ι (kvs.map fun kv => if kv.1 = k then (kv.1, v) else kv) (ps.map fun p => if keyEq p.1 (kP k) then (p.1, x) else p) := by
    intro kvs ps h
    induction kvs generalizing ps with
    | nil => cases h; exact .nil
    | cons p kvs ih =>
      cases h with
      | @cons k1 v1 x1 _ _ r1 h1 t =>
        rw [List.map_cons, List.map_cons]
        by_cases e : k1 = k
        · rw [if_pos e, if_pos (by rw [keyEq_kP]; exact decide_eq_true e)]; exact .cons r h1 (ih t)
        · rw [if_neg e, if_neg (by rw [keyEq_kP]; simpa using e)]; exact .cons r1 h1 (ih t)
  have app_ : ∀ {kvs ps}, RK G Z ι kvs ps → RK G Z ι (kvs ++ [(k, v)]) (ps ++ [(kP k, x)]) := by
    intro kvs ps h
    induction kvs generalizing ps with
    | nil => cases h; exact .cons r hk .nil
    | cons p kvs ih => cases h with | cons r1 h1 t => exact .cons r1 h1 (ih t)
  unfold putK PVL.put
  rw [any_ h]
  split
  · exact map_ h
  · exact app_ h
theorem RT.put {Z : Hp} {ι : List (Addr × Addr)} {kvs : List (List Key × V)} {ps : List (PV × PV)} (h : RT G Z ι kvs ps) {k : List Key} {v : V} {x : PV} (r : RV G Z ι v x) (hk : ∀ s, Sum.inr s ∈ k → okT s.cps.toList) : RT G Z ι (putK kvs k v) (PVL.put ps (.tup (k.map kP)) x) := by
  have any_ : ∀ {kvs ps}, RT G Z ι kvs ps → (ps.any fun p => keyEq p.1 (.tup (k.map kP))) = (kvs.any fun kv => decide (kv.1 = k)) := by
    intro kvs ps h
    induction kvs generalizing ps with
    | nil => cases h; rfl
    | cons p kvs ih => cases h with | cons r1 h1 t => rw [List.any_cons, List.any_cons, keyEq_tP, ih t]
  have map_ : ∀ {kvs ps}, RT G Z ι kvs ps → RT G Z ι (kvs.map fun kv => if kv.1 = k then (kv.1, v) else kv) (ps.map fun p => if keyEq p.1 (.tup (k.map kP)) then (p.1, x) else p) := by
    intro kvs ps h
    induction kvs generalizing ps with
    | nil => cases h; exact .nil
    | cons p kvs ih =>
      cases h with
      | @cons k1 v1 x1 _ _ r1 h1 t =>
        rw [List.map_cons, List.map_cons]
        by_cases e : k1 = k
        · rw [if_pos e, if_pos (by rw [keyEq_tP]; exact decide_eq_true e)]; exact .cons r h1 (ih t)
        · rw [if_neg e, if_neg (by rw [keyEq_tP]; simpa using e)]; exact .cons r1 h1 (ih t)
  have app_ : ∀ {kvs ps}, RT G Z ι kvs ps → RT G Z ι (kvs ++ [(k, v)]) (ps ++ [(.tup (k.map kP), x)]) := by
    intro kvs ps h
    induction kvs generalizing ps with
    | nil => cases h; exact .cons r hk .nil
    | cons p kvs ih => cases h with | cons r1 h1 t => exact .cons r1 h1 (ih t)
  unfold putK PVL.put
  rw [any_ h]
  split
  · exact map_ h
  · exact app_ h
theorem putK_ne {κ : Type} [DecidableEq κ] (kvs : List (κ × V)) (k : κ) (v : V) : putK kvs k v ≠ [] := by
  unfold putK
  split
  · rename_i h
    intro z
    rw [List.map_eq_nil_iff] at z
    rw [z] at h
    cases h
  · simp
/-- one store into a container -/
theorem store_ok {Z H : Hp} {ι : List (Addr × Addr)} (sz : Sub Z H) {a : Addr} {u : HO} {x x' k v : PV} {kv w : V} (ha : H a = some u) (ro : RO G Z ι u x) (hk : RH G Z H ι kv k) (rw_ : RV G Z ι w v) (e : storeV x k v = some x') :
    ∃ u', RO G Z ι u' x' ∧ ∀ Q : Hp → Prop, Q (upd H a u') → rSetL (.ref a) kv w H Q ∨ rSetD (.ref a) kv w H Q := by
  cases x <;> simp only [storeV, reduceCtorEq] at e
  · rename_i xs
    cases k <;> simp only [reduceCtorEq, Option.map_eq_some_iff] at e
    rename_i i
    obtain ⟨j, h1, rfl⟩ := e
    obtain ⟨vs, rfl, rv⟩ := ro.lst_of
    rw [hk.int]
    exact ⟨_, .lst (rv.set j rw_), fun Q q => .inl ⟨a, vs, i, j, rfl, rfl, ha, by rw [rv.len]; exact h1, q⟩⟩
  · rename_i ps
    split at e
    · rename_i hf
      obtain ⟨hf, hl⟩ := hf
      cases e
      unfold keyFits at hf
      rw [Bool.or_eq_true] at hf
      rcases hf with hf | hf
      · rw [Bool.and_eq_true] at hf
        have hkr := hk.flat (by cases k <;> first | rfl | (simp [flatKey] at hf))
        obtain ⟨k0, rfl, rfl, hok⟩ := key_flat (H := H) hkr hf.1
        cases ro with
        | @dK kvs _ r => exact ⟨_, .dK (r.put rw_ hok), fun Q q => .inr ⟨a, _, rfl, .inl ⟨kvs, k0, ha, rfl, by rw [r.len, ← line_eq]; exact hl, rfl⟩, q⟩⟩
        | @dT kvs _ r ne =>
          exfalso
          cases r with
          | nil => exact ne rfl
          | cons _ _ _ => simp [flatKey] at hf
      · rw [Bool.and_eq_true, Bool.and_eq_true] at hf
        have hkr := hk.flat (by cases k <;> first | rfl | (simp [tupKey] at hf))
        cases k <;> simp only [tupKey, Bool.false_eq_true, false_and] at hf
        rename_i xs
        obtain ⟨b, us, rfl, hb, rr⟩ := hk.tup sz
        obtain ⟨ks, rfl, rfl, hok⟩ := keys_flat (H := H) rr hf.1.1
        cases ro with
        | @dK kvs _ r =>
          exfalso
          cases r with
          | nil => simp at hf
          | @cons k1 _ _ _ _ _ _ _ => cases k1 <;> simp [kP, tupKey] at hf
        | @dT kvs _ r ne => exact ⟨_, .dT (r.put rw_ hok) (putK_ne _ _ _), fun Q q => .inr ⟨a, _, rfl, .inr ⟨kvs, ks, b, ha, rfl, hb, by rw [r.len, ← line_eq]; exact hl, rfl⟩, q⟩⟩
    · cases e
theorem sp_put {k : Expr} {ik : E} {pos' pos : Pos} (hu : X.A.units + 1 < cLine) (hp : PlR X G p o) (hk : PE X k (tE G W ik)) (he : PE X e (tE G W ie))
    (ha : ∀ v, assign (.Subscript o k pos') X.env v = (do
      let ov ← holding [v] (eval o X.env)
      let iv ← holding [v, ov] (eval k X.env)
      standAt pos'
      holding [v, ov, iv] (setItem ov iv v)
      release [v, ov, iv] []))
    (hs : swapsWithSole [.Subscript o k pos'] e pos.line X.env = pure false) (hw : swappedStores [.Subscript o k pos'] e X.env = pure none) (h1 : (assignEach [.Subscript o k pos'] X.env).map (·.2) = [assign (.Subscript o k pos') X.env]) :
    PS X (.Assign [.Subscript o k pos'] e pos) (tS G W (.put p ik ie)) := by
  obtain ⟨to, t1, t2⟩ := hp
  have st : PSet X (fun o i v H Q => rSetL o i v H Q ∨ rSetD o i v H Q) := fun pins s σ H o i v ov iv u Q I ro ri rv q => q.elim (set_list pins s σ H o i v ov iv u Q I ro ri rv) (set_dict hu pins s σ H o i v ov iv u Q I ro ri rv)
  refine PS.imp (ps_asg he (pg_sub t1 hk st ha) hs hw h1) fun D σ H h => ?_
  obtain ⟨Z, B, ι, ω, ρ, S, h⟩ := h
  unfold ex at h
  refine ⟨Z, B, ι, ω, ρ, S, h.to.mono (fun v ω1 h1 w H1 Z1 ι1 E1 S1 o1 p1 => ?_) fun _ _ _ q => q⟩
  split at h1
  · rename_i hc
    rw [Bool.and_eq_true, Bool.and_eq_true] at hc
    obtain ⟨Z2, E2, S2, r2⟩ := o1.keep S1 hc.1.1
    obtain ⟨x, ω', eg, hC⟩ := plIs_of hc.2
    obtain ⟨rfl, _, a, at_⟩ := PAt.of S2 eg
    refine t2 Z2 B H1 ι1 _ ρ σ _ a _ S2 at_ ?_
    have h1 := (h1.on (E1.trans E2).pb).to (ρ := ρ) (σ := σ)
    refine tE.next S2 h1 fun kk ω3 h3 kv H3 Z3 ι3 E3 S3 l3 _ p3 => ?_
    obtain ⟨at3, ea⟩ := at_.stay S2 E3 (quiet hc.1.2 p3)
    rw [at3.get] at h3
    obtain ⟨u, ha3, ro3⟩ := at3.ro S3
    have h3 : FP G W (match storeV x kk.1 v.1 with | some x => plPut p x ρ ω3 | none => .bad) Z2 B H1 ι1 D := h3
    cases es : storeV x kk.1 v.1 with
    | none => rw [es] at h3; exact h3.elim
    | some x' =>
      rw [es] at h3
      have h3 : FP G W (plPut p x' ρ ω3) Z2 B H1 ι1 D := h3
      obtain ⟨u', ro', go⟩ := store_ok S3.zH ha3 ro3 (l3.rh S3) (r2.mono E3.z E3.i) es
      obtain ⟨ρ', ω4, e4, S4, E4⟩ := at3.put S3 ro'
      rw [e4] at h3
      exact go _ (h3 _ Z3 ι3 σ (E3.pb.trans E4) S4)
  · exact h1.elim
end
end PVS

set_option maxHeartbeats 1000000
/-! PVS: pop, insert, op= of an item. -/
namespace PVS
open PySem L2 TL PVL
section
variable {X : Cx} {G : GS} {W : WX} {p : Pl} {o e : Expr} {ie : E}
theorem RK.drop {Z : Hp} {ι : List (Addr × Addr)} {kvs : List (Key × V)} {ps : List (PV × PV)} (h : RK G Z ι kvs ps) (k : Key) : RK G Z ι (dropK kvs k) (PVL.drop ps (kP k)) := by
  induction kvs generalizing ps with
  | nil => cases h; exact .nil
  | cons p kvs ih =>
    cases h with
    | @cons k1 v1 x1 _ _ r1 h1 t =>
      unfold dropK PVL.drop
      rw [List.filter_cons, List.filter_cons, keyEq_kP]
      by_cases e : k1 = k
      · rw [if_neg (by simpa using e), if_neg (by simpa using e)]; exact ih t
      · rw [if_pos (by simpa using e), if_pos (by simpa using e)]; exact .cons r1 h1 (ih t)
variable (G W) in
/-- what is told by pop, the place changed -/
def tPp (p : Pl) (es : Es) : TE := fun σ H Q => ∃ Z B ι ω ρ, Sim G Z B H ι ω ρ σ ∧ plEs p es = true ∧ (∃ x, plGet p ρ ω = .ok x ω) ∧
  RP (evK es ρ ω) (fun ks ω1 => ∃ x y x', plGet p ρ ω1 = .ok x ω1 ∧ popV x ks = some (y, x') ∧ ∀ ρ' ω2, plPut p x' ρ ω1 = .nx ρ' ω2 → ∀ v H' Z' ι', Ext Z Z' (PB B) ι ι' H H' → Sim G Z' B H' ι' ω2 ρ' σ → RV G Z' ι' v y → Q v H') (QX G W Z B H ι ρ σ)
theorem popV_nil {x y x' : PV} (e : popV x [] = some (y, x')) : ∃ xs, x = .lst xs ∧ xs[xs.length - 1]? = some y ∧ x' = .lst xs.dropLast := by
  cases x <;> simp only [popV, reduceCtorEq, Option.map_eq_some_iff, Prod.mk.injEq] at e
  obtain ⟨z, h1, rfl, rfl⟩ := e
  exact ⟨_, rfl, h1, rfl⟩
theorem se_pop0 {p0 cpos : Pos} (hp : PlR X G p o) (hbase : attributeBase o "pop" X.env (eval o X.env) = eval o X.env) (hline : (p0.endLine == cpos.line) = true) : PE X (.Call (.Attribute o "pop" p0) [] [] cpos) (tPp G W p .nil) := by
  obtain ⟨to, h1, h2⟩ := hp
  refine PE.imp (pe_bm0 PySem.F.plainAttrs_list PySem.F.slot_list_pop PySem.F.type_list_pop mt_pop h1 hbase hline) fun σ H Q h => ?_
  obtain ⟨Z, B, ι, ω, ρ, S, hq, _, h⟩ := h
  unfold evK at h
  obtain ⟨x, y, x', eg, ep, k⟩ := (show ∃ x y x', _ from h)
  obtain ⟨_, _, a, at_⟩ := PAt.of S eg
  obtain ⟨xs, rfl, hl, rfl⟩ := popV_nil ep
  obtain ⟨u, ha, ro⟩ := at_.ro S
  obtain ⟨vs, rfl, rv⟩ := ro.lst_of
  obtain ⟨v, e1, r1⟩ := rv.get hl
  obtain ⟨ρ', ω2, e3, S3, E3⟩ := at_.put S (.lst rv.dropLast)
  exact h2 Z B H ι _ ρ σ _ a _ S at_ ⟨lsttyp ha, a, vs, v, rfl, rfl, ha, by rw [rv.len]; exact e1, k ρ' ω2 e3 v _ Z ι E3 S3 r1⟩
theorem se_pop1 {p0 cpos : Pos} (hp : PlR X G p o) (he : PE X e (tE G W ie)) (m : M1 X o "pop" p0 e cpos) (hs : starEach [e] X.env = [(false, eval e X.env)]) : PE X (.Call (.Attribute o "pop" p0) [e] [] cpos) (tPp G W p (.cons ie .nil)) := by
  obtain ⟨to, h1, h2⟩ := hp
  have P1 := pe_bm (cpos := cpos) PySem.F.plainAttrs_list PySem.F.slot_list_pop PySem.F.type_list_pop mt_popAt h1 (pa_cons he pa_nil hs) m.base m.few m.line hs (by rw [show starEach [] X.env = [] from rfl]; rfl)
  have P2 := pe_dpop1 (cpos := cpos) h1 he m
  refine PE.imp (PE.or P1 P2) fun σ H Q h => ?_
  obtain ⟨Z, B, ι, ω, ρ, S, hq, ⟨x0, eg0⟩, h⟩ := h
  unfold evK evK at h
  obtain ⟨_, hC, a, at0⟩ := PAt.of S eg0
  obtain ⟨u0, ha0, ro0⟩ := at0.ro S
  have hq' : ∀ {H1 : Hp} {ω1 : PVL.Store} {ι1 : List (Addr × Addr)}, Pu (pureE ie) H H1 ω ω1 ι ι1 → (∃ i, p = .var i) ∨ (Same H H1 ∧ ω1 = ω ∧ ι1 = ι) := fun {H1 ω1 ι1} pu => by
    cases p with
    | var i => exact .inl ⟨i, rfl⟩
    | fld i f =>
      refine .inr (pu ?_)
      have hq : pureEs (.cons ie .nil) = true := hq
      unfold pureEs pureEs at hq
      rw [Bool.and_true] at hq
      exact hq
  cases x0 <;> try cases hC
  · rename_i xs0
    obtain ⟨vs0, rfl, rv0⟩ := ro0.lst_of
    refine .inl (h2 Z B H ι _ ρ σ _ a _ S at0 ⟨lsttyp ha0, Z, B, ι, ω, ρ, S, h.bind.mono (fun kk ω1 h1 w H1 Z1 ι1 E1 S1 o1 p1 => ?_) fun _ _ _ q => q⟩)
    cases hk : keeps kk with
    | false => rw [hk] at h1; exact h1.elim
    | true =>
      rw [hk] at h1
      obtain ⟨x, y, x', eg, ep, k⟩ := (show ∃ x y x', _ from h1)
      obtain ⟨Z2, E2, S2, r2⟩ := o1.keep S1 hk
      obtain ⟨at1, ea⟩ := at0.stay S (E1.trans E2) (hq' p1)
      rw [at1.get] at eg
      cases eg
      obtain ⟨kx, km⟩ := kk
      cases kx <;> simp only [popV, reduceCtorEq] at ep
      rename_i i
      split at ep
      · rename_i hb
        cases ei : ixAt xs0.length i with
        | none => rw [ei] at ep; cases ep
        | some j =>
          rw [ei] at ep
          simp only [Option.bind_some, Option.map_eq_some_iff, Prod.mk.injEq] at ep
          obtain ⟨z, hz, rfl, rfl⟩ := ep
          have rv1 := rv0.mono (E1.trans E2).z (E1.trans E2).i
          obtain ⟨v, e1, r1⟩ := rv1.get hz
          obtain ⟨ρ', ω2, e3, S3, E3⟩ := at1.put S2 (.lst (rv1.erase j))
          have ew : w = .int i := by cases r2; rfl
          subst ew
          obtain ⟨q1, q2, q3, q4⟩ := ixN_seq (show L2.ixN vs0.length i = some j by rw [rv0.len]; exact ei)
          exact ⟨a, vs0, i, j, v, rfl, rfl, by rw [ea, ha0], by omega, by omega, q1, e1, k ρ' ω2 e3 v _ Z2 ι1 ((E1.trans E2).pb.trans E3) S3 r1⟩
      · cases ep
  · rename_i ps0
    have isd : IsD H a := by
      cases ro0 with
      | dK r => exact .inl ⟨_, .inl ha0⟩
      | dT r ne => exact .inr ⟨_, .inl ha0⟩
    refine .inr (h2 Z B H ι _ ρ σ _ a _ S at0 ⟨a, rfl, isd, Z, B, ι, ω, ρ, S, h.bind.mono (fun kk ω1 h1 w H1 Z1 ι1 E1 S1 o1 p1 => ?_) fun _ _ _ q => q⟩)
    cases hk : keeps kk with
    | false => rw [hk] at h1; exact h1.elim
    | true =>
      rw [hk] at h1
      obtain ⟨x, y, x', eg, ep, k⟩ := (show ∃ x y x', _ from h1)
      obtain ⟨Z2, E2, S2, r2⟩ := o1.keep S1 hk
      obtain ⟨at1, ea⟩ := at0.stay S (E1.trans E2) (hq' p1)
      rw [at1.get] at eg
      cases eg
      obtain ⟨kx, km⟩ := kk
      have ep : (if flatKey kx ∧ (ps0.all fun p => flatKey p.1) then (look ps0 kx).map fun y => (y, .dic (PVL.drop ps0 kx)) else none) = some (y, x') := ep
      split at ep
      · rename_i hb
        rw [Option.map_eq_some_iff] at ep
        obtain ⟨z, hz, hzz⟩ := ep
        cases hzz
        obtain ⟨k0, rfl, rfl, hok⟩ := key_flat (H := H1) r2 hb.1
        obtain ⟨u1, ha1, ro1⟩ := at1.ro S2
        cases ro1 with
        | @dK kvs _ r =>
          obtain ⟨v, e1, r1⟩ := (r.look k0).1 _ hz
          obtain ⟨ρ', ω2, e3, S3, E3⟩ := at1.put S2 (.dK (r.drop k0))
          exact ⟨kvs, k0, v, ha1, rfl, e1, k ρ' ω2 e3 v _ Z2 ι1 ((E1.trans E2).pb.trans E3) S3 r1⟩
        | @dT kvs _ r ne =>
          exfalso
          cases r with
          | nil => exact ne rfl
          | cons _ _ _ => simp [flatKey] at hb
      · cases ep
theorem plPut_nx {x' : PV} {x : PV} {ρ : PVL.Env} {ω ω' : PVL.Store} (e : plGet p ρ ω = .ok x ω') : ∃ ρ' ω2, plPut p x' ρ ω = .nx ρ' ω2 := by
  cases p with
  | var i => exact ⟨_, _, rfl⟩
  | fld i f =>
    simp only [plGet] at e
    cases eg : getV ρ i with
    | none => rw [eg] at e; cases e
    | some r =>
      obtain ⟨y, m⟩ := r
      rw [eg] at e
      cases y with
      | obj n => exact ⟨ρ, PVL.setF ω n f x', by simp only [plPut, eg]⟩
      | _ => cases e
theorem pop_read {is : List Nat} {es : Es} {Z B H : Hp} {ι : List (Addr × Addr)} {ω : PVL.Store} {ρ : PVL.Env} {σ : St} {D : Ends} {Q : VK} (S : Sim G Z B H ι ω ρ σ) (h : FP G W (ex (.pop is p es) ρ ω) Z B H ι D)
    (go : ∀ (y : PV) (ρ' : PVL.Env) (ω2 : PVL.Store) (v : V) (H' Z' : Hp) (ι' : List (Addr × Addr)), Ext Z Z' (PB B) ι ι' H H' → Sim G Z' B H' ι' ω2 ρ' σ → RV G Z' ι' v y → FP G W (if is = [] then .nx ρ' ω2 else (match assignT ρ' is y with | some ρ => .nx ρ ω2 | none => .bad)) Z B H ι D → Q v H') : tPp G W p es σ H Q := by
  unfold ex at h
  split at h
  · rename_i hq
    cases eg : plGet p ρ ω with
    | bad => rw [eg] at h; exact h.elim
    | exc c ys ω' =>
      exfalso
      cases p with
      | var i => simp only [plGet] at eg; split at eg <;> cases eg
      | fld i f => simp only [plGet] at eg; repeat (first | cases eg | split at eg)
    | ok x ω' =>
      obtain ⟨rfl, _, a, at_⟩ := PAt.of S eg
      rw [eg] at h
      refine ⟨Z, B, ι, _, ρ, S, hq, ⟨x, eg⟩, (show FP G W ((evK es ρ ω').to ρ _) Z B H ι D from h).to.mono (fun ks ω1 h1 => ?_) fun _ _ _ q => q⟩
      cases eg1 : plGet p ρ ω1 with
      | bad => rw [eg1] at h1; exact h1.elim
      | exc c ys ω' =>
        exfalso
        cases p with
        | var i => simp only [plGet] at eg1; split at eg1 <;> cases eg1
        | fld i f => simp only [plGet] at eg1; repeat (first | cases eg1 | split at eg1)
      | ok x1 ω'' =>
        have e0 : ω'' = ω1 := by
          cases p with
          | var i => simp only [plGet] at eg1; split at eg1 <;> cases eg1; rfl
          | fld i f => simp only [plGet] at eg1; repeat (first | (cases eg1; rfl) | cases eg1 | split at eg1)
        subst e0
        rw [eg1] at h1
        have h1 : FP G W (match popV x1 ks with
          | some (y, x) => (plPut p x ρ ω'').seq fun ρ ω => if is = [] then .nx ρ ω else (match assignT ρ is y with | some ρ => .nx ρ ω | none => .bad)
          | none => .bad) Z B H ι D := h1
        cases ep : popV x1 ks with
        | none => rw [ep] at h1; exact h1.elim
        | some yx =>
          obtain ⟨y, x'⟩ := yx
          rw [ep] at h1
          refine ⟨x1, y, x', rfl, ep, fun ρ' ω2 e3 v H' Z' ι' E' S' r' => go y ρ' ω2 v H' Z' ι' E' S' r' ?_⟩
          have h1 : FP G W ((plPut p x' ρ ω'').seq fun ρ ω => if is = [] then .nx ρ ω else (match assignT ρ is y with | some ρ => .nx ρ ω | none => .bad)) Z B H ι D := h1
          rw [e3] at h1
          exact h1
  · exact h.elim
theorem sp_pop {c : Expr} {es : Es} {pos : Pos} (hc : PE X c (tPp G W p es)) (hs : swapsWith c none pos.line X.env = pure false) : PS X (.Expr c pos) (tS G W (.pop [] p es)) := by
  refine PS.imp (ps_expr hc hs) fun D σ H h => ?_
  obtain ⟨Z, B, ι, ω, ρ, S, h⟩ := h
  exact pop_read S h fun y ρ' ω2 v H' Z' ι' E' S' r' h' => h' H' Z' ι' σ E' S'
theorem sp_popT {tg c : Expr} {is : List Nat} {es : Es} {pos : Pos} (hc : PE X c (tPp G W p es)) (hg : TgOk X G tg is) (hi : is ≠ []) (hs : swapsWithSole [tg] c pos.line X.env = pure false) (hw : swappedStores [tg] c X.env = pure none)
    (h1 : (assignEach [tg] X.env).map (·.2) = [assign tg X.env]) : PS X (.Assign [tg] c pos) (tS G W (.pop is p es)) := by
  obtain ⟨g, g1, g2⟩ := hg
  refine PS.imp (ps_asg hc g1 hs hw h1) fun D σ H h => ?_
  obtain ⟨Z, B, ι, ω, ρ, S, h⟩ := h
  refine pop_read S h fun y ρ' ω2 v H' Z' ι' E' S' r' h' => ?_
  rw [if_neg hi] at h'
  cases ea : assignT ρ' is y with
  | none => rw [ea] at h'; exact h'.elim
  | some ρ2 =>
    rw [ea] at h'
    exact g2 Z' B H' ι' ω2 ρ' σ v y ρ2 _ S' r' ea fun σ' S2 _ => h' H' Z' ι' σ' E' S2
/-- xs.append(ys.pop(e)), both names -/
theorem sp_appPop {i j : Nat} {x y : Str} {px py p0 p1 c0 c1 pos : Pos} (hix : X.N[i]? = some x) (hvx : Vis X.env.scope x) (hdx : (x == ("__debug__" : Str)) = false) (hcx : (x == ("__classdict__" : Str)) = false)
    (hiy : X.N[j]? = some y) (hvy : Vis X.env.scope y) (hdy : (y == ("__debug__" : Str)) = false) (hcy : (y == ("__classdict__" : Str)) = false) (he : PE X e (tE G W ie)) (m : M1 X (.Name y py) "pop" p1 e c1) (hs : starEach [e] X.env = [(false, eval e X.env)])
    (m2 : M1 X (.Name x px) "append" p0 (.Call (.Attribute (.Name y py) "pop" p1) [e] [] c1) c0) (hs2 : starEach [.Call (.Attribute (.Name y py) "pop" p1) [e] [] c1] X.env = [(false, eval (.Call (.Attribute (.Name y py) "pop" p1) [e] [] c1) X.env)])
    (hsw : swapsWith (.Call (.Attribute (.Name x px) "append" p0) [.Call (.Attribute (.Name y py) "pop" p1) [e] [] c1] [] c0) none pos.line X.env = pure false) :
    PS X (.Expr (.Call (.Attribute (.Name x px) "append" p0) [.Call (.Attribute (.Name y py) "pop" p1) [e] [] c1] [] c0) pos) (tS G W (.appPop i j ie)) := by
  have P1 := pe_bm (cpos := c1) PySem.F.plainAttrs_list PySem.F.slot_list_pop PySem.F.type_list_pop mt_popAt (pe_var (pos := py) hiy hvy hdy hcy) (pa_cons he pa_nil hs) m.base m.few m.line hs (by rw [show starEach [] X.env = [] from rfl]; rfl)
  have P2 := pe_bm (cpos := c0) PySem.F.plainAttrs_list PySem.F.slot_list_append PySem.F.type_list_append mt_append (pe_var (pos := px) hix hvx hdx hcx) (pa_cons P1 pa_nil hs2) m2.base m2.few m2.line hs2 (by rw [show starEach [] X.env = [] from rfl]; rfl)
  refine PS.imp (ps_expr P2 hsw) fun D σ H h => ?_
  obtain ⟨Z, B, ι, ω, ρ, S, h⟩ := h
  unfold ex at h
  split at h
  · rename_i hc
    rw [Bool.and_eq_true, Bool.and_eq_true] at hc
    obtain ⟨⟨hij, hl1⟩, hl2⟩ := hc
    have hij : i ≠ j := by simpa using hij
    obtain ⟨xx, ω', eg, hL⟩ := plIs_of hl1
    obtain ⟨xs, rfl⟩ := isL_of hL
    obtain ⟨rfl, _, a, ata⟩ := PAt.of S eg
    obtain ⟨yy, ω', eg2, hL2⟩ := plIs_of hl2
    obtain ⟨ys, rfl⟩ := isL_of hL2
    obtain ⟨rfl, _, b, atb⟩ := PAt.of S eg2
    obtain ⟨u, ha, ro⟩ := ata.ro S
    obtain ⟨vs, rfl, rv⟩ := ro.lst_of
    obtain ⟨u2, hb, ro2⟩ := atb.ro S
    obtain ⟨ws, rfl, rw2⟩ := ro2.lst_of
    refine ⟨.ref a, ata.2, lsttyp ha, .ref b, atb.2, lsttyp hb, Z, B, ι, _, ρ, S, h.to.mono (fun kk ω1 h1 w H1 Z1 ι1 E1 S1 o1 p1 => ?_) fun _ _ _ q => q⟩
    obtain ⟨Z2, E2, S2, l2, hr2⟩ := o1.settle S1
    clear hr2
    obtain ⟨ata1, ea⟩ := ata.stay (ω' := ω1) S (E1.trans E2) (.inl ⟨_, rfl⟩)
    obtain ⟨atb1, eb⟩ := atb.stay (ω' := ω1) S (E1.trans E2) (.inl ⟨_, rfl⟩)
    rw [ata.1, atb.1] at h1
    have h1 : FP G W (match popV (.lst ys) [kk.1] with
      | some (y, x) => if xs.length < line then .nx (setV (setV ρ j (x, .own)) i (.lst (xs ++ [y]), .own)) ω1 else .bad
      | none => .bad) Z B H ι D := h1
    obtain ⟨kx, km⟩ := kk
    cases ep : popV (.lst ys) [kx] with
    | none => rw [ep] at h1; exact h1.elim
    | some yx =>
      rw [ep] at h1
      obtain ⟨y1, x1⟩ := yx
      have h1 : FP G W (if xs.length < line then .nx (setV (setV ρ j (x1, .own)) i (.lst (xs ++ [y1]), .own)) ω1 else .bad) Z B H ι D := h1
      split at h1
      · rename_i hlen
        have h2 := h1
        cases kx with
        | int n =>
        simp only [popV] at ep
        split at ep
        · rename_i hbd
          cases ei : ixAt ys.length n with
          | none => rw [ei] at ep; cases ep
          | some jj =>
            rw [ei] at ep
            simp only [Option.bind_some, Option.map_eq_some_iff, Prod.mk.injEq] at ep
            obtain ⟨z, hz, rfl, rfl⟩ := ep
            have rw3 := rw2.mono (E1.trans E2).z (E1.trans E2).i
            have rv3 := rv.mono (E1.trans E2).z (E1.trans E2).i
            obtain ⟨v, e1, r1⟩ := rw3.get hz
            have S3 := S2.mutS atb1.1 atb1.2 (.lst (rw3.erase jj))
            obtain ⟨kb, okb⟩ := atb1.own S2
            have ne : a ≠ b := fun z => by
              subst z
              have := S2.inj (.slot i) (.slot j) a ⟨⟨_, getV_some.mp ata1.1⟩, ata1.2⟩ ⟨⟨_, getV_some.mp atb1.1⟩, atb1.2⟩
              exact hij (Ow.slot.inj this)
            have g3 : getV (setV ρ j (.lst (ys.eraseIdx jj), .own)) i = some (.lst xs, .own) := by
              have := getV_some.mp ata1.1
              rw [getV_some]; unfold setV; rw [List.getElem?_set_ne (Ne.symm hij)]; exact this
            have S4 := S3.mutS g3 ata1.2 (.lst (rv3.snoc r1))
            have at3 : PAt G (upd H1 b (.lst (ws.eraseIdx jj))) ι1 ω1 (setV ρ j (.lst (ys.eraseIdx jj), .own)) σ (.var i) (.lst xs) a := ⟨g3, ata1.2⟩
            obtain ⟨ka, oka⟩ := at3.own S3
            have ew : w = .int n := (l2.rh S2).int
            subst ew
            obtain ⟨q1, q2, q3, q4⟩ := ixN_seq (show L2.ixN ws.length n = some jj by rw [rw2.len]; exact ei)
            exact ⟨b, ws, n, jj, v, rfl, rfl, by rw [eb, hb], by omega, by omega, q1, e1, a, vs, v, rfl, rfl, by rw [upd_ne ne, ea, ha], by rw [rv.len, ← line_eq]; exact hlen,
              h2 (upd (upd H1 b (.lst (ws.eraseIdx jj))) a (.lst (vs ++ [v]))) Z2 ι1 σ ((E1.trans E2).pb.trans ((Ext.mutS S2 okb).trans (Ext.mutS S3 oka))) S4⟩
        · cases ep
        | _ => cases ep
      · exact h1.elim
  · exact h.elim
end
end PVS

set_option maxHeartbeats 1000000
/-! PVS: sorted. -/
namespace PVS
open PySem L2 TL PVL
section
mutual
theorem alike_pd : ∀ {x y : PV} {n m : Nat}, deep x = some n → deep y = some m → alikeV x y = true → PySem.W.alike (toPD x) (toPD y) = true
  | .bl _, y, _, _, _, _, h => by cases y <;> simp only [alikeV, Bool.false_eq_true] at h; simp only [toPD, PySem.W.alike]
  | .int _, y, _, _, _, _, h => by cases y <;> simp only [alikeV, Bool.false_eq_true] at h; simp only [toPD, PySem.W.alike]
  | .str _, y, _, _, _, _, h => by cases y <;> simp only [alikeV, Bool.false_eq_true] at h; simp only [toPD, PySem.W.alike]
  | .tup xs, y, _, _, h1, h2, h => by
    cases y <;> simp only [alikeV, Bool.false_eq_true] at h
    simp only [deep, Option.map_eq_some_iff] at h1 h2
    obtain ⟨a, e1, _⟩ := h1
    obtain ⟨b, e2, _⟩ := h2
    simp only [toPD, PySem.W.alike]
    exact alikes_pd e1 e2 h
  | .lst xs, y, _, _, h1, h2, h => by
    cases y <;> simp only [alikeV, Bool.false_eq_true] at h
    simp only [deep, Option.map_eq_some_iff] at h1 h2
    obtain ⟨a, e1, _⟩ := h1
    obtain ⟨b, e2, _⟩ := h2
    simp only [toPD, PySem.W.alike]
    exact alikes_pd e1 e2 h
  | .non, _, _, _, _, _, h => by simp [alikeV] at h
  | .dic _, _, _, _, _, _, h => by simp [alikeV] at h
  | .obj _, _, _, _, _, _, h => by simp [alikeV] at h
  | .exc _ _, _, _, _, _, _, h => by simp [alikeV] at h
theorem alikes_pd : ∀ {xs ys : List PV} {n m : Nat}, deeps xs = some n → deeps ys = some m → alikeVs xs ys = true → PySem.W.alikeAll (toPDs xs) (toPDs ys) = true
  | [], ys, _, _, _, _, _ => by cases ys <;> simp only [toPDs, PySem.W.alikeAll]
  | x :: xs, [], _, _, _, _, _ => by simp only [toPDs, PySem.W.alikeAll]
  | x :: xs, y :: ys, _, _, h1, h2, h => by
    simp only [deeps, Option.bind_eq_some_iff, Option.map_eq_some_iff] at h1 h2
    obtain ⟨a, e1, b, e2, _⟩ := h1
    obtain ⟨c, e3, d, e4, _⟩ := h2
    simp only [alikeVs, Bool.and_eq_true] at h
    simp only [toPDs, PySem.W.alikeAll, Bool.and_eq_true]
    exact ⟨alike_pd e1 e3 h.1, alikes_pd e2 e4 h.2⟩
end
mutual
theorem lt_pd : ∀ {x y : PV} {n m : Nat}, deep x = some n → deep y = some m → alikeV x y = true → PySem.W.dataLt (toPD x) (toPD y) = ltV x y
  | .bl a, y, _, _, _, _, h => by
    cases y <;> simp only [alikeV, Bool.false_eq_true] at h
    simp only [toPD, PySem.W.dataLt_bool, ltV]
    rename_i b _
    cases a <;> cases b <;> first | rfl | decide
  | .int _, y, _, _, _, _, h => by cases y <;> simp only [alikeV, Bool.false_eq_true] at h; simp only [toPD, PySem.W.dataLt_int, ltV]
  | .str _, y, _, _, _, _, h => by cases y <;> simp only [alikeV, Bool.false_eq_true] at h; simp only [toPD, PySem.W.dataLt_str, ltV]; exact dec_lt _ _
  | .tup xs, y, _, _, h1, h2, h => by
    cases y <;> simp only [alikeV, Bool.false_eq_true] at h
    simp only [deep, Option.map_eq_some_iff] at h1 h2
    obtain ⟨a, e1, _⟩ := h1
    obtain ⟨b, e2, _⟩ := h2
    simp only [toPD, PySem.W.dataLt_tuple, ltV]
    exact lts_pd e1 e2 h
  | .lst xs, y, _, _, h1, h2, h => by
    cases y <;> simp only [alikeV, Bool.false_eq_true] at h
    simp only [deep, Option.map_eq_some_iff] at h1 h2
    obtain ⟨a, e1, _⟩ := h1
    obtain ⟨b, e2, _⟩ := h2
    simp only [toPD, PySem.W.dataLt_list, ltV]
    exact lts_pd e1 e2 h
  | .non, _, _, _, _, _, h => by simp [alikeV] at h
  | .dic _, _, _, _, _, _, h => by simp [alikeV] at h
  | .obj _, _, _, _, _, _, h => by simp [alikeV] at h
  | .exc _ _, _, _, _, _, _, h => by simp [alikeV] at h
theorem lts_pd : ∀ {xs ys : List PV} {n m : Nat}, deeps xs = some n → deeps ys = some m → alikeVs xs ys = true → PyProof.Rows.lexLt PyProof.Rows.itemOrd (PySem.W.keyToksAll (toPDs xs)) (PySem.W.keyToksAll (toPDs ys)) = ltVs xs ys
  | [], [], _, _, _, _, _ => PyProof.Rows.lex_irrefl _
  | [], y :: ys, _, _, _, _, _ => by
    simp only [toPDs, ltVs]
    rw [PySem.W.toks_all_cons]
    simp only [PySem.W.keyToksAll]
    rw [PyProof.Rows.lex_diff (O := PyProof.Rows.itemOrd) (by simp)]
    simp [PyProof.Rows.itemLt]
  | x :: xs, [], _, _, _, _, _ => by
    simp only [toPDs, ltVs]
    rw [PySem.W.toks_all_cons]
    simp only [PySem.W.keyToksAll]
    rw [PyProof.Rows.lex_diff (O := PyProof.Rows.itemOrd) (by simp)]
    simp [PyProof.Rows.itemLt]
  | x :: xs, y :: ys, _, _, h1, h2, h => by
    simp only [deeps, Option.bind_eq_some_iff, Option.map_eq_some_iff] at h1 h2
    obtain ⟨a, e1, b, e2, _⟩ := h1
    obtain ⟨c, e3, d, e4, _⟩ := h2
    simp only [alikeVs, Bool.and_eq_true] at h
    simp only [toPDs, ltVs]
    rw [PySem.W.dataLt_cons (alike_pd e1 e3 h.1), lts_pd e2 e4 h.2, ← eqv_pd e1 e3]
    split
    · rfl
    · exact lt_pd e1 e3 h.1
end
theorem each_get {α β : Type} {R : α → β → Prop} : ∀ {as : List α} {bs : List β}, PySem.W.EachIs R as bs → ∀ {b : β}, b ∈ bs → ∃ a, R a b
  | _, _, .cons h t, b, hb => by
    rcases List.mem_cons.mp hb with rfl | hb
    · exact ⟨_, h⟩
    · exact each_get t hb
end
section
variable {X : Cx} {G : GS} {W : WX}
/-- values, machine's and plain -/
def RU (G : GS) (Z : Hp) (ι : List (Addr × Addr)) (v : Value) (x : PV) : Prop := ∃ u : V, RelV u v ∧ RV G Z ι u x
theorem each_of {Z : Hp} {ι : List (Addr × Addr)} : ∀ {vs : List V} {us : List Value} {xs : List PV}, Vals vs us → RVs G Z ι vs xs → PySem.W.EachIs (RU G Z ι) us xs
  | _, _, _, .nil, .nil => .nil
  | _, _, _, .cons r t, .cons q s => .cons ⟨_, r, q⟩ (each_of t s)
theorem of_each {Z : Hp} {ι : List (Addr × Addr)} : ∀ {us : List Value} {xs : List PV}, PySem.W.EachIs (RU G Z ι) us xs → ∃ vs, Vals vs us ∧ RVs G Z ι vs xs
  | _, _, .nil => ⟨[], .nil, .nil⟩
  | _, _, .cons ⟨v, r, q⟩ t => by
    obtain ⟨vs, h1, h2⟩ := of_each t
    exact ⟨v :: vs, .cons r h1, .cons q h2⟩
theorem reads_of {Z H : Hp} {ι : List (Addr × Addr)} {pins : List (Addr × Obj)} {σ : St} {s : Shared} (hK : G.K = X.K) (I : Inv X pins σ H s) (sz : Sub Z H) : ∀ {vs : List V} {us : List Value} {xs : List PV}, Vals vs us → RVs G Z ι vs xs → (∀ x ∈ xs, ∃ n, deep x = some n) →
    PySem.W.EachIs (fun v b => ∃ as, Reads s.heap v (toPD b) as) us xs
  | _, _, _, .nil, .nil, _ => .nil
  | _, _, _, .cons r t, .cons q qs, h => by
    obtain ⟨n, e⟩ := h _ (List.mem_cons_self ..)
    exact .cons (Dp.reads I _ _ _ (q.dp sz hK e) r) (reads_of hK I sz t qs fun x hx => h x (List.mem_cons_of_mem _ hx))
theorem merge_congr {α : Type} {r s : α → α → Bool} {l : List α} (h : ∀ a ∈ l, ∀ b ∈ l, r a b = s a b) : l.mergeSort r = l.mergeSort s := PySem.W.sort_congr h
theorem b_sortL (hK : G.K = X.K) (hu : X.A.units + 64 < cLine) : CallR X (.builtin "sorted") (rF G (fun xs => match xs with
    | [.lst ys] => sortV ys
    | _ => none) .own) := by
  intro pins s σ H vs us Q I rv h
  obtain ⟨Z, ι, xs, z, sz, r, e, k⟩ := h
  match xs, e, r with
  | [.lst ys], e, r =>
    obtain ⟨v, rfl, r1⟩ := r.one
    obtain ⟨a, ws, rfl, h1, r2⟩ := r1
    have e : sortV ys = some z := e
    unfold sortV at e
    split at e
    · rename_i hok
      cases e
      unfold sortOk at hok
      rw [Bool.and_eq_true, Bool.and_eq_true] at hok
      obtain ⟨⟨hal, hsh⟩, hdp⟩ := hok
      have hal : ∀ x ∈ ys, ∀ y ∈ ys, alikeV x y = true := fun x hx y hy => List.all_eq_true.mp (List.all_eq_true.mp hal x hx) y hy
      have hdp : ∀ x ∈ ys, ∃ n, deep x = some n ∧ n ≤ 60 := fun x hx => by
        have := List.all_eq_true.mp hdp x hx
        cases ed : deep x with
        | none => rw [ed] at this; cases this
        | some n => rw [ed] at this; exact ⟨n, rfl, of_decide_eq_true this⟩
      obtain ⟨its, rvv, hl, hz⟩ := I.list (.inl h1)
      rw [Vals.ref1 rv]
      have hL : ys.length ≤ sizeLine := by rw [← r2.len]; simpa using hz
      refine PySem.W.sorted_data (enc := toPD) (R := RU G Z ι) hl.isList (each_of rvv r2) (reads_of hK I sz rvv r2 fun x hx => (hdp x hx).imp fun n q => q.1) ?_ ?_ hL ?_ fun out hlen heach => ?_
      · intro d hd d' hd'
        obtain ⟨x, hx, rfl⟩ := List.mem_map.mp hd
        obtain ⟨y, hy, rfl⟩ := List.mem_map.mp hd'
        obtain ⟨n, q, _⟩ := hdp x hx
        obtain ⟨m, q2, _⟩ := hdp y hy
        exact alike_pd q q2 (hal x hx y hy)
      · rw [Bool.or_eq_true] at hsh
        rcases hsh with hsh | hsh
        · refine .inl fun d hd => ?_
          obtain ⟨x, hx, rfl⟩ := List.mem_map.mp hd
          have := List.all_eq_true.mp hsh x hx
          cases x <;> try cases this
          rename_i zs
          cases zs with
          | nil => cases this
          | cons p q => exact ⟨toPD p, toPDs q, rfl⟩
        · refine .inr fun d hd => ?_
          obtain ⟨x, hx, rfl⟩ := List.mem_map.mp hd
          have := List.all_eq_true.mp hsh x hx
          have hne := hal x hx x hx
          obtain ⟨n, q, _⟩ := hdp x hx
          cases x <;> first
            | (simp [alikeV] at hne; done)
            | (simp [isTup] at this; done)
            | (cases q; done)
            | exact ⟨(fun z => by simp only [toPD] at z; cases z), (fun ws z => by simp only [toPD] at z; cases z)⟩
      · intro b hb
        obtain ⟨n, q, hn⟩ := hdp b hb
        rw [depth_of q]
        omega
      · obtain ⟨ep, he'⟩ := PyProof.Rows.sortedAll_at s.heap its (List.toArray out)
        have hs : ys.mergeSort (PySem.W.dataLe false toPD) = ys.mergeSort leV := PySem.W.sort_congr fun x hx y hy => by
          obtain ⟨n, q, _⟩ := hdp x hx
          obtain ⟨m, q2, _⟩ := hdp y hy
          show (!PySem.W.dataLt (toPD y) (toPD x)) = leV x y
          rw [lt_pd q2 q (hal y hy x hx)]
          rfl
        rw [hs] at heach
        obtain ⟨ns, q1, q2⟩ := of_each heach
        have hnew : H (s.heap.objs.size + 1) = none := I.hok.fresh (Nat.le_succ _)
        have hln : ns.length ≤ sizeLine := by rw [q2.len, List.length_mergeSort]; exact hL
        refine ⟨.ref (s.heap.objs.size + 1), upd H (s.heap.objs.size + 1) (.lst ns), I.laid (t' := s.toks) (fun _ _ => PyProof.Rows.sortedAll_old) (Nat.le_succ _) ⟨hln, out, ep, q1, by simpa using he'⟩, rfl, k _ _ (.lst hnew q2)⟩
    · cases e
end
end PVS

set_option maxHeartbeats 1000000
/-! PVS: list, tuple, dict; methods of texts and dicts; displays of dicts; isinstance of several types. -/
namespace PVS
open PySem L2 TL PVL
section
variable {X : Cx} {G : GS} {W : WX}
theorem vals_chars {y : Txt} : ∀ {its : List Value}, its.length = y.length → (∀ (j : Nat) (v : Value), its[j]? = some v → SignAt (mkS y) j v) → Vals (y.map fun c => V.str (mkS [c])) its := by
  intro its hl h
  refine vals_of_at (by rw [List.length_map, hl]) fun j x u h1 h2 => ?_
  have q := h j u h2
  unfold SignAt at q
  rw [List.getElem?_map, Option.map_eq_some_iff] at h1
  obtain ⟨c, hc, rfl⟩ := h1
  obtain ⟨d, t, h3, rfl⟩ : ∃ d t, (mkS y).cps[j]? = some d ∧ u = .str ⟨#[d]⟩ t := by
    first
      | (obtain ⟨d, t, a, b⟩ := q; exact ⟨d, t, a, b⟩)
      | (obtain ⟨d, a, t, b⟩ := q; exact ⟨d, t, a, b⟩)
  have : d = c := by
    have e : (mkS y).cps[j]? = y[j]? := by simp [mkS]
    rw [e, hc] at h3
    exact (Option.some.inj h3).symm
  subst this
  exact ⟨t, rfl⟩
theorem rvs_chars {Z : Hp} {ι : List (Addr × Addr)} {y : Txt} (h : okT y) : RVs G Z ι (y.map fun c => V.str (mkS [c])) (charsOf y) := by
  have go : ∀ l : Txt, (∀ c ∈ l, c < 0x110000) → RVs G Z ι (l.map fun c => V.str (mkS [c])) (charsOf l) := by
    intro l
    induction l with
    | nil => intro _; exact .nil
    | cons c l ih =>
      intro hc
      exact .cons (.str [c] ⟨by rw [List.length_singleton]; decide, fun d hd => by rw [List.mem_singleton] at hd; subst hd; exact hc _ (List.mem_cons_self ..)⟩) (ih fun d hd => hc d (List.mem_cons_of_mem _ hd))
  exact go y h.2
theorem RK.keys {Z : Hp} {ι : List (Addr × Addr)} : ∀ {kvs : List (Key × V)} {ps : List (PV × PV)}, RK G Z ι kvs ps → RVs G Z ι (kvs.map fun kv => kV kv.1) (ps.map (·.1))
  | _, _, .nil => .nil
  | _, _, .cons (k := k) _ h t => .cons (by
      cases k with
      | inl i => exact .int i
      | inr s => exact .str _ (h s rfl)) (RK.keys t)
theorem b_list (hK : G.K = X.K) (hc : X.calm = true) : CallR X (.type "list") (rF G (bfV .list) .own) := by
  have lS : CallR X (.type "list") (fun xs H Q => ∃ y : Txt, xs = [V.str (mkS y)] ∧ okT y ∧ ∀ p, H p = none → Q (.ref p) (upd H p (.lst (y.map fun c => V.str (mkS [c]))))) := by
    intro pins s σ H xs us Q I r h
    obtain ⟨y, rfl, hy, q⟩ := h
    obtain ⟨u, rfl, t, rfl⟩ := vals1 r
    have hs : (mkS y).cps.size = y.length := by simp [mkS]
    have hsz : y.length ≤ sizeLine := by rw [← line_eq]; exact hy.1
    refine PySem.call_list_str (I.ok.hd hc) (mkS y) t (fun h' tk acc' c' hk hS hacc => ?_) (by rw [hs]; exact hsz)
    refine ⟨.ref s.heap.objs.size, upd H s.heap.objs.size (.lst (y.map fun c => V.str (mkS [c]))), I.laid (t' := tk) hk (Nat.le_refl _) (show ObjOk X.prog X.w _ _ _ (.lst (y.map fun c => V.str (mkS [c]))) from ⟨by rw [List.length_map]; exact hsz, acc'.toList, c', vals_chars (by rw [Array.length_toList, hacc.1, hs]) (fun j v e => hacc.2 j v (by rw [← Array.getElem?_toList]; exact e)), by rw [Array.toArray_toList]; exact hS⟩), rfl, q _ (I.hok.fresh (Nat.le_refl _))⟩
  refine CallR.imp (CallR.or call_list_of (CallR.or (call_listD hc) lS)) fun vs H Q h => ?_
  obtain ⟨Z, ι, xs, z, sz, r, e, k⟩ := h
  match xs, e, r with
  | [.str y], e, r =>
    cases e
    obtain ⟨v, rfl, r1⟩ := r.one
    obtain ⟨rfl, h1⟩ := r1.str
    exact .inr (.inr ⟨y, rfl, h1, fun p hp => k _ _ (.lst hp (rvs_chars h1))⟩)
  | [.lst ys], e, r =>
    cases e
    obtain ⟨v, rfl, r1⟩ := r.one
    obtain ⟨a, ws, rfl, h1, r2⟩ := r1
    exact .inl ⟨a, ws, rfl, .inl (.inl h1), fun p hp => k _ _ (.lst hp r2)⟩
  | [.tup ys], e, r =>
    cases e
    obtain ⟨v, rfl, r1⟩ := r.one
    obtain ⟨a, ws, rfl, h1, r2⟩ := r1.tup sz
    exact .inl ⟨a, ws, rfl, .inr (SqT.of h1), fun p hp => k _ _ (.lst hp r2)⟩
  | [.dic ps], e, r =>
    have e : (if ps.all (fun p => flatKey p.1) then some (PV.lst (ps.map (·.1))) else none) = some z := e
    split at e
    · rename_i hf
      cases e
      obtain ⟨v, rfl, r1⟩ := r.one
      obtain ⟨a, rfl, ⟨kvs, h1, r2⟩ | ⟨kvs, h1, r2, ne⟩⟩ := r1
      · exact .inr (.inl ⟨a, kvs, rfl, h1, fun p hp => k _ _ (.lst hp r2.keys)⟩)
      · exfalso
        cases r2 with
        | nil => exact ne rfl
        | cons _ _ _ => simp [flatKey] at hf
    · cases e
theorem b_tuple (hK : G.K = X.K) (hc : X.calm = true) : CallR X (.type "tuple") (rF G (bfV .tuple) .own) := by
  have lS : CallR X (.type "tuple") (fun xs H Q => ∃ y : Txt, xs = [V.str (mkS y)] ∧ okT y ∧ ∀ p, H p = none → Q (.ref p) (upd H p (.tup (y.map fun c => V.str (mkS [c]))))) := by
    intro pins s σ H xs us Q I r h
    obtain ⟨y, rfl, hy, q⟩ := h
    obtain ⟨u, rfl, t, rfl⟩ := vals1 r
    have hs : (mkS y).cps.size = y.length := by simp [mkS]
    have hsz : y.length ≤ sizeLine := by rw [← line_eq]; exact hy.1
    refine PySem.call_tuple_str (I.ok.hd hc) (mkS y) t (fun h' tk acc' hk hacc => ?_) (by rw [hs]; exact hsz)
    have I1 : Inv X pins σ H { s with heap := h', toks := tk } := I.kept (t' := tk) hk
    have I2 : Inv X pins σ (upd H h'.objs.size (.tup (y.map fun c => V.str (mkS [c])))) { s with heap := h'.push { cls := .type "tuple", data := .seq acc' }, toks := tk } :=
      I1.laid (t' := tk) (fun b o e => Heap.get?_push_of_some _ e) (Nat.le_refl _) (show ObjOk X.prog X.w _ _ _ (.tup (y.map fun c => V.str (mkS [c]))) from ⟨by rw [List.length_map]; exact hsz, acc'.toList, vals_chars (by rw [Array.length_toList, hacc.1, hs]) (fun j v e => hacc.2 j v (by rw [← Array.getElem?_toList]; exact e)), by rw [Array.toArray_toList]; exact PyProof.Rows.IsTup.new _ _⟩)
    exact ⟨.ref h'.objs.size, _, I2, rfl, q _ (I1.hok.fresh (Nat.le_refl _))⟩
  refine CallR.imp (CallR.or call_tuple_of lS) fun vs H Q h => ?_
  obtain ⟨Z, ι, xs, z, sz, r, e, k⟩ := h
  match xs, e, r with
  | [.str y], e, r =>
    cases e
    obtain ⟨v, rfl, r1⟩ := r.one
    obtain ⟨rfl, h1⟩ := r1.str
    exact .inr ⟨y, rfl, h1, fun p hp => k _ _ (.tup hp (rvs_chars h1))⟩
  | [.lst ys], e, r =>
    cases e
    obtain ⟨v, rfl, r1⟩ := r.one
    obtain ⟨a, ws, rfl, h1, r2⟩ := r1
    exact .inl ⟨a, ws, rfl, .inl ⟨.inl h1, fun p hp => k _ _ (.tup hp r2)⟩⟩
  | [.tup ys], e, r =>
    cases e
    obtain ⟨v, rfl, r1⟩ := r.one
    have r0 := r1
    obtain ⟨a, ws, rfl, h1, r2⟩ := r1.tup sz
    exact .inl ⟨a, ws, rfl, .inr ⟨SqT.of h1, k _ _ (.val (r0.flat rfl) rfl)⟩⟩
theorem b_dict (hK : G.K = X.K) : CallR X (.type "dict") (rF G (bfV .dict) .own) := by
  refine CallR.imp call_dictD fun vs H Q h => ?_
  obtain ⟨Z, ι, xs, z, sz, r, e, k⟩ := h
  match xs, e, r with
  | [.dic ps], e, r =>
    have e : (if ps.all (fun p => flatKey p.1) then some (PV.dic ps) else none) = some z := e
    split at e
    · rename_i hf
      cases e
      obtain ⟨v, rfl, r1⟩ := r.one
      obtain ⟨a, rfl, ⟨kvs, h1, r2⟩ | ⟨kvs, h1, r2, ne⟩⟩ := r1
      · exact ⟨a, kvs, rfl, h1, fun p hp => k _ _ (.inr ⟨p, _, hp, rfl, rfl, .inl (.dK r2)⟩)⟩
      · exfalso
        cases r2 with
        | nil => exact ne rfl
        | cons _ _ _ => simp [flatKey] at hf
    · cases e
/-! ### methods of texts -/
theorem joinT_tl (t : Txt) : ∀ ws : List Txt, Txt.join (mkS t) (ws.map mkS) = mkS (joinT t ws) := by
  intro ws
  refine ext_tl ?_
  rw [join_eq, tl_join]
  have : ∀ ws : List Txt, joinL t ((ws.map mkS).map tl) = joinT t ws := by
    intro ws
    induction ws with
    | nil => rfl
    | cons p r ih =>
      cases r with
      | nil => rfl
      | cons q r => show tl (mkS p) ++ (t ++ joinL t (((q :: r).map mkS).map tl)) = p ++ (t ++ joinT t (q :: r)); rw [ih]
  exact this ws
end
end PVS

namespace PVS
open PySem L2 TL PVL
section
variable {X : Cx} {G : GS} {W : WX}
/-- a method: by the receiver's and the arguments' readings -/
def rMt (G : GS) (g : PV → List PV → Option PV) : V → List V → Hp → VK → Prop := fun v vs H Q => ∃ Z ι x xs z, Sub Z H ∧ RH G Z H ι v x ∧ RVs G Z ι vs xs ∧ g x xs = some z ∧ ∀ w, RV G Z ι w z → Q w H
theorem MtR.imp {id : String} {r r' : V → List V → Hp → VK → Prop} (h : MtR X id r) (i : ∀ v vs H Q, r' v vs H Q → r v vs H Q) : MtR X id r' := fun pins s σ H x xs v us Q I rx rs q => h pins s σ H x xs v us Q I rx rs (i _ _ _ _ q)
theorem liftO_fz {z : PV} : mk z .fz = (z, .fz) := by unfold mk; split <;> rfl
theorem liftO_some {z : PV} {ω : PVL.Store} : liftO (some z) .fz ω = .ok (z, .fz) ω := by show PVL.R.ok (mk z .fz) ω = _; rw [liftO_fz]
theorem se_bm {o e : Expr} {es : List Expr} {io : E} {ies : Es} {m : BM} {name : Str} {id : String} {apos cpos : Pos} (hm0 : m ≠ .get) (slot : Slot "str" name id) (hty : typeOf (.builtin id) = pure (.type "method_descriptor")) (hm : MtR X id (rMt G (bmV m))) (ho : PE X o (tE G W io)) (ha : PA X (e :: es) (tK G W ies))
    (hbase : attributeBase o name X.env (eval o X.env) = eval o X.env)
    (hfew : ((backTo cpos (starEach (e :: es) X.env)).all (fun x => !x.1) && (backToKw cpos (keywordEach [] X.env)).all (fun x => x.1.isSome) && decide ((e :: es).length + ([] : List Keyword).length + (if ([] : List Keyword).isEmpty then 0 else 1) < 30)) = true)
    (hline : (apos.endLine == cpos.line) = true) (hs : starEach (e :: es) X.env = (false, eval e X.env) :: starEach es X.env) (hplain : (backTo cpos (starEach es X.env)).any (·.1) = false) :
    PE X (.Call (.Attribute o name apos) (e :: es) [] cpos) (tE G W (.bm m io ies)) := by
  refine PE.imp (pe_bm PySem.F.plainAttrs_str slot hty hm ho ha hbase hfew hline hs hplain) fun σ H Q h => ?_
  obtain ⟨Z, B, ι, ω, ρ, S, h⟩ := h
  unfold ev at h
  refine tE.next S h.bind fun x ω1 h1 v H1 Z1 ι1 E1 S1 l1 _ p1 => ?_
  split at h1
  · rename_i hon
    obtain ⟨x, mm⟩ := x
    have hx : ∃ t, x = .str t := by
      cases m <;> first | exact absurd rfl hm0 | (cases x <;> first | exact ⟨_, rfl⟩ | cases hon)
    obtain ⟨t, rfl⟩ := hx
    obtain ⟨rfl, ht⟩ := (l1.rh S1).str
    refine ⟨rfl, Z1, B, ι1, ω1, ρ, S1, h1.bind.mono (fun xs ω2 h2 vs H2 Z2 ι2 E2 S2 r2 p2 => ?_) fun _ _ _ q => q.on E1⟩
    unfold liftO at h2
    cases ez : bmV m (.str t) xs with
    | none => rw [ez] at h2; exact h2.elim
    | some z =>
      rw [ez] at h2
      refine ⟨Z2, ι2, .str t, xs, z, S2.zH, RH.of S2.zH (RV.str t ht), r2, ez, fun w rw_ => ?_⟩
      have h2 : ∀ v H' Z' ι', _ := h2
      rw [liftO_fz] at h2
      exact h2 w H2 Z2 ι2 (E1.trans E2) S2 rw_ (.no rfl)
  · exact h1.elim
theorem se_bm0 {o : Expr} {io : E} {m : BM} {name : Str} {id : String} {apos cpos : Pos} (hm0 : m ≠ .get) (slot : Slot "str" name id) (hty : typeOf (.builtin id) = pure (.type "method_descriptor")) (hm : MtR X id (rMt G (bmV m))) (ho : PE X o (tE G W io))
    (hbase : attributeBase o name X.env (eval o X.env) = eval o X.env) (hline : (apos.endLine == cpos.line) = true) :
    PE X (.Call (.Attribute o name apos) [] [] cpos) (tE G W (.bm m io .nil)) := by
  refine PE.imp (pe_m0 slot hty hm ho hbase hline) fun σ H Q h => ?_
  obtain ⟨Z, B, ι, ω, ρ, S, h⟩ := h
  unfold ev at h
  refine tE.next S h.bind fun x ω1 h1 v H1 Z1 ι1 E1 S1 l1 _ p1 => ?_
  split at h1
  · rename_i hon
    obtain ⟨x, mm⟩ := x
    have hx : ∃ t, x = .str t := by
      cases m <;> first | exact absurd rfl hm0 | (cases x <;> first | exact ⟨_, rfl⟩ | cases hon)
    obtain ⟨t, rfl⟩ := hx
    obtain ⟨rfl, ht⟩ := (l1.rh S1).str
    refine ⟨⟨_, rfl⟩, ?_⟩
    unfold evK at h1
    have h2 := h1
    unfold PVL.R.bind liftO at h2
    cases ez : bmV m (.str t) [] with
    | none => simp only [ez] at h2; exact h2.elim
    | some z =>
      simp only [ez] at h2
      refine ⟨Z1, ι1, .str t, [], z, S1.zH, RH.of S1.zH (RV.str t ht), .nil, ez, fun w rw_ => ?_⟩
      have h2 : ∀ v H' Z' ι', _ := h2
      rw [liftO_fz] at h2
      exact h2 w H1 Z1 ι1 E1 S1 rw_ (.no rfl)
  · exact h1.elim
theorem RVs.one {Z : Hp} {ι : List (Addr × Addr)} {vs : List V} {x : PV} (h : RVs G Z ι vs [x]) : ∃ v, vs = [v] ∧ RV G Z ι v x := by
  cases h with
  | cons r t => cases t; exact ⟨_, rfl, r⟩
theorem RVs.two {Z : Hp} {ι : List (Addr × Addr)} {vs : List V} {x y : PV} (h : RVs G Z ι vs [x, y]) : ∃ v w, vs = [v, w] ∧ RV G Z ι v x ∧ RV G Z ι w y := by
  cases h with
  | cons r t =>
    cases t with
    | cons r2 t => cases t; exact ⟨_, _, rfl, r, r2⟩
theorem m_join (hK : G.K = X.K) : MtR X "str.join" (rMt G (bmV .join)) := by
  refine MtR.imp mt_join fun v vs H Q h => ?_
  obtain ⟨Z, ι, x, xs, z, sz, rx, rs, e, k⟩ := h
  have fin : ∀ {t : Txt} {ws : List Txt} {z : PV}, joinV t ws = some z → okT t → (∀ w ∈ ws, okT w) → ((ws.map mkS).map (·.length)).sum + (ws.map mkS).length * (mkS t).length ≤ 16777216 ∧ z = .str (joinT t ws) ∧ okT (joinT t ws) := by
    intro t ws z e ht hw
    unfold joinV at e
    split at e
    · rename_i hl
      cases e
      have e1 : ((ws.map mkS).map (·.length)) = ws.map List.length := by rw [List.map_map]; exact List.map_congr_left fun w _ => mkS_len w
      rw [e1, List.length_map, mkS_len]
      refine ⟨hl, rfl, ?_, ?_⟩
      · have : ∀ ws : List Txt, (joinT t ws).length ≤ (ws.map List.length).sum + ws.length * t.length := by
          intro ws
          induction ws with
          | nil => exact Nat.zero_le _
          | cons p r ih =>
            cases r with
            | nil => simp [joinT]
            | cons q r =>
              show (p ++ (t ++ joinT t (q :: r))).length ≤ _
              rw [List.length_append, List.length_append, List.map_cons, List.sum_cons, List.length_cons, Nat.succ_mul]
              omega
        exact Nat.le_trans (this ws) hl
      · have : ∀ ws : List Txt, (∀ w ∈ ws, okT w) → ∀ c ∈ joinT t ws, c < 0x110000 := by
          intro ws
          induction ws with
          | nil => intro _ c hc; cases hc
          | cons p r ih =>
            intro hw c hc
            cases r with
            | nil => exact (hw p (List.mem_cons_self ..)).2 c hc
            | cons q r =>
              rcases List.mem_append.mp (show c ∈ p ++ (t ++ joinT t (q :: r)) from hc) with h | h
              · exact (hw p (List.mem_cons_self ..)).2 c h
              · rcases List.mem_append.mp h with h | h
                · exact ht.2 c h
                · exact ih (fun w hw' => hw w (List.mem_cons_of_mem _ hw')) c h
        exact this ws hw
    · cases e
  match x, xs, e, rx, rs with
  | .str t, [.lst ys], e, rx, rs =>
    obtain ⟨v1, rfl, r1⟩ := rs.one
    obtain ⟨rfl, ht⟩ := rx.str
    have e : (strsV ys).bind (joinV t) = some z := e
    cases es : strsV ys with
    | none => rw [es] at e; cases e
    | some ws =>
      rw [es] at e
      have e3 : joinV t ws = some z := e
      cases r1 with
      | @lst a us _ hz rr =>
        obtain ⟨rfl, rfl, hw⟩ := rr.strsV es
        obtain ⟨q1, rfl, q3⟩ := fin e3 ht hw
        exact ⟨_, a, ws.map mkS, rfl, rfl, .inl (.inl (sz.rdl hz)), q1, by rw [joinT_tl]; exact k _ (.str _ q3)⟩
  | .str t, [.tup ys], e, rx, rs =>
    obtain ⟨v1, rfl, r1⟩ := rs.one
    obtain ⟨rfl, ht⟩ := rx.str
    have e : (strsV ys).bind (joinV t) = some z := e
    cases es : strsV ys with
    | none => rw [es] at e; cases e
    | some ws =>
      rw [es] at e
      have e3 : joinV t ws = some z := e
      cases r1 with
      | @tup a us _ hz rr =>
        obtain ⟨rfl, rfl, hw⟩ := rr.strsV es
        obtain ⟨q1, rfl, q3⟩ := fin e3 ht hw
        exact ⟨_, a, ws.map mkS, rfl, rfl, .inr (SqT.of (sz.tup hz)), q1, by rw [joinT_tl]; exact k _ (.str _ q3)⟩
theorem m_find1 : MtR X "str.find" (fun v vs H Q => ∃ Z ι t w, Sub Z H ∧ RH G Z H ι v (.str t) ∧ RVs G Z ι vs [.str w] ∧ Q (.int (find t w)) H) := by
  refine MtR.imp mt_find fun v vs H Q h => ?_
  obtain ⟨Z, ι, t, w, sz, rx, rs, k⟩ := h
  obtain ⟨v1, rfl, r1⟩ := rs.one
  obtain ⟨rfl, ht⟩ := rx.str
  cases r1
  exact ⟨_, _, rfl, rfl, by rw [find_str]; exact k⟩
end
end PVS
namespace PVS
open PySem L2 TL PVL
section
variable {X : Cx} {G : GS} {W : WX}
theorem occ_headF (x y : Str) (lo : Nat) :
    (Builtin.Str.occurrences x y lo x.length 1 = [] ∧ ∀ i, lo ≤ i → ¬ PySem.StrLaws.At x y x.length i) ∨ ∃ i r, Builtin.Str.occurrences x y lo x.length 1 = i :: r ∧ lo ≤ i ∧ PySem.StrLaws.At x y x.length i ∧ ∀ k, lo ≤ k → k < i → ¬ PySem.StrLaws.At x y x.length k := by
  rw [PySem.StrLaws.occ_eq]
  rcases PySem.StrLaws.occ_first x y x.length 1 (Nat.le_refl _) (List.range' lo (x.length + 1 - lo)) lo (fun i hi => by simp [List.mem_range'] at hi; omega) with ⟨h0, hn⟩ | ⟨pre, a, post, e, h0, ha, hn⟩
  · refine .inl ⟨by rw [h0], fun i hlo hi => ?_⟩
    exact hn i (by have h5 := hi.1; rw [List.mem_range'_1]; omega) hi
  · have hlen : a = lo + pre.length := by
      have h1 : (List.range' lo (x.length + 1 - lo))[pre.length]? = some a := by rw [e]; simp
      rw [List.getElem?_range'] at h1
      · simp at h1; omega
      · have := congrArg List.length e
        simp at this
        omega
    refine .inr ⟨a, ((forIn (List.range' lo (x.length + 1 - lo)) ((#[] : Array Nat), lo) (PySem.StrLaws.occBody x y x.length 1)).run.fst.toList).tail, ?_, by omega, ha, fun k hlo hk => hn k ?_⟩
    · generalize (forIn (List.range' lo (x.length + 1 - lo)) ((#[] : Array Nat), lo) (PySem.StrLaws.occBody x y x.length 1)).run.fst = arr at h0
      have h1 : arr.toList[0]? = some a := by simpa using h0
      cases hL : arr.toList with
      | nil => rw [hL] at h1; cases h1
      | cons b t => rw [hL] at h1; simp at h1; rw [h1]; rfl
    · have h2 : (List.range' lo (x.length + 1 - lo))[k - lo]? = pre[k - lo]? := by rw [e, List.getElem?_append_left (by omega)]
      rw [List.getElem?_range'] at h2
      · have h3 : pre[k - lo]? = some k := by rw [← h2]; simp; omega
        exact List.mem_of_getElem? h3
      · have := congrArg List.length e
        simp at this
        omega
theorem find3_str (t w : Txt) (i : Nat) : Txt.find3 (mkS t) (mkS w) (i : Int) = if t.length < i then -1 else findFrom w (t.drop i) i := by
  unfold Txt.find3
  have e0 : fromIndex (mkS t).length (i : Int) = i := by
    unfold fromIndex
    rw [if_neg (by omega)]
    omega
  rw [e0]
  rcases occ_headF (mkS t) (mkS w) i with ⟨e, n⟩ | ⟨j, r, e, hlo, h, l⟩
  · rw [e]
    show (-1 : Int) = _
    by_cases hl : t.length < i
    · rw [if_pos hl]
    · rw [if_neg hl]
      rcases findFrom_spec w (t.drop i) i with ⟨q, _⟩ | ⟨k, h1, h2, h3, _⟩
      · exact q.symm
      · exfalso
        refine n (i + k) (by omega) (at_str.mpr ⟨?_, ?_⟩)
        · rw [List.length_drop] at h1; omega
        · rw [List.drop_drop] at h3; exact h3
  · rw [e]
    show (j : Int) = _
    have hj := at_str.mp h
    have hjl := hj.1
    rw [if_neg (by omega)]
    rcases findFrom_spec w (t.drop i) i with ⟨q, n⟩ | ⟨k, h1, h2, h3, h4⟩
    · exfalso
      refine n (j - i) (by rw [List.length_drop]; omega) ?_
      rw [List.drop_drop, show i + (j - i) = j by omega]
      exact hj.2
    · rw [h2]
      rw [List.drop_drop] at h3
      rw [List.length_drop] at h1
      have : j = i + k := by
        rcases Nat.lt_trichotomy j (i + k) with z | z | z
        · exfalso
          have := h4 (j - i) (by omega)
          rw [List.drop_drop, show i + (j - i) = j by omega] at this
          exact this hj.2
        · exact z
        · exact absurd (at_str.mpr ⟨by omega, h3⟩) (l (i + k) (by omega) z)
      rw [this]
theorem m_find : MtR X "str.find" (rMt G (bmV .find)) := by
  refine MtR.imp (MtR.or mt_find mt_find3) fun v vs H Q h => ?_
  obtain ⟨Z, ι, x, xs, z, sz, rx, rs, e, k⟩ := h
  match x, xs, e, rx, rs with
  | .str t, [.str w], e, rx, rs =>
    cases e
    obtain ⟨v1, rfl, r1⟩ := rs.one
    obtain ⟨rfl, ht⟩ := rx.str
    cases r1
    exact .inl ⟨_, _, rfl, rfl, by rw [find_str]; exact k _ (.int _)⟩
  | .str t, [.str w, .int i], e, rx, rs =>
    have e : (if 0 ≤ i ∧ i < 2 ^ 62 then some (PV.int (if t.length < i.toNat then -1 else findFrom w (t.drop i.toNat) i.toNat)) else none) = some z := e
    split at e
    · rename_i hb
      cases e
      obtain ⟨v1, v2, rfl, r1, r2⟩ := rs.two
      obtain ⟨rfl, ht⟩ := rx.str
      cases r1
      cases r2
      refine .inr ⟨_, _, i, rfl, rfl, ?_⟩
      have ei : i = ((i.toNat : Nat) : Int) := by omega
      have q := find3_str t w i.toNat
      rw [← ei] at q
      rw [q]
      exact k _ (.int _)
    · cases e
theorem m_startswith : MtR X "str.startswith" (rMt G (bmV .startswith)) := by
  refine MtR.imp mt_startswith fun v vs H Q h => ?_
  obtain ⟨Z, ι, x, xs, z, sz, rx, rs, e, k⟩ := h
  match x, xs, e, rx, rs with
  | .str t, [.str w], e, rx, rs =>
    cases e
    obtain ⟨v1, rfl, r1⟩ := rs.one
    obtain ⟨rfl, ht⟩ := rx.str
    cases r1
    refine ⟨_, _, rfl, rfl, ?_⟩
    have : Txt.startswith (mkS t) (mkS w) = isPre w t := by
      have h1 := @at_str w t 0
      show (decide (0 + (mkS w).length ≤ (mkS t).length) && Builtin.Str.subAt (mkS t) (mkS w) 0) = isPre w t
      by_cases hp : isPre w t = true
      · rw [hp]
        obtain ⟨a, b⟩ := h1.mpr ⟨Nat.zero_le _, by rw [List.drop_zero]; exact isPre_iff.mp hp⟩
        rw [Bool.and_eq_true]
        exact ⟨decide_eq_true a, b⟩
      · rw [Bool.not_eq_true] at hp
        rw [hp]
        refine Bool.eq_false_iff.mpr fun z => ?_
        rw [Bool.and_eq_true] at z
        have := h1.mp ⟨of_decide_eq_true z.1, z.2⟩
        rw [isPre_iff.mpr (by simpa using this.2)] at hp
        cases hp
    rw [this]
    exact k _ (.bl _)
theorem placed_two (f : Nat → List Nat) (a b : PySem.Str) : PySem.placed (a ++ b) (fun _ c => f c) = PySem.placed a (fun _ c => f c) ++ PySem.placed b (fun _ c => f c) := by
  unfold PySem.placed
  rw [PySem.Str.cps_append, Array.mapIdx_append, Array.flatten_append]
theorem up_two (a b : PySem.Str) : Txt.upper (a ++ b) = Txt.upper a ++ Txt.upper b := PySem.Str.ext' (placed_two _ a b)
theorem up_at {c : Nat} (h : c < 128) : Txt.upper (mkS [c]) = mkS [upC c] :=
  (by decide +kernel : ∀ c, c < 128 → Txt.upper (mkS [c]) = mkS [upC c]) c h
theorem up_str : ∀ t : Txt, t.all (fun c => decide (c < 128)) = true → Txt.upper (mkS t) = mkS (t.map upC)
  | [], _ => by rfl
  | c :: t, h => by
    rw [List.all_cons, Bool.and_eq_true] at h
    have e : mkS (c :: t) = mkS [c] ++ mkS t := by rw [mkS_app]; rfl
    rw [e, up_two, up_at (of_decide_eq_true h.1), up_str t h.2, mkS_app]
    rfl
theorem m_upper : MtR X "str.upper" (rMt G (bmV .upper)) := by
  refine MtR.imp mt_upper fun v vs H Q h => ?_
  obtain ⟨Z, ι, x, xs, z, sz, rx, rs, e, k⟩ := h
  match x, xs, e, rx, rs with
  | .str t, [], e, rx, rs =>
    have e : (if t.all (fun c => decide (c < 128)) = true ∧ t.length ≤ 5592405 then some (PV.str (t.map upC)) else none) = some z := e
    split at e
    · rename_i hb
      cases e
      obtain ⟨rfl, ht⟩ := rx.str
      cases rs
      refine ⟨_, rfl, rfl, hb.2, ?_⟩
      rw [up_str t hb.1]
      refine k _ (.str _ ⟨by rw [List.length_map]; exact ht.1, fun c hc => ?_⟩)
      obtain ⟨a, ha, rfl⟩ := List.mem_map.mp hc
      have := of_decide_eq_true (List.all_eq_true.mp hb.1 a ha)
      unfold upC
      split <;> omega
    · cases e
end
end PVS

set_option maxHeartbeats 1000000
/-! PVS: a thing of one's own that stands while others run. -/
namespace PVS
open PySem L2 TL PVL
section
variable {G : GS} {Z Z' B H H' : Hp} {ι ι' : List (Addr × Addr)} {ω ω' : PVL.Store} {ρ : PVL.Env} {σ : St} {p : Addr} {o : HO}
/-- nobody's thing is held fast -/
theorem Sim.addB (S : Sim G Z B H ι ω ρ σ) (pl : plainO o) (hp : H p = some o) (hz : Z p = none) (hb : B p = none) (hn : ∀ k, ¬ owA G H ι ω ρ σ k p) : Sim G Z (upd B p o) H ι ω ρ σ := by
  refine ⟨S.zH, fun a u e => ?_, S.iL, S.ob, fun i x m e => ?_, S.len, S.inj, fun k a h => ?_, fun a u e => ?_, S.tb.addB pl.1⟩
  · by_cases ha : a = p
    · subst ha; rw [upd_same] at e; cases e; exact .inl hp
    · rw [upd_ne ha] at e; exact S.bH a u e
  · obtain ⟨v, e1, e2⟩ := S.sl i x m e
    refine ⟨v, e1, ?_⟩
    cases m with
    | own => exact e2
    | fz => exact e2
    | br =>
      rcases e2 with e2 | ⟨a, u, h1, h2, h3⟩
      · exact .inl e2
      · exact .inr ⟨a, u, h1, by rw [upd_ne (ne_of_none h2 hb)]; exact h2, h3⟩
    | lv => exact e2
  · have ha : a ≠ p := fun z => hn k (z ▸ h)
    rw [upd_ne ha]
    exact S.zno k a h
  · by_cases ha : a = p
    · subst ha; exact hz
    · rw [upd_ne ha] at e; exact S.zb a u e
/-- it is let go -/
theorem Sim.remB (S : Sim G Z B H ι ω ρ σ) (S' : Sim G Z' (upd B p o) H' ι' ω' ρ σ) (E : Ext Z Z' (PO B ρ σ) ι ι' H H') (hb : B p = none) : Sim G Z' B H' ι' ω' ρ σ ∧ Z' p = none ∧ ∀ k, ¬ owA G H' ι' ω' ρ σ k p := by
  have up : ∀ {a u}, B a = some u → upd B p o a = some u := fun {a u} e => by rw [upd_ne (ne_of_none e hb)]; exact e
  have no : ∀ {k a}, owA G H' ι' ω' ρ σ k a → a ≠ p ∧ B a = none := fun {k a} h => by
    have q := (S'.zno k a h).2
    by_cases ha : a = p
    · subst ha; rw [upd_same] at q; cases q
    · rw [upd_ne ha] at q; exact ⟨ha, q⟩
  refine ⟨⟨S'.zH, fun a u e => S'.bH a u (up e), S'.iL, S'.ob, fun i x m e => ?_, S'.len, S'.inj, fun k a h => ⟨(S'.zno k a h).1, (no h).2⟩, fun a u e => S'.zb a u (up e), ⟨S'.tb.t, S'.tb.z, S.tb.b⟩⟩, S'.zb p o upd_same, fun k h => (no h).1 rfl⟩
  obtain ⟨v, e1, e2⟩ := S.sl i x m e
  refine ⟨v, e1, ?_⟩
  cases m with
  | own =>
    obtain ⟨a, u, rfl, h2, h3⟩ := e2
    exact ⟨a, u, rfl, by rw [E.k a (.inr (.inr ⟨i, x, e, e1⟩))]; exact h2, h3.mono E.z E.i⟩
  | fz => exact e2.mono E.z E.i
  | br =>
    rcases e2 with e2 | ⟨a, u, h1, h2, h3⟩
    · exact .inl (e2.mono E.z E.i)
    · exact .inr ⟨a, u, h1, h2, h3.mono E.z E.i⟩
  | lv => exact e2
theorem PO.up {a : Addr} (hb : B p = none) (h : PO B ρ σ a) : PO (upd B p o) ρ σ a := by
  rcases h with h | h
  · refine .inl ?_
    cases e : B a with
    | none => exact absurd e h
    | some u => rw [upd_ne (ne_of_none e hb), e]; simp
  · exact .inr h
theorem QX.addB {W : WX} (S : Sim G Z B H ι ω ρ σ) (hb : B p = none) {H0 : Hp} (E0 : Ext Z Z (PO B ρ σ) ι ι H H0) {c : Nat} {xs : List PV} {ω' : PVL.Store} (q : QX G W Z B H ι ρ σ c xs ω') : QX G W Z (upd B p o) H0 ι ρ σ c xs ω' :=
  fun cls d H' Z' ι' E S' x => by
    have E1 := E0.trans (E.imp fun a h => PO.up hb h)
    exact q cls d H' Z' ι' E1 (S.remB S' E1 hb).1 x
end
end PVS

set_option maxHeartbeats 1000000
/-! PVS: zip, dicts' displays and get, isinstance of several types. -/
namespace PVS
open PySem L2 TL PVL
section
variable {X : Cx} {G : GS} {W : WX}
theorem walk_zipT {Z H : Hp} {ι : List (Addr × Addr)} {P : Addr → Prop} {K : PySem.W.Frag} {a b : Addr} {vs us : List V} {xs ys : List PV} (h : Z a = some (.tup vs)) (r : RVs G Z ι vs xs) (h2 : Z b = some (.tup us)) (r2 : RVs G Z ι us ys) : Walk G P Z ι H (RZ.ItzT K a b) ((xs.zip ys).map fun p => .tup [p.1, p.2]) := by
  intro Z' ι' H' E s
  have h' : SqT K H' a vs := SqT.of (s.tup (E.z _ _ h))
  have h2' : SqT K H' b us := SqT.of (s.tup (E.z _ _ h2))
  have r' := r.mono E.z E.i
  have r2' := r2.mono E.z E.i
  have l1 := r.len
  have l2 := r2.len
  refine ⟨fun i hi => ⟨vs, us, h', h2', ?_⟩, fun i x hx => ?_⟩
  · simp only [List.length_map, List.length_zip] at hi
    omega
  · rw [List.getElem?_map] at hx
    cases ex : (xs.zip ys)[i]? with
    | none => rw [ex] at hx; cases hx
    | some y =>
      rw [ex] at hx
      obtain ⟨y1, y2⟩ := y
      rw [List.getElem?_zip_eq_some] at ex
      obtain ⟨v, hv, rv⟩ := r'.get ex.1
      obtain ⟨w, hw, rw⟩ := r2'.get ex.2
      refine ⟨⟨vs, us, v, w, h', h2', hv, hw⟩, fun u H'' q => ?_⟩
      obtain ⟨T, v1, w1, rfl, hT, rfl, q1, q2⟩ := q
      have e1 := q1 vs h'
      have e2 := q2 us h2'
      rw [hv] at e1; cases e1
      rw [hw] at e2; cases e2
      have e3 : x = .tup [y1, y2] := (Option.some.inj hx).symm
      subst e3
      exact .tup hT (.cons rv (.cons rw .nil))
/-- a settled value, by its mode -/
def StV (G : GS) (Z B H : Hp) (ι : List (Addr × Addr)) (ρ : PVL.Env) (σ : St) (v : V) (x : PV) (m : Md) : Prop := (m = .lv → ∃ (i : Nat) (a : Addr), ρ[i]? = some (some (x, .own)) ∧ σ[i]? = some (some (.ref a)) ∧ v = .ref a) ∧ (m ≠ .lv → SR G Z B H ι v x .br)
theorem OkV.stv {Z B H : Hp} {ι : List (Addr × Addr)} {ω : PVL.Store} {ρ : PVL.Env} {σ : St} (S : Sim G Z B H ι ω ρ σ) {v : V} {x : PV} {m : Md} (o : OkV G Z B H ι ω ρ σ v x m) : ∃ Z', Ext Z Z' (PO B ρ σ) ι ι H H ∧ Sim G Z' B H ι ω ρ σ ∧ Lv G Z' B H ι ρ σ v x ∧ StV G Z' B H ι ρ σ v x m := by
  cases m with
  | own => obtain ⟨Z', E, S', l, r⟩ := o.settle S; exact ⟨Z', E, S', l, (fun z => by cases z), (fun _ => .inl (r (.inl rfl)))⟩
  | fz => obtain ⟨Z', E, S', l, r⟩ := o.settle S; exact ⟨Z', E, S', l, (fun z => by cases z), (fun _ => .inl (r (.inr rfl)))⟩
  | br => exact ⟨Z, Ext.refl, S, .inl o, (fun z => by cases z), (fun _ => o)⟩
  | lv => exact ⟨Z, Ext.refl, S, .inr o, (fun _ => o), (fun z => absurd rfl z)⟩
theorem StV.on {Z Z' B H H' : Hp} {ι ι' : List (Addr × Addr)} {ρ : PVL.Env} {σ : St} {v : V} {x : PV} {m : Md} (h : StV G Z B H ι ρ σ v x m) (E : Ext Z Z' (PO B ρ σ) ι ι' H H') : StV G Z' B H' ι' ρ σ v x m :=
  ⟨h.1, fun z => by
    rcases h.2 z with h | ⟨a, o, h1, h2, h3⟩
    · exact .inl (h.mono E.z E.i)
    · exact .inr ⟨a, o, h1, h2, h3.mono E.z E.i⟩⟩
theorem StV.st {Z B H : Hp} {ι : List (Addr × Addr)} {ω : PVL.Store} {ρ : PVL.Env} {σ : St} (S : Sim G Z B H ι ω ρ σ) {v : V} {x : PV} {m : Md} {safe : Bool} (h : StV G Z B H ι ρ σ v x m) (hm : (safe && m == .lv) = false) (hc : isC x = true) :
    ∃ a u, v = .ref a ∧ (Z a ≠ none ∨ (if safe = true then PB B else PO B ρ σ) a) ∧ Rd H a u ∧ RO G Z ι u x := by
  have base : ∀ {a : Addr}, B a ≠ none → (if safe = true then PB B else PO B ρ σ) a := fun h => by
    cases safe
    · exact .inl h
    · exact h
  by_cases e : m = .lv
  · subst e
    cases safe with
    | true => cases hm
    | false =>
      obtain ⟨i, a, h1, h2, rfl⟩ := h.1 rfl
      obtain ⟨v, e1, b, u, rfl, e3, e4⟩ := S.sl i x .own h1
      rw [h2] at e1; cases e1
      exact ⟨a, u, rfl, .inr (.inr ⟨i, x, h1, h2⟩), .inl e3, e4⟩
  · rcases h.2 e with h | ⟨a, u, rfl, h2, h3⟩
    · obtain ⟨a, u, e, h1, h2, h3⟩ := RV.st S.zH h hc
      exact ⟨a, u, e, .inl h1, h2, h3⟩
    · exact ⟨a, u, rfl, .inr (base (by rw [h2]; simp)), (S.bH a u h2).rd, h3⟩
theorem si_zip {a b : Expr} {ia ib : E} {p pos tpos : Pos} {elts : List Expr} {kk : Nat} {safe : Bool} (hg : Gl X "zip") (hm : X.mg "zip" = none) (ha : PE X a (tE G W ia)) (hb : PE X b (tE G W ib)) (hs : starEach [a, b] X.env = (false, eval a X.env) :: starEach [b] X.env) (hs2 : starEach [b] X.env = [(false, eval b X.env)]) :
    PI X (.Tuple elts kk tpos) (.Call (.Name "zip" p) [a, b] [] pos) (tI G W safe (.zip ia ib)) := by
  refine PI.imp (RZ.pi_zipA hg hm (pa_cons ha (pa_cons hb pa_nil hs2) hs) hs (by rw [hs2]; rfl)) fun σ H R h => ?_
  obtain ⟨Z, B, ι, ω, ρ, S, h⟩ := h
  unfold evI at h
  refine ⟨Z, B, ι, ω, ρ, S, h.bind.mono (fun x ω1 h1 v H1 Z1 ι1 E1 S1 o1 p1 => ?_) fun _ _ _ q => q⟩
  obtain ⟨Z2, E2, S2, l2, st2⟩ := o1.stv S1
  refine ⟨Z2, B, ι1, ω1, ρ, S2, h1.bind.mono (fun y ω3 h3 u H3 Z3 ι3 E3 S3 o3 p3 => ?_) fun _ _ _ q => q.on (E1.trans E2)⟩
  obtain ⟨Z4, E4, S4, l4, st4⟩ := o3.stv S3
  have l2 := l2.on (E3.trans E4)
  have st2 := st2.on (E3.trans E4)
  obtain ⟨x, m⟩ := x
  obtain ⟨y, m'⟩ := y
  have h3 : RP (if (safe && (m == .lv || m' == .lv)) = true then PVL.R.bad else match x, y with
    | .lst xs, .lst ys => .ok ((xs.zip ys).map fun p => PV.tup [p.1, p.2]) ω3
    | .tup xs, .tup ys => .ok ((xs.zip ys).map fun p => PV.tup [p.1, p.2]) ω3
    | _, _ => .bad) _ _ := h3
  split at h3
  · exact h3.elim
  · rename_i hq
    have q1 : (safe && m == .lv) = false := by cases safe <;> cases m <;> simp_all
    have q2 : (safe && m' == .lv) = false := by cases safe <;> cases m' <;> simp_all
    cases x <;> cases y <;> try exact h3.elim
    · obtain ⟨a1, vs1, rfl, hz1, r1⟩ : ∃ a vs, v = .ref a ∧ Z4 a = some (.tup vs) ∧ RVs G Z4 ι3 vs _ := by
        cases Lv.rv S4 l2 rfl with
        | tup hz r => exact ⟨_, _, rfl, hz, r⟩
      obtain ⟨a2, vs2, rfl, hz2, r2⟩ : ∃ a vs, u = .ref a ∧ Z4 a = some (.tup vs) ∧ RVs G Z4 ι3 vs _ := by
        cases Lv.rv S4 l4 rfl with
        | tup hz r => exact ⟨_, _, rfl, hz, r⟩
      exact ⟨a1, a2, vs1, vs2, rfl, .inr ⟨SqT.of (S4.zH.tup hz1), SqT.of (S4.zH.tup hz2), h3 _ H3 Z4 ι3 ((E1.trans E2).trans (E3.trans E4)) S4 (walk_zipT hz1 r1 hz2 r2)⟩⟩
    · obtain ⟨a1, u1, rfl, s1, rd1, ro1⟩ := st2.st S4 q1 rfl
      obtain ⟨a2, u2, rfl, s2, rd2, ro2⟩ := st4.st S4 q2 rfl
      cases ro1 with
      | lst r1 =>
        cases ro2 with
        | lst r2 => exact ⟨a1, a2, _, _, rfl, .inl ⟨.inl rd1, .inl rd2, h3 _ H3 Z4 ι3 ((E1.trans E2).trans (E3.trans E4)) S4 (walk_zip s1 rd1 r1 s2 rd2 r2)⟩⟩
/-! ### dicts -/
theorem pairsV_two {k v : PV} : pairsV [k, v] = some [(k, v)] := rfl
theorem se_dct0 {pos : Pos} : PE X (.Dict [] [] pos) (tE G W (.dct .nil)) := by
  refine PE.imp pe_dnewK fun σ H Q h => ?_
  obtain ⟨Z, B, ι, ω, ρ, S, h⟩ := h
  unfold ev at h
  rw [if_pos (show pureEs .nil = true from rfl)] at h
  unfold evK at h
  have h : RP (PVL.R.ok (mk (.dic []) .own) ω) _ _ := h
  intro p hp
  have n : Nw G Z H ι .own (.dic []) (.ref p) (upd H p (.dK [])) := .inr ⟨p, _, hp, rfl, rfl, .inl (.dK .nil)⟩
  obtain ⟨Z2, E2, S2, o2, s2⟩ := n.fin S (by decide)
  exact h _ _ Z2 ι E2 S2 o2 (.no rfl)
theorem se_dct1 {k v : Expr} {ik iv : E} {pos : Pos} (hk : PE X k (tE G W ik)) (hv : PE X v (tE G W iv)) : PE X (.Dict [some k] [v] pos) (tE G W (.dct (.cons ik (.cons iv .nil)))) := by
  refine PE.imp (pe_disp (pps_cons hk hv pps_nil) rfl rfl (by simp) (by simp)) fun σ H Q h => ?_
  obtain ⟨Z, B, ι, ω, ρ, S, h⟩ := h
  unfold ev at h
  split at h
  · rename_i hp
    have hp1 : pureE ik = true ∧ pureE iv = true := by
      unfold pureEs pureEs pureEs at hp
      simpa using hp
    intro p np
    have S0 := S.lay (.dK []) np
    have E0 := Ext.lay S (.dK []) np
    have no : ∀ k, ¬ owA G (upd H p (.dK [])) ι ω ρ σ k p := fun k q => by
      have q' : owA G H ι ω ρ σ k p := (owA_congr (H' := upd H p (.dK [])) (H := H) fun n b dx e => by
        obtain ⟨r, fs, _, q, _⟩ := S.inst e
        rw [upd_ne (ne_of_none q np)]).mp q
      exact S.notOw np k q'
    have bp := S.bn np
    have SB := S0.addB pl_dK upd_same (S.zn np) bp no
    unfold evK evK evK at h
    refine ⟨Z, upd B p (.dK []), ι, ω, ρ, SB, (h.bind.bind.mono (fun x ω1 h1 w H1 Z1 ι1 E1 S1 o1 p1 => ?_) fun _ _ _ q => q.addB S bp E0)⟩
    obtain ⟨s1, e1, i1⟩ := p1 hp1.1
    split at h1
    · rename_i hk1
      obtain ⟨Z2, E2, S2, r2⟩ := o1.keep S1 hk1
      have E12 := E1.trans E2
      refine ⟨Z2, upd B p (.dK []), ι1, ω1, ρ, S2, (h1.bind.bind.mono (fun y ω3 h3 u H3 Z3 ι3 E3 S3 o3 p3 => ?_) fun _ _ _ q => (q.addB S bp E0).on E12)⟩
      split at h3
      · rename_i hk3
        obtain ⟨Z4, E4, S4, r4⟩ := o3.keep S3 hk3
        have h3 : RP (liftO (dispV [x.1, y.1]) .own ω3) _ _ := h3
        have E34 := E3.trans E4
        have EB := E12.trans E34
        have hH3 : H3 p = some (.dK []) := by
          rw [EB.k p (.inr (.inl (by rw [upd_same]; simp)))]
          exact upd_same
        have EA : Ext Z Z4 (PO B ρ σ) ι ι3 H H3 := E0.trans (EB.imp fun a h => PO.up bp h)
        obtain ⟨S5, z5, n5⟩ := S.remB S4 EA bp
        unfold dispV at h3
        rw [pairsV_two, Option.bind_some] at h3
        split at h3
        · rename_i hf
          have hflat : flatKey x.1 = true := by simpa using hf.2
          obtain ⟨k0, rfl, ek, hok⟩ := key_flat (H := H3) (r2.mono E34.z E34.i) hflat
          refine ⟨hH3, [(k0, u)], rfl, by simp, ?_⟩
          have rk : RK G Z4 ι3 (mergeK [] [(k0, u)]) (([(x.1, y.1)] : List (PV × PV)).foldl (fun d p => PVL.put d p.1 p.2) []) := by
            rw [ek]
            exact RK.put (kvs := []) .nil r4 hok
          -- the dict is written: nobody sees it
          have hz3 : Z4 p = none := z5
          have S6 : Sim G Z4 B (upd H3 p (.dK (mergeK [] [(k0, u)]))) ι3 ω3 ρ σ := S5.swap (sub_upd S5.zH hz3) (sub_upd S5.bH bp) (tabs_upd S5.tb ⟨_, hH3, pl_dK⟩) fun k a q => upd_ne fun z => n5 k (z ▸ q)
          have E6 : Ext Z Z4 (PO B ρ σ) ι ι3 H (upd H3 p (.dK (mergeK [] [(k0, u)]))) := ⟨EA.z, EA.i, fun a h => by
            have ha : a ≠ p := fun z => by
              subst z
              rcases h with h | h
              · exact h (S.zn np)
              · obtain ⟨u, e⟩ := PO.some S h
                rw [np] at e; cases e
            rw [upd_ne ha]; exact EA.k a h⟩
          refine h3 _ _ Z4 ι3 E6 S6 ?_ (.no rfl)
          refine ⟨p, _, rfl, upd_same, .dK rk, hz3, bp, fun k q => n5 k ?_⟩
          exact (owA_congr fun n b dx e => by
            have hb : b ≠ p := fun z => n5 (.ins n) ⟨dx, z ▸ e⟩
            exact upd_ne hb).mp q
        · exact h3.elim
      · exact h3.elim
    · exact h1.elim
  · exact h.elim
end
end PVS
namespace PVS
open PySem L2 TL PVL
section
variable {X : Cx} {G : GS} {W : WX}
theorem isD_of {Z H : Hp} {ι : List (Addr × Addr)} {v : V} {ps : List (PV × PV)} (h : RH G Z H ι v (.dic ps)) : ∃ a, v = .ref a ∧ IsD H a := by
  obtain ⟨a, rfl, ⟨kvs, h1, _⟩ | ⟨kvs, h1, _⟩⟩ := h
  · exact ⟨a, rfl, .inl ⟨_, h1⟩⟩
  · exact ⟨a, rfl, .inr ⟨_, h1⟩⟩
theorem bmOn_get {x : PV} (h : bmOn .get x = true) : ∃ ps, x = .dic ps := by
  cases x <;> first | exact ⟨_, rfl⟩ | cases h
/-- d.get(k) -/
theorem se_get1 {o e : Expr} {io ie : E} {apos cpos : Pos} (hu : X.A.units + 1 < cLine) (ho : PE X o (tE G W io)) (he : PE X e (tE G W ie)) (m : M1 X o "get" apos e cpos) : PE X (.Call (.Attribute o "get" apos) [e] [] cpos) (tE G W (.bm .get io (.cons ie .nil))) := by
  refine PE.imp (pe_dget1 hu ho he m) fun σ H Q h => ?_
  obtain ⟨Z, B, ι, ω, ρ, S, h⟩ := h
  unfold ev at h
  refine tE.next S h.bind fun x ω1 h1 v H1 Z1 ι1 E1 S1 l1 _ p1 => ?_
  split at h1
  · rename_i hon
    obtain ⟨x, mm⟩ := x
    obtain ⟨ps, rfl⟩ := bmOn_get hon
    obtain ⟨a, rfl, isd⟩ := isD_of (l1.rh S1)
    unfold evK evK at h1
    refine ⟨a, rfl, isd, Z1, B, ι1, ω1, ρ, S1, h1.bind.bind.mono (fun y ω2 h2 u H2 Z2 ι2 E2 S2 o2 p2 => ?_) fun _ _ _ q => q.on E1⟩
    split at h2
    · rename_i hk
      obtain ⟨Z3, E3, S3, r3⟩ := o2.keep S2 hk
      have h2 : RP (liftO (bmV .get (.dic ps) [y.1]) .fz ω2) _ _ := h2
      have e0 : bmV .get (.dic ps) [y.1] = if keyFits ps y.1 then some ((look ps y.1).getD .non) else none := rfl
      rw [e0] at h2
      split at h2
      · rename_i hf
        have g := dget (S3.zH) ((l1.on (E2.trans E3)).rh S3) (RH.of S3.zH r3) hf
        rw [liftO_some] at h2
        cases el : look ps y.1 with
        | none =>
          rw [el] at h2
          exact ⟨none, g.2 el, h2 .non H2 Z3 ι2 (E1.trans (E2.trans E3)) S3 RV.non (.no rfl)⟩
        | some z =>
          rw [el] at h2
          obtain ⟨w, gw, rw_⟩ := g.1 z el
          exact ⟨some w, gw, h2 w H2 Z3 ι2 (E1.trans (E2.trans E3)) S3 rw_ (.no rfl)⟩
      · exact h2.elim
    · exact h2.elim
  · exact h1.elim
theorem se_get2 {o e f : Expr} {io ie iF : E} {apos cpos : Pos} (hu : X.A.units + 1 < cLine) (ho : PE X o (tE G W io)) (he : PE X e (tE G W ie)) (hf : PE X f (tE G W iF)) (m : M2 X o "get" apos e f cpos) : PE X (.Call (.Attribute o "get" apos) [e, f] [] cpos) (tE G W (.bm .get io (.cons ie (.cons iF .nil)))) := by
  refine PE.imp (pe_dget2 hu ho he hf m) fun σ H Q h => ?_
  obtain ⟨Z, B, ι, ω, ρ, S, h⟩ := h
  unfold ev at h
  refine tE.next S h.bind fun x ω1 h1 v H1 Z1 ι1 E1 S1 l1 _ p1 => ?_
  split at h1
  · rename_i hon
    obtain ⟨x, mm⟩ := x
    obtain ⟨ps, rfl⟩ := bmOn_get hon
    obtain ⟨a, rfl, isd⟩ := isD_of (l1.rh S1)
    unfold evK evK evK at h1
    refine ⟨a, rfl, isd, Z1, B, ι1, ω1, ρ, S1, h1.bind.bind.mono (fun y ω2 h2 u H2 Z2 ι2 E2 S2 o2 p2 => ?_) fun _ _ _ q => q.on E1⟩
    split at h2
    · rename_i hk
      obtain ⟨Z3, E3, S3, r3⟩ := o2.keep S2 hk
      refine ⟨Z3, B, ι2, ω2, ρ, S3, h2.bind.bind.mono (fun d ω4 h4 t H4 Z4 ι4 E4 S4 o4 p4 => ?_) fun _ _ _ q => q.on (E1.trans (E2.trans E3))⟩
      split at h4
      · rename_i hk4
        obtain ⟨Z5, E5, S5, r5⟩ := o4.keep S4 hk4
        have h4 : RP (liftO (bmV .get (.dic ps) [y.1, d.1]) .fz ω4) _ _ := h4
        have e0 : bmV .get (.dic ps) [y.1, d.1] = if keyFits ps y.1 then some ((look ps y.1).getD d.1) else none := rfl
        rw [e0] at h4
        have E25 := (E2.trans E3).trans (E4.trans E5)
        split at h4
        · rename_i hf
          have g := dget (S5.zH) ((l1.on E25).rh S5) (RH.of S5.zH (r3.mono (E4.trans E5).z (E4.trans E5).i)) hf
          rw [liftO_some] at h4
          cases el : look ps y.1 with
          | none =>
            rw [el] at h4
            exact ⟨none, g.2 el, h4 t H4 Z5 ι4 (E1.trans E25) S5 r5 (.no rfl)⟩
          | some z =>
            rw [el] at h4
            obtain ⟨w, gw, rw_⟩ := g.1 z el
            exact ⟨some w, gw, h4 w H4 Z5 ι4 (E1.trans E25) S5 rw_ (.no rfl)⟩
        · exact h4.elim
      · exact h4.elim
    · exact h2.elim
  · exact h1.elim
/-! ### isinstance(a, (T1, T2, ..)) -/
/-- the written tuple of types -/
structure TyEs (X : Cx) (es : List Expr) (ts : List Ty) (ns : List String) : Prop where
  pa : PA X es (fun σ H Q => Q (ns.map V.ty) H)
  nm : ts.map Ty.nm = ns.map some
theorem ty_nil : TyEs X [] [] [] := ⟨⟨fun pos pins s σ H Q I h => Calls.spliced_nil ⟨[], H, I, .nil, h⟩⟩, rfl⟩
theorem ty_cons {T : Str} {pt : Pos} {es : List Expr} {ts : List Ty} {ns : List String} {t : Ty} {m : String} (hgT : Gl X T) (hmT : X.mg T = none) (hvT : bootBuiltins T = some (.type m)) (hnT : T ≠ "__name__") (hdT : (T == ("__debug__" : Str)) = false) (ht : Ty.nm t = some m) (h : TyEs X es ts ns)
    (hs : starEach (.Name T pt :: es) X.env = (false, eval (.Name T pt) X.env) :: starEach es X.env) : TyEs X (.Name T pt :: es) (t :: ts) (m :: ns) :=
  ⟨PA.imp (pa_cons (pe_bltn (v := .ty m) hgT hmT hvT rfl hnT hdT) h.pa hs) fun σ H Q q => q, by rw [List.map_cons, List.map_cons, ht, h.nm]⟩
theorem tys_cls : ∀ ns : List String, Paired ClsV (ns.map V.ty) (ns.map Value.type)
  | [] => .nil
  | n :: ns => .cons (.ty n) (tys_cls ns)
theorem kits {K : PySem.W.Frag} {ω : PVL.Store} {x : PV} {n : String} (hx : tyN x = some n) : ∀ {ts : List Ty} {ns : List String} {b : Bool}, ts.map Ty.nm = ns.map some → ts.foldr (fun t b => b.bind fun b => (isTy ω x t).map (· || b)) (some false) = some b → PySem.W.kitAny K (.type n) (ns.map Value.type) = some b
  | [], [], b, _, e => by cases e; exact kitAny_nil
  | [], _ :: _, _, h, _ => by cases h
  | _ :: _, [], _, h, _ => by cases h
  | t :: ts, m :: ns, b, h, e => by
    simp only [List.map_cons, List.cons.injEq] at h
    simp only [List.foldr_cons, Option.bind_eq_some_iff, Option.map_eq_some_iff] at e
    obtain ⟨b1, e1, b2, e2, rfl⟩ := e
    have ih := kits (K := K) hx h.2 e1
    exact kitAny_cons (kit_all hx h.1 e2) (fun z => by rw [z]; exact ih) (fun z => by rw [z]; rfl)
theorem foldTy_some {ω : PVL.Store} {x : PV} {t : Ty} {m : String} {ts : List Ty} {b : Bool} (ht : Ty.nm t = some m) (e : (t :: ts).foldr (fun t b => b.bind fun b => (isTy ω x t).map (· || b)) (some false) = some b) : ∃ n, tyN x = some n := by
  simp only [List.foldr_cons, Option.bind_eq_some_iff, Option.map_eq_some_iff] at e
  obtain ⟨b1, e1, b2, e2, _⟩ := e
  exact isTy_nm ht e2
theorem se_instT {a : Expr} {x : Str} {ia : E} {es : List Expr} {t : Ty} {ts : List Ty} {ns : List String} {k : Nat} {p pt pos : Pos} (hK : G.K = X.K) (hg : Gl X x) (hm : X.mg x = none) (hv : bootBuiltins x = some (.builtin "isinstance")) (hn : x ≠ "__name__") (hdb : (x == ("__debug__" : Str)) = false) (ha : PE X a (tE G W ia))
    (ht : TyEs X es (t :: ts) ns) (hl : ns.length ≤ 1000) (hs : starEach [a, .Tuple es k pt] X.env = (false, eval a X.env) :: starEach [.Tuple es k pt] X.env) : PE X (.Call (.Name x p) [a, .Tuple es k pt] [] pos) (tE G W (.inst ia (t :: ts))) := by
  refine PE.imp (pe_callB call_isiT hg hm hv (pa_cons ha (pa_cons (pe_tup ht.pa) pa_nil rfl) hs) hn hdb hs rfl) fun σ H Q h => ?_
  obtain ⟨Z, B, ι, ω, ρ, S, h⟩ := h
  unfold ev at h
  refine tE.next S h.bind fun y ω1 h1 v H1 Z1 ι1 E1 S1 l1 _ p1 => ?_
  unfold liftB at h1
  refine ⟨by rw [List.length_map]; exact Nat.le_trans hl (by decide), fun q hq => ?_⟩
  have S2 := S1.lay (.tup (ns.map V.ty)) hq
  have E2 := Ext.lay S1 (.tup (ns.map V.ty)) hq
  cases e : (t :: ts).foldr (fun t b => b.bind fun b => (isTy ω1 y.1 t).map (· || b)) (some false) with
  | none => rw [e] at h1; exact h1.elim
  | some b =>
    rw [e] at h1
    obtain ⟨m, hm1⟩ : ∃ m, Ty.nm t = some m := by
      have := ht.nm
      cases ns with
      | nil => cases this
      | cons m ns => exact ⟨m, (List.cons.inj this).1⟩
    obtain ⟨n, en⟩ := foldTy_some hm1 e
    exact ⟨v, q, ns.map V.ty, .type n, ns.map Value.type, b, rfl, upd_same, tys_cls ns, ((l1.on E2).rh S2).tyx S2.zH en, kits en ht.nm e, h1 _ _ Z1 ι1 (E1.trans E2) S2 (RV.bl b) (.no rfl)⟩
end
end PVS

set_option maxHeartbeats 1000000
/-! PVS: comprehensions. -/
namespace PVS
open PySem L2 TL PVL
section
variable {G : GS} {Z Z' B B' H H' : Hp} {ι ι' : List (Addr × Addr)} {ω ω' : PVL.Store} {ρ : PVL.Env} {σ : St} {p : Addr} {o o' : HO}
theorem wipe_wipe : ∀ (vs : List Nat) (σ : St), wipe (wipe σ vs) vs = wipe σ vs := by
  intro vs
  have com : ∀ (vs : List Nat) (σ : St) (i : Nat), wipe (σ.set i none) vs = (wipe σ vs).set i none := by
    intro vs
    induction vs with
    | nil => intro σ i; rfl
    | cons v vs ih =>
      intro σ i
      unfold wipe
      rw [ih]
      by_cases e : i = v
      · subst e; rfl
      · rw [List.set_comm _ _ e]
  induction vs with
  | nil => intro σ; rfl
  | cons v vs ih =>
    intro σ
    show (wipe ((wipe σ vs).set v none) vs).set v none = (wipe σ vs).set v none
    rw [com, ih, List.set_set]
theorem wipeV_some {ρ : PVL.Env} {i : Nat} {x : VM} : ∀ {vs : List Nat}, (wipeV ρ vs)[i]? = some (some x) → ρ[i]? = some (some x) ∧ i ∉ vs
  | [], h => ⟨h, by simp⟩
  | v :: vs, h => by
    unfold wipeV at h
    by_cases hi : v = i
    · subst hi
      by_cases hv : v < (wipeV ρ vs).length
      · rw [List.getElem?_set_self hv] at h; cases h
      · rw [List.getElem?_eq_none (by simpa using hv)] at h; cases h
    · rw [List.getElem?_set_ne hi] at h
      obtain ⟨h1, h2⟩ := wipeV_some h
      exact ⟨h1, by simp only [List.mem_cons, not_or]; exact ⟨fun e => hi e.symm, h2⟩⟩
theorem wipeV_length (ρ : PVL.Env) : ∀ vs : List Nat, (wipeV ρ vs).length = ρ.length
  | [] => rfl
  | v :: vs => by unfold wipeV; rw [List.length_set, wipeV_length ρ vs]
theorem wipe_keep {σ : St} {i : Nat} {v : V} : ∀ {vs : List Nat}, σ[i]? = some (some v) → i ∉ vs → (wipe σ vs)[i]? = some (some v)
  | [], h, _ => h
  | u :: vs, h, hn => by
    unfold wipe
    simp only [List.mem_cons, not_or] at hn
    rw [List.getElem?_set_ne (Ne.symm hn.1)]
    exact wipe_keep h hn.2
theorem lendV_get {i : Nat} {x : PV} {m : Md} (h : (lendV ρ)[i]? = some (some (x, m))) : ∃ m0, ρ[i]? = some (some (x, m0)) ∧ m = if m0 = .own then .br else m0 := by
  unfold lendV at h
  rw [List.getElem?_map, Option.map_eq_some_iff] at h
  obtain ⟨o, h1, h2⟩ := h
  cases o with
  | none => cases h2
  | some v =>
    obtain ⟨y, m0⟩ := v
    simp only [Option.map_some, Option.some.injEq, Prod.mk.injEq] at h2
    obtain ⟨rfl, rfl⟩ := h2
    exact ⟨m0, h1, rfl⟩
/-- the names as a block has them -/
theorem Sim.blk (S : Sim G Z B H ι ω ρ σ) (S' : Sim G Z' B' H' ι' ω' [] []) (hz : Same Z Z') (hi : ι <+: ι') (hB : ∀ a o, lend B H ρ σ a = some o → B' a = some o) (vs : List Nat) : Sim G Z' B' H' ι' ω' (wipeV (lendV ρ) vs) (wipe σ vs) := by
  have get : ∀ {i : Nat} {x : PV} {m : Md}, (wipeV (lendV ρ) vs)[i]? = some (some (x, m)) → m ≠ .own ∧ ∃ v, (wipe σ vs)[i]? = some (some v) ∧ SR G Z' B' H' ι' v x m := fun {i x m} h => by
    obtain ⟨h1, hn⟩ := wipeV_some h
    obtain ⟨m0, h2, rfl⟩ := lendV_get h1
    obtain ⟨v, e1, e2⟩ := S.sl i x m0 h2
    have k := wipe_keep e1 hn
    cases m0 with
    | own =>
      obtain ⟨a, o, rfl, e3, e4⟩ := e2
      refine ⟨by simp, _, k, ?_⟩
      show SR G Z' B' H' ι' (.ref a) x .br
      exact .inr ⟨a, o, rfl, hB a o (by rw [lend_slot h2 e1]; exact e3), e4.mono hz hi⟩
    | fz => exact ⟨by simp, v, k, e2.mono hz hi⟩
    | br =>
      refine ⟨by simp, v, k, ?_⟩
      show SR G Z' B' H' ι' v x .br
      rcases e2 with e2 | ⟨a, o, h3, h4, h5⟩
      · exact .inl (e2.mono hz hi)
      · exact .inr ⟨a, o, h3, hB a o (lend_b S h4), h5.mono hz hi⟩
    | lv => exact e2.elim
  have oc : ∀ {k a}, owA G H' ι' ω' (wipeV (lendV ρ) vs) (wipe σ vs) k a → owA G H' ι' ω' [] [] k a := by
    intro k a h
    cases k with
    | slot i => obtain ⟨⟨x, e⟩, _⟩ := h; exact absurd rfl (get e).1
    | ins n => exact h
    | dct n => exact h
    | fld n j => exact h
  exact ⟨S'.zH, S'.bH, S'.iL, S'.ob, fun i x m e => (get e).2, by rw [wipeV_length, wipe_length]; unfold lendV; rw [List.length_map, S.len], fun k k' a h h' => S'.inj k k' a (oc h) (oc h'), fun k a h => S'.zno k a (oc h), S'.zb, S'.tb⟩
/-- what is held fast is written anew -/
theorem Sim.reB (S : Sim G Z (upd B p o) H ι ω [] []) (hb : B p = none) (pl : plainO o) (pl' : plainO o') : Sim G Z (upd B p o') (upd H p o') ι ω [] [] := by
  have zp : Z p = none := S.zb p o upd_same
  have no : ∀ {k a}, owA G H ι ω [] [] k a → a ≠ p := fun {k a} h z => by
    subst z
    have := (S.zno k a h).2
    rw [upd_same] at this; cases this
  have oc : ∀ {k a}, owA G (upd H p o') ι ω [] [] k a ↔ owA G H ι ω [] [] k a := owA_congr fun n b dx h => upd_ne (no (k := .ins n) ⟨dx, h⟩)
  refine ⟨sub_upd S.zH zp, fun a u e => ?_, S.iL, fun n r en => ?_, fun i x m e => by simp at e, rfl, fun k k' a h h' => S.inj k k' a (oc.mp h) (oc.mp h'), fun k a h => ?_, fun a u e => ?_, ⟨(tabs_upd S.tb (by
    rcases S.bH p o upd_same with q | ⟨m, x, q⟩
    · exact ⟨_, q, pl⟩
    · exact ⟨_, q, pl_frz⟩)).t, S.tb.z, fun a ps e => by
    by_cases ha : a = p
    · subst ha; rw [upd_same] at e; exact pl'.1 ps (Option.some.inj e)
    · rw [upd_ne ha] at e; exact S.tb.b a ps (by rw [upd_ne ha]; exact e)⟩⟩
  · by_cases ha : a = p
    · subst ha; rw [upd_same] at e; cases e; exact .inl upd_same
    · rw [upd_ne ha] at e
      rcases S.bH a u (by rw [upd_ne ha]; exact e) with q | ⟨m, x, q⟩
      · exact .inl (by rw [upd_ne ha]; exact q)
      · exact .inr ⟨m, x, by rw [upd_ne ha]; exact q⟩
  · obtain ⟨b, dx, fs, h1, h2, h3, h4⟩ := S.ob n r en
    refine ⟨b, dx, fs, h1, by rw [upd_ne (no (k := .ins n) ⟨dx, h1⟩)]; exact h2, by rw [upd_ne (no (k := .dct n) ⟨b, h1⟩)]; exact h3, h4.imp (Same.refl _) (List.prefix_refl _) fun j f x nm a u q1 q2 q3 q4 => ?_⟩
    rw [upd_ne (no (k := .fld n j) ⟨b, dx, _, fs, nm, r, f, x, h1, h2, q2, en, q1, q3⟩)]
    exact q4
  · have h' := oc.mp h
    have ha := no h'
    refine ⟨(S.zno k a h').1, ?_⟩
    have := (S.zno k a h').2
    rw [upd_ne ha] at this ⊢
    exact this
  · by_cases ha : a = p
    · subst ha; exact zp
    · exact S.zb a u (by rw [upd_ne ha] at e ⊢; exact e)
theorem RP.calm {α : Type} {r : R α} {k : α → PVL.Store → Prop} {x : Nat → List PV → PVL.Store → Prop} (h : RP r.calm k x) : RP r k (fun _ _ _ => False) := by
  cases r with
  | ok a ω => exact h
  | exc c xs ω => exact h
  | bad => exact h
end
section
variable {X : Cx} {G : GS} {W : WX}
abbrev WF : WX := fun _ _ _ _ => False
/-- what is read of a comprehension -/
theorem comp_read {it : PVL.It} {is : List Nat} {ic : T} {ie : E} {g : TG} {σ : St} {H : Hp} {Q : VK}
    (hg : ∀ (Z B H : Hp) (ι : List (Addr × Addr)) (ω : PVL.Store) (ρ : PVL.Env) (σ : St) (v : V) (x : PV) (ρ' : PVL.Env) (Q : St → Hp → Prop), Sim G Z B H ι ω ρ σ → RV G Z ι v x → assignT ρ is x = some ρ' → (∀ σ', Sim G Z B H ι ω ρ' σ' → wipe σ' is = wipe σ is → Q σ' H) → g v σ H Q)
    (h : tE G W (.comp ie is it ic) σ H Q) : tLc (tI G W false it) g (tT G WF ic) (tE G WF ie) is σ H Q := by
  obtain ⟨Z, B, ι, ω, ρ, S, h⟩ := h
  unfold ev at h
  refine ⟨Z, B, ι, ω, ρ, S, h.bind.mono (fun xs ω1 h1 J H1 Z1 ι1 E1 S1 w => ?_) fun _ _ _ q => q⟩
  intro D hD
  have w : Walk G (PO B ρ σ) Z1 ι1 H1 J xs := w
  have lD : lend B H1 ρ σ D = none := by
    cases e : lend B H1 ρ σ D with
    | none => rfl
    | some o =>
      have := S1.call.bH D o e
      rcases this with q | ⟨_, x, q⟩
      · rw [hD] at q; cases q
      · rw [hD] at q; cases q
  have PtoL : ∀ a, PO B ρ σ a → PB (lend B H1 ρ σ) a := fun a h => by
    show lend B H1 ρ σ a ≠ none
    rcases h with h | ⟨i, x, e1, e2⟩
    · cases e : B a with
      | none => exact absurd e h
      | some o => rw [lend_b S1 e]; simp
    · obtain ⟨o, ho⟩ := S1.owSome (k := .slot i) ⟨⟨x, e1⟩, e2⟩
      rw [lend_slot e1 e2, ho]; simp
  generalize hf : (fun (x : PV) (ω : PVL.Store) => match assignT (wipeV (lendV ρ) is) is x with
      | none => (R.bad : R (Option PV))
      | some ρ' => ((evT ic ρ' ω).bind fun b ω => if b then (ev ie ρ' ω).bind fun y ω => if keeps y then .ok (some y.1) ω else .bad else .ok none ω).calm) = f at h1
  -- the state of the loop
  refine ⟨fun i m H' => m = xs.length - i ∧ i ≤ xs.length ∧ ∃ Z' ι' ω' acc vacc, Sim G Z' (upd (lend B H1 ρ σ) D (.lst vacc)) H' ι' ω' [] [] ∧ H' D = some (.lst vacc) ∧ RVs G Z' ι' vacc acc ∧ Ext Z1 Z' (PB (lend B H1 ρ σ)) ι1 ι' H1 H' ∧
      RP (foldC f (xs.drop i) acc ω') (fun ys ω2 => ∀ H2 Z2 ι2, Ext Z Z2 (PO B ρ σ) ι ι2 H H2 → Sim G Z2 B H2 ι2 ω2 ρ σ → OkV G Z2 B H2 ι2 ω2 ρ σ (.ref D) (.lst ys) .own → Q (.ref D) H2) (fun _ _ _ => False), ⟨xs.length, by simp, Nat.zero_le _, Z1, ι1, ω1, [], [], ?_, upd_same, .nil, ?_, ?_⟩, ?_⟩
  · -- at the beginning
    have S2 := S1.call.lay (.lst []) hD
    exact S2.addB pl_lst upd_same (S1.zn hD) lD fun k q => by
      have q' : owA G H1 ι1 ω1 [] [] k D := (owA_congr (H' := upd H1 D (.lst [])) (H := H1) fun n b dx e => by
        obtain ⟨r, fs, _, q, _⟩ := S1.inst e
        rw [upd_ne (ne_of_none q hD)]).mp q
      exact S1.call.notOw hD k q'
  · refine ⟨Same.refl _, List.prefix_refl _, fun a ha => upd_ne fun z => ?_⟩
    subst z
    rcases ha with q | q
    · exact q (S1.zn hD)
    · exact q lD
  · -- no exception leaves a turn
    have nx : ∀ (l acc : List PV) (ω : PVL.Store) (c : Nat) (ys : List PV) (ω' : PVL.Store), foldC f l acc ω ≠ .exc c ys ω' := by
      intro l
      induction l with
      | nil => intro acc ω c ys ω' z; cases z
      | cons x l ih =>
        intro acc ω c ys ω' z
        unfold foldC at z
        cases ef : f x ω with
        | bad => rw [ef] at z; cases z
        | exc d zs ω3 =>
          rw [← hf] at ef
          have ef : (match assignT (wipeV (lendV ρ) is) is x with
            | none => (R.bad : R (Option PV))
            | some ρ' => ((evT ic ρ' ω).bind fun b ω => if b then (ev ie ρ' ω).bind fun y ω => if keeps y then .ok (some y.1) ω else .bad else .ok none ω).calm) = .exc d zs ω3 := ef
          split at ef
          · cases ef
          · generalize (evT ic _ ω).bind _ = r at ef
            cases r <;> cases ef
        | ok y ω3 =>
          rw [ef] at z
          cases y with
          | none => exact ih acc ω3 c ys ω' z
          | some y =>
            have z : (if acc.length < line then foldC f l (acc ++ [y]) ω3 else .bad) = .exc c ys ω' := z
            split at z
            · exact ih _ ω3 c ys ω' z
            · cases z
    rw [List.drop_zero]
    have h1 := h1.bind
    cases ec : foldC f xs [] ω1 with
    | bad => rw [ec] at h1; exact h1.elim
    | exc c ys ω' => exact absurd ec (nx _ _ _ _ _ _)
    | ok ys ω2 =>
      rw [ec] at h1
      exact fun H2 Z2 ι2 E2 S2 o2 => h1 _ H2 Z2 ι2 E2 S2 o2 (.no rfl)
  · rintro i m H2 ⟨rfl, hi, Z2, ι2, ω2, acc, vacc, S2, hD2, r2, E2, h2⟩
    have E2' : Ext Z1 Z2 (PO B ρ σ) ι1 ι2 H1 H2 := E2.imp PtoL
    obtain ⟨ws, wg⟩ := w Z2 ι2 H2 E2' S2.zH
    by_cases hlt : i < xs.length
    · obtain ⟨x, hx⟩ : ∃ x, xs[i]? = some x := ⟨xs[i], List.getElem?_eq_getElem hlt⟩
      have hd : xs.drop i = x :: xs.drop (i + 1) := by
        rw [List.drop_eq_getElem_cons hlt]
        rw [List.getElem?_eq_getElem hlt] at hx
        cases hx; rfl
      obtain ⟨w1, w2⟩ := wg i x hx
      rw [hd] at h2
      unfold foldC at h2
      have h2 := h2.bind
      refine .inr ⟨w1, fun H' => ∃ Z' ι' ω' acc vacc, Sim G Z' (upd (lend B H1 ρ σ) D (.lst vacc)) H' ι' ω' [] [] ∧ H' D = some (.lst vacc) ∧ RVs G Z' ι' vacc acc ∧ Ext Z1 Z' (PB (lend B H1 ρ σ)) ι1 ι' H1 H' ∧
        RP (foldC f (xs.drop (i + 1)) acc ω') (fun ys ω2 => ∀ H2 Z2 ι2, Ext Z Z2 (PO B ρ σ) ι ι2 H H2 → Sim G Z2 B H2 ι2 ω2 ρ σ → OkV G Z2 B H2 ι2 ω2 ρ σ (.ref D) (.lst ys) .own → Q (.ref D) H2) (fun _ _ _ => False), fun H' q => ⟨xs.length - (i + 1), by omega, rfl, hlt, q⟩, fun v H3 yl => ?_⟩
      obtain ⟨Z3, E3, S3, o3, s3⟩ := (w2 v H3 yl).fin S2 (.inr rfl)
      have r3 : RV G Z3 ι2 v x := by
        have em : (mk x .fz).2 = .fz := by unfold mk; cases isC x <;> rfl
        have o3 : OkV G Z3 _ H3 ι2 ω2 [] [] v x (mk x .fz).2 := o3
        rw [em] at o3; exact o3
      have hf2 : f x ω2 = (match assignT (wipeV (lendV ρ) is) is x with
        | none => (R.bad : R (Option PV))
        | some ρ' => ((evT ic ρ' ω2).bind fun b ω => if b then (ev ie ρ' ω).bind fun y ω => if keeps y then .ok (some y.1) ω else .bad else .ok none ω).calm) := by rw [← hf]
      rw [hf2] at h2
      cases ea : assignT (wipeV (lendV ρ) is) is x with
      | none => rw [ea] at h2; exact h2.elim
      | some ρ' =>
        rw [ea] at h2
        have E23 : Ext Z1 Z3 (PB (lend B H1 ρ σ)) ι1 ι2 H1 H3 := E2.trans (E3.imp fun a h => .inl (by
          cases e : lend B H1 ρ σ a with
          | none => exact absurd e h
          | some u => rw [upd_ne (ne_of_none e lD), e]; simp))
        have up : ∀ a o, lend B H1 ρ σ a = some o → upd (lend B H1 ρ σ) D (.lst vacc) a = some o := fun a o e => by rw [upd_ne (ne_of_none e lD)]; exact e
        have SB := S1.blk S3 E23.z E23.i up is
        refine hg Z3 _ H3 ι2 ω2 _ (wipe σ is) v x ρ' _ SB r3 ea fun σ' S4 hw => ⟨by rw [hw, wipe_wipe], ?_⟩
        have h2 := (show RP (((evT ic ρ' ω2).bind fun b ω => if b then (ev ie ρ' ω).bind fun y ω => if keeps y then .ok (some y.1) ω else .bad else .ok none ω).calm) _ _ from h2).calm.bind
        have PBL : ∀ {ρ0 : PVL.Env} {σ0 : St} (a : Addr), PB (lend B H1 ρ σ) a → PO (upd (lend B H1 ρ σ) D (.lst vacc)) ρ0 σ0 a := fun {ρ0 σ0} a h => .inl (by
          cases e : lend B H1 ρ σ a with
          | none => exact absurd e h
          | some u => rw [up a u e]; simp)
        have hD3 : H3 D = some (.lst vacc) := by rw [E3.k D (.inr (.inl (by rw [upd_same]; simp)))]; exact hD2
        have r23 := r2.mono E3.z E3.i
        refine ⟨Z3, _, ι2, ω2, ρ', S4, h2.mono (fun b ω5 h5 H5 Z5 ι5 E5 S5 => ?_) fun _ _ _ z => z.elim⟩
        have E25 := E23.trans (E5.imp PBL)
        have hD5 : H5 D = some (.lst vacc) := by rw [E5.k D (.inr (.inl (by rw [upd_same]; simp)))]; exact hD3
        have r5 := r23.mono E5.z E5.i
        cases b with
        | false =>
          refine iteF ?_
          exact ⟨Z5, ι5, ω5, acc, vacc, S5.drop, hD5, r5, E25, h5.mono (fun _ _ q => q) fun _ _ _ z => z⟩
        | true =>
          refine iteT ?_
          have h5 := (show RP ((ev ie ρ' ω5).bind fun y ω => if keeps y then .ok (some y.1) ω else .bad) _ _ from h5).bind
          refine ⟨Z5, _, ι5, ω5, ρ', S5, h5.mono (fun y ω6 h6 u H6 Z6 ι6 E6 S6 o6 p6 => ?_) fun _ _ _ z => z.elim⟩
          split at h6
          · rename_i hk
            obtain ⟨Z7, E7, S7, r7⟩ := o6.keep S6 hk
            have h6 : RP (if acc.length < line then foldC f (xs.drop (i + 1)) (acc ++ [y.1]) ω6 else .bad) _ _ := h6
            split at h6
            · rename_i hl
              have E67 := E6.trans E7
              have hD6 : H6 D = some (.lst vacc) := by rw [E6.k D (.inr (.inl (by rw [upd_same]; simp)))]; exact hD5
              have r6 := r5.mono E67.z E67.i
              have E27 := E25.trans (E67.imp PBL)
              refine ⟨vacc, hD6, by rw [r6.len, ← line_eq]; exact hl, Z7, ι6, ω6, acc ++ [y.1], vacc ++ [u], S7.drop.reB lD pl_lst pl_lst, upd_same, r6.snoc r7, ⟨E27.z, E27.i, fun a ha => ?_⟩, h6⟩
              have na : a ≠ D := fun z => by
                subst z
                rcases ha with q | q
                · exact q (S1.zn hD)
                · exact q lD
              rw [upd_ne na]
              exact E27.k a ha
            · exact h6.elim
          · exact h6.elim
    · have ei : i = xs.length := by omega
      subst ei
      rw [List.drop_length] at h2
      refine .inl ⟨ws _ (Nat.le_refl _), ?_⟩
      -- the list is let go
      have S1c := S1.call
      have hzD : Z2 D = none := S2.zb D _ upd_same
      have S3 : Sim G Z2 (lend B H1 ρ σ) H2 ι2 ω2 [] [] := ⟨S2.zH, fun a u e => S2.bH a u (by rw [upd_ne (ne_of_none e lD)]; exact e), S2.iL, S2.ob, (fun i x m e => by simp at e), S2.len, S2.inj, fun k a h => ⟨(S2.zno k a h).1, by
          have q := (S2.zno k a h).2
          by_cases ha : a = D
          · subst ha; exact lD
          · rw [upd_ne ha] at q; exact q⟩, fun a u e => S2.zb a u (by rw [upd_ne (ne_of_none e lD)]; exact e), ⟨S2.tb.t, S2.tb.z, S1c.tb.b⟩⟩
      obtain ⟨S4, E4⟩ := S1.back S3 E2
      refine h2 H2 Z2 ι2 (E1.trans E4) S4 ⟨D, _, rfl, hD2, .lst r2, hzD, ?_, fun k q => ?_⟩
      · cases e : B D with
        | none => rfl
        | some u => rw [lend_b S1 e] at lD; cases lD
      · cases k with
        | slot j =>
          obtain ⟨⟨y, e1⟩, e2⟩ := q
          obtain ⟨u, hu⟩ := S1.owSome (k := .slot j) ⟨⟨y, e1⟩, e2⟩
          rw [hD] at hu; cases hu
        | ins n => have := (S2.zno (.ins n) D q).2; rw [upd_same] at this; cases this
        | dct n => have := (S2.zno (.dct n) D q).2; rw [upd_same] at this; cases this
        | fld n j => have := (S2.zno (.fld n j) D q).2; rw [upd_same] at this; cases this
/-- a comprehension -/
theorem st_tts {X : Cx} : PTs X [] (tT G W .tt) := ⟨fun pins s σ H Q I h => pts_nil.run pins s σ H Q I (by
  obtain ⟨Z, B, ι, ω, ρ, S, h⟩ := h
  unfold evT at h
  exact h H Z ι Ext.refl S)⟩
theorem st_one {X : Cx} {c : Expr} {ic : T} (h : PT X c (tT G W ic)) : PTs X [c] (tT G W ic) := pts_one h
theorem se_comp {elt tg iter : Expr} {ifs : List Expr} {scope : Scope} {own : List (Str × Nat)} {pos : Pos} {it : PVL.It} {is : List Nat} {ic : T} {ie : E} (hc : X.calm = true) (hN : X.N.Nodup) (hi : PI X tg iter (tI G W false it)) (ok : BlkOk X.N X.env.scope scope own) (ho : own.map (·.2) = is)
    (g : TG) (hg : ∀ (s : Shared) (H : Hp) (C : Addr) (cl : List (Str × Addr)) (fp : List Addr), PG (X.blk s H scope (compEnvC scope cl C X.env) fp) tg g)
    (hg2 : ∀ (Z B H : Hp) (ι : List (Addr × Addr)) (ω : PVL.Store) (ρ : PVL.Env) (σ : St) (v : V) (x : PV) (ρ' : PVL.Env) (Q : St → Hp → Prop), Sim G Z B H ι ω ρ σ → RV G Z ι v x → assignT ρ is x = some ρ' → (∀ σ', Sim G Z B H ι ω ρ' σ' → wipe σ' is = wipe σ is → Q σ' H) → g v σ H Q)
    (ht : ∀ (s : Shared) (H : Hp) (C : Addr) (cl : List (Str × Addr)) (fp : List Addr), PTs (X.blk s H scope (compEnvC scope cl C X.env) fp) ifs (tT G WF ic))
    (he : ∀ (s : Shared) (H : Hp) (C : Addr) (cl : List (Str × Addr)) (fp : List Addr), PE (X.blk s H scope (compEnvC scope cl C X.env) fp) elt (tE G WF ie)) (hs : ∀ x, foldedSetIterable iter X.env x = pure x) :
    PE X (.ListComp elt [⟨tg, iter, ifs, 0⟩] scope pos) (tE G W (.comp ie is it ic)) :=
  PE.imp (pe_lc hc hN hi ok hg ht he hs) fun σ H Q h => by rw [ho]; exact comp_read hg2 h
theorem sp_setC {i : Nat} {y : Str} {py : Pos} {elt tg iter : Expr} {ifs : List Expr} {scope : Scope} {own : List (Str × Nat)} {pos spos : Pos} {it : PVL.It} {is : List Nat} {ic : T} {ie : E} (hc : X.calm = true) (hN : X.N.Nodup) (hy : X.N[i]? = some y) (hyl : X.env.scope.names.lookup y = some .local)
    (hsw : swapsWith (.ListComp elt [⟨tg, iter, ifs, 0⟩] scope pos) (some (.Name y py)) spos.line X.env = pure true) (hi : PI X tg iter (tI G W false it)) (ok : BlkOk X.N X.env.scope scope own) (ho : own.map (·.2) = is)
    (g : TG) (hg : ∀ (s : Shared) (H : Hp) (C : Addr) (cl : List (Str × Addr)) (fp : List Addr), PG (X.blk s H scope (compEnvC scope cl C X.env) fp) tg g)
    (hg2 : ∀ (Z B H : Hp) (ι : List (Addr × Addr)) (ω : PVL.Store) (ρ : PVL.Env) (σ : St) (v : V) (x : PV) (ρ' : PVL.Env) (Q : St → Hp → Prop), Sim G Z B H ι ω ρ σ → RV G Z ι v x → assignT ρ is x = some ρ' → (∀ σ', Sim G Z B H ι ω ρ' σ' → wipe σ' is = wipe σ is → Q σ' H) → g v σ H Q)
    (ht : ∀ (s : Shared) (H : Hp) (C : Addr) (cl : List (Str × Addr)) (fp : List Addr), PTs (X.blk s H scope (compEnvC scope cl C X.env) fp) ifs (tT G WF ic))
    (he : ∀ (s : Shared) (H : Hp) (C : Addr) (cl : List (Str × Addr)) (fp : List Addr), PE (X.blk s H scope (compEnvC scope cl C X.env) fp) elt (tE G WF ie)) (hs : ∀ x, foldedSetIterable iter X.env x = pure x) :
    PS X (.Assign [.Name y py] (.ListComp elt [⟨tg, iter, ifs, 0⟩] scope pos) spos) (tS G W (.set i (.comp ie is it ic))) := by
  refine ⟨fun pins s σ H D I h => (ps_setLc hc hN hy hyl hsw hi ok hg ht he hs).run pins s σ H D I ?_⟩
  obtain ⟨Z, B, ι, ω, ρ, S, h⟩ := h
  unfold ex at h
  have hiρ : i < ρ.length := by rw [S.len, I.len]; exact (List.getElem?_eq_some_iff.mp hy).1
  rw [ho]
  refine comp_read hg2 ⟨Z, B, ι, ω, ρ, S, h.to.mono (fun y ω1 h1 v H1 Z1 ι1 E1 S1 o1 p1 => ?_) fun _ _ _ q => q⟩
  cases hk : keeps y with
  | false => rw [hk] at h1; exact h1.elim
  | true =>
    rw [hk] at h1
    exact h1 H1 Z1 ι1 _ E1.pb (S1.store hiρ hk o1)
end
end PVS

set_option maxHeartbeats 1000000
/-! PVS: objects: their fields read and set, their methods, making them. -/
namespace PVS
open PySem L2 TL PVL
section
variable {G : GS} {Z Z' B H H' : Hp} {ι ι' : List (Addr × Addr)} {ω ω' : PVL.Store} {ρ : PVL.Env} {σ : St}
theorem Lv.obj {v : V} {n : Nat} (S : Sim G Z B H ι ω ρ σ) (l : Lv G Z B H ι ρ σ v (.obj n)) : ∃ a dx, v = .ref a ∧ ι[n]? = some (a, dx) := by
  have q : RV G Z ι v (.obj n) := l.rh S
  cases q with
  | obj h => exact ⟨_, _, rfl, h⟩
theorem FR.rh {v : V} {x : PV} (s : Sub Z H) (h : FR G Z ι H v x) : RH G Z H ι v x := by
  unfold FR at h
  split at h
  · obtain ⟨a, o, rfl, e, r⟩ := h
    exact .ofO (.inl e) r
  · exact .of s h
theorem FR.on {v : V} {x : PV} (h : FR G Z ι H v x) (hz : Same Z Z') (hi : ι <+: ι') (s : Same H H') : FR G Z' ι' H' v x := by
  unfold FR at h ⊢
  split
  · rename_i hc
    rw [if_pos hc] at h
    obtain ⟨a, o, rfl, e, r⟩ := h
    exact ⟨a, o, rfl, s _ _ e, r.mono hz hi⟩
  · rename_i hc
    rw [if_neg hc] at h
    exact h.mono hz hi
theorem FR.rv {v : V} {x : PV} (h : FR G Z ι H v x) (hc : isC x = false) : RV G Z ι v x := by
  unfold FR at h
  rw [if_neg (by rw [hc]; decide)] at h
  exact h
/-- a field, as the machine finds it -/
theorem fld_at {v : V} {x z : PV} {f : Nat} (S : Sim G Z B H ι ω ρ σ) (l : Lv G Z B H ι ρ σ v x) (e : fldV ω x f = some z) : ∃ a c dx fs u, v = .ref a ∧ H a = some (.ins (G.cl c) dx fs) ∧ fs.lookup (G.fnm f) = some u ∧ FR G Z ι H u z := by
  cases x with
  | obj n =>
    obtain ⟨a, dx, rfl, ei⟩ := l.obj S
    obtain ⟨r, fs, en, eb, _, fr⟩ := S.inst ei
    have el : r.flds.lookup f = some z := by
      have e : (ω[n]?).bind (fun r => r.flds.lookup f) = some z := e
      rw [en] at e
      exact e
    obtain ⟨u, hl, q, _⟩ := fr.lookup el
    exact ⟨a, r.cls, dx, fs, u, rfl, eb, hl, q⟩
  | _ => cases e
end
/-- what of the classes' texts is asked for a field's name -/
structure FldOk (K : PySem.W.Frag) (G : GS) (f : Nat) (nm : Str) : Prop where
  en : G.fnm f = nm
  cl : ∀ c, Cls K (G.cl c)
  no : ∀ c, NoAttr K (G.cl c) nm
section
variable {X : Cx} {G : GS} {W : WX}
/-- a field's place is read -/
theorem fld_go {io : E} {f : Nat} {nm : Str} (hf : FldOk X.K G f nm) {Z B H : Hp} {ι : List (Addr × Addr)} {ω : PVL.Store} {ρ : PVL.Env} {σ : St} (S : Sim G Z B H ι ω ρ σ) {k : VM → PVL.Store → Prop} {R : V → Hp → Prop}
    (h : RP (ev io ρ ω) k (QX G W Z B H ι ρ σ))
    (go : ∀ x ω1, k x ω1 → ∃ z, fldV ω1 x.1 f = some z ∧ ∀ u H1 Z1 ι1, Ext Z Z1 (PO B ρ σ) ι ι1 H H1 → Sim G Z1 B H1 ι1 ω1 ρ σ → FR G Z1 ι1 H1 u z → Pu (pureE io) H H1 ω ω1 ι ι1 → R u H1) : tFld X.K (tE G W io) nm σ H R := by
  refine tE.next S h fun x ω1 h1 v H1 Z1 ι1 E1 S1 l1 _ p1 => ?_
  obtain ⟨z, ez, go⟩ := go x ω1 h1
  obtain ⟨a, c, dx, fs, u, rfl, eb, hl, q⟩ := fld_at S1 l1 ez
  exact ⟨a, _, dx, fs, u, rfl, eb, hf.cl c, hf.no c, hf.en ▸ hl, go u H1 Z1 ι1 E1 S1 q p1⟩
theorem elim_some {α : Type} {o : Option α} {f : α → R VM} {k : VM → PVL.Store → Prop} {x : Nat → List PV → PVL.Store → Prop} (h : RP (o.elim .bad f) k x) : ∃ z, o = some z ∧ RP (f z) k x := by
  cases o with
  | none => exact h.elim
  | some z => exact ⟨z, rfl, h⟩
theorem se_fld {o : Expr} {io : E} {f : Nat} {nm : Str} {pos : Pos} (hf : FldOk X.K G f nm) (ho : PE X o (tE G W io)) (hb : attributeBase o nm X.env (eval o X.env) = eval o X.env) : PE X (.Attribute o nm pos) (tE G W (.fld f io)) := by
  refine PE.imp (pe_fld ho hb) fun σ H Q h => ?_
  obtain ⟨Z, B, ι, ω, ρ, S, h⟩ := h
  unfold ev at h
  refine fld_go hf S h.bind fun x ω1 h1 => ?_
  obtain ⟨z, ez, h1⟩ := elim_some h1
  refine ⟨z, ez, fun u H1 Z1 ι1 E1 S1 q p1 => ?_⟩
  cases hz : isC z with
  | true => rw [if_pos hz] at h1; exact h1.elim
  | false =>
    rw [if_neg (by rw [hz]; decide)] at h1
    exact h1 u H1 Z1 ι1 E1 S1 (q.rv hz) p1
mutual
/-- a quiet expression leaves the store, and raises nothing -/
theorem pure_ev : ∀ (e : E) (ρ : PVL.Env) (ω : PVL.Store), pureE e = true → (∃ x, ev e ρ ω = .ok x ω) ∨ ev e ρ ω = .bad
  | .var i, ρ, ω, _ => by
    unfold ev
    cases getV ρ i with
    | none => exact .inr rfl
    | some v => exact .inl ⟨_, rfl⟩
  | .con x, ρ, ω, _ => .inl ⟨_, rfl⟩
  | .tup es, ρ, ω, h => by
    have h : pureEs es = true := h
    show (∃ x, (evK es ρ ω).bind (fun xs ω => R.ok (PV.tup xs, Md.fz) ω) = .ok x ω) ∨ (evK es ρ ω).bind (fun xs ω => R.ok (PV.tup xs, Md.fz) ω) = .bad
    rcases pure_evK es ρ ω h with ⟨xs, e⟩ | e
    · rw [e]; exact .inl ⟨_, rfl⟩
    · rw [e]; exact .inr rfl
  | .lst es, ρ, ω, h => by
    have h : pureEs es = true := h
    show (∃ x, (evK es ρ ω).bind (fun xs ω => R.ok (PV.lst xs, Md.own) ω) = .ok x ω) ∨ (evK es ρ ω).bind (fun xs ω => R.ok (PV.lst xs, Md.own) ω) = .bad
    rcases pure_evK es ρ ω h with ⟨xs, e⟩ | e
    · rw [e]; exact .inl ⟨_, rfl⟩
    · rw [e]; exact .inr rfl
  | .bin op a b, ρ, ω, h => by
    have h : (pureE a && pureE b) = true := h
    rw [Bool.and_eq_true] at h
    show (∃ x, (ev a ρ ω).bind (fun x ω => (ev b ρ ω).bind fun y ω => liftO (binV op x.1 y.1) .own ω) = .ok x ω) ∨ (ev a ρ ω).bind (fun x ω => (ev b ρ ω).bind fun y ω => liftO (binV op x.1 y.1) .own ω) = .bad
    rcases pure_ev a ρ ω h.1 with ⟨x, e⟩ | e
    · rw [e]
      show (∃ z, (ev b ρ ω).bind (fun y ω => liftO (binV op x.1 y.1) .own ω) = .ok z ω) ∨ (ev b ρ ω).bind (fun y ω => liftO (binV op x.1 y.1) .own ω) = .bad
      rcases pure_ev b ρ ω h.2 with ⟨y, e2⟩ | e2
      · rw [e2]
        show (∃ z, liftO (binV op x.1 y.1) .own ω = .ok z ω) ∨ liftO (binV op x.1 y.1) .own ω = .bad
        cases binV op x.1 y.1 with
        | none => exact .inr rfl
        | some z => exact .inl ⟨_, rfl⟩
      · rw [e2]; exact .inr rfl
    · rw [e]; exact .inr rfl
  | .fld f o, ρ, ω, h => by
    have h : pureE o = true := h
    show (∃ x, (ev o ρ ω).bind (fun x ω => (fldV ω x.1 f).elim .bad fun v => if isC v then .bad else R.ok (v, Md.fz) ω) = .ok x ω) ∨ (ev o ρ ω).bind (fun x ω => (fldV ω x.1 f).elim .bad fun v => if isC v then R.bad else R.ok (v, Md.fz) ω) = .bad
    rcases pure_ev o ρ ω h with ⟨x, e⟩ | e
    · rw [e]
      show (∃ z, (fldV ω x.1 f).elim .bad (fun v => if isC v then .bad else R.ok (v, Md.fz) ω) = .ok z ω) ∨ (fldV ω x.1 f).elim .bad (fun v => if isC v then R.bad else R.ok (v, Md.fz) ω) = .bad
      cases fldV ω x.1 f with
      | none => exact .inr rfl
      | some z =>
        show (∃ q, (if isC z then R.bad else R.ok (z, Md.fz) ω) = .ok q ω) ∨ (if isC z then R.bad else R.ok (z, Md.fz) ω) = .bad
        split
        · exact .inr rfl
        · exact .inl ⟨_, rfl⟩
    · rw [e]; exact .inr rfl
  | .idxF f o i, ρ, ω, h => by
    have h : (pureE o && pureE i) = true := h
    rw [Bool.and_eq_true] at h
    show (∃ x, (ev o ρ ω).bind (fun x ω => (ev i ρ ω).bind fun y ω => (fldV ω x.1 f).elim .bad fun v => liftO (idxV v y.1) .fz ω) = .ok x ω) ∨ (ev o ρ ω).bind (fun x ω => (ev i ρ ω).bind fun y ω => (fldV ω x.1 f).elim .bad fun v => liftO (idxV v y.1) .fz ω) = .bad
    rcases pure_ev o ρ ω h.1 with ⟨x, e⟩ | e
    · rw [e]
      show (∃ z, (ev i ρ ω).bind (fun y ω => (fldV ω x.1 f).elim .bad fun v => liftO (idxV v y.1) .fz ω) = .ok z ω) ∨ (ev i ρ ω).bind (fun y ω => (fldV ω x.1 f).elim .bad fun v => liftO (idxV v y.1) .fz ω) = .bad
      rcases pure_ev i ρ ω h.2 with ⟨y, e2⟩ | e2
      · rw [e2]
        show (∃ z, (fldV ω x.1 f).elim .bad (fun v => liftO (idxV v y.1) .fz ω) = .ok z ω) ∨ (fldV ω x.1 f).elim .bad (fun v => liftO (idxV v y.1) .fz ω) = .bad
        cases fldV ω x.1 f with
        | none => exact .inr rfl
        | some v =>
          show (∃ z, liftO (idxV v y.1) .fz ω = .ok z ω) ∨ liftO (idxV v y.1) .fz ω = .bad
          cases idxV v y.1 with
          | none => exact .inr rfl
          | some z => exact .inl ⟨_, rfl⟩
      · rw [e2]; exact .inr rfl
    · rw [e]; exact .inr rfl
  | .idx a i, ρ, ω, h => by
    have h : (pureE a && pureE i) = true := h
    rw [Bool.and_eq_true] at h
    show (∃ x, (ev a ρ ω).bind (fun x ω => (ev i ρ ω).bind fun y ω => liftO (idxV x.1 y.1) .fz ω) = .ok x ω) ∨ (ev a ρ ω).bind (fun x ω => (ev i ρ ω).bind fun y ω => liftO (idxV x.1 y.1) .fz ω) = .bad
    rcases pure_ev a ρ ω h.1 with ⟨x, e⟩ | e
    · rw [e]
      show (∃ z, (ev i ρ ω).bind (fun y ω => liftO (idxV x.1 y.1) .fz ω) = .ok z ω) ∨ (ev i ρ ω).bind (fun y ω => liftO (idxV x.1 y.1) .fz ω) = .bad
      rcases pure_ev i ρ ω h.2 with ⟨y, e2⟩ | e2
      · rw [e2]
        show (∃ z, liftO (idxV x.1 y.1) .fz ω = .ok z ω) ∨ liftO (idxV x.1 y.1) .fz ω = .bad
        cases idxV x.1 y.1 with
        | none => exact .inr rfl
        | some z => exact .inl ⟨_, rfl⟩
      · rw [e2]; exact .inr rfl
    · rw [e]; exact .inr rfl
  | .dct _, _, _, h => by cases h
  | .neg _, _, _, h => by cases h
  | .cmp _ _ _, _, _, h => by cases h
  | .chn _ _ _ _ _, _, _, h => by cases h
  | .andV _ _, _, _, h => by cases h
  | .orV _ _, _, _, h => by cases h
  | .notV _, _, _, h => by cases h
  | .ite _ _ _, _, _, h => by cases h
  | .cmpF _ _ _ _, _, _, h => by cases h
  | .inF _ _ _ _, _, _, h => by cases h
  | .bfF _ _ _, _, _, h => by cases h
  | .slc _ _ _, _, _, h => by cases h
  | .call _ _, _, _, h => by cases h
  | .meth _ _ _, _, _, h => by cases h
  | .new _ _ _, _, _, h => by cases h
  | .mkx _ _, _, _, h => by cases h
  | .bm _ _ _, _, _, h => by cases h
  | .bf1 _ _, _, _, h => by cases h
  | .bf2 _ _ _, _, _, h => by cases h
  | .inst _ _, _, _, h => by cases h
  | .comp _ _ _ _, _, _, h => by cases h
  | .bad, _, _, h => by cases h
theorem pure_evK : ∀ (es : Es) (ρ : PVL.Env) (ω : PVL.Store), pureEs es = true → (∃ xs, evK es ρ ω = .ok xs ω) ∨ evK es ρ ω = .bad
  | .nil, ρ, ω, _ => .inl ⟨_, rfl⟩
  | .cons e r, ρ, ω, h => by
    have h : (pureE e && pureEs r) = true := h
    rw [Bool.and_eq_true] at h
    show (∃ xs, (ev e ρ ω).bind (fun x ω => if keeps x then (evK r ρ ω).bind fun xs ω => .ok (x.1 :: xs) ω else .bad) = .ok xs ω) ∨ (ev e ρ ω).bind (fun x ω => if keeps x then (evK r ρ ω).bind fun xs ω => R.ok (x.1 :: xs) ω else .bad) = .bad
    rcases pure_ev e ρ ω h.1 with ⟨x, e1⟩ | e1
    · rw [e1]
      show (∃ xs, (if keeps x then (evK r ρ ω).bind fun xs ω => R.ok (x.1 :: xs) ω else .bad) = .ok xs ω) ∨ (if keeps x then (evK r ρ ω).bind fun xs ω => R.ok (x.1 :: xs) ω else .bad) = .bad
      split
      · rcases pure_evK r ρ ω h.2 with ⟨xs, e2⟩ | e2
        · rw [e2]; exact .inl ⟨_, rfl⟩
        · rw [e2]; exact .inr rfl
      · exact .inr rfl
    · rw [e1]; exact .inr rfl
end
/-- a field's place, then a quiet operand -/
theorem fld_go2 {io ib : E} {f : Nat} {nm : Str} (hf : FldOk X.K G f nm) (hp : pureE ib = true) {Z B H : Hp} {ι : List (Addr × Addr)} {ω : PVL.Store} {ρ : PVL.Env} {σ : St} (S : Sim G Z B H ι ω ρ σ) {k : VM → PVL.Store → Prop} {g : PV → PV → PVL.Store → R VM} {R : V → V → Hp → Prop}
    (h : RP ((ev io ρ ω).bind fun x ω => (ev ib ρ ω).bind fun y ω => (fldV ω x.1 f).elim .bad fun v => g v y.1 ω) k (QX G W Z B H ι ρ σ))
    (go : ∀ z y ω1, RP (g z y ω1) k (QX G W Z B H ι ρ σ) → ∀ u w H2 Z2 ι2, Ext Z Z2 (PO B ρ σ) ι ι2 H H2 → Sim G Z2 B H2 ι2 ω1 ρ σ → RH G Z2 H2 ι2 u z → RH G Z2 H2 ι2 w y → Pu (pureE io) H H2 ω ω1 ι ι2 → R u w H2) :
    tFld X.K (tE G W io) nm σ H fun u H1 => tE G W ib σ H1 fun w H2 => R u w H2 := by
  cases e1 : ev io ρ ω with
  | bad => rw [e1] at h; exact h.elim
  | exc c xs ω1 => rw [e1] at h; exact ⟨Z, B, ι, ω, ρ, S, by rw [e1]; exact h⟩
  | ok x ω1 =>
    rw [e1] at h
    have h : RP ((ev ib ρ ω1).bind fun y ω => (fldV ω x.1 f).elim .bad fun v => g v y.1 ω) k (QX G W Z B H ι ρ σ) := h
    rcases pure_ev ib ρ ω1 hp with ⟨y, e2⟩ | e2
    · rw [e2] at h
      obtain ⟨z, ez, h3⟩ := elim_some (show RP ((fldV ω1 x.1 f).elim .bad fun v => g v y.1 ω1) k (QX G W Z B H ι ρ σ) from h)
      refine fld_go hf S (k := fun x' ω' => x' = x ∧ ω' = ω1) (by rw [e1]; exact ⟨rfl, rfl⟩) fun x' ω1' hx => ?_
      obtain ⟨rfl, rfl⟩ := hx
      refine ⟨z, ez, fun u H1 Z1 ι1 E1 S1 q p1 => ?_⟩
      refine tE.next S1 (k := fun y' ω' => y' = y ∧ ω' = ω1') (by rw [e2]; exact ⟨rfl, rfl⟩) fun y' ω2 hy w H2 Z2 ι2 E2 S2 l2 _ p2 => ?_
      obtain ⟨rfl, rfl⟩ := hy
      obtain ⟨s2, _, i2⟩ := p2 hp
      exact go z y'.1 ω2 h3 u w H2 Z2 ι2 (E1.trans E2) S2 ((q.on E2.z E2.i s2).rh S2.zH) (l2.rh S2) ((p1.and p2 (r := pureE io) (by rw [hp, Bool.and_true])))
    · rw [e2] at h; exact h.elim
theorem se_idxF {o i : Expr} {io ii : E} {f : Nat} {nm : Str} {p1 pos : Pos} (hu : X.A.units + 64 < cLine) (hf : FldOk X.K G f nm) (ho : PE X o (tE G W io)) (hb : attributeBase o nm X.env (eval o X.env) = eval o X.env) (hi : PE X i (tE G W ii)) (hp : pureE ii = true) (hs : PlainIx i) :
    PE X (.Subscript (.Attribute o nm p1) i pos) (tE G W (.idxF f io ii)) := by
  refine PE.imp (pe_ix (i_all (G := G) hu) (pe_fld ho hb) hi hs) fun σ H Q h => ?_
  obtain ⟨Z, B, ι, ω, ρ, S, h⟩ := h
  unfold ev at h
  refine fld_go2 hf hp S (g := fun v y ω => liftO (idxV v y) .fz ω) h fun z y ω1 h1 u w H2 Z2 ι2 E2 S2 r1 r2 p2 => ?_
  unfold liftO at h1
  cases e : idxV z y with
  | none => rw [e] at h1; exact h1.elim
  | some q =>
    rw [e] at h1
    refine ⟨Z2, ι2, z, y, q, S2.zH, r1, r2, e, fun v r => ?_⟩
    have em : (mk q .fz).2 = .fz := by unfold mk; cases isC q <;> rfl
    exact h1 v H2 Z2 ι2 E2 S2 (by show OkV G Z2 B H2 ι2 ω1 ρ σ v q (mk q .fz).2; rw [em]; exact r) (fun hq => p2 (by have hq : (pureE io && pureE ii) = true := hq; rw [Bool.and_eq_true] at hq; exact hq.1))
/-- self.f op x -/
theorem cmpF_read {io ib : E} {cop : COp} {f : Nat} {nm : Str} (hf : FldOk X.K G f nm) (hp : pureE ib = true) {Z B H : Hp} {ι : List (Addr × Addr)} {ω : PVL.Store} {ρ : PVL.Env} {σ : St} (S : Sim G Z B H ι ω ρ σ) {k : VM → PVL.Store → Prop} {Q : VK} (h : RP (ev (.cmpF cop f io ib) ρ ω) k (QX G W Z B H ι ρ σ))
    (go : ∀ b ω2, k (.bl b, .fz) ω2 → ∀ H2 Z2 ι2, Ext Z Z2 (PO B ρ σ) ι ι2 H H2 → Sim G Z2 B H2 ι2 ω2 ρ σ → Q (.bl b) H2) : tOp (rCm G (cmpV cop)) (tFld X.K (tE G W io) nm) (tE G W ib) σ H Q := by
  unfold ev at h
  refine fld_go2 hf hp S (g := fun v y ω => liftB (cmpV cop v y) ω) h fun z y ω1 h1 u w H2 Z2 ι2 E2 S2 r1 r2 p2 => ?_
  unfold liftB at h1
  cases e : cmpV cop z y with
  | none => rw [e] at h1; exact h1.elim
  | some b =>
    rw [e] at h1
    exact ⟨Z2, ι2, z, y, b, S2.zH, r1, r2, e, go b ω1 h1 H2 Z2 ι2 E2 S2⟩
theorem se_cmpF {o b : Expr} {io ib : E} {op : CmpOp} {cop : COp} {f : Nat} {nm : Str} {p1 pos : Pos} (ho : OpR X (compareOp op) (rCm G (cmpV cop))) (hf : FldOk X.K G f nm) (ha : PE X o (tE G W io)) (hb : attributeBase o nm X.env (eval o X.env) = eval o X.env) (hi : PE X b (tE G W ib)) (hp : pureE ib = true) (hm : behindInMarks op b = false) :
    PE X (.Compare (.Attribute o nm p1) [op] [b] pos) (tE G W (.cmpF cop f io ib)) := by
  refine PE.imp (pe_cmpR ho (pe_fld ha hb) hi hm) fun σ H Q h => ?_
  obtain ⟨Z, B, ι, ω, ρ, S, h⟩ := h
  exact cmpF_read hf hp S h fun b ω2 h2 H2 Z2 ι2 E2 S2 => h2 _ H2 Z2 ι2 E2 S2 (RV.bl b) (fun z => by cases z)
theorem st_cmpF {o b : Expr} {io ib : E} {op : CmpOp} {cop : COp} {f : Nat} {nm : Str} {p1 pos : Pos} (ho : OpR X (compareOp op) (rCm G (cmpV cop))) (hf : FldOk X.K G f nm) (ha : PE X o (tE G W io)) (hb : attributeBase o nm X.env (eval o X.env) = eval o X.env) (hi : PE X b (tE G W ib)) (hp : pureE ib = true) (hm : behindInMarks op b = false) :
    PT X (.Compare (.Attribute o nm p1) [op] [b] pos) (tT G W (.val (.cmpF cop f io ib))) := by
  refine PT.imp (pt_cmpR ho (pe_fld ha hb) hi hm) fun σ H Q h => ?_
  obtain ⟨Z, B, ι, ω, ρ, S, h⟩ := h
  unfold evT at h
  exact cmpF_read hf hp S h.bind fun b ω2 h2 H2 Z2 ι2 E2 S2 => ⟨b, rfl, h2 H2 Z2 ι2 E2 S2⟩
/-- x in self.f -/
theorem inF_read {io ia : E} {cop : COp} {f : Nat} {nm : Str} (hf : FldOk X.K G f nm) {Z B H : Hp} {ι : List (Addr × Addr)} {ω : PVL.Store} {ρ : PVL.Env} {σ : St} (S : Sim G Z B H ι ω ρ σ) (hq : pureE io = true) {k : VM → PVL.Store → Prop} {Q : VK} (h : RP (ev (.inF cop ia f io) ρ ω) k (QX G W Z B H ι ρ σ))
    (go : ∀ b ω2, k (.bl b, .fz) ω2 → ∀ H2 Z2 ι2, Ext Z Z2 (PO B ρ σ) ι ι2 H H2 → Sim G Z2 B H2 ι2 ω2 ρ σ → Q (.bl b) H2) : tOp (rCm G (cmpV cop)) (tE G W ia) (tFld X.K (tE G W io) nm) σ H Q := by
  unfold ev at h
  refine tE.next S h.bind fun y ω1 h1 v H1 Z1 ι1 E1 S1 l1 _ p1 => ?_
  refine fld_go hf S1 (h1.bind.mono (fun _ _ q => q) fun _ _ _ q => q.on E1) fun x ω2 h2 => ?_
  obtain ⟨z, ez, h2⟩ := elim_some h2
  refine ⟨z, ez, fun u H2 Z2 ι2 E2 S2 q p2 => ?_⟩
  unfold liftB at h2
  cases e : cmpV cop y.1 z with
  | none => rw [e] at h2; exact h2.elim
  | some b =>
    rw [e] at h2
    exact ⟨Z2, ι2, y.1, z, b, S2.zH, (l1.on E2).rh S2, q.rh S2.zH, e, go b ω2 h2 H2 Z2 ι2 (E1.trans E2) S2⟩
theorem se_inF {o a : Expr} {io ia : E} {op : CmpOp} {cop : COp} {f : Nat} {nm : Str} {p1 pos : Pos} (ho : OpR X (compareOp op) (rCm G (cmpV cop))) (hf : FldOk X.K G f nm) (hi : PE X a (tE G W ia)) (ha : PE X o (tE G W io)) (hb : attributeBase o nm X.env (eval o X.env) = eval o X.env) (hq : pureE io = true) (hm : behindInMarks op (.Attribute o nm p1) = false) :
    PE X (.Compare a [op] [.Attribute o nm p1] pos) (tE G W (.inF cop ia f io)) := by
  refine PE.imp (pe_cmpR ho hi (pe_fld ha hb) hm) fun σ H Q h => ?_
  obtain ⟨Z, B, ι, ω, ρ, S, h⟩ := h
  exact inF_read hf S hq h fun b ω2 h2 H2 Z2 ι2 E2 S2 => h2 _ H2 Z2 ι2 E2 S2 (RV.bl b) (fun z => by cases z)
theorem st_inF {o a : Expr} {io ia : E} {op : CmpOp} {cop : COp} {f : Nat} {nm : Str} {p1 pos : Pos} (ho : OpR X (compareOp op) (rCm G (cmpV cop))) (hf : FldOk X.K G f nm) (hi : PE X a (tE G W ia)) (ha : PE X o (tE G W io)) (hb : attributeBase o nm X.env (eval o X.env) = eval o X.env) (hq : pureE io = true) (hm : behindInMarks op (.Attribute o nm p1) = false) :
    PT X (.Compare a [op] [.Attribute o nm p1] pos) (tT G W (.val (.inF cop ia f io))) := by
  refine PT.imp (pt_cmpR ho hi (pe_fld ha hb) hm) fun σ H Q h => ?_
  obtain ⟨Z, B, ι, ω, ρ, S, h⟩ := h
  unfold evT at h
  exact inF_read hf S hq h.bind fun b ω2 h2 H2 Z2 ι2 E2 S2 => ⟨b, rfl, h2 H2 Z2 ι2 E2 S2⟩
/-- g(self.f), g a built-in -/
theorem bfF_read {g : BF} {io : E} {f : Nat} {nm : Str} (hf : FldOk X.K G f nm) {σ : St} {H : Hp} {Q : VK} (h : tE G W (.bfF g f io) σ H Q) : tCB (rF G (bfV g) .own) (tCons (tFld X.K (tE G W io) nm) tNil) σ H Q := by
  obtain ⟨Z, B, ι, ω, ρ, S, h⟩ := h
  unfold ev at h
  refine fld_go hf S h.bind fun x ω1 h1 => ?_
  obtain ⟨z, ez, h1⟩ := elim_some h1
  refine ⟨z, ez, fun u H1 Z1 ι1 E1 S1 q p1 => ?_⟩
  unfold liftO at h1
  cases e : bfV g [z] with
  | none => rw [e] at h1; exact h1.elim
  | some y =>
    rw [e] at h1
    refine ⟨Z1, ι1, [z], y, S1.zH, .cons (q.rh S1.zH) .nil, e, fun w H3 n => ?_⟩
    obtain ⟨Z3, E3, S3, o3, s3⟩ := n.fin S1 (by decide)
    exact h1 w H3 Z3 ι1 (E1.trans E3) S3 o3 (.no rfl)
theorem se_bfFB {g : BF} {x : Str} {id : String} {o : Expr} {io : E} {f : Nat} {nm : Str} {p p1 pos : Pos} (hc : CallR X (.builtin id) (rF G (bfV g) .own)) (hg : Gl X x) (hm : X.mg x = none) (hv : bootBuiltins x = some (.builtin id)) (hf : FldOk X.K G f nm) (ho : PE X o (tE G W io)) (hb : attributeBase o nm X.env (eval o X.env) = eval o X.env) (hn : x ≠ "__name__") (hdb : (x == ("__debug__" : Str)) = false)
    (hs : starEach [.Attribute o nm p1] X.env = [(false, eval (.Attribute o nm p1) X.env)]) : PE X (.Call (.Name x p) [.Attribute o nm p1] [] pos) (tE G W (.bfF g f io)) :=
  PE.imp (pe_callB hc hg hm hv (pa_cons (pe_fld ho hb) pa_nil hs) hn hdb hs rfl) fun _ _ _ h => bfF_read hf h
theorem se_bfFT {g : BF} {x : Str} {T : String} {o : Expr} {io : E} {f : Nat} {nm : Str} {p p1 pos : Pos} (hc : CallR X (.type T) (rF G (bfV g) .own)) (hg : Gl X x) (hm : X.mg x = none) (hv : bootBuiltins x = some (.type T)) (hf : FldOk X.K G f nm) (ho : PE X o (tE G W io)) (hb : attributeBase o nm X.env (eval o X.env) = eval o X.env) (hn : x ≠ "__name__") (hdb : (x == ("__debug__" : Str)) = false)
    (hs : starEach [.Attribute o nm p1] X.env = [(false, eval (.Attribute o nm p1) X.env)]) : PE X (.Call (.Name x p) [.Attribute o nm p1] [] pos) (tE G W (.bfF g f io)) :=
  PE.imp (pe_callTy hc hg hm hv (pa_cons (pe_fld ho hb) pa_nil hs) hn hdb hs rfl) fun _ _ _ h => bfF_read hf h
end
end PVS

set_option maxHeartbeats 1000000
/-! PVS: methods, new objects, fields that are set. -/
namespace PVS
open PySem L2 TL PVL
/-- what is asked of a method's name: for each class that a receiver may have, its def -/
structure MthOk (G : GS) (P : Program) (w : World) (K : PySem.W.Frag) (mg : Str → Option Value) (base : Heap) (k : Nat) (m : Str) (tb : List (Nat × Fn)) : Prop where
  nm : ∀ f, m ≠ G.fnm f
  cl : ∀ c, Cls K (G.cl c)
  ex : ∀ c D, tb.lookup c = some D → ∃ (f : Addr) (fd : FuncData) (ps : List Str), Meth K (G.cl c) m f ∧ FnOk P w K mg base (L2.CX P w) k f fd ps (spOf G D) ∧ Binds K fd ps []
def tMethD (G : GS) (m : Str) (tb : List (Nat × Fn)) (E : St → XK) (ta : TE) (t : TA) : TE := fun σ H Q => ta σ H fun x H1 => ∃ a c dx fs D, x = .ref a ∧ H1 a = some (.ins (G.cl c) dx fs) ∧ fs.lookup m = none ∧ tb.lookup c = some D ∧
  t σ H1 fun vs H2 => spOf G D (x :: vs) H2 Q (E σ)
section
variable {X : Cx} {G : GS} {W : WX}
theorem pe_methD {k : Nat} {m : Str} {tb : List (Nat × Fn)} {E : St → XK} {o e : Expr} {es : List Expr} {ta : TE} {t : TA} {apos pos : Pos} {pl : Sem Bool} (he : PE X o ta) (M : MthOk G X.prog X.w X.K X.mg X.base k m tb) (hr : Room k X.A) (hx : ∀ σ, PassesAt (L2.CX X.prog X.w) X σ (E σ)) (ha : PA X (e :: es) t)
    (hst : starEach (e :: es) X.env = (false, eval e X.env) :: starEach es X.env) (hpl : (backTo pos (starEach es X.env)).any (·.1) = false)
    (ht : eval (.Call (.Attribute o m apos) (e :: es) [] pos) X.env = (do
      let ov ← eval o X.env
      standAt apos.atName
      let (f, first) ← holding [ov] (getMethod ov m pl)
      callWith pos f first (backTo pos (starEach (e :: es) X.env)) (backToKw pos (keywordEach [] X.env)))) :
    PE X (.Call (.Attribute o m apos) (e :: es) [] pos) (tMethD G m tb E ta t) := by
  refine ⟨fun pins s σ H Q I h => ?_⟩
  refine PySem.W.methodCall_KW (pl := pl) (thn (he.run pins s σ H _ I h) fun u s1 ⟨x, H1, I1, rx, a, c, dx, fs, D, ex, ea, l, eD, q⟩ => ?_) ht
  subst ex
  obtain rfl : u = Value.ref a := rx
  obtain ⟨f, fd, ps, hm, F, hb⟩ := M.ex c D eD
  refine getmeth_ok I1 ea (M.cl c) hm l ?_
  refine PySem.W.callWith_K (first := [.ref a]) (h₀ := X.base) I.ok.mod.kin hm.kp (thn (ha.run pos pins s1 σ H1 _ I1 q) fun us s2 ⟨vs, H2, I2, r, q2⟩ => ⟨I2.kIn, ?_⟩) hst hpl
  exact run_fnS (us := .ref a :: us) (vs := .ref a :: vs) F hr hb (hx σ) I2 (.cons rfl r) q2
theorem pe_methD0 {k : Nat} {m : Str} {tb : List (Nat × Fn)} {E : St → XK} {o : Expr} {ta : TE} {apos pos : Pos} {pl : Sem Bool} (he : PE X o ta) (M : MthOk G X.prog X.w X.K X.mg X.base k m tb) (hr : Room k X.A) (hx : ∀ σ, PassesAt (L2.CX X.prog X.w) X σ (E σ))
    (ht : eval (.Call (.Attribute o m apos) [] [] pos) X.env = (do
      let ov ← eval o X.env
      standAt apos.atName
      let (f, first) ← holding [ov] (getMethod ov m pl)
      callWith pos f first (backTo pos (starEach [] X.env)) (backToKw pos (keywordEach [] X.env)))) :
    PE X (.Call (.Attribute o m apos) [] [] pos) (tMethD G m tb E ta tNil) := by
  refine ⟨fun pins s σ H Q I h => ?_⟩
  refine PySem.W.methodCall_KW (pl := pl) (thn (he.run pins s σ H _ I h) fun u s1 ⟨x, H1, I1, rx, a, c, dx, fs, D, ex, ea, l, eD, q⟩ => ?_) ht
  subst ex
  obtain rfl : u = Value.ref a := rx
  obtain ⟨f, fd, ps, hm, F, hb⟩ := M.ex c D eD
  refine getmeth_ok I1 ea (M.cl c) hm l ?_
  exact PySem.W.callWith_K0 (first := [.ref a]) I1.kIn hm.kp (run_fnS (us := [.ref a]) (vs := [.ref a]) F hr hb (hx σ) I1 (.cons rfl .nil) q)
/-- a method's reading -/
theorem meth_read {m : Str} {tb : List (Nat × Fn)} {io : E} {ies : Es} (hm : ∀ f, m ≠ G.fnm f) {t : TA} (ht : ∀ σ H Q, tA G W ies σ H Q → t σ H Q) {σ : St} {H : Hp} {Q : VK} (h : tE G W (.meth tb io ies) σ H Q) : tMethD G m tb (WE W) (tE G W io) t σ H Q := by
  obtain ⟨Z, B, ι, ω, ρ, S, h⟩ := h
  unfold ev at h
  refine tE.next S h.bind fun x ω1 h1 v H1 Z1 ι1 E1 S1 l1 r0 p1 => ?_
  clear r0
  obtain ⟨y, md⟩ := x
  cases y <;> try exact h1.elim
  rename_i n
  obtain ⟨a, dx, rfl, ei⟩ := l1.obj S1
  obtain ⟨r, fs, en, eb, _, fr⟩ := S1.inst ei
  simp only [en] at h1
  cases eD : tb.lookup r.cls with
  | none => simp only [eD] at h1; exact h1.elim
  | some D =>
    simp only [eD] at h1
    refine ⟨a, r.cls, dx, fs, D, rfl, eb, fr.names hm, eD, ht _ _ _ ⟨Z1, B, ι1, ω1, ρ, S1, h1.bind.mono (fun xs ω2 h2 vs H2 Z2 ι2 E2 S2 ag => ?_) fun _ _ _ q => q.on E1⟩⟩
    have ob : RV G Z2 ι2 (.ref a) (.obj n) := .obj (pre_get E2.i ei)
    exact call_read S2 (.cons (.inl rfl) (.inl (.inl ob)) (fun _ => ob) ag) (h2.mono (fun _ _ q => q) fun _ _ _ q => q.on (E1.trans E2)) fun q ω' hk v H' Z' ι' E' S' o' => hk v H' Z' ι' ((E1.trans E2).trans E') S' o' (.no rfl)
theorem se_meth {k : Nat} {m : Str} {tb : List (Nat × Fn)} {o e : Expr} {es : List Expr} {io : E} {ies : Es} {apos pos : Pos} {pl : Sem Bool} (tk : Takes X W) (he : PE X o (tE G W io)) (M : MthOk G X.prog X.w X.K X.mg X.base k m tb) (hr : Room k X.A) (ha : PA X (e :: es) (tA G W ies))
    (hst : starEach (e :: es) X.env = (false, eval e X.env) :: starEach es X.env) (hpl : (backTo pos (starEach es X.env)).any (·.1) = false)
    (ht : eval (.Call (.Attribute o m apos) (e :: es) [] pos) X.env = (do
      let ov ← eval o X.env
      standAt apos.atName
      let (f, first) ← holding [ov] (getMethod ov m pl)
      callWith pos f first (backTo pos (starEach (e :: es) X.env)) (backToKw pos (keywordEach [] X.env)))) :
    PE X (.Call (.Attribute o m apos) (e :: es) [] pos) (tE G W (.meth tb io ies)) :=
  PE.imp (pe_methD he M hr (fun σ => passAt tk σ) ha hst hpl ht) fun σ H Q h => meth_read M.nm (fun _ _ _ q => q) h
theorem se_meth0 {k : Nat} {m : Str} {tb : List (Nat × Fn)} {o : Expr} {io : E} {apos pos : Pos} {pl : Sem Bool} (tk : Takes X W) (he : PE X o (tE G W io)) (M : MthOk G X.prog X.w X.K X.mg X.base k m tb) (hr : Room k X.A)
    (ht : eval (.Call (.Attribute o m apos) [] [] pos) X.env = (do
      let ov ← eval o X.env
      standAt apos.atName
      let (f, first) ← holding [ov] (getMethod ov m pl)
      callWith pos f first (backTo pos (starEach [] X.env)) (backToKw pos (keywordEach [] X.env)))) :
    PE X (.Call (.Attribute o m apos) [] [] pos) (tE G W (.meth tb io .nil)) :=
  PE.imp (pe_methD0 he M hr (fun σ => passAt tk σ) ht) fun σ H Q h => meth_read M.nm (fun σ H Q q => by
    obtain ⟨Z, B, ι, ω, ρ, S, q⟩ := q
    unfold evA at q
    exact q [] H Z ι Ext.refl S .nil) h
/-! ### C.m(self, ..), m a def of the class -/
/-- what is asked of it -/
structure CmOk (G : GS) (P : Program) (w : World) (K : PySem.W.Frag) (mg : Str → Option Value) (base : Heap) (k : Nat) (x m : Str) (D : Fn) : Prop where
  ex : ∃ (C f : Addr) (mc : Value) (fd : FuncData) (ps : List Str), mg x = some (.ref C) ∧ ClX.CRead K C mc ∧ ClX.CVal K C mc m (.ref f) (.ref f) ∧ PySem.W.keepIn K (.ref f) = true ∧ FnOk P w K mg base (L2.CX P w) k f fd ps (spOf G D) ∧ Binds K fd ps []
theorem se_cm {k : Nat} {x m : Str} {D : Fn} {e : Expr} {es : List Expr} {ies : Es} {p apos pos : Pos} {pl : Sem Bool} (tk : Takes X W) (M : CmOk G X.prog X.w X.K X.mg X.base k x m D) (hr : Room k X.A) (hg : Gl X x) (hdb : (x == ("__debug__" : Str)) = false) (ha : PA X (e :: es) (tA G W ies))
    (hst : starEach (e :: es) X.env = (false, eval e X.env) :: starEach es X.env) (hpl : (backTo pos (starEach es X.env)).any (·.1) = false)
    (ht : eval (.Call (.Attribute (.Name x p) m apos) (e :: es) [] pos) X.env = (do
      let ov ← eval (.Name x p) X.env
      standAt apos.atName
      let (f, first) ← holding [ov] (getMethod ov m pl)
      callWith pos f first (backTo pos (starEach (e :: es) X.env)) (backToKw pos (keywordEach [] X.env)))) :
    PE X (.Call (.Attribute (.Name x p) m apos) (e :: es) [] pos) (tE G W (.call D ies)) := by
  obtain ⟨C, f, mc, fd, ps, hm, cr, cv, kp, F, hb⟩ := M.ex
  have base : PE X (.Call (.Attribute (.Name x p) m apos) (e :: es) [] pos) (tCallS (spOf G D) (WE W) (tA G W ies)) := by
    refine ⟨fun pins s σ H Q I h => ?_⟩
    refine PySem.W.methodCall_KW (pl := pl) (thn ((pe_glob (v := .ref C) hg hm rfl hdb).run pins s σ H (fun v H1 => v = .ref C ∧ H1 = H) I ⟨rfl, rfl⟩) fun u s1 ⟨y, H1, I1, ry, ey, eH⟩ => ?_) ht
    subst ey eH
    obtain rfl : u = Value.ref C := ry
    refine PySem.W.method_cls I1.kIn cr.ga (ClX.getcval_ok I1 cr cv fun s2 I2 => ?_)
    refine PySem.W.callWith_K (first := []) (h₀ := X.base) I.ok.mod.kin kp (thn (ha.run pos pins s2 σ _ _ I2 h) fun us s3 ⟨vs, H2, I3, r, q2⟩ => ⟨I3.kIn, ?_⟩) hst hpl
    exact run_fnS F hr hb (passAt tk σ) I3 r q2
  refine PE.imp base fun σ H Q h => ?_
  obtain ⟨Z, B, ι, ω, ρ, S, h⟩ := h
  unfold ev at h
  refine ⟨Z, B, ι, ω, ρ, S, h.bind.mono (fun xs ω1 h1 vs H1 Z1 ι1 E1 S1 ag => ?_) fun _ _ _ q => q⟩
  exact call_read S1 ag (h1.mono (fun _ _ q => q) fun _ _ _ q => q.on E1) fun r ω' hk v H' Z' ι' E' S' o' => hk v H' Z' ι' (E1.trans E') S' o' (.no rfl)
/-! ### a new object -/
def tMakeS (C : Addr) (sp : Sp) (E : St → XK) (t : TA) : TE := fun σ H Q => t σ H fun vs H1 => ∀ x dx, H1 x = none → H1 dx = none → dx ≠ x →
  sp (.ref x :: vs) (upd (upd H1 dx (.own x)) x (.ins C dx [])) (fun v H2 => v = .non ∧ Q (.ref x) H2) (E σ)
/-- what is asked of it -/
structure MkOk (G : GS) (P : Program) (w : World) (K : PySem.W.Frag) (mg : Str → Option Value) (base : Heap) (k c : Nat) (x : Str) (D : Fn) : Prop where
  ex : ∃ (f : Addr) (fd : FuncData) (ps : List Str), mg x = some (.ref (G.cl c)) ∧ Mk K (G.cl c) f ∧ FnOk P w K mg base (L2.CX P w) k f fd ps (spOf G D) ∧ Binds K fd ps []
theorem run_makeS {C f : Addr} {fd : FuncData} {ps : List Str} {sp : Sp} {k : Nat} {E : XK} {pins : List (Addr × Obj)} {σ : St} {H : Hp} {s : Shared} {Q : VK} {us : List Value} {vs : List V} (M : Mk X.K C f) (F : FnOk X.prog X.w X.K X.mg X.base (L2.CX X.prog X.w) k f fd ps sp) (hr : Room (k + 1) X.A) (hb : Binds X.K fd ps [])
    (hx : PassesAt (L2.CX X.prog X.w) X σ E) (I : Inv X pins σ H s) (r : Vals vs us)
    (h : ∀ x dx, H x = none → H dx = none → dx ≠ x → sp (.ref x :: vs) (upd (upd H dx (.own x)) x (.ins C dx [])) (fun v H2 => v = .non ∧ Q (.ref x) H2) E) :
    wpAny (model X.prog X.w) X.A (call (.ref C) us) (EP X pins σ Q) X.xe s := by
  have hq := h (s.heap.objs.size + 1) s.heap.objs.size (I.hok.fresh (Nat.le_succ _)) (I.hok.fresh (Nat.le_refl _)) (Nat.ne_of_lt (Nat.lt_succ_self _))
  have I2 := Inv.made (C := C) I
  have r2 : Vals (V.ref (s.heap.objs.size + 1) :: vs) (Value.ref (s.heap.objs.size + 1) :: us) := .cons rfl r
  have hl : (Value.ref (s.heap.objs.size + 1) :: us).length = ps.length := by
    have e := r2.length
    rw [F.len _ _ _ _ hq] at e
    exact e.symm
  have b := hb _ (Value.ref (s.heap.objs.size + 1) :: us) I2.kIn (by rw [List.append_nil]; exact hl)
  rw [List.append_nil] at b
  refine wpAny_call (make_map (f := f) I.kIn M.makes M.init (beq_iff_eq.mp M.fn) (codeAny_mono (F.run _ X.stack _ _ ⟨Value.ref (s.heap.objs.size + 1) :: us, []⟩ (Value.ref (s.heap.objs.size + 1) :: us) _ _ E (hr.make C us [])
    (I2.env0.make C us []) b r2 hq) fun r s' hq' => ?_))
  cases r with
  | error e => exact hx pins _ _ e s' I2 hq'
  | ok fl =>
    cases fl with
    | ret u =>
      obtain ⟨v, H', I3, rv, ev, q3⟩ := I2.after hq'
      subst ev
      exact ⟨rv, ⟨V.ref (s.heap.objs.size + 1), H', I3, rfl, q3⟩⟩
    | next => exact False.elim hq'
    | brk => exact False.elim hq'
    | cont => exact False.elim hq'
theorem isNon_of {x : PV} (h : isNon x = true) : x = .non := by cases x <;> first | rfl | cases h
theorem se_new {k c : Nat} {x : Str} {D : Fn} {e : Expr} {es : List Expr} {ies : Es} {p pos : Pos} (tk : Takes X W) (M : MkOk G X.prog X.w X.K X.mg X.base k c x D) (hr : Room (k + 1) X.A) (hg : Gl X x) (hdb : (x == ("__debug__" : Str)) = false) (ha : PA X (e :: es) (tA G W ies))
    (he : starEach (e :: es) X.env = (false, eval e X.env) :: starEach es X.env) (hpl : (backTo pos (starEach es X.env)).any (·.1) = false) :
    PE X (.Call (.Name x p) (e :: es) [] pos) (tE G W (.new c D ies)) := by
  obtain ⟨f, fd, ps, hm, mk, F, hb⟩ := M.ex
  have base : PE X (.Call (.Name x p) (e :: es) [] pos) (tMakeS (G.cl c) (spOf G D) (WE W) (tA G W ies)) := by
    refine ⟨fun pins s σ H Q I h => ?_⟩
    refine wpAny_Call_Name_kw (ld_glob I hg hm ?_ hdb)
    refine PySem.W.callWith_K (h₀ := X.base) I.ok.mod.kin mk.kp (thn (ha.run pos pins s σ H _ I h) fun us s1 ⟨vs, H1, I1, r, q⟩ => ⟨I1.kIn, ?_⟩) he hpl
    exact run_makeS mk F hr hb (passAt tk σ) I1 r q
  refine PE.imp base fun σ H Q h => ?_
  obtain ⟨Z, B, ι, ω, ρ, S, h⟩ := h
  unfold ev at h
  refine ⟨Z, B, ι, ω, ρ, S, h.bind.mono (fun xs ω1 h1 vs H1 Z1 ι1 E1 S1 ag => ?_) fun _ _ _ q => q⟩
  intro y dx hy hd hne
  obtain ⟨S2, E2⟩ := S1.make c hy hd hne
  have last : (ι1 ++ [(y, dx)])[ω1.length]? = some (y, dx) := by rw [← S1.iL]; simp
  have ob : RV G Z1 (ι1 ++ [(y, dx)]) (.ref y) (.obj ω1.length) := .obj last
  have h2 := h1.bind
  refine ⟨Z1, lend B _ ρ σ, ι1 ++ [(y, dx)], ω1 ++ [⟨c, []⟩], (.obj ω1.length, .fz) :: xs, S2.call, Ags.call S2 (.cons (.inl rfl) (.inl (.inl ob)) (fun _ => ob) (ag.on E2)), h2.mono (fun r ω' h3 v H' Z' ι' E' S' o' => ?_) fun c' ys ω' h3 cls d H' Z' ι' E' S' x' => ?_⟩
  · obtain ⟨S3, E3⟩ := S2.back S' E'
    cases hn : isNon r.1 with
    | false => rw [hn] at h3; exact h3.elim
    | true =>
      rw [if_pos hn] at h3
      have hv : v = .non := by
        obtain ⟨r1, r2⟩ := r
        have e1 : r1 = .non := isNon_of hn
        subst e1
        obtain ⟨Z4, _, S4, l4, _⟩ := OkV.settle S' o'
        exact (l4.rh S4).non
      exact ⟨hv, h3 (.ref y) H' Z' ι' ((E1.trans E2).trans E3) S3 (RV.obj (pre_get E3.i last)) (.no rfl)⟩
  · obtain ⟨S3, E3⟩ := S2.back S' E'
    exact h3 cls d H' Z' ι' ((E1.trans E2).trans E3) S3 x'
/-! ### a field is set -/
theorem roomF_of {ω : PVL.Store} {n : Nat} (h : roomF ω n = true) : ∃ r, ω[n]? = some r ∧ r.flds.length < 1000 := by
  unfold roomF at h
  cases e : ω[n]? with
  | none => rw [e] at h; cases h
  | some r => rw [e] at h; exact ⟨r, rfl, of_decide_eq_true h⟩
theorem sp_fset {i f : Nat} {nm x : Str} {value : Expr} {ie : E} {p pos' pos : Pos} (hf : FldOk X.K G f nm) (hN : X.N[i]? = some x) (hv : Vis X.env.scope x) (hd : (x == ("__debug__" : Str)) = false) (hcd : (x == ("__classdict__" : Str)) = false) (he : PE X value (tE G W ie))
    (hs : swapsWith value (some (.Attribute (.Name x p) nm pos')) pos.line X.env = pure false) : PS X (.Assign [.Attribute (.Name x p) nm pos'] value pos) (tS G W (.fset i f ie)) := by
  refine PS.imp (ps_fld (pe_var hN hv hd hcd) he hs) fun D σ H h => ?_
  obtain ⟨Z, B, ι, ω, ρ, S, h⟩ := h
  unfold ex at h
  refine ⟨Z, B, ι, ω, ρ, S, h.to.mono (fun y ω1 h1 v H1 Z1 ι1 E1 S1 o1 p1 => ?_) fun _ _ _ q => q⟩
  cases eg : getV ρ i with
  | none => rw [eg] at h1; exact h1.elim
  | some r =>
    obtain ⟨z, m⟩ := r
    rw [eg] at h1
    cases z <;> try exact h1.elim
    rename_i n
    have h1 : FP G W (if isC y.1 && y.2 != .own || !roomF ω1 n then .bad else .nx ρ (PVL.setF ω1 n f y.1)) Z B H ι D := h1
    split at h1
    · exact h1.elim
    · rename_i hc
      have hc : (isC y.1 && y.2 != .own || !roomF ω1 n) = false := by simpa using hc
      rw [Bool.or_eq_false_iff] at hc
      have hrm : roomF ω1 n = true := by simpa using hc.2
      obtain ⟨rc, en, hlen⟩ := roomF_of hrm
      obtain ⟨v0, e0, s0⟩ := S1.sl i (.obj n) m (getV_some.mp eg)
      obtain ⟨b, dx, fs, e1, e2, e3, e4⟩ := S1.ob n rc en
      -- the object's reference
      have hv0 : v0 = .ref b := by
        have l0 : Lv G Z1 B H1 ι1 ρ σ v0 (.obj n) := by
          cases m with
          | own => obtain ⟨a, o, rfl, h2, h3⟩ := s0; cases h3
          | fz => exact .inl (.inl s0)
          | br => exact .inl s0
          | lv => exact s0.elim
        obtain ⟨a, dx', rfl, ei⟩ := l0.obj S1
        rw [e1] at ei; cases ei
        rfl
      subst hv0
      refine ⟨_, e0, b, _, dx, fs, rfl, e2, hf.cl rc.cls, hf.no rc.cls, by rw [← e4.len]; exact hlen, ?_⟩
      -- what is stored
      obtain ⟨y1, y2⟩ := y
      have st : FR G Z1 ι1 H1 v y1 ∧ (isC y1 = true → ∀ a, v = .ref a → Z1 a = none ∧ B a = none ∧ ∀ k, ¬ owA G H1 ι1 ω1 ρ σ k a) := by
        cases hcc : isC y1 with
        | true =>
          have ho : y2 = .own := by
            have := hc.1
            simp only [hcc, Bool.true_and] at this
            cases y2 <;> first | rfl | (simp at this)
          subst ho
          obtain ⟨a, o, rfl, q1, q2, q3, q4, q5⟩ := o1
          refine ⟨by unfold FR; rw [if_pos hcc]; exact ⟨a, o, rfl, q1, q2⟩, fun _ a' e => ?_⟩
          cases e
          exact ⟨q3, q4, q5⟩
        | false =>
          refine ⟨?_, fun z => by cases z⟩
          unfold FR
          rw [if_neg (by rw [hcc]; decide)]
          cases y2 with
          | own => obtain ⟨a, o, rfl, q1, q2, _⟩ := o1; rw [q2.isC] at hcc; cases hcc
          | fz => exact o1
          | br => exact Lv.rv S1 (.inl o1) hcc
          | lv => exact Lv.rv S1 (.inr o1) hcc
      have S2 := S1.setF en e1 e2 (f := f) (x := y1) (v := v) st.1 st.2
      have ow : owA G H1 ι1 ω1 ρ σ (.ins n) b := ⟨dx, e1⟩
      obtain ⟨zb, bb⟩ := S1.zno _ _ ow
      rw [← hf.en]
      exact h1 _ Z1 ι1 σ (E1.pb.trans ⟨Same.refl _, List.prefix_refl _, fun a ha => upd_ne fun z => by
        subst z
        rcases ha with q | q
        · exact q zb
        · exact q bb⟩) S2
/-! ### a field's container, in its place -/
theorem obj_ref {Z B H : Hp} {ι : List (Addr × Addr)} {ω : PVL.Store} {ρ : PVL.Env} {σ : St} (S : Sim G Z B H ι ω ρ σ) {i n : Nat} {m : Md} {b dx : Addr} (eg : getV ρ i = some (.obj n, m)) (e1 : ι[n]? = some (b, dx)) : σ[i]? = some (some (.ref b)) := by
  obtain ⟨v0, e0, s0⟩ := S.sl i (.obj n) m (getV_some.mp eg)
  have l0 : Lv G Z B H ι ρ σ v0 (.obj n) := by
    cases m with
    | own => obtain ⟨a, o, rfl, h2, h3⟩ := s0; cases h3
    | fz => exact .inl (.inl s0)
    | br => exact .inl s0
    | lv => exact s0.elim
  obtain ⟨a, dx', rfl, ei⟩ := l0.obj S
  rw [e1] at ei; cases ei
  exact e0
theorem pl_fld {i f : Nat} {nm x : Str} {p pos : Pos} (hf : FldOk X.K G f nm) (hN : X.N[i]? = some x) (hv : Vis X.env.scope x) (hd : (x == ("__debug__" : Str)) = false) (hcd : (x == ("__classdict__" : Str)) = false) (hb : attributeBase (.Name x p) nm X.env (eval (.Name x p) X.env) = eval (.Name x p) X.env) : PlR X G (.fld i f) (.Attribute (.Name x p) nm pos) :=
  ⟨tFld X.K (tVar i) nm, pe_fld (pe_var hN hv hd hcd) hb, fun Z B H ι ω ρ σ x a Q S h k => by
    obtain ⟨n, m, r, b, dx, fs, h1, h2, h3, h4, h5, h6, h7⟩ := h
    exact ⟨_, obj_ref S h1 h3, b, _, dx, fs, .ref a, rfl, h4, hf.cl _, hf.no _, hf.en ▸ h7, k⟩⟩
end
end PVS

set_option maxHeartbeats 3200000
/-! PVS.TX: sorted(set(text)): the signs of a text, each once, rising. -/
namespace PVS.TX
open PySem PySem.Spec PyProof.Rows L2
def keyS (e : Int × Value) : Str := match e.2 with
  | .str k _ => k
  | _ => Str.empty
def GoodS (w : World) (e : Int × Value) : Prop := ∃ k tk, e.2 = Value.str k tk ∧ e.1 = hashStr w k
/-- the set of texts at a: l its members -/
def TSet (w : World) (h : Heap) (a : Addr) (l : List Str) : Prop :=
  ∃ o es ep t, h.get? a = some o ∧ o.ExactSet ∧ o.data = .set es ep t ∧ (∀ e ∈ es.toList, GoodS w e) ∧ (es.toList.map keyS).Nodup ∧ (∀ k, k ∈ l ↔ k ∈ es.toList.map keyS) ∧
    es.size < scanBound ∧ t.fits es.size = true ∧ es.size ≤ l.length ∧ Ris t.place.toList ∧ (w.params.followText "set-order" = true ∨ t.led = true)
section
variable {P : Program} {w : World} {A : Around} {E : Value → Shared → Prop} {s : Shared} {a : Addr} {l : List Str}
theorem TSet.at {h h' : Heap} (R : TSet w h a l) (k : ∀ o, h.get? a = some o → h'.get? a = some o) : TSet w h' a l := by
  obtain ⟨o, es, ep, t, ho, r⟩ := R
  exact ⟨o, es, ep, t, k o ho, r⟩
theorem TSet.same {h : Heap} {l' : List Str} (R : TSet w h a l) (e : ∀ k, k ∈ l' ↔ k ∈ l) (hn : l.length ≤ l'.length) : TSet w h a l' := by
  obtain ⟨o, es, ep, t, ho, hex, hd, g, nd, hm, hb, hf, hl, r⟩ := R
  exact ⟨o, es, ep, t, ho, hex, hd, g, nd, fun k => (e k).trans (hm k), hb, hf, Nat.le_trans hl hn, r⟩
theorem goodS_elems {ls : List (Int × Value)} (g : ∀ e ∈ ls, GoodS w e) : ElemsOf (strKind P w) ls := fun e he => by
  obtain ⟨k, tk, h1, h2⟩ := g e he
  exact ⟨⟨k, by rw [h1]; exact strKind_is P w k tk, h2⟩, by rw [h1] <;> rfl⟩
theorem goodS_is {e : Int × Value} (g : GoodS w e) (k : Str) : (strKind P w).is k e.2 = true ↔ keyS e = k := by
  obtain ⟨k0, tk, h1, _⟩ := g
  unfold keyS
  rw [h1]
  constructor
  · intro q
    exact (strKind P w).inj (.str k0 tk) k0 k (strKind_is P w k0 tk) q
  · intro q
    subst q
    exact strKind_is P w k0 tk
theorem goodS_mem {ls : List (Int × Value)} (g : ∀ e ∈ ls, GoodS w e) (k : Str) : k ∈ ls.map keyS ↔ ∃ e ∈ ls, (strKind P w).is k e.2 = true := by
  rw [List.mem_map]
  exact ⟨fun ⟨e, he, q⟩ => ⟨e, he, (goodS_is (g e he) k).2 q⟩, fun ⟨e, he, q⟩ => ⟨e, he, (goodS_is (g e he) k).1 q⟩⟩
theorem tset_tail {g : Bool → Sem Unit} (hg : ∀ (b : Bool) (u : Shared) (Q' : Unit → Shared → Prop), Q' () u → wpAny (model P w) A (g b) Q' E u)
    {o : Obj} {es : Array (Int × Value)} {ep : Nat} {t : SetTable} (ho : s.heap.get? a = some o) (hex : o.ExactSet) (hd : o.data = .set es ep t)
    {fs : Array (Int × Value)} {t2 : SetTable} (g1 : ∀ e ∈ fs.toList, GoodS w e) (nd1 : (fs.toList.map keyS).Nodup) (m1 : ∀ k, k ∈ l ↔ k ∈ fs.toList.map keyS) (hl1 : fs.size ≤ l.length)
    (hb1 : fs.size < scanBound) (hf2 : t2.fits fs.size = true) (hr : Ris t2.place.toList) (hl : w.params.followText "set-order" = true ∨ t2.led = true) {wasDummy : Bool} {R : Option Bool → Shared → Prop}
    (hR : ∀ h', Heap.SameBut a s.heap h' → TSet w h' a l → R (some true) { s with heap := h' }) :
    wpAny (model P w) A (do
        storeSet a fs t2
        if (!wasDummy && t2.tooFull) = true then do
            g (relayAll t2 fs (SetTable.grown fs.size)).2.2
            storeSet a (relayAll t2 fs (SetTable.grown fs.size)).1 (relayAll t2 fs (SetTable.grown fs.size)).2.1
            pure (some true)
          else pure (some true)) R E s := by
  refine wpAny_bind (wpAny_storeSet_of ho hd ?_ (fits_of_scanBound hb1))
  have ho1 := store_at (es' := fs) (t' := t2) ho hd
  have sb1 := Heap.SameBut.update s.heap a (Obj.putSet fs t2)
  split
  · have pm := relayAll_perm t2 fs (SetTable.grown fs.size)
    have hf3 := relayAll_fits t2 fs (SetTable.grown fs.size)
    have hr3 := relayAll_ris t2 fs (SetTable.grown fs.size)
    have hl3 := relayAll_led t2 fs (SetTable.grown fs.size)
    generalize relayAll t2 fs (SetTable.grown fs.size) = Z at pm hf3 hr3 hl3 ⊢
    obtain ⟨gs, t3, gave⟩ := Z
    dsimp only at pm hf3 hr3 hl3 ⊢
    have hsz : gs.size = fs.size := by rw [← Array.length_toList, pm.length_eq, Array.length_toList]
    have hb2 : gs.size < scanBound := by omega
    refine wpAny_bind (hg _ _ _ (wpAny_bind (wpAny_storeSet_of ho1 rfl ?_ (fits_of_scanBound hb2))))
    have ho2 := store_at (es' := gs) (t' := t3) ho1 rfl
    refine wpAny_pure (hR _ (sb1.trans (Heap.SameBut.update _ a _)) ?_)
    exact ⟨_, gs, _, t3, ho2, hex, rfl, fun e he => g1 e (pm.mem_iff.mp he), (pm.map keyS).nodup_iff.mpr nd1, fun k => (m1 k).trans (pm.map keyS).mem_iff.symm, hb2, hf3, by omega, hr3,
      hl.imp id fun z => by rw [hl3]; exact z⟩
  · exact wpAny_pure (hR _ sb1 ⟨_, fs, _, t2, ho1, hex, rfl, g1, nd1, m1, hb1, hf2, hl1, hr, hl⟩)
theorem tset_add {k : Str} {tk : Tok} {Q : Bool → Shared → Prop} (R : TSet w s.heap a l) (room : l.length + 1 < scanBound)
    (hQ : ∀ b h', Heap.SameBut a s.heap h' → TSet w h' a (l ++ [k]) → Q b { s with heap := h' }) :
    wpAny (model P w) A (setAddHashed a (.str k tk) ((strKind P w).hash k)) Q E s := by
  obtain ⟨o, es, ep, t, ho, hex, hd, g, nd, hm, hb, hf, hn, hr, hl⟩ := R
  have hkey : (strKind P w).is k (.str k tk) = true := strKind_is P w k tk
  have hsc : (Value.str k tk).scannable = true := rfl
  have hel : ElemsOf (strKind P w) es.toList := goodS_elems g
  unfold setAddHashed setAddHashedIn
  refine wpAny_holding (wpAny_bind (wpAny_setState_of ho hd hf ?_))
  dsimp only
  rw [byScan_of hsc hb hel]
  simp only [↓reduceIte]
  unfold setAddByScan
  refine wpAny_bind (wpAny_bind (wpAny_rule (wpAny_bind (wpAny_setScan_of hkey ho hd hf hel ?_))))
  cases hfi : List.findIdx? (fun e => (strKind P w).is k e.2) es.toList with
  | some j =>
    dsimp only
    obtain ⟨hj, pj, _⟩ := List.findIdx?_eq_some_iff_getElem.mp hfi
    have hkl : k ∈ l := (hm k).2 ((goodS_mem (P := P) (w := w) g k).2 ⟨es.toList[j], List.getElem_mem hj, pj⟩)
    refine wpAny_pure (wpAny_pure (hQ _ s.heap (Heap.SameBut.refl a s.heap) ⟨o, es, ep, t, ho, hex, hd, g, nd, fun i => ?_, hb, hf, by rw [List.length_append]; omega, hr, hl⟩))
    rw [← hm i, List.mem_append, List.mem_singleton]
    exact ⟨fun z => z.elim id (fun e => e ▸ hkl), .inl⟩
  | none =>
    dsimp only
    have hnk : k ∉ es.toList.map keyS := fun z => by
      obtain ⟨e, he, q⟩ := (goodS_mem (P := P) (w := w) g k).1 z
      have c := List.findIdx?_eq_none_iff.mp hfi e he
      rw [q] at c
      cases c
    have hgw : ∀ (b : Bool) {u : Shared} {Q' : Unit → Shared → Prop}, Q' () u → wpAny (model P w) A (match b with | true => rule "set.scan.the-table-gave-way" | false => pure ()) Q' E u := by
      intro b u Q' q
      cases b
      · exact wpAny_pure q
      · exact wpAny_rule q
    have pm := layNew_perm t es ((strKind P w).hash k) (.str k tk)
    have hf1 := layNew_fits t es ((strKind P w).hash k) (.str k tk)
    have hr1 := layNew_ris t es ((strKind P w).hash k) (.str k tk) hr
    have hl1 := layNew_led t es ((strKind P w).hash k) (.str k tk)
    generalize layNew t es ((strKind P w).hash k) (.str k tk) = Z at pm hf1 hr1 hl1 ⊢
    obtain ⟨fs, t1, wasDummy, gave⟩ := Z
    dsimp only at pm hf1 hr1 hl1 ⊢
    rw [Array.toList_push] at pm
    have pc : fs.toList.Perm (((strKind P w).hash k, Value.str k tk) :: es.toList) := pm.trans (List.perm_append_singleton _ _)
    have pk : (fs.toList.map keyS).Perm (k :: es.toList.map keyS) := pc.map keyS
    have g1 : ∀ e ∈ fs.toList, GoodS w e := fun e he => by
      rcases List.mem_cons.mp (pc.mem_iff.mp he) with z | z
      · exact ⟨k, tk, by rw [z], by rw [z]; rfl⟩
      · exact g e z
    have nd1 : (fs.toList.map keyS).Nodup := pk.nodup_iff.mpr (List.nodup_cons.mpr ⟨hnk, nd⟩)
    have m1 : ∀ i, i ∈ l ++ [k] ↔ i ∈ fs.toList.map keyS := fun i => by
      rw [List.mem_append, List.mem_singleton, hm i, pk.mem_iff, List.mem_cons]
      exact Or.comm
    have hsz : fs.size = es.size + 1 := by rw [← Array.length_toList, pc.length_eq, List.length_cons, Array.length_toList]
    have hb1 : fs.size < scanBound := by omega
    have hz1 : fs.size ≤ (l ++ [k]).length := by rw [List.length_append, List.length_singleton]; omega
    have hled : w.params.followText "set-order" = true ∨ t1.led = true := hl.imp id fun z => by rw [hl1]; exact z
    refine wpAny_bind (hgw _ ?_)
    split
    · refine wpAny_bind ?_
      rw [hashByValue_scannable 8 hsc]
      refine wpAny_pure ?_
      refine tset_tail ?_ ho hex hd g1 nd1 m1 hz1 hb1 ?_ ?_ ?_ ?_
      · intro b u Q' q; cases b <;> first | exact wpAny_pure q | exact wpAny_rule q
      · first | (split <;> first | exact hf1 | exact SetTable.fits_plain_off hf1) | exact hf1
      · first | (split <;> exact hr1) | exact hr1
      · first | (split <;> exact hled) | exact hled
      · intro h' sb r; dsimp only; exact wpAny_pure (hQ _ h' sb r)
    · refine wpAny_bind (wpAny_pure ?_)
      simp only [↓reduceIte]
      refine tset_tail ?_ ho hex hd g1 nd1 m1 hz1 hb1 hf1 hr1 hled ?_
      · intro b u Q' q; cases b <;> first | exact wpAny_pure q | exact wpAny_rule q
      · intro h' sb r; dsimp only; exact wpAny_pure (hQ _ h' sb r)
theorem tset_new {h : Heap} (ho : h.get? a = some { cls := .type "set", dict := none, data := .set #[] 0 (.fresh 0 0 (!w.params.followText "set-order")) }) : TSet w h a [] :=
  ⟨_, #[], 0, _, ho, ⟨rfl, rfl, rfl⟩, rfl, (fun e he => by simp at he), (by simp), (fun k => by simp), (by decide), (by rfl), Nat.le_refl _, List.Pairwise.nil, by
    show _ ∨ (!w.params.followText "set-order") = true
    cases w.params.followText "set-order" <;> simp⟩
/-- the texts from the i-th on go in -/
theorem tset_update {I : Addr} {fp wr : List Addr} {St : Nat → Heap → Prop} {R : Result → Shared → Prop} {n : Nat} {Pv : Nat → Value → Prop}
    (W : Walks P w A.in1 I fp wr n Pv St) (S : Addr) (hSf : S ∉ fp) (ks : List Str) (hn : ks.length = n) (hP : ∀ i v, Pv i v → ∃ k t, ks[i]? = some k ∧ v = .str k t) (hb : ks.length + 1 < scanBound) :
    ∀ (m i : Nat) (u : Shared), n - i = m → i ≤ n → St i u.heap → TSet w u.heap S (ks.take i) →
      (∀ h' tk, (∀ b o, b ∉ S :: wr → u.heap.get? b = some o → h'.get? b = some o) → TSet w h' S ks → R (.ok (.ret .none)) { u with heap := h', toks := tk }) →
      codeAny (model P w) A (.builtin "set.update.loop" ⟨[.ref S, .ref I], []⟩) R u := by
  have hSw : S ∉ wr := fun h => hSf (W.sub _ h)
  intro m
  induction m with
  | zero =>
    intro i u hm hi hst hS hR
    have hin : i = n := by omega
    subst hin
    refine codeAny_builtin PyProof.Rows.F.entry_set_update_loop ?_
    rw [Around.under_plainId PyProof.Rows.F.plain_set_update_loop _]
    show wpAny _ A.in1 (pyNext (.ref I) >>= _) _ _ u
    refine wpAny_bind (W.done u _ _ hst fun h' tk hk => ?_)
    rw [List.take_of_length_le (Nat.le_of_eq hn)] at hS
    show wpAny _ A.in1 (ret Value.none) _ _ _
    exact wpAny_pure (hR h' tk (fun b o hb' e => hk b o (fun z => hb' (List.mem_cons_of_mem _ z)) e) (hS.at fun o e => hk S o hSw e))
  | succ m ih =>
    intro i u hm hi hst hS hR
    have hlt : i < n := by omega
    refine codeAny_builtin PyProof.Rows.F.entry_set_update_loop ?_
    rw [Around.under_plainId PyProof.Rows.F.plain_set_update_loop _]
    show wpAny _ A.in1 (pyNext (.ref I) >>= _) _ _ u
    refine wpAny_bind (W.item i u _ _ hlt hst fun v h' tk hPv hst' hk => ?_)
    obtain ⟨k, t, hc, rfl⟩ := hP i v hPv
    have hS' : TSet w h' S _ := hS.at fun o e => hk S o hSw e
    show wpAny _ A.in1 (holding [Value.str k t] (setAdd S (.str k t)) >>= _) _ _ _
    refine wpAny_bind (wpAny_holding ?_)
    unfold setAdd
    refine wpAny_holding ?_
    refine wpAny_bind ((strKind P w).pyHash (k := k) (strKind_is _ _ _ _) ?_)
    refine tset_add (s := { u with heap := h', toks := tk + 1 }) hS' (by rw [List.length_take]; omega) fun b g hsb hS2 => ?_
    have e1 : ks.take i ++ [k] = ks.take (i + 1) := by
      rw [List.take_add_one, hc]
      rfl
    rw [e1] at hS2
    refine wpAny_pure ⟨plainId_quiet PyProof.Rows.F.plain_set_update_loop _, ih (i + 1) _ (by omega) hlt (W.frame _ _ _ hst' fun d hd o e => ?_) hS2 fun g2 tk2 hk2 hS3 => ?_⟩
    · rw [hsb.2 d (fun z : d = S => hSf (z ▸ hd))]; exact e
    · refine hR g2 tk2 (fun d o hd e => hk2 d o hd ?_) hS3
      rw [hsb.2 d (fun z => hd (by rw [z]; exact List.mem_cons_self))]
      exact hk d o (fun z => hd (List.mem_cons_of_mem _ z)) e
theorem signs_at {x : Str} {i : Nat} {v : Value} (h : SignAt x i v) : ∃ k t, (x.cps.toList.map fun c => (⟨#[c]⟩ : Str))[i]? = some k ∧ v = .str k t := by
  obtain ⟨c, t, hc, rfl⟩ := h
  refine ⟨_, t, ?_, rfl⟩
  rw [List.getElem?_map, Array.getElem?_toList, hc]
  rfl
theorem call_set_text {x : Str} {tx : Tok} {Q : Value → Shared → Prop} (hh : A.handled = none) (hb : x.cps.size + 1 < scanBound)
    (h : ∀ (h' : Heap) (tk : Nat), TSet w h' s.heap.objs.size (x.cps.toList.map fun c => ⟨#[c]⟩) → (∀ b o, s.heap.get? b = some o → h'.get? b = some o) → Q (.ref s.heap.objs.size) { s with heap := h', toks := tk }) :
    wpAny (model P w) A (call (.type "set") [.str x tx]) Q E s := by
  obtain ⟨c, tl, hmro⟩ := PySem.F.called_set.mro
  have hmade := PySem.F.called_set.made
  have hsub := PySem.F.called_set.sub
  refine wpAny_call (codeAny_of_tree ?_)
  show wpAny _ _ (callAny (.type "set") _) _ _ _
  refine wpAny_pure ⟨Code.quiet_builtin _ (by decide +kernel), codeAny_builtin PySem.F.entry_type_call ?_⟩
  rw [Around.under_plain (weight_type_call_type "set" [.str x tx] []) rfl]
  have h1 := PySem.F.called_set.notType
  have h2 := PySem.F.called_set.canCreate
  have hct := PySem.F.typeCall_set_1 (.str x tx)
  repeat (any_goals (first | assumption | wp_step))
  refine codeAny_mono (code_set_led1 (.str x tx) (E := E) (Q₁ := fun obj u => obj = .ref s.heap.objs.size ∧ u = { s with heap := s.heap.push { cls := .type "set", dict := none, data := .set #[] 0 (.fresh 0 0 (!w.params.followText "set-order")) } }) ⟨rfl, rfl⟩) fun r u hr => ?_
  cases r with
  | error e => exact hr
  | ok fl =>
    cases fl with
    | ret obj =>
      obtain ⟨rfl, rfl⟩ := hr
      have hS : (s.heap.push { cls := .type "set", dict := none, data := .set #[] 0 (.fresh 0 0 (!w.params.followText "set-order")) }).get? s.heap.objs.size = some { cls := .type "set", dict := none, data := .set #[] 0 (.fresh 0 0 (!w.params.followText "set-order")) } := Heap.get?_push_size _ rfl
      have hT : Shared.TypeIs { s with heap := s.heap.push { cls := .type "set", dict := none, data := .set #[] 0 (.fresh 0 0 (!w.params.followText "set-order")) } } (.ref s.heap.objs.size) "set" := ⟨_, hS, rfl⟩
      have hli := PySem.F.called_set.init.lookup
      have hbi := PySem.F.called_set.init.bind (.ref s.heap.objs.size)
      repeat (any_goals (first | assumption | wp_step))
      refine codeAny_mono (codeAny_call_builtin (R := wants (fun r u2 => r = .none ∧ ∃ h' tk, u2 = { s with heap := h', toks := tk } ∧ TSet w h' s.heap.objs.size (x.cps.toList.map fun c => ⟨#[c]⟩) ∧
          (∀ b o, s.heap.get? b = some o → h'.get? b = some o)) E) PySem.F.called_set.init.plain PySem.F.entry_set_init (check_set_init_1 hT ?_)) fun r2 u2 hr2 => ?_
      · have hsls := PySem.F.sub_str_set
        have hslf := PySem.F.sub_str_frozenset
        have hne : (Value.type "str" == Value.type "dict") = false := by decide
        unfold Builtin.«set.__init__» noKeywords Builtin.Frozenset.updateFrom
        generalize hPI : pyIter = PI
        wp_walk
        subst hPI
        refine wpAny_pyIter_str fun oi St hW h0 => ?_
        refine wpAny_bind (wpAny_runValue ?_)
        have hh3 : A.in1.in1.in1.handled = none := by simp [hh]
        have hSf : s.heap.objs.size ∉ [(s.heap.push { cls := .type "set", dict := none, data := .set #[] 0 (.fresh 0 0 (!w.params.followText "set-order")) }).objs.size] := by
          rw [Heap.size_push, List.mem_singleton]
          omega
        refine tset_update (hW _ hh3) s.heap.objs.size hSf (x.cps.toList.map fun c => ⟨#[c]⟩) (by simp) (fun i v => signs_at) (by simpa using hb) (x.cps.size - 0) 0 _ rfl (Nat.zero_le _) h0 ?hS0 ?hR
        case hS0 => exact tset_new (Heap.get?_push_of_some _ hS)
        case hR =>
          intro h' tk hk hS'
          show wpAny _ _ _ _ _ _
          refine wpAny_pure ?_
          show wpAny _ _ (ret Value.none) _ _ _
          refine wpAny_pure ⟨rfl, h', tk, rfl, hS', fun b o e => ?_⟩
          have hb0 : b < s.heap.objs.size := Heap.lt_size e
          refine hk b o (fun z => ?_) (Heap.get?_push_of_some _ (Heap.get?_push_of_some _ e))
          rcases List.mem_cons.mp z with z | z
          · exact absurd z (Nat.ne_of_lt hb0)
          · have z := List.mem_singleton.mp z
            rw [Heap.size_push] at z
            exact absurd z (Nat.ne_of_lt (Nat.lt_succ_of_lt hb0))
      · cases r2 with
        | error e => exact hr2
        | ok fl2 =>
          cases fl2 with
          | ret r =>
            obtain ⟨rfl, h', tk, rfl, hS', hk'⟩ := hr2
            repeat (any_goals (first | assumption | wp_step))
            exact h _ _ hS' hk'
          | _ => exact hr2.elim
    | _ => exact hr.elim
theorem call_set_texts {l : Addr} {items : Array Value} {ks : List Str} {Q : Value → Shared → Prop} (hl : s.heap.IsList l items) (hi : PySem.W.EachIs (fun v k => ∃ t, v = Value.str k t) items.toList ks) (hh : A.handled = none) (hb : ks.length + 1 < scanBound)
    (h : ∀ (h' : Heap) (tk : Nat), TSet w h' s.heap.objs.size ks → (∀ b o, s.heap.get? b = some o → h'.get? b = some o) → Q (.ref s.heap.objs.size) { s with heap := h', toks := tk }) :
    wpAny (model P w) A (call (.type "set") [.ref l]) Q E s := by
  obtain ⟨c, tl, hmro⟩ := PySem.F.called_set.mro
  have hmade := PySem.F.called_set.made
  have hsub := PySem.F.called_set.sub
  refine wpAny_call (codeAny_of_tree ?_)
  show wpAny _ _ (callAny (.type "set") _) _ _ _
  refine wpAny_pure ⟨Code.quiet_builtin _ (by decide +kernel), codeAny_builtin PySem.F.entry_type_call ?_⟩
  rw [Around.under_plain (weight_type_call_type "set" [.ref l] []) rfl]
  have h1 := PySem.F.called_set.notType
  have h2 := PySem.F.called_set.canCreate
  have hct := PySem.F.typeCall_set_1 (.ref l)
  repeat (any_goals (first | assumption | wp_step))
  refine codeAny_mono (code_set_led1 (.ref l) (E := E) (Q₁ := fun obj u => obj = .ref s.heap.objs.size ∧ u = { s with heap := s.heap.push { cls := .type "set", dict := none, data := .set #[] 0 (.fresh 0 0 (!w.params.followText "set-order")) } }) ⟨rfl, rfl⟩) fun r u hr => ?_
  cases r with
  | error e => exact hr
  | ok fl =>
    cases fl with
    | ret obj =>
      obtain ⟨rfl, rfl⟩ := hr
      have hS : (s.heap.push { cls := .type "set", dict := none, data := .set #[] 0 (.fresh 0 0 (!w.params.followText "set-order")) }).get? s.heap.objs.size = some { cls := .type "set", dict := none, data := .set #[] 0 (.fresh 0 0 (!w.params.followText "set-order")) } := Heap.get?_push_size _ rfl
      have hT : Shared.TypeIs { s with heap := s.heap.push { cls := .type "set", dict := none, data := .set #[] 0 (.fresh 0 0 (!w.params.followText "set-order")) } } (.ref s.heap.objs.size) "set" := ⟨_, hS, rfl⟩
      have hli := PySem.F.called_set.init.lookup
      have hbi := PySem.F.called_set.init.bind (.ref s.heap.objs.size)
      repeat (any_goals (first | assumption | wp_step))
      refine codeAny_mono (codeAny_call_builtin (R := wants (fun r u2 => r = .none ∧ ∃ h' tk, u2 = { s with heap := h', toks := tk } ∧ TSet w h' s.heap.objs.size ks ∧
          (∀ b o, s.heap.get? b = some o → h'.get? b = some o)) E) PySem.F.called_set.init.plain PySem.F.entry_set_init (check_set_init_1 hT ?_)) fun r2 u2 hr2 => ?_
      · obtain ⟨ol, hol, hcl, nl, hdl⟩ := hl
        obtain ⟨ocls, odict, odata, oslots⟩ := ol
        simp only at hcl hdl
        subst hcl hdl
        have hsls := PySem.F.sub_list_set
        have hslf := PySem.F.sub_list_frozenset
        have hne : (Value.type "list" == Value.type "dict") = false := by decide
        have hol' : (s.heap.push { cls := .type "set", dict := none, data := .set #[] 0 (.fresh 0 0 (!w.params.followText "set-order")) }).get? l = some { cls := .type "list", dict := odict, data := .seq items nl, slots := oslots } := Heap.get?_push_of_some _ hol
        have hl1 : (s.heap.push { cls := .type "set", dict := none, data := .set #[] 0 (.fresh 0 0 (!w.params.followText "set-order")) }).IsList l items := ⟨_, hol', rfl, nl, rfl⟩
        unfold Builtin.«set.__init__» noKeywords Builtin.Frozenset.updateFrom
        generalize hPI : pyIter = PI
        wp_walk
        subst hPI
        refine wpAny_pyIter_list hl1 ?_
        refine wpAny_bind (wpAny_runValue ?_)
        have hlS : l < s.heap.objs.size := Heap.lt_size hol
        have hh3 : A.in1.in1.in1.handled = none := by simp [hh]
        have hz1 : (s.heap.push { cls := .type "set", dict := none, data := .set #[] 0 (.fresh 0 0 (!w.params.followText "set-order")) }).objs.size = s.heap.objs.size + 1 := Heap.size_push ..
        have hneI : l ≠ (s.heap.push { cls := .type "set", dict := none, data := .set #[] 0 (.fresh 0 0 (!w.params.followText "set-order")) }).objs.size := by
          rw [hz1]; exact Nat.ne_of_lt (Nat.lt_succ_of_lt hlS)
        have hSf : s.heap.objs.size ∉ [(s.heap.push { cls := .type "set", dict := none, data := .set #[] 0 (.fresh 0 0 (!w.params.followText "set-order")) }).objs.size, l] := by
          rw [hz1, List.mem_cons, List.mem_singleton, not_or]
          exact ⟨Nat.ne_of_lt (Nat.lt_succ_self _), Nat.ne_of_gt hlS⟩
        have hks : ks.length = items.size := by rw [← hi.length, Array.length_toList]
        have hval : ∀ (i : Nat) (v : Value), items[i]? = some v → ∃ k t, ks[i]? = some k ∧ v = .str k t := fun i v hv => by
          have hlt : i < ks.length := by rw [hks]; exact (Array.getElem?_eq_some_iff.mp hv).1
          have hz : (v, ks[i]) ∈ items.toList.zip ks := List.mem_of_getElem? (i := i) (by rw [List.getElem?_zip_eq_some]; exact ⟨by rw [Array.getElem?_toList]; exact hv, List.getElem?_eq_getElem hlt⟩)
          obtain ⟨t, e⟩ := hi.zip _ hz
          exact ⟨_, t, List.getElem?_eq_getElem hlt, e⟩
        refine tset_update (Walks.list hh3 _ l hneI items) s.heap.objs.size hSf ks hks hval hb (items.size - 0) 0 _ rfl (Nat.zero_le _) ⟨⟨_, Heap.get?_push_size _ rfl, rfl, rfl⟩, (hl1.push _)⟩ ?hS0 ?hR
        case hS0 => exact tset_new (Heap.get?_push_of_some _ hS)
        case hR =>
          intro h' tk hk hS'
          show wpAny _ _ _ _ _ _
          refine wpAny_pure ?_
          show wpAny _ _ (ret Value.none) _ _ _
          refine wpAny_pure ⟨rfl, h', tk, rfl, hS', fun b o e => ?_⟩
          have hb0 : b < s.heap.objs.size := Heap.lt_size e
          refine hk b o (fun z => ?_) (Heap.get?_push_of_some _ (Heap.get?_push_of_some _ e))
          rcases List.mem_cons.mp z with z | z
          · exact absurd z (Nat.ne_of_lt hb0)
          · have z := List.mem_singleton.mp z
            rw [Heap.size_push] at z
            exact absurd z (Nat.ne_of_lt (Nat.lt_succ_of_lt hb0))
      · cases r2 with
        | error e => exact hr2
        | ok fl2 =>
          cases fl2 with
          | ret r =>
            obtain ⟨rfl, h', tk, rfl, hS', hk'⟩ := hr2
            repeat (any_goals (first | assumption | wp_step))
            exact h _ _ hS' hk'
          | _ => exact hr2.elim
    | _ => exact hr.elim
end
end PVS.TX

set_option maxHeartbeats 1000000
/-! PVS.TX: sorted(set(..)), read. -/
namespace PVS.TX
open PySem PySem.Spec PyProof.Rows L2 PVL
theorem txt_eq {a b : Txt} (h1 : ¬ a < b) (h2 : ¬ b < a) : a = b := List.le_antisymm (List.not_lt.mp h2) (List.not_lt.mp h1)
theorem insX_mem {w x : Txt} : ∀ {s : List Txt}, x ∈ insX w s ↔ x = w ∨ x ∈ s
  | [] => by simp [insX]
  | d :: r => by
    unfold insX
    split
    · simp
    · rename_i hc
      split
      · rw [List.mem_cons, insX_mem, List.mem_cons]
        constructor
        · rintro (h | h | h)
          · exact .inr (.inl h)
          · exact .inl h
          · exact .inr (.inr h)
        · rintro (h | h | h)
          · exact .inr (.inl h)
          · exact .inl h
          · exact .inr (.inr h)
      · rename_i hd
        have : w = d := txt_eq (fun h => hc (ltT_iff.mpr h)) (fun h => hd (ltT_iff.mpr h))
        subst this
        simp
theorem insX_rise {w : Txt} : ∀ {s : List Txt}, s.Pairwise (· < ·) → (insX w s).Pairwise (· < ·)
  | [], _ => by simp [insX]
  | d :: r, h => by
    obtain ⟨h1, h2⟩ := List.pairwise_cons.mp h
    unfold insX
    split
    · rename_i hc
      refine List.pairwise_cons.mpr ⟨fun y hy => ?_, h⟩
      rcases List.mem_cons.mp hy with q | q
      · subst q; exact ltT_iff.mp hc
      · exact List.lt_trans (ltT_iff.mp hc) (h1 y q)
    · split
      · rename_i hc hd
        refine List.pairwise_cons.mpr ⟨fun y hy => ?_, insX_rise h2⟩
        rcases insX_mem.mp hy with q | q
        · subst q; exact ltT_iff.mp hd
        · exact h1 y q
      · exact h
theorem words_mem {x : Txt} : ∀ {s : List Txt}, x ∈ setW s ↔ x ∈ s
  | [] => by simp [setW]
  | c :: s => by
    show x ∈ insX c (setW s) ↔ _
    rw [insX_mem, words_mem, List.mem_cons]
theorem words_rise : ∀ {s : List Txt}, (setW s).Pairwise (· < ·)
  | [] => .nil
  | c :: s => insX_rise words_rise
theorem insX_len {c : Txt} : ∀ {s : List Txt}, (insX c s).length ≤ s.length + 1
  | [] => by simp [insX]
  | d :: r => by
    unfold insX
    split
    · simp
    · split
      · have := insX_len (c := c) (s := r)
        simp only [List.length_cons]
        omega
      · simp
theorem words_len : ∀ {s : List Txt}, (setW s).length ≤ s.length
  | [] => Nat.le_refl _
  | c :: s => Nat.le_trans insX_len (by rw [List.length_cons]; have := words_len (s := s); omega)
abbrev leS (a b : Str) : Bool := decide (a.cps.toList ≤ b.cps.toList)
theorem leS_mk {a b : Txt} : leS (mkS a) (mkS b) = true ↔ a ≤ b := by
  show decide ((mkS a).cps.toList ≤ (mkS b).cps.toList) = true ↔ _
  rw [decide_eq_true_eq]
theorem mk_inj {a b : Txt} (h : mkS a = mkS b) : a = b := by
  have : (mkS a).cps.toList = (mkS b).cps.toList := congrArg (fun y : Str => y.cps.toList) h
  simpa [mkS] using this
theorem le_of_lt' {a b : Txt} (h : a < b) : a ≤ b := List.not_lt.mp fun q => List.lt_irrefl _ (List.lt_trans h q)
/-- what a sort of the set's texts gives -/
theorem sort_words {ws : List Txt} {ks : List Str} (nd : ks.Nodup) (hm : ∀ k, k ∈ ks ↔ k ∈ ws.map mkS) : ks.mergeSort leS = (setW ws).map mkS := by
  have hin : ∀ {k : Str}, k ∈ ks.mergeSort leS → ∃ c, k = mkS c := fun {k} h => by
    have := (hm k).mp ((List.mergeSort_perm ks leS).subset h)
    obtain ⟨c, _, e⟩ := List.mem_map.mp this
    exact ⟨c, e.symm⟩
  refine List.Perm.eq_of_pairwise (le := fun a b => leS a b = true) (fun a b ha hb h1 h2 => ?_) ?_ ?_ ?_
  · obtain ⟨c, rfl⟩ := hin ha
    obtain ⟨d, _, rfl⟩ := List.mem_map.mp hb
    rw [List.le_antisymm (leS_mk.mp h1) (leS_mk.mp h2)]
  · refine List.pairwise_mergeSort (fun a b c h1 h2 => ?_) (fun a b => ?_) ks
    · rw [decide_eq_true_eq] at *
      exact List.le_trans h1 h2
    · rw [Bool.or_eq_true, decide_eq_true_eq, decide_eq_true_eq]
      exact List.le_total _ _
  · exact List.pairwise_map.mpr (words_rise.imp fun h => leS_mk.mpr (le_of_lt' h))
  · have n1 : (ks.mergeSort leS).Nodup := (List.mergeSort_perm ks leS).nodup_iff.mpr nd
    have n2 : ((setW ws).map mkS).Nodup := List.pairwise_map.mpr (words_rise.imp fun {a b} h e => by have := mk_inj e; subst this; exact List.lt_irrefl _ h)
    refine (List.perm_ext_iff_of_nodup n1 n2).mpr fun k => ?_
    rw [(List.mergeSort_perm ks leS).mem_iff, hm k, List.mem_map, List.mem_map]
    exact ⟨fun ⟨c, h, e⟩ => ⟨c, words_mem.mpr h, e⟩, fun ⟨c, h, e⟩ => ⟨c, words_mem.mp h, e⟩⟩
section
variable {P : Program} {w : World} {A : Around} {E : Value → Shared → Prop} {s : Shared} {a : Addr}
theorem sorted_tset {x : List Txt} {Q : Value → Shared → Prop} (R : TSet w s.heap a (x.map mkS)) (hh : A.handled = none) (hu : A.units + 64 < cLine)
    (hQ : ∀ u p (out : List Value) (c : Nat), (∀ b o, s.heap.get? b = some o → u.heap.get? b = some o) → u.gens = s.gens → u.os = s.os → s.heap.objs.size ≤ p →
      u.heap.get? p = some (seqObj "list" out.toArray c) → PySem.W.EachIs (fun v k => ∃ t, v = Value.str k t) out ((setW x).map mkS) → Q (.ref p) u) :
    wpAny (model P w) A (call (.builtin "sorted") [.ref a]) Q E s := by
  obtain ⟨o, es, ep, t, ho, hex, hd, g, nd, hm, hb, hf, hn, hr, hl⟩ := R
  refine Calls.call_function_entry kind_sorted plain_sorted entry_sorted (args_sorted1 _) ?_
  unfold Builtin.«sorted»
  refine wpAny_bind (m := checkCount "sorted" 1 1 _) (wpAny_pure (wpAny_bind (collect_set (A := A.in1) hh ⟨o, ho, hex.1, hd⟩ hf hb hr hl fun u vs k1 hz g1 o1 pm => ?_)))
  -- the values, told by their texts
  obtain ⟨ks, hks, pk⟩ : ∃ ks : List Str, PySem.W.EachIs (fun v k => ∃ t, v = Value.str k t) vs ks ∧ ks.Perm (es.toList.map keyS) := by
    have hall : ∀ v ∈ vs, ∃ k t, v = Value.str k t := fun v hv => by
      obtain ⟨e, he, q⟩ := List.mem_map.mp (pm.mem_iff.mp hv)
      obtain ⟨k, tk, h1, _⟩ := g e he
      exact ⟨k, tk, by rw [← q]; exact h1⟩
    let kf : Value → Str := fun v => keyS (0, v)
    refine ⟨vs.map kf, ?_, ?_⟩
    · clear pm
      induction vs with
      | nil => exact .nil
      | cons v vs ih =>
        obtain ⟨k, t, rfl⟩ := hall v (List.mem_cons_self ..)
        exact .cons ⟨t, rfl⟩ (ih fun u hu => hall u (List.mem_cons_of_mem _ hu))
    · have := pm.map kf
      rw [List.map_map] at this
      exact this
  have hvl : vs.length = es.size := by rw [pm.length_eq, List.length_map, Array.length_toList]
  have hzl : vs.length ≤ sizeLine := by rw [hvl]; exact fits_of_scanBound hb
  refine wpAny_bind (wpAny_newList ?_ hzl)
  have hoL : (u.heap.push (seqObj "list" vs.toArray 0)).get? u.heap.objs.size = some (seqObj "list" vs.toArray 0) := Heap.get?_push_size _ rfl
  refine wpAny_bind (wpAny_holding (PySem.W.list_sort_data (β := Str) (enc := fun k => PyData.str k) (s := { u with heap := u.heap.push (seqObj "list" vs.toArray 0) }) hoL hks ?_ ?_ ?_ ?_ ?_ fun out hlen heach => ?_))
  · exact hks.mono fun v k ⟨t, e⟩ => ⟨[], by subst e; exact .str _ _, by simp⟩
  · intro d hd d' hd'
    obtain ⟨k, _, rfl⟩ := List.mem_map.mp hd
    obtain ⟨k', _, rfl⟩ := List.mem_map.mp hd'
    rfl
  · refine .inr fun d hd => ?_
    obtain ⟨k, _, rfl⟩ := List.mem_map.mp hd
    exact ⟨(fun z => by cases z), (fun ws z => by cases z)⟩
  · rw [← hks.length]; exact hzl
  · intro k _
    have e1 : A.in1.units = A.units + 1 := rfl
    have e2 : PyData.depth (.str k) = 0 := rfl
    rw [e1, e2]
    omega
  · have e1 : ks.mergeSort (PySem.W.dataLe false fun k => PyData.str k) = (setW x).map mkS := by
      rw [PySem.W.dataLe_str (fun k : Str => k)]
      exact sort_words (pk.nodup_iff.mpr nd) fun k => by rw [pk.mem_iff, ← hm k]
    rw [e1] at heach
    obtain ⟨c, hc⟩ := sortedHeap_at (vs := vs) (out := List.toArray out) hoL
    refine wpAny_pure ⟨_, rfl, hQ _ u.heap.objs.size out c (fun b o e => ?_) g1 o1 hz hc heach⟩
    have q := k1 b o e
    have hlt := Heap.lt_size q
    show (sortedHeap (u.heap.push (seqObj "list" vs.toArray 0)) u.heap.objs.size vs (List.toArray out)).get? b = some o
    rw [sortedHeap_old (Nat.ne_of_lt hlt) (by rw [size_push']; exact Nat.lt_succ_of_lt hlt)]
    exact Heap.get?_push_of_some _ q
end
/-! ### the rule -/
section
variable {X : Cx} {G : GS} {W : WX}
theorem texts_rv {Z : Hp} {ι : List (Addr × Addr)} : ∀ {cs : List Txt}, (∀ c ∈ cs, okT c) → RVs G Z ι (cs.map fun c => V.str (mkS c)) (cs.map PV.str)
  | [], _ => .nil
  | c :: cs, h => .cons (RV.str c (h c (List.mem_cons_self ..))) (texts_rv fun d hd => h d (List.mem_cons_of_mem _ hd))
theorem vals_strs : ∀ {out : List Value} {cs : List Txt}, PySem.W.EachIs (fun v k => ∃ t, v = Value.str k t) out (cs.map mkS) → Vals (cs.map fun c => V.str (mkS c)) out
  | [], [], _ => .nil
  | v :: vs, c :: cs, h => by
    cases h with
    | cons h1 h2 =>
      obtain ⟨t, rfl⟩ := h1
      exact .cons ⟨t, rfl⟩ (vals_strs h2)
theorem strs_vals : ∀ {cs : List Txt} {out : List Value}, Vals ((cs.map mkS).map V.str) out → PySem.W.EachIs (fun v k => ∃ t, v = Value.str k t) out (cs.map mkS)
  | [], _, h => by
    cases h
    exact .nil
  | c :: cs, _, h => by
    cases h with
    | cons r t =>
      obtain ⟨t0, rfl⟩ := r
      exact .cons ⟨t0, rfl⟩ (strs_vals t)
theorem onesT_ok {x : Txt} (hx : okT x) : ∀ c ∈ onesT x, okT c := fun c hc => by
  obtain ⟨d, hd, rfl⟩ := List.mem_map.mp hc
  exact ⟨by simp [PVL.line], fun e he => by rw [List.mem_singleton.mp he]; exact hx.2 d hd⟩
theorem se_sortSet {e : Expr} {ie : E} {p p2 q pos : Pos} (hc : X.calm = true) (hu : X.A.units + 64 < cLine) (hg : Gl X "sorted") (hm : X.mg "sorted" = none) (hg2 : Gl X "set") (hm2 : X.mg "set" = none) (he : PE X e (tE G W ie))
    (na : starEach [e] X.env = (false, eval e X.env) :: starEach [] X.env) : PE X (.Call (.Name "sorted" p) [.Call (.Name "set" p2) [e] [] q] [] pos) (tE G W (.bf1 .sortedSet ie)) := by
  refine ⟨fun pins s σ H Q I h => ?_⟩
  have h2 : tE G W ie σ H fun v H1 => ∃ ws : List Txt, (∀ c ∈ ws, okT c) ∧ ws.length < 4000 ∧ ((∃ x, v = .str (mkS x) ∧ ws = onesT x) ∨ ∃ a, v = .ref a ∧ Rd H1 a (.lst ((ws.map mkS).map V.str))) ∧
      ∀ p, H1 p = none → Q (.ref p) (upd H1 p (.lst ((setW ws).map fun c => V.str (mkS c)))) := by
    obtain ⟨Z, B, ι, ω, ρ, S, h⟩ := h
    unfold ev at h
    refine tE.next S h.bind fun y ω1 h1 v H1 Z1 ι1 E1 S1 l1 _ p1 => ?_
    have fin : ∀ ws : List Txt, (∀ c ∈ ws, okT c) → (∀ (v : V) (H' Z' : Hp) (ι' : List (Addr × Addr)), Ext Z Z' (PO B ρ σ) ι ι' H H' → Sim G Z' B H' ι' ω1 ρ σ → OkV G Z' B H' ι' ω1 ρ σ v (.lst ((setW ws).map PV.str)) .own → Pu (pureE (E.bf1 BF.sortedSet ie)) H H' ω ω1 ι ι' → Q v H') →
        ∀ p, H1 p = none → Q (.ref p) (upd H1 p (.lst ((setW ws).map fun c => V.str (mkS c)))) := fun ws hws hh p hp => by
      obtain ⟨Z3, E3, S3, o3, s3⟩ := (Nw.lst (G := G) (Z := Z1) (ι := ι1) (m := .own) hp (texts_rv (cs := setW ws) fun c hc => hws c (words_mem.mp hc))).fin S1 (by decide)
      exact hh _ _ Z3 ι1 (E1.trans E3) S3 o3 (.no rfl)
    obtain ⟨y1, y2⟩ := y
    unfold liftO at h1
    cases y1 with
    | str x =>
      have hb : bfV .sortedSet [.str x] = if x.length < 4000 then some (.lst ((setW (onesT x)).map .str)) else none := rfl
      rw [hb] at h1
      by_cases hl : x.length < 4000
      · rw [if_pos hl] at h1
        obtain ⟨ev, ok⟩ := (l1.rh S1).str
        exact ⟨onesT x, onesT_ok ok, by rw [onesT, List.length_map]; exact hl, .inl ⟨x, ev, rfl⟩, fun p hp => fin _ (onesT_ok ok) h1 p hp⟩
      · rw [if_neg hl] at h1
        exact h1.elim
    | lst xs =>
      have hb : bfV .sortedSet [.lst xs] = (strsV xs).bind fun ws => if ws.length < 4000 then some (.lst ((setW ws).map .str)) else none := rfl
      rw [hb] at h1
      cases es : strsV xs with
      | none => rw [es] at h1; exact h1.elim
      | some ws =>
        rw [es, Option.bind_some] at h1
        by_cases hl : ws.length < 4000
        · rw [if_pos hl] at h1
          obtain ⟨a, vs, rfl, h3, r3⟩ := l1.rh S1
          obtain ⟨rfl, rfl, ok⟩ := r3.strsV es
          exact ⟨ws, ok, hl, .inr ⟨a, rfl, h3⟩, fun p hp => fin _ ok h1 p hp⟩
        · rw [if_neg hl] at h1
          exact h1.elim
    | _ => exact h1.elim
  refine Call_ (ld_blt I hg hm (show bootBuiltins "sorted" = some (.builtin "sorted") by decide +kernel) ?_)
  refine PyProof.Rows.callWith_builtin1 (PyProof.Rows.args_cons ?_ rfl) rfl rfl
  refine Call_ (ld_blt I hg2 hm2 (show bootBuiltins "set" = some (.type "set") by decide +kernel) ?_)
  refine PyProof.Rows.callWith_type1 (PyProof.Rows.args_cons (thn (he.run pins s σ H _ I h2) fun v s1 ⟨y, H1, I1, r1, q1⟩ => PyProof.Rows.args_nil ?_) na) na rfl
  obtain ⟨ws, ok, hl, hv, q1⟩ := q1
  have hlen : ((setW ws).map fun c => V.str (mkS c)).length ≤ sizeLine := by
    rw [List.length_map, sizeLine_eq]
    have := words_len (s := ws)
    omega
  rcases hv with ⟨x, rfl, rfl⟩ | ⟨a, rfl, hrd⟩
  · obtain ⟨t, rfl⟩ := r1
    have hsz : (mkS x).cps.size = x.length := by simp
    have hxl : (onesT x).length = x.length := by rw [onesT, List.length_map]
    refine call_set_text (I1.ok.hd hc) (by rw [hsz]; unfold scanBound; omega) fun h' tk hS hk => ?_
    have hS : TSet X.w h' s1.heap.objs.size ((onesT x).map mkS) := by
      have e0 : (mkS x).cps.toList.map (fun c => (⟨#[c]⟩ : Str)) = (onesT x).map mkS := by simp [onesT, mkS]
      rw [e0] at hS
      exact hS
    refine PyProof.Rows.args_nil ?_
    have I2 : Inv X pins σ H1 { s1 with heap := h', toks := tk } := I1.kept hk
    refine sorted_tset (s := { s1 with heap := h', toks := tk }) hS (I1.ok.hd hc) hu fun u pp out c k g o hp hg hE => ?_
    have hn : H1 pp = none := I2.hok.fresh hp
    have J : Inv X pins σ (upd H1 pp (.lst ((setW (onesT x)).map fun c => V.str (mkS c)))) u :=
      L2.Inv.call' (ch := []) I2 o (Un.laid k hp hn) (I2.hok.laid k hp ⟨hlen, out, c, vals_strs hE, hg⟩) (by rw [g]; exact I2.bare) (fun _ z => nomatch z)
    exact ⟨.ref pp, _, J, rfl, q1 pp hn⟩
  · have r1 : v = .ref a := r1
    subst r1
    obtain ⟨its, rvv, hli, hz⟩ := I1.list (.inl hrd)
    refine call_set_texts hli.isList (strs_vals rvv) (I1.ok.hd hc) (by rw [List.length_map]; unfold scanBound; omega) fun h' tk hS hk => ?_
    refine PyProof.Rows.args_nil ?_
    have I2 : Inv X pins σ H1 { s1 with heap := h', toks := tk } := I1.kept hk
    refine sorted_tset (s := { s1 with heap := h', toks := tk }) hS (I1.ok.hd hc) hu fun u pp out c k g o hp hg hE => ?_
    have hn : H1 pp = none := I2.hok.fresh hp
    have J : Inv X pins σ (upd H1 pp (.lst ((setW ws).map fun c => V.str (mkS c)))) u :=
      L2.Inv.call' (ch := []) I2 o (Un.laid k hp hn) (I2.hok.laid k hp ⟨hlen, out, c, vals_strs hE, hg⟩) (by rw [g]; exact I2.bare) (fun _ z => nomatch z)
    exact ⟨.ref pp, _, J, rfl, q1 pp hn⟩
end
end PVS.TX

set_option maxHeartbeats 1000000
/-! PVS: sorted of a dict with texts for keys. -/
namespace PVS
open PySem PySem.Spec PyProof.Rows L2 TL PVL TX
section
variable {X : Cx} {G : GS} {W : WX}
theorem leS_leT {a b : Txt} : leT a b = leS (mkS a) (mkS b) := by
  rw [Bool.eq_iff_iff, leT_iff, leS_mk]
  exact ⟨fun h => List.not_lt.mp h, fun h => List.not_lt.mpr h⟩
theorem sort_mk (ws : List Txt) : (ws.map mkS).mergeSort leS = (ws.mergeSort leT).map mkS :=
  (List.map_mergeSort (r := leT) (s := leS) (f := mkS) fun a _ b _ => leS_leT).symm
theorem each_are : ∀ {us : List Value} {ks : List Str}, StrsAre us ks → PySem.W.EachIs (fun v k => ∃ t, v = Value.str k t) us ks
  | _, _, .nil => .nil
  | _, _, .cons _ t h => .cons ⟨t, rfl⟩ (each_are h)
theorem call_sortDT (hcalm : X.calm = true) (hu : X.A.units + 64 < cLine) : CallR X (.builtin "sorted") (fun xs H Q => ∃ (a : Addr) (kvs : List (Key × V)) (ws : List Txt), xs = [.ref a] ∧ Rd H a (.dK kvs) ∧ kvs.map (·.1) = (ws.map mkS).map Sum.inr ∧
    ∀ p, H p = none → Q (.ref p) (upd H p (.lst ((ws.mergeSort leT).map fun c => V.str (mkS c))))) := by
  intro pins s σ H xs us Q I r q
  obtain ⟨a, kvs, ws, ex, hd, hks, q⟩ := q
  subst ex
  obtain ⟨u, eu, rx⟩ := vals1 r
  subst eu
  cases rx
  obtain ⟨z, lo, vs, rel, dd⟩ := dk_rd I.hok hd
  obtain ⟨ep, hat⟩ := dd.dictAt
  have hkeys : vs.map (·.1) = (ws.map mkS).map Sum.inr := rel.keys.symm.trans hks
  have hl : vs.length = (ws.map mkS).length := by
    have e := congrArg List.length hkeys
    rw [List.length_map, List.length_map] at e
    exact e
  have h16 : vs.length ≤ sizeLine := by rw [← rel.length]; exact z
  refine Calls.call_function_entry PyProof.Rows.kind_sorted PyProof.Rows.plain_sorted PyProof.Rows.entry_sorted (PyProof.Rows.args_sorted1 _) ?_
  unfold Builtin.«sorted»
  refine wpAny_bind (m := checkCount "sorted" 1 1 _) (wpAny_pure ?_)
  refine wpAny_bind (PySem.W.kdu_collect (A := X.A.in1) (PySem.W.kdl_dict (knd := mixKind X.prog X.w) (kvs := vs) (ep := ep) lo) (I.ok.hd hcalm) hat h16 fun h' tk acc hk hacc => ?_)
  have hal : acc.toList.length = (ws.map mkS).length := by rw [Array.length_toList, hacc.1, hl]
  have hS : StrsAre acc.toList (ws.map mkS) := strs_at hal fun j v e => by
    obtain ⟨k, x, e1, e2⟩ := hacc.2 j v (by rw [← Array.getElem?_toList]; exact e)
    have e3 : (vs.map (·.1))[j]? = some k := by rw [List.getElem?_map, e1]; all_goals rfl
    rw [hkeys, List.getElem?_map] at e3
    cases e4 : (ws.map mkS)[j]? with
    | none => rw [e4] at e3; cases e3
    | some y =>
      rw [e4] at e3
      have e5 : Sum.inr y = k := Option.some.inj e3
      subst e5
      obtain ⟨t, ev⟩ := Value.isStrOf_shape (x := y) (v := v) e2
      exact ⟨y, t, rfl, ev⟩
  have hal2 : acc.toList.length ≤ sizeLine := by rw [hal, ← hl]; exact h16
  have hks : PySem.W.EachIs (fun v k => ∃ t, v = Value.str k t) acc.toList (ws.map mkS) := each_are hS
  have I1 : Inv X pins σ H { s with heap := h', toks := tk } := I.kept hk
  refine wpAny_bind (wpAny_newList ?_ hal2)
  have hoL : (h'.push (seqObj "list" acc.toList.toArray 0)).get? h'.objs.size = some (seqObj "list" acc.toList.toArray 0) := Heap.get?_push_size _ rfl
  show wpAny _ _ _ _ _ { s with heap := h'.push (seqObj "list" acc.toList.toArray 0), toks := tk }
  refine wpAny_bind (wpAny_holding (PySem.W.list_sort_data (β := Str) (enc := fun k => PyData.str k) (s := { s with heap := h'.push (seqObj "list" acc.toList.toArray 0), toks := tk }) hoL hks ?_ ?_ ?_ ?_ ?_ fun out hlen heach => ?_))
  · exact hks.mono fun v k ⟨t, e⟩ => ⟨[], by subst e; exact .str _ _, by simp⟩
  · intro d hd d' hd'
    obtain ⟨k, _, rfl⟩ := List.mem_map.mp hd
    obtain ⟨k', _, rfl⟩ := List.mem_map.mp hd'
    rfl
  · refine .inr fun d hd => ?_
    obtain ⟨k, _, rfl⟩ := List.mem_map.mp hd
    exact ⟨(fun z => by cases z), (fun ws z => by cases z)⟩
  · rw [← hks.length]; exact hal2
  · intro k _
    have e1 : X.A.in1.units = X.A.units + 1 := rfl
    have e2 : PyData.depth (.str k) = 0 := rfl
    rw [e1, e2]
    omega
  · have e1 : (ws.map mkS).mergeSort (PySem.W.dataLe false fun k => PyData.str k) = (ws.mergeSort leT).map mkS := by
      rw [PySem.W.dataLe_str (fun k : Str => k)]
      exact sort_mk ws
    rw [e1] at heach
    obtain ⟨e', he'⟩ := PyProof.Rows.sortedHeap_at (vs := acc.toList) (out := List.toArray out) hoL
    have hlen2 : ((ws.mergeSort leT).map fun c => V.str (mkS c)).length ≤ sizeLine := by
      rw [List.length_map, List.length_mergeSort, ← List.length_map (f := mkS), ← hl]
      exact h16
    refine wpAny_pure ⟨_, rfl, .ref h'.objs.size, upd H h'.objs.size (.lst ((ws.mergeSort leT).map fun c => V.str (mkS c))), I1.laid (t' := tk) (fun b u e => ?_) (Nat.le_refl _)
      (show ObjOk X.prog X.w _ _ _ (.lst ((ws.mergeSort leT).map fun c => V.str (mkS c))) from ⟨hlen2, out, e', vals_strs heach, he'⟩), rfl, q _ (I1.hok.fresh (Nat.le_refl _))⟩
    have hb : b < h'.objs.size := Heap.lt_size e
    rw [PyProof.Rows.sortedHeap_old (Nat.ne_of_lt hb) (by rw [size_push']; exact Nat.lt_succ_of_lt hb)]
    exact Heap.get?_push_of_some _ e
theorem RK.strs {Z : Hp} {ι : List (Addr × Addr)} : ∀ {kvs : List (Key × V)} {ps : List (PV × PV)} {ws : List Txt}, RK G Z ι kvs ps → strsV (ps.map (·.1)) = some ws → kvs.map (·.1) = (ws.map mkS).map Sum.inr ∧ ∀ w ∈ ws, okT w
  | _, _, ws, .nil, e => by
    cases e
    exact ⟨rfl, fun _ h => by cases h⟩
  | _, _, ws, .cons (k := k) (xs := xs) _ h t, e => by
    cases k with
    | inl i => exact absurd e (by simp [strsV, kP])
    | inr s =>
      have e : (strsV (xs.map (·.1))).map (s.cps.toList :: ·) = some ws := e
      rw [Option.map_eq_some_iff] at e
      obtain ⟨w, e1, rfl⟩ := e
      obtain ⟨h1, h2⟩ := RK.strs t e1
      refine ⟨?_, fun u hu => ?_⟩
      · show Sum.inr s :: _ = Sum.inr (mkS s.cps.toList) :: _
        rw [h1]
      · rcases List.mem_cons.mp hu with rfl | hu
        · exact h s rfl
        · exact h2 u hu
theorem b_sortD (hK : G.K = X.K) (hc : X.calm = true) (hu : X.A.units + 64 < cLine) : CallR X (.builtin "sorted") (rF G (fun xs => match xs with
    | [.dic kvs] => (strsV (kvs.map (·.1))).map fun ws => .lst ((ws.mergeSort leT).map .str)
    | _ => none) .own) := by
  refine CallR.imp (call_sortDT hc hu) fun vs H Q h => ?_
  obtain ⟨Z, ι, xs, z, sz, r, e, k⟩ := h
  match xs, e, r with
  | [.dic ps], e, r =>
    have e : ((strsV (ps.map (·.1))).map fun ws => PV.lst ((ws.mergeSort leT).map .str)) = some z := e
    rw [Option.map_eq_some_iff] at e
    obtain ⟨ws, es, rfl⟩ := e
    obtain ⟨v, rfl, r1⟩ := r.one
    obtain ⟨a, rfl, ⟨kvs, h1, r2⟩ | ⟨kvs, h1, r2, ne⟩⟩ := r1
    · obtain ⟨h3, h4⟩ := RK.strs r2 es
      exact ⟨a, kvs, ws, rfl, h1, h3, fun p hp => k _ _ (.lst hp (texts_rv fun c hc => h4 c (List.mem_mergeSort.mp hc)))⟩
    · exfalso
      cases r2 with
      | nil => exact ne rfl
      | cons _ _ _ => simp [strsV] at es
theorem b_sorted (hK : G.K = X.K) (hc : X.calm = true) (hu : X.A.units + 64 < cLine) : CallR X (.builtin "sorted") (rF G (bfV .sorted) .own) := by
  refine CallR.imp (CallR.or (b_sortL hK hu) (b_sortD hK hc hu)) fun vs H Q h => ?_
  obtain ⟨Z, ι, xs, z, sz, r, e, k⟩ := h
  match xs, e, r with
  | [.lst ys], e, r => exact .inl ⟨Z, ι, [.lst ys], z, sz, r, e, k⟩
  | [.dic ys], e, r => exact .inr ⟨Z, ι, [.dic ys], z, sz, r, e, k⟩
end
end PVS

set_option maxHeartbeats 1000000
/-! PVS.LM: sorted by a lambda. -/
namespace PVS.LM
open PySem PySem.Spec PyProof.Rows L2 TL PVL PVS.TX LamX
/-- the lambda's names: its parameter and the global len -/
structure LenS (scope : Scope) (x : Str) : Prop where
  kind : scope.kind = .function
  co : scope.isCoroutine = false
  gen : scope.isGenerator = false
  nocell : ∀ y ∈ scope.names, y.2 ≠ .cell ∧ y.2 ≠ .free
  par : scope.names.lookup x = some .local
  len : scope.names.lookup ("len" : Str) = some .globalImplicit
def lenSB (scope : Scope) (x : Str) : Bool :=
  decide (scope.kind = .function) && !scope.isCoroutine && !scope.isGenerator && (scope.names.all fun y => !decide (y.2 = .cell) && !decide (y.2 = .free)) && decide (scope.names.lookup x = some .local) && decide (scope.names.lookup ("len" : Str) = some .globalImplicit)
theorem lenS_by {scope : Scope} {x : Str} (h : lenSB scope x = true) : LenS scope x := by
  unfold lenSB at h
  simp only [Bool.and_eq_true, Bool.not_eq_true', decide_eq_true_eq, decide_eq_false_iff_not, List.all_eq_true] at h
  obtain ⟨⟨⟨⟨⟨h1, h2⟩, h3⟩, h4⟩, h5⟩, h6⟩ := h
  exact ⟨h1, h2, h3, h4, h5, h6⟩
section
variable {P : Program} {w : World} {A : Around} {K : PySem.W.Frag} {mg : Str → Option Value} {base : Heap} {s : Shared}
/-- the frame of a lambda that runs -/
theorem lam_enter {f c' : Addr} {pm ctv v : Value} {params : Arguments} {body : Expr} {scope : Scope} {q x : Str} {kk : PyData} {E : Value → Shared → Prop}
    (L : LenS scope x) (hroom : A.depth < recursionLimit) (hlim : s.heap.NoLimit)
    (hf : s.heap.get? f = some (PySem.W.kla_obj "<lambda>" q params body scope [] pm c' ctv))
    (hc : ∃ (oc : Obj) (vs : Array Value) (t : Tok), s.heap.get? c' = some oc ∧ oc.data = .fields vs ∧ vs[1]? = some (.str q t))
    (hbind : bindArgs (PySem.W.kla_fn "<lambda>" q params body scope [] pm (.ref c') ctv) ⟨[v], []⟩ = pure [(x, v)])
    (hbody : ∀ (h₁ : Heap) (tk : Nat), (∀ b o, s.heap.get? b = some o → h₁.get? b = some o) → h₁.Ns s.heap.objs.size (fun y => [(x, v)].reverse.lookup y) →
      wpAny (model P w) (A.deeper (PySem.W.envX q scope s.heap.objs.size f (.ref c') [])) (eval body (PySem.W.envX q scope s.heap.objs.size f (.ref c') [])) (PySem.W.KeyPure kk { s with heap := h₁, toks := tk }) (fun _ _ => False) { s with heap := h₁, toks := tk }) :
    wpAny (model P w) A (call (.ref f) [v]) (PySem.W.KeyPure kk s) E s := by
  obtain ⟨oc, vs, t, hoc, hdc, hvc⟩ := hc
  refine wpAny_call (codeAny_mono (R := fun r s' => ∃ u, r = .ok (.ret u) ∧ PySem.W.KeyPure kk s u s') ?_ fun r s' hq => ?_)
  · refine PySem.W.kla_callFunE hroom hf rfl L.co L.gen rfl ⟨c', oc, vs, t, rfl, hoc, hdc, hvc⟩ ?_
    rw [hbind]
    refine wpAny_pure (wpAny_newFunctionEnv (fun y hy => (L.nocell y hy).1) (fun y hy => ?_) (fun h₁ hns hsb => ⟨hlim.fresh _ hsb, ?_⟩) L.kind)
    · rw [List.mem_singleton] at hy
      subst hy
      exact L.par
    show codeAny _ _ (.expr body (PySem.W.envX q scope s.heap.objs.size f (.ref c') [])) _ _
    have kp : ∀ b o, s.heap.get? b = some o → h₁.get? b = some o := fun b o e => hsb.extBut b o (Nat.ne_of_lt (Heap.lt_size e)) (Heap.get?_push_of_some _ e)
    refine PySem.W.kla_codeExpr (wpAny_mono (hbody h₁ _ kp hns) (fun u s' hq => ⟨u, rfl, ?_⟩) fun e s' hq => hq.elim)
    obtain ⟨h', tk, rfl, k, r⟩ := hq
    exact ⟨h', tk, rfl, fun b o e => k b o (kp b o e), r⟩
  · obtain ⟨u, rfl, hq⟩ := hq
    exact hq
/-- (len(x), x) of a text -/
theorem len_key {f c' : Addr} {pm ctv : Value} {t : Tok} {params : Arguments} {scope : Scope} {q x : Str} {y : Txt} {p1 p2 p3 p4 p5 : Pos} {k : Nat} {E : Value → Shared → Prop}
    (hM : L2.Mod K mg base) (bk : ∀ b o, base.get? b = some o → s.heap.get? b = some o) (hm : mg "len" = none) (hy : okT y)
    (L : LenS scope x) (hroom : A.depth < recursionLimit)
    (hf : s.heap.get? f = some (PySem.W.kla_obj "<lambda>" q params (.Tuple [.Call (.Name "len" p1) [.Name x p2] [] p3, .Name x p4] k p5) scope [] pm c' ctv))
    (hc : ∃ (oc : Obj) (vs : Array Value) (t : Tok), s.heap.get? c' = some oc ∧ oc.data = .fields vs ∧ vs[1]? = some (.str q t))
    (hbind : bindArgs (PySem.W.kla_fn "<lambda>" q params (.Tuple [.Call (.Name "len" p1) [.Name x p2] [] p3, .Name x p4] k p5) scope [] pm (.ref c') ctv) ⟨[.str (mkS y) t], []⟩ = pure [(x, .str (mkS y) t)])
    (hd : (x == ("__debug__" : Str)) = false) :
    wpAny (model P w) A (call (.ref f) [.str (mkS y) t]) (PySem.W.KeyPure (.tuple [.int (y.length : Nat), .str (mkS y)]) s) E s := by
  refine lam_enter L hroom (hM.nolimit.keeps bk) hf hc hbind fun h₁ tk kp hns => ?_
  have bk1 : ∀ b o, base.get? b = some o → h₁.get? b = some o := fun b o e => kp b o (bk b o e)
  obtain ⟨mb, hb1, hb2⟩ := hM.blt
  have hv : [(x, Value.str (mkS y) t)].reverse.lookup x = some (.str (mkS y) t) := by simp
  have nm : ∀ {Q : Value → Shared → Prop} {E : Value → Shared → Prop} {A : Around} {pos : Pos} (s1 : Shared), s1.heap.Ns s.heap.objs.size (fun y' => [(x, Value.str (mkS y) t)].reverse.lookup y') → Q (.str (mkS y) t) s1 →
      wpAny (model P w) A (eval (.Name x pos) (PySem.W.envX q scope s.heap.objs.size f (.ref c') [])) Q E s1 := fun {Q E A pos} s1 hn h =>
    wpAny_Name (wpAny_loadName_local L.kind L.par hn hv h) hd
  refine wpAny_Tuple ?_
  refine Calls.spliced_cons (wpAny_Call_Name_kw (Calls.Name_function_global L.kind L.len (Calls.loadGlobal_builtin (s := { s with heap := h₁, toks := tk }) (hM.glob.keeps bk1) hm (hb1.keeps bk1) ((hb2 "len" (by decide)).trans (show bootBuiltins "len" = some (.builtin "len") by decide +kernel)) ?_) (by decide)))
  refine PyProof.Rows.callWith_builtin1 (PyProof.Rows.args_cons (nm _ hns (PyProof.Rows.args_nil ?_)) rfl) rfl rfl
  have hl63 := line63
  have hs : sizeLine = 16777216 := sizeLine_eq
  have hyl : (mkS y).length = y.length := mkS_len y
  have hyl2 : y.length ≤ sizeLine := by rw [← line_eq]; exact hy.1
  refine len_str (by rw [hyl]; omega) ?_
  refine Calls.spliced_cons (nm _ hns ?_)
  refine Calls.spliced_nil ⟨by show 2 ≤ sizeLine; rw [sizeLine_eq]; decide, ?_⟩
  refine ⟨_, _, rfl, fun b o e => Heap.get?_push_of_some _ e, ?_⟩
  refine .tuple (as := [] ++ ([] ++ [])) (Heap.get?_push_size _ rfl) rfl rfl (.cons ?_ (.cons (.str _ _) .nil))
  rw [hyl]
  exact .int _ _
end
/-! ### the heap but for the tables -/
section
variable {G : GS} {Z B H H1 : Hp} {ι : List (Addr × Addr)} {ω : PVL.Store} {ρ : PVL.Env} {σ : L2.St}
theorem extN_at {a : Addr} {u : HO} (e : ExtN H H1) (nt : ∀ ps, u ≠ .tbl ps) (h : At H a u) : At H1 a u := by
  rcases h with q | ⟨m, o, q⟩
  · exact .inl (e a u q nt)
  · exact .inr ⟨m, o, e a _ q fun _ z => by cases z⟩
theorem extN_rd {a : Addr} {u : HO} (e : ExtN H H1) (nt : ∀ ps, u ≠ .tbl ps) (h : Rd H a u) : Rd H1 a u := by
  rcases h with q | ⟨o, q⟩
  · exact .inl (e a u q nt)
  · exact .inr ⟨o, e a _ q fun _ z => by cases z⟩
theorem Sim.extN (S : Sim G Z B H ι ω ρ σ) (e : ExtN H H1) (t : Tabs G.tabs H1) : Sim G Z B H1 ι ω ρ σ ∧ Ext Z Z (PO B ρ σ) ι ι H H1 := by
  have zs : ∀ {Y : Hp}, Sub Y H → NT Y → ∀ a u, Y a = some u → H1 a = H a := fun {Y} s nt a u q => by
    rcases s a u q with z | ⟨_, o, z⟩
    · rw [z]; exact e a u z fun ps c => nt a ps (by rw [q, c])
    · rw [z]; exact e a _ z fun _ c => by cases c
  have ow : ∀ k a, owA G H ι ω ρ σ k a → H1 a = H a := fun k a q => by
    obtain ⟨o, h1, h2⟩ := S.owPl q
    rw [h1]; exact e a o h1 h2.1
  refine ⟨S.swap (fun a u q => extN_at e (fun ps c => S.tb.z a ps (by rw [q, c])) (S.zH a u q)) (fun a u q => extN_at e (fun ps c => S.tb.b a ps (by rw [q, c])) (S.bH a u q)) ⟨t, S.tb.z, S.tb.b⟩ ow, Same.refl _, List.prefix_refl _, fun a h => ?_⟩
  rcases h with h | h | ⟨i, x, e1, e2⟩
  · cases q : Z a with
    | none => exact absurd q h
    | some u => exact zs S.zH S.tb.z a u q
  · cases q : B a with
    | none => exact absurd q h
    | some u => exact zs S.bH S.tb.b a u q
  · exact ow (.slot i) a ⟨⟨x, e1⟩, e2⟩
end
/-! ### the order of words -/
def keyW (y : Txt) : PyData := .tuple [.int (y.length : Nat), .str (mkS y)]
theorem leW_V (a b : Txt) : leW a b = leV (.tup [.int a.length, .str a]) (.tup [.int b.length, .str b]) := by
  show _ = !(if eqv (.int b.length) (.int a.length) = true then (if eqv (.str b) (.str a) = true then false else ltT b a) else decide ((b.length : Int) < (a.length : Int)))
  have e1 : eqv (.int b.length) (.int a.length) = decide (b.length = a.length) := by
    show ((b.length : Int) == (a.length : Int)) = _
    rw [Bool.beq_eq_decide_eq, decide_eq_decide]
    omega
  have e2 : eqv (.str b) (.str a) = decide (b = a) := by
    show (b == a) = _
    rw [Bool.beq_eq_decide_eq]
  rw [e1, e2]
  unfold leW leT
  by_cases h1 : a.length < b.length
  · rw [if_pos h1, if_neg (by rw [decide_eq_true_eq]; omega), decide_eq_false (by omega)]
    rfl
  · rw [if_neg h1]
    by_cases h2 : b.length < a.length
    · rw [if_pos h2, if_neg (by rw [decide_eq_true_eq]; omega), decide_eq_true (by omega)]
      rfl
    · rw [if_neg h2, if_pos (by rw [decide_eq_true_eq]; omega)]
      by_cases h3 : b = a
      · subst h3
        rw [if_pos (by simp)]
        have : ltT b b = false := by
          rw [← Bool.not_eq_true, ltT_iff]
          exact List.lt_irrefl _
        rw [this]
      · rw [if_neg (by simpa using h3)]
theorem sort_keyW (ws : List Txt) : ws.mergeSort (PySem.W.dataLe false keyW) = ws.mergeSort leW := PySem.W.sort_congr fun a _ b _ => by
  show (!PySem.W.dataLt (keyW b) (keyW a)) = leW a b
  have e : ∀ y : Txt, keyW y = toPD (.tup [.int y.length, .str y]) := fun y => by simp [keyW, toPD, toPDs]
  rw [leW_V, e, e, lt_pd (n := 1) (m := 1) (by simp [deep, deeps]) (by simp [deep, deeps]) (by simp [alikeV, alikeVs])]
  rfl
theorem strs_vals2 : ∀ {cs : List Txt} {out : List Value}, Vals ((cs.map mkS).map V.str) out → PySem.W.EachIs (fun v k => ∃ t, v = Value.str (mkS k) t) out cs
  | [], _, h => by
    cases h
    exact .nil
  | c :: cs, _, h => by
    cases h with
    | cons r t =>
      obtain ⟨t0, rfl⟩ := r
      exact .cons ⟨t0, rfl⟩ (strs_vals2 t)
theorem vals_strs2 : ∀ {cs : List Txt} {out : List Value}, PySem.W.EachIs (fun v k => ∃ t, v = Value.str (mkS k) t) out cs → Vals (cs.map fun c => V.str (mkS c)) out
  | [], _, h => by
    cases h
    exact .nil
  | c :: cs, _, h => by
    cases h with
    | cons r t =>
      obtain ⟨t0, rfl⟩ := r
      exact .cons ⟨t0, rfl⟩ (vals_strs2 t)
/-! ### the rule -/
section
variable {X : Cx} {G : GS} {W : WX}
/-- what is known of the lambda's maker -/
structure LamOk (G : GS) (X : Cx) : Prop where
  ex : ∃ c P, TabB X.base X.mg c P ∧ X.env.code = .ref c ∧ (P, X.env.qual ++ "<lambda>") ∈ G.tabs ∧ ∀ p ∈ G.tabs, p.1 = P → p.2 = X.env.qual ++ "<lambda>"
theorem se_sortW {e : Expr} {ie : E} {x : Str} {params : Arguments} {lscope : Scope} {p pos lpos kp p1 p2 p3 p4 p5 : Pos} {k : Nat} (hc : X.calm = true) (hu : X.A.units + 64 < cLine) (hr : Room 0 X.A) (hg : Gl X "sorted") (hm : X.mg "sorted" = none) (hml : X.mg "len" = none) (hl : LamOk G X)
    (L : LenS lscope x) (hd : (x == ("__debug__" : Str)) = false) (hclo : ∀ cells : List (Str × Addr), cloFrom cells lscope.names [] = []) (hdef : defaultsOf params X.env = ([], []))
    (hbind : ∀ (q : Str) (cl : List (Str × Addr)) (pm cv ctv v : Value), bindArgs (PySem.W.kla_fn "<lambda>" q params (.Tuple [.Call (.Name "len" p1) [.Name x p2] [] p3, .Name x p4] k p5) lscope cl pm cv ctv) ⟨[v], []⟩ = pure [(x, v)])
    (he : PE X e (tE G W ie)) (na : backTo pos (starEach [e] X.env) = (false, eval e X.env) :: backTo pos (starEach [] X.env)) (npl : (backTo pos (starEach [e] X.env)).any (·.1) = false) :
    PE X (.Call (.Name "sorted" p) [e] [⟨some "key", .Lambda params (.Tuple [.Call (.Name "len" p1) [.Name x p2] [] p3, .Name x p4] k p5) lscope lpos, kp⟩] pos) (tE G W (.bf1 .sortedW ie)) := by
  refine ⟨fun pins s σ H Q I h => ?_⟩
  obtain ⟨c, P, TBc, hcode, hmT, huT⟩ := hl.ex
  have h2 : tE G W ie σ H fun v H1 => ∃ (ws : List Txt) (a : Addr), (∀ y ∈ ws, okT y) ∧ v = .ref a ∧ Rd H1 a (.lst ((ws.map mkS).map V.str)) ∧ Tabs G.tabs H1 ∧
      ∀ H2, ExtN H1 H2 → Tabs G.tabs H2 → ∀ p, H2 p = none → Q (.ref p) (upd H2 p (.lst ((ws.mergeSort leW).map fun y => V.str (mkS y)))) := by
    obtain ⟨Z, B, ι, ω, ρ, S, h⟩ := h
    unfold ev at h
    refine tE.next S h.bind fun y ω1 h1 v H1 Z1 ι1 E1 S1 l1 _ p1 => ?_
    obtain ⟨y1, y2⟩ := y
    unfold liftO at h1
    cases y1 with
    | lst xs =>
      have hb : bfV .sortedW [.lst xs] = (strsV xs).map fun ws => .lst ((ws.mergeSort leW).map .str) := rfl
      rw [hb] at h1
      cases es : strsV xs with
      | none => rw [es] at h1; exact h1.elim
      | some ws =>
        rw [es, Option.map_some] at h1
        obtain ⟨a, vs, rfl, h3, r3⟩ := l1.rh S1
        obtain ⟨rfl, rfl, ok⟩ := r3.strsV es
        refine ⟨ws, a, ok, rfl, h3, S1.tb.t, fun H2 eN t2 p hp => ?_⟩
        obtain ⟨S2, E2⟩ := Sim.extN S1 eN t2
        obtain ⟨Z3, E3, S3, o3, s3⟩ := (Nw.lst (G := G) (Z := Z1) (ι := ι1) (m := .own) hp (texts_rv (cs := ws.mergeSort leW) fun c hc => ok c (List.mem_mergeSort.mp hc))).fin S2 (by decide)
        exact h1 _ _ Z3 ι1 (E1.trans (E2.trans E3)) S3 o3 (.no rfl)
    | _ => exact h1.elim
  refine wpAny_Call_Name_kw (ld_blt I hg hm (show bootBuiltins "sorted" = some (.builtin "sorted") by decide +kernel) ?_)
  refine PyProof.Rows.callWith_kw (e := e) (rest := []) ?_ na npl rfl rfl
  rw [na]
  refine Calls.spliced_cons (thn (he.run pins s σ H _ I h2) fun v s1 ⟨y, H1, I1, r1, q1⟩ => Calls.spliced_nil ?_)
  obtain ⟨ws, a, ok, rfl, hrd, t1, q1⟩ := q1
  have r1 : v = .ref a := r1
  subst r1
  have hcloX : cloFrom X.env.cells lscope.names [] = [] := hclo _
  refine kws_cons (lam_make2 I1 TBc hcode hmT huT t1 hdef (fun y hy e => absurd e (L.nocell y hy).2) fun f c' pm ctv H2 s2 I2 eN t2 hf hfn hfr hco => kws_nil ?_)
  rw [hcloX] at hf
  have hrd2 := extN_rd eN (fun ps z => by cases z) hrd
  obtain ⟨its, rvv, hli, hz⟩ := I2.list (.inl hrd2)
  have hL : ws.length ≤ sizeLine := by simpa using hz
  obtain ⟨⟨oc, vs, t, hoc, hdc, hvc⟩, _, _⟩ := I2.hok c' _ hco
  show wpAny _ _ (call (.builtin "sorted") [.ref a] [(Str.ofString "key", .ref f)]) _ _ _
  refine PySem.W.sorted_key_data (b := false) keyW hli.isList (strs_vals2 rvv) (PySem.W.AllAlike.of fun _ _ => by simp [keyW, PySem.W.alike, PySem.W.alikeAll]) (PySem.W.Sortable.tuples fun _ => ⟨_, _, rfl⟩) hL (fun y _ => ?_) (PyProof.Rows.ksk_s1 _ _) (fun _ => PyProof.Rows.ksk_l1 _ _) (fun _ => PyProof.Rows.ksk_t1 _ _)
    (fun v y ⟨t0, e0⟩ hy h tk kp => ?_) fun out c0 h' tk kp fresh hD hlen heach => ?_
  · have hd1 : (keyW y).depth = 1 := by simp [keyW, PyData.depth, PyData.depthAll]
    omega
  · subst e0
    refine len_key (s := { s2 with heap := h, toks := tk }) I.ok.mod (fun b o eb => kp b o (I2.bk b o eb)) hml (ok y hy) L (by have := hr.dp; show X.A.depth < _; omega) (kp f _ hf) ⟨oc, vs, t, kp c' _ hoc, hdc, hvc⟩ (hbind _ _ _ _ _ _) hd
  · rw [sort_keyW] at heach
    have hlen2 : ((ws.mergeSort leW).map fun y => V.str (mkS y)).length ≤ sizeLine := by rw [List.length_map, List.length_mergeSort]; exact hL
    have hn : H2 (s2.heap.objs.size + 1) = none := I2.hok.fresh (Nat.le_succ _)
    refine ⟨.ref (s2.heap.objs.size + 1), upd H2 (s2.heap.objs.size + 1) (.lst ((ws.mergeSort leW).map fun y => V.str (mkS y))), I2.laid (t' := tk) kp (Nat.le_succ _) ⟨hlen2, out, c0, vals_strs2 heach, hD⟩, rfl, q1 H2 eN t2 _ hn⟩
end
end PVS.LM

set_option maxHeartbeats 1000000
/-! PVS: isinstance of a class of the text. -/
namespace PVS
open PySem PySem.Spec PyProof.Rows L2 TL PVL
/-- what isinstance asks of an instance's class -/
structure TyG (K : PySem.W.Frag) (C : Addr) : Prop where
  ha : PySem.W.findIn K (.ref C) "__class__" = some (some (.builtin "object.__class__"))
  hn : PySem.W.specialIn K (.builtin "object.__class__") "__get__" = some (some (.builtin "getset_descriptor.__get__"))
  tk : PySem.W.takesIn K (.builtin "object.__class__") = some true
  hm : PySem.W.mroIn K C (.type "object") = some true
def tyGB (K : PySem.W.Frag) (C : Addr) : Bool :=
  decide (PySem.W.findIn K (.ref C) "__class__" = some (some (.builtin "object.__class__"))) && (decide (PySem.W.specialIn K (.builtin "object.__class__") "__get__" = some (some (.builtin "getset_descriptor.__get__"))) &&
    (decide (PySem.W.takesIn K (.builtin "object.__class__") = some true) && decide (PySem.W.mroIn K C (.type "object") = some true)))
theorem tyGB_ok {K : PySem.W.Frag} {C : Addr} (h : tyGB K C = true) : TyG K C := by
  unfold tyGB at h
  simp only [Bool.and_eq_true, decide_eq_true_eq] at h
  exact ⟨h.1, h.2.1, h.2.2.1, h.2.2.2⟩
def bltns : List String := ["NoneType", "bool", "int", "str", "tuple", "list", "dict"]
/-- none of the built-in types is the class -/
def noBltB (K : PySem.W.Frag) (C : Addr) : Bool := bltns.all fun n => decide (PySem.W.kitOne K (.type n) (.ref C) = some false)
structure InsOk (G : GS) (K : PySem.W.Frag) (mg : Str → Option Value) (x : Str) (d : Bool) (cs : List (Nat × Bool)) : Prop where
  ex : ∃ C, mg x = some (.ref C) ∧ noBltB K C = true ∧ (∀ c, Cls K (G.cl c)) ∧ (∀ c, TyG K (G.cl c)) ∧ ∀ c, PySem.W.kitOne K (.ref (G.cl c)) (.ref C) = some ((cs.lookup c).getD d)
section
variable {X : Cx} {G : GS} {W : WX}
theorem tyN_in {x : PV} {n : String} (h : tyN x = some n) : n ∈ bltns := by
  cases x <;> simp only [tyN, reduceCtorEq, Option.some.injEq] at h <;> first
    | (subst h; decide)
    | (split at h
       · cases h; decide
       · cases h)
theorem own_false {ω : PVL.Store} {x : PV} {d b : Bool} {cs : List (Nat × Bool)} (hx : ∀ n, x ≠ .obj n) (e : isTy ω x (.own d cs) = some b) : b = false ∧ ∃ n, tyN x = some n := by
  cases x with
  | obj n => exact absurd rfl (hx n)
  | exc c xs => simp [isTy] at e
  | dic kvs =>
    simp only [isTy] at e
    split at e
    · rename_i hf
      cases e
      exact ⟨rfl, _, if_pos hf⟩
    · cases e
  | _ => simp only [isTy, Option.some.injEq] at e; exact ⟨e.symm, _, rfl⟩
theorem se_instO {a : Expr} {x T : Str} {ia : E} {d : Bool} {cs : List (Nat × Bool)} {p pt pos : Pos} (hg : Gl X x) (hm : X.mg x = none) (hv : bootBuiltins x = some (.builtin "isinstance")) (hn : x ≠ "__name__") (hdb : (x == ("__debug__" : Str)) = false) (ha : PE X a (tE G W ia))
    (hgT : Gl X T) (hdT : (T == ("__debug__" : Str)) = false) (M : InsOk G X.K X.mg T d cs)
    (hs : starEach [a, .Name T pt] X.env = (false, eval a X.env) :: starEach [.Name T pt] X.env) : PE X (.Call (.Name x p) [a, .Name T pt] [] pos) (tE G W (.inst ia [.own d cs])) := by
  obtain ⟨C, hmT, hnb, hcl, htg, hk⟩ := M.ex
  refine PE.imp (pe_callB call_isi hg hm hv (pa_cons ha (pa_cons (pe_glob (v := .ref C) hgT hmT rfl hdT) pa_nil rfl) hs) hn hdb hs rfl) fun σ H Q h => ?_
  obtain ⟨Z, B, ι, ω, ρ, S, h⟩ := h
  unfold ev at h
  refine tE.next S h.bind fun y ω1 h1 v H1 Z1 ι1 E1 S1 l1 _ p1 => ?_
  unfold liftB at h1
  cases e : isTy ω1 y.1 (.own d cs) with
  | none => simp only [List.foldr, Option.bind_some, e, Option.map_none] at h1; exact h1.elim
  | some b =>
    simp only [List.foldr, Option.bind_some, e, Option.map_some, Bool.or_false] at h1
    by_cases ho : ∃ n, y.1 = .obj n
    · obtain ⟨n, eo⟩ := ho
      rw [eo] at e l1
      obtain ⟨r, dx, rfl, ei⟩ := l1.obj S1
      obtain ⟨rc, fs, en, eb, _, _⟩ := S1.inst ei
      have e : (ω1[n]?).map (fun r => (cs.lookup r.cls).getD d) = some b := e
      rw [en] at e
      cases e
      exact ⟨.ref r, .ref C, .ref (G.cl rc.cls), .ref C, _, rfl, .own C, .base (.ins eb (hcl rc.cls) (htg rc.cls).ha (htg rc.cls).hn (htg rc.cls).tk (htg rc.cls).hm), hk _, h1 _ H1 Z1 ι1 E1 S1 (RV.bl _) (.no rfl)⟩
    · obtain ⟨rfl, n, en⟩ := own_false (fun n z => ho ⟨n, z⟩) e
      have q : PySem.W.kitOne X.K (.type n) (.ref C) = some false := by
        have := List.all_eq_true.mp hnb n (tyN_in en)
        exact of_decide_eq_true this
      exact ⟨v, .ref C, .type n, .ref C, false, rfl, .own C, (l1.rh S1).tyx S1.zH en, q, h1 _ H1 Z1 ι1 E1 S1 (RV.bl false) (.no rfl)⟩
end
end PVS

set_option maxHeartbeats 1000000
/-! PVS: exceptions as values: tracked where they are caught or made. -/
namespace PVS
open PySem PySem.Spec PyProof.Rows L2 TL PVL
theorem xo_ok {P : Program} {w : World} {H : Hp} {h : Heap} {a : Addr} {cls : Value} {d : Option Addr} {oe : Obj} {vs : Array Value} (e : h.get? a = some oe) (z : Zc cls d oe) (hd : oe.data = .fields vs) : ObjOk P w H h a (XO cls d a) :=
  ⟨⟨oe, vs, e, z, hd⟩, ⟨oe, e⟩, fun _ _ ⟨o, v, q, r⟩ k => ⟨o, v, k o q, r⟩⟩
theorem xo_at {P : Program} {w : World} {H : Hp} {h : Heap} {a : Addr} {cls : Value} {d : Option Addr} (hok : HOk P w H h) (e : H a = some (XO cls d a)) : ∃ (oe : Obj) (vs : Array Value), h.get? a = some oe ∧ Zc cls d oe ∧ oe.data = .fields vs := by
  have x : ObjOk P w H h a (.ext fun h => ∃ (oe : Obj) (vs : Array Value), h.get? a = some oe ∧ Zc cls d oe ∧ oe.data = .fields vs) := hok a _ e
  exact x.1
theorem Sub.xo {Z H : Hp} (s : Sub Z H) {a : Addr} {cls : Value} {d : Option Addr} (h : Z a = some (XO cls d a)) : H a = some (XO cls d a) := by
  rcases s a _ h with q | ⟨m, _⟩
  · exact q
  · exact m.elim
theorem Sub.xd {Z H : Hp} (s : Sub Z H) {a : Addr} {fs : List (Str × V)} (h : Z a = some (.xd fs)) : H a = some (.xd fs) := by
  rcases s a _ h with q | ⟨m, _⟩
  · exact q
  · exact m.elim
section
variable {X : Cx} {pins : List (Addr × Obj)} {σ : L2.St} {H : Hp} {s : Shared} {a : Addr} {cls : Value} {d : Option Addr}
/-- an exception that stands in the heap is tracked -/
theorem _root_.L2.Inv.track {oe : Obj} {vs : Array Value} (I : Inv X pins σ H s) (h0 : X.s_0.heap.get? a = none) (ha : s.heap.get? a = some oe) (hz : Zc cls d oe) (hd : oe.data = .fields vs) (na : H a = none) (nL : a ≠ X.env.locals)
    (nP : ∀ p ∈ X.pn ++ pins, p.1 ≠ a) : Inv X pins σ (upd H a (XO cls d a)) s := by
  have ne0 : ∀ b o, X.s_0.heap.get? b = some o → b ≠ a := fun b o e z => by rw [z, h0] at e; cases e
  have neH : ∀ b u, H b = some u → b ≠ a := fun b u e z => by rw [z, na] at e; cases e
  refine ⟨I.ok, I.os, I.bare, ⟨I.base.keep, I.base.slot, fun b o e n hx => by rw [upd_ne (ne0 b o e)]; exact I.base.free b o e n hx, I.base.there, fun b xs e => ?_, fun b o u e => ?_, fun b ps e => ?_⟩, I.loc, I.cell, ?_, fun x c e => ?_, fun p hp => ?_, fun b u e => ?_, I.len⟩
  · have q := I.base.tups b xs e
    rw [upd_ne (neH _ _ q)]; exact q
  · have q := I.base.frzs b o u e
    rw [upd_ne (neH _ _ q)]; exact q
  · obtain ⟨m, q⟩ := I.base.tbls b ps e
    exact ⟨m, by rw [upd_ne (neH _ _ q)]; exact q⟩
  · rw [upd_ne (Ne.symm nL)]; exact I.free
  · have hc : c ≠ a := fun z => by
      obtain ⟨v, o, ho, hv⟩ := I.cell x c e
      rw [z, ha] at ho; cases ho
      rw [hd] at hv; cases hv
    rw [upd_ne hc]; exact I.freeC x c e
  · obtain ⟨e, n, ne, nf, dd⟩ := I.pin p hp
    exact ⟨e, by rw [upd_ne (nP p hp)]; exact n, ne, nf, dd⟩
  · by_cases hb : b = a
    · subst hb
      rw [upd_same] at e; cases e
      exact xo_ok ha hz hd
    · rw [upd_ne hb] at e
      exact (I.hok b u e).stay (fun c v _ q => q) (fun c q => by rw [upd_ne (neH _ _ q)]; exact q) fun c xs q => by rw [upd_ne (neH _ _ q)]; exact q
theorem _root_.L2.Inv.suite0 (I : Inv X pins σ H s) (a : Addr) : Inv (X.suite a (X.pn ++ pins)) [] σ H s :=
  ⟨I.ok.suite _ _, I.os, I.bare, I.base, I.loc, I.cell, I.free, I.freeC, fun p hp => I.pin p (by rw [List.append_nil] at hp; exact hp), I.hok, I.len⟩
theorem _root_.L2.Inv.unsuite0 {a : Addr} {pn' : List (Addr × Obj)} (I : Inv (X.suite a (X.pn ++ pins)) pn' σ H s) (ok : X.Ok) : Inv X pins σ H s :=
  ⟨ok, I.os, I.bare, I.base, I.loc, I.cell, I.free, I.freeC, fun p hp => I.pin p (List.mem_append_left _ hp), I.hok, I.len⟩
/-- a new exception is tracked -/
theorem _root_.L2.Inv.newX {oe : Obj} {vs : Array Value} {s' : Shared} (I : Inv X pins σ H s) (k : ∀ b o, s.heap.get? b = some o → s'.heap.get? b = some o) (hn : s.heap.get? a = none) (ha : s'.heap.get? a = some oe) (hz : Zc cls d oe) (hd : oe.data = .fields vs) (na : H a = none) (os : s'.os = s.os) (ag : AllBare s'.gens) :
    Inv X pins σ (upd H a (XO cls d a)) s' := by
  have U : Un (frs X.stack) [] H (upd H a (XO cls d a)) s.heap s'.heap := Un.laidN k hn na
  exact I.call' (ch := []) os U (I.hok.laidN k na (xo_ok ha hz hd)) ag (fun b z => absurd z (by simp))
end
/-- an expression that makes an exception, as a value -/
theorem pe_ofMk {X : Cx} {e : Expr} {t : L2.St → Hp → XK → Prop} (h : PMk X e t) : PE X e (fun σ H Q => t σ H fun cls d H1 => ∀ a, H1 a = none → Q (.ref a) (upd H1 a (XO cls d a))) := by
  refine ⟨fun pins s σ H Q I q => wpAny_mono (h pins s σ H _ I q) (fun u s' hu => ?_) fun _ _ x => x⟩
  obtain ⟨a, oe, vs, sI, H', cls, d, rfl, J, k, hne, ha, hz, hd, h1, na, os, ag, r, q⟩ := hu
  exact ⟨.ref a, _, Inv.newX J k hne ha hz hd na os ag, rfl, q a na⟩

/-! ### try -/
def wTry (K : PySem.W.Frag) (Wout : WX) (D : Ends) : List (Value × Option Nat × TS) → WX
  | [] => Wout
  | (c, none, ts) :: r => fun cls d σ H => ∃ b, PySem.W.exmOne K cls c = some b ∧ (b = true → ∀ a, H a = none → ts D σ (upd H a (XO cls d a))) ∧ (b = false → wTry K Wout D r cls d σ H)
  | (c, some i, ts) :: r => fun cls d σ H => ∃ b, PySem.W.exmOne K cls c = some b ∧ (b = true → ∀ a, H a = none → ts { nx := fun σ' H' => D.nx (σ'.set i none) H', rt := D.rt, bk := fun σ' H' => D.bk (σ'.set i none) H', ct := fun σ' H' => D.ct (σ'.set i none) H' } (σ.set i (some (.ref a))) (upd H a (XO cls d a))) ∧
      (b = false → wTry K Wout D r cls d σ H)
inductive HdsT (X : Cx) : List ExceptHandler → List (Value × Option Nat × TS) → Prop
  | nil : HdsT X [] []
  | one {x : Str} {c : Value} {ts : TS} {b₀ : Stmt} {suite : List Stmt} {np pos' : Pos} {hds : List ExceptHandler} {l : List (Value × Option Nat × TS)} (hc : Names X x c)
      (hsu : ∀ (a : Addr) (pn : List (Addr × Obj)), PSs (X.suite a pn) (b₀ :: suite) ts) (r : HdsT X hds l) :
      HdsT X (.ExceptHandler (some (.Name x np)) none (b₀ :: suite) pos' :: hds) ((c, none, ts) :: l)
  | as_ {x n : Str} {i : Nat} {c : Value} {ts : TS} {b₀ : Stmt} {suite : List Stmt} {np pos' : Pos} {hds : List ExceptHandler} {l : List (Value × Option Nat × TS)} (hc : Names X x c) (hi : X.N[i]? = some n) (hln : X.env.kindOf n = some .local)
      (hsu : ∀ (a : Addr) (pn : List (Addr × Obj)), PSs (X.suite a pn) (b₀ :: suite) ts) (r : HdsT X hds l) :
      HdsT X (.ExceptHandler (some (.Name x np)) (some n) (b₀ :: suite) pos' :: hds) ((c, some i, ts) :: l)
/-- the frame of a def's body -/
structure Fr (X : Cx) : Prop where
  st : X.stack = X.env :: X.outer
  fr : X.env.frame = some X.env.locals
  ex : X.ex = []
section
variable {X : Cx} {body : List Stmt} {h₀ : ExceptHandler} {hds : List ExceptHandler} {l : List (Value × Option Nat × TS)} {pos : Pos} {tb : WX → TS} {Wout : WX}
theorem ps_tryT (fr : Fr X) (hN : X.N.Nodup) (tk : Takes X Wout)
    (hb : ∀ (W : WX) (pn : List (Addr × Obj)) (xe : Value → Shared → Prop), Takes (X.tr pn xe) W → PassesOwn (model X.prog X.w) X.A X.env xe → PSs (X.tr pn xe) body (tb W))
    (hh : HdsT X (h₀ :: hds) l) : PS X (.Try body (h₀ :: hds) [] [] pos) (fun D σ H => tb (wTry X.K Wout D l) D σ H) := by
  have hs := fr.st
  have hf := fr.fr
  refine ⟨fun pins s σ H D I h => ?_⟩
  have ok := I.ok
  have hfr : X.A.frames = some (X.env :: X.outer) := by rw [ok.frames, hs]
  refine wpAny_Try_except ?_
  refine wpAny_mono ((hb (wTry X.K Wout D l) (X.pn ++ pins) (fun e s₁ => wpAny (model X.prog X.w) X.A (noteFrame e X.env) (fun _ s₂ => wpAny (model X.prog X.w) X.A (setFlight e none) (fun _ s₃ =>
    wpAny (model X.prog X.w) X.A (handleBy e X.env (h₀ :: hds)) (SP X pins D) X.xe s₃) X.xe s₂) X.xe s₁) (fun u s' xx => ?_) PassesOwn.looking).run [] s σ H D (I.toTry _) h) (fun f s1 hsp => ?_) (fun e s1 he => he)
  · -- the catch
    obtain ⟨a, B, sI, pins', σ', H', cls, d, rfl, J', nb, up, sky, na, os, ag, w⟩ := xx
    have J : Inv X pins σ' H' sI := J'.ofTry ok
    have sky' : Sky B (X.env :: X.outer) a (Zc cls d) X.env.locals s'.heap := by rw [← hs]; exact sky
    show wpAny (model X.prog X.w) X.A (noteFrame (.ref a) X.env) _ _ _
    have Ba : B.get? a = none := by
      rcases sky' with ⟨_, q, _⟩ | ⟨_, q, _⟩ | ⟨_, q, _⟩ <;> exact q
    refine Sky.land Zc.steady hfr hf sky' fun h3 fl3 up3 => ?_
    have J3 : Inv X pins σ' H' { s' with heap := h3 } := J.landed nb fl3.1 (up.trans up3) os ag
    obtain ⟨oe3, vs3, he3, hz3, hd3⟩ := fl3.there
    have notFr : ∀ {h : Heap} {o : Obj} {vs : Array Value}, h.FunFrames B (X.env :: X.outer) → h.get? a = some o → o.data = .fields vs → a ∉ frs (X.env :: X.outer) := fun {h o vs} ff e dd hm => by
      obtain ⟨_, o', e', hnf⟩ := ff.mem hm
      rw [e] at e'; cases e'
      exact hnf _ dd
    have nfr := notFr fl3.2.2.1 he3 hd3
    have nL : a ≠ X.env.locals := fun z => nfr (List.mem_filterMap.mpr ⟨X.env, List.mem_cons_self, by rw [hf, z]⟩)
    have nI : sI.heap.get? a = none := by
      cases e : sI.heap.get? a with
      | none => rfl
      | some o =>
        have q := nb a o e (by rw [hs]; exact nfr)
        rw [Ba] at q; cases q
    have n0 : X.s_0.heap.get? a = none := by
      cases e : X.s_0.heap.get? a with
      | none => rfl
      | some o =>
        obtain ⟨o', q⟩ := J.base.there a o e (by rw [fr.ex]; simp)
        rw [nI] at q; cases q
    have nP : ∀ p ∈ X.pn ++ pins, p.1 ≠ a := fun p hp z => by
      obtain ⟨e, _⟩ := J.pin p hp
      rw [z, nI] at e; cases e
    have T3 : Inv (X.suite a (X.pn ++ pins)) [] σ' H' { s' with heap := h3 } := J3.suite0 a
    have go : ∀ {hds' : List ExceptHandler} {l' : List (Value × Option Nat × TS)}, HdsT X hds' l' → wTry X.K Wout D l' cls d σ' H' →
        wpAny (model X.prog X.w) X.A (handleBy (.ref a) X.env hds') (SP X pins D) X.xe { s' with heap := h3 } := by
      have LT : PySem.W.Looks (model X.prog X.w) h3 (typeOf (.ref a)) cls := fun A Q E s k q => wpAny_typeOf_ref (k _ _ he3) (by rw [hz3.1]; exact q)
      have test : ∀ {x : Str} {c : Value} {np : Pos}, Names X x c → ∀ {Q : Value → Shared → Prop} {E : Value → Shared → Prop}, Q c { s' with heap := h3 } → wpAny (model X.prog X.w) (X.A.mark (some (.ref a))) (eval (.Name x np) X.env) Q E { s' with heap := h3 } := fun {x c np} hc {Q E} q => by
        obtain ⟨hg, hdbg, hm | ⟨hm, hv, hnn⟩⟩ := hc
        · exact ld_glob (X := X.suite a (X.pn ++ pins)) T3 hg hm q hdbg
        · exact ld_blt (X := X.suite a (X.pn ++ pins)) T3 hg hm hv q hnn hdbg
      have ent : ∀ h4, HandSPX.FlyingZ B (X.env :: X.outer) a (Zc cls d) h4 → h3.UpToSlots h4 → Inv (X.suite a (X.pn ++ pins)) [] σ' (upd H' a (XO cls d a)) { s' with heap := h4 } := fun h4 fl4 up4 => by
        have J4 : Inv X pins σ' H' { s' with heap := h4 } := J.landed nb fl4.1 ((up.trans up3).trans up4) os ag
        obtain ⟨oe4, vs4, he4, hz4, hd4⟩ := fl4.there
        exact (Inv.track J4 n0 he4 hz4 hd4 na nL nP).suite0 a
      intro hds' l' hk
      induction hk with
      | nil =>
        intro w
        refine wpAny_handleBy_nil ?_
        obtain ⟨k1, k2, k3, oe, vs, T, oT, ts', he, hz, hd, h1, hr⟩ := id fl3
        unfold PySem.passOn
        refine wpAny_bind (wpAny_field he hd h1 ?_)
        rw [if_neg (show ¬ ((Value.ref T == Value.none) = true) from by simp)]
        have fin : wpAny (model X.prog X.w) X.A (setFlight (.ref a) X.env.frame) (fun _ s4 => wpAny (model X.prog X.w) X.A (throw (.ref a) : Sem Flow) (SP X pins D) X.xe s4) X.xe { s' with heap := h3 } := by
          rw [hf]
          refine HandSPX.setFlight_upZ fl3 fun h4 hh4 up4 => wpAny_throw (tk _ _ ?_)
          exact ⟨a, B, sI, pins, σ', H', cls, d, rfl, J, nb, (up.trans up3).trans up4, .inr (.inr (by rw [hs]; exact hh4)), na, os, ag, w⟩
        first
          | exact wpAny_bind (wpAny_pure (wpAny_bind fin))
          | exact wpAny_bind fin
      | @one x c ts b₀ suite np pos' hds2 l2 hc hsu r ih =>
        intro w
        obtain ⟨b, hb1, hyes, hno⟩ := w
        refine wpAny_handleBy_cons (codeAny_handlers_test ?_) (by intro q; cases q)
        have LM := PySem.W.exm_one (M := model X.prog X.w) (J3.kIn) LT hb1
        refine test hc (LM.here ?_)
        cases b with
        | true =>
          refine codeAny_handlers_suite ?_
          refine HandSPX.lands_againZ fl3 fun h4 fl4 up4 => ?_
          refine wpAny_mono ((hsu a (X.pn ++ pins)).run [] _ _ _ _ (ent h4 fl4 up4) (hyes rfl a na)) (fun f s6 hsp => ?_) (fun _ _ z => False.elim z)
          cases f with
          | next =>
            obtain ⟨σ6, H6, S6, q6⟩ := hsp
            exact ⟨_, _, S6.unsuite0 ok, q6⟩
          | brk =>
            obtain ⟨σ6, H6, S6, q6⟩ := hsp
            exact ⟨_, _, S6.unsuite0 ok, q6⟩
          | cont =>
            obtain ⟨σ6, H6, S6, q6⟩ := hsp
            exact ⟨_, _, S6.unsuite0 ok, q6⟩
          | ret u =>
            obtain ⟨v6, σ6, H6, S6, r6, q6⟩ := hsp
            exact ⟨_, _, _, S6.unsuite0 ok, r6, q6⟩
        | false =>
          show wpAny _ X.A (handleBy (.ref a) X.env hds2) _ _ _
          exact ih (hno rfl)
      | @as_ x n i c ts b₀ suite np pos' hds2 l2 hc hi hln hsu r ih =>
        intro w
        obtain ⟨b, hb1, hyes, hno⟩ := w
        have hloc : Loc X.env.scope n := .inl hln
        refine wpAny_handleBy_cons (codeAny_handlers_test ?_) (by intro q; cases q)
        have LM := PySem.W.exm_one (M := model X.prog X.w) (J3.kIn) LT hb1
        refine test hc (LM.here ?_)
        cases b with
        | true =>
          refine codeAny_handlers_suite_as ?_
          refine HandSPX.lands_againZ fl3 fun h4 fl4 up4 => ?_
          refine L2.store_ok (X := X.suite a (X.pn ++ pins)) (v := .ref a) (ent h4 fl4 up4) hN hi hloc rfl (fun s5 S5 => ?_) (.inr hln)
          refine wpAny_mono ((hsu a (X.pn ++ pins)).run [] s5 _ _ _ S5 (hyes rfl a na)) (fun f s6 hsp => ?_) (fun _ _ z => False.elim z)
          have end_ : ∀ {σ6 : L2.St} {H6 : Hp} {Q : Shared → Prop}, Inv (X.suite a (X.pn ++ pins)) [] σ6 H6 s6 → (∀ s7, Inv X pins (σ6.set i none) H6 s7 → Q s7) →
              wpAny (model X.prog X.w) X.A (do bindName X.env n .none; unbindBehindTheSuite X.env n pos') (fun _ s7 => Q s7) X.xe s6 := fun {σ6 H6 Q} S6 hq => gone_ok (S6.unsuite0 ok) hN hi hln hq
          cases f with
          | next =>
            obtain ⟨σ6, H6, S6, q6⟩ := hsp
            exact end_ S6 fun s7 J7 => ⟨_, _, J7, q6⟩
          | brk =>
            obtain ⟨σ6, H6, S6, q6⟩ := hsp
            exact end_ S6 fun s7 J7 => ⟨_, _, J7, q6⟩
          | cont =>
            obtain ⟨σ6, H6, S6, q6⟩ := hsp
            exact end_ S6 fun s7 J7 => ⟨_, _, J7, q6⟩
          | ret u =>
            obtain ⟨v6, σ6, H6, S6, r6, q6⟩ := hsp
            exact end_ S6 fun s7 J7 => ⟨_, _, _, J7, r6, q6⟩
        | false =>
          show wpAny _ X.A (handleBy (.ref a) X.env hds2) _ _ _
          exact ih (hno rfl)
    exact go hh w
  · cases f with
    | next =>
      obtain ⟨σ', H', J', q⟩ := hsp
      exact wpAny_execs_nil ⟨σ', H', J'.ofTry ok, q⟩
    | brk =>
      obtain ⟨σ', H', J', q⟩ := hsp
      exact ⟨σ', H', J'.ofTry ok, q⟩
    | cont =>
      obtain ⟨σ', H', J', q⟩ := hsp
      exact ⟨σ', H', J'.ofTry ok, q⟩
    | ret u =>
      obtain ⟨v, σ', H', J', r, q⟩ := hsp
      exact ⟨v, σ', H', J'.ofTry ok, r, q⟩
end
end PVS

set_option maxHeartbeats 1000000
/-! PVS: exceptions: their classes, isinstance, fields, making and raising them. -/
namespace PVS
open PySem PySem.Spec PyProof.Rows L2 TL PVL
/-- what is asked of an exception's class -/
structure XcT (K : PySem.W.Frag) (C : Addr) : Prop where
  cl : (PySem.W.clsIn K C).isSome = true
  ga : PySem.W.findIn K (.ref C) "__getattribute__" = some (some (.builtin "BaseException.__getattribute__"))
  gg : PySem.W.findIn K (.ref C) "__getattr__" = some none
  ex : PySem.W.subIn K (.ref C) (.type "BaseException") = some true
  ha : PySem.W.findIn K (.ref C) "__class__" = some (some (.builtin "object.__class__"))
  hn : PySem.W.specialIn K (.builtin "object.__class__") "__get__" = some (some (.builtin "getset_descriptor.__get__"))
  tk : PySem.W.takesIn K (.builtin "object.__class__") = some true
  hm : PySem.W.mroIn K C (.type "object") = some true
  hd : PySem.W.hasDictIn K C = true
def xcTB (K : PySem.W.Frag) (C : Addr) : Bool :=
  (PySem.W.clsIn K C).isSome && (decide (PySem.W.findIn K (.ref C) "__getattribute__" = some (some (.builtin "BaseException.__getattribute__"))) && (decide (PySem.W.findIn K (.ref C) "__getattr__" = some none) &&
    (decide (PySem.W.subIn K (.ref C) (.type "BaseException") = some true) && (decide (PySem.W.findIn K (.ref C) "__class__" = some (some (.builtin "object.__class__"))) &&
    (decide (PySem.W.specialIn K (.builtin "object.__class__") "__get__" = some (some (.builtin "getset_descriptor.__get__"))) && (decide (PySem.W.takesIn K (.builtin "object.__class__") = some true) &&
    (decide (PySem.W.mroIn K C (.type "object") = some true) && PySem.W.hasDictIn K C)))))))
theorem xcTB_ok {K : PySem.W.Frag} {C : Addr} (h : xcTB K C = true) : XcT K C := by
  unfold xcTB at h
  simp only [Bool.and_eq_true, decide_eq_true_eq] at h
  obtain ⟨h1, h2, h3, h4, h5, h6, h7, h8, h9⟩ := h
  exact ⟨h1, h2, h3, h4, h5, h6, h7, h8, h9⟩
/-! ### isinstance -/
inductive XTy (K : PySem.W.Frag) (H : Hp) : V → Value → Prop
  | old {x : V} {t : Value} : TyX K H x t → XTy K H x t
  | exc {a C : Addr} {d : Option Addr} : H a = some (XO (.ref C) d a) → XcT K C → (∀ dx, d = some dx → ∃ fs, H dx = some (.xd fs)) → XTy K H (.ref a) (.ref C)
def rIsX (K : PySem.W.Frag) : List V → Hp → VK → Prop := fun xs H Q => ∃ (x c : V) (t u : Value) (b : Bool), xs = [x, c] ∧ ClsV c u ∧ XTy K H x t ∧ PySem.W.kitOne K t u = some b ∧ Q (.bl b) H
theorem xo_inst {P : Program} {w : World} {H : Hp} {h : Heap} {a C : Addr} {d : Option Addr} (hok : HOk P w H h) (ha : H a = some (XO (.ref C) d a)) (hd : ∀ dx, d = some dx → ∃ fs, H dx = some (.xd fs)) : ∃ ox od, PySem.W.InstAt h a ox C od := by
  obtain ⟨oe, vs, ho, hz, hdat⟩ := xo_at hok ha
  cases d with
  | none => exact ⟨oe, none, ho, hz.1, by unfold PySem.W.notCls; rw [hdat] <;> rfl, by rw [hz.2]; trivial⟩
  | some dx =>
    obtain ⟨fs, hfs⟩ := hd dx rfl
    obtain ⟨od, ho2⟩ := objOk_get (hok dx _ hfs)
    exact ⟨oe, some od, ho, hz.1, by unfold PySem.W.notCls; rw [hdat] <;> rfl, by rw [hz.2]; exact ho2⟩
theorem call_isiX {X : Cx} : CallR X (.builtin "isinstance") (rIsX X.K) := by
  intro pins s σ H xs us Q I r h
  obtain ⟨x, c, t, u, b, rfl, k, ty, e, q⟩ := h
  obtain ⟨u1, u2, rfl, r1, r2⟩ := vals2 r
  have e2 := k.eq r2
  subst e2
  cases ty with
  | old ty =>
    obtain ⟨P, Z, p, hx⟩ := kit_of I r1 ty
    exact PySem.W.kia_one Z I.kIn p e hx fun tk => ⟨.bl b, H, I.tok tk, rfl, q⟩
  | @exc a C d ha T hd =>
    obtain rfl : u1 = Value.ref a := r1
    obtain ⟨ox, od, J⟩ := xo_inst I.hok ha hd
    exact PySem.W.kia_one (PySem.W.kitx_exc T.cl T.ga T.gg T.ex T.ha T.hn T.tk T.hm) I.kIn J e (fun z => nomatch z) fun tk => ⟨.bl b, H, I.tok tk, rfl, q⟩
def noBltV (K : PySem.W.Frag) (u : Value) : Bool := bltns.all fun n => decide (PySem.W.kitOne K (.type n) u = some false)
/-- isinstance's answers for the exceptions of a law -/
structure XisOk (G : GS) (K : PySem.W.Frag) (u : Value) (cs : List Nat) : Prop where
  nb : noBltV K u = true
  xc : ∀ c, c < G.xn → XcT K (G.xcl c)
  ki : ∀ c, c < G.xn → PySem.W.kitOne K (.ref (G.xcl c)) u = some (cs.contains c)
section
variable {X : Cx} {G : GS} {W : WX}
theorem exc_false {ω : PVL.Store} {x : PV} {b : Bool} {cs : List Nat} (hx : ∀ c xs, x ≠ .exc c xs) (e : isTy ω x (.exc cs) = some b) : b = false ∧ ∃ n, tyN x = some n := by
  cases x with
  | obj n => simp [isTy] at e
  | exc c xs => exact absurd rfl (hx c xs)
  | dic kvs =>
    simp only [isTy] at e
    split at e
    · rename_i hf
      cases e
      exact ⟨rfl, _, if_pos hf⟩
    · cases e
  | _ => simp only [isTy, Option.some.injEq] at e; exact ⟨e.symm, _, rfl⟩
theorem RV.xty {Z H : Hp} {ι : List (Addr × Addr)} (sz : Sub Z H) {K : PySem.W.Frag} (xc : ∀ c, c < G.xn → XcT K (G.xcl c)) {v : V} {c : Nat} {xs : List PV} (h : RV G Z ι v (.exc c xs)) : c < G.xn ∧ XTy K H v (.ref (G.xcl c)) := by
  cases h with
  | exc0 h hc hf => exact ⟨hc, .exc (Sub.xo sz h) (xc _ hc) fun _ z => nomatch z⟩
  | exc h hc hd r hl => exact ⟨hc, .exc (Sub.xo sz h) (xc _ hc) fun dx z => by cases z; exact ⟨_, Sub.xd sz hd⟩⟩
theorem se_instX {a : Expr} {x T : Str} {ia : E} {cs : List Nat} {c : V} {u : Value} {p pt pos : Pos} (hg : Gl X x) (hm : X.mg x = none) (hv : bootBuiltins x = some (.builtin "isinstance")) (hn : x ≠ "__name__") (hdb : (x == ("__debug__" : Str)) = false) (ha : PE X a (tE G W ia))
    (hu : ClsV c u) (hT : PE X (.Name T pt) (tC c)) (M : XisOk G X.K u cs)
    (hs : starEach [a, .Name T pt] X.env = (false, eval a X.env) :: starEach [.Name T pt] X.env) : PE X (.Call (.Name x p) [a, .Name T pt] [] pos) (tE G W (.inst ia [.exc cs])) := by
  refine PE.imp (pe_callB call_isiX hg hm hv (pa_cons ha (pa_cons hT pa_nil rfl) hs) hn hdb hs rfl) fun σ H Q h => ?_
  obtain ⟨Z, B, ι, ω, ρ, S, h⟩ := h
  unfold ev at h
  refine tE.next S h.bind fun y ω1 h1 v H1 Z1 ι1 E1 S1 l1 _ p1 => ?_
  unfold liftB at h1
  cases e : isTy ω1 y.1 (.exc cs) with
  | none => simp only [List.foldr, Option.bind_some, e, Option.map_none] at h1; exact h1.elim
  | some b =>
    simp only [List.foldr, Option.bind_some, e, Option.map_some, Bool.or_false] at h1
    by_cases ho : ∃ n xs, y.1 = .exc n xs
    · obtain ⟨n, xs, eo⟩ := ho
      rw [eo] at e l1
      have q : RV G Z1 ι1 v (.exc n xs) := l1.rh S1
      obtain ⟨hc, ty⟩ := RV.xty S1.zH M.xc q
      cases e
      exact ⟨v, c, _, u, _, rfl, hu, ty, M.ki _ hc, h1 _ H1 Z1 ι1 E1 S1 (RV.bl _) (.no rfl)⟩
    · obtain ⟨rfl, n, en⟩ := exc_false (fun n xs z => ho ⟨n, xs, z⟩) e
      have q : PySem.W.kitOne X.K (.type n) u = some false := of_decide_eq_true (List.all_eq_true.mp M.nb n (tyN_in en))
      exact ⟨v, c, .type n, u, false, rfl, hu, .old ((l1.rh S1).tyx S1.zH en), q, h1 _ H1 Z1 ι1 E1 S1 (RV.bl false) (.no rfl)⟩
/-! ### a field -/
def tXv (K : PySem.W.Frag) (n : Str) (te : TE) : TE := fun σ H Q => te σ H fun x H1 => ∃ a C dd fs v, x = .ref a ∧ H1 a = some (XO (.ref C) (some dd) a) ∧ XcT K C ∧ PySem.W.findIn K (.ref C) n = some none ∧ H1 dd = some (.xd fs) ∧ fs.lookup n = some v ∧ Q v H1
theorem pe_xv {e : Expr} {te : TE} {pos : Pos} {n : Str} (he : PE X e te) (hb : attributeBase e n X.env (eval e X.env) = eval e X.env) : PE X (.Attribute e n pos) (tXv X.K n te) := by
  refine ⟨fun pins s σ H Q I h => ?_⟩
  refine attr_of hb (thn (he.run pins s σ H _ I h) fun u s1 hh => ?_)
  obtain ⟨x, H1, I1, rx, a, C, dd, fs, v, ex, ha, T, hno, ea, l, q⟩ := hh
  subst ex
  obtain rfl : u = Value.ref a := rx
  obtain ⟨oe, vs, ho, hz, hdat⟩ := xo_at I1.hok ha
  have hx : ObjOk X.prog X.w H1 s1.heap dd (.xd fs) := I1.hok dd _ ea
  obtain ⟨mA, hns, hr⟩ := hx
  obtain ⟨od, hod, hl⟩ := lookIn_ns hns
  obtain ⟨u, hu, ru⟩ := RelO.some_of (v := v) (o := mA n) (by rw [← l]; exact hr n)
  have J : PySem.W.InstAt s1.heap a oe C (some od) := ⟨ho, hz.1, by unfold PySem.W.notCls; rw [hdat] <;> rfl, by rw [hz.2]; exact hod⟩
  exact HandSPX.exc_get I1.kIn J T.ga T.gg T.ex (PySem.W.findObj_own T.hd hno rfl (by rw [hl, hu])) (handed_of ru) ⟨v, H1, I1.tok _, ru, q⟩
theorem lookup_of {α : Type} {k : Str} {v : α} : ∀ {l : List (Str × α)}, (k, v) ∈ l → (∀ v', (k, v') ∈ l → v' = v) → l.lookup k = some v
  | [], h, _ => by cases h
  | (k', v') :: l, h, u => by
    by_cases e : k = k'
    · subst e
      rw [u v' (List.mem_cons_self ..)]
      simp [List.lookup_cons]
    · have e2 : (k == k') = false := by simpa using e
      rw [List.lookup_cons, e2]
      refine lookup_of ?_ fun v2 h2 => u v2 (List.mem_cons_of_mem _ h2)
      rcases List.mem_cons.mp h with h | h
      · cases h; exact absurd rfl e
      · exact h
theorem zip_rev_lookup {α : Type} {ns : List Str} {vs : List α} {j : Nat} {n : Str} {v : α} (nd : ns.Nodup) (h1 : ns[j]? = some n) (h2 : vs[j]? = some v) : ((ns.zip vs).reverse).lookup n = some v := by
  refine lookup_of (List.mem_reverse.mpr (List.mem_of_getElem? (i := j) ?_)) fun v' h => ?_
  · rw [List.getElem?_zip_eq_some]; exact ⟨h1, h2⟩
  · obtain ⟨i, hi⟩ := List.mem_iff_getElem?.mp (List.mem_reverse.mp h)
    rw [List.getElem?_zip_eq_some] at hi
    have e : i = j := nodup_ix nd hi.1 h1
    subst e
    have q := hi.2
    rw [h2] at q
    exact (Option.some.inj q).symm
structure XfOk (G : GS) (K : PySem.W.Frag) (nm : Str) (tb : List (Nat × Nat)) : Prop where
  ok : ∀ c j, tb.lookup c = some j → (G.xfs c)[j]? = some nm ∧ (G.xfs c).Nodup ∧ XcT K (G.xcl c) ∧ PySem.W.findIn K (.ref (G.xcl c)) nm = some none
theorem se_xfld {o : Expr} {io : E} {nm : Str} {tb : List (Nat × Nat)} {pos : Pos} (M : XfOk G X.K nm tb) (ho : PE X o (tE G W io)) (hb : attributeBase o nm X.env (eval o X.env) = eval o X.env) : PE X (.Attribute o nm pos) (tE G W (.xfld tb io)) := by
  refine PE.imp (pe_xv ho hb) fun σ H Q h => ?_
  obtain ⟨Z, B, ι, ω, ρ, S, h⟩ := h
  unfold ev at h
  refine tE.next S h.bind fun y ω1 h1 v H1 Z1 ι1 E1 S1 l1 _ p1 => ?_
  unfold xfV at h1
  cases ey : y.1 with
  | exc c xs =>
    rw [ey] at h1 l1
    have q : RV G Z1 ι1 v (.exc c xs) := l1.rh S1
    dsimp only at h1
    cases et : tb.lookup c with
    | none => rw [et] at h1; exact h1.elim
    | some j =>
      rw [et] at h1
      dsimp only [Option.bind_some] at h1
      cases ex : xs[j]? with
      | none => rw [ex] at h1; exact h1.elim
      | some z =>
        rw [ex] at h1
        obtain ⟨m1, m2, m3, m4⟩ := M.ok c j et
        cases q with
        | exc0 h hc hf => simp at ex
        | @exc a dx _ vs _ h hc hd r hl =>
          obtain ⟨u, hu, ru⟩ := r.get ex
          refine ⟨a, _, dx, _, u, rfl, Sub.xo S1.zH h, m3, m4, Sub.xd S1.zH hd, zip_rev_lookup m2 m1 hu, h1 u H1 Z1 ι1 E1 S1 ?_ (.no rfl)⟩
          unfold mk
          split
          · exact ru
          · exact ru
  | _ => rw [ey] at h1; exact h1.elim
/-! ### raise -/
theorem sp_rais0 {c : Nat} {x m : Str} {j : Nat} {p p2 pos pos2 : Pos} (hc : X.calm = true) (tk : Takes X W) (gC : X.mg x = some (.ref (G.xcl c))) (xc : c < G.xn) (xf : G.xfs c = []) (q : PySem.W.excIn X.K (G.xcl c) He.veBase "ValueError.__new__" = true) (kC : PySem.W.keepIn X.K (.ref (G.xcl c)) = true)
    (r : Raises X (.ref (G.xcl c))) (hg : Gl X x) (hdb : (x == ("__debug__" : Str)) = false) : PS X (.Raise (some (.Call (.Name x p) [.Constant (.str m) j p2] [] pos)) none pos2) (tS G W (.rais (.mkx c .nil))) := by
  refine PS.imp (ps_raise hc tk (pmk_own PySem.F.excBase_ValueError q gC kC r hg hdb)) fun D σ H h => ?_
  obtain ⟨Z, B, ι, ω, ρ, S, h⟩ := h
  unfold ex ev evK at h
  exact h _ none H Z ι σ Ext.refl S ⟨xc, rfl, .inl ⟨xf, rfl, rfl⟩⟩
/-- what is asked of a class's __init__ -/
def spXi (K : PySem.W.Frag) (C : Addr) (fs : List Str) : Sp := fun vs H Q _ => ∃ (a : Addr) (ws : List V), vs = .ref a :: ws ∧ ws.length = fs.length ∧ OexC K C ∧ (∀ f ∈ fs, PySem.W.findIn K (.ref C) f = some none) ∧ H a = some (exo a C none) ∧
  ∀ dx H2, H dx = none → dx ≠ a → H2 a = some (exo a C (some dx)) → H2 dx = some (exd dx (fs.zip ws).reverse) → (∀ b, b ≠ a → b ≠ dx → H2 b = H b) → Q .non H2
structure X1Ok (G : GS) (P : Program) (w : World) (K : PySem.W.Frag) (mg : Str → Option Value) (base : Heap) (k c : Nat) (x : Str) : Prop where
  gC : mg x = some (.ref (G.xcl c))
  xc : c < G.xn
  T : OexC K (G.xcl c)
  no : ∀ f ∈ G.xfs c, PySem.W.findIn K (.ref (G.xcl c)) f = some none
  ex : ∃ (f : Addr) (fd : FuncData) (ps : List Str), PySem.W.findIn K (.ref (G.xcl c)) "__init__" = some (some (.ref f)) ∧ PySem.W.typeIn K (.ref f) = some (.type "function") ∧ FnOk P w K mg base (L2.CX P w) k f fd ps (spXi K (G.xcl c) (G.xfs c)) ∧ Binds K fd ps [] ∧ ps.length = (G.xfs c).length + 1
/-- what the making leaves -/
theorem x1_read {c : Nat} {ies : Es} {ta : TA} {σ : L2.St} {H : Hp} {Q : Nat → List PV → PVL.Store → XK} {K : PySem.W.Frag} (hta : ta = tK G W ies) (T : OexC K (G.xcl c)) (xc : c < G.xn) (no : ∀ f ∈ G.xfs c, PySem.W.findIn K (.ref (G.xcl c)) f = some none) (hl : esLen ies = (G.xfs c).length) (hl2 : (G.xfs c).length ≤ 1000) (R : XK)
    {Z B : Hp} {ι : List (Addr × Addr)} {ω : PVL.Store} {ρ : PVL.Env} (S : Sim G Z B H ι ω ρ σ)
    (h : RP (evK ies ρ ω) (fun xs ω' => ∀ cls d H' Z' ι', Ext Z Z' (PO B ρ σ) ι ι' H H' → Sim G Z' B H' ι' ω' ρ σ → XR G Z' ι' c xs cls d → R cls d H') (QX G W Z B H ι ρ σ)) : tMkO (G.xcl c) (spXi K (G.xcl c) (G.xfs c)) [] ta σ H R := by
  subst hta
  refine ⟨Z, B, ι, ω, ρ, S, h.len.mono (fun xs ω1 h1 vs H1 Z1 ι1 E1 S1 r p1 => ?_) fun _ _ _ q => q⟩
  obtain ⟨h1, h2⟩ := h1
  have hlv : vs.length = (G.xfs c).length := by rw [r.len, h2, hl]
  refine ⟨by omega, fun a ha => ⟨a, vs, by rw [List.append_nil], hlv, T, no, upd_same, fun dx H2 hdx dne e1 e2 e3 => ⟨rfl, dx, _, e1, e2, ?_, ?_⟩⟩⟩
  · rw [upd_ne dne] at hdx; exact hdx
  · have hdx1 : H1 dx = none := by rw [upd_ne dne] at hdx; exact hdx
    have eq : upd (del H2 a) dx (.xd ((G.xfs c).zip vs).reverse) = upd H1 dx (.xd ((G.xfs c).zip vs).reverse) := by
      funext b
      by_cases hb : b = dx
      · rw [hb, upd_same, upd_same]
      · rw [upd_ne hb, upd_ne hb]
        by_cases hba : b = a
        · rw [hba, del_same, ha]
        · rw [del_ne hba, e3 b hba hb, upd_ne hba]
    rw [eq]
    have S2 := S1.lay (.xd ((G.xfs c).zip vs).reverse) hdx1
    have E2 := Ext.lay S1 (.xd ((G.xfs c).zip vs).reverse) hdx1
    have S3 := S2.fzN (p := dx) (o := .xd ((G.xfs c).zip vs).reverse) (fun _ z => by cases z) upd_same (S1.zn hdx1) (S1.bn hdx1) fun k q => by
      obtain ⟨u, hu, pl⟩ := S2.owPl q
      rw [upd_same] at hu
      cases hu
      exact S1.notOw hdx1 k ((owA_congr fun n b dx' e => by
        obtain ⟨r', fs', _, q', _⟩ := S1.inst e
        rw [upd_ne (ne_of_none q' hdx1)]).mp q)
    have E3 : Ext Z1 (upd Z1 dx (.xd ((G.xfs c).zip vs).reverse)) (PO B ρ σ) ι1 ι1 H1 (upd H1 dx (.xd ((G.xfs c).zip vs).reverse)) := E2.trans (Ext.fz (S1.zn hdx1))
    exact h1 _ _ _ _ ι1 (E1.trans E3) S3 ⟨xc, rfl, .inr ⟨dx, vs, rfl, upd_same, r.mono E3.z E3.i, by rw [h2, hl]⟩⟩
theorem sp_rais1 {c k : Nat} {x : Str} {e : Expr} {es : List Expr} {ies : Es} {p pos pos2 : Pos} (hc : X.calm = true) (tk : Takes X W) (M : X1Ok G X.prog X.w X.K X.mg X.base k c x) (hr : Room (k + 1) X.A) (hg : Gl X x) (hdb : (x == ("__debug__" : Str)) = false) (ha : PA X (e :: es) (tK G W ies))
    (hl : esLen ies = (G.xfs c).length) (hl2 : (G.xfs c).length ≤ 1000) (he : starEach (e :: es) X.env = (false, eval e X.env) :: starEach es X.env) (hpl : (backTo pos (starEach es X.env)).any (·.1) = false) :
    PS X (.Raise (some (.Call (.Name x p) (e :: es) [] pos)) none pos2) (tS G W (.rais (.mkx c ies))) := by
  obtain ⟨f, fd, ps, iC, tI, F, hb, hps⟩ := M.ex
  refine PS.imp (ps_raise hc tk (pmk_oex M.T iC tI F hr hb .nil passL hg M.gC ha hdb he hpl)) fun D σ H h => ?_
  obtain ⟨Z, B, ι, ω, ρ, S, h⟩ := h
  unfold ex ev at h
  refine x1_read (Q := fun _ _ _ _ _ _ => True) rfl M.T M.xc M.no hl hl2 _ S (h.to.bind.mono (fun xs ω' h1 cls d H' Z' ι' E' S' x' => ?_) fun _ _ _ q => q)
  exact h1 cls d H' Z' ι' σ E'.pb S' x'
end
end PVS

set_option maxHeartbeats 1000000
/-! PVS: a def as a whole; the law's end. -/
namespace PVS
open PySem PySem.Spec PyProof.Rows L2 TL PVL
/-- a look at a def's names: N its local names, gs the global ones that it reads -/
def nmC (N gs : List Str) (sc : Scope) : Bool :=
  N.all (fun x => (decide (sc.names.lookup x = some .local) || decide (sc.names.lookup x = some .cell)) && !(x == ("__debug__" : Str)) && !(x == ("__classdict__" : Str))) &&
  gs.all (fun x => decide (sc.names.lookup x = some .globalImplicit) && !(x == ("__debug__" : Str)) && !decide (x = "__name__"))
theorem swap_ok {x y : Str} {px py pt pt2 : Pos} {kt k2 : Nat} {a b : Expr} {env : PySem.Env} (hb : env.blockKind = .function) (hx : env.kindOf x = some .local) (hy : env.kindOf y = some .local) (hxy : (x == y) = false) (hl : (py.line == px.line) = true)
   (hst : ([a, b].any fun | .Starred .. => true | _ => false) = false) (hf : [a, b].all (foldedForSure 8) = false) (hca : [a, b].all (constantsAlone 8) = false) :
   swappedStores [.Tuple [.Name x px, .Name y py] kt pt] (.Tuple [a, b] k2 pt2) env = pure (some [x, y]) := by
  have hyx : (y == x) = false := by
    cases h : (y == x) with
    | false => rfl
    | true => rw [eq_of_beq h] at hxy; simp at hxy
  have he : [x, y].eraseDups = [x, y] := by simp [List.eraseDups_cons, hxy, hyx]
  unfold swappedStores
  simp only [List.length_cons, List.length_nil, hb]
  simp only [hst, hf, hca, hx, hy, List.filterMap_cons, List.head?_cons, Option.map_some, Expr.pos, Option.getD_some, hl, beq_self_eq_true, Bool.and_self, if_true, List.filterMap_nil, he]
  refine (if_neg (by decide)).trans ((if_neg fun z => ?_).trans ((if_neg (by simp)).trans rfl))
  exact absurd (z.symm.trans hst) (by simp)
/-- within a body, an except suite -/
structure Bs (G : GS) (W : WX) (N vs ls gs : List Str) (X : Cx) : Prop where
  K : G.K = X.K
  u : X.A.units + 64 < cLine
  p : PassesOwn (model X.prog X.w) X.A X.env X.xe
  t : Takes X W
  eN : X.N = N
  sk : X.env.scope.kind = .function
  nd : N.Nodup
  vi : ∀ x ∈ vs, Vis X.env.scope x ∧ (x == ("__debug__" : Str)) = false ∧ (x == ("__classdict__" : Str)) = false
  lo : ∀ x ∈ ls, Loc X.env.scope x ∧ (X.fn x = true ∨ X.env.scope.names.lookup x = some .local)
  gl : ∀ x ∈ gs, Gl X x ∧ (x == ("__debug__" : Str)) = false ∧ x ≠ "__name__"
/-- within a body -/
structure Bd (G : GS) (W : WX) (N vs ls gs : List Str) (k : Nat) (X : Cx) : Prop extends Bs G W N vs ls gs X where
  c : X.calm = true
  r : Room k X.A
section
variable {G : GS} {W : WX} {N vs ls gs : List Str} {k : Nat} {X : Cx}
theorem Bs.nd' (h : Bs G W N vs ls gs X) : X.N.Nodup := h.eN ▸ h.nd
theorem Bs.at (h : Bs G W N vs ls gs X) {i : Nat} {x : Str} (e : N[i]? = some x) : X.N[i]? = some x := by rw [h.eN]; exact e
theorem Bs.vis (h : Bs G W N vs ls gs X) {j : Nat} {x : Str} (e : vs[j]? = some x) : Vis X.env.scope x := (h.vi x (List.mem_of_getElem? e)).1
theorem Bs.db (h : Bs G W N vs ls gs X) {j : Nat} {x : Str} (e : vs[j]? = some x) : (x == ("__debug__" : Str)) = false := (h.vi x (List.mem_of_getElem? e)).2.1
theorem Bs.cd (h : Bs G W N vs ls gs X) {j : Nat} {x : Str} (e : vs[j]? = some x) : (x == ("__classdict__" : Str)) = false := (h.vi x (List.mem_of_getElem? e)).2.2
theorem Bs.lc (h : Bs G W N vs ls gs X) {j : Nat} {x : Str} (e : ls[j]? = some x) : Loc X.env.scope x := (h.lo x (List.mem_of_getElem? e)).1
theorem Bs.fl (h : Bs G W N vs ls gs X) {j : Nat} {x : Str} (e : ls[j]? = some x) : X.fn x = true ∨ X.env.scope.names.lookup x = some .local := (h.lo x (List.mem_of_getElem? e)).2
theorem Bs.v (h : Bs G W N vs ls gs X) {i j : Nat} {x : Str} {pos : Pos} (e : N[i]? = some x) (ej : vs[j]? = some x) : PE X (.Name x pos) (tE G W (.var i)) :=
  se_var (h.at e) (h.vis ej) (h.db ej) (h.cd ej)
theorem Bs.pl (h : Bs G W N vs ls gs X) {i j : Nat} {x : Str} {pos : Pos} (e : N[i]? = some x) (ej : vs[j]? = some x) : PlR X G (.var i) (.Name x pos) :=
  pl_var (h.at e) (h.vis ej) (h.db ej) (h.cd ej)
theorem Bs.set (h : Bs G W N vs ls gs X) {i j : Nat} {x : Str} {e : Expr} {ie : E} {pos pos' : Pos} (ei : N[i]? = some x) (ej : ls[j]? = some x) (he : PE X e (tE G W ie)) (hs : swapsWith e (some (.Name x pos')) pos.line X.env = pure false) : PS X (.Assign [.Name x pos'] e pos) (tS G W (.set i ie)) :=
  sp_set h.nd' (h.at ei) (h.lc ej) he hs (h.fl ej)
theorem Bs.aug (h : Bs G W N vs ls gs X) {i j : Nat} {x : Str} {e : Expr} {ie : E} {op : Operator} {bop : BOp} {pos' pos : Pos} (ei : N[i]? = some x) (ej : ls[j]? = some x) (he : PE X e (tE G W ie)) (ho : PIp X op (ipA G (augV bop))) : PS X (.AugAssign (.Name x pos') op e pos) (tS G W (.aug i bop ie)) :=
  sp_aug h.nd' (h.at ei) (h.lc ej) he ho (h.fl ej)
theorem Bs.retV (h : Bs G W N vs ls gs X) {i j : Nat} {x : Str} {p pos : Pos} (e : N[i]? = some x) (ej : vs[j]? = some x) : PS X (.Return (some (.Name x p)) pos) (tS G W (.retV i)) :=
  sp_retV (h.at e) (h.vis ej) (h.db ej) (h.cd ej)
theorem Bs.tg (h : Bs G W N vs ls gs X) {i j : Nat} {x : Str} {pos : Pos} (e : N[i]? = some x) (ej : ls[j]? = some x) : TgOk X G (.Name x pos) [i] := tg_name h.nd' (h.at e) (h.lc ej) (h.fl ej)
theorem Bs.tgs (h : Bs G W N vs ls gs X) {i j : Nat} {x : Str} {pos : Pos} {es : List Expr} {is : List Nat} (e : N[i]? = some x) (ej : ls[j]? = some x) (t : TgsOk X G es is) (hs : (assignEach (.Name x pos :: es) X.env).map (·.2) = assign (.Name x pos) X.env :: (assignEach es X.env).map (·.2)) : TgsOk X G (.Name x pos :: es) (i :: is) :=
  tgs_cons h.nd' (h.at e) (h.lc ej) (h.fl ej) t hs
theorem Bd.tgt (h : Bd G W N vs ls gs k X) {es : List Expr} {is : List Nat} {j : Nat} {pos : Pos} (t : TgsOk X G es is) (hl : 2 ≤ is.length) (hn : (assignEach es X.env).length = is.length) (hst : (assignEach es X.env).findIdx? (·.1) = none) : TgOk X G (.Tuple es j pos) is := tg_tup h.c t hl hn hst
theorem Bd.par (h : Bd G W N vs ls gs k X) {i j i' j' : Nat} {x y : Str} {a b : Expr} {ia ib : E} {px py pt pos : Pos} {kt k2 pt2} (hi : N[i]? = some x) (hj : N[j]? = some y) (hij : i ≠ j) (hx : X.env.scope.names.lookup x = some .local) (hy : X.env.scope.names.lookup y = some .local)
    (ha : PE X a (tE G W ia)) (hb : PE X b (tE G W ib)) (hs1 : starEach [a, b] X.env = (false, eval a X.env) :: starEach [b] X.env) (hs2 : starEach [b] X.env = [(false, eval b X.env)]) (hxy : (x == y) = false) (hl : (py.line == px.line) = true)
    (hst : ([a, b].any fun | .Starred .. => true | _ => false) = false) (hf : [a, b].all (foldedForSure 8) = false) (hca : [a, b].all (constantsAlone 8) = false) :
    PS X (.Assign [.Tuple [.Name x px, .Name y py] kt pt] (.Tuple [a, b] k2 pt2) pos) (tS G W (.par i j ia ib)) :=
  sp_par h.c h.nd' (h.at hi) (h.at hj) hij hx hy ha hb hs1 hs2 (swap_ok (by unfold PySem.Env.blockKind; rw [h.sk]; rfl) hx hy hxy hl hst hf hca) rfl
/-! targets of a comprehension -/
def gNames : List Nat → TGs
  | [] => gNil
  | i :: is => gCons (gName i) (gNames is)
def tgG (K : PySem.W.Frag) : List Nat → TG
  | [i] => gName i
  | is => gTup K is.length (gNames is)
theorem Bs.pgn (h : Bs G W N vs ls gs X) {i j : Nat} {x : Str} {pos : Pos} {K : PySem.W.Frag} (e : N[i]? = some x) (ej : ls[j]? = some x) : PG X (.Name x pos) (tgG K [i]) := pg_name h.nd' (h.at e) (h.lc ej) (h.fl ej)
theorem Bs.pgs0 (h : Bs G W N vs ls gs X) : PGs X [] (gNames []) := pgs_nil
theorem Bs.pgs (h : Bs G W N vs ls gs X) {i j : Nat} {x : Str} {pos : Pos} {es : List Expr} {is : List Nat} (e : N[i]? = some x) (ej : ls[j]? = some x) (t : PGs X es (gNames is)) (hs : (assignEach (.Name x pos :: es) X.env).map (·.2) = assign (.Name x pos) X.env :: (assignEach es X.env).map (·.2)) : PGs X (.Name x pos :: es) (gNames (i :: is)) :=
  pgs_cons (pg_name h.nd' (h.at e) (h.lc ej) (h.fl ej)) t hs
theorem Bd.pgt (h : Bd G W N vs ls gs k X) {es : List Expr} {i1 i2 : Nat} {is : List Nat} {j : Nat} {pos : Pos} (t : PGs X es (gNames (i1 :: i2 :: is))) (hn : (assignEach es X.env).length = (i1 :: i2 :: is).length) (hst : (assignEach es X.env).findIdx? (·.1) = none) : PG X (.Tuple es j pos) (tgG X.K (i1 :: i2 :: is)) := pg_tup h.c t hn hst
theorem gNames_read : ∀ (is : List Nat) (Z B H : Hp) (ι : List (Addr × Addr)) (ω : PVL.Store) (ρ : PVL.Env) (σ : L2.St) (vs : List V) (xs : List PV) (Q : L2.St → Hp → Prop),
  Sim G Z B H ι ω ρ σ → RVs G Z ι vs xs → is.length = xs.length → (∀ σ', Sim G Z B H ι ω ((is.zip xs).foldl (fun ρ p => setV ρ p.1 (p.2, .fz)) ρ) σ' → (∀ js, (∀ i ∈ is, i ∈ js) → wipe σ' js = wipe σ js) → Q σ' H) → gNames is vs σ H Q
  | [], Z, B, H, ι, ω, ρ, σ, vs, xs, Q, S, r, hl, k => by
    cases xs with
    | nil => cases r; exact ⟨rfl, k σ S fun _ _ => rfl⟩
    | cons x xs => simp at hl
  | i :: is, Z, B, H, ι, ω, ρ, σ, vs, xs, Q, S, r, hl, k => by
    cases xs with
    | nil => simp at hl
    | cons y xs =>
      cases r with
      | @cons v _ vs _ r rr =>
        refine ⟨v, vs, rfl, ?_⟩
        refine gNames_read is Z B H ι ω (setV ρ i (y, .fz)) (σ.set i (some v)) vs xs Q (S.setS' r) rr (by simpa using hl) fun σ' S' w => ?_
        exact k σ' S' fun js hj => by
          rw [w js fun j hjm => hj j (List.mem_cons_of_mem _ hjm)]
          exact wipe_set (hj i (List.mem_cons_self ..))
theorem tgG_read {K : PySem.W.Frag} (is : List Nat) (hne : is ≠ []) (Z B H : Hp) (ι : List (Addr × Addr)) (ω : PVL.Store) (ρ : PVL.Env) (σ : L2.St) (v : V) (x : PV) (ρ' : PVL.Env) (Q : L2.St → Hp → Prop) (S : Sim G Z B H ι ω ρ σ) (r : RV G Z ι v x) (e : assignT ρ is x = some ρ')
    (k : ∀ σ', Sim G Z B H ι ω ρ' σ' → wipe σ' is = wipe σ is → Q σ' H) : tgG K is v σ H Q := by
  match is, hne, e, k with
  | [i], _, e1, k1 =>
    have e' : ρ' = setV ρ i (x, .fz) := (Option.some.inj e1).symm
    subst e'
    exact k1 _ (S.setS' r) (wipe_set (by simp))
  | i1 :: i2 :: is, _, e1, k1 =>
    have e' : ∃ xs, x = .tup xs ∧ (i1 :: i2 :: is).length = xs.length ∧ ρ' = ((i1 :: i2 :: is).zip xs).foldl (fun ρ p => setV ρ p.1 (p.2, .fz)) ρ := by
      cases x with
      | tup xs =>
        have e2 : (if (i1 :: i2 :: is).length = xs.length then some (((i1 :: i2 :: is).zip xs).foldl (fun ρ p => setV ρ p.1 (p.2, .fz)) ρ) else none) = some ρ' := e1
        split at e2
        · rename_i hxs
          exact ⟨_, rfl, hxs, (Option.some.inj e2).symm⟩
        · cases e2
      | _ => cases e1
    obtain ⟨xs, rfl, hlen, rfl⟩ := e'
    cases r with
    | @tup a vs _ hz rr =>
      refine ⟨a, vs, rfl, SqT.of (S.zH.tup hz), by rw [rr.len, hlen], ?_⟩
      exact gNames_read _ Z B H ι ω ρ σ vs xs Q S rr hlen fun σ' S' w => k1 σ' S' (w _ fun _ h => h)
/-- a look at a block's names -/
def bkC (vs ls gs : List Str) (sc scope : Scope) : Bool :=
  decide ((relS scope sc).kind = .function) &&
  (vs.all fun x => (decide ((relS scope sc).names.lookup x = some .local) || (decide ((relS scope sc).names.lookup x = some .cell) || decide ((relS scope sc).names.lookup x = some .free))) && (!(x == ("__debug__" : Str)) && !(x == ("__classdict__" : Str)))) &&
  (ls.all fun x => decide ((relS scope sc).names.lookup x = some .local) || (decide ((relS scope sc).names.lookup x = some .cell) && (scope.names.lookup x == some .cell))) &&
  (gs.all fun x => decide ((relS scope sc).names.lookup x = some .globalImplicit) && (!(x == ("__debug__" : Str)) && !decide (x = "__name__")))
theorem Bd.blk (h : Bd G W N vs ls gs k X) {sc scope : Scope} (hsc : X.env.scope = sc) {vs' ls' gs' : List Str} (hc : bkC vs' ls' gs' sc scope = true) (s : Shared) (H : Hp) (C : Addr) (cl : List (Str × Addr)) (fp : List Addr) : Bd G WF N vs' ls' gs' k (X.blk s H scope (compEnvC scope cl C X.env) fp) := by
  subst hsc
  unfold bkC at hc
  rw [Bool.and_eq_true, Bool.and_eq_true, Bool.and_eq_true, List.all_eq_true, List.all_eq_true, List.all_eq_true, decide_eq_true_eq] at hc
  obtain ⟨⟨⟨h1, h2⟩, h3⟩, h4⟩ := hc
  refine ⟨⟨h.K, h.u, PassesOwn.never, takes0, h.eN, h1, h.nd, fun x hx => ?_, fun x hx => ?_, fun x hx => ?_⟩, h.c, h.r⟩
  · have q := h2 x hx
    simp only [Bool.and_eq_true, Bool.or_eq_true, decide_eq_true_eq, Bool.not_eq_true'] at q
    exact ⟨q.1, q.2.1, q.2.2⟩
  · have q := h3 x hx
    simp only [Bool.and_eq_true, Bool.or_eq_true, decide_eq_true_eq] at q
    rcases q with q | ⟨q, q2⟩
    · exact ⟨.inl q, .inr q⟩
    · exact ⟨.inr q, .inl q2⟩
  · have q := h4 x hx
    simp only [Bool.and_eq_true, decide_eq_true_eq, Bool.not_eq_true', decide_eq_false_iff_not] at q
    exact ⟨q.1, q.2.1, q.2.2⟩
theorem Bd.comp (h : Bd G W N vs ls gs k X) {sc : Scope} (hsc : X.env.scope = sc) {vs' ls' gs' : List Str} {elt tg iter : Expr} {ifs : List Expr} {scope : Scope} (own : List (Str × Nat)) {pos : Pos} {it : PVL.It} {is : List Nat} {ic : T} {ie : E} (hb : blkC N sc scope own = true) (hk : bkC vs' ls' gs' sc scope = true) (ho : own.map (·.2) = is) (hne : is ≠ [])
    (hi : PI X tg iter (tI G W false it))
    (hg : ∀ (s : Shared) (H : Hp) (C : Addr) (cl : List (Str × Addr)) (fp : List Addr), Bd G WF N vs' ls' gs' k (X.blk s H scope (compEnvC scope cl C X.env) fp) → PG (X.blk s H scope (compEnvC scope cl C X.env) fp) tg (tgG X.K is))
    (ht : ∀ (s : Shared) (H : Hp) (C : Addr) (cl : List (Str × Addr)) (fp : List Addr), Bd G WF N vs' ls' gs' k (X.blk s H scope (compEnvC scope cl C X.env) fp) → PTs (X.blk s H scope (compEnvC scope cl C X.env) fp) ifs (tT G WF ic))
    (he : ∀ (s : Shared) (H : Hp) (C : Addr) (cl : List (Str × Addr)) (fp : List Addr), Bd G WF N vs' ls' gs' k (X.blk s H scope (compEnvC scope cl C X.env) fp) → PE (X.blk s H scope (compEnvC scope cl C X.env) fp) elt (tE G WF ie)) (hs : ∀ x, foldedSetIterable iter X.env x = pure x) :
    PE X (.ListComp elt [⟨tg, iter, ifs, 0⟩] scope pos) (tE G W (.comp ie is it ic)) :=
  se_comp h.c h.nd' hi (blkOk_by (by rw [h.eN, hsc]; exact hb)) ho _ (fun s H C cl fp => hg s H C cl fp (h.blk hsc hk s H C cl fp)) (tgG_read is hne) (fun s H C cl fp => ht s H C cl fp (h.blk hsc hk s H C cl fp)) (fun s H C cl fp => he s H C cl fp (h.blk hsc hk s H C cl fp)) hs
theorem Bd.setC (h : Bd G W N vs ls gs k X) {sc : Scope} (hsc : X.env.scope = sc) {vs' ls' gs' : List Str} {i : Nat} {y : Str} {py : Pos} {elt tg iter : Expr} {ifs : List Expr} {scope : Scope} (own : List (Str × Nat)) {pos spos : Pos} {it : PVL.It} {is : List Nat} {ic : T} {ie : E} (hy : N[i]? = some y) (hyl : sc.names.lookup y = some .local)
    (hln : (py.line == pos.line) = true) (hsw : (scope.names.any fun (n, k) => n == y && (k == .local || k == .cell)) = false) (hb : blkC N sc scope own = true) (hk : bkC vs' ls' gs' sc scope = true) (ho : own.map (·.2) = is) (hne : is ≠ [])
    (hi : PI X tg iter (tI G W false it))
    (hg : ∀ (s : Shared) (H : Hp) (C : Addr) (cl : List (Str × Addr)) (fp : List Addr), Bd G WF N vs' ls' gs' k (X.blk s H scope (compEnvC scope cl C X.env) fp) → PG (X.blk s H scope (compEnvC scope cl C X.env) fp) tg (tgG X.K is))
    (ht : ∀ (s : Shared) (H : Hp) (C : Addr) (cl : List (Str × Addr)) (fp : List Addr), Bd G WF N vs' ls' gs' k (X.blk s H scope (compEnvC scope cl C X.env) fp) → PTs (X.blk s H scope (compEnvC scope cl C X.env) fp) ifs (tT G WF ic))
    (he : ∀ (s : Shared) (H : Hp) (C : Addr) (cl : List (Str × Addr)) (fp : List Addr), Bd G WF N vs' ls' gs' k (X.blk s H scope (compEnvC scope cl C X.env) fp) → PE (X.blk s H scope (compEnvC scope cl C X.env) fp) elt (tE G WF ie)) (hs : ∀ x, foldedSetIterable iter X.env x = pure x) :
    PS X (.Assign [.Name y py] (.ListComp elt [⟨tg, iter, ifs, 0⟩] scope pos) spos) (tS G W (.set i (.comp ie is it ic))) :=
  sp_setC h.c h.nd' (h.at hy) (by rw [hsc]; exact hyl) (sw_true h.sk (by rw [hsc]; exact hyl) hln hsw) hi (blkOk_by (by rw [h.eN, hsc]; exact hb)) ho _ (fun s H C cl fp => hg s H C cl fp (h.blk hsc hk s H C cl fp)) (tgG_read is hne) (fun s H C cl fp => ht s H C cl fp (h.blk hsc hk s H C cl fp)) (fun s H C cl fp => he s H C cl fp (h.blk hsc hk s H C cl fp)) hs
theorem sw_cell {elt : Expr} {gs : List Comprehension} {scope : Scope} {pos py : Pos} {y : Str} {l : Nat} {env : PySem.Env} (hy : env.scope.names.lookup y = some .cell) : swapsWith (.ListComp elt gs scope pos) (some (.Name y py)) l env = pure false := by
  have ky : env.kindOf y = some .cell := hy
  unfold swapsWith
  simp only [ky]
  cases h : (env.blockKind == ScopeKind.function) <;> rfl
theorem Bd.whl (h : Bd G W N vs ls gs k X) {c : Expr} {body : List Stmt} {ic : T} {ib : Ss} {pos : Pos} (hc : PT X c (tT G W ic)) (hb : PSs X body (tSs G W ib)) : PS X (.While c body [] pos) (tS G W (.whl ic ib)) := sp_while h.p hc hb
theorem Bd.for_ (h : Bd G W N vs ls gs k X) {tg iter : Expr} {body : List Stmt} {it : PVL.It} {is : List Nat} {ib : Ss} {pos : Pos} (hi : PI X tg iter (tI G W true it)) (hg : TgOk X G tg is) (hb : PSs X body (tSs G W ib)) (hs : ∀ x, foldedSetIterable iter X.env x = pure x) : PS X (.For tg iter body [] pos) (tS G W (.for_ is it ib)) :=
  sp_forN h.p h.c hi hg hb hs
theorem Bd.forV (h : Bd G W N vs ls gs k X) {i j : Nat} {x : Str} {tg : Expr} {body : List Stmt} {is : List Nat} {ib : Ss} {p pos : Pos} (e : N[i]? = some x) (ej : vs[j]? = some x) (hg : TgOk X G tg is) (hb : PSs X body (tSs G W ib)) : PS X (.For tg (.Name x p) body [] pos) (tS G W (.for_ is (.val (.var i)) ib)) :=
  sp_forV h.p h.c (h.at e) (h.vis ej) (h.db ej) (h.cd ej) hg hb
theorem Bs.g (h : Bs G W N vs ls gs X) {j : Nat} {x : Str} (e : gs[j]? = some x) : Gl X x := (h.gl x (List.mem_of_getElem? e)).1
theorem Bs.gd (h : Bs G W N vs ls gs X) {j : Nat} {x : Str} (e : gs[j]? = some x) : (x == ("__debug__" : Str)) = false := (h.gl x (List.mem_of_getElem? e)).2.1
theorem Bs.gn (h : Bs G W N vs ls gs X) {j : Nat} {x : Str} (e : gs[j]? = some x) : x ≠ "__name__" := (h.gl x (List.mem_of_getElem? e)).2.2
theorem Bs.bf1 (h : Bs G W N vs ls gs X) {j : Nat} {f : BF} {x : Str} {id : String} {e : Expr} {ie : E} {p pos : Pos} (ej : gs[j]? = some x) (hc : CallR X (.builtin id) (rF G (bfV f) .own)) (hm : X.mg x = none) (hv : bootBuiltins x = some (.builtin id)) (he : PE X e (tE G W ie))
    (hs : starEach [e] X.env = [(false, eval e X.env)]) : PE X (.Call (.Name x p) [e] [] pos) (tE G W (.bf1 f ie)) := se_bf1B hc (h.g ej) hm hv he (h.gn ej) (h.gd ej) hs
theorem Bs.bt1 (h : Bs G W N vs ls gs X) {j : Nat} {f : BF} {x : Str} {T : String} {e : Expr} {ie : E} {p pos : Pos} (ej : gs[j]? = some x) (hc : CallR X (.type T) (rF G (bfV f) .own)) (hm : X.mg x = none) (hv : bootBuiltins x = some (.type T)) (he : PE X e (tE G W ie))
    (hs : starEach [e] X.env = [(false, eval e X.env)]) : PE X (.Call (.Name x p) [e] [] pos) (tE G W (.bf1 f ie)) := se_bf1T hc (h.g ej) hm hv he (h.gn ej) (h.gd ej) hs
theorem Bs.bf2 (h : Bs G W N vs ls gs X) {j : Nat} {f : BF} {x : Str} {id : String} {a b : Expr} {ia ib : E} {p pos : Pos} (ej : gs[j]? = some x) (hc : CallR X (.builtin id) (rF G (bfV f) .own)) (hm : X.mg x = none) (hv : bootBuiltins x = some (.builtin id)) (ha : PE X a (tE G W ia)) (hb : PE X b (tE G W ib))
    (hs : starEach [a, b] X.env = (false, eval a X.env) :: starEach [b] X.env) (hs2 : starEach [b] X.env = [(false, eval b X.env)]) : PE X (.Call (.Name x p) [a, b] [] pos) (tE G W (.bf2 f ia ib)) := se_bf2B hc (h.g ej) hm hv ha hb (h.gn ej) (h.gd ej) hs hs2
theorem Bs.ins1 (h : Bs G W N vs ls gs X) {j j2 : Nat} {a : Expr} {x T : Str} {ia : E} {t : Ty} {m : String} {p pt pos : Pos} (ej : gs[j]? = some x) (hm : X.mg x = none) (hv : bootBuiltins x = some (.builtin "isinstance")) (ha : PE X a (tE G W ia))
    (e2 : gs[j2]? = some T) (hmT : X.mg T = none) (hvT : bootBuiltins T = some (.type m)) (ht : Ty.nm t = some m)
    (hs : starEach [a, .Name T pt] X.env = (false, eval a X.env) :: starEach [.Name T pt] X.env) : PE X (.Call (.Name x p) [a, .Name T pt] [] pos) (tE G W (.inst ia [t])) :=
  se_inst1 h.K (h.g ej) hm hv (h.gn ej) (h.gd ej) ha (h.g e2) hmT hvT (h.gn e2) (h.gd e2) ht hs
/-- a def that may be called by its name -/
structure Cal (G : GS) (P : Program) (w : World) (K : PySem.W.Frag) (mg : Str → Option Value) (base : Heap) (k : Nat) (x : Str) (D : Fn) : Prop where
  ex : ∃ (f : Addr) (fd : FuncData) (ps : List Str), FnOk P w K mg base (L2.CX P w) k f fd ps (spOf G D) ∧ mg x = some (.ref f) ∧ PySem.W.keepIn K (.ref f) = true ∧ Binds K fd ps []
theorem Bd.call (h : Bd G W N vs ls gs k X) {j kf : Nat} {D : Fn} {e : Expr} {es : List Expr} {ies : Es} {x : Str} {p pos : Pos} (c : Cal G X.prog X.w X.K X.mg X.base kf x D) (hk : kf ≤ k) (ej : gs[j]? = some x) (ha : PA X (e :: es) (tA G W ies))
    (he : starEach (e :: es) X.env = (false, eval e X.env) :: starEach es X.env) (hpl : (backTo pos (starEach es X.env)).any (·.1) = false) : PE X (.Call (.Name x p) (e :: es) [] pos) (tE G W (.call D ies)) := by
  obtain ⟨f, fd, ps, F, hm, kp, b⟩ := c.ex
  exact se_call h.t F (h.r.mono hk) (h.g ej) hm kp b ha (h.gd ej) he hpl
end

section
variable {G : GS} {W : WX} {N vs ls gs : List Str} {k : Nat} {X : Cx}
theorem Bd.tr (h : Bd G W N vs ls gs k X) {W' : WX} {pn : List (Addr × Obj)} {xe : Value → Shared → Prop} (t : Takes (X.tr pn xe) W') (p : PassesOwn (model X.prog X.w) X.A X.env xe) : Bd G W' N vs ls gs k (X.tr pn xe) :=
  ⟨⟨h.K, h.u, p, t, h.eN, h.sk, h.nd, h.vi, h.lo, h.gl⟩, h.c, h.r⟩
theorem Bd.su (h : Bd G W N vs ls gs k X) (a : Addr) (pn : List (Addr × Obj)) : Bs G WF N vs ls gs (X.suite a pn) :=
  ⟨h.K, h.u, PassesOwn.never, takes0, h.eN, h.sk, h.nd, h.vi, h.lo, h.gl⟩
end

theorem small_es {es : Es} (h : Nat.ble (esLen es) 1000 = true) : esLen es ≤ sizeLine := Nat.le_trans (Nat.le_of_ble_eq_true h) (by decide)
def okB (s : Txt) : Bool := decide (s.length ≤ 1000) && s.all fun c => decide (c < 0x110000)
theorem okB_ok {s : Txt} (h : okB s = true) : okT s := by
  unfold okB at h
  rw [Bool.and_eq_true, decide_eq_true_eq, List.all_eq_true] at h
  exact ⟨Nat.le_trans h.1 (by decide), fun c hc => of_decide_eq_true (h.2 c hc)⟩
theorem se_str {G : GS} {W : WX} {X : Cx} {x : Str} {s : Txt} {j : Nat} {pos : Pos} (e : x = mkS s ∧ okB s = true) : PE X (.Constant (.str x) j pos) (tE G W (.con (.str s))) :=
  se_con (v := .str x) pe_str fun Z ι => by rw [e.1]; exact .str _ (okB_ok e.2)
theorem se_int {G : GS} {W : WX} {X : Cx} {i : Int} {j : Nat} {pos : Pos} : PE X (.Constant (.int i) j pos) (tE G W (.con (.int i))) := se_con pe_int fun _ _ => .int _
theorem se_bl {G : GS} {W : WX} {X : Cx} {b : Bool} {j : Nat} {pos : Pos} : PE X (.Constant (.bool b) j pos) (tE G W (.con (.bl b))) := se_con pe_bl fun _ _ => .bl _
theorem se_non {G : GS} {W : WX} {X : Cx} {j : Nat} {pos : Pos} : PE X (.Constant .none j pos) (tE G W (.con .non)) := se_con pe_non fun _ _ => .non

theorem se_bad {G : GS} {W : WX} {X : Cx} {e : Expr} : PE X e (tE G W .bad) := ⟨fun pins s σ H Q I h => by
  obtain ⟨Z, B, ι, ω, ρ, S, h⟩ := h
  unfold ev at h
  exact h.elim⟩
theorem sp_bad {G : GS} {W : WX} {X : Cx} {st : Stmt} : PS X st (tS G W .bad) := ⟨fun pins s σ H D I h => by
  obtain ⟨Z, B, ι, ω, ρ, S, h⟩ := h
  unfold ex at h
  exact h.elim⟩
/-- a number of the module -/
theorem se_gint {G : GS} {W : WX} {N vs ls gs : List Str} {X : Cx} (h : Bs G W N vs ls gs X) {j : Nat} {x : Str} {i : Int} {pos : Pos} (ej : gs[j]? = some x) (hm : ∃ t, X.mg x = some (.int i t)) : PE X (.Name x pos) (tE G W (.con (.int i))) := by
  obtain ⟨t, hm⟩ := hm
  exact se_con (v := .int i) (pe_glob (h.g ej) hm ⟨t, rfl⟩ (h.gd ej)) fun _ _ => .int _
theorem fn_bad {P : Program} {w : World} {K : PySem.W.Frag} {mg : Str → Option Value} {base : Heap} {G : GS} {CX : CXT} {k : Nat} {f : Addr} {fd : FuncData} {ps : List Str} : FnOk P w K mg base CX k f fd ps (spOf G (fun _ _ => .bad)) :=
  ⟨fun vs H Q E h => by obtain ⟨_, _, _, _, _, _, _, h⟩ := h; exact h.elim, fun A outer s H args us vs Q E hr he hb hv h => by obtain ⟨_, _, _, _, _, _, _, h⟩ := h; exact h.elim⟩

/-! ### a def keeps its promise -/
theorem Ags.len {G : GS} {Z B H : Hp} {ι : List (Addr × Addr)} {ρ : PVL.Env} {σ : L2.St} {vs : List V} {xs : List VM} (h : Ags G Z B H ι ρ σ vs xs) : vs.length = xs.length := by
  induction h with
  | nil => rfl
  | cons _ _ _ _ ih => exact congrArg (· + 1) ih
theorem Ags.get {G : GS} {Z B H : Hp} {ι : List (Addr × Addr)} {vs : List V} {xs : List VM} (h : Ags G Z B H ι [] [] vs xs) : ∀ {i : Nat} {x : PV} {m : Md}, xs[i]? = some (x, m) → ∃ v, vs[i]? = some v ∧ m ≠ .own ∧ SR G Z B H ι v x m := by
  induction h with
  | nil => intro i x m e; simp at e
  | @cons v y m' vs xs h1 h2 h3 _ ih =>
    intro i x m e
    cases i with
    | zero =>
      simp only [List.getElem?_cons_zero, Option.some.injEq, Prod.mk.injEq] at e
      obtain ⟨rfl, rfl⟩ := e
      refine ⟨v, rfl, ?_, ?_⟩
      · rcases h1 with z | z <;> rw [z] <;> decide
      · rcases h1 with z | z
        · subst z; exact h3 rfl
        · subst z
          rcases h2 with z | ⟨i, a, z, _⟩
          · exact z
          · simp at z
    | succ i => exact ih e
/-- a def's names at its entry -/
theorem Sim.enter {G : GS} {Z B H : Hp} {ι : List (Addr × Addr)} {ω : PVL.Store} {vs : List V} {xs : List VM} (S : Sim G Z B H ι ω [] []) (ag : Ags G Z B H ι [] [] vs xs) (n m : Nat) (hn : n = m) : Sim G Z B H ι ω (xs.map some ++ List.replicate n none) (vs.map some ++ List.replicate m none) := by
  subst hn
  have lt : ∀ {i : Nat} {x : PV} {q : Md}, (xs.map some ++ List.replicate n none)[i]? = some (some (x, q)) → xs[i]? = some (x, q) := fun {i x q} e => by
    by_cases hi : i < xs.length
    · rw [List.getElem?_append_left (by simpa using hi), List.getElem?_map] at e
      cases h : xs[i]? with
      | none => rw [h] at e; cases e
      | some y => rw [h] at e; simpa using e
    · rw [List.getElem?_append_right (by simpa using hi)] at e
      rw [List.getElem?_replicate] at e
      split at e <;> cases e
  have oc : ∀ {k a}, owA G H ι ω (xs.map some ++ List.replicate n none) (vs.map some ++ List.replicate n none) k a → owA G H ι ω [] [] k a := by
    intro k a h
    cases k with
    | slot i =>
      obtain ⟨⟨x, e⟩, _⟩ := h
      obtain ⟨v, _, z, _⟩ := ag.get (lt e)
      exact absurd rfl z
    | ins n => exact h
    | dct n => exact h
    | fld n j => exact h
  refine ⟨S.zH, S.bH, S.iL, S.ob, fun i x q e => ?_, by simp only [List.length_append, List.length_map, List.length_replicate]; rw [ag.len], fun k k' a h h' => S.inj k k' a (oc h) (oc h'), fun k a h => S.zno k a (oc h), S.zb, S.tb⟩
  obtain ⟨v, e1, _, e2⟩ := ag.get (lt e)
  refine ⟨v, ?_, e2⟩
  have hi : i < vs.length := (List.getElem?_eq_some_iff.mp e1).1
  rw [List.getElem?_append_left (by simpa using hi), List.getElem?_map, e1]
  rfl
theorem den_len {np n : Nat} {b : Ss} {xs : List VM} {ω : PVL.Store} {k : VM → PVL.Store → Prop} {x : Nat → List PV → PVL.Store → Prop} (h : RP (den np n b xs ω) k x) : xs.length = np := by
  unfold den at h
  split at h
  · assumption
  · exact h.elim
theorem fn_sim {P : Program} {w : World} {K : PySem.W.Frag} {mg : Str → Option Value} {base : Heap} {G : GS} {x qual : Str} {params : Arguments} {body : List Stmt} {scope : Scope} {f : Addr} {fd : FuncData} {N ls ps gs : List Str} {k np nn : Nat} {ib : Ss}
    (F : FunD K x qual params body scope [] [] f fd) (S : FnScope N ps scope) (hK : G.K = K) (hn : nmC ls gs scope = true) (hnp : ps.length = np) (hnn : N.length = nn)
    (b : ∀ (X : Cx) (W : WX), Bd G W N ls ls gs k X → Fr X → X.prog = P → X.w = w → X.K = K → X.mg = mg → X.base = base → X.env.scope = scope → PSs X body (tSs G W ib)) : FnOk P w K mg base (L2.CX P w) (k + 1) f fd ps (spOf G (den np nn ib)) := by
  refine F.ok S (fun vs H Q E h => ?_) fun cdv A outer s H vs Q E hr h => ?_
  · obtain ⟨Z, B, ι, ω, xs, S, ag, h⟩ := h
    rw [ag.len, den_len h, hnp]
  · unfold nmC at hn
    rw [Bool.and_eq_true, List.all_eq_true, List.all_eq_true] at hn
    refine ⟨tSs G (fun cls d _ H' => E cls d H') ib, b _ (fun cls d _ H' => E cls d H') ⟨⟨hK, (show (A.deeper (envOfC qual scope s.heap.objs.size f cdv)).units + 64 < cLine by have := hr.un; omega), passes_of rfl, takes_of rfl rfl rfl rfl, rfl, S.kind, S.nd, fun y hy => ?_, fun y hy => ?_, fun y hy => ?_⟩, rfl, hr⟩ ⟨rfl, rfl, rfl⟩ rfl rfl rfl rfl rfl rfl, ?_⟩
    · have z := hn.1 y hy
      simp only [Bool.and_eq_true, Bool.or_eq_true, decide_eq_true_eq, Bool.not_eq_true'] at z
      exact ⟨z.1.1.elim .inl fun q => .inr (.inl q), z.1.2, z.2⟩
    · have z := hn.1 y hy
      simp only [Bool.and_eq_true, Bool.or_eq_true, decide_eq_true_eq, Bool.not_eq_true'] at z
      exact ⟨z.1.1, .inl rfl⟩
    · have z := hn.2 y hy
      simp only [Bool.and_eq_true, decide_eq_true_eq, Bool.not_eq_true', decide_eq_false_iff_not] at z
      exact ⟨z.1.1, z.1.2, z.2⟩
    · obtain ⟨Z, B, ι, ω, xs, S, ag, h⟩ := h
      have hl := den_len h
      unfold den at h
      rw [if_pos hl] at h
      refine ⟨Z, B, ι, ω, _, S.enter ag (nn - np) (N.length - vs.length) (by rw [ag.len, hl, hnn]), ?_⟩
      cases e : exs ib (xs.map some ++ List.replicate (nn - np) none) ω with
      | nx ρ' ω' => rw [e] at h; exact fun H' Z' ι' σ' E' S' => h .non H' Z' ι' E' S'.drop RV.non
      | rt r ω' => rw [e] at h; exact fun v H' Z' ι' E' S' o' => h v H' Z' ι' E' S' o'
      | exc c xs ρ' ω' => rw [e] at h; exact fun cls d H' Z' ι' σ' E' S' => h cls d H' Z' ι' E' S'.drop
      | bk ρ' ω' => rw [e] at h; exact h.elim
      | ct ρ' ω' => rw [e] at h; exact h.elim
      | bad => rw [e] at h; exact h.elim
theorem fn_simL {P : Program} {w : World} {K : PySem.W.Frag} {mg : Str → Option Value} {base : Heap} {G : GS} {x qual : Str} {params : Arguments} {body : List Stmt} {scope : Scope} {pd : Str × Option Str} {fd : FuncData} {N ls ps gs : List Str} {k np nn : Nat} {ib : Ss}
    (F : FunD K x qual params body scope [] [] (He.fAd K pd) fd) (S : FnScope N ps scope) (hK : G.K = K) (hn : nmC ls gs scope = true) (hnp : ps.length = np) (hnn : N.length = nn) (tb : LamX.TabB base mg (He.cT K pd).1 (He.cT K pd).2) (mT : ((He.cT K pd).2, (qual ++ ".<locals>.") ++ "<lambda>") ∈ G.tabs) (uT : ∀ p ∈ G.tabs, p.1 = (He.cT K pd).2 → p.2 = (qual ++ ".<locals>.") ++ "<lambda>")
    (b : ∀ (X : Cx) (W : WX), Bd G W N ls ls gs k X → Fr X → LM.LamOk G X → X.prog = P → X.w = w → X.K = K → X.mg = mg → X.base = base → X.env.scope = scope → PSs X body (tSs G W ib)) : FnOk P w K mg base (L2.CX P w) (k + 1) (He.fAd K pd) fd ps (spOf G (den np nn ib)) := by
  obtain ⟨oc, od, dV, kV, doc, pm, an, cdv, ct, osl, rfl, lk, hcd, _, _⟩ := F.ex
  obtain ⟨cc, ecd⟩ := He.codeIn_ref hcd
  have ecc : cc = (He.cT K pd).1 := (He.codeOf_eq lk ecd).symm
  refine fn_of lk hcd S (fun vs H Q E h => ?_) fun A outer s H vs Q E hr h => ?_
  · obtain ⟨Z, B, ι, ω, xs, S, ag, h⟩ := h
    rw [ag.len, den_len h, hnp]
  · unfold nmC at hn
    rw [Bool.and_eq_true, List.all_eq_true, List.all_eq_true] at hn
    refine ⟨tSs G (fun cls d _ H' => E cls d H') ib, b _ (fun cls d _ H' => E cls d H') ⟨⟨hK, (show (A.deeper (envOfC qual scope s.heap.objs.size (He.fAd K pd) cdv)).units + 64 < cLine by have := hr.un; omega), passes_of rfl, takes_of rfl rfl rfl rfl, rfl, S.kind, S.nd, fun y hy => ?_, fun y hy => ?_, fun y hy => ?_⟩, rfl, hr⟩ ⟨rfl, rfl, rfl⟩ ⟨_, _, tb, by rw [← ecc]; exact ecd, mT, uT⟩ rfl rfl rfl rfl rfl rfl, ?_⟩
    · have z := hn.1 y hy
      simp only [Bool.and_eq_true, Bool.or_eq_true, decide_eq_true_eq, Bool.not_eq_true'] at z
      exact ⟨z.1.1.elim .inl fun q => .inr (.inl q), z.1.2, z.2⟩
    · have z := hn.1 y hy
      simp only [Bool.and_eq_true, Bool.or_eq_true, decide_eq_true_eq, Bool.not_eq_true'] at z
      exact ⟨z.1.1, .inl rfl⟩
    · have z := hn.2 y hy
      simp only [Bool.and_eq_true, decide_eq_true_eq, Bool.not_eq_true', decide_eq_false_iff_not] at z
      exact ⟨z.1.1, z.1.2, z.2⟩
    · obtain ⟨Z, B, ι, ω, xs, S, ag, h⟩ := h
      have hl := den_len h
      unfold den at h
      rw [if_pos hl] at h
      refine ⟨Z, B, ι, ω, _, S.enter ag (nn - np) (N.length - vs.length) (by rw [ag.len, hl, hnn]), ?_⟩
      cases e : exs ib (xs.map some ++ List.replicate (nn - np) none) ω with
      | nx ρ' ω' => rw [e] at h; exact fun H' Z' ι' σ' E' S' => h .non H' Z' ι' E' S'.drop RV.non
      | rt r ω' => rw [e] at h; exact fun v H' Z' ι' E' S' o' => h v H' Z' ι' E' S' o'
      | exc c xs ρ' ω' => rw [e] at h; exact fun cls d H' Z' ι' σ' E' S' => h cls d H' Z' ι' E' S'.drop
      | bk ρ' ω' => rw [e] at h; exact h.elim
      | ct ρ' ω' => rw [e] at h; exact h.elim
      | bad => rw [e] at h; exact h.elim
end PVS


set_option maxHeartbeats 1000000
/-! PVS: try, exceptions as values, the __init__ of an exception. -/
namespace PVS
open PySem PySem.Spec PyProof.Rows L2 TL PVL
section
variable {G : GS} {W : WX} {Z Z' B H H' : Hp} {ι ι' : List (Addr × Addr)} {ω ω' : PVL.Store} {ρ ρ' : PVL.Env} {σ σ' : L2.St} {D D' : Ends}
theorem XR.rv {c : Nat} {xs : List PV} {cls : Value} {d : Option Addr} {a : Addr} (x : XR G Z ι c xs cls d) (ha : Z a = some (XO cls d a)) : RV G Z ι (.ref a) (.exc c xs) := by
  obtain ⟨hc, rfl, ⟨h1, rfl, rfl⟩ | ⟨dx, vs, rfl, h1, h2, h3⟩⟩ := x
  · exact .exc0 ha hc h1
  · exact .exc ha hc h1 h2 h3
theorem XR.mono {c : Nat} {xs : List PV} {cls : Value} {d : Option Addr} (x : XR G Z ι c xs cls d) (hz : Same Z Z') (hi : ι <+: ι') : XR G Z' ι' c xs cls d := by
  obtain ⟨hc, rfl, ⟨h1, rfl, rfl⟩ | ⟨dx, vs, rfl, h1, h2, h3⟩⟩ := x
  · exact ⟨hc, rfl, .inl ⟨h1, rfl, rfl⟩⟩
  · exact ⟨hc, rfl, .inr ⟨dx, vs, rfl, hz _ _ h1, h2.mono hz hi, h3⟩⟩
theorem xo_ntb {cls : Value} {d : Option Addr} {a : Addr} : ∀ ps, XO cls d a ≠ .tbl ps := fun ps z => by
  have z' : HO.ext _ = HO.tbl ps := z
  cases z'
/-- a new exception is frozen -/
theorem Sim.xo (S : Sim G Z B H ι ω ρ σ) {a : Addr} (cls : Value) (d : Option Addr) (ha : H a = none) : Sim G (upd Z a (XO cls d a)) B (upd H a (XO cls d a)) ι ω ρ σ ∧ Ext Z (upd Z a (XO cls d a)) (PO B ρ σ) ι ι H (upd H a (XO cls d a)) := by
  have S2 := S.lay (XO cls d a) ha
  have E2 := Ext.lay S (XO cls d a) ha
  refine ⟨S2.fzN xo_ntb upd_same (S.zn ha) (S.bn ha) fun k q => ?_, E2.trans (Ext.fz (S.zn ha))⟩
  obtain ⟨u, hu, pl⟩ := S2.owPl q
  rw [upd_same] at hu
  cases hu
  exact pl.2 _ rfl
theorem Sim.unset (S : Sim G Z B H ι ω ρ σ) (i : Nat) : Sim G Z B H ι ω (ρ.set i none) (σ.set i none) := by
  have get : ∀ {j : Nat} {x : VM}, (ρ.set i none)[j]? = some (some x) → j ≠ i ∧ ρ[j]? = some (some x) := fun {j x} e => by
    by_cases hj : j = i
    · subst hj
      by_cases hl : j < ρ.length
      · rw [List.getElem?_set_self hl] at e; cases e
      · rw [List.getElem?_eq_none (by simpa using hl)] at e; cases e
    · rw [List.getElem?_set_ne (Ne.symm hj)] at e
      exact ⟨hj, e⟩
  have oc : ∀ {k a}, owA G H ι ω (ρ.set i none) (σ.set i none) k a → owA G H ι ω ρ σ k a := by
    intro k a h
    cases k with
    | slot j =>
      obtain ⟨⟨x, e⟩, e2⟩ := h
      obtain ⟨hj, e⟩ := get e
      rw [List.getElem?_set_ne (Ne.symm hj)] at e2
      exact ⟨⟨x, e⟩, e2⟩
    | ins n => exact h
    | dct n => exact h
    | fld n j => exact h
  refine ⟨S.zH, S.bH, S.iL, S.ob, fun j x m e => ?_, by simpa using S.len, fun k k' a h h' => S.inj k k' a (oc h) (oc h'), fun k a h => S.zno k a (oc h), S.zb, S.tb⟩
  obtain ⟨hj, e⟩ := get e
  obtain ⟨v, e1, e2⟩ := S.sl j x m e
  exact ⟨v, by rw [List.getElem?_set_ne (Ne.symm hj)]; exact e1, e2⟩
/-- without an exception the wish is free -/
theorem FP.free {f : PVL.F} (h : FP G W (f.calm true) Z B H ι D) : FP G WF f Z B H ι D := by
  cases f with
  | exc c xs ρ ω => exact h.elim
  | _ => exact h
end
section
variable {X : Cx} {G : GS} {W : WX}
/-- the clauses -/
inductive HsOk (X : Cx) (G : GS) : List ExceptHandler → Hs → Prop
  | nil : HsOk X G [] .nil
  | one {x : Str} {c : Value} {cs : List Nat} {ib : Ss} {ir : Hs} {b₀ : Stmt} {suite : List Stmt} {np pos' : Pos} {hds : List ExceptHandler} (hc : Names X x c) (hx : ∀ k, k < G.xn → PySem.W.exmOne X.K (.ref (G.xcl k)) c = some (cs.contains k))
      (hsu : ∀ (a : Addr) (pn : List (Addr × Obj)), PSs (X.suite a pn) (b₀ :: suite) (tSs G WF ib)) (r : HsOk X G hds ir) : HsOk X G (.ExceptHandler (some (.Name x np)) none (b₀ :: suite) pos' :: hds) (.cons cs none ib ir)
  | as_ {x n : Str} {i : Nat} {c : Value} {cs : List Nat} {ib : Ss} {ir : Hs} {b₀ : Stmt} {suite : List Stmt} {np pos' : Pos} {hds : List ExceptHandler} (hc : Names X x c) (hi : X.N[i]? = some n) (hln : X.env.kindOf n = some .local) (hx : ∀ k, k < G.xn → PySem.W.exmOne X.K (.ref (G.xcl k)) c = some (cs.contains k))
      (hsu : ∀ (a : Addr) (pn : List (Addr × Obj)), PSs (X.suite a pn) (b₀ :: suite) (tSs G WF ib)) (r : HsOk X G hds ir) : HsOk X G (.ExceptHandler (some (.Name x np)) (some n) (b₀ :: suite) pos' :: hds) (.cons cs (some i) ib ir)
theorem hs_read {hds : List ExceptHandler} {ihs : Hs} (h : HsOk X G hds ihs) : ∃ l, HdsT X hds l ∧ ∀ {Z B H : Hp} {ι : List (Addr × Addr)} {ω : PVL.Store} {ρ : PVL.Env} {σ : L2.St} {D : Ends} {c : Nat} {xs : List PV} {cls : Value} {d : Option Addr},
    Sim G Z B H ι ω ρ σ → XR G Z ι c xs cls d → FP G W (catch_ c xs ρ ω (exh ihs)) Z B H ι D → wTry X.K W D l cls d σ H := by
  induction h with
  | nil =>
    refine ⟨[], .nil, fun {Z B H ι ω ρ σ D c xs cls d} S x h => ?_⟩
    unfold exh catch_ at h
    exact h cls d H Z ι σ Ext.refl S x
  | @one x cv cs ib ir b₀ suite np pos' hds hc hx hsu r ih =>
    obtain ⟨l, hl, go⟩ := ih
    refine ⟨(cv, none, tSs G WF ib) :: l, .one hc hsu hl, fun {Z B H ι ω ρ σ D c xs cls d} S x h => ?_⟩
    unfold exh catch_ at h
    obtain ⟨hc1, rfl, x2⟩ := id x
    refine ⟨cs.contains c, hx c hc1, fun e a ha => ?_, fun e => ?_⟩
    · rw [if_pos e] at h
      obtain ⟨S2, E2⟩ := S.xo (.ref (G.xcl c)) d ha
      exact ⟨_, B, ι, ω, ρ, S2, (FP.free h).on E2.pb⟩
    · rw [if_neg (by rw [e]; decide)] at h
      exact go S x h
  | @as_ x n i cv cs ib ir b₀ suite np pos' hds hc hi hln hx hsu r ih =>
    obtain ⟨l, hl, go⟩ := ih
    refine ⟨(cv, some i, tSs G WF ib) :: l, .as_ hc hi hln hsu hl, fun {Z B H ι ω ρ σ D c xs cls d} S x h => ?_⟩
    unfold exh catch_ at h
    obtain ⟨hc1, rfl, x2⟩ := id x
    refine ⟨cs.contains c, hx c hc1, fun e a ha => ?_, fun e => ?_⟩
    · rw [if_pos e] at h
      dsimp only at h
      obtain ⟨S2, E2⟩ := S.xo (.ref (G.xcl c)) d ha
      have rv : RV G (upd Z a (XO (.ref (G.xcl c)) d a)) ι (.ref a) (.exc c xs) := (x.mono E2.z E2.i).rv upd_same
      refine ⟨_, B, ι, ω, _, S2.setS' (i := i) rv, ?_⟩
      cases ef : exs ib (setV ρ i (.exc c xs, .fz)) ω with
      | nx ρ' ω' =>
        rw [ef] at h
        exact fun H' Z' ι' σ' E' S' => h H' Z' ι' _ (E2.pb.trans E') (S'.unset i)
      | bk ρ' ω' =>
        rw [ef] at h
        exact fun H' Z' ι' σ' E' S' => h H' Z' ι' _ (E2.pb.trans E') (S'.unset i)
      | ct ρ' ω' =>
        rw [ef] at h
        exact fun H' Z' ι' σ' E' S' => h H' Z' ι' _ (E2.pb.trans E') (S'.unset i)
      | rt r ω' =>
        rw [ef] at h
        exact fun v H' Z' ι' E' S' o' => h v H' Z' ι' (E2.pb.trans E') S' o'
      | exc c' xs' ρ' ω' => rw [ef] at h; exact h.elim
      | bad => rw [ef] at h; exact h.elim
    · rw [if_neg (by rw [e]; decide)] at h
      exact go S x h
theorem sp_try {body : List Stmt} {h₀ : ExceptHandler} {hds : List ExceptHandler} {ib : Ss} {ihs : Hs} {pos : Pos} (fr : Fr X) (hN : X.N.Nodup) (tk : Takes X W)
    (hb : ∀ (W' : WX) (pn : List (Addr × Obj)) (xe : Value → Shared → Prop), Takes (X.tr pn xe) W' → PassesOwn (model X.prog X.w) X.A X.env xe → PSs (X.tr pn xe) body (tSs G W' ib))
    (hh : HsOk X G (h₀ :: hds) ihs) : PS X (.Try body (h₀ :: hds) [] [] pos) (tS G W (.try_ ib ihs)) := by
  obtain ⟨l, hl, go⟩ := hs_read (W := W) hh
  refine PS.imp (ps_tryT fr hN tk (tb := fun W' => tSs G W' ib) hb hl) fun D σ H h => ?_
  obtain ⟨Z, B, ι, ω, ρ, S, h⟩ := h
  unfold ex at h
  refine ⟨Z, B, ι, ω, ρ, S, ?_⟩
  cases e : exs ib ρ ω with
  | exc c xs ρ1 ω1 =>
    rw [e] at h
    exact fun cls d H' Z' ι' σ' E S' x => go S' x (h.on E)
  | nx ρ' ω' => rw [e] at h; exact h
  | bk ρ' ω' => rw [e] at h; exact h
  | ct ρ' ω' => rw [e] at h; exact h
  | rt r ω' => rw [e] at h; exact h
  | bad => rw [e] at h; exact h
/-! ### exceptions as values -/
theorem mkx_go {c : Nat} {xs : List PV} {Z B H : Hp} {ι : List (Addr × Addr)} {ω : PVL.Store} {ρ : PVL.Env} {σ : L2.St} {Q : VK} {cls : Value} {d : Option Addr} (S : Sim G Z B H ι ω ρ σ) (x : XR G Z ι c xs cls d) (k : ∀ v H' Z', Ext Z Z' (PO B ρ σ) ι ι H H' → Sim G Z' B H' ι ω ρ σ → RV G Z' ι v (.exc c xs) → Q v H')
    (a : Addr) (ha : H a = none) : Q (.ref a) (upd H a (XO cls d a)) := by
  obtain ⟨S2, E2⟩ := S.xo cls d ha
  exact k _ _ _ E2 S2 ((x.mono E2.z E2.i).rv upd_same)
theorem se_mkx0 {c : Nat} {x m : Str} {j : Nat} {p p2 pos : Pos} (gC : X.mg x = some (.ref (G.xcl c))) (xc : c < G.xn) (xf : G.xfs c = []) (q : PySem.W.excIn X.K (G.xcl c) He.veBase "ValueError.__new__" = true) (kC : PySem.W.keepIn X.K (.ref (G.xcl c)) = true)
    (r : Raises X (.ref (G.xcl c))) (hg : Gl X x) (hdb : (x == ("__debug__" : Str)) = false) : PE X (.Call (.Name x p) [.Constant (.str m) j p2] [] pos) (tE G W (.mkx c .nil)) := by
  refine PE.imp (pe_ofMk (pmk_own PySem.F.excBase_ValueError q gC kC r hg hdb)) fun σ H Q h => ?_
  obtain ⟨Z, B, ι, ω, ρ, S, h⟩ := h
  unfold ev evK at h
  exact mkx_go S (c := c) (xs := []) ⟨xc, rfl, .inl ⟨xf, rfl, rfl⟩⟩ fun v H' Z' E' S' r' => h v H' Z' ι E' S' r' (.no rfl)
theorem se_mkx1 {c k : Nat} {x : Str} {e : Expr} {es : List Expr} {ies : Es} {p pos : Pos} (M : X1Ok G X.prog X.w X.K X.mg X.base k c x) (hr : Room (k + 1) X.A) (hg : Gl X x) (hdb : (x == ("__debug__" : Str)) = false) (ha : PA X (e :: es) (tK G W ies))
    (hl : esLen ies = (G.xfs c).length) (hl2 : (G.xfs c).length ≤ 1000) (he : starEach (e :: es) X.env = (false, eval e X.env) :: starEach es X.env) (hpl : (backTo pos (starEach es X.env)).any (·.1) = false) :
    PE X (.Call (.Name x p) (e :: es) [] pos) (tE G W (.mkx c ies)) := by
  obtain ⟨f, fd, ps, iC, tI, F, hb, hps⟩ := M.ex
  refine PE.imp (pe_ofMk (pmk_oex M.T iC tI F hr hb .nil passL hg M.gC ha hdb he hpl)) fun σ H Q h => ?_
  obtain ⟨Z, B, ι, ω, ρ, S, h⟩ := h
  unfold ev at h
  refine x1_read (Q := fun _ _ _ _ _ _ => True) rfl M.T M.xc M.no hl hl2 _ S (h.bind.mono (fun xs ω' h1 cls d H' Z' ι' E' S' x' a ha => ?_) fun _ _ _ q => q)
  exact mkx_go S' x' (fun v H2 Z2 E2 S2 r2 => h1 v H2 Z2 ι' (E'.trans E2) S2 r2 (.no rfl)) a ha
end
/-! ### an exception's __init__ -/
/-- B.__init__(self, ..), B an own class under ValueError without an __init__ -/
structure BxOk (K : PySem.W.Frag) (mg : Str → Option Value) (x : Str) : Prop where
  ex : ∃ C mc, mg x = some (.ref C) ∧ ClX.CRead K C mc ∧ PySem.W.findCls K (.ref C) mc "__init__" = some (.val (.builtin "ValueError.__init__"))
section
variable {X : Cx}
theorem pe_bxinit {x : Str} {e : Expr} {es : List Expr} {ta : TA} {p apos pos : Pos} {pl : Sem Bool} (M : BxOk X.K X.mg x) (hg : Gl X x) (hdb : (x == ("__debug__" : Str)) = false) (ha : PA X (e :: es) ta)
    (hst : starEach (e :: es) X.env = (false, eval e X.env) :: starEach es X.env) (hpl : (backTo pos (starEach es X.env)).any (·.1) = false)
    (ht : eval (.Call (.Attribute (.Name x p) "__init__" apos) (e :: es) [] pos) X.env = (do
      let ov ← eval (.Name x p) X.env
      standAt apos.atName
      let (f, first) ← holding [ov] (getMethod ov "__init__" pl)
      callWith pos f first (backTo pos (starEach (e :: es) X.env)) (backToKw pos (keywordEach [] X.env)))) :
    PE X (.Call (.Attribute (.Name x p) "__init__" apos) (e :: es) [] pos) (tVeI X.K ta) := by
  obtain ⟨C, mc, hm, cr, hat⟩ := M.ex
  refine ⟨fun pins s σ H Q I h => ?_⟩
  refine PySem.W.methodCall_KW (pl := pl) (thn ((pe_glob (v := .ref C) hg hm rfl hdb).run pins s σ H (fun v H1 => v = .ref C ∧ H1 = H) I ⟨rfl, rfl⟩) fun u s1 ⟨y, H1, I1, ry, ey, eH⟩ => ?_) ht
  subst ey eH
  obtain rfl : u = Value.ref C := ry
  refine PySem.W.method_cls I1.kIn cr.ga (PySem.W.cls_value I1.kIn cr.rd hat rfl ?_)
  show wpAny _ _ (callWith pos (Value.builtin "ValueError.__init__") [] (backTo pos (starEach (e :: es) X.env)) []) _ _ _
  refine PyProof.Rows.callWith_method1 (thn (ha.run pos pins _ σ _ _ (I1.tok _) h) fun us s2 ⟨vs, H2, I2, r1, a, C', ws, ev, hl, T, ea, q⟩ => ?_) hst hpl
  subst ev
  cases r1 with
  | @cons _ u0 _ ur ra rw' =>
    obtain rfl : u0 = Value.ref a := ra
    have hlen : ur.length ≤ sizeLine := by
      rw [← Paired.length rw', sizeLine_eq]
      omega
    exact oinit_ok T I2 ea hlen fun s' J => ⟨.non, H2, J, rfl, q⟩
end
theorem nmC_l {ls gs : List Str} {sc : Scope} (h : nmC ls gs sc = true) {x : Str} (hx : x ∈ ls) : Vis sc x ∧ (x == ("__debug__" : Str)) = false ∧ (x == ("__classdict__" : Str)) = false := by
  unfold nmC at h
  rw [Bool.and_eq_true, List.all_eq_true] at h
  have z := h.1 x hx
  simp only [Bool.and_eq_true, Bool.or_eq_true, decide_eq_true_eq, Bool.not_eq_true'] at z
  exact ⟨z.1.1.elim .inl fun q => .inr (.inl q), z.1.2, z.2⟩
theorem nmC_g {ls gs : List Str} {sc : Scope} (h : nmC ls gs sc = true) {x : Str} (hx : x ∈ gs) : sc.names.lookup x = some .globalImplicit ∧ (x == ("__debug__" : Str)) = false := by
  unfold nmC at h
  rw [Bool.and_eq_true, List.all_eq_true, List.all_eq_true] at h
  have z := h.2 x hx
  simp only [Bool.and_eq_true, decide_eq_true_eq, Bool.not_eq_true', decide_eq_false_iff_not] at z
  exact ⟨z.1.1, z.1.2⟩
section
variable {P : Program} {w : World} {K : PySem.W.Frag} {mg : Str → Option Value} {base : Heap} {C f : Addr} {fd : FuncData} {qual : Str} {params : Arguments} {body : List Stmt} {scope : Scope} {k : Nat} {sv y1 y2 f1 f2 m : Str} {p1 p2 p3 p4 p5 p6 q1 q2 q3 q4 r1 r2 r3 r4 : Pos} {j : Nat}
theorem fn_xi1 (F : FunD K "__init__" qual params body scope [] [] f fd) (S : FnScope [sv, y1] [sv, y1] scope) (hn : nmC [sv, y1] ["LackError"] scope = true) (M : BxOk K mg "LackError")
    (hb : body = [.Expr (.Call (.Attribute (.Name "LackError" p1) "__init__" p2) [.Name sv p3, .Constant (.str m) j p4] [] p5) p6, .Assign [.Attribute (.Name sv q1) f1 q2] (.Name y1 q3) q4])
    (ht : ∀ env : PySem.Env, ∃ pl : Sem Bool, eval (.Call (.Attribute (.Name "LackError" p1) "__init__" p2) [.Name sv p3, .Constant (.str m) j p4] [] p5) env = (do
      let ov ← eval (.Name "LackError" p1) env
      standAt p2.atName
      let (f, first) ← holding [ov] (getMethod ov "__init__" pl)
      callWith p5 f first (backTo p5 (starEach [.Name sv p3, .Constant (.str m) j p4] env)) (backToKw p5 (keywordEach [] env)))) :
    FnOk P w K mg base (L2.CX P w) (k + 1) f fd [sv, y1] (spXi K C [f1]) := by
  subst hb
  refine F.ok S (fun vs H Q E h => ?_) fun cdv A outer s H vs Q E hr h => ?_
  · obtain ⟨a, ws, rfl, hl, _⟩ := h
    rw [List.length_cons, hl]; rfl
  · obtain ⟨s1, s2, s3⟩ := nmC_l hn (x := sv) (by simp)
    obtain ⟨t1, t2, t3⟩ := nmC_l hn (x := y1) (by simp)
    obtain ⟨g1, g2⟩ := nmC_g hn (x := "LackError") (by simp)
    have v0 : ∀ {pos : Pos}, PE (cxOf (L2.CX P w) P w K mg base [sv, y1] qual scope f cdv A outer s H E) (.Name sv pos) (tVar 0) := pe_var rfl s1 s2 s3
    have v1 : ∀ {pos : Pos}, PE (cxOf (L2.CX P w) P w K mg base [sv, y1] qual scope f cdv A outer s H E) (.Name y1 pos) (tVar 1) := pe_var rfl t1 t2 t3
    refine ⟨_, pss_cons (ps_expr (pe_bxinit M g1 g2 (pa_cons v0 (pa_cons pe_str pa_nil)) rfl rfl (ht _).choose_spec) rfl) (pss_one (ps_ost v0 v1 rfl)), ?_⟩
    obtain ⟨a, ws, rfl, hl, T, no, ha, q⟩ := h
    match ws, hl, q with
    | [u], _, q =>
      refine ⟨_, rfl, a, C, [_], rfl, Nat.le_of_ble_eq_true rfl, T, ha, ?_⟩
      refine ⟨_, rfl, _, rfl, a, C, rfl, T, no _ (by simp), .inl ⟨ha, fun dx hd hne => ?_⟩⟩
      exact q dx _ hd hne upd_same (by rw [upd_ne hne, upd_same]; rfl) fun b b1 b2 => by rw [upd_ne b1, upd_ne b2]
theorem fn_xi2 (F : FunD K "__init__" qual params body scope [] [] f fd) (S : FnScope [sv, y1, y2] [sv, y1, y2] scope) (hn : nmC [sv, y1, y2] ["LackError"] scope = true) (M : BxOk K mg "LackError")
    (hb : body = [.Expr (.Call (.Attribute (.Name "LackError" p1) "__init__" p2) [.Name sv p3, .Constant (.str m) j p4] [] p5) p6, .Assign [.Attribute (.Name sv q1) f1 q2] (.Name y1 q3) q4, .Assign [.Attribute (.Name sv r1) f2 r2] (.Name y2 r3) r4])
    (ht : ∀ env : PySem.Env, ∃ pl : Sem Bool, eval (.Call (.Attribute (.Name "LackError" p1) "__init__" p2) [.Name sv p3, .Constant (.str m) j p4] [] p5) env = (do
      let ov ← eval (.Name "LackError" p1) env
      standAt p2.atName
      let (f, first) ← holding [ov] (getMethod ov "__init__" pl)
      callWith p5 f first (backTo p5 (starEach [.Name sv p3, .Constant (.str m) j p4] env)) (backToKw p5 (keywordEach [] env)))) :
    FnOk P w K mg base (L2.CX P w) (k + 1) f fd [sv, y1, y2] (spXi K C [f1, f2]) := by
  subst hb
  refine F.ok S (fun vs H Q E h => ?_) fun cdv A outer s H vs Q E hr h => ?_
  · obtain ⟨a, ws, rfl, hl, _⟩ := h
    rw [List.length_cons, hl]; rfl
  · obtain ⟨s1, s2, s3⟩ := nmC_l hn (x := sv) (by simp)
    obtain ⟨t1, t2, t3⟩ := nmC_l hn (x := y1) (by simp)
    obtain ⟨u1, u2, u3⟩ := nmC_l hn (x := y2) (by simp)
    obtain ⟨g1, g2⟩ := nmC_g hn (x := "LackError") (by simp)
    have v0 : ∀ {pos : Pos}, PE (cxOf (L2.CX P w) P w K mg base [sv, y1, y2] qual scope f cdv A outer s H E) (.Name sv pos) (tVar 0) := pe_var rfl s1 s2 s3
    have v1 : ∀ {pos : Pos}, PE (cxOf (L2.CX P w) P w K mg base [sv, y1, y2] qual scope f cdv A outer s H E) (.Name y1 pos) (tVar 1) := pe_var rfl t1 t2 t3
    have v2 : ∀ {pos : Pos}, PE (cxOf (L2.CX P w) P w K mg base [sv, y1, y2] qual scope f cdv A outer s H E) (.Name y2 pos) (tVar 2) := pe_var rfl u1 u2 u3
    refine ⟨_, pss_cons (ps_expr (pe_bxinit M g1 g2 (pa_cons v0 (pa_cons pe_str pa_nil)) rfl rfl (ht _).choose_spec) rfl) (pss_cons (ps_ost v0 v1 rfl) (pss_one (ps_ost v0 v2 rfl))), ?_⟩
    obtain ⟨a, ws, rfl, hl, T, no, ha, q⟩ := h
    match ws, hl, q with
    | [u, z], _, q =>
      refine ⟨_, rfl, a, C, [_], rfl, Nat.le_of_ble_eq_true rfl, T, ha, ?_⟩
      refine ⟨_, rfl, _, rfl, a, C, rfl, T, no _ (by simp), .inl ⟨ha, fun dx hd hne => ?_⟩⟩
      refine ⟨_, rfl, _, rfl, a, C, rfl, T, no _ (by simp), .inr ⟨dx, _, upd_same, (by rw [upd_ne hne, upd_same]), Nat.le_of_ble_eq_true rfl, ?_⟩⟩
      refine q dx _ hd hne (by rw [upd_ne (Ne.symm hne), upd_same]) (by rw [upd_same]; rfl) fun b b1 b2 => by rw [upd_ne b2, upd_ne b1, upd_ne b2]
end
end PVS

set_option maxHeartbeats 1000000
/-! PVS: the law's end. -/
namespace PVS
open PySem PySem.Spec PyProof.Rows L2 TL PVL
/-- the law's def answers True at every script -/
def LawOk (D : Fn) (n : Nat) : Prop := ∀ ns : List Int, ns.length ≤ n → (∀ z ∈ ns, Builtin.Int.intBits z ≤ 1048576) → ∃ ω, D [(.lst (ns.map .int), .fz)] [] = .ok (.bl true, .fz) ω
/-- no list stands in the written part -/
def noL (K : PySem.W.Frag) : Bool := K.all fun q => match q.2.cls with
  | .type c => !decide (c = "list")
  | _ => true
theorem noL_ok {K : PySem.W.Frag} (h : noL K = true) {a : Addr} {o : Obj} (e : K.lookup a = some o) : o.cls ≠ .type "list" := fun z => by
  have q := List.all_eq_true.mp h (a, o) (He.lookup_mem e)
  rw [z] at q
  simp at q
theorem rvs_ints {G : GS} {Z : Hp} {ι : List (Addr × Addr)} : ∀ ns : List Int, RVs G Z ι (ns.map V.int) (ns.map PV.int)
  | [] => .nil
  | n :: ns => .cons (.int n) (rvs_ints ns)
theorem cx_none {P : Program} {w : World} {H : Hp} {s : Shared} {e : Value} {s' : Shared} (h : L2.CX P w [] H s (fun _ _ _ => False) e s') : False := by
  obtain ⟨_, _, _, _, _, _, _, _, _, _, _, _, z⟩ := h
  exact z.elim
theorem law_spT {G : GS} {D : Fn} {K : PySem.W.Frag} {H : Hp} {a : Addr} {ns : List Int} {ω : PVL.Store} {cs : List (Addr × Addr)} (h : D [(.lst (ns.map .int), .fz)] [] = .ok (.bl true, .fz) ω) (hT : ∀ p ∈ cs, H p.2 = some (.tbl #[])) (hG : ∀ p ∈ G.tabs, ∃ q ∈ cs, q.2 = p.1) (hS : SqL K H a (ns.map V.int)) (hK : noL K = true) :
    spOf G D [.ref a] H (fun v _ => v = .bl true) fun _ _ _ => False := by
  have hr : Rd H a (.lst (ns.map V.int)) := by
    rcases hS with q | ⟨o, its, n, q, c, _⟩
    · exact q
    · exact absurd c (noL_ok hK q)
  have eZ : (fun b => if b = a then H b else none : Hp) a = H a := if_pos rfl
  have hz : ∀ b u, (fun b => if b = a then H b else none : Hp) b = some u → b = a ∧ H b = some u := fun b u e => by
    have e : (if b = a then H b else none) = some u := e
    split at e
    · rename_i hb; exact ⟨hb, e⟩
    · cases e
  have hrZ : Rd (fun b => if b = a then H b else none : Hp) a (.lst (ns.map V.int)) := by
    rcases hr with q | ⟨o, q⟩
    · exact .inl (by rw [eZ]; exact q)
    · exact .inr ⟨o, by rw [eZ]; exact q⟩
  refine ⟨fun b => if b = a then H b else none, fun _ => none, [], [], [(.lst (ns.map .int), .fz)], ⟨fun b u e => .inl (hz b u e).2, fun b u e => (by cases e), rfl, fun n r e => (by simp at e), fun i x m e => (by simp at e), rfl, fun k k' b h _ => ?_, fun k b h => ?_, fun b u e => (by cases e), ⟨fun p hp => ?_, fun b ps e => ?_, fun b ps e => (by cases e)⟩⟩, .cons (.inl rfl) (.inl (.inl (.lst hrZ (rvs_ints ns)))) (fun _ => .lst hrZ (rvs_ints ns)) .nil, ?_⟩
  · exfalso
    cases k with
    | slot i => obtain ⟨⟨x, e⟩, _⟩ := h; simp at e
    | ins n => obtain ⟨dx, e⟩ := h; simp at e
    | dct n => obtain ⟨dx, e⟩ := h; simp at e
    | fld n j => obtain ⟨b, dx, C, fs, nm, r, f, x, e, _⟩ := h; simp at e
  · exfalso
    cases k with
    | slot i => obtain ⟨⟨x, e⟩, _⟩ := h; simp at e
    | ins n => obtain ⟨dx, e⟩ := h; simp at e
    | dct n => obtain ⟨dx, e⟩ := h; simp at e
    | fld n j => obtain ⟨b, dx, C, fs, nm, r, f, x, e, _⟩ := h; simp at e
  · obtain ⟨q, hq, e⟩ := hG p hp
    exact LamX.TabS.nil (by rw [← e]; exact hT q hq)
  · obtain ⟨rfl, e'⟩ := hz b _ e
    rcases hr with q | ⟨o, q⟩ <;> rw [e'] at q <;> cases q
  · rw [h]
    exact fun v H' Z' ι' E' S' o' => (RH.of S'.zH o').bl
theorem walk_pv {l : PySem.W.OpenLaw} {n k : Nat} {q : Program} {loose : List Str} {XP : (Str → Option Value) → Heap → Prop} {YP : World → Heap → Prop} {d : DefRec} {x : Str}
    (hn : l.most = some n) (hn2 : n ≤ sizeLine) (hdf : d.params.defaults = []) (hr : Room k callerA)
    (F : ∀ (w : World) (mg : Str → Option Value) (fa : Addr) (h : Heap), YP w h → h.Ns mainGlobals mg → mg d.name = some (.ref fa) →
      ∃ (K : PySem.W.Frag) (fd : FuncData) (G : GS) (D : Fn) (cs : List (Addr × Addr)), K.In h ∧ noL K = true ∧ (∀ (s : Shared) (u : Value), BindsTo s fd ⟨[u], []⟩ [(x, u)]) ∧ LawOk D n ∧
        (∀ p ∈ cs, h.get? p.2 = some { cls := .none, data := .fields #[] }) ∧ (∀ p ∈ cs, K.lookup p.2 = none) ∧ (∀ p ∈ cs, PySem.W.CodeHd h p.1 p.2) ∧ (∀ p ∈ G.tabs, ∃ q ∈ cs, q.2 = p.1) ∧
        ∀ base : Heap, K.In base → base.Ns mainGlobals mg → (∀ p ∈ cs, LamX.TabB base mg p.1 p.2) → FnOk l.prog w K mg base (L2.CX l.prog w) k fa fd [x] (spOf G D)) :
    PySem.W.WalkO q loose XP YP l.row.toRowW d [] (fun f vs => PySem.call f vs) := by
  refine Att.attach_callB hn hdf fun w s₀ s₁ mg mb fa o pm cd doc a vs ns Gr Y ho hd hcd hmg hobj hints hlen hbits hg => ?_
  obtain ⟨K, fd, G, D, cs, KX, nl, hb, hlaw, hT, nT, C, hGt, hF⟩ := F w mg fa _ Y Gr.T.g hmg
  obtain ⟨ω, hD⟩ := hlaw ns hlen hbits
  exact LamX.law_callTs KX Gr.T.g Gr.T.b Gr.T.builtins Gr.T.nolimit hg hT nT C Gr.T.bmain hobj hints (Nat.le_trans hlen hn2) hr hF hb (fun H hO hS => law_spT hD hO hGt hS nl) fun H e s' h => cx_none h
/-- the head's hook: facts, defs, no list -/
abbrev hookP (n : Nat) (fa : List He.Fa) (fn : List He.DefD) : PySem.W.Hook := He.hookX n fa fn [] [] noL
def obsP (n : Nat) (fa : List He.Fa) (fn : List He.DefD) (s : PySem.W.SharedT) : He.AlX := He.obsX n fa fn [] [] noL (HandSHeadRun.getT s)
theorem obsP_eq (n : Nat) (fa : List He.Fa) (fn : List He.DefD) (s : PySem.W.SharedT) : obsP n fa fn s = (hookP n fa fn).obs s.abs := He.obsX_eq (HandSHeadRun.getT_eq s)
/-- the same with the interpreter's statics, and one look more -/
def kZ (g : Addr → Option Obj) (n : Nat) : PySem.W.Frag := He.frT g (He.asD g n ++ [cStatics])
def obsZ (n : Nat) (fa : List He.Fa) (fn : List He.DefD) (tf : List He.Defn) (xb : PySem.W.Frag → Bool) (g : Addr → Option Obj) : He.AlD × Bool := (He.obsD fa fn (kZ g n), noL (kZ g n) && xb (kZ g n) && He.tabsB g tf (kZ g n))
/-- the defs that make lambdas: their code's tables are empty -/
structure TabsAt (K : PySem.W.Frag) (tf : List He.Defn) (h : Heap) : Prop where
  hd : ∀ p ∈ tf, PySem.W.codeHdIn K (He.cT K p).1 (He.cT K p).2 = true
  out : ∀ p ∈ tf, K.lookup (He.cT K p).2 = none
  empty : ∀ p ∈ tf, h.get? (He.cT K p).2 = some { cls := .none, data := .fields #[] }
theorem tabsAt_of {n : Nat} {tf : List He.Defn} {h : Heap} (e : He.tabsB h.get? tf (kZ h.get? n) = true) : TabsAt (kZ h.get? n) tf h := by
  have key : ∀ p ∈ tf, PySem.W.codeHdIn (kZ h.get? n) (He.cT (kZ h.get? n) p).1 (He.cT (kZ h.get? n) p).2 = true ∧ ∃ o, h.get? (He.cT (kZ h.get? n) p).2 = some o ∧ He.emptyTab o = true := fun p hp => by
    obtain ⟨h3, h4⟩ := Bool.and_eq_true_iff.mp (List.all_eq_true.mp e p hp)
    refine ⟨h3, ?_⟩
    cases q : h.get? (He.cT (kZ h.get? n) p).2 with
    | none =>
      rw [q] at h4
      cases h4
    | some o =>
      rw [q] at h4
      exact ⟨o, rfl, h4⟩
  exact ⟨fun p hp => (key p hp).1, fun p hp => by
    obtain ⟨_, o, q, z⟩ := key p hp
    exact He.frT_none q z, fun p hp => by
    obtain ⟨_, o, q, z⟩ := key p hp
    rw [q, He.emptyTab_eq z]⟩
def hookQ (n : Nat) (fa : List He.Fa) (fn : List He.DefD) (tf : List He.Defn) (xb : PySem.W.Frag → Bool) : PySem.W.Hook where
  α := He.AlD × Bool
  obs := fun s => obsZ n fa fn tf xb s.heap.get?
  val := fun _ => (He.valD fn, true)
  says := fun _ h => ∃ K : PySem.W.Frag, K.In h ∧ He.SaysD fa fn K ∧ noL K = true ∧ xb K = true ∧ TabsAt K tf h
  of := fun _ _ e => by
    have e1 := congrArg (fun z : He.AlD × Bool => z.1) e
    have e2 := Bool.and_eq_true_iff.mp (congrArg (fun z : He.AlD × Bool => z.2) e)
    have e3 := Bool.and_eq_true_iff.mp e2.1
    exact ⟨_, He.frT_in, e1, e3.1, e3.2, tabsAt_of e2.2⟩
  keeps := fun _ _ _ ⟨K, hK, c1, c2, c3, c4⟩ k => ⟨K, PySem.W.Frag.In.keeps hK k, c1, c2, c3, c4.hd, c4.out, fun p hp => k _ _ (c4.empty p hp)⟩
def obsQ (n : Nat) (fa : List He.Fa) (fn : List He.DefD) (tf : List He.Defn) (xb : PySem.W.Frag → Bool) (s : PySem.W.SharedT) : He.AlD × Bool := obsZ n fa fn tf xb (HandSHeadRun.getT s)
/-- the tables' names; each table one def's -/
def tabsG (K : PySem.W.Frag) (tl : List (He.Defn × Str)) : List (Addr × Str) := tl.map fun p => ((He.cT K p.1).2, p.2)
def tabsNd (K : PySem.W.Frag) (tl : List (He.Defn × Str)) : Bool := decide ((tl.map fun p => (He.cT K p.1).2).Nodup)
theorem tabsG_mem {K : PySem.W.Frag} {tl : List (He.Defn × Str)} {p : He.Defn × Str} (h : p ∈ tl) : ((He.cT K p.1).2, p.2) ∈ tabsG K tl := List.mem_map.mpr ⟨p, h, rfl⟩
theorem tabsG_u {K : PySem.W.Frag} {tl : List (He.Defn × Str)} (nd : tabsNd K tl = true) {p : He.Defn × Str} (h : p ∈ tl) : ∀ q ∈ tabsG K tl, q.1 = (He.cT K p.1).2 → q.2 = p.2 := fun q hq e => by
  obtain ⟨r, hr, rfl⟩ := List.mem_map.mp hq
  have nd := of_decide_eq_true nd
  have e : (He.cT K r.1).2 = (He.cT K p.1).2 := e
  obtain ⟨i, hi, rfl⟩ := List.mem_iff_getElem.mp hr
  obtain ⟨j, hj, rfl⟩ := List.mem_iff_getElem.mp h
  have : i = j := by
    have e' : (tl.map fun p => (He.cT K p.1).2)[i]'(by simpa using hi) = (tl.map fun p => (He.cT K p.1).2)[j]'(by simpa using hj) := by simpa using e
    exact (List.getElem_inj nd).mp e'
  subst this
  rfl
def csOf (K : PySem.W.Frag) (tl : List (He.Defn × Str)) : List (Addr × Addr) := tl.map fun p => He.cT K p.1
theorem csOf_tabs {K : PySem.W.Frag} {tl : List (He.Defn × Str)} : ∀ p ∈ tabsG K tl, ∃ q ∈ csOf K tl, q.2 = p.1 := fun p hp => by
  obtain ⟨r, hr, rfl⟩ := List.mem_map.mp hp
  exact ⟨_, List.mem_map.mpr ⟨r, hr, rfl⟩, rfl⟩
theorem csOf_all {K : PySem.W.Frag} {tl : List (He.Defn × Str)} {tf : List He.Defn} {c : Addr × Addr → Prop} (e : tl.map (·.1) = tf) (h : ∀ p ∈ tf, c (He.cT K p)) : ∀ p ∈ csOf K tl, c p := fun p hp => by
  obtain ⟨r, hr, rfl⟩ := List.mem_map.mp hp
  exact h _ (by rw [← e]; exact List.mem_map.mpr ⟨r, hr, rfl⟩)
theorem csOf_get {K : PySem.W.Frag} {tl : List (He.Defn × Str)} {c : Addr × Addr → Prop} (h : ∀ p ∈ csOf K tl, c p) {p : He.Defn × Str} (hp : p ∈ tl) : c (He.cT K p.1) := h _ (List.mem_map.mpr ⟨p, hp, rfl⟩)
theorem obsQ_eq (n : Nat) (fa : List He.Fa) (fn : List He.DefD) (tf : List He.Defn) (xb : PySem.W.Frag → Bool) (s : PySem.W.SharedT) : obsQ n fa fn tf xb s = (hookQ n fa fn tf xb).obs s.abs := by
  have e : HandSHeadRun.getT s = s.abs.heap.get? := funext (HandSHeadRun.getT_eq s)
  unfold obsQ
  rw [e]
  rfl
/-! ### the fields' names -/
def fnmL (L : List Str) (f : Nat) : Str := match L[f]? with
  | some s => s
  | none => ⟨(List.replicate (f + 1) 0).toArray⟩
def okNm (s : Str) : Bool := match s.cps.toList with
  | [] => false
  | c :: _ => c != 0
theorem okNm_ne {s : Str} (h : okNm s = true) (n : Nat) : s ≠ ⟨(List.replicate (n + 1) 0).toArray⟩ := fun e => by
  rw [e] at h
  simp [okNm, List.replicate_succ] at h
theorem fnmL_ne {L : List Str} {m : Str} (h : (okNm m && !L.contains m) = true) (f : Nat) : m ≠ fnmL L f := by
  rw [Bool.and_eq_true, Bool.not_eq_true'] at h
  unfold fnmL
  cases e : L[f]? with
  | none => exact okNm_ne h.1 f
  | some s =>
    intro z
    have z : m = s := z
    have : s ∈ L := List.mem_of_getElem? e
    rw [← z] at this
    have q : L.contains m = true := List.contains_iff_mem.mpr this
    rw [q] at h
    exact absurd h.2 (by decide)
theorem fnmL_inj {L : List Str} (h : (L.all okNm && decide L.Nodup) = true) (f g : Nat) (e : fnmL L f = fnmL L g) : f = g := by
  rw [Bool.and_eq_true, List.all_eq_true, decide_eq_true_eq] at h
  unfold fnmL at e
  cases ef : L[f]? with
  | none =>
    rw [ef] at e
    cases eg : L[g]? with
    | none =>
      rw [eg] at e
      have e : (⟨(List.replicate (f + 1) 0).toArray⟩ : Str) = ⟨(List.replicate (g + 1) 0).toArray⟩ := e
      have := congrArg (fun s : Str => s.cps.size) e
      simp at this
      exact this
    | some s =>
      rw [eg] at e
      exact absurd e.symm (okNm_ne (h.1 s (List.mem_of_getElem? eg)) f)
  | some s =>
    rw [ef] at e
    cases eg : L[g]? with
    | none =>
      rw [eg] at e
      exact absurd e (okNm_ne (h.1 s (List.mem_of_getElem? ef)) g)
    | some t =>
      rw [eg] at e
      have e : s = t := e
      subst e
      obtain ⟨hf, e1⟩ := List.getElem?_eq_some_iff.mp ef
      obtain ⟨hg, e2⟩ := List.getElem?_eq_some_iff.mp eg
      exact (List.getElem_inj h.2).mp (e1.trans e2.symm)
/-! ### classes by numbers -/
theorem lk_all {α : Type} {p : α → Prop} {d : α} (hd : p d) : ∀ (l : List (Nat × α)), (∀ x ∈ l, p x.2) → ∀ c, p ((l.lookup c).getD d)
  | [], _, _ => hd
  | (n, a) :: l, h, c => by
    rw [List.lookup_cons]
    cases c == n with
    | true => exact h _ (List.mem_cons_self ..)
    | false => exact lk_all hd l (fun x hx => h x (List.mem_cons_of_mem _ hx)) c
theorem lk_par {α β : Type} {p : α → β → Prop} {d : α} {e : β} (hd : p d e) : ∀ (l : List (Nat × α × β)), (∀ x ∈ l, p x.2.1 x.2.2) → ∀ c, p (((l.map fun x => (x.1, x.2.1)).lookup c).getD d) (((l.map fun x => (x.1, x.2.2)).lookup c).getD e)
  | [], _, _ => hd
  | (n, a, b) :: l, h, c => by
    rw [List.map_cons, List.map_cons, List.lookup_cons, List.lookup_cons]
    cases c == n with
    | true => exact h _ (List.mem_cons_self ..)
    | false => exact lk_par hd l (fun x hx => h x (List.mem_cons_of_mem _ hx)) c
theorem fa_nil {α : Type} {p : α → Prop} : ∀ x ∈ ([] : List α), p x := fun _ h => nomatch h
theorem fa_cons {α : Type} {p : α → Prop} {a : α} {l : List α} (h : p a) (t : ∀ x ∈ l, p x) : ∀ x ∈ a :: l, p x := fun x hx => by
  rcases List.mem_cons.mp hx with e | e
  · rw [e]; exact h
  · exact t x e
/-! ### rows of defs by classes -/
theorem tb_nil {p : Nat → Fn → Prop} : ∀ c D, ([] : List (Nat × Fn)).lookup c = some D → p c D := fun c D e => by cases e
theorem tb_cons {p : Nat → Fn → Prop} {c0 : Nat} {D0 : Fn} {tb : List (Nat × Fn)} (h0 : p c0 D0) (h : ∀ c D, tb.lookup c = some D → p c D) : ∀ c D, ((c0, D0) :: tb).lookup c = some D → p c D := fun c D e => by
  rw [List.lookup_cons] at e
  by_cases hc : c = c0
  · subst hc
    simp at e
    subst e
    exact h0
  · have : (c == c0) = false := by simpa using hc
    rw [this] at e
    exact h c D e
/-- what is looked at for C.m(self, ..) -/
def cmB (K : PySem.W.Frag) (x m : Str) : Bool :=
  PySem.W.readsIn K (He.ga K x) (.type "type") && (He.eqO (PySem.W.specialIn K (.ref (He.ga K x)) "__getattribute__") (some (some (.builtin "type.__getattribute__"))) && (match PySem.W.findCls K (.ref (He.ga K x)) (.type "type") m with
    | some (.val (.ref a)) => decide (a = He.ma K (He.ga K x) m)
    | _ => false))
theorem cmB_ok {K : PySem.W.Frag} {x m : Str} (h : cmB K x m = true) : ClX.CRead K (He.ga K x) (.type "type") ∧ ClX.CVal K (He.ga K x) (.type "type") m (.ref (He.ma K (He.ga K x) m)) (.ref (He.ma K (He.ga K x) m)) := by
  unfold cmB at h
  rw [Bool.and_eq_true, Bool.and_eq_true] at h
  obtain ⟨h1, h2, h3⟩ := h
  refine ⟨⟨h1, He.eqO_ok h2⟩, ?_⟩
  cases e : PySem.W.findCls K (.ref (He.ga K x)) (.type "type") m with
  | none => rw [e] at h3; cases h3
  | some r =>
    rw [e] at h3
    cases r with
    | get _ _ _ _ => cases h3
    | val v =>
      cases v <;> first
        | (have h3 : decide (_ = _) = true := h3; rw [of_decide_eq_true h3] at e; exact ⟨e, rfl⟩)
        | cases h3
end PVS

set_option maxHeartbeats 1000000
/-! PVS: exceptions: what the text says of their classes; the rules as the walk names them. -/
namespace PVS
open PySem PySem.Spec PyProof.Rows L2 TL PVL
/-! ### looks at the text -/
def oexB (K : PySem.W.Frag) (C : Addr) : Bool := (match K.lookup C with
  | some ⟨.type "type", _, .cls cd, sl⟩ => (match cd.mro, sl.toList with
    | .ref C' :: bm, [_, _, _, _, some (.builtin n), _] => C' == C && n == "ValueError.__new__" && !cd.hasDel && HandSPX.refsVE bm && cd.hasDict
    | _, _ => false)
  | _ => false) && (decide (PySem.W.findIn K (.ref C) "__setattr__" = some (some (.builtin "object.__setattr__"))) && (decide (PySem.W.subIn K (.ref C) (.type "BaseException") = some true) && (decide (PySem.W.typeIn K (.ref C) = some (.type "type")) && PySem.W.keepIn K (.ref C))))
theorem oexB_ok {K : PySem.W.Frag} {C : Addr} (h : oexB K C = true) : OexC K C := by
  unfold oexB at h
  rw [Bool.and_eq_true, Bool.and_eq_true, Bool.and_eq_true, Bool.and_eq_true, decide_eq_true_eq, decide_eq_true_eq, decide_eq_true_eq] at h
  obtain ⟨q, h1, h2, h3, h4⟩ := h
  refine ⟨?_, h1, h2, h3, h4⟩
  split at q
  · rename_i dd cd sl ho
    split at q
    · rename_i C' bm k0 k1 k2 k3 n k5 hm hs
      simp only [Bool.and_eq_true, beq_iff_eq, Bool.not_eq_true'] at q
      obtain ⟨⟨⟨⟨rfl, rfl⟩, hdel⟩, ht⟩, hd'⟩ := q
      obtain ⟨nm, bs, mro, ns, qn, hd, sn, sub, ab, col, del⟩ := cd
      dsimp only at hm hdel hd'
      subst hm hdel hd'
      have hsl : sl = #[k0, k1, k2, k3, some (.builtin "ValueError.__new__"), k5] := by
        obtain ⟨l⟩ := sl
        simp only at hs
        rw [hs]
      subst hsl
      exact ⟨nm, qn, ns, bs, bm, sn, sub, ab, col, dd, k0, k1, k2, k3, k5, ho, ht⟩
    · cases q
  · cases q
def xclA (K : PySem.W.Frag) (xs : List Str) (c : Nat) : Addr := (xs[c]?).elim 0 (He.ga K)
theorem xcl_all {K : PySem.W.Frag} {xs : List Str} {p : Addr → Prop} (h : ∀ x ∈ xs, p (He.ga K x)) (c : Nat) (hc : c < xs.length) : p (xclA K xs c) := by
  unfold xclA
  rw [List.getElem?_eq_getElem hc]
  exact h _ (List.getElem_mem hc)
theorem xcl_ix {K : PySem.W.Frag} {xs : List Str} {p : Addr → Nat → Prop} (h : ∀ q ∈ xs.zipIdx, p (He.ga K q.1) q.2) (c : Nat) (hc : c < xs.length) : p (xclA K xs c) c := by
  unfold xclA
  rw [List.getElem?_eq_getElem hc]
  refine h (xs[c], c) (List.mem_of_getElem? (i := c) ?_)
  rw [List.getElem?_zipIdx, List.getElem?_eq_getElem hc]
  simp
def xsB (K : PySem.W.Frag) (xs : List Str) : Bool := xs.all fun x => xcTB K (He.ga K x)
theorem xsB_ok {K : PySem.W.Frag} {xs : List Str} (h : xsB K xs = true) : ∀ c, c < xs.length → XcT K (xclA K xs c) :=
  xcl_all fun x hx => xcTB_ok (List.all_eq_true.mp h x hx)
def kiB (K : PySem.W.Frag) (xs : List Str) (u : Value) (cs : List Nat) : Bool := noBltV K u && xs.zipIdx.all fun q => decide (PySem.W.kitOne K (.ref (He.ga K q.1)) u = some (cs.contains q.2))
theorem kiB_ok {K : PySem.W.Frag} {xs : List Str} {u : Value} {cs : List Nat} (h : kiB K xs u cs = true) : noBltV K u = true ∧ ∀ c, c < xs.length → PySem.W.kitOne K (.ref (xclA K xs c)) u = some (cs.contains c) := by
  unfold kiB at h
  rw [Bool.and_eq_true] at h
  exact ⟨h.1, xcl_ix (p := fun C c => PySem.W.kitOne K (.ref C) u = some (cs.contains c)) fun q hq => of_decide_eq_true (List.all_eq_true.mp h.2 q hq)⟩
def xmB (K : PySem.W.Frag) (xs : List Str) (u : Value) (cs : List Nat) : Bool := xs.zipIdx.all fun q => decide (PySem.W.exmOne K (.ref (He.ga K q.1)) u = some (cs.contains q.2))
theorem xmB_ok {K : PySem.W.Frag} {xs : List Str} {u : Value} {cs : List Nat} (h : xmB K xs u cs = true) : ∀ c, c < xs.length → PySem.W.exmOne K (.ref (xclA K xs c)) u = some (cs.contains c) :=
  xcl_ix (p := fun C c => PySem.W.exmOne K (.ref C) u = some (cs.contains c)) fun q hq => of_decide_eq_true (List.all_eq_true.mp h q hq)
def nofB (K : PySem.W.Frag) (C : Addr) (fs : List Str) : Bool := fs.all fun f => decide (PySem.W.findIn K (.ref C) f = some none)
theorem nofB_ok {K : PySem.W.Frag} {C : Addr} {fs : List Str} (h : nofB K C fs = true) : ∀ f ∈ fs, PySem.W.findIn K (.ref C) f = some none := fun f hf => of_decide_eq_true (List.all_eq_true.mp h f hf)
def bxB (K : PySem.W.Frag) (x : Str) : Bool := PySem.W.readsIn K (He.ga K x) (.type "type") && (He.eqO (PySem.W.specialIn K (.ref (He.ga K x)) "__getattribute__") (some (some (.builtin "type.__getattribute__"))) &&
  (match PySem.W.findCls K (.ref (He.ga K x)) (.type "type") "__init__" with
    | some (.val (.builtin n)) => decide (n = "ValueError.__init__")
    | _ => false))
theorem bxB_ok {K : PySem.W.Frag} {mg : Str → Option Value} {x : Str} (h : bxB K x = true) (hm : mg x = some (.ref (He.ga K x))) : BxOk K mg x := by
  unfold bxB at h
  rw [Bool.and_eq_true, Bool.and_eq_true] at h
  obtain ⟨h1, h2, h3⟩ := h
  refine ⟨_, _, hm, ⟨h1, He.eqO_ok h2⟩, ?_⟩
  cases e : PySem.W.findCls K (.ref (He.ga K x)) (.type "type") "__init__" with
  | none => rw [e] at h3; cases h3
  | some r =>
    rw [e] at h3
    cases r with
    | get _ _ _ _ => cases h3
    | val v =>
      cases v <;> first
        | (cases h3; done)
        | skip
      rename_i n
      have h3 : decide (n = "ValueError.__init__") = true := h3
      rw [of_decide_eq_true h3]
structure X0Ok (G : GS) (K : PySem.W.Frag) (mg : Str → Option Value) (c : Nat) (x : Str) : Prop where
  gC : mg x = some (.ref (G.xcl c))
  xc : c < G.xn
  xf : G.xfs c = []
  ex : PySem.W.excIn K (G.xcl c) He.veBase "ValueError.__new__" = true ∧ PySem.W.keepIn K (.ref (G.xcl c)) = true ∧ PySem.W.subIn K (.ref (G.xcl c)) (.type "BaseException") = some true ∧ PySem.W.typeIn K (.ref (G.xcl c)) = some (.type "type")
structure X1N (G : GS) (P : Program) (w : World) (K : PySem.W.Frag) (mg : Str → Option Value) (base : Heap) (k c n : Nat) (x : Str) : Prop where
  ok : X1Ok G P w K mg base k c x
  ln : (G.xfs c).length = n
theorem XfOk.nil {G : GS} {K : PySem.W.Frag} {nm : Str} : XfOk G K nm [] := ⟨fun c j e => by cases e⟩
theorem XfOk.cons {G : GS} {K : PySem.W.Frag} {nm : Str} {tb : List (Nat × Nat)} {c j : Nat} {fs : List Str} (hf : G.xfs c = fs) (h : fs[j]? = some nm) (nd : fs.Nodup) (xc : XcT K (G.xcl c)) (no : ∀ f ∈ fs, PySem.W.findIn K (.ref (G.xcl c)) f = some none) (r : XfOk G K nm tb) : XfOk G K nm ((c, j) :: tb) := ⟨fun c' j' e => by
  rw [List.lookup_cons] at e
  by_cases hc : c' = c
  · subst hc
    simp only [beq_self_eq_true, Option.some.injEq] at e
    subst e
    rw [hf]
    exact ⟨h, nd, xc, no _ (List.mem_of_getElem? h)⟩
  · have e2 : (c' == c) = false := by simpa using hc
    rw [e2] at e
    exact r.ok c' j' e⟩
/-- isinstance of an own class of exceptions; a clause of it -/
structure XisN (G : GS) (K : PySem.W.Frag) (mg : Str → Option Value) (x : Str) (cs : List Nat) : Prop where
  ex : ∃ C, mg x = some (.ref C) ∧ XisOk G K (.ref C) cs
structure XhN (G : GS) (K : PySem.W.Frag) (mg : Str → Option Value) (x : Str) (cs : List Nat) : Prop where
  ex : ∃ C, mg x = some (.ref C) ∧ ∀ k, k < G.xn → PySem.W.exmOne K (.ref (G.xcl k)) (.ref C) = some (cs.contains k)
section
variable {G : GS} {W : WX} {N vs ls gs : List Str} {k : Nat} {X : Cx}
theorem Bs.gint (h : Bs G W N vs ls gs X) {j : Nat} {x : Str} {i : Int} {pos : Pos} (ej : gs[j]? = some x) (hm : ∃ t, X.mg x = some (.int i t)) : PE X (.Name x pos) (tE G W (.con (.int i))) := se_gint h ej hm
theorem Bd.rais0 (h : Bd G W N vs ls gs k X) {c j : Nat} {x m : Str} {jm : Nat} {p p2 pos pos2 : Pos} (ej : gs[j]? = some x) (M : X0Ok G X.K X.mg c x) : PS X (.Raise (some (.Call (.Name x p) [.Constant (.str m) jm p2] [] pos)) none pos2) (tS G W (.rais (.mkx c .nil))) :=
  sp_rais0 h.c h.t M.gC M.xc M.xf M.ex.1 M.ex.2.1 (raises_own M.ex.2.2.1 M.ex.2.2.2) (h.g ej) (h.gd ej)
theorem Bd.mkx0 (h : Bd G W N vs ls gs k X) {c j : Nat} {x m : Str} {jm : Nat} {p p2 pos : Pos} (ej : gs[j]? = some x) (M : X0Ok G X.K X.mg c x) : PE X (.Call (.Name x p) [.Constant (.str m) jm p2] [] pos) (tE G W (.mkx c .nil)) :=
  se_mkx0 M.gC M.xc M.xf M.ex.1 M.ex.2.1 (raises_own M.ex.2.2.1 M.ex.2.2.2) (h.g ej) (h.gd ej)
theorem Bd.rais1 (h : Bd G W N vs ls gs k X) {c j kx : Nat} {x : Str} {e : Expr} {es : List Expr} {ies : Es} {p pos pos2 : Pos} (ej : gs[j]? = some x) {n : Nat} (M : X1N G X.prog X.w X.K X.mg X.base kx c n x) (hk : kx + 1 ≤ k) (ha : PA X (e :: es) (tK G W ies)) (hl : esLen ies = n) (hl2 : n ≤ 1000)
    (he : starEach (e :: es) X.env = (false, eval e X.env) :: starEach es X.env) (hpl : (backTo pos (starEach es X.env)).any (·.1) = false) : PS X (.Raise (some (.Call (.Name x p) (e :: es) [] pos)) none pos2) (tS G W (.rais (.mkx c ies))) :=
  sp_rais1 h.c h.t M.ok (h.r.mono hk) (h.g ej) (h.gd ej) ha (hl.trans M.ln.symm) (by rw [M.ln]; exact hl2) he hpl
theorem Bd.mkx1 (h : Bd G W N vs ls gs k X) {c j kx : Nat} {x : Str} {e : Expr} {es : List Expr} {ies : Es} {p pos : Pos} (ej : gs[j]? = some x) {n : Nat} (M : X1N G X.prog X.w X.K X.mg X.base kx c n x) (hk : kx + 1 ≤ k) (ha : PA X (e :: es) (tK G W ies)) (hl : esLen ies = n) (hl2 : n ≤ 1000)
    (he : starEach (e :: es) X.env = (false, eval e X.env) :: starEach es X.env) (hpl : (backTo pos (starEach es X.env)).any (·.1) = false) : PE X (.Call (.Name x p) (e :: es) [] pos) (tE G W (.mkx c ies)) :=
  se_mkx1 M.ok (h.r.mono hk) (h.g ej) (h.gd ej) ha (hl.trans M.ln.symm) (by rw [M.ln]; exact hl2) he hpl
theorem Bs.insX (h : Bs G W N vs ls gs X) {j j2 : Nat} {a : Expr} {x T : Str} {ia : E} {cs : List Nat} {p pt pos : Pos} (ej : gs[j]? = some x) (hm : X.mg x = none) (hv : bootBuiltins x = some (.builtin "isinstance")) (ha : PE X a (tE G W ia))
    (e2 : gs[j2]? = some T) (M : XisN G X.K X.mg T cs) (hs : starEach [a, .Name T pt] X.env = (false, eval a X.env) :: starEach [.Name T pt] X.env) : PE X (.Call (.Name x p) [a, .Name T pt] [] pos) (tE G W (.inst ia [.exc cs])) := by
  obtain ⟨C, hmT, M⟩ := M.ex
  exact se_instX (h.g ej) hm hv (h.gn ej) (h.gd ej) ha (.own C) (pe_glob (v := .ref C) (h.g e2) hmT rfl (h.gd e2)) M hs
theorem Bs.insXB (h : Bs G W N vs ls gs X) {j j2 : Nat} {a : Expr} {x T : Str} {ia : E} {cs : List Nat} {m : String} {p pt pos : Pos} (ej : gs[j]? = some x) (hm : X.mg x = none) (hv : bootBuiltins x = some (.builtin "isinstance")) (ha : PE X a (tE G W ia))
    (e2 : gs[j2]? = some T) (hmT : X.mg T = none) (hvT : bootBuiltins T = some (.type m)) (M : XisOk G X.K (.type m) cs) (hs : starEach [a, .Name T pt] X.env = (false, eval a X.env) :: starEach [.Name T pt] X.env) : PE X (.Call (.Name x p) [a, .Name T pt] [] pos) (tE G W (.inst ia [.exc cs])) :=
  se_instX (h.g ej) hm hv (h.gn ej) (h.gd ej) ha (.ty m) (pe_bltn (v := .ty m) (h.g e2) hmT hvT rfl (h.gn e2) (h.gd e2)) M hs
theorem Bd.hs1 (h : Bd G W N vs ls gs k X) {j : Nat} {x : Str} {cs : List Nat} {ib : Ss} {ir : Hs} {b₀ : Stmt} {suite : List Stmt} {np pos' : Pos} {hds : List ExceptHandler} (ej : gs[j]? = some x) (M : XhN G X.K X.mg x cs)
    (hsu : ∀ (a : Addr) (pn : List (Addr × Obj)), Bs G WF N vs ls gs (X.suite a pn) → PSs (X.suite a pn) (b₀ :: suite) (tSs G WF ib)) (r : HsOk X G hds ir) : HsOk X G (.ExceptHandler (some (.Name x np)) none (b₀ :: suite) pos' :: hds) (.cons cs none ib ir) := by
  obtain ⟨C, hm, hx⟩ := M.ex
  exact .one ⟨h.g ej, h.gd ej, .inl hm⟩ hx (fun a pn => hsu a pn (h.su a pn)) r
theorem Bd.hsA (h : Bd G W N vs ls gs k X) {i j : Nat} {x n : Str} {cs : List Nat} {ib : Ss} {ir : Hs} {b₀ : Stmt} {suite : List Stmt} {np pos' : Pos} {hds : List ExceptHandler} (ej : gs[j]? = some x) (ei : N[i]? = some n) (hln : X.env.scope.names.lookup n = some .local) (M : XhN G X.K X.mg x cs)
    (hsu : ∀ (a : Addr) (pn : List (Addr × Obj)), Bs G WF N vs ls gs (X.suite a pn) → PSs (X.suite a pn) (b₀ :: suite) (tSs G WF ib)) (r : HsOk X G hds ir) : HsOk X G (.ExceptHandler (some (.Name x np)) (some n) (b₀ :: suite) pos' :: hds) (.cons cs (some i) ib ir) := by
  obtain ⟨C, hm, hx⟩ := M.ex
  exact .as_ ⟨h.g ej, h.gd ej, .inl hm⟩ (h.at ei) hln hx (fun a pn => hsu a pn (h.su a pn)) r
theorem Bd.tryS (h : Bd G W N vs ls gs k X) (fr : Fr X) {body : List Stmt} {h₀ : ExceptHandler} {hds : List ExceptHandler} {ib : Ss} {ihs : Hs} {pos : Pos}
    (hb : ∀ (W' : WX) (pn : List (Addr × Obj)) (xe : Value → Shared → Prop), Bd G W' N vs ls gs k (X.tr pn xe) → PSs (X.tr pn xe) body (tSs G W' ib)) (hh : HsOk X G (h₀ :: hds) ihs) : PS X (.Try body (h₀ :: hds) [] [] pos) (tS G W (.try_ ib ihs)) :=
  sp_try fr h.nd' h.t (fun W' pn xe t p => hb W' pn xe (h.tr t p)) hh
end
end PVS

/-! PVL: reckoning step by step: each form by an equation that asks for all its arguments, the rest named. -/
namespace PVL
section
variable {ρ : Env} {ω : Store}
/-! ### ends -/
theorem seq_nx {k : Env → Store → F} : F.seq (.nx ρ ω) k = k ρ ω := (rfl)
theorem seq_rt {v : VM} {k : Env → Store → F} : F.seq (.rt v ω) k = .rt v ω := (rfl)
theorem seq_bk {k : Env → Store → F} : F.seq (.bk ρ ω) k = .bk ρ ω := (rfl)
theorem seq_ct {k : Env → Store → F} : F.seq (.ct ρ ω) k = .ct ρ ω := (rfl)
theorem seq_exc {c : Nat} {xs : List PV} {k : Env → Store → F} : F.seq (.exc c xs ρ ω) k = .exc c xs ρ ω := (rfl)
theorem seq_bad {k : Env → Store → F} : F.seq .bad k = .bad := (rfl)
theorem to_ok {α : Type} {a : α} {k : α → Store → F} : R.to (.ok a ω) ρ k = k a ω := (rfl)
theorem to_exc {α : Type} {c : Nat} {xs : List PV} {k : α → Store → F} : R.to (.exc c xs ω : R α) ρ k = .exc c xs ρ ω := (rfl)
theorem to_bad {α : Type} {k : α → Store → F} : R.to (.bad : R α) ρ k = .bad := (rfl)
theorem bind_ok {α β : Type} {a : α} {k : α → Store → R β} : R.bind (.ok a ω) k = k a ω := (rfl)
theorem bind_exc {α β : Type} {c : Nat} {xs : List PV} {k : α → Store → R β} : R.bind (.exc c xs ω : R α) k = .exc c xs ω := (rfl)
theorem bind_bad {α β : Type} {k : α → Store → R β} : R.bind (.bad : R α) k = .bad := (rfl)
theorem rcalm_ok {α : Type} {a : α} : R.calm (.ok a ω) = .ok a ω := (rfl)
theorem calm_f {f : F} : F.calm false f = f := by cases f <;> rfl
theorem calm_nx {b : Bool} : F.calm b (.nx ρ ω) = .nx ρ ω := (rfl)
theorem calm_rt {b : Bool} {v : VM} : F.calm b (.rt v ω) = .rt v ω := (rfl)
theorem liftO_some {x : PV} {m : Md} : liftO (some x) m ω = .ok (mk x m) ω := (rfl)
theorem liftB_some {b : Bool} : liftB (some b) ω = .ok (.bl b, .fz) ω := (rfl)
theorem mk_non {m : Md} : mk .non m = (.non, .fz) := (rfl)
theorem mk_bl {m : Md} {b : Bool} : mk (.bl b) m = (.bl b, .fz) := (rfl)
theorem mk_int {m : Md} {b : Int} : mk (.int b) m = (.int b, .fz) := (rfl)
theorem mk_str {m : Md} {b : Txt} : mk (.str b) m = (.str b, .fz) := (rfl)
theorem mk_tup {m : Md} {b : List PV} : mk (.tup b) m = (.tup b, .fz) := (rfl)
theorem mk_lst {m : Md} {b : List PV} : mk (.lst b) m = (.lst b, m) := (rfl)
theorem mk_dic {m : Md} {b : List (PV × PV)} : mk (.dic b) m = (.dic b, m) := (rfl)
theorem mk_obj {m : Md} {b : Nat} : mk (.obj b) m = (.obj b, .fz) := (rfl)
theorem kp_non {m : Md} : keeps (.non, m) = true := (rfl)
theorem kp_bl {m : Md} {b : Bool} : keeps (.bl b, m) = true := (rfl)
theorem kp_int {m : Md} {b : Int} : keeps (.int b, m) = true := (rfl)
theorem kp_str {m : Md} {b : Txt} : keeps (.str b, m) = true := (rfl)
theorem kp_tup {m : Md} {b : List PV} : keeps (.tup b, m) = true := (rfl)
theorem kp_obj {m : Md} {b : Nat} : keeps (.obj b, m) = true := (rfl)
theorem kp_exc {m : Md} {c : Nat} {b : List PV} : keeps (.exc c b, m) = true := (rfl)
theorem kp_own {x : PV} : keeps (x, .own) = true := by cases x <;> rfl
theorem kp_fz {x : PV} : keeps (x, .fz) = true := by cases x <;> rfl
/-! ### expressions -/
def rdM : Md → Md
  | .own => .lv
  | .fz => .fz
  | .br => .br
  | .lv => .lv
def rdV : Option VM → Store → R VM
  | some (x, m), ω => .ok (x, rdM m) ω
  | none, _ => .bad
theorem ev_var {i : Nat} : ev (.var i) ρ ω = rdV (getV ρ i) ω := by
  unfold ev
  cases h : getV ρ i with
  | none => rfl
  | some v => obtain ⟨x, m⟩ := v; cases m <;> rfl
theorem ev_con {x : PV} : ev (.con x) ρ ω = .ok (x, .fz) ω := (rfl)
def kTup (xs : List PV) (ω : Store) : R VM := .ok (.tup xs, .fz) ω
theorem ev_tup {es : Es} : ev (.tup es) ρ ω = (evK es ρ ω).bind kTup := (rfl)
def kLst (xs : List PV) (ω : Store) : R VM := .ok (.lst xs, .own) ω
theorem ev_lst {es : Es} : ev (.lst es) ρ ω = (evK es ρ ω).bind kLst := (rfl)
def kDct (xs : List PV) (ω : Store) : R VM := liftO (dispV xs) .own ω
theorem ev_dct {es : Es} : ev (.dct es) ρ ω = if pureEs es then (evK es ρ ω).bind kDct else .bad := (rfl)
def kBin2 (op : BOp) (x y : VM) (ω : Store) : R VM := liftO (binV op x.1 y.1) .own ω
def kBin1 (op : BOp) (b : E) (ρ : Env) (x : VM) (ω : Store) : R VM := (ev b ρ ω).bind (kBin2 op x)
theorem ev_bin {op : BOp} {a b : E} : ev (.bin op a b) ρ ω = (ev a ρ ω).bind (kBin1 op b ρ) := (rfl)
def kNeg : VM → Store → R VM
  | (.int i, _), ω => .ok (.int (-i), .fz) ω
  | _, _ => .bad
theorem ev_neg {a : E} : ev (.neg a) ρ ω = (ev a ρ ω).bind kNeg := by
  show R.bind _ _ = R.bind _ _
  congr 1
  funext x ω
  obtain ⟨x, m⟩ := x
  cases x <;> rfl
def kCmp2 (op : COp) (x y : VM) (ω : Store) : R VM := liftB (cmpV op x.1 y.1) ω
def kCmp1 (op : COp) (b : E) (ρ : Env) (x : VM) (ω : Store) : R VM := (ev b ρ ω).bind (kCmp2 op x)
theorem ev_cmp {op : COp} {a b : E} : ev (.cmp op a b) ρ ω = (ev a ρ ω).bind (kCmp1 op b ρ) := (rfl)
def kChn3 (o2 : COp) (c : E) (ρ : Env) (y : VM) : Option Bool → Store → R VM
  | some true, ω => (ev c ρ ω).bind (kCmp2 o2 y)
  | some false, ω => .ok (.bl false, .fz) ω
  | none, _ => .bad
def kChn2 (o1 o2 : COp) (c : E) (ρ : Env) (x y : VM) (ω : Store) : R VM := kChn3 o2 c ρ y (cmpV o1 x.1 y.1) ω
def kChn1 (o1 o2 : COp) (b c : E) (ρ : Env) (x : VM) (ω : Store) : R VM := (ev b ρ ω).bind (kChn2 o1 o2 c ρ x)
theorem ev_chn {o1 o2 : COp} {a b c : E} : ev (.chn o1 o2 a b c) ρ ω = (ev a ρ ω).bind (kChn1 o1 o2 b c ρ) := by
  show R.bind _ _ = R.bind _ _
  congr 1
  funext x ω
  unfold kChn1
  congr 1
  funext y ω
  unfold kChn2
  cases h : cmpV o1 x.1 y.1 with
  | none => rfl
  | some b => cases b <;> rfl
def kAnd (b : E) (ρ : Env) : VM → Store → R VM
  | (.bl true, _), ω => ev b ρ ω
  | (.bl false, _), ω => .ok (.bl false, .fz) ω
  | _, _ => .bad
theorem ev_and {a b : E} : ev (.andV a b) ρ ω = (ev a ρ ω).bind (kAnd b ρ) := by
  show R.bind _ _ = R.bind _ _
  congr 1
  funext x ω
  obtain ⟨x, m⟩ := x
  cases x with
  | bl c => cases c <;> rfl
  | _ => rfl
def kOr (b : E) (ρ : Env) : VM → Store → R VM
  | (.bl true, _), ω => .ok (.bl true, .fz) ω
  | (.bl false, _), ω => ev b ρ ω
  | (.str s, _), ω => if s = [] then ev b ρ ω else .ok (.str s, .fz) ω
  | _, _ => .bad
theorem ev_or {a b : E} : ev (.orV a b) ρ ω = (ev a ρ ω).bind (kOr b ρ) := by
  show R.bind _ _ = R.bind _ _
  congr 1
  funext x ω
  obtain ⟨x, m⟩ := x
  cases x with
  | bl c => cases c <;> rfl
  | _ => rfl
def kNot (b : Bool) (ω : Store) : R VM := .ok (.bl (!b), .fz) ω
theorem ev_not {t : T} : ev (.notV t) ρ ω = (evT t ρ ω).bind kNot := (rfl)
def kIte (a b : E) (ρ : Env) : Bool → Store → R VM
  | true, ω => ev a ρ ω
  | false, ω => ev b ρ ω
theorem ev_ite {t : T} {a b : E} : ev (.ite t a b) ρ ω = (evT t ρ ω).bind (kIte a b ρ) := by
  show R.bind _ _ = R.bind _ _
  congr 1
  funext x ω
  cases x <;> rfl
def oFld : Option PV → Store → R VM
  | some v, ω => if isC v then .bad else .ok (v, .fz) ω
  | none, _ => .bad
def kFld (f : Nat) (x : VM) (ω : Store) : R VM := oFld (fldV ω x.1 f) ω
theorem ev_fld {f : Nat} {o : E} : ev (.fld f o) ρ ω = (ev o ρ ω).bind (kFld f) := by
  show R.bind _ _ = R.bind _ _
  congr 1
  funext x ω
  unfold kFld
  cases fldV ω x.1 f <;> rfl
def oIdx (y : PV) : Option PV → Store → R VM
  | some v, ω => liftO (idxV v y) .fz ω
  | none, _ => .bad
def kIdxF2 (f : Nat) (x y : VM) (ω : Store) : R VM := oIdx y.1 (fldV ω x.1 f) ω
def kIdxF1 (f : Nat) (i : E) (ρ : Env) (x : VM) (ω : Store) : R VM := (ev i ρ ω).bind (kIdxF2 f x)
theorem ev_idxF {f : Nat} {o i : E} : ev (.idxF f o i) ρ ω = (ev o ρ ω).bind (kIdxF1 f i ρ) := by
  show R.bind _ _ = R.bind _ _
  congr 1
  funext x ω
  unfold kIdxF1
  congr 1
  funext y ω
  unfold kIdxF2
  cases fldV ω x.1 f <;> rfl
def oCmp (op : COp) (y : PV) : Option PV → Store → R VM
  | some v, ω => liftB (cmpV op v y) ω
  | none, _ => .bad
def kCmpF2 (op : COp) (f : Nat) (x y : VM) (ω : Store) : R VM := oCmp op y.1 (fldV ω x.1 f) ω
def kCmpF1 (op : COp) (f : Nat) (b : E) (ρ : Env) (x : VM) (ω : Store) : R VM := (ev b ρ ω).bind (kCmpF2 op f x)
theorem ev_cmpF {op : COp} {f : Nat} {o b : E} : ev (.cmpF op f o b) ρ ω = (ev o ρ ω).bind (kCmpF1 op f b ρ) := by
  show R.bind _ _ = R.bind _ _
  congr 1
  funext x ω
  unfold kCmpF1
  congr 1
  funext y ω
  unfold kCmpF2
  cases fldV ω x.1 f <;> rfl
def oIn (op : COp) (y : PV) : Option PV → Store → R VM
  | some v, ω => liftB (cmpV op y v) ω
  | none, _ => .bad
def kInF2 (op : COp) (f : Nat) (y x : VM) (ω : Store) : R VM := oIn op y.1 (fldV ω x.1 f) ω
def kInF1 (op : COp) (f : Nat) (o : E) (ρ : Env) (y : VM) (ω : Store) : R VM := (ev o ρ ω).bind (kInF2 op f y)
theorem ev_inF {op : COp} {f : Nat} {o a : E} : ev (.inF op a f o) ρ ω = (ev a ρ ω).bind (kInF1 op f o ρ) := by
  show R.bind _ _ = R.bind _ _
  congr 1
  funext x ω
  unfold kInF1
  congr 1
  funext y ω
  unfold kInF2
  cases fldV ω y.1 f <;> rfl
def oBf (g : BF) : Option PV → Store → R VM
  | some v, ω => liftO (bfV g [v]) .own ω
  | none, _ => .bad
def kBfF (g : BF) (f : Nat) (x : VM) (ω : Store) : R VM := oBf g (fldV ω x.1 f) ω
theorem ev_bfF {g : BF} {f : Nat} {o : E} : ev (.bfF g f o) ρ ω = (ev o ρ ω).bind (kBfF g f) := by
  show R.bind _ _ = R.bind _ _
  congr 1
  funext x ω
  unfold kBfF
  cases fldV ω x.1 f <;> rfl
def kIdx2 (x y : VM) (ω : Store) : R VM := liftO (idxV x.1 y.1) .fz ω
def kIdx1 (i : E) (ρ : Env) (x : VM) (ω : Store) : R VM := (ev i ρ ω).bind (kIdx2 x)
theorem ev_idx {a i : E} : ev (.idx a i) ρ ω = (ev a ρ ω).bind (kIdx1 i ρ) := (rfl)
def kSlc3 (x l h : VM) (ω : Store) : R VM := liftO (slcV x.1 l.1 h.1) .own ω
def kSlc2 (hi : E) (ρ : Env) (x l : VM) (ω : Store) : R VM := if (optI l.1).isSome then (ev hi ρ ω).bind (kSlc3 x l) else .bad
def kSlc1 (lo hi : E) (ρ : Env) (x : VM) (ω : Store) : R VM := (ev lo ρ ω).bind (kSlc2 hi ρ x)
theorem ev_slc {a lo hi : E} : ev (.slc a lo hi) ρ ω = (ev a ρ ω).bind (kSlc1 lo hi ρ) := (rfl)
def kCall (f : Fn) (xs : List VM) (ω : Store) : R VM := (f xs ω).bind told
theorem ev_call {f : Fn} {es : Es} : ev (.call f es) ρ ω = (evA es ρ ω).bind (kCall f) := (rfl)
theorem told_keeps {x : VM} (h : keeps x = true) : told x ω = .ok x ω := by unfold told; rw [if_pos h]
theorem told_non {m : Md} : told (.non, m) ω = .ok (.non, m) ω := (rfl)
theorem told_bl {m : Md} {b : Bool} : told (.bl b, m) ω = .ok (.bl b, m) ω := (rfl)
theorem told_int {m : Md} {b : Int} : told (.int b, m) ω = .ok (.int b, m) ω := (rfl)
theorem told_str {m : Md} {b : Txt} : told (.str b, m) ω = .ok (.str b, m) ω := (rfl)
theorem told_tup {m : Md} {b : List PV} : told (.tup b, m) ω = .ok (.tup b, m) ω := (rfl)
theorem told_obj {m : Md} {b : Nat} : told (.obj b, m) ω = .ok (.obj b, m) ω := (rfl)
theorem told_own {x : PV} : told (x, .own) ω = .ok (x, .own) ω := told_keeps kp_own
theorem told_fz {x : PV} : told (x, .fz) ω = .ok (x, .fz) ω := told_keeps kp_fz
def kMth2 (f : Fn) (n : Nat) (xs : List VM) (ω : Store) : R VM := (f ((.obj n, .fz) :: xs) ω).bind told
def kMth1 (tb : List (Nat × Fn)) (es : Es) (ρ : Env) : VM → Store → R VM
  | (.obj n, _), ω => match ω[n]? with
      | some r => match tb.lookup r.cls with
        | some f => (evA es ρ ω).bind (kMth2 f n)
        | none => .bad
      | none => .bad
  | _, _ => .bad
theorem ev_meth {tb : List (Nat × Fn)} {o : E} {es : Es} : ev (.meth tb o es) ρ ω = (ev o ρ ω).bind (kMth1 tb es ρ) := by
  show R.bind _ _ = R.bind _ _
  congr 1
  funext x ω
  obtain ⟨x, m⟩ := x
  cases x <;> rfl
theorem mth_ok {tb : List (Nat × Fn)} {es : Es} {n : Nat} {m : Md} {r : Rec} {f : Fn} (h : ω[n]? = some r) (hf : tb.lookup r.cls = some f) : kMth1 tb es ρ (.obj n, m) ω = (evA es ρ ω).bind (kMth2 f n) := by
  unfold kMth1
  simp only [h, hf]
def kNew2 (n : Nat) (r : VM) (ω : Store) : R VM := if isNon r.1 then .ok (.obj n, .fz) ω else .bad
def kNew1 (c : Nat) (f : Fn) (xs : List VM) (ω : Store) : R VM := (f ((.obj ω.length, .fz) :: xs) (ω ++ [⟨c, []⟩])).bind (kNew2 ω.length)
theorem ev_new {c : Nat} {f : Fn} {es : Es} : ev (.new c f es) ρ ω = (evA es ρ ω).bind (kNew1 c f) := (rfl)
def kMkx (c : Nat) (xs : List PV) (ω : Store) : R VM := .ok (.exc c xs, .fz) ω
theorem ev_mkx {c : Nat} {es : Es} : ev (.mkx c es) ρ ω = (evK es ρ ω).bind (kMkx c) := (rfl)
def kBm2 (m : BM) (x : VM) (xs : List PV) (ω : Store) : R VM := liftO (bmV m x.1 xs) .fz ω
def kBm1 (m : BM) (es : Es) (ρ : Env) (x : VM) (ω : Store) : R VM := if bmOn m x.1 then (evK es ρ ω).bind (kBm2 m x) else .bad
theorem ev_bm {m : BM} {o : E} {es : Es} : ev (.bm m o es) ρ ω = (ev o ρ ω).bind (kBm1 m es ρ) := (rfl)
def kBf1 (f : BF) (x : VM) (ω : Store) : R VM := liftO (bfV f [x.1]) .own ω
def kXfld (tb : List (Nat × Nat)) (x : VM) (ω : Store) : R VM := liftO (xfV tb x.1) .fz ω
def xfO (xs : List PV) : Option Nat → Option PV
  | some j => xs[j]?
  | none => none
theorem ev_xfld {tb : List (Nat × Nat)} {o : E} : ev (.xfld tb o) ρ ω = (ev o ρ ω).bind (kXfld tb) := (rfl)
theorem told_exc {m : Md} {c : Nat} {b : List PV} : told (.exc c b, m) ω = .ok (.exc c b, m) ω := (rfl)
theorem mk_exc {m : Md} {c : Nat} {b : List PV} : mk (.exc c b) m = (.exc c b, .fz) := (rfl)
theorem mk_fz {x : PV} : mk x .fz = (x, .fz) := by unfold mk; split <;> rfl
theorem ev_bf1 {f : BF} {a : E} : ev (.bf1 f a) ρ ω = (ev a ρ ω).bind (kBf1 f) := (rfl)
def kBf22 (f : BF) (x y : VM) (ω : Store) : R VM := liftO (bfV f [x.1, y.1]) .own ω
def kBf21 (f : BF) (b : E) (ρ : Env) (x : VM) (ω : Store) : R VM := (ev b ρ ω).bind (kBf22 f x)
theorem ev_bf2 {f : BF} {a b : E} : ev (.bf2 f a b) ρ ω = (ev a ρ ω).bind (kBf21 f b ρ) := (rfl)
def isTys (ω : Store) (x : PV) (ts : List Ty) : Option Bool := ts.foldr (fun t b => b.bind fun b => (isTy ω x t).map (· || b)) (some false)
theorem isTys_nil {x : PV} : isTys ω x [] = some false := (rfl)
theorem isTys_cons {x : PV} {t : Ty} {ts : List Ty} : isTys ω x (t :: ts) = (isTys ω x ts).bind fun b => (isTy ω x t).map (· || b) := (rfl)
def kInst (ts : List Ty) (x : VM) (ω : Store) : R VM := liftB (isTys ω x.1 ts) ω
theorem ev_inst {a : E} {ts : List Ty} : ev (.inst a ts) ρ ω = (ev a ρ ω).bind (kInst ts) := (rfl)
/-- one turn of a comprehension -/
def cpE3 (y : VM) (ω : Store) : R (Option PV) := if keeps y then .ok (some y.1) ω else .bad
def cpE2 (e : E) (ρ' : Env) : Bool → Store → R (Option PV)
  | true, ω => (ev e ρ' ω).bind cpE3
  | false, ω => .ok none ω
def cpE (e : E) (tg : List Nat) (c : T) (ρ : Env) (x : PV) (ω : Store) : R (Option PV) := match assignT (wipeV (lendV ρ) tg) tg x with
  | none => .bad
  | some ρ' => ((evT c ρ' ω).bind (cpE2 e ρ')).calm
def kComp1 (e : E) (tg : List Nat) (c : T) (ρ : Env) (xs : List PV) (ω : Store) : R VM := (foldC (cpE e tg c ρ) xs [] ω).bind kLst
theorem ev_comp {e : E} {tg : List Nat} {it : It} {c : T} : ev (.comp e tg it c) ρ ω = (evI false it ρ ω).bind (kComp1 e tg c ρ) := by
  show R.bind _ _ = R.bind _ _
  congr 1
  funext xs ω
  unfold kComp1
  have : cpE e tg c ρ = fun x ω => match assignT (wipeV (lendV ρ) tg) tg x with
      | none => .bad
      | some ρ' => ((evT c ρ' ω).bind fun b ω => if b then (ev e ρ' ω).bind fun y ω => if keeps y then .ok (some y.1) ω else .bad else .ok none ω).calm := by
    funext x ω
    unfold cpE
    cases assignT (wipeV (lendV ρ) tg) tg x with
    | none => rfl
    | some ρ' =>
      show R.calm _ = R.calm _
      congr 2
      funext b ω
      cases b <;> rfl
  rw [this]
  rfl
/-! ### rows of expressions -/
theorem evK_nil : evK .nil ρ ω = .ok [] ω := (rfl)
def kK2 (x : PV) (xs : List PV) (ω : Store) : R (List PV) := .ok (x :: xs) ω
def kK1 (r : Es) (ρ : Env) (x : VM) (ω : Store) : R (List PV) := if keeps x then (evK r ρ ω).bind (kK2 x.1) else .bad
theorem evK_cons {e : E} {r : Es} : evK (.cons e r) ρ ω = (ev e ρ ω).bind (kK1 r ρ) := (rfl)
theorem evA_nil : evA .nil ρ ω = .ok [] ω := (rfl)
def kA2 (x : VM) (xs : List VM) (ω : Store) : R (List VM) := .ok ((x.1, x.2.give) :: xs) ω
def kA1 (r : Es) (ρ : Env) (x : VM) (ω : Store) : R (List VM) := (evA r ρ ω).bind (kA2 x)
theorem evA_cons {e : E} {r : Es} : evA (.cons e r) ρ ω = (ev e ρ ω).bind (kA1 r ρ) := (rfl)
/-! ### tests -/
def liftT : Option Bool → Store → R Bool
  | some b, ω => .ok b ω
  | none, _ => .bad
def kVal (x : VM) (ω : Store) : R Bool := liftT (truthy x.1) ω
theorem evT_tt : evT .tt ρ ω = .ok true ω := (rfl)
theorem evT_val {e : E} : evT (.val e) ρ ω = (ev e ρ ω).bind kVal := by
  show R.bind _ _ = R.bind _ _
  congr 1
  funext x ω
  unfold kVal
  cases truthy x.1 <;> rfl
def kTAnd (b : T) (ρ : Env) : Bool → Store → R Bool
  | true, ω => evT b ρ ω
  | false, ω => .ok false ω
theorem evT_and {a b : T} : evT (.and a b) ρ ω = (evT a ρ ω).bind (kTAnd b ρ) := by
  show R.bind _ _ = R.bind _ _
  congr 1
  funext x ω
  cases x <;> rfl
def kTOr (b : T) (ρ : Env) : Bool → Store → R Bool
  | true, ω => .ok true ω
  | false, ω => evT b ρ ω
theorem evT_or {a b : T} : evT (.or a b) ρ ω = (evT a ρ ω).bind (kTOr b ρ) := by
  show R.bind _ _ = R.bind _ _
  congr 1
  funext x ω
  cases x <;> rfl
def kTNot (b : Bool) (ω : Store) : R Bool := .ok (!b) ω
theorem evT_not {a : T} : evT (.not a) ρ ω = (evT a ρ ω).bind kTNot := (rfl)
/-! ### what is walked -/
def liftI : Option (List PV) → Store → R (List PV)
  | some xs, ω => .ok xs ω
  | none, _ => .bad
def kIVal (safe v : Bool) (x : VM) (ω : Store) : R (List PV) := if safe && x.2 == .lv || isD x.1 && !(safe && v) then .bad else liftI (itemsOf x.1) ω
theorem evI_val {s : Bool} {e : E} : evI s (.val e) ρ ω = (ev e ρ ω).bind (kIVal s (isVar e)) := by
  show R.bind _ _ = R.bind _ _
  congr 1
  funext x ω
  unfold kIVal
  split
  · rfl
  · cases itemsOf x.1 <;> rfl
def kRng1 : VM → Store → R (List PV)
  | (.int j, _), ω => if small j then .ok (upTo 0 j.toNat) ω else .bad
  | _, _ => .bad
theorem evI_rng1 {s : Bool} {a : E} : evI s (.rng1 a) ρ ω = (ev a ρ ω).bind kRng1 := by
  show R.bind _ _ = R.bind _ _
  congr 1
  funext x ω
  obtain ⟨x, m⟩ := x
  cases x <;> rfl
def kRng22 : VM → VM → Store → R (List PV)
  | (.int i, _), (.int j, _), ω => if small i && small j then .ok (upTo i (j - i).toNat) ω else .bad
  | _, _, _ => .bad
def kRng21 (b : E) (ρ : Env) (x : VM) (ω : Store) : R (List PV) := (ev b ρ ω).bind (kRng22 x)
theorem evI_rng2 {s : Bool} {a b : E} : evI s (.rng2 a b) ρ ω = (ev a ρ ω).bind (kRng21 b ρ) := by
  show R.bind _ _ = R.bind _ _
  congr 1
  funext x ω
  unfold kRng21
  congr 1
  funext y ω
  obtain ⟨x, m⟩ := x
  obtain ⟨y, m⟩ := y
  cases x <;> cases y <;> rfl
def kRngD2 : VM → VM → Store → R (List PV)
  | (.int i, _), (.int j, _), ω => if small i && small j then .ok (downTo i (i - j).toNat) ω else .bad
  | _, _, _ => .bad
def kRngD1 (b : E) (ρ : Env) (x : VM) (ω : Store) : R (List PV) := (ev b ρ ω).bind (kRngD2 x)
theorem evI_rngD {s : Bool} {a b : E} : evI s (.rngD a b) ρ ω = (ev a ρ ω).bind (kRngD1 b ρ) := by
  show R.bind _ _ = R.bind _ _
  congr 1
  funext x ω
  unfold kRngD1
  congr 1
  funext y ω
  obtain ⟨x, m⟩ := x
  obtain ⟨y, m⟩ := y
  cases x <;> cases y <;> rfl
def enumL (xs : List PV) : List PV := xs.zipIdx.map fun p => .tup [.int (p.2 : Nat), p.1]
def kEnum (s : Bool) : VM → Store → R (List PV)
  | (.lst xs, m), ω => if s && m == .lv then .bad else .ok (enumL xs) ω
  | _, _ => .bad
theorem evI_enum {s : Bool} {e : E} : evI s (.enum e) ρ ω = (ev e ρ ω).bind (kEnum s) := by
  show R.bind _ _ = R.bind _ _
  congr 1
  funext x ω
  obtain ⟨x, m⟩ := x
  cases x <;> first | rfl | (show (if _ then _ else _) = _; split <;> rfl)
def zipL (xs ys : List PV) : List PV := (xs.zip ys).map fun p => .tup [p.1, p.2]
def kZip2 (s : Bool) : VM → VM → Store → R (List PV)
  | (.lst xs, m), (.lst ys, n), ω => if s && (m == .lv || n == .lv) then .bad else .ok (zipL xs ys) ω
  | (.tup xs, m), (.tup ys, n), ω => if s && (m == .lv || n == .lv) then .bad else .ok (zipL xs ys) ω
  | _, _, _ => .bad
def kZip1 (s : Bool) (b : E) (ρ : Env) (x : VM) (ω : Store) : R (List PV) := (ev b ρ ω).bind (kZip2 s x)
theorem evI_zip {s : Bool} {a b : E} : evI s (.zip a b) ρ ω = (ev a ρ ω).bind (kZip1 s b ρ) := by
  show R.bind _ _ = R.bind _ _
  congr 1
  funext x ω
  unfold kZip1
  congr 1
  funext y ω
  obtain ⟨x, m⟩ := x
  obtain ⟨y, m⟩ := y
  cases x <;> cases y <;> first | rfl | (show (if _ then _ else _) = _; split <;> rfl)
def kRev (s : Bool) : VM → Store → R (List PV)
  | (.lst xs, m), ω => if s && m == .lv then .bad else .ok xs.reverse ω
  | _, _ => .bad
theorem evI_rev {s : Bool} {e : E} : evI s (.rev e) ρ ω = (ev e ρ ω).bind (kRev s) := by
  show R.bind _ _ = R.bind _ _
  congr 1
  funext x ω
  obtain ⟨x, m⟩ := x
  cases x <;> first | rfl | (show (if _ then _ else _) = _; split <;> rfl)
/-! ### statements -/
def xExpr (ρ : Env) (_ : VM) (ω : Store) : F := .nx ρ ω
theorem ex_expr {e : E} : ex (.expr e) ρ ω = (ev e ρ ω).to ρ (xExpr ρ) := (rfl)
def xSet (i : Nat) (ρ : Env) (x : VM) (ω : Store) : F := if keeps x then .nx (setV ρ i x) ω else .bad
theorem ex_set {i : Nat} {e : E} : ex (.set i e) ρ ω = (ev e ρ ω).to ρ (xSet i ρ) := (rfl)
def oNx : Option Env → Store → F
  | some ρ, ω => .nx ρ ω
  | none, _ => .bad
def xSetT (is : List Nat) (ρ : Env) (x : VM) (ω : Store) : F := oNx (assignT ρ is x.1) ω
theorem ex_setT {is : List Nat} {e : E} : ex (.setT is e) ρ ω = (ev e ρ ω).to ρ (xSetT is ρ) := by
  show R.to _ _ _ = R.to _ _ _
  congr 1
  funext x ω
  unfold xSetT
  cases assignT ρ is x.1 <;> rfl
def xPar2 (i j : Nat) (ρ : Env) (x y : VM) (ω : Store) : F := if keeps y then .nx (setV (setV ρ i (x.1, .fz)) j (y.1, .fz)) ω else .bad
def xPar1 (i j : Nat) (b : E) (ρ : Env) (x : VM) (ω : Store) : F := if keeps x then (ev b ρ ω).to ρ (xPar2 i j ρ x) else .bad
theorem ex_par {i j : Nat} {a b : E} : ex (.par i j a b) ρ ω = (ev a ρ ω).to ρ (xPar1 i j b ρ) := (rfl)
def oAug (i : Nat) (ρ : Env) : Option PV → Store → F
  | some z, ω => .nx (setV ρ i (z, .fz)) ω
  | none, _ => .bad
def xAug (i : Nat) (op : BOp) (ρ : Env) (x y : VM) (ω : Store) : F := oAug i ρ (augV op x.1 y.1) ω
theorem ex_aug {i : Nat} {op : BOp} {e : E} {x : VM} (h : getV ρ i = some x) : ex (.aug i op e) ρ ω = (ev e ρ ω).to ρ (xAug i op ρ x) := by
  show (match getV ρ i with
    | some x => (ev e ρ ω).to ρ fun y ω => match augV op x.1 y.1 with
      | some z => F.nx (setV ρ i (z, .fz)) ω
      | none => .bad
    | none => .bad) = _
  rw [h]
  show R.to _ _ _ = R.to _ _ _
  congr 1
  funext y ω
  unfold xAug
  cases augV op x.1 y.1 <;> rfl
def oPut (p : Pl) (ρ : Env) : Option PV → Store → F
  | some x, ω => plPut p x ρ ω
  | none, _ => .bad
def xPut3 (p : Pl) (ρ : Env) (v k : VM) (x : PV) (ω : Store) : F := oPut p ρ (storeV x k.1 v.1) ω
def xPut2 (p : Pl) (ρ : Env) (v : VM) (k : VM) (ω : Store) : F := (plGet p ρ ω).to ρ (xPut3 p ρ v k)
def xPut1 (p : Pl) (k e : E) (ρ : Env) (v : VM) (ω : Store) : F := if keeps v && plE p k && plIs isC p ρ ω then (ev k ρ ω).to ρ (xPut2 p ρ v) else .bad
theorem ex_put {p : Pl} {k e : E} : ex (.put p k e) ρ ω = (ev e ρ ω).to ρ (xPut1 p k e ρ) := by
  show R.to _ _ _ = R.to _ _ _
  congr 1
  funext v ω
  unfold xPut1
  congr 2
  funext k ω
  unfold xPut2
  congr 1
  funext x ω
  unfold xPut3
  cases storeV x k.1 v.1 <;> rfl
def oAugP3 (p : Pl) (ρ : Env) (x k : PV) : Option PV → Store → F
  | some z, ω => oPut p ρ (storeV x k z) ω
  | none, _ => .bad
def xAugP3 (p : Pl) (op : BOp) (ρ : Env) (x k old : PV) (v : VM) (ω : Store) : F := oAugP3 p ρ x k (augV op old v.1) ω
def oAugP2 (p : Pl) (op : BOp) (e : E) (ρ : Env) (x k : PV) : Option PV → Store → F
  | some old, ω => (ev e ρ ω).to ρ (xAugP3 p op ρ x k old)
  | none, _ => .bad
def xAugP2 (p : Pl) (op : BOp) (e : E) (ρ : Env) (k : VM) (x : PV) (ω : Store) : F := oAugP2 p op e ρ x k.1 (idxV x k.1) ω
def xAugP1 (p : Pl) (op : BOp) (e : E) (ρ : Env) (k : VM) (ω : Store) : F := (plGet p ρ ω).to ρ (xAugP2 p op e ρ k)
theorem ex_augP {p : Pl} {k e : E} {op : BOp} : ex (.augP p k op e) ρ ω = if pureE k && plE p e && plIs isC p ρ ω then (ev k ρ ω).to ρ (xAugP1 p op e ρ) else .bad := by
  show ite _ _ _ = ite _ _ _
  congr 2
  funext k ω
  unfold xAugP1
  congr 1
  funext x ω
  unfold xAugP2
  cases idxV x k.1 with
  | none => rfl
  | some old =>
    show R.to _ _ _ = R.to _ _ _
    congr 1
    funext v ω
    unfold xAugP3
    cases augV op old v.1 with
    | none => rfl
    | some z =>
      show _ = oPut _ _ _ _
      cases h : storeV x k.1 z <;> simp only [h] <;> rfl
def xFset (i f : Nat) (ρ : Env) (v : VM) (ω : Store) : Option VM → F
  | some (.obj n, _) => if isC v.1 && v.2 != .own || !roomF ω n then .bad else .nx ρ (setF ω n f v.1)
  | _ => .bad
def xFset1 (i f : Nat) (ρ : Env) (v : VM) (ω : Store) : F := xFset i f ρ v ω (getV ρ i)
theorem ex_fset {i f : Nat} {e : E} : ex (.fset i f e) ρ ω = (ev e ρ ω).to ρ (xFset1 i f ρ) := by
  show R.to _ _ _ = R.to _ _ _
  congr 1
def xApp2 (p : Pl) (ρ : Env) (v : VM) : PV → Store → F
  | .lst xs, ω => if xs.length < line then plPut p (.lst (xs ++ [v.1])) ρ ω else .bad
  | _, _ => .bad
def xApp1 (p : Pl) (ρ : Env) (v : VM) (ω : Store) : F := if keeps v then (plGet p ρ ω).to ρ (xApp2 p ρ v) else .bad
theorem ex_app {p : Pl} {e : E} : ex (.app p e) ρ ω = if plIs isL p ρ ω && plE p e then (ev e ρ ω).to ρ (xApp1 p ρ) else .bad := by
  show ite _ _ _ = ite _ _ _
  congr 2
  funext v ω
  unfold xApp1
  congr 2
  funext x ω
  cases x <;> rfl
def xIns3 (p : Pl) (ρ : Env) (v : VM) : VM → PV → Store → F
  | (.int i, _), .lst xs, ω => if 0 ≤ i ∧ i ≤ xs.length ∧ xs.length < line then plPut p (.lst (xs.take i.toNat ++ v.1 :: xs.drop i.toNat)) ρ ω else .bad
  | _, _, _ => .bad
def xIns2 (p : Pl) (ρ : Env) (i v : VM) (ω : Store) : F := if keeps v then (plGet p ρ ω).to ρ (xIns3 p ρ v i) else .bad
def xIns1 (p : Pl) (e : E) (ρ : Env) (i : VM) (ω : Store) : F := (ev e ρ ω).to ρ (xIns2 p ρ i)
theorem ex_ins {p : Pl} {i e : E} : ex (.ins p i e) ρ ω = if plIs isL p ρ ω && plE p i && plE p e then (ev i ρ ω).to ρ (xIns1 p e ρ) else .bad := by
  show ite _ _ _ = ite _ _ _
  congr 2
  funext i ω
  unfold xIns1
  congr 1
  funext v ω
  unfold xIns2
  congr 2
  funext x ω
  obtain ⟨i, m⟩ := i
  cases x <;> cases i <;> rfl
def xClr (p : Pl) (ρ : Env) : PV → Store → F
  | .lst _, ω => plPut p (.lst []) ρ ω
  | _, _ => .bad
theorem ex_clr {p : Pl} : ex (.clr p) ρ ω = (plGet p ρ ω).to ρ (xClr p ρ) := by
  show R.to _ _ _ = R.to _ _ _
  congr 1
  funext x ω
  cases x <;> rfl
def xRev (p : Pl) (ρ : Env) : PV → Store → F
  | .lst xs, ω => plPut p (.lst xs.reverse) ρ ω
  | _, _ => .bad
theorem ex_rev {p : Pl} : ex (.rev p) ρ ω = (plGet p ρ ω).to ρ (xRev p ρ) := by
  show R.to _ _ _ = R.to _ _ _
  congr 1
  funext x ω
  cases x <;> rfl
def xPop5 (is : List Nat) (y : PV) (ρ : Env) (ω : Store) : F := if is = [] then .nx ρ ω else oNx (assignT ρ is y) ω
def xPop4 (is : List Nat) (p : Pl) (ρ : Env) : Option (PV × PV) → Store → F
  | some (y, x), ω => (plPut p x ρ ω).seq (xPop5 is y)
  | none, _ => .bad
def xPop3 (is : List Nat) (p : Pl) (ρ : Env) (ks : List PV) (x : PV) (ω : Store) : F := xPop4 is p ρ (popV x ks) ω
def xPop2 (is : List Nat) (p : Pl) (ρ : Env) (ks : List PV) (ω : Store) : F := (plGet p ρ ω).to ρ (xPop3 is p ρ ks)
def xPop1 (is : List Nat) (p : Pl) (es : Es) (ρ : Env) (_ : PV) (ω : Store) : F := (evK es ρ ω).to ρ (xPop2 is p ρ)
theorem ex_pop {is : List Nat} {p : Pl} {es : Es} : ex (.pop is p es) ρ ω = if plEs p es then (plGet p ρ ω).to ρ (xPop1 is p es ρ) else .bad := by
  show ite _ _ _ = ite _ _ _
  congr 2
  funext x ω
  unfold xPop1
  congr 1
  funext ks ω
  unfold xPop2
  congr 1
  funext x ω
  unfold xPop3
  cases popV x ks with
  | none => rfl
  | some q =>
    obtain ⟨y, x⟩ := q
    show F.seq _ _ = F.seq _ _
    congr 1
    funext ρ ω
    unfold xPop5
    split
    · rfl
    · cases assignT ρ is y <;> rfl
def xAP2 (i j : Nat) (ρ : Env) (xs : List PV) : Option (PV × PV) → Store → F
  | some (y, x), ω => if xs.length < line then .nx (setV (setV ρ j (x, .own)) i (.lst (xs ++ [y]), .own)) ω else .bad
  | none, _ => .bad
def xAP1 (i j : Nat) (ρ : Env) (k : VM) (ω : Store) : Option VM → Option VM → F
  | some (.lst xs, _), some (x, _) => xAP2 i j ρ xs (popV x [k.1]) ω
  | _, _ => .bad
def xAP (i j : Nat) (ρ : Env) (k : VM) (ω : Store) : F := xAP1 i j ρ k ω (getV ρ i) (getV ρ j)
theorem ex_appPop {i j : Nat} {e : E} : ex (.appPop i j e) ρ ω = if i != j && plIs isL (.var i) ρ ω && plIs isL (.var j) ρ ω then (ev e ρ ω).to ρ (xAP i j ρ) else .bad := by
  show ite _ _ _ = ite _ _ _
  congr 2
  funext k ω
  unfold xAP
  cases getV ρ i with
  | none => rfl
  | some x =>
    obtain ⟨x, m⟩ := x
    cases getV ρ j with
    | none => cases x <;> rfl
    | some y =>
      obtain ⟨y, n⟩ := y
      cases x with
      | lst xs => show _ = xAP2 i j ρ xs (popV y [k.1]) ω; cases h : popV y [k.1] <;> simp only [h] <;> rfl
      | _ => rfl
theorem ex_frz {is : List Nat} {s : S} : ex (.frz is s) ρ ω = ex s (is.foldl freeze ρ) ω := (rfl)
noncomputable def xIf (a b : Ss) (ρ : Env) : Bool → Store → F
  | true, ω => exs a ρ ω
  | false, ω => exs b ρ ω
end
section
variable {ρ : Env} {ω : Store}
theorem ex_ifs {c : T} {a b : Ss} : ex (.ifs c a b) ρ ω = (evT c ρ ω).to ρ (xIf a b ρ) := by
  show R.to _ _ _ = R.to _ _ _
  congr 1
  funext t ω
  cases t <;> rfl
theorem ex_whl {c : T} {b : Ss} : ex (.whl c b) ρ ω = whl (evT c) (exs b) ρ ω := (rfl)
noncomputable def xFor (tg : List Nat) (b : Ss) (ρ : Env) (xs : List PV) (ω : Store) : F := forL (exs b) tg xs ρ ω
theorem ex_for {tg : List Nat} {it : It} {b : Ss} : ex (.for_ tg it b) ρ ω = ((evI true it ρ ω).to ρ (xFor tg b ρ)).calm (lockI it ρ) := (rfl)
def xRet (x : VM) (ω : Store) : F := if keeps x then .rt x ω else .bad
theorem ex_ret {e : E} : ex (.ret e) ρ ω = (ev e ρ ω).to ρ (fun x ω => xRet x ω) := (rfl)
def oRet : Option VM → Store → F
  | some x, ω => xRet x ω
  | none, _ => .bad
theorem ex_retV {i : Nat} : ex (.retV i) ρ ω = oRet (getV ρ i) ω := by
  conv => lhs; unfold ex
  cases getV ρ i <;> rfl
def xRais (ρ : Env) : VM → Store → F
  | (.exc c xs, _), ω => .exc c xs ρ ω
  | _, _ => .bad
theorem ex_rais {e : E} : ex (.rais e) ρ ω = (ev e ρ ω).to ρ (xRais ρ) := by
  show R.to _ _ _ = R.to _ _ _
  congr 1
  funext x ω
  obtain ⟨x, m⟩ := x
  cases x <;> rfl
noncomputable def xTry (hs : Hs) : F → F
  | .exc c xs ρ ω => catch_ c xs ρ ω (exh hs)
  | f => f
theorem ex_try {b : Ss} {hs : Hs} : ex (.try_ b hs) ρ ω = xTry hs (exs b ρ ω) := by
  conv => lhs; unfold ex
  cases exs b ρ ω <;> rfl
theorem try_exc {hs : Hs} {c : Nat} {xs : List PV} : xTry hs (.exc c xs ρ ω) = catch_ c xs ρ ω (exh hs) := (rfl)
theorem try_nx {hs : Hs} : xTry hs (.nx ρ ω) = .nx ρ ω := (rfl)
theorem try_bk {hs : Hs} : xTry hs (.bk ρ ω) = .bk ρ ω := (rfl)
theorem try_ct {hs : Hs} : xTry hs (.ct ρ ω) = .ct ρ ω := (rfl)
theorem try_rt {hs : Hs} {v : VM} : xTry hs (.rt v ω) = .rt v ω := (rfl)
theorem exh_nil : exh .nil = [] := (rfl)
theorem exh_cons {cs : List Nat} {i : Option Nat} {b : Ss} {r : Hs} : exh (.cons cs i b r) = (cs, i, exs b) :: exh r := (rfl)
def gone (i : Nat) : F → F
  | .nx ρ ω => .nx (ρ.set i none) ω
  | .bk ρ ω => .bk (ρ.set i none) ω
  | .ct ρ ω => .ct (ρ.set i none) ω
  | .rt v ω => .rt v ω
  | _ => .bad
def ctch (b : Bool) (c : Nat) (xs : List PV) (ρ : Env) (ω : Store) (i : Option Nat) (f : Env → Store → F) (r : List (List Nat × Option Nat × (Env → Store → F))) : F := match b, i with
  | true, none => (f ρ ω).calm true
  | true, some i => gone i (f (setV ρ i (.exc c xs, .fz)) ω)
  | false, _ => catch_ c xs ρ ω r
theorem catch_nil {c : Nat} {xs : List PV} : catch_ c xs ρ ω [] = .exc c xs ρ ω := (rfl)
theorem catch_cons {c : Nat} {xs : List PV} {cs : List Nat} {i : Option Nat} {f : Env → Store → F} {r : List (List Nat × Option Nat × (Env → Store → F))} : catch_ c xs ρ ω ((cs, i, f) :: r) = ctch (cs.contains c) c xs ρ ω i f r := by
  show (if cs.contains c then _ else _) = _
  cases h : cs.contains c with
  | false => rw [if_neg (by decide)]; rfl
  | true =>
    rw [if_pos rfl]
    cases i with
    | none => rfl
    | some i =>
      show _ = gone i _
      dsimp only
      cases f (setV ρ i (.exc c xs, .fz)) ω <;> rfl
theorem gone_nx {i : Nat} : gone i (.nx ρ ω) = .nx (ρ.set i none) ω := (rfl)
theorem gone_bk {i : Nat} : gone i (.bk ρ ω) = .bk (ρ.set i none) ω := (rfl)
theorem gone_ct {i : Nat} : gone i (.ct ρ ω) = .ct (ρ.set i none) ω := (rfl)
theorem gone_rt {i : Nat} {v : VM} : gone i (.rt v ω) = .rt v ω := (rfl)
theorem cn_nil {c : Nat} : ([] : List Nat).contains c = false := (rfl)
theorem cn_cons {a c : Nat} {l : List Nat} : (a :: l).contains c = (c == a || l.contains c) := List.contains_cons
theorem lk_nil {α : Type} {a : Nat} : List.lookup a ([] : List (Nat × α)) = none := (rfl)
theorem lk_cons {α : Type} {a k : Nat} {b : α} {l : List (Nat × α)} : List.lookup a ((k, b) :: l) = if (a == k) = true then some b else List.lookup a l := by
  rw [List.lookup_cons]
  cases a == k <;> rfl
theorem xf_exc {tb : List (Nat × Nat)} {c : Nat} {xs : List PV} : xfV tb (.exc c xs) = xfO xs (tb.lookup c) := by
  show (tb.lookup c).bind _ = _
  cases tb.lookup c <;> rfl
theorem xo_some {xs : List PV} {j : Nat} : xfO xs (some j) = xs[j]? := (rfl)
theorem gi_0 {x : PV} {xs : List PV} : (x :: xs)[0]? = some x := (rfl)
theorem gi_s {x : PV} {xs : List PV} {j : Nat} : (x :: xs)[j + 1]? = xs[j]? := (rfl)
theorem ex_brk : ex .brk ρ ω = .bk ρ ω := (rfl)
theorem ex_cnt : ex .cnt ρ ω = .ct ρ ω := (rfl)
theorem ex_pass : ex .pass ρ ω = .nx ρ ω := (rfl)
theorem exs_nil : exs .nil ρ ω = .nx ρ ω := (rfl)
theorem exs_cons {s : S} {r : Ss} : exs (.cons s r) ρ ω = (ex s ρ ω).seq (exs r) := (rfl)
theorem rdV_some {x : PV} {m : Md} : rdV (some (x, m)) ω = .ok (x, rdM m) ω := (rfl)
end
end PVL

/-! PVL: reckoning with what a def means (core Lean). -/
namespace PVL
/-! ### loops -/
theorem whlN_mono {c : Env → Store → R Bool} {f : Env → Store → F} : ∀ (n : Nat) (ρ : Env) (ω : Store), whlN c f n ρ ω ≠ .bad → whlN c f (n + 1) ρ ω = whlN c f n ρ ω
  | 0, ρ, ω, h => absurd rfl h
  | n + 1, ρ, ω, h => by
    have e1 : whlN c f (n + 1 + 1) ρ ω = (c ρ ω).to ρ fun b ω => if b then (match f ρ ω with
      | .nx ρ ω => whlN c f (n + 1) ρ ω
      | .ct ρ ω => whlN c f (n + 1) ρ ω
      | .bk ρ ω => .nx ρ ω
      | r => r) else .nx ρ ω := rfl
    have e2 : whlN c f (n + 1) ρ ω = (c ρ ω).to ρ fun b ω => if b then (match f ρ ω with
      | .nx ρ ω => whlN c f n ρ ω
      | .ct ρ ω => whlN c f n ρ ω
      | .bk ρ ω => .nx ρ ω
      | r => r) else .nx ρ ω := rfl
    rw [e2] at h
    rw [e1, e2]
    cases ec : c ρ ω with
    | bad => rfl
    | exc c xs ω => rfl
    | ok b ω1 =>
      cases b with
      | false => rfl
      | true =>
        rw [ec] at h
        show (match f ρ ω1 with
          | .nx ρ ω => whlN c f (n + 1) ρ ω
          | .ct ρ ω => whlN c f (n + 1) ρ ω
          | .bk ρ ω => F.nx ρ ω
          | r => r) = (match f ρ ω1 with
          | .nx ρ ω => whlN c f n ρ ω
          | .ct ρ ω => whlN c f n ρ ω
          | .bk ρ ω => F.nx ρ ω
          | r => r)
        have h : (match f ρ ω1 with
          | .nx ρ ω => whlN c f n ρ ω
          | .ct ρ ω => whlN c f n ρ ω
          | .bk ρ ω => F.nx ρ ω
          | r => r) ≠ .bad := h
        cases ef : f ρ ω1 with
        | nx ρ2 ω2 => rw [ef] at h; exact whlN_mono n ρ2 ω2 h
        | ct ρ2 ω2 => rw [ef] at h; exact whlN_mono n ρ2 ω2 h
        | _ => rfl
theorem whlN_le {c : Env → Store → R Bool} {f : Env → Store → F} {n m : Nat} {ρ : Env} {ω : Store} (h : whlN c f n ρ ω ≠ .bad) (hm : n ≤ m) : whlN c f m ρ ω = whlN c f n ρ ω := by
  induction hm with
  | refl => rfl
  | step _ ih => rw [whlN_mono _ _ _ (by rw [ih]; exact h), ih]
theorem whl_of {c : Env → Store → R Bool} {f : Env → Store → F} {n : Nat} {ρ : Env} {ω : Store} (h : whlN c f n ρ ω ≠ .bad) : whl c f ρ ω = whlN c f n ρ ω := by
  have hx : ∃ n, whlN c f n ρ ω ≠ .bad := ⟨n, h⟩
  unfold whl
  rw [dif_pos hx]
  have h2 := Classical.choose_spec hx
  rcases Nat.le_total n (Classical.choose hx) with q | q
  · exact whlN_le h q
  · exact (whlN_le h2 q).symm
theorem whl_eq (c : Env → Store → R Bool) (f : Env → Store → F) (ρ : Env) (ω : Store) : whl c f ρ ω = (c ρ ω).to ρ fun b ω => if b then (match f ρ ω with
      | .nx ρ ω => whl c f ρ ω
      | .ct ρ ω => whl c f ρ ω
      | .bk ρ ω => .nx ρ ω
      | r => r) else .nx ρ ω := by
  have e2 : ∀ n ρ ω, whlN c f (n + 1) ρ ω = (c ρ ω).to ρ fun b ω => if b then (match f ρ ω with
      | .nx ρ ω => whlN c f n ρ ω
      | .ct ρ ω => whlN c f n ρ ω
      | .bk ρ ω => .nx ρ ω
      | r => r) else .nx ρ ω := fun n ρ ω => rfl
  have nb : ∀ ρ ω, (∀ n, whlN c f n ρ ω = .bad) → whl c f ρ ω = .bad := fun ρ ω h => by
    unfold whl
    rw [dif_neg]
    rintro ⟨n, hn⟩
    exact hn (h n)
  have key : ∀ ρ2 ω2, (∃ n, whlN c f n ρ2 ω2 ≠ .bad) ∨ whl c f ρ2 ω2 = .bad := fun ρ2 ω2 => by
    by_cases h : ∃ n, whlN c f n ρ2 ω2 ≠ .bad
    · exact .inl h
    · refine .inr (nb ρ2 ω2 fun n => ?_)
      by_cases h2 : whlN c f n ρ2 ω2 = .bad
      · exact h2
      · exact absurd ⟨n, h2⟩ h
  cases ec : c ρ ω with
  | bad =>
    refine nb ρ ω fun n => ?_
    cases n with
    | zero => rfl
    | succ n => rw [e2, ec]; rfl
  | exc d xs ω1 => rw [whl_of (n := 1) (by rw [e2, ec]; simp [R.to]), e2, ec]; rfl
  | ok b ω1 =>
    cases b with
    | false => rw [whl_of (n := 1) (by rw [e2, ec]; simp [R.to]), e2, ec]; rfl
    | true =>
      show whl c f ρ ω = (match f ρ ω1 with
        | .nx ρ ω => whl c f ρ ω
        | .ct ρ ω => whl c f ρ ω
        | .bk ρ ω => .nx ρ ω
        | r => r)
      have e3 : ∀ n, whlN c f (n + 1) ρ ω = (match f ρ ω1 with
        | .nx ρ ω => whlN c f n ρ ω
        | .ct ρ ω => whlN c f n ρ ω
        | .bk ρ ω => .nx ρ ω
        | r => r) := fun n => by rw [e2, ec]; rfl
      cases ef : f ρ ω1 with
      | nx ρ2 ω2 =>
        rw [ef] at e3
        rcases key ρ2 ω2 with ⟨n, hn⟩ | hb
        · rw [whl_of (n := n + 1) (by rw [e3]; exact hn), e3]; exact (whl_of hn).symm
        · show whl c f ρ ω = whl c f ρ2 ω2
          rw [hb]
          refine nb ρ ω fun n => ?_
          cases n with
          | zero => rfl
          | succ n =>
            rw [e3]
            show whlN c f n ρ2 ω2 = .bad
            by_cases h2 : whlN c f n ρ2 ω2 = .bad
            · exact h2
            · rw [← whl_of h2]; exact hb
      | ct ρ2 ω2 =>
        rw [ef] at e3
        rcases key ρ2 ω2 with ⟨n, hn⟩ | hb
        · rw [whl_of (n := n + 1) (by rw [e3]; exact hn), e3]; exact (whl_of hn).symm
        · show whl c f ρ ω = whl c f ρ2 ω2
          rw [hb]
          refine nb ρ ω fun n => ?_
          cases n with
          | zero => rfl
          | succ n =>
            rw [e3]
            show whlN c f n ρ2 ω2 = .bad
            by_cases h2 : whlN c f n ρ2 ω2 = .bad
            · exact h2
            · rw [← whl_of h2]; exact hb
      | bk ρ2 ω2 => rw [whl_of (n := 1) (by rw [e3, ef]; simp), e3, ef]
      | rt v ω2 => rw [whl_of (n := 1) (by rw [e3, ef]; simp), e3, ef]
      | exc d xs ρ2 ω2 => rw [whl_of (n := 1) (by rw [e3, ef]; simp), e3, ef]
      | bad =>
        refine nb ρ ω fun n => ?_
        cases n with
        | zero => rfl
        | succ n => rw [e3, ef]
/-! ### parts of a suite -/
def Ss.take : Nat → Ss → Ss
  | 0, _ => .nil
  | _, .nil => .nil
  | n + 1, .cons s r => .cons s (Ss.take n r)
def Ss.drop : Nat → Ss → Ss
  | 0, s => s
  | _, .nil => .nil
  | n + 1, .cons _ r => Ss.drop n r
theorem F.seq_seq (f : F) (k l : Env → Store → F) : (f.seq k).seq l = f.seq fun ρ ω => (k ρ ω).seq l := by cases f <;> rfl
theorem F.seq_nx (f : F) : f.seq (fun ρ ω => .nx ρ ω) = f := by cases f <;> rfl
theorem exs_split : ∀ (n : Nat) (s : Ss) (ρ : Env) (ω : Store), exs s ρ ω = (exs (s.take n) ρ ω).seq (exs (s.drop n))
  | 0, s, ρ, ω => by simp [Ss.take, Ss.drop, exs, F.seq]
  | n + 1, .nil, ρ, ω => by simp [Ss.take, Ss.drop, exs, F.seq]
  | n + 1, .cons s r, ρ, ω => by
    simp only [Ss.take, Ss.drop, exs]
    rw [F.seq_seq]
    congr 1
    funext ρ ω
    exact exs_split n r ρ ω
theorem exs_step {n : Nat} {s : Ss} {ρ ρ' : Env} {ω ω' : Store} (h : exs (s.take n) ρ ω = .nx ρ' ω') : exs s ρ ω = exs (s.drop n) ρ' ω' := by rw [exs_split n s, h]; rfl
theorem Ss.drop_drop : ∀ (n m : Nat) (s : Ss), Ss.drop m (Ss.drop n s) = Ss.drop (n + m) s
  | 0, m, s => by rw [Nat.zero_add]; rfl
  | n + 1, 0, s => by cases s <;> rfl
  | n + 1, m + 1, .nil => by rw [Nat.add_right_comm]; rfl
  | n + 1, m + 1, .cons s r => by rw [show n + 1 + (m + 1) = (n + (m + 1)) + 1 by omega]; exact Ss.drop_drop n (m + 1) r
/-! ### numbers -/
theorem log2_lt {n k : Nat} (h : n < 2 ^ k) (hk : 0 < k) : n.log2 < k := by
  by_cases h0 : n = 0
  · subst h0; simpa using hk
  · exact (Nat.log2_lt h0).mpr h
theorem mulOk_log {i j : Int} (h : i.natAbs.log2 + j.natAbs.log2 < 100000000) : mulOk i j = true := decide_eq_true h
theorem mulOk_small {i j : Int} {k : Nat} (hk : k ≤ 400000) (hi : i.natAbs < 2 ^ k) (hj : j.natAbs < 2 ^ k) : mulOk i j = true := by
  have h1 : i.natAbs.log2 ≤ k := by
    by_cases h0 : i.natAbs = 0
    · rw [h0]; exact Nat.zero_le _
    · exact Nat.le_of_lt ((Nat.log2_lt h0).mpr hi)
  have h2 : j.natAbs.log2 ≤ k := by
    by_cases h0 : j.natAbs = 0
    · rw [h0]; exact Nat.zero_le _
    · exact Nat.le_of_lt ((Nat.log2_lt h0).mpr hj)
  exact mulOk_log (by omega)
/-- a product with a script's number -/
theorem mul_log {i j : Int} (h : i.natAbs.log2 + j.natAbs.log2 < 100000000) : binV .mul (.int i) (.int j) = some (.int (i * j)) := by
  show (if mulOk i j then _ else _) = _
  rw [mulOk_log h, if_pos rfl]
theorem binV_mul {i j : Int} {k : Nat} (hk : k ≤ 400000) (hi : i.natAbs < 2 ^ k) (hj : j.natAbs < 2 ^ k) : binV .mul (.int i) (.int j) = some (.int (i * j)) := by
  show (if mulOk i j then _ else _) = _
  rw [mulOk_small hk hi hj, if_pos rfl]
theorem binV_fdiv {i j : Int} (h0 : 0 < j) (hj : j.natAbs < 2 ^ 9000) : binV .fdiv (.int i) (.int j) = some (.int (i / j)) := by
  show (if 0 < j ∧ j.natAbs.log2 < 9000 then _ else _) = _
  rw [if_pos ⟨h0, log2_lt hj (by decide)⟩]
theorem binV_mod {i j : Int} (h0 : 0 < j) : binV .mod (.int i) (.int j) = some (.int (i % j)) := by
  show (if 0 < j then _ else _) = _
  rw [if_pos h0]
theorem ixAt_nat {n k : Nat} (h : k < n) : ixAt n (k : Int) = some k := by
  unfold ixAt
  rw [if_pos (by omega), if_pos (by omega)]
  simp
end PVL
namespace PVL
/-! ### for -/
def F.Nx (Q : Env → Store → Prop) : F → Prop
  | .nx ρ ω => Q ρ ω
  | _ => False
/-- one turn of a loop -/
def F.Turn (I : Env → Store → Prop) (R : F → Prop) : F → Prop
  | .nx ρ ω => I ρ ω
  | .ct ρ ω => I ρ ω
  | .bk ρ ω => R (.nx ρ ω)
  | r => R r
/-- the end of a def -/
def F.Out (Q : R VM → Prop) : F → Prop
  | .nx _ ω => Q (.ok (.non, .fz) ω)
  | .rt v ω => Q (.ok v ω)
  | .exc c xs _ ω => Q (.exc c xs ω)
  | _ => False
/-- names without a value yet -/
def pad : Nat → Env
  | 0 => []
  | n + 1 => none :: pad n
theorem pad_eq : ∀ n, List.replicate n none = pad n
  | 0 => rfl
  | n + 1 => by rw [List.replicate_succ, pad_eq]; rfl
def envOf : List VM → Nat → Env
  | [], n => pad n
  | x :: xs, n => some x :: envOf xs n
theorem envOf_eq : ∀ (xs : List VM) (n : Nat), envOf xs n = xs.map some ++ List.replicate n none
  | [], n => (pad_eq n).symm
  | x :: xs, n => by
    show some x :: envOf xs n = some x :: (xs.map some ++ List.replicate n none)
    rw [envOf_eq xs n]
theorem den_out {np n : Nat} {b : Ss} {xs : List VM} {ω : Store} {Q : R VM → Prop} (hn : xs.length = np) (h : F.Out Q (exs b (envOf xs (n - np)) ω)) : Q (den np n b xs ω) := by
  rw [envOf_eq] at h
  unfold den
  rw [if_pos hn]
  cases e : exs b (xs.map some ++ List.replicate (n - np) none) ω with
  | nx ρ ω => rw [e] at h; exact h
  | rt v ω => rw [e] at h; exact h
  | exc c xs ρ ω => rw [e] at h; exact h
  | bk ρ ω => rw [e] at h; exact h.elim
  | ct ρ ω => rw [e] at h; exact h.elim
  | bad => rw [e] at h; exact h.elim
theorem forL_turn {f : Env → Store → F} {tg : List Nat} {R : F → Prop} (I : Nat → Env → Store → Prop) : ∀ (xs : List PV) (n : Nat) (ρ : Env) (ω : Store),
    (∀ i x ρ ω, xs[i]? = some x → I (n + i) ρ ω → ∃ ρ1, assignT ρ tg x = some ρ1 ∧ F.Turn (I (n + i + 1)) R (f ρ1 ω)) → (∀ ρ ω, I (n + xs.length) ρ ω → R (.nx ρ ω)) → I n ρ ω → R (forL f tg xs ρ ω)
  | [], n, ρ, ω, _, fin, h => fin ρ ω h
  | x :: xs, n, ρ, ω, step, fin, h => by
    obtain ⟨ρ1, e1, h1⟩ := step 0 x ρ ω rfl h
    unfold forL
    rw [e1]
    have go : ∀ ρ2 ω2, I (n + 1) ρ2 ω2 → R (forL f tg xs ρ2 ω2) := fun ρ2 ω2 h2 =>
      forL_turn I xs (n + 1) ρ2 ω2 (fun i x ρ ω hx hi => by
        have := step (i + 1) x ρ ω (by simpa using hx) (by rw [show n + (i + 1) = n + 1 + i by omega]; exact hi)
        rw [show n + (i + 1) + 1 = n + 1 + i + 1 by omega] at this
        exact this) (fun ρ ω hi => fin ρ ω (by rw [show n + (x :: xs).length = n + 1 + xs.length by rw [List.length_cons]; omega]; exact hi)) h2
    show R (match f ρ1 ω with
      | .nx ρ ω => forL f tg xs ρ ω
      | .ct ρ ω => forL f tg xs ρ ω
      | .bk ρ ω => .nx ρ ω
      | r => r)
    cases e : f ρ1 ω with
    | nx ρ2 ω2 => rw [e] at h1; exact go _ _ h1
    | ct ρ2 ω2 => rw [e] at h1; exact go _ _ h1
    | bk ρ2 ω2 => rw [e] at h1; exact h1
    | rt v ω2 => rw [e] at h1; exact h1
    | exc c ys ρ2 ω2 => rw [e] at h1; exact h1
    | bad => rw [e] at h1; exact h1
theorem forL_wp {f : Env → Store → F} {tg : List Nat} {R : F → Prop} {xs : List PV} {ρ : Env} {ω : Store} (I : Nat → Env → Store → Prop) (h0 : I 0 ρ ω) (step : ∀ i x ρ ω, xs[i]? = some x → I i ρ ω → ∃ ρ1, assignT ρ tg x = some ρ1 ∧ F.Turn (I (i + 1)) R (f ρ1 ω)) (fin : ∀ ρ ω, I xs.length ρ ω → R (.nx ρ ω)) : R (forL f tg xs ρ ω) :=
  forL_turn I xs 0 ρ ω (fun i x ρ ω hx hi => by rw [Nat.zero_add] at hi ⊢; exact step i x ρ ω hx hi) (fun ρ ω hi => by rw [Nat.zero_add] at hi; exact fin ρ ω hi) h0
/-- a for whose turns all go on, the store as it is -/
theorem forL_st {f : Env → Store → F} {tg : List Nat} {R : F → Prop} {xs : List PV} {ρ : Env} {ω : Store} (I : Nat → Env → Prop) (h0 : I 0 ρ) (step : ∀ i x ρ, xs[i]? = some x → I i ρ → ∃ ρ1, assignT ρ tg x = some ρ1 ∧ F.Turn (fun ρ ω' => ω' = ω ∧ I (i + 1) ρ) R (f ρ1 ω)) (fin : ∀ ρ, I xs.length ρ → R (.nx ρ ω)) : R (forL f tg xs ρ ω) :=
  forL_wp (fun i ρ ω' => ω' = ω ∧ I i ρ) ⟨rfl, h0⟩ (fun i x ρ ω' hx hi => by obtain ⟨rfl, hi⟩ := hi; exact step i x ρ hx hi) (fun ρ ω' hi => by obtain ⟨rfl, hi⟩ := hi; exact fin ρ hi)
theorem whl_wp {c : Env → Store → R Bool} {f : Env → Store → F} {R : F → Prop} (I : Nat → Env → Store → Prop)
    (step : ∀ n ρ ω, I n ρ ω → ∃ b ω1, c ρ ω = .ok b ω1 ∧ if b then F.Turn (fun ρ ω => ∃ m, m < n ∧ I m ρ ω) R (f ρ ω1) else R (.nx ρ ω1)) : ∀ (n : Nat) (ρ : Env) (ω : Store), I n ρ ω → R (whl c f ρ ω) := by
  intro n
  induction n using Nat.strongRecOn with
  | ind n ih =>
    intro ρ ω h
    obtain ⟨b, ω1, e, h1⟩ := step n ρ ω h
    rw [whl_eq, e]
    cases b with
    | false => exact h1
    | true =>
      replace h1 : F.Turn (fun ρ ω => ∃ m, m < n ∧ I m ρ ω) R (f ρ ω1) := h1
      show R (match f ρ ω1 with
        | .nx ρ ω => whl c f ρ ω
        | .ct ρ ω => whl c f ρ ω
        | .bk ρ ω => .nx ρ ω
        | r => r)
      cases e : f ρ ω1 with
      | nx ρ2 ω2 => rw [e] at h1; obtain ⟨m, hm, hi⟩ := h1; exact ih m hm _ _ hi
      | ct ρ2 ω2 => rw [e] at h1; obtain ⟨m, hm, hi⟩ := h1; exact ih m hm _ _ hi
      | bk ρ2 ω2 => rw [e] at h1; exact h1
      | rt v ω2 => rw [e] at h1; exact h1
      | exc c ys ρ2 ω2 => rw [e] at h1; exact h1
      | bad => rw [e] at h1; exact h1
theorem turn_nx {I : Env → Store → Prop} {R : F → Prop} {ρ : Env} {ω : Store} : F.Turn I R (.nx ρ ω) = I ρ ω := (rfl)
theorem turn_ct {I : Env → Store → Prop} {R : F → Prop} {ρ : Env} {ω : Store} : F.Turn I R (.ct ρ ω) = I ρ ω := (rfl)
theorem turn_bk {I : Env → Store → Prop} {R : F → Prop} {ρ : Env} {ω : Store} : F.Turn I R (.bk ρ ω) = R (.nx ρ ω) := (rfl)
theorem turn_rt {I : Env → Store → Prop} {R : F → Prop} {v : VM} {ω : Store} : F.Turn I R (.rt v ω) = R (.rt v ω) := (rfl)
theorem turn_exc {I : Env → Store → Prop} {R : F → Prop} {c : Nat} {xs : List PV} {ρ : Env} {ω : Store} : F.Turn I R (.exc c xs ρ ω) = R (.exc c xs ρ ω) := (rfl)
theorem out_nx {Q : R VM → Prop} {ρ : Env} {ω : Store} : F.Out Q (.nx ρ ω) = Q (.ok (.non, .fz) ω) := (rfl)
theorem out_rt {Q : R VM → Prop} {v : VM} {ω : Store} : F.Out Q (.rt v ω) = Q (.ok v ω) := (rfl)
theorem out_exc {Q : R VM → Prop} {c : Nat} {xs : List PV} {ρ : Env} {ω : Store} : F.Out Q (.exc c xs ρ ω) = Q (.exc c xs ω) := (rfl)
theorem nx_nx {Q : Env → Store → Prop} {ρ : Env} {ω : Store} : F.Nx Q (.nx ρ ω) = Q ρ ω := (rfl)
/-- a for within a suite -/
theorem for_wp {f : Env → Store → F} {tg : List Nat} {P : F → Prop} {k : Env → Store → F} {xs : List PV} {ρ : Env} {ω : Store} (I : Nat → Env → Store → Prop) (h0 : I 0 ρ ω) (step : ∀ i x ρ ω, xs[i]? = some x → I i ρ ω → ∃ ρ1, assignT ρ tg x = some ρ1 ∧ F.Turn (I (i + 1)) (fun g => P (g.seq k)) (f ρ1 ω)) (fin : ∀ ρ ω, I xs.length ρ ω → P (k ρ ω)) : P (F.seq (forL f tg xs ρ ω) k) :=
  forL_wp (R := fun g => P (g.seq k)) I h0 step fin
theorem for_st {f : Env → Store → F} {tg : List Nat} {P : F → Prop} {k : Env → Store → F} {xs : List PV} {ρ : Env} {ω : Store} (I : Nat → Env → Prop) (h0 : I 0 ρ) (step : ∀ i x ρ, xs[i]? = some x → I i ρ → ∃ ρ1, assignT ρ tg x = some ρ1 ∧ F.Turn (fun ρ ω' => ω' = ω ∧ I (i + 1) ρ) (fun g => P (g.seq k)) (f ρ1 ω)) (fin : ∀ ρ, I xs.length ρ → P (k ρ ω)) : P (F.seq (forL f tg xs ρ ω) k) :=
  forL_st (R := fun g => P (g.seq k)) I h0 step fin
theorem while_wp {c : Env → Store → R Bool} {f : Env → Store → F} {P : F → Prop} {k : Env → Store → F} {ρ : Env} {ω : Store} (I : Nat → Env → Store → Prop) (n : Nat) (h0 : I n ρ ω)
    (step : ∀ n ρ ω, I n ρ ω → ∃ b ω1, c ρ ω = .ok b ω1 ∧ if b then F.Turn (fun ρ ω => ∃ m, m < n ∧ I m ρ ω) (fun g => P (g.seq k)) (f ρ ω1) else P (k ρ ω1)) : P (F.seq (whl c f ρ ω) k) :=
  whl_wp (R := fun g => P (g.seq k)) I step n ρ ω h0
/-! ### comparing -/
theorem cm_lt {i j : Int} : cmpV .lt (.int i) (.int j) = some (decide (i < j)) := (rfl)
theorem cm_le {i j : Int} : cmpV .le (.int i) (.int j) = some (decide (i ≤ j)) := (rfl)
theorem cm_gt {i j : Int} : cmpV .gt (.int i) (.int j) = some (decide (j < i)) := (rfl)
theorem cm_ge {i j : Int} : cmpV .ge (.int i) (.int j) = some (decide (j ≤ i)) := (rfl)
theorem cm_ltS {a b : Txt} : cmpV .lt (.str a) (.str b) = some (ltT a b) := (rfl)
theorem cm_leS {a b : Txt} : cmpV .le (.str a) (.str b) = some (leT a b) := (rfl)
theorem cm_gtS {a b : Txt} : cmpV .gt (.str a) (.str b) = some (ltT b a) := (rfl)
theorem cm_geS {a b : Txt} : cmpV .ge (.str a) (.str b) = some (leT b a) := (rfl)
theorem cm_eqI {i j : Int} : cmpV .eq (.int i) (.int j) = some (decide (i = j)) := (rfl)
theorem cm_neI {i j : Int} : cmpV .ne (.int i) (.int j) = some (!decide (i = j)) := (rfl)
theorem cm_eqB {i j : Bool} : cmpV .eq (.bl i) (.bl j) = some (i == j) := (rfl)
theorem cm_neB {i j : Bool} : cmpV .ne (.bl i) (.bl j) = some (!(i == j)) := (rfl)
theorem cm_eqS {a b : Txt} : cmpV .eq (.str a) (.str b) = some (decide (a = b)) := by
  show some (a == b) = _
  rw [Bool.beq_eq_decide_eq]
theorem cm_neS {a b : Txt} : cmpV .ne (.str a) (.str b) = some (!decide (a = b)) := by
  show some (!(a == b)) = _
  rw [Bool.beq_eq_decide_eq]
theorem cm_in {x y : PV} : cmpV .isin x y = inV x y := by cases x <;> cases y <;> rfl
theorem cm_notin {x y : PV} : cmpV .notin x y = (inV x y).map (!·) := by cases x <;> cases y <;> rfl
def isN : PV → Bool
  | .non => true
  | _ => false
theorem cm_is {x : PV} : cmpV .is x .non = some (isN x) := by cases x <;> rfl
theorem cm_isnot {x : PV} : cmpV .isnot x .non = some (!isN x) := by cases x <;> rfl
theorem bf_lenS {s : Txt} : bfV .len [.str s] = some (.int s.length) := (rfl)
theorem bf_lenL {s : List PV} : bfV .len [.lst s] = some (.int s.length) := (rfl)
theorem bf_lenT {s : List PV} : bfV .len [.tup s] = some (.int s.length) := (rfl)
theorem bf_lenD {s : List (PV × PV)} : bfV .len [.dic s] = some (.int s.length) := (rfl)
theorem bf_intI {i : Int} : bfV .int [.int i] = some (.int i) := (rfl)
theorem bf_listL {xs : List PV} : bfV .list [.lst xs] = some (.lst xs) := (rfl)
theorem bf_listS {xs : Txt} : bfV .list [.str xs] = some (.lst (charsOf xs)) := (rfl)
theorem bf_listT {xs : List PV} : bfV .list [.tup xs] = some (.lst xs) := (rfl)
theorem bf_tupleL {xs : List PV} : bfV .tuple [.lst xs] = some (.tup xs) := (rfl)
theorem it_lst {xs : List PV} : itemsOf (.lst xs) = some xs := (rfl)
theorem it_tup {xs : List PV} : itemsOf (.tup xs) = some xs := (rfl)
theorem it_str {xs : Txt} : itemsOf (.str xs) = some (charsOf xs) := (rfl)
theorem bm_find {t w : Txt} : bmV .find (.str t) [.str w] = some (.int (find t w)) := (rfl)
theorem bm_upper {t : Txt} (h : t.all (fun c => decide (c < 128)) = true) (hl : t.length ≤ 5592405) : bmV .upper (.str t) [] = some (.str (t.map upC)) := if_pos ⟨h, hl⟩
theorem bm_starts {t w : Txt} : bmV .startswith (.str t) [.str w] = some (.bl (isPre w t)) := (rfl)
theorem add_int {i j : Int} : binV .add (.int i) (.int j) = some (.int (i + j)) := (rfl)
theorem sub_int {i j : Int} : binV .sub (.int i) (.int j) = some (.int (i - j)) := (rfl)
theorem aug_add {i j : Int} : augV .add (.int i) (.int j) = some (.int (i + j)) := (rfl)
theorem aug_sub {i j : Int} : augV .sub (.int i) (.int j) = some (.int (i - j)) := (rfl)
theorem md_1 : (Md.own == Md.lv) = false := (rfl)
theorem md_2 : (Md.fz == Md.lv) = false := (rfl)
theorem md_3 : (Md.br == Md.lv) = false := (rfl)
theorem md_4 : (Md.own != Md.own) = false := (rfl)
theorem md_5 : (Md.fz != Md.own) = true := (rfl)
theorem md_6 : (Md.lv != Md.own) = true := (rfl)
theorem md_7 : (Md.br != Md.own) = true := (rfl)
theorem md_8 : (Md.lv == Md.lv) = true := (rfl)
theorem cm_ltT {a b c d : Int} : cmpV .lt (.tup [.int a, .int b]) (.tup [.int c, .int d]) = some (ltI [a, b] [c, d]) := (rfl)
theorem gv_0 {o : Option VM} {ρ : Env} : getV (o :: ρ) 0 = o := (rfl)
theorem gv_s {o : Option VM} {ρ : Env} {i : Nat} : getV (o :: ρ) (i + 1) = getV ρ i := (rfl)
theorem sv_0 {o : Option VM} {v : VM} {ρ : Env} : setV (o :: ρ) 0 v = some v :: ρ := (rfl)
theorem sv_s {o : Option VM} {v : VM} {ρ : Env} {i : Nat} : setV (o :: ρ) (i + 1) v = o :: setV ρ i v := (rfl)
theorem nv_0 {o : Option VM} {ρ : Env} : List.set (o :: ρ) 0 none = none :: ρ := (rfl)
theorem nv_s {o : Option VM} {ρ : Env} {i : Nat} : List.set (o :: ρ) (i + 1) none = o :: List.set ρ i none := (rfl)
theorem frz_nil {ρ : Env} : List.foldl freeze ρ [] = ρ := (rfl)
theorem frz_cons {ρ : Env} {i : Nat} {is : List Nat} : List.foldl freeze ρ (i :: is) = List.foldl freeze (freeze ρ i) is := (rfl)
def frzO : Env → Nat → Option VM → Env
  | ρ, i, some (x, .own) => setV ρ i (x, .fz)
  | ρ, _, _ => ρ
theorem freeze_eq {ρ : Env} {i : Nat} : freeze ρ i = frzO ρ i (getV ρ i) := by
  unfold freeze
  cases getV ρ i with
  | none => rfl
  | some x => obtain ⟨x, m⟩ := x; cases m <;> rfl
theorem fr_own {ρ : Env} {i : Nat} {x : PV} : frzO ρ i (some (x, .own)) = setV ρ i (x, .fz) := (rfl)
theorem fr_fz {ρ : Env} {i : Nat} {x : PV} : frzO ρ i (some (x, .fz)) = ρ := (rfl)
theorem fr_br {ρ : Env} {i : Nat} {x : PV} : frzO ρ i (some (x, .br)) = ρ := (rfl)
theorem fr_lv {ρ : Env} {i : Nat} {x : PV} : frzO ρ i (some (x, .lv)) = ρ := (rfl)
theorem fr_none {ρ : Env} {i : Nat} : frzO ρ i none = ρ := (rfl)
theorem ob_some {f : Bool → Option Bool} {b : Bool} : (some b).bind f = f b := (rfl)
theorem om_some {f : Bool → Bool} {b : Bool} : (some b).map f = some (f b) := (rfl)
theorem is_some {o : Option Int} : (some o).isSome = true := (rfl)
def pgO : Option VM → Store → R PV
  | some (x, .own), ω => .ok x ω
  | _, _ => .bad
theorem pg_var {i : Nat} {ρ : Env} {ω : Store} : plGet (.var i) ρ ω = pgO (getV ρ i) ω := by
  show (match getV ρ i with
    | some (x, .own) => R.ok x ω
    | _ => .bad) = _
  cases getV ρ i with
  | none => rfl
  | some x => obtain ⟨x, m⟩ := x; cases m <;> rfl
theorem pg_own {x : PV} {ω : Store} : pgO (some (x, .own)) ω = .ok x ω := (rfl)
def piR (k : PV → Bool) : R PV → Bool
  | .ok x _ => k x
  | _ => false
theorem pi_eq {k : PV → Bool} {p : Pl} {ρ : Env} {ω : Store} : plIs k p ρ ω = piR k (plGet p ρ ω) := by
  unfold plIs
  cases plGet p ρ ω <;> rfl
theorem pi_ok {k : PV → Bool} {x : PV} {ω : Store} : piR k (.ok x ω) = k x := (rfl)
theorem rd_own : rdM .own = .lv := (rfl)
theorem rd_fz : rdM .fz = .fz := (rfl)
theorem rd_br : rdM .br = .br := (rfl)
theorem rd_lv : rdM .lv = .lv := (rfl)
theorem as_1 {ρ : Env} {i : Nat} {x : PV} : assignT ρ [i] x = some (setV ρ i (x, .fz)) := by cases x <;> rfl
theorem as_2 {ρ : Env} {i j : Nat} {x y : PV} : assignT ρ [i, j] (.tup [x, y]) = some (setV (setV ρ i (x, .fz)) j (y, .fz)) := (rfl)
theorem as_3 {ρ : Env} {i j k : Nat} {x y z : PV} : assignT ρ [i, j, k] (.tup [x, y, z]) = some (setV (setV (setV ρ i (x, .fz)) j (y, .fz)) k (z, .fz)) := (rfl)
theorem xApp2_l {p : Pl} {ρ : Env} {v : VM} {xs : List PV} {ω : Store} (h : xs.length < line) : xApp2 p ρ v (.lst xs) ω = plPut p (.lst (xs ++ [v.1])) ρ ω := by
  unfold xApp2
  exact if_pos h
theorem xAP2_l {i j : Nat} {ρ : Env} {xs : List PV} {y x : PV} {ω : Store} (h : xs.length < line) : xAP2 i j ρ xs (some (y, x)) ω = .nx (setV (setV ρ j (x, .own)) i (.lst (xs ++ [y]), .own)) ω := by
  unfold xAP2
  exact if_pos h
theorem xIns3_l {p : Pl} {ρ : Env} {v : VM} {i : Int} {m : Md} {xs : List PV} {ω : Store} (h0 : 0 ≤ i) (h1 : i ≤ xs.length) (h : xs.length < line) : xIns3 p ρ v (.int i, m) (.lst xs) ω = plPut p (.lst (xs.take i.toNat ++ v.1 :: xs.drop i.toNat)) ρ ω := by
  unfold xIns3
  exact if_pos ⟨h0, h1, h⟩
/-! the rules of reckoning, in bundles -/
def pv0 := And.intro @pg_var (And.intro @pg_own (And.intro @pi_eq (And.intro @pi_ok (And.intro @gv_0 (And.intro @gv_s (And.intro @sv_0 (And.intro @sv_s (And.intro @nv_0 (And.intro @nv_s (And.intro @frz_nil (And.intro @frz_cons (And.intro @freeze_eq (And.intro @fr_own (And.intro @fr_fz (And.intro @fr_br (And.intro @fr_lv (And.intro @fr_none (And.intro @ob_some (And.intro @om_some (And.intro @is_some (And.intro @envOf.eq_1 (And.intro @envOf.eq_2 (And.intro @exs_nil (And.intro @exs_cons (And.intro @ex_expr (And.intro @xExpr.eq_1 (And.intro @ex_set (And.intro @xSet.eq_1 (And.intro @ex_setT (And.intro @xSetT.eq_1 (And.intro @oNx.eq_1 (And.intro @oNx.eq_2 (And.intro @ex_par (And.intro @xPar1.eq_1 (And.intro @xPar2.eq_1 (And.intro @xAug.eq_1 (And.intro @oAug.eq_1 (And.intro @oAug.eq_2 (And.intro @ex_put (And.intro @xPut1.eq_1 (And.intro @xPut2.eq_1 (And.intro @xPut3.eq_1 @oPut.eq_1))))))))))))))))))))))))))))))))))))))))))
def pv1 := And.intro @oPut.eq_2 (And.intro @ex_augP (And.intro @xAugP1.eq_1 (And.intro @xAugP2.eq_1 (And.intro @oAugP2.eq_1 (And.intro @oAugP2.eq_2 (And.intro @xAugP3.eq_1 (And.intro @oAugP3.eq_1 (And.intro @oAugP3.eq_2 (And.intro @ex_fset (And.intro @xFset1.eq_1 (And.intro @xFset.eq_1 (And.intro @xFset.eq_2 (And.intro @ex_app (And.intro @xApp1.eq_1 (And.intro @xApp2_l (And.intro @ex_ins (And.intro @xIns1.eq_1 (And.intro @xIns2.eq_1 (And.intro @xIns3_l (And.intro @ex_clr (And.intro @xClr.eq_1 (And.intro @xClr.eq_2 (And.intro @ex_rev (And.intro @xRev.eq_1 (And.intro @xRev.eq_2 (And.intro @ex_pop (And.intro @xPop1.eq_1 (And.intro @xPop2.eq_1 (And.intro @xPop3.eq_1 (And.intro @xPop4.eq_1 (And.intro @xPop4.eq_2 (And.intro @xPop5.eq_1 (And.intro @ex_appPop (And.intro @xAP.eq_1 (And.intro @xAP1.eq_1 (And.intro @xAP1.eq_2 (And.intro @xAP2_l (And.intro @ex_frz @ex_ifs))))))))))))))))))))))))))))))))))))))
def pv2 := And.intro @xIf.eq_1 (And.intro @xIf.eq_2 (And.intro @ex_whl (And.intro @ex_for (And.intro @xFor.eq_1 (And.intro @ex_ret (And.intro @xRet.eq_1 (And.intro @ex_retV (And.intro @oRet.eq_1 (And.intro @oRet.eq_2 (And.intro @ex_rais (And.intro @xRais.eq_1 (And.intro @xRais.eq_2 (And.intro @ex_brk (And.intro @ex_cnt (And.intro @ex_pass (And.intro @ev_var (And.intro @rdV_some (And.intro @rd_own (And.intro @rd_fz (And.intro @rd_br (And.intro @rd_lv (And.intro @ev_con (And.intro @ev_tup (And.intro @kTup.eq_1 (And.intro @ev_lst (And.intro @kLst.eq_1 (And.intro @ev_dct (And.intro @kDct.eq_1 (And.intro @ev_bin (And.intro @kBin1.eq_1 (And.intro @kBin2.eq_1 (And.intro @ev_neg (And.intro @kNeg.eq_1 (And.intro @kNeg.eq_2 (And.intro @ev_cmp (And.intro @kCmp1.eq_1 (And.intro @kCmp2.eq_1 (And.intro @ev_chn @kChn1.eq_1))))))))))))))))))))))))))))))))))))))
def pv3 := And.intro @kChn2.eq_1 (And.intro @kChn3.eq_1 (And.intro @kChn3.eq_2 (And.intro @kChn3.eq_3 (And.intro @ev_and (And.intro @kAnd.eq_1 (And.intro @kAnd.eq_2 (And.intro @kAnd.eq_3 (And.intro @ev_or (And.intro @kOr.eq_1 (And.intro @kOr.eq_2 (And.intro @kOr.eq_3 (And.intro @kOr.eq_4 (And.intro @ev_not (And.intro @kNot.eq_1 (And.intro @ev_ite (And.intro @kIte.eq_1 (And.intro @kIte.eq_2 (And.intro @ev_fld (And.intro @kFld.eq_1 (And.intro @oFld.eq_1 (And.intro @oFld.eq_2 (And.intro @ev_idxF (And.intro @kIdxF1.eq_1 (And.intro @kIdxF2.eq_1 (And.intro @oIdx.eq_1 (And.intro @oIdx.eq_2 (And.intro @ev_cmpF (And.intro @kCmpF1.eq_1 (And.intro @kCmpF2.eq_1 (And.intro @oCmp.eq_1 (And.intro @oCmp.eq_2 (And.intro @ev_inF (And.intro @kInF1.eq_1 (And.intro @kInF2.eq_1 (And.intro @oIn.eq_1 (And.intro @oIn.eq_2 (And.intro @ev_bfF (And.intro @kBfF.eq_1 @oBf.eq_1))))))))))))))))))))))))))))))))))))))
def pv4 := And.intro @oBf.eq_2 (And.intro @ev_idx (And.intro @kIdx1.eq_1 (And.intro @kIdx2.eq_1 (And.intro @ev_slc (And.intro @kSlc1.eq_1 (And.intro @kSlc2.eq_1 (And.intro @kSlc3.eq_1 (And.intro @ev_call (And.intro @kCall.eq_1 (And.intro @told_non (And.intro @told_bl (And.intro @told_int (And.intro @told_str (And.intro @told_tup (And.intro @told_obj (And.intro @told_own (And.intro @told_fz (And.intro @ev_meth (And.intro @kMth2.eq_1 (And.intro @ev_new (And.intro @kNew1.eq_1 (And.intro @kNew2.eq_1 (And.intro @ev_mkx (And.intro @kMkx.eq_1 (And.intro @ev_bm (And.intro @kBm1.eq_1 (And.intro @kBm2.eq_1 (And.intro @bmOn.eq_1 (And.intro @bmOn.eq_2 (And.intro @bmOn.eq_3 (And.intro @bmOn.eq_4 (And.intro @ev_bf1 (And.intro @kBf1.eq_1 (And.intro @ev_bf2 (And.intro @kBf21.eq_1 (And.intro @kBf22.eq_1 (And.intro @ev_inst (And.intro @kInst.eq_1 @isTys_nil))))))))))))))))))))))))))))))))))))))
def pv5 := And.intro @isTys_cons (And.intro @isTy.eq_1 (And.intro @isTy.eq_2 (And.intro @isTy.eq_3 (And.intro @isTy.eq_4 (And.intro @isTy.eq_5 (And.intro @isTy.eq_6 (And.intro @isTy.eq_7 (And.intro @isTy.eq_8 (And.intro @isTy.eq_9 (And.intro @isTy.eq_10 (And.intro @isTy.eq_11 (And.intro @isTy.eq_12 (And.intro @isTy.eq_13 (And.intro @isTy.eq_14 (And.intro @isTy.eq_15 (And.intro @isTy.eq_16 (And.intro @isTy.eq_17 (And.intro @isTy.eq_18 (And.intro @ev_comp (And.intro @kComp1.eq_1 (And.intro @evK_nil (And.intro @evK_cons (And.intro @kK1.eq_1 (And.intro @kK2.eq_1 (And.intro @evA_nil (And.intro @evA_cons (And.intro @kA1.eq_1 (And.intro @kA2.eq_1 (And.intro @Md.give.eq_1 (And.intro @Md.give.eq_2 (And.intro @Md.give.eq_3 (And.intro @Md.give.eq_4 (And.intro @evT_tt (And.intro @evT_val (And.intro @kVal.eq_1 (And.intro @liftT.eq_1 (And.intro @liftT.eq_2 (And.intro @truthy.eq_1 @truthy.eq_2))))))))))))))))))))))))))))))))))))))
def pv6 := And.intro @truthy.eq_3 (And.intro @truthy.eq_4 (And.intro @truthy.eq_5 (And.intro @truthy.eq_6 (And.intro @truthy.eq_7 (And.intro @evT_and (And.intro @kTAnd.eq_1 (And.intro @kTAnd.eq_2 (And.intro @evT_or (And.intro @kTOr.eq_1 (And.intro @kTOr.eq_2 (And.intro @evT_not (And.intro @kTNot.eq_1 (And.intro @evI_val (And.intro @kIVal.eq_1 (And.intro @liftI.eq_1 (And.intro @liftI.eq_2 (And.intro @isVar.eq_1 (And.intro @isVar.eq_2 (And.intro @isD.eq_1 (And.intro @isD.eq_2 (And.intro @evI_rng1 (And.intro @kRng1.eq_1 (And.intro @kRng1.eq_2 (And.intro @evI_rng2 (And.intro @kRng21.eq_1 (And.intro @kRng22.eq_1 (And.intro @kRng22.eq_2 (And.intro @evI_rngD (And.intro @kRngD1.eq_1 (And.intro @kRngD2.eq_1 (And.intro @kRngD2.eq_2 (And.intro @evI_enum (And.intro @kEnum.eq_1 (And.intro @kEnum.eq_2 (And.intro @evI_zip (And.intro @kZip1.eq_1 (And.intro @kZip2.eq_1 (And.intro @kZip2.eq_2 @kZip2.eq_3))))))))))))))))))))))))))))))))))))))
def pv7 := And.intro @evI_rev (And.intro @kRev.eq_1 (And.intro @kRev.eq_2 (And.intro @seq_nx (And.intro @seq_rt (And.intro @seq_bk (And.intro @seq_ct (And.intro @seq_exc (And.intro @seq_bad (And.intro @to_ok (And.intro @to_exc (And.intro @to_bad (And.intro @bind_ok (And.intro @bind_exc (And.intro @bind_bad (And.intro @calm_f (And.intro @calm_nx (And.intro @calm_rt (And.intro @rcalm_ok (And.intro @liftO_some (And.intro @liftB_some (And.intro @mk_non (And.intro @mk_bl (And.intro @mk_int (And.intro @mk_str (And.intro @mk_tup (And.intro @mk_lst (And.intro @mk_dic (And.intro @mk_obj (And.intro @kp_non (And.intro @kp_bl (And.intro @kp_int (And.intro @kp_str (And.intro @kp_tup (And.intro @kp_obj (And.intro @kp_exc (And.intro @kp_own (And.intro @kp_fz (And.intro @turn_nx @turn_ct))))))))))))))))))))))))))))))))))))))
def pv8 := And.intro @turn_bk (And.intro @turn_rt (And.intro @turn_exc (And.intro @out_nx (And.intro @out_rt (And.intro @out_exc (And.intro @nx_nx (And.intro @as_1 (And.intro @as_2 (And.intro @as_3 (And.intro @optI.eq_1 (And.intro @optI.eq_2 (And.intro @optI.eq_3 (And.intro @lockI.eq_1 (And.intro @lockI.eq_2 (And.intro @lockI.eq_3 (And.intro @lockI.eq_4 (And.intro @plPut.eq_1 (And.intro @plPut.eq_2 (And.intro @plE.eq_1 (And.intro @plE.eq_2 (And.intro @plEs.eq_1 (And.intro @plEs.eq_2 (And.intro @isC.eq_1 (And.intro @isC.eq_2 (And.intro @isC.eq_3 (And.intro @isL.eq_1 (And.intro @isL.eq_2 (And.intro @pureE.eq_1 (And.intro @pureE.eq_2 (And.intro @pureE.eq_3 (And.intro @pureE.eq_4 (And.intro @pureE.eq_5 (And.intro @pureE.eq_6 (And.intro @pureE.eq_7 (And.intro @pureE.eq_8 (And.intro @pureE.eq_9 (And.intro @pureEs.eq_1 (And.intro @pureEs.eq_2 @cm_lt))))))))))))))))))))))))))))))))))))))
def pv9 := And.intro @cm_le (And.intro @cm_gt (And.intro @cm_ge (And.intro @cm_ltS (And.intro @cm_leS (And.intro @cm_gtS (And.intro @cm_geS (And.intro @cm_eqI (And.intro @cm_neI (And.intro @cm_eqB (And.intro @cm_neB (And.intro @cm_eqS (And.intro @cm_neS (And.intro @cm_in (And.intro @cm_notin (And.intro @cm_is (And.intro @cm_isnot (And.intro @isN.eq_1 (And.intro @isN.eq_2 (And.intro @cm_ltT (And.intro @md_1 (And.intro @md_2 (And.intro @md_3 (And.intro @md_4 (And.intro @md_5 (And.intro @md_6 (And.intro @md_7 (And.intro @md_8 (And.intro @bf_lenS (And.intro @bf_lenL (And.intro @bf_lenT (And.intro @bf_lenD (And.intro @bf_intI (And.intro @bf_listL (And.intro @bf_listS (And.intro @bf_listT (And.intro @bf_tupleL (And.intro @it_lst (And.intro @it_tup @it_str))))))))))))))))))))))))))))))))))))))
def pv10 := And.intro @bm_find (And.intro @bm_starts (And.intro @add_int (And.intro @sub_int (And.intro @aug_add (And.intro @aug_sub (And.intro @pad.eq_1 (And.intro @pad.eq_2 (And.intro @Bool.not_true (And.intro @Bool.not_false (And.intro @Bool.and_true (And.intro @Bool.true_and (And.intro @Bool.and_false (And.intro @Bool.false_and (And.intro @Bool.or_true (And.intro @Bool.true_or (And.intro @Bool.or_false (And.intro @Bool.false_or (And.intro @Bool.false_eq_true (And.intro @decide_true (And.intro @decide_false (And.intro @true_and (And.intro @and_true (And.intro @false_and (And.intro @and_false (And.intro @not_true_eq_false @not_false_eq_true)))))))))))))))))))))))))
def pv11 := And.intro @ev_xfld (And.intro @kXfld.eq_1 (And.intro @told_exc (And.intro @mk_exc (And.intro @kp_exc (And.intro @ex_try (And.intro @try_exc (And.intro @try_nx (And.intro @try_bk (And.intro @try_ct (And.intro @try_rt (And.intro @exh_nil (And.intro @exh_cons (And.intro @catch_nil (And.intro @catch_cons (And.intro @ctch.eq_1 (And.intro @ctch.eq_2 (And.intro @ctch.eq_3 (And.intro @gone_nx (And.intro @gone_bk (And.intro @gone_ct (And.intro @gone_rt (And.intro @cn_nil (And.intro @cn_cons (And.intro @lk_nil (And.intro @lk_cons (And.intro @xf_exc (And.intro @xo_some (And.intro @gi_0 (@gi_s)))))))))))))))))))))))))))))
/-- a for whose turns all go on -/
theorem forL_nx {f : Env → Store → F} {tg : List Nat} {ω : Store} (I : Nat → Env → Prop) {xs : List PV} {ρ : Env} (h0 : I 0 ρ)
    (step : ∀ i x ρ, xs[i]? = some x → I i ρ → ∃ ρ1 ρ2, assignT ρ tg x = some ρ1 ∧ f ρ1 ω = .nx ρ2 ω ∧ I (i + 1) ρ2) : ∃ ρ', forL f tg xs ρ ω = .nx ρ' ω ∧ I xs.length ρ' := by
  refine forL_st (R := fun r => ∃ ρ', r = .nx ρ' ω ∧ I xs.length ρ') I h0 (fun i x ρ hx hi => ?_) fun ρ hi => ⟨ρ, rfl, hi⟩
  obtain ⟨ρ1, ρ2, e1, e2, h2⟩ := step i x ρ hx hi
  exact ⟨ρ1, e1, by rw [e2]; exact ⟨rfl, h2⟩⟩
theorem upTo_get {n i : Nat} {x : PV} (h : (upTo 0 n)[i]? = some x) : i < n ∧ x = .int (i : Nat) := by
  unfold upTo at h
  rw [List.getElem?_map, Option.map_eq_some_iff] at h
  obtain ⟨k, hk, rfl⟩ := h
  have hi : i < n := by have := (List.getElem?_eq_some_iff.mp hk).1; simpa using this
  rw [List.getElem?_range hi] at hk
  cases hk
  exact ⟨hi, by simp⟩
theorem upTo_len (lo : Int) (n : Nat) : (upTo lo n).length = n := by simp [upTo]
theorem small_nat {n : Nat} (h : n < 2 ^ 62) : small (n : Int) = true := by unfold small; exact decide_eq_true ⟨by omega, by omega⟩
/-! ### texts -/
theorem cut_nat {α : Type} (w : List α) (a b : Nat) : cut w (some (a : Int)) (some (b : Int)) = (w.drop a).take (b - a) := by
  unfold cut clip
  simp only [Int.toNat_natCast]
  rw [if_neg (by omega), if_neg (by omega)]
  by_cases ha : a ≤ w.length
  · rw [Nat.min_eq_left ha]
    by_cases hb : b ≤ w.length
    · rw [Nat.min_eq_left hb]
    · rw [Nat.min_eq_right (by omega), List.take_of_length_le (by rw [List.length_drop]; omega), List.take_of_length_le (by rw [List.length_drop]; omega)]
  · rw [show min a w.length = w.length from Nat.min_eq_right (by omega), List.drop_of_length_le (Nat.le_refl w.length), List.drop_of_length_le (show w.length ≤ a by omega)]
    simp
theorem slc_str (w : Txt) (a b : Nat) : slcV (.str w) (.int (a : Int)) (.int (b : Int)) = some (.str ((w.drop a).take (b - a))) := by
  simp [slcV, slcX, optI, cut_nat]
theorem slc_lst (w : List PV) (a b : Nat) : slcV (.lst w) (.int (a : Int)) (.int (b : Int)) = some (.lst ((w.drop a).take (b - a))) := by
  simp [slcV, slcX, optI, cut_nat]
theorem cut_to {α : Type} (w : List α) (b : Nat) : cut w none (some (b : Int)) = w.take b := by
  have h := cut_nat w 0 b
  unfold cut clip at h ⊢
  simp only [Int.toNat_natCast] at h ⊢
  rw [if_neg (by omega)] at h ⊢
  simpa using h
theorem slc_to (w : Txt) (b : Nat) : slcV (.str w) .non (.int (b : Int)) = some (.str (w.take b)) := by simp [slcV, slcX, optI, cut_to]
theorem slc_toL (w : List PV) (b : Nat) : slcV (.lst w) .non (.int (b : Int)) = some (.lst (w.take b)) := by simp [slcV, slcX, optI, cut_to]
theorem in_strs (m : Txt) (ws : List Txt) : inV (.str m) (.lst (ws.map .str)) = some (decide (m ∈ ws)) := by
  have h1 : (flatS (.str m) && (ws.map PV.str).all flatS) = true := by simp [flatS]
  have h2 : ((ws.map PV.str).any fun y => eqv y (.str m)) = decide (m ∈ ws) := by
    rw [List.any_map]
    induction ws with
    | nil => simp
    | cons w ws ih =>
      rw [List.any_cons, ih (by simp [flatS])]
      simp only [Function.comp, eqv, List.mem_cons]
      by_cases h : w = m
      · subst h; simp
      · have : (w == m) = false := by simpa using h
        rw [this]
        simp [Ne.symm h, show ¬ m = w from fun z => h z.symm]
  show (if (flatS (.str m) && (ws.map PV.str).all flatS) = true then some _ else none) = _
  rw [if_pos h1, h2]
theorem idx_str {w : Txt} {i : Nat} {c : Nat} (h : w[i]? = some c) : idxV (.str w) (.int (i : Int)) = some (.str [c]) := by
  have hi := (List.getElem?_eq_some_iff.mp h).1
  simp [idxV, ixAt_nat hi, h]
theorem idx_lst {xs : List PV} {i : Nat} {x : PV} (h : xs[i]? = some x) : idxV (.lst xs) (.int (i : Int)) = some x := by
  have hi := (List.getElem?_eq_some_iff.mp h).1
  simp [idxV, ixAt_nat hi, h]
theorem add_str {a b : Txt} (h : a.length + b.length ≤ line) : binV .add (.str a) (.str b) = some (.str (a ++ b)) := if_pos h
theorem add_lst {a b : List PV} (h : a.length + b.length ≤ line) : binV .add (.lst a) (.lst b) = some (.lst (a ++ b)) := if_pos h
theorem mod_nat {i : Int} {n : Nat} (h : 0 < n) : ∃ k : Nat, k < n ∧ i % (n : Int) = (k : Int) := by
  have h1 := Int.emod_nonneg i (b := (n : Int)) (by omega)
  have h2 := Int.emod_lt_of_pos i (b := (n : Int)) (by omega)
  exact ⟨(i % (n : Int)).toNat, by omega, by omega⟩
end PVL

/-! PVL.C: the laws' own small defs, each reckoned once. -/
namespace PVL
namespace C
/-- a cell of the script, or one made of its place -/
noncomputable def iCell : Ss := (.cons (.ifs (.val (.cmp .lt (.var 1) (.bf1 .len (.var 0)))) (.cons (.ret (.idx (.var 0) (.var 1))) .nil) .nil) (.cons (.ret (.bin .add (.bin .mul (.con (.int 911)) (.var 1)) (.con (.int 7)))) .nil))
noncomputable def cell : Fn := den 2 2 iCell
theorem cell_ok (ns : List Int) (k : Nat) (hk : k < 2 ^ 60) (m m2 : Md) (ω : Store) : ∃ c, cell [(.lst (ns.map .int), m), (.int k, m2)] ω = .ok (.int c, .fz) ω := by
  have e1 : binV .mul (.int 911) (.int (k : Int)) = some (.int (911 * k)) := binV_mul (k := 100) (by decide) (by decide) (by omega)
  have e2 : binV .add (.int (911 * (k : Int))) (.int 7) = some (.int (911 * k + 7)) := rfl
  by_cases h : k < ns.length
  · refine ⟨ns[k], ?_⟩
    have e3 : idxV (.lst (ns.map .int)) (.int (k : Int)) = some (.int ns[k]) := idx_lst (by simp [h])
    have h2 : (k : Int) < (ns.length : Int) := by omega
    simp [cell, iCell, den, exs, ex, evT, ev, R.bind, R.to, F.seq, getV, setV, liftB, liftO, mk, isC, keeps, cmpV, bfV, truthy, e3, h2]
  · refine ⟨911 * k + 7, ?_⟩
    have h2 : ¬ (k : Int) < (ns.length : Int) := by omega
    simp [cell, iCell, den, exs, ex, evT, ev, R.bind, R.to, F.seq, getV, setV, liftB, liftO, mk, isC, keeps, cmpV, bfV, truthy, e1, e2, h2]
/-- two numbers mixed -/
noncomputable def iMixed : Ss := (.cons (.set 2 (.bin .mod (.bin .add (.bin .add (.bin .mul (.bin .mod (.var 0) (.con (.int 2147483647))) (.con (.int 48271))) (.bin .mul (.var 1) (.con (.int 7919)))) (.con (.int 104729))) (.con (.int 2147483647)))) (.cons (.set 2 (.bin .mod (.bin .add (.bin .add (.bin .mul (.bin .mod (.bin .mul (.var 2) (.var 2)) (.con (.int 2147483629))) (.con (.int 16807))) (.bin .mul (.var 1) (.con (.int 104729)))) (.con (.int 11))) (.con (.int 2147483587)))) (.cons (.ret (.bin .mod (.bin .mul (.var 2) (.var 2)) (.con (.int 2147483549)))) .nil)))
noncomputable def mixed : Fn := den 2 3 iMixed
theorem mod_int {j : Int} (h0 : 0 < j) (i : Int) : ∃ r, 0 ≤ r ∧ r < j ∧ binV .mod (.int i) (.int j) = some (.int r) := ⟨i % j, Int.emod_nonneg i (by omega), Int.emod_lt_of_pos i h0, binV_mod h0⟩
theorem mul_int {i j : Int} (hi : i.natAbs < 2 ^ 100) (hj : j.natAbs < 2 ^ 100) : binV .mul (.int i) (.int j) = some (.int (i * j)) := binV_mul (k := 100) (by decide) hi hj
theorem mixed_ok (c k : Int) (hk : k.natAbs < 2 ^ 90) (m m2 : Md) (ω : Store) : ∃ r, 0 ≤ r ∧ r < 2147483549 ∧ mixed [(.int c, m), (.int k, m2)] ω = .ok (.int r, .fz) ω := by
  obtain ⟨r1, p1, q1, e1⟩ := mod_int (j := 2147483647) (by decide) c
  obtain ⟨r2, p2, q2, e2⟩ := mod_int (j := 2147483647) (by decide) (r1 * 48271 + k * 7919 + 104729)
  obtain ⟨r3, p3, q3, e3⟩ := mod_int (j := 2147483629) (by decide) (r2 * r2)
  obtain ⟨r4, p4, q4, e4⟩ := mod_int (j := 2147483587) (by decide) (r3 * 16807 + k * 104729 + 11)
  obtain ⟨r5, p5, q5, e5⟩ := mod_int (j := 2147483549) (by decide) (r4 * r4)
  have f1 : binV .mul (.int r1) (.int 48271) = some (.int (r1 * 48271)) := mul_int (by omega) (by decide)
  have f2 : binV .mul (.int k) (.int 7919) = some (.int (k * 7919)) := mul_int (by omega) (by decide)
  have f3 : binV .mul (.int r2) (.int r2) = some (.int (r2 * r2)) := mul_int (by omega) (by omega)
  have f4 : binV .mul (.int r3) (.int 16807) = some (.int (r3 * 16807)) := mul_int (by omega) (by decide)
  have f5 : binV .mul (.int k) (.int 104729) = some (.int (k * 104729)) := mul_int (by omega) (by decide)
  have f6 : binV .mul (.int r4) (.int r4) = some (.int (r4 * r4)) := mul_int (by omega) (by omega)
  refine ⟨r5, p5, q5, ?_⟩
  simp [mixed, iMixed, den, exs, ex, ev, R.bind, R.to, F.seq, getV, setV, liftO, mk, isC, keeps, add_int, e1, e2, e3, e4, e5, f1, f2, f3, f4, f5, f6]
/-! ### kinds -/
noncomputable def wKinds : Ss := (.cons (.appPop 2 1 (.bin .mod (.var 3) (.bf1 .len (.var 1)))) (.cons (.set 3 (.bin .fdiv (.var 3) (.con (.int 26)))) .nil))
noncomputable def iKinds : Ss := (.cons (.set 1 (.bf1 .list (.con (.str [97, 98, 99, 100, 101, 102, 103, 104, 105, 106, 107, 108, 109, 110, 111, 112, 113, 114, 115, 116, 117, 118, 119, 120, 121, 122])))) (.cons (.set 2 (.lst .nil)) (.cons (.set 3 (.bin .fdiv (.var 0) (.con (.int 4)))) (.cons (.for_ [4] (.rng1 (.bin .add (.con (.int 1)) (.bin .mod (.var 0) (.con (.int 4))))) wKinds) (.cons (.ret (.bm .join (.con (.str [])) (.cons (.bf1 .sorted (.var 2)) .nil))) .nil)))))
noncomputable def kinds : Fn := den 1 5 iKinds
def abc : Txt := [97, 98, 99, 100, 101, 102, 103, 104, 105, 106, 107, 108, 109, 110, 111, 112, 113, 114, 115, 116, 117, 118, 119, 120, 121, 122]
/-- one to four letters, rising -/
structure Kinds (K : Txt) : Prop where
  pos : 1 ≤ K.length
  few : K.length ≤ 4
  rise : K.Pairwise (· < ·)
  abc : ∀ c ∈ K, 97 ≤ c ∧ c ≤ 122
theorem leV_one (a b : Nat) : leV (.str [a]) (.str [b]) = decide (a ≤ b) := by
  simp only [leV, ltV, ltT]
  by_cases h : b < a
  · simp [h]
  · by_cases h2 : a < b <;> simp [h, h2] <;> omega
theorem sort_one (fs : List Nat) : sortV (charsOf fs) = some (.lst (charsOf (fs.mergeSort fun a b => decide (a ≤ b)))) := by
  have ho : sortOk (charsOf fs) = true := by
    simp [sortOk, charsOf, alikeV, isTup, deep]
  unfold sortV
  rw [if_pos ho]
  congr 2
  unfold charsOf
  rw [List.map_mergeSort (r := fun a b => decide (a ≤ b)) (s := leV)]
  intro a _ b _
  exact (leV_one a b).symm
theorem strsV_chars (s : Txt) : strsV (charsOf s) = some (s.map fun c => [c]) := by
  induction s with
  | nil => rfl
  | cons c s ih => show (strsV (charsOf s)).map _ = _; rw [ih]; rfl
theorem strsV_map (ws : List Txt) : strsV (ws.map .str) = some ws := by
  induction ws with
  | nil => rfl
  | cons c s ih => show (strsV (s.map .str)).map _ = _; rw [ih]; rfl
theorem join_nil : ∀ ws : List Txt, joinT [] ws = ws.flatten
  | [] => rfl
  | [p] => by simp [joinT]
  | p :: q :: r => by
    have := join_nil (q :: r)
    show p ++ ([] ++ joinT [] (q :: r)) = _
    rw [this]; simp
theorem sum_ones (s : Txt) : ((s.map fun c => [c]).map List.length).sum = s.length := by
  induction s with
  | nil => rfl
  | cons c s ih => simp only [List.map_cons, List.sum_cons, ih, List.length_cons, List.length_nil]; omega
theorem flat_ones (s : Txt) : (s.map fun c => [c]).flatten = s := by
  induction s with
  | nil => rfl
  | cons c s ih => simp only [List.map_cons, List.flatten_cons]; rw [ih]; rfl
theorem join_chars (s : Txt) (h : s.length ≤ line) : bmV .join (.str []) [.lst (charsOf s)] = some (.str s) := by
  show (strsV (charsOf s)).bind (joinV []) = _
  rw [strsV_chars]
  show joinV [] _ = _
  unfold joinV
  have h2 : ((s.map fun c => [c]).map List.length).sum + (s.map fun c => [c]).length * ([] : Txt).length ≤ line := by rw [sum_ones, List.length_nil, Nat.mul_zero, Nat.add_zero]; exact h
  generalize line = L at *
  rw [if_pos h2, join_nil, flat_ones]
theorem pop_lst {xs : List PV} {j : Nat} {x : PV} (h : xs[j]? = some x) (h2 : xs.length < 2 ^ 62) : popV (.lst xs) [.int (j : Int)] = some (x, .lst (xs.eraseIdx j)) := by
  have hj := (List.getElem?_eq_some_iff.mp h).1
  simp only [popV]
  rw [if_pos ⟨by omega, by omega⟩, ixAt_nat hj]
  simp only [Option.bind_some, h, Option.map_some]
theorem er_map {α β : Type} (f : α → β) : ∀ (l : List α) (j : Nat), (l.map f).eraseIdx j = (l.eraseIdx j).map f
  | [], _ => rfl
  | _ :: _, 0 => rfl
  | a :: l, j + 1 => by
    show f a :: (l.map f).eraseIdx j = f a :: (l.eraseIdx j).map f
    rw [er_map]
theorem pop_chars {ls : Txt} {j : Nat} (h : j < ls.length) (h2 : ls.length < 2 ^ 62) : popV (.lst (charsOf ls)) [.int (j : Int)] = some (.str [ls[j]], .lst (charsOf (ls.eraseIdx j))) := by
  rw [pop_lst (x := .str [ls[j]]) (by simp [charsOf, h]) (by simpa [charsOf] using h2)]
  simp [charsOf, er_map]
theorem perm_erase {α : Type} (l : List α) (j : Nat) (h : j < l.length) : l.Perm (l[j] :: l.eraseIdx j) := by
  have h1 : l = l.take j ++ l[j] :: l.drop (j + 1) := by simp
  have h2 : l.eraseIdx j = l.take j ++ l.drop (j + 1) := List.eraseIdx_eq_take_drop_succ ..
  conv => lhs; rw [h1]
  rw [h2]
  exact List.perm_middle
theorem e5x {fs : Txt} {i n : Nat} (h1 : fs.length = i) (hi : i < n + 1) (hn : n < 4): (charsOf fs).length < line := by simp [charsOf, line]; omega
theorem kinds_ok (c : Int) (m : Md) (ω : Store) : ∃ K, Kinds K ∧ kinds [(.int c, m)] ω = .ok (.str K, .fz) ω := by
  refine den_out (Q := fun r => ∃ K, Kinds K ∧ r = .ok (.str K, .fz) ω) (by rfl) ?_
  have f1 : binV .fdiv (.int c) (.int 4) = some (.int (c / 4)) := binV_fdiv (by decide) (by omega)
  obtain ⟨n, hn, en⟩ := mod_nat (i := c) (n := 4) (by decide)
  have g1 : binV .mod (.int c) (.int 4) = some (.int (n : Int)) := by rw [binV_mod (by decide)]; rw [← en]; rfl
  have s1 : small (1 + (n : Int)) = true := by rw [show 1 + (n : Int) = ((n + 1 : Nat) : Int) by omega]; exact small_nat (by omega)
  have l1 : (1 + (n : Int)).toNat = n + 1 := by omega
  unfold iKinds
  have b1 : bfV .list [.str abc] = some (.lst (charsOf abc)) := rfl
  unfold abc at b1
  simp only [pv0, pv1, pv2, pv3, pv4, pv5, pv6, pv7, pv8, pv9, pv10, pv11, eq_self, beq_self_eq_true, reduceIte, reduceCtorEq, Nat.reduceAdd, Nat.reduceSub, Nat.reduceBNe, Nat.reduceBEq, Nat.reduceEqDiff, b1, f1, g1, s1, l1]
  refine for_st (fun i ρ => ∃ v ls fs l o, fs.length = i ∧ ls.length + i = 26 ∧ (fs ++ ls).Perm abc ∧ ρ = [v, some (.lst (charsOf ls), .own), some (.lst (charsOf fs), .own), some (.int l, .fz), o]) ⟨_, abc, [], c / 4, none, rfl, rfl, List.Perm.refl _, rfl⟩ ?_ ?_
  · rintro i x ρ hx ⟨v, ls, fs, l, o, h1, h2, hp, rfl⟩
    obtain ⟨hi, rfl⟩ := upTo_get hx
    refine ⟨_, rfl, ?_⟩
    have hpos : 0 < ls.length := by omega
    obtain ⟨j, hj, ej⟩ := mod_nat (i := l) hpos
    have e4 : (charsOf ls).length = ls.length := by simp [charsOf]
    have e6 : bfV .len [.lst (charsOf ls)] = some (.int (ls.length : Int)) := by simp [bfV, e4]
    have g2 : binV .mod (.int l) (.int (ls.length : Int)) = some (.int (j : Int)) := by rw [binV_mod (by omega), ej]
    have f2 : binV .fdiv (.int l) (.int 26) = some (.int (l / 26)) := binV_fdiv (by decide) (by omega)
    have e2 := pop_chars hj (by omega)
    have e3 : charsOf fs ++ [PV.str [ls[j]]] = charsOf (fs ++ [ls[j]]) := by simp [charsOf]
    have e5 := e5x h1 hi hn
    unfold wKinds
    simp only [pv0, pv1, pv2, pv3, pv4, pv5, pv6, pv7, pv8, pv9, pv10, pv11, eq_self, beq_self_eq_true, reduceIte, reduceCtorEq, Nat.reduceAdd, Nat.reduceSub, Nat.reduceBNe, Nat.reduceBEq, Nat.reduceEqDiff, e6, g2, f2, e2, e3, e5]
    refine ⟨_, ls.eraseIdx j, fs ++ [ls[j]], l / 26, _, by simp [h1], ?_, ?_, rfl⟩
    · rw [List.length_eraseIdx, if_pos hj]; omega
    · refine List.Perm.trans ?_ hp
      rw [List.append_assoc]
      exact List.Perm.append_left fs (perm_erase ls j hj).symm
  · rintro ρ ⟨v, ls, fs, l, o, h1, h2, hp, rfl⟩
    rw [upTo_len] at h1
    have e2 : bfV .sorted [.lst (charsOf fs)] = _ := sort_one fs
    have hl : (fs.mergeSort fun a b => decide (a ≤ b)).length = fs.length := List.length_mergeSort ..
    have e3 := join_chars (fs.mergeSort fun a b => decide (a ≤ b)) (by rw [hl, line]; omega)
    have hq : (fs.mergeSort fun a b => decide (a ≤ b)).Perm fs := List.mergeSort_perm ..
    have hs : (fs.mergeSort fun a b => decide (a ≤ b)).Pairwise (fun a b => decide (a ≤ b) = true) := List.pairwise_mergeSort (fun a b c h1 h2 => by simp at *; omega) (fun a b => by simp; omega) fs
    have hnd : (fs ++ ls).Nodup := hp.nodup_iff.mpr (by decide)
    have hnd2 : (fs.mergeSort fun a b => decide (a ≤ b)).Nodup := hq.nodup_iff.mpr (List.nodup_append.mp hnd).1
    have hm : ∀ c ∈ fs.mergeSort fun a b => decide (a ≤ b), 97 ≤ c ∧ c ≤ 122 := fun c hc => by
      have : c ∈ abc := hp.subset (List.mem_append_left _ (hq.subset hc))
      unfold abc at this
      simp at this
      omega
    generalize fs.mergeSort (fun a b => decide (a ≤ b)) = K at *
    simp only [pv0, pv1, pv2, pv3, pv4, pv5, pv6, pv7, pv8, pv9, pv10, pv11, eq_self, beq_self_eq_true, reduceIte, reduceCtorEq, Nat.reduceAdd, Nat.reduceSub, Nat.reduceBNe, Nat.reduceBEq, Nat.reduceEqDiff, e2, e3, bmOn]
    refine ⟨K, ⟨by omega, by omega, ?_, hm⟩, rfl⟩
    have := List.pairwise_and_iff.mpr ⟨hs, hnd2⟩
    exact this.imp fun ⟨h1, h2⟩ => by simp at h1; omega
/-! ### letters -/
noncomputable def wLet (mx : Fn) : Ss := (.cons (.set 7 (.call mx (.cons (.var 0) (.cons (.bin .add (.con (.int 40)) (.var 6)) .nil)))) (.cons (.ifs (.and (.val (.var 3)) (.val (.cmp .notin (.var 5) (.tup (.cons (.con (.int 0)) (.cons (.neg (.con (.int 1))) .nil)))))) (.cons (.frz [5] (.set 7 (.var 5))) (.cons (.set 5 (.bin .fdiv (.var 5) (.bf1 .len (.var 1)))) .nil)) .nil) (.cons (.set 4 (.bin .add (.var 4) (.idx (.var 1) (.bin .mod (.var 7) (.bf1 .len (.var 1)))))) .nil)))
noncomputable def iLet : Ss := (.cons (.set 4 (.con (.str []))) (.cons (.frz [0] (.set 5 (.var 0))) (.cons (.for_ [6] (.rng1 (.var 2)) (wLet mixed)) (.cons (.retV 4) .nil))))
noncomputable def letters : Fn := den 4 8 iLet
theorem letters_ok (c : Int) {K : Txt} (hK : Kinds K) (n : Nat) (hn : n ≤ 1000000) (b : Bool) (m1 m2 m3 : Md) (ω : Store) : ∃ w : Txt, w.length = n ∧ (∀ a ∈ w, a ∈ K) ∧ letters [(.int c, .fz), (.str K, m1), (.int (n : Int), m2), (.bl b, m3)] ω = .ok (.str w, .fz) ω := by
  refine den_out (Q := fun r => ∃ w : Txt, w.length = n ∧ (∀ a ∈ w, a ∈ K) ∧ r = .ok (.str w, .fz) ω) (by rfl) ?_
  have s1 : small (n : Int) = true := small_nat (by omega)
  unfold iLet
  simp only [pv0, pv1, pv2, pv3, pv4, pv5, pv6, pv7, pv8, pv9, pv10, pv11, eq_self, beq_self_eq_true, reduceIte, reduceCtorEq, Nat.reduceAdd, Nat.reduceSub, Nat.reduceBNe, Nat.reduceBEq, Nat.reduceEqDiff, s1, Int.toNat_natCast]
  refine for_st (fun i ρ => ∃ w l o1 o2, w.length = i ∧ (∀ a ∈ w, a ∈ K) ∧ ρ = [some (.int c, .fz), some (.str K, m1), some (.int (n : Int), m2), some (.bl b, m3), some (.str w, .fz), some (.int l, .fz), o1, o2]) ⟨[], c, none, none, rfl, fun a h => by simp at h, rfl⟩ ?_ ?_
  · rintro i x ρ hx ⟨w, l, o1, o2, h1, h2, rfl⟩
    obtain ⟨hi, rfl⟩ := upTo_get hx
    refine ⟨_, rfl, ?_⟩
    obtain ⟨r, _, _, em⟩ := mixed_ok c (40 + (i : Int)) (by omega) .fz .fz ω
    have hpos : 0 < K.length := hK.pos
    have hfew := hK.few
    have aw : ∀ q : Int, ∃ a ∈ K, ∃ j : Nat, binV .mod (.int q) (.int (K.length : Int)) = some (.int (j : Int)) ∧ idxV (.str K) (.int (j : Int)) = some (.str [a]) := fun q => by
      obtain ⟨j, hj, ej⟩ := mod_nat (i := q) hpos
      exact ⟨K[j], List.getElem_mem _, j, by rw [binV_mod (by omega), ej], idx_str (by simp [hj])⟩
    have f2 : binV .fdiv (.int l) (.int (K.length : Int)) = some (.int (l / K.length)) := binV_fdiv (by omega) (by omega)
    have ln : bfV .len [.str K] = some (.int (K.length : Int)) := rfl
    have ad : ∀ a, binV .add (.str w) (.str [a]) = some (.str (w ++ [a])) := fun a => add_str (by simp [line]; omega)
    have fin : ∀ a ∈ K, (∀ x ∈ w ++ [a], x ∈ K) := fun a ha x hx => by
      rcases List.mem_append.mp hx with h | h
      · exact h2 x h
      · rw [List.mem_singleton.mp h]; exact ha
    have i0 : inV (.int l) (.tup [.int 0, .int (-1)]) = some (decide (l = 0 ∨ l = -1)) := by
      simp [inV, flatS, eqv, Bool.beq_eq_decide_eq]
      by_cases h : l = 0
      · subst h; simp
      · by_cases h3 : l = -1
        · subst h3; simp
        · simp [h, h3, show ¬ 0 = l from fun z => h z.symm, show ¬ -1 = l from fun z => h3 z.symm]
    unfold wLet
    cases b with
    | false =>
      obtain ⟨a, ha, j, ej, eix⟩ := aw r
      simp only [pv0, pv1, pv2, pv3, pv4, pv5, pv6, pv7, pv8, pv9, pv10, pv11, eq_self, beq_self_eq_true, reduceIte, reduceCtorEq, Nat.reduceAdd, Nat.reduceSub, Nat.reduceBNe, Nat.reduceBEq, Nat.reduceEqDiff, em, add_int, ej, eix, ad, ln]
      exact ⟨w ++ [a], l, _, _, by simp [h1], fin a ha, rfl⟩
    | true =>
      by_cases hl : l = 0 ∨ l = -1
      · obtain ⟨a, ha, j, ej, eix⟩ := aw r
        simp only [pv0, pv1, pv2, pv3, pv4, pv5, pv6, pv7, pv8, pv9, pv10, pv11, eq_self, beq_self_eq_true, reduceIte, reduceCtorEq, Nat.reduceAdd, Nat.reduceSub, Nat.reduceBNe, Nat.reduceBEq, Nat.reduceEqDiff, em, add_int, ej, eix, ad, ln, i0, hl]
        exact ⟨w ++ [a], l, _, _, by simp [h1], fin a ha, rfl⟩
      · obtain ⟨a, ha, j, ej, eix⟩ := aw l
        simp only [pv0, pv1, pv2, pv3, pv4, pv5, pv6, pv7, pv8, pv9, pv10, pv11, eq_self, beq_self_eq_true, reduceIte, reduceCtorEq, Nat.reduceAdd, Nat.reduceSub, Nat.reduceBNe, Nat.reduceBEq, Nat.reduceEqDiff, em, add_int, ej, eix, ad, ln, i0, hl, f2]
        exact ⟨w ++ [a], _, _, _, by simp [h1], fin a ha, rfl⟩
  · rintro ρ ⟨w, l, o1, o2, h1, h2, rfl⟩
    rw [upTo_len] at h1
    simp only [pv0, pv1, pv2, pv3, pv4, pv5, pv6, pv7, pv8, pv9, pv10, pv11, eq_self, beq_self_eq_true, reduceIte, reduceCtorEq, Nat.reduceAdd, Nat.reduceSub, Nat.reduceBNe, Nat.reduceBEq, Nat.reduceEqDiff]
    exact ⟨w, h1, h2, rfl⟩
/-! ### the same, down to what is inside -/
noncomputable def wSame (D : Fn) : Ss := (.cons (.ifs (.not (.val (.call D (.cons (.var 2) (.cons (.var 3) .nil))))) (.cons (.ret (.con (.bl false))) .nil) .nil) .nil)
noncomputable def iSame (D : Fn) : Ss := (.cons (.ifs (.val (.inst (.var 1) [.list, .tuple])) (.cons (.ifs (.or (.val (.cmp .ne (.inst (.var 1) [.list]) (.inst (.var 0) [.list]))) (.val (.cmp .ne (.inst (.var 1) [.tuple]) (.inst (.var 0) [.tuple])))) (.cons (.ret (.con (.bl false))) .nil) .nil) (.cons (.ifs (.val (.cmp .ne (.bf1 .len (.var 0)) (.bf1 .len (.var 1)))) (.cons (.ret (.con (.bl false))) .nil) .nil) (.cons (.for_ [2, 3] (.zip (.var 0) (.var 1)) (wSame D)) (.cons (.ret (.con (.bl true))) .nil)))) .nil) (.cons (.ifs (.val (.cmp .is (.var 1) (.con .non))) (.cons (.ret (.cmp .is (.var 0) (.con .non))) .nil) .nil) (.cons (.ifs (.val (.inst (.var 1) [.str])) (.cons (.ret (.andV (.inst (.var 0) [.str]) (.cmp .eq (.var 0) (.var 1)))) .nil) .nil) (.cons (.ret (.andV (.inst (.var 0) [.int]) (.andV (.cmp .eq (.inst (.var 0) [.bool]) (.inst (.var 1) [.bool])) (.cmp .eq (.var 0) (.var 1))))) .nil))))
noncomputable def same : Nat → Fn
  | 0 => fun _ _ => .bad
  | n + 1 => den 2 4 (iSame (same n))
/-- plain data, no deeper than n -/
def plainTo : Nat → PV → Bool
  | _, .non => true
  | _, .bl _ => true
  | _, .int _ => true
  | _, .str _ => true
  | n + 1, .tup xs => xs.all (plainTo n)
  | n + 1, .lst xs => xs.all (plainTo n)
  | _, _ => false
theorem zipL_get {xs : List PV} {i : Nat} {p : PV} (h : (zipL xs xs)[i]? = some p) : ∃ x, x ∈ xs ∧ p = .tup [x, x] := by
  unfold zipL at h
  rw [List.getElem?_map, Option.map_eq_some_iff] at h
  obtain ⟨⟨a, b⟩, h, rfl⟩ := h
  have h2 := List.getElem?_zip_eq_some.mp h
  have h3 : a = b := by
    have := h2.1.symm.trans h2.2
    simpa using this
  subst h3
  exact ⟨a, List.mem_of_getElem? h2.1, rfl⟩
theorem same_ok : ∀ (n : Nat) (x : PV) (m1 m2 : Md) (ω : Store), m1 ≠ .own → m1 ≠ .lv → m2 ≠ .own → m2 ≠ .lv → plainTo n x = true → same (n + 1) [(x, m1), (x, m2)] ω = .ok (.bl true, .fz) ω := by
  intro n
  induction n with
  | zero =>
    intro x m1 m2 ω h1 h2 h3 h4 hp
    refine den_out (Q := fun r => r = .ok (.bl true, .fz) ω) (by rfl) ?_
    unfold iSame
    cases x with
    | non => simp only [pv0, pv1, pv2, pv3, pv4, pv5, pv6, pv7, pv8, pv9, pv10, pv11, eq_self, beq_self_eq_true, reduceIte, reduceCtorEq, Nat.reduceAdd, Nat.reduceSub, Nat.reduceBNe, Nat.reduceBEq, Nat.reduceEqDiff]
    | bl b => simp only [pv0, pv1, pv2, pv3, pv4, pv5, pv6, pv7, pv8, pv9, pv10, pv11, eq_self, beq_self_eq_true, reduceIte, reduceCtorEq, Nat.reduceAdd, Nat.reduceSub, Nat.reduceBNe, Nat.reduceBEq, Nat.reduceEqDiff]
    | int i => simp only [pv0, pv1, pv2, pv3, pv4, pv5, pv6, pv7, pv8, pv9, pv10, pv11, eq_self, beq_self_eq_true, reduceIte, reduceCtorEq, Nat.reduceAdd, Nat.reduceSub, Nat.reduceBNe, Nat.reduceBEq, Nat.reduceEqDiff]
    | str s => simp only [pv0, pv1, pv2, pv3, pv4, pv5, pv6, pv7, pv8, pv9, pv10, pv11, eq_self, beq_self_eq_true, reduceIte, reduceCtorEq, Nat.reduceAdd, Nat.reduceSub, Nat.reduceBNe, Nat.reduceBEq, Nat.reduceEqDiff]
    | _ => exact absurd hp (by simp [plainTo])
  | succ n ih =>
    intro x m1 m2 ω h1 h2 h3 h4 hp
    refine den_out (Q := fun r => r = .ok (.bl true, .fz) ω) (by rfl) ?_
    have e1 : (rdM m1 == Md.lv) = false := by cases m1 <;> first | rfl | contradiction
    have e2 : (rdM m2 == Md.lv) = false := by cases m2 <;> first | rfl | contradiction
    have step : ∀ (xs : List PV), (∀ x ∈ xs, plainTo n x = true) → ∀ (o1 o2 o3 o4 : Option VM), F.Out (fun r => r = .ok (.bl true, .fz) ω) (F.seq (F.seq (forL (exs (wSame (same (n + 1)))) [2, 3] (zipL xs xs) [o1, o2, o3, o4] ω) (exs (.cons (.ret (.con (.bl true))) .nil))) (exs (.cons (.ifs (.val (.cmp .is (.var 1) (.con .non))) (.cons (.ret (.cmp .is (.var 0) (.con .non))) .nil) .nil) (.cons (.ifs (.val (.inst (.var 1) [.str])) (.cons (.ret (.andV (.inst (.var 0) [.str]) (.cmp .eq (.var 0) (.var 1)))) .nil) .nil) (.cons (.ret (.andV (.inst (.var 0) [.int]) (.andV (.cmp .eq (.inst (.var 0) [.bool]) (.inst (.var 1) [.bool])) (.cmp .eq (.var 0) (.var 1))))) .nil))))) := by
      intro xs hxs o1 o2 o3 o4
      rw [F.seq_seq]
      refine for_st (fun i ρ => ∃ o3 o4, ρ = [o1, o2, o3, o4]) ⟨_, _, rfl⟩ ?_ ?_
      · rintro i p ρ hx ⟨o3, o4, rfl⟩
        obtain ⟨x, hm, rfl⟩ := zipL_get hx
        refine ⟨_, as_2, ?_⟩
        have e := ih x .fz .fz ω (by decide) (by decide) (by decide) (by decide) (hxs x hm)
        unfold wSame
        simp only [pv0, pv1, pv2, pv3, pv4, pv5, pv6, pv7, pv8, pv9, pv10, pv11, eq_self, beq_self_eq_true, reduceIte, reduceCtorEq, Nat.reduceAdd, Nat.reduceSub, Nat.reduceBNe, Nat.reduceBEq, Nat.reduceEqDiff, e]
        exact ⟨_, _, rfl⟩
      · rintro ρ ⟨o3, o4, rfl⟩
        simp only [pv0, pv1, pv2, pv3, pv4, pv5, pv6, pv7, pv8, pv9, pv10, pv11, eq_self, beq_self_eq_true, reduceIte, reduceCtorEq, Nat.reduceAdd, Nat.reduceSub, Nat.reduceBNe, Nat.reduceBEq, Nat.reduceEqDiff]
    unfold iSame
    cases x with
    | non => simp only [pv0, pv1, pv2, pv3, pv4, pv5, pv6, pv7, pv8, pv9, pv10, pv11, eq_self, beq_self_eq_true, reduceIte, reduceCtorEq, Nat.reduceAdd, Nat.reduceSub, Nat.reduceBNe, Nat.reduceBEq, Nat.reduceEqDiff]
    | bl b => simp only [pv0, pv1, pv2, pv3, pv4, pv5, pv6, pv7, pv8, pv9, pv10, pv11, eq_self, beq_self_eq_true, reduceIte, reduceCtorEq, Nat.reduceAdd, Nat.reduceSub, Nat.reduceBNe, Nat.reduceBEq, Nat.reduceEqDiff]
    | int i => simp only [pv0, pv1, pv2, pv3, pv4, pv5, pv6, pv7, pv8, pv9, pv10, pv11, eq_self, beq_self_eq_true, reduceIte, reduceCtorEq, Nat.reduceAdd, Nat.reduceSub, Nat.reduceBNe, Nat.reduceBEq, Nat.reduceEqDiff]
    | str s => simp only [pv0, pv1, pv2, pv3, pv4, pv5, pv6, pv7, pv8, pv9, pv10, pv11, eq_self, beq_self_eq_true, reduceIte, reduceCtorEq, Nat.reduceAdd, Nat.reduceSub, Nat.reduceBNe, Nat.reduceBEq, Nat.reduceEqDiff]
    | tup xs =>
      simp only [pv0, pv1, pv2, pv3, pv4, pv5, pv6, pv7, pv8, pv9, pv10, pv11, eq_self, beq_self_eq_true, reduceIte, reduceCtorEq, Nat.reduceAdd, Nat.reduceSub, Nat.reduceBNe, Nat.reduceBEq, Nat.reduceEqDiff, e1, e2]
      exact step xs (by simpa [plainTo] using hp) _ _ _ _
    | lst xs =>
      simp only [pv0, pv1, pv2, pv3, pv4, pv5, pv6, pv7, pv8, pv9, pv10, pv11, eq_self, beq_self_eq_true, reduceIte, reduceCtorEq, Nat.reduceAdd, Nat.reduceSub, Nat.reduceBNe, Nat.reduceBEq, Nat.reduceEqDiff, e1, e2]
      exact step xs (by simpa [plainTo] using hp) _ _ _ _
    | _ => exact absurd hp (by simp [plainTo])
theorem deeps_strs : ∀ ws : List Txt, deeps (ws.map .str) = some 0
  | [] => rfl
  | w :: ws => by
    rw [List.map_cons]
    unfold deeps
    rw [deeps_strs ws]
    rfl
theorem eqvs_strs : ∀ ws vs : List Txt, eqvs (ws.map .str) (vs.map .str) = decide (ws = vs)
  | [], [] => rfl
  | [], v :: vs => by simp [eqvs]
  | w :: ws, [] => by simp [eqvs]
  | w :: ws, v :: vs => by
    show (eqv (.str w) (.str v) && eqvs (ws.map .str) (vs.map .str)) = _
    rw [eqvs_strs ws vs]
    simp [eqv, Bool.beq_eq_decide_eq]
theorem eq_strs (ws vs : List Txt) : cmpV .eq (.lst (ws.map .str)) (.lst (vs.map .str)) = some (decide (ws = vs)) := by
  have h : eqOk (.lst (ws.map .str)) (.lst (vs.map .str)) = true := by simp [eqOk, deep, deeps_strs]
  show (if eqOk _ _ then some (eqvs _ _) else none) = _
  rw [if_pos h, eqvs_strs]
theorem ne_strs (ws vs : List Txt) : cmpV .ne (.lst (ws.map .str)) (.lst (vs.map .str)) = some (!decide (ws = vs)) := by
  have h : eqOk (.lst (ws.map .str)) (.lst (vs.map .str)) = true := by simp [eqOk, deep, deeps_strs]
  show (if eqOk _ _ then some (!eqvs _ _) else none) = _
  rw [if_pos h, eqvs_strs]
theorem ints_get {ns : List Int} {i : Nat} {x : PV} (h : (ns.map PV.int)[i]? = some x) : ∃ c, x = .int c := by
  rw [List.getElem?_map, Option.map_eq_some_iff] at h
  obtain ⟨c, _, rfl⟩ := h
  exact ⟨c, rfl⟩
theorem cell_at (ns : List Int) (k : Nat) (hk : k < 2 ^ 60) (K : Int) (e : K = (k : Int)) (ω : Store) : ∃ c, cell [(.lst (ns.map .int), .fz), (.int K, .fz)] ω = .ok (.int c, .fz) ω := by
  subst e
  exact cell_ok ns k hk .fz .fz ω
/-- a slice of the script -/
theorem slc_ints (ns : List Int) (a b : Nat) (A B : Int) (ea : A = (a : Int)) (eb : B = (b : Int)) : slcV (.lst (ns.map .int)) (.int A) (.int B) = some (.lst (((ns.drop a).take (b - a)).map .int)) := by
  subst ea eb
  have := slc_lst (ns.map PV.int) a b
  rw [← List.map_drop, ← List.map_take] at this
  exact this
end C
end PVL

/-! PVL: where a text stands in a text. -/
namespace PVL
namespace C
theorem isPre_iff : ∀ (w t : Txt), isPre w t = true ↔ w <+: t
  | [], t => by simp [isPre]
  | a :: w, [] => by simp [isPre]
  | a :: w, b :: t => by
    simp only [isPre, Bool.and_eq_true, isPre_iff w t, List.cons_prefix_cons, beq_iff_eq]
theorem pre_take {w t : Txt} : w <+: t ↔ t.take w.length = w := by
  constructor
  · intro h; exact (List.prefix_iff_eq_take.mp h).symm
  · intro h; exact List.prefix_iff_eq_take.mpr h.symm
/-- w stands in t at k -/
def Std (w t : Txt) (k : Nat) : Prop := k ≤ t.length ∧ w <+: t.drop k
theorem findFrom_spec (w : Txt) : ∀ (t : Txt) (i : Nat), (findFrom w t i = -1 ∧ ∀ k, ¬ Std w t k) ∨ ∃ k, findFrom w t i = ((i + k : Nat) : Int) ∧ Std w t k ∧ ∀ k' < k, ¬ Std w t k'
  | [], i => by
    unfold findFrom
    by_cases h : w = []
    · rw [if_pos h]
      subst h
      exact .inr ⟨0, rfl, ⟨Nat.le_refl _, List.nil_prefix⟩, fun k' h => absurd h (Nat.not_lt_zero _)⟩
    · rw [if_neg h]
      refine .inl ⟨rfl, fun k hk => h ?_⟩
      have := hk.2
      rw [List.drop_nil] at this
      exact List.prefix_nil.mp this
  | c :: t, i => by
    unfold findFrom
    by_cases h : isPre w (c :: t) = true
    · rw [if_pos h]
      exact .inr ⟨0, rfl, ⟨Nat.zero_le _, (isPre_iff _ _).mp h⟩, fun k' h => absurd h (Nat.not_lt_zero _)⟩
    · rw [if_neg h]
      have h0 : ¬ Std w (c :: t) 0 := fun z => h ((isPre_iff _ _).mpr z.2)
      have hs : ∀ k, Std w (c :: t) (k + 1) ↔ Std w t k := fun k => by
        unfold Std
        rw [List.drop_succ_cons, List.length_cons]
        constructor
        · rintro ⟨a, b⟩; exact ⟨by omega, b⟩
        · rintro ⟨a, b⟩; exact ⟨by omega, b⟩
      rcases findFrom_spec w t (i + 1) with ⟨e, n⟩ | ⟨k, e, s, n⟩
      · refine .inl ⟨e, fun k hk => ?_⟩
        cases k with
        | zero => exact h0 hk
        | succ k => exact n k ((hs k).mp hk)
      · refine .inr ⟨k + 1, by rw [e]; congr 1; omega, (hs k).mpr s, fun k' hk' => ?_⟩
        cases k' with
        | zero => exact h0
        | succ k' => exact fun z => n k' (by omega) ((hs k').mp z)
theorem find_std (t w : Txt) : (find t w = -1 ∧ ∀ k, ¬ Std w t k) ∨ ∃ k : Nat, find t w = (k : Int) ∧ Std w t k ∧ ∀ k' < k, ¬ Std w t k' := by
  rcases findFrom_spec w t 0 with h | ⟨k, e, h⟩
  · exact .inl h
  · exact .inr ⟨k, by rw [Nat.zero_add] at e; exact e, h⟩
theorem std_len {w t : Txt} {k : Nat} (h : Std w t k) : k + w.length ≤ t.length := by
  have := h.2.length_le
  rw [List.length_drop] at this
  have := h.1
  omega
theorem std_iff {w t : Txt} {k : Nat} : Std w t k ↔ k ≤ t.length ∧ (t.drop k).take w.length = w := by
  unfold Std; rw [pre_take]
theorem std_cut {t : Txt} {k n : Nat} (h : k + n ≤ t.length) : Std ((t.drop k).take n) t k := ⟨by omega, List.take_prefix ..⟩
end C
end PVL

set_option maxHeartbeats 0
namespace LW
open PySem PySem.Spec PyProof.Rows L2 TL PVL PVS PVS.TX
/-! the text -/
def topS (i : Nat) : Stmt := PySem.Challenge.pw_lackword_k22_missing_or_not.main.body.getD i (.Pass ⟨0, 0, 0, 0⟩)
theorem st_0 : ("abcdefghijklmnopqrstuvwxyz" : Str) = mkS [97, 98, 99, 100, 101, 102, 103, 104, 105, 106, 107, 108, 109, 110, 111, 112, 113, 114, 115, 116, 117, 118, 119, 120, 121, 122] ∧ okB [97, 98, 99, 100, 101, 102, 103, 104, 105, 106, 107, 108, 109, 110, 111, 112, 113, 114, 115, 116, 117, 118, 119, 120, 121, 122] = true := ⟨by decide +kernel, by decide +kernel⟩
theorem st_1 : ("" : Str) = mkS [] ∧ okB [] = true := ⟨by decide +kernel, by decide +kernel⟩
theorem st_2 : ("a" : Str) = mkS [97] ∧ okB [97] = true := ⟨by decide +kernel, by decide +kernel⟩
theorem st_3 : ("1" : Str) = mkS [49] ∧ okB [49] = true := ⟨by decide +kernel, by decide +kernel⟩
theorem st_4 : (" " : Str) = mkS [32] ∧ okB [32] = true := ⟨by decide +kernel, by decide +kernel⟩
theorem st_5 : ("abcde" : Str) = mkS [97, 98, 99, 100, 101] ∧ okB [97, 98, 99, 100, 101] = true := ⟨by decide +kernel, by decide +kernel⟩
theorem st_6 : ("ba" : Str) = mkS [98, 97] ∧ okB [98, 97] = true := ⟨by decide +kernel, by decide +kernel⟩
theorem st_7 : ("?" : Str) = mkS [63] ∧ okB [63] = true := ⟨by decide +kernel, by decide +kernel⟩
/-! ### _law_kinds -/
abbrev s__law_kinds : Stmt := topS 21
abbrev n__law_kinds : List Str := ["_law_cell_here", "_law_letters_here", "_law_found", "_law_left", "_law_k"]
abbrev l__law_kinds : List Str := ["_law_cell_here", "_law_letters_here", "_law_found", "_law_left", "_law_k"]
abbrev g__law_kinds : List Str := ["list", "range", "len", "sorted"]
theorem sc__law_kinds : FnScope n__law_kinds ["_law_cell_here"] (defScope s__law_kinds) := ⟨rfl, rfl, rfl, by decide +kernel, rfl, by decide +kernel, by decide +kernel⟩
theorem nm__law_kinds : nmC l__law_kinds g__law_kinds (defScope s__law_kinds) = true := by decide +kernel
noncomputable def w0__law_kinds : Ss := (.cons (.appPop 2 1 (.bin .mod (.var 3) (.bf1 .len (.var 1)))) (.cons (.set 3 (.bin .fdiv (.var 3) (.con (.int 26)))) .nil))
noncomputable def i__law_kinds : Ss := (.cons (.set 1 (.bf1 .list (.con (.str [97, 98, 99, 100, 101, 102, 103, 104, 105, 106, 107, 108, 109, 110, 111, 112, 113, 114, 115, 116, 117, 118, 119, 120, 121, 122])))) (.cons (.set 2 (.lst .nil)) (.cons (.set 3 (.bin .fdiv (.var 0) (.con (.int 4)))) (.cons (.for_ [4] (.rng1 (.bin .add (.con (.int 1)) (.bin .mod (.var 0) (.con (.int 4))))) w0__law_kinds) (.cons (.ret (.bm .join (.con (.str [])) (.cons (.bf1 .sorted (.var 2)) .nil))) .nil)))))
noncomputable def D__law_kinds : Fn := den 1 5 i__law_kinds
theorem b__law_kinds {X : Cx} {G : GS} {W : WX} (h : Bd G W n__law_kinds l__law_kinds l__law_kinds g__law_kinds 0 X) (hsc : X.env.scope = defScope s__law_kinds) (m_list : X.mg "list" = none) (m_range : X.mg "range" = none) (m_len : X.mg "len" = none) (m_sorted : X.mg "sorted" = none) : PSs X (defBody s__law_kinds) (tSs G W i__law_kinds) :=
  (ss_cons (h.set (i := 1) (j := 1) rfl rfl (h.bt1 (j := 0) rfl (b_list h.K h.c) m_list Pv.boot_list (se_str st_0) rfl) rfl) (ss_cons (h.set (i := 2) (j := 2) rfl rfl (se_lst sk_nil (small_es rfl)) rfl) (ss_cons (h.set (i := 3) (j := 3) rfl rfl (se_bin o_fdiv (h.v (i := 0) (j := 0) rfl rfl) se_int) rfl) (ss_cons (h.for_ (si_rng1 (h.g (j := 1) rfl) m_range (se_bin o_add se_int (se_bin o_mod (h.v (i := 0) (j := 0) rfl rfl) se_int)) rfl) (h.tg (i := 4) (j := 4) rfl rfl) (ss_cons (sp_appPop (h.at (i := 2) rfl) (h.vis (j := 2) rfl) (h.db (j := 2) rfl) (h.cd (j := 2) rfl) (h.at (i := 1) rfl) (h.vis (j := 1) rfl) (h.db (j := 1) rfl) (h.cd (j := 1) rfl) (se_bin o_mod (h.v (i := 3) (j := 3) rfl rfl) (h.bf1 (j := 2) rfl (b_len h.K) m_len boot_len (h.v (i := 1) (j := 1) rfl rfl) rfl)) ⟨rfl, rfl, rfl, rfl⟩ rfl ⟨rfl, rfl, rfl, rfl⟩ rfl rfl) (ss_cons (h.set (i := 3) (j := 3) rfl rfl (se_bin o_fdiv (h.v (i := 3) (j := 3) rfl rfl) se_int) rfl) ss_nil)) fun _ => rfl) (ss_cons (sp_ret (se_bm (by decide) PySem.F.slot_str_join PySem.F.type_str_join (m_join h.K) (se_str st_1) (sk_cons (h.bf1 (j := 3) rfl (b_sorted h.K h.c h.u) m_sorted (by decide +kernel) (h.v (i := 2) (j := 2) rfl rfl) rfl) sk_nil rfl) rfl rfl rfl rfl rfl)) ss_nil)))))
theorem f__law_kinds {P : Program} {w : World} {K : PySem.W.Frag} {mg : Str → Option Value} {base : Heap} {G : GS} {f : Addr} {fd : FuncData} (F : FunD K "_law_kinds" "_law_kinds" (defArgs s__law_kinds) (defBody s__law_kinds) (defScope s__law_kinds) [] [] f fd) (hK : G.K = K) (m_list : mg "list" = none) (m_range : mg "range" = none) (m_len : mg "len" = none) (m_sorted : mg "sorted" = none) : FnOk P w K mg base (L2.CX P w) 1 f fd ["_law_cell_here"] (spOf G D__law_kinds) :=
  fn_sim F sc__law_kinds hK nm__law_kinds rfl rfl fun X W h hfr e1 e2 e3 e4 e5 hsc => by subst e1 e2 e3 e4 e5; exact b__law_kinds h hsc m_list m_range m_len m_sorted
/-! ### _law_cell -/
abbrev s__law_cell : Stmt := topS 19
abbrev n__law_cell : List Str := ["_law_script", "_law_k"]
abbrev l__law_cell : List Str := ["_law_script", "_law_k"]
abbrev g__law_cell : List Str := ["len"]
theorem sc__law_cell : FnScope n__law_cell ["_law_script", "_law_k"] (defScope s__law_cell) := ⟨rfl, rfl, rfl, by decide +kernel, rfl, by decide +kernel, by decide +kernel⟩
theorem nm__law_cell : nmC l__law_cell g__law_cell (defScope s__law_cell) = true := by decide +kernel
noncomputable def i__law_cell : Ss := (.cons (.ifs (.val (.cmp .lt (.var 1) (.bf1 .len (.var 0)))) (.cons (.ret (.idx (.var 0) (.var 1))) .nil) .nil) (.cons (.ret (.bin .add (.bin .mul (.con (.int 911)) (.var 1)) (.con (.int 7)))) .nil))
noncomputable def D__law_cell : Fn := den 2 2 i__law_cell
theorem b__law_cell {X : Cx} {G : GS} {W : WX} (h : Bd G W n__law_cell l__law_cell l__law_cell g__law_cell 0 X) (hsc : X.env.scope = defScope s__law_cell) (m_len : X.mg "len" = none) : PSs X (defBody s__law_cell) (tSs G W i__law_cell) :=
  (ss_cons (sp_if (st_cmp (o_lt h.u) (h.v (i := 1) (j := 1) rfl rfl) (h.bf1 (j := 0) rfl (b_len h.K) m_len boot_len (h.v (i := 0) (j := 0) rfl rfl) rfl) rfl) (ss_cons (sp_ret (se_idx h.u (h.v (i := 0) (j := 0) rfl rfl) (h.v (i := 1) (j := 1) rfl rfl) fun _ _ => rfl)) ss_nil) ss_nil) (ss_cons (sp_ret (se_bin o_add (se_bin o_mul se_int (h.v (i := 1) (j := 1) rfl rfl)) se_int)) ss_nil))
theorem f__law_cell {P : Program} {w : World} {K : PySem.W.Frag} {mg : Str → Option Value} {base : Heap} {G : GS} {f : Addr} {fd : FuncData} (F : FunD K "_law_cell" "_law_cell" (defArgs s__law_cell) (defBody s__law_cell) (defScope s__law_cell) [] [] f fd) (hK : G.K = K) (m_len : mg "len" = none) : FnOk P w K mg base (L2.CX P w) 1 f fd ["_law_script", "_law_k"] (spOf G D__law_cell) :=
  fn_sim F sc__law_cell hK nm__law_cell rfl rfl fun X W h hfr e1 e2 e3 e4 e5 hsc => by subst e1 e2 e3 e4 e5; exact b__law_cell h hsc m_len
/-! ### _law_mixed -/
abbrev s__law_mixed : Stmt := topS 20
abbrev n__law_mixed : List Str := ["_law_cell_here", "_law_k", "_law_number"]
abbrev l__law_mixed : List Str := ["_law_cell_here", "_law_k", "_law_number"]
abbrev g__law_mixed : List Str := []
theorem sc__law_mixed : FnScope n__law_mixed ["_law_cell_here", "_law_k"] (defScope s__law_mixed) := ⟨rfl, rfl, rfl, by decide +kernel, rfl, by decide +kernel, by decide +kernel⟩
theorem nm__law_mixed : nmC l__law_mixed g__law_mixed (defScope s__law_mixed) = true := by decide +kernel
noncomputable def i__law_mixed : Ss := (.cons (.set 2 (.bin .mod (.bin .add (.bin .add (.bin .mul (.bin .mod (.var 0) (.con (.int 2147483647))) (.con (.int 48271))) (.bin .mul (.var 1) (.con (.int 7919)))) (.con (.int 104729))) (.con (.int 2147483647)))) (.cons (.set 2 (.bin .mod (.bin .add (.bin .add (.bin .mul (.bin .mod (.bin .mul (.var 2) (.var 2)) (.con (.int 2147483629))) (.con (.int 16807))) (.bin .mul (.var 1) (.con (.int 104729)))) (.con (.int 11))) (.con (.int 2147483587)))) (.cons (.ret (.bin .mod (.bin .mul (.var 2) (.var 2)) (.con (.int 2147483549)))) .nil)))
noncomputable def D__law_mixed : Fn := den 2 3 i__law_mixed
theorem b__law_mixed {X : Cx} {G : GS} {W : WX} (h : Bd G W n__law_mixed l__law_mixed l__law_mixed g__law_mixed 0 X) (hsc : X.env.scope = defScope s__law_mixed) : PSs X (defBody s__law_mixed) (tSs G W i__law_mixed) :=
  (ss_cons (h.set (i := 2) (j := 2) rfl rfl (se_bin o_mod (se_bin o_add (se_bin o_add (se_bin o_mul (se_bin o_mod (h.v (i := 0) (j := 0) rfl rfl) se_int) se_int) (se_bin o_mul (h.v (i := 1) (j := 1) rfl rfl) se_int)) se_int) se_int) rfl) (ss_cons (h.set (i := 2) (j := 2) rfl rfl (se_bin o_mod (se_bin o_add (se_bin o_add (se_bin o_mul (se_bin o_mod (se_bin o_mul (h.v (i := 2) (j := 2) rfl rfl) (h.v (i := 2) (j := 2) rfl rfl)) se_int) se_int) (se_bin o_mul (h.v (i := 1) (j := 1) rfl rfl) se_int)) se_int) se_int) rfl) (ss_cons (sp_ret (se_bin o_mod (se_bin o_mul (h.v (i := 2) (j := 2) rfl rfl) (h.v (i := 2) (j := 2) rfl rfl)) se_int)) ss_nil)))
theorem f__law_mixed {P : Program} {w : World} {K : PySem.W.Frag} {mg : Str → Option Value} {base : Heap} {G : GS} {f : Addr} {fd : FuncData} (F : FunD K "_law_mixed" "_law_mixed" (defArgs s__law_mixed) (defBody s__law_mixed) (defScope s__law_mixed) [] [] f fd) (hK : G.K = K) : FnOk P w K mg base (L2.CX P w) 1 f fd ["_law_cell_here", "_law_k"] (spOf G D__law_mixed) :=
  fn_sim F sc__law_mixed hK nm__law_mixed rfl rfl fun X W h hfr e1 e2 e3 e4 e5 hsc => by subst e1 e2 e3 e4 e5; exact b__law_mixed h hsc 
/-! ### _law_letters -/
abbrev s__law_letters : Stmt := topS 22
abbrev n__law_letters : List Str := ["_law_cell_here", "_law_kinds_here", "_law_size", "_law_digits", "_law_found", "_law_left", "_law_k", "_law_number"]
abbrev l__law_letters : List Str := ["_law_cell_here", "_law_kinds_here", "_law_size", "_law_digits", "_law_found", "_law_left", "_law_k", "_law_number"]
abbrev g__law_letters : List Str := ["range", "_law_mixed", "len"]
theorem sc__law_letters : FnScope n__law_letters ["_law_cell_here", "_law_kinds_here", "_law_size", "_law_digits"] (defScope s__law_letters) := ⟨rfl, rfl, rfl, by decide +kernel, rfl, by decide +kernel, by decide +kernel⟩
theorem nm__law_letters : nmC l__law_letters g__law_letters (defScope s__law_letters) = true := by decide +kernel
noncomputable def w0__law_letters : Ss := (.cons (.set 7 (.call D__law_mixed (.cons (.var 0) (.cons (.bin .add (.con (.int 40)) (.var 6)) .nil)))) (.cons (.ifs (.and (.val (.var 3)) (.val (.cmp .notin (.var 5) (.tup (.cons (.con (.int 0)) (.cons (.neg (.con (.int 1))) .nil)))))) (.cons (.frz [5] (.set 7 (.var 5))) (.cons (.set 5 (.bin .fdiv (.var 5) (.bf1 .len (.var 1)))) .nil)) .nil) (.cons (.set 4 (.bin .add (.var 4) (.idx (.var 1) (.bin .mod (.var 7) (.bf1 .len (.var 1)))))) .nil)))
noncomputable def i__law_letters : Ss := (.cons (.set 4 (.con (.str []))) (.cons (.frz [0] (.set 5 (.var 0))) (.cons (.for_ [6] (.rng1 (.var 2)) w0__law_letters) (.cons (.retV 4) .nil))))
noncomputable def D__law_letters : Fn := den 4 8 i__law_letters
theorem b__law_letters {X : Cx} {G : GS} {W : WX} (h : Bd G W n__law_letters l__law_letters l__law_letters g__law_letters 1 X) (hsc : X.env.scope = defScope s__law_letters) (m_range : X.mg "range" = none) (m_len : X.mg "len" = none) (c__law_mixed : Cal G X.prog X.w X.K X.mg X.base 1 "_law_mixed" D__law_mixed) : PSs X (defBody s__law_letters) (tSs G W i__law_letters) :=
  (ss_cons (h.set (i := 4) (j := 4) rfl rfl (se_str st_1) rfl) (ss_cons (sp_frz (is := [0]) (h.set (i := 5) (j := 5) rfl rfl (h.v (i := 0) (j := 0) rfl rfl) rfl)) (ss_cons (h.for_ (si_rng1 (h.g (j := 0) rfl) m_range (h.v (i := 2) (j := 2) rfl rfl) rfl) (h.tg (i := 6) (j := 6) rfl rfl) (ss_cons (h.set (i := 7) (j := 7) rfl rfl (h.call (j := 1) c__law_mixed (by decide) rfl (sa_cons (h.v (i := 0) (j := 0) rfl rfl) (sa_cons (se_bin o_add se_int (h.v (i := 6) (j := 6) rfl rfl)) sa_nil rfl) rfl) rfl rfl) rfl) (ss_cons (sp_if (L2.PW.pt (sw_and (st_val (h.v (i := 3) (j := 3) rfl rfl) fun _ => rfl) (sw_and1 (st_cmp (o_notin h.K h.u) (h.v (i := 5) (j := 5) rfl rfl) (se_tup (sk_cons se_int (sk_cons (se_neg se_int) sk_nil rfl) rfl) (small_es rfl)) rfl)))) (ss_cons (sp_frz (is := [5]) (h.set (i := 7) (j := 7) rfl rfl (h.v (i := 5) (j := 5) rfl rfl) rfl)) (ss_cons (h.set (i := 5) (j := 5) rfl rfl (se_bin o_fdiv (h.v (i := 5) (j := 5) rfl rfl) (h.bf1 (j := 2) rfl (b_len h.K) m_len boot_len (h.v (i := 1) (j := 1) rfl rfl) rfl)) rfl) ss_nil)) ss_nil) (ss_cons (h.set (i := 4) (j := 4) rfl rfl (se_bin o_add (h.v (i := 4) (j := 4) rfl rfl) (se_idx h.u (h.v (i := 1) (j := 1) rfl rfl) (se_bin o_mod (h.v (i := 7) (j := 7) rfl rfl) (h.bf1 (j := 2) rfl (b_len h.K) m_len boot_len (h.v (i := 1) (j := 1) rfl rfl) rfl)) fun _ _ => rfl)) rfl) ss_nil))) fun _ => rfl) (ss_cons (h.retV (i := 4) (j := 4) rfl rfl) ss_nil))))
theorem f__law_letters {P : Program} {w : World} {K : PySem.W.Frag} {mg : Str → Option Value} {base : Heap} {G : GS} {f : Addr} {fd : FuncData} (F : FunD K "_law_letters" "_law_letters" (defArgs s__law_letters) (defBody s__law_letters) (defScope s__law_letters) [] [] f fd) (hK : G.K = K) (m_range : mg "range" = none) (m_len : mg "len" = none) (c__law_mixed : Cal G P w K mg base 1 "_law_mixed" D__law_mixed) : FnOk P w K mg base (L2.CX P w) 2 f fd ["_law_cell_here", "_law_kinds_here", "_law_size", "_law_digits"] (spOf G D__law_letters) :=
  fn_sim F sc__law_letters hK nm__law_letters rfl rfl fun X W h hfr e1 e2 e3 e4 e5 hsc => by subst e1 e2 e3 e4 e5; exact b__law_letters h hsc m_range m_len c__law_mixed
/-! ### _law_text -/
abbrev s__law_text : Stmt := topS 23
abbrev n__law_text : List Str := ["_law_script", "_law_at", "_law_kinds_here", "_law_shape", "_law_size", "_law_text_here", "_law_place", "_law_letter"]
abbrev l__law_text : List Str := ["_law_script", "_law_at", "_law_kinds_here", "_law_shape", "_law_size", "_law_text_here", "_law_place", "_law_letter"]
abbrev g__law_text : List Str := ["_law_mixed", "_law_cell", "_law_letters", "len"]
theorem sc__law_text : FnScope n__law_text ["_law_script", "_law_at", "_law_kinds_here"] (defScope s__law_text) := ⟨rfl, rfl, rfl, by decide +kernel, rfl, by decide +kernel, by decide +kernel⟩
theorem nm__law_text : nmC l__law_text g__law_text (defScope s__law_text) = true := by decide +kernel
noncomputable def i__law_text : Ss := (.cons (.set 3 (.call D__law_mixed (.cons (.call D__law_cell (.cons (.var 0) (.cons (.var 1) .nil))) (.cons (.con (.int 1)) .nil)))) (.cons (.set 4 (.bin .mod (.var 3) (.con (.int 13)))) (.cons (.ifs (.val (.cmp .eq (.bin .mod (.bin .fdiv (.var 3) (.con (.int 13))) (.con (.int 8))) (.con (.int 0)))) (.cons (.set 4 (.bin .mod (.bin .fdiv (.var 3) (.con (.int 104))) (.con (.int 41)))) .nil) .nil) (.cons (.set 5 (.call D__law_letters (.cons (.call D__law_cell (.cons (.var 0) (.cons (.bin .add (.var 1) (.con (.int 1))) .nil))) (.cons (.var 2) (.cons (.var 4) (.cons (.cmp .eq (.bin .mod (.bin .fdiv (.var 3) (.con (.int 5000))) (.con (.int 2))) (.con (.int 0))) .nil)))))) (.cons (.ifs (.and (.val (.cmp .eq (.bin .mod (.bin .fdiv (.var 3) (.con (.int 10000))) (.con (.int 3))) (.con (.int 0)))) (.val (.cmp .gt (.var 4) (.con (.int 0))))) (.cons (.set 5 (.slc (.bin .mul (.slc (.var 5) (.con .non) (.bin .add (.con (.int 1)) (.bin .mod (.bin .fdiv (.var 3) (.con (.int 30000))) (.con (.int 6))))) (.var 4)) (.con .non) (.var 4))) (.cons (.set 6 (.bin .mod (.bin .fdiv (.var 3) (.con (.int 180000))) (.var 4))) (.cons (.set 7 (.idx (.var 2) (.bin .mod (.bin .fdiv (.var 3) (.con (.int 7200000))) (.bf1 .len (.var 2))))) (.cons (.set 5 (.bin .add (.bin .add (.slc (.var 5) (.con .non) (.var 6)) (.var 7)) (.slc (.var 5) (.bin .add (.var 6) (.con (.int 1))) (.con .non)))) .nil)))) .nil) (.cons (.retV 5) .nil))))))
noncomputable def D__law_text : Fn := den 3 8 i__law_text
theorem b__law_text {X : Cx} {G : GS} {W : WX} (h : Bd G W n__law_text l__law_text l__law_text g__law_text 2 X) (hsc : X.env.scope = defScope s__law_text) (m_len : X.mg "len" = none) (c__law_mixed : Cal G X.prog X.w X.K X.mg X.base 1 "_law_mixed" D__law_mixed) (c__law_cell : Cal G X.prog X.w X.K X.mg X.base 1 "_law_cell" D__law_cell) (c__law_letters : Cal G X.prog X.w X.K X.mg X.base 2 "_law_letters" D__law_letters) : PSs X (defBody s__law_text) (tSs G W i__law_text) :=
  (ss_cons (h.set (i := 3) (j := 3) rfl rfl (h.call (j := 0) c__law_mixed (by decide) rfl (sa_cons (h.call (j := 1) c__law_cell (by decide) rfl (sa_cons (h.v (i := 0) (j := 0) rfl rfl) (sa_cons (h.v (i := 1) (j := 1) rfl rfl) sa_nil rfl) rfl) rfl rfl) (sa_cons se_int sa_nil rfl) rfl) rfl rfl) rfl) (ss_cons (h.set (i := 4) (j := 4) rfl rfl (se_bin o_mod (h.v (i := 3) (j := 3) rfl rfl) se_int) rfl) (ss_cons (sp_if (st_cmp (o_eq h.K h.u) (se_bin o_mod (se_bin o_fdiv (h.v (i := 3) (j := 3) rfl rfl) se_int) se_int) se_int rfl) (ss_cons (h.set (i := 4) (j := 4) rfl rfl (se_bin o_mod (se_bin o_fdiv (h.v (i := 3) (j := 3) rfl rfl) se_int) se_int) rfl) ss_nil) ss_nil) (ss_cons (h.set (i := 5) (j := 5) rfl rfl (h.call (j := 2) c__law_letters (by decide) rfl (sa_cons (h.call (j := 1) c__law_cell (by decide) rfl (sa_cons (h.v (i := 0) (j := 0) rfl rfl) (sa_cons (se_bin o_add (h.v (i := 1) (j := 1) rfl rfl) se_int) sa_nil rfl) rfl) rfl rfl) (sa_cons (h.v (i := 2) (j := 2) rfl rfl) (sa_cons (h.v (i := 4) (j := 4) rfl rfl) (sa_cons (se_cmp (o_eq h.K h.u) (se_bin o_mod (se_bin o_fdiv (h.v (i := 3) (j := 3) rfl rfl) se_int) se_int) se_int rfl) sa_nil rfl) rfl) rfl) rfl) rfl rfl) rfl) (ss_cons (sp_if (L2.PW.pt (sw_and (st_cmp (o_eq h.K h.u) (se_bin o_mod (se_bin o_fdiv (h.v (i := 3) (j := 3) rfl rfl) se_int) se_int) se_int rfl) (sw_and1 (st_cmp o_gt (h.v (i := 4) (j := 4) rfl rfl) se_int rfl)))) (ss_cons (h.set (i := 5) (j := 5) rfl rfl (se_slc h.K (se_bin o_mul (se_slc h.K (h.v (i := 5) (j := 5) rfl rfl) spo_none (spo_some (se_bin o_add se_int (se_bin o_mod (se_bin o_fdiv (h.v (i := 3) (j := 3) rfl rfl) se_int) se_int)))) (h.v (i := 4) (j := 4) rfl rfl)) spo_none (spo_some (h.v (i := 4) (j := 4) rfl rfl))) rfl) (ss_cons (h.set (i := 6) (j := 6) rfl rfl (se_bin o_mod (se_bin o_fdiv (h.v (i := 3) (j := 3) rfl rfl) se_int) (h.v (i := 4) (j := 4) rfl rfl)) rfl) (ss_cons (h.set (i := 7) (j := 7) rfl rfl (se_idx h.u (h.v (i := 2) (j := 2) rfl rfl) (se_bin o_mod (se_bin o_fdiv (h.v (i := 3) (j := 3) rfl rfl) se_int) (h.bf1 (j := 3) rfl (b_len h.K) m_len boot_len (h.v (i := 2) (j := 2) rfl rfl) rfl)) fun _ _ => rfl) rfl) (ss_cons (h.set (i := 5) (j := 5) rfl rfl (se_bin o_add (se_bin o_add (se_slc h.K (h.v (i := 5) (j := 5) rfl rfl) spo_none (spo_some (h.v (i := 6) (j := 6) rfl rfl))) (h.v (i := 7) (j := 7) rfl rfl)) (se_slc h.K (h.v (i := 5) (j := 5) rfl rfl) (spo_some (se_bin o_add (h.v (i := 6) (j := 6) rfl rfl) se_int)) spo_none)) rfl) ss_nil)))) ss_nil) (ss_cons (h.retV (i := 5) (j := 5) rfl rfl) ss_nil))))))
theorem f__law_text {P : Program} {w : World} {K : PySem.W.Frag} {mg : Str → Option Value} {base : Heap} {G : GS} {f : Addr} {fd : FuncData} (F : FunD K "_law_text" "_law_text" (defArgs s__law_text) (defBody s__law_text) (defScope s__law_text) [] [] f fd) (hK : G.K = K) (m_len : mg "len" = none) (c__law_mixed : Cal G P w K mg base 1 "_law_mixed" D__law_mixed) (c__law_cell : Cal G P w K mg base 1 "_law_cell" D__law_cell) (c__law_letters : Cal G P w K mg base 2 "_law_letters" D__law_letters) : FnOk P w K mg base (L2.CX P w) 3 f fd ["_law_script", "_law_at", "_law_kinds_here"] (spOf G D__law_text) :=
  fn_sim F sc__law_text hK nm__law_text rfl rfl fun X W h hfr e1 e2 e3 e4 e5 hsc => by subst e1 e2 e3 e4 e5; exact b__law_text h hsc m_len c__law_mixed c__law_cell c__law_letters
/-! ### is_kinds -/
abbrev s_is_kinds : Stmt := topS 6
abbrev n_is_kinds : List Str := ["thing", "letter"]
abbrev l_is_kinds : List Str := ["thing"]
abbrev g_is_kinds : List Str := ["len", "MOST_KINDS", "isinstance", "str", "all", "list", "sorted", "set"]
theorem sc_is_kinds : FnScope n_is_kinds ["thing"] (defScope s_is_kinds) := ⟨rfl, rfl, rfl, by decide +kernel, rfl, by decide +kernel, by decide +kernel⟩
theorem nm_is_kinds : nmC l_is_kinds g_is_kinds (defScope s_is_kinds) = true := by decide +kernel
noncomputable def e0_is_kinds : E := (.cmp .isin (.var 1) (.con (.str [97, 98, 99, 100, 101, 102, 103, 104, 105, 106, 107, 108, 109, 110, 111, 112, 113, 114, 115, 116, 117, 118, 119, 120, 121, 122])))
noncomputable def i_is_kinds : Ss := (.cons (.ifs (.or (.not (.val (.inst (.var 0) [.str]))) (.or (.val (.cmp .lt (.bf1 .len (.var 0)) (.con (.int 1)))) (.val (.cmp .gt (.bf1 .len (.var 0)) (.con (.int 4)))))) (.cons (.ret (.con (.bl false))) .nil) .nil) (.cons (.ifs (.not (.val (.bf1 .all (.comp e0_is_kinds [1] (.val (.var 0)) .tt)))) (.cons (.ret (.con (.bl false))) .nil) .nil) (.cons (.ret (.cmp .eq (.bf1 .list (.var 0)) (.bf1 .sortedSet (.var 0)))) .nil)))
noncomputable def D_is_kinds : Fn := den 1 2 i_is_kinds
theorem b_is_kinds {X : Cx} {G : GS} {W : WX} (h : Bd G W n_is_kinds l_is_kinds l_is_kinds g_is_kinds 0 X) (hsc : X.env.scope = defScope s_is_kinds) (m_len : X.mg "len" = none) (m_isinstance : X.mg "isinstance" = none) (m_str : X.mg "str" = none) (m_all : X.mg "all" = none) (m_list : X.mg "list" = none) (m_sorted : X.mg "sorted" = none) (m_set : X.mg "set" = none) (k_MOST_KINDS : ∃ t, X.mg "MOST_KINDS" = some (.int 4 t)) : PSs X (defBody s_is_kinds) (tSs G W i_is_kinds) :=
  (ss_cons (sp_if (L2.PW.pt (sw_or (st_not (st_val (h.ins1 (j := 2) (j2 := 3) rfl m_isinstance PyProof.Rows.boot_isinstance (h.v (i := 0) (j := 0) rfl rfl) rfl m_str Pv.boot_str rfl rfl) fun _ => rfl)) (sw_or (st_cmp (o_lt h.u) (h.bf1 (j := 0) rfl (b_len h.K) m_len boot_len (h.v (i := 0) (j := 0) rfl rfl) rfl) se_int rfl) (sw_or1 (st_cmp o_gt (h.bf1 (j := 0) rfl (b_len h.K) m_len boot_len (h.v (i := 0) (j := 0) rfl rfl) rfl) (h.gint (j := 1) rfl k_MOST_KINDS) rfl))))) (ss_cons (sp_ret se_bl) ss_nil) ss_nil) (ss_cons (sp_if (st_not (st_val (h.bf1 (j := 4) rfl (b_all h.K h.c) m_all (by decide +kernel) (h.comp hsc (vs' := ["letter"]) (ls' := ["letter"]) (gs' := []) [("letter", 1)] (by decide +kernel) (by decide +kernel) rfl (by decide) (si_valV (h.v (i := 0) (j := 0) rfl rfl)) (fun _ _ _ _ _ hb => (hb.pgn (i := 1) (j := 0) rfl rfl)) (fun _ _ _ _ _ hb => st_tts) (fun _ _ _ _ _ hb => (se_cmp (o_in hb.K hb.u) (hb.v (i := 1) (j := 0) rfl rfl) (se_str st_0) rfl)) (fun _ => rfl)) rfl) fun _ => rfl)) (ss_cons (sp_ret se_bl) ss_nil) ss_nil) (ss_cons (sp_ret (se_cmp (o_eq h.K h.u) (h.bt1 (j := 5) rfl (b_list h.K h.c) m_list Pv.boot_list (h.v (i := 0) (j := 0) rfl rfl) rfl) (se_sortSet h.c h.u (h.g (j := 6) rfl) m_sorted (h.g (j := 7) rfl) m_set (h.v (i := 0) (j := 0) rfl rfl) rfl) rfl)) ss_nil)))
theorem f_is_kinds {P : Program} {w : World} {K : PySem.W.Frag} {mg : Str → Option Value} {base : Heap} {G : GS} {f : Addr} {fd : FuncData} (F : FunD K "is_kinds" "is_kinds" (defArgs s_is_kinds) (defBody s_is_kinds) (defScope s_is_kinds) [] [] f fd) (hK : G.K = K) (m_len : mg "len" = none) (m_isinstance : mg "isinstance" = none) (m_str : mg "str" = none) (m_all : mg "all" = none) (m_list : mg "list" = none) (m_sorted : mg "sorted" = none) (m_set : mg "set" = none) (k_MOST_KINDS : ∃ t, mg "MOST_KINDS" = some (.int 4 t)) : FnOk P w K mg base (L2.CX P w) 1 f fd ["thing"] (spOf G D_is_kinds) :=
  fn_sim F sc_is_kinds hK nm_is_kinds rfl rfl fun X W h hfr e1 e2 e3 e4 e5 hsc => by subst e1 e2 e3 e4 e5; exact b_is_kinds h hsc m_len m_isinstance m_str m_all m_list m_sorted m_set k_MOST_KINDS
/-! ### need_kinds -/
abbrev s_need_kinds : Stmt := topS 8
abbrev n_need_kinds : List Str := ["thing"]
abbrev l_need_kinds : List Str := ["thing"]
abbrev g_need_kinds : List Str := ["is_kinds", "NoKinds"]
theorem sc_need_kinds : FnScope n_need_kinds ["thing"] (defScope s_need_kinds) := ⟨rfl, rfl, rfl, by decide +kernel, rfl, by decide +kernel, by decide +kernel⟩
theorem nm_need_kinds : nmC l_need_kinds g_need_kinds (defScope s_need_kinds) = true := by decide +kernel
noncomputable def i_need_kinds : Ss := (.cons (.ifs (.not (.val (.call D_is_kinds (.cons (.var 0) .nil)))) (.cons (.rais (.mkx 1 .nil)) .nil) .nil) .nil)
noncomputable def D_need_kinds : Fn := den 1 1 i_need_kinds
theorem b_need_kinds {X : Cx} {G : GS} {W : WX} (h : Bd G W n_need_kinds l_need_kinds l_need_kinds g_need_kinds 1 X) (hsc : X.env.scope = defScope s_need_kinds) (c_is_kinds : Cal G X.prog X.w X.K X.mg X.base 1 "is_kinds" D_is_kinds) (x0_NoKinds : X0Ok G X.K X.mg 1 "NoKinds") : PSs X (defBody s_need_kinds) (tSs G W i_need_kinds) :=
  (ss_cons (sp_if (st_not (st_val (h.call (j := 0) c_is_kinds (by decide) rfl (sa_cons (h.v (i := 0) (j := 0) rfl rfl) sa_nil rfl) rfl rfl) fun _ => rfl)) (ss_cons (h.rais0 (j := 1) rfl x0_NoKinds) ss_nil) ss_nil) ss_nil)
theorem f_need_kinds {P : Program} {w : World} {K : PySem.W.Frag} {mg : Str → Option Value} {base : Heap} {G : GS} {f : Addr} {fd : FuncData} (F : FunD K "need_kinds" "need_kinds" (defArgs s_need_kinds) (defBody s_need_kinds) (defScope s_need_kinds) [] [] f fd) (hK : G.K = K) (c_is_kinds : Cal G P w K mg base 1 "is_kinds" D_is_kinds) (x0_NoKinds : X0Ok G K mg 1 "NoKinds") : FnOk P w K mg base (L2.CX P w) 2 f fd ["thing"] (spOf G D_need_kinds) :=
  fn_sim F sc_need_kinds hK nm_need_kinds rfl rfl fun X W h hfr e1 e2 e3 e4 e5 hsc => by subst e1 e2 e3 e4 e5; exact b_need_kinds h hsc c_is_kinds x0_NoKinds
/-! ### is_word -/
abbrev s_is_word : Stmt := topS 7
abbrev n_is_word : List Str := ["thing", "kinds", "most", "letter"]
abbrev l_is_word : List Str := ["thing", "kinds", "most"]
abbrev g_is_word : List Str := ["len", "isinstance", "str", "all"]
theorem sc_is_word : FnScope n_is_word ["thing", "kinds", "most"] (defScope s_is_word) := ⟨rfl, rfl, rfl, by decide +kernel, rfl, by decide +kernel, by decide +kernel⟩
theorem nm_is_word : nmC l_is_word g_is_word (defScope s_is_word) = true := by decide +kernel
noncomputable def e0_is_word : E := (.cmp .isin (.var 3) (.var 1))
noncomputable def i_is_word : Ss := (.cons (.ifs (.or (.not (.val (.inst (.var 0) [.str]))) (.val (.cmp .gt (.bf1 .len (.var 0)) (.var 2)))) (.cons (.ret (.con (.bl false))) .nil) .nil) (.cons (.ret (.bf1 .all (.comp e0_is_word [3] (.val (.var 0)) .tt))) .nil))
noncomputable def D_is_word : Fn := den 3 4 i_is_word
theorem b_is_word {X : Cx} {G : GS} {W : WX} (h : Bd G W n_is_word l_is_word l_is_word g_is_word 0 X) (hsc : X.env.scope = defScope s_is_word) (m_len : X.mg "len" = none) (m_isinstance : X.mg "isinstance" = none) (m_str : X.mg "str" = none) (m_all : X.mg "all" = none) : PSs X (defBody s_is_word) (tSs G W i_is_word) :=
  (ss_cons (sp_if (L2.PW.pt (sw_or (st_not (st_val (h.ins1 (j := 1) (j2 := 2) rfl m_isinstance PyProof.Rows.boot_isinstance (h.v (i := 0) (j := 0) rfl rfl) rfl m_str Pv.boot_str rfl rfl) fun _ => rfl)) (sw_or1 (st_cmp o_gt (h.bf1 (j := 0) rfl (b_len h.K) m_len boot_len (h.v (i := 0) (j := 0) rfl rfl) rfl) (h.v (i := 2) (j := 2) rfl rfl) rfl)))) (ss_cons (sp_ret se_bl) ss_nil) ss_nil) (ss_cons (sp_ret (h.bf1 (j := 3) rfl (b_all h.K h.c) m_all (by decide +kernel) (h.comp hsc (vs' := ["letter", "kinds"]) (ls' := ["letter"]) (gs' := []) [("letter", 3)] (by decide +kernel) (by decide +kernel) rfl (by decide) (si_valV (h.v (i := 0) (j := 0) rfl rfl)) (fun _ _ _ _ _ hb => (hb.pgn (i := 3) (j := 0) rfl rfl)) (fun _ _ _ _ _ hb => st_tts) (fun _ _ _ _ _ hb => (se_cmp (o_in hb.K hb.u) (hb.v (i := 3) (j := 0) rfl rfl) (hb.v (i := 1) (j := 1) rfl rfl) rfl)) (fun _ => rfl)) rfl)) ss_nil))
theorem f_is_word {P : Program} {w : World} {K : PySem.W.Frag} {mg : Str → Option Value} {base : Heap} {G : GS} {f : Addr} {fd : FuncData} (F : FunD K "is_word" "is_word" (defArgs s_is_word) (defBody s_is_word) (defScope s_is_word) [] [] f fd) (hK : G.K = K) (m_len : mg "len" = none) (m_isinstance : mg "isinstance" = none) (m_str : mg "str" = none) (m_all : mg "all" = none) : FnOk P w K mg base (L2.CX P w) 1 f fd ["thing", "kinds", "most"] (spOf G D_is_word) :=
  fn_sim F sc_is_word hK nm_is_word rfl rfl fun X W h hfr e1 e2 e3 e4 e5 hsc => by subst e1 e2 e3 e4 e5; exact b_is_word h hsc m_len m_isinstance m_str m_all
/-! ### need_word -/
abbrev s_need_word : Stmt := topS 9
abbrev n_need_word : List Str := ["thing", "kinds", "most"]
abbrev l_need_word : List Str := ["thing", "kinds", "most"]
abbrev g_need_word : List Str := ["is_word", "NoWord"]
theorem sc_need_word : FnScope n_need_word ["thing", "kinds", "most"] (defScope s_need_word) := ⟨rfl, rfl, rfl, by decide +kernel, rfl, by decide +kernel, by decide +kernel⟩
theorem nm_need_word : nmC l_need_word g_need_word (defScope s_need_word) = true := by decide +kernel
noncomputable def i_need_word : Ss := (.cons (.ifs (.not (.val (.call D_is_word (.cons (.var 0) (.cons (.var 1) (.cons (.var 2) .nil)))))) (.cons (.frz [0] (.rais (.mkx 2 (.cons (.var 0) .nil)))) .nil) .nil) .nil)
noncomputable def D_need_word : Fn := den 3 3 i_need_word
theorem b_need_word {X : Cx} {G : GS} {W : WX} (h : Bd G W n_need_word l_need_word l_need_word g_need_word 2 X) (hsc : X.env.scope = defScope s_need_word) (c_is_word : Cal G X.prog X.w X.K X.mg X.base 1 "is_word" D_is_word) (x1_NoWord : X1N G X.prog X.w X.K X.mg X.base 1 2 1 "NoWord") : PSs X (defBody s_need_word) (tSs G W i_need_word) :=
  (ss_cons (sp_if (st_not (st_val (h.call (j := 0) c_is_word (by decide) rfl (sa_cons (h.v (i := 0) (j := 0) rfl rfl) (sa_cons (h.v (i := 1) (j := 1) rfl rfl) (sa_cons (h.v (i := 2) (j := 2) rfl rfl) sa_nil rfl) rfl) rfl) rfl rfl) fun _ => rfl)) (ss_cons (sp_frz (is := [0]) (h.rais1 (j := 1) rfl x1_NoWord (by decide) (sk_cons (h.v (i := 0) (j := 0) rfl rfl) sk_nil rfl) rfl (by decide) rfl rfl)) ss_nil) ss_nil) ss_nil)
theorem f_need_word {P : Program} {w : World} {K : PySem.W.Frag} {mg : Str → Option Value} {base : Heap} {G : GS} {f : Addr} {fd : FuncData} (F : FunD K "need_word" "need_word" (defArgs s_need_word) (defBody s_need_word) (defScope s_need_word) [] [] f fd) (hK : G.K = K) (c_is_word : Cal G P w K mg base 1 "is_word" D_is_word) (x1_NoWord : X1N G P w K mg base 1 2 1 "NoWord") : FnOk P w K mg base (L2.CX P w) 3 f fd ["thing", "kinds", "most"] (spOf G D_need_word) :=
  fn_sim F sc_need_word hK nm_need_word rfl rfl fun X W h hfr e1 e2 e3 e4 e5 hsc => by subst e1 e2 e3 e4 e5; exact b_need_word h hsc c_is_word x1_NoWord
/-! ### in_order -/
abbrev s_in_order : Stmt := topS 11
abbrev n_in_order : List Str := ["words"]
abbrev l_in_order : List Str := ["words"]
abbrev g_in_order : List Str := ["sorted"]
theorem sc_in_order : FnScope n_in_order ["words"] (defScope s_in_order) := ⟨rfl, rfl, rfl, by decide +kernel, rfl, by decide +kernel, by decide +kernel⟩
theorem nm_in_order : nmC l_in_order g_in_order (defScope s_in_order) = true := by decide +kernel
noncomputable def i_in_order : Ss := (.cons (.ret (.bf1 .sortedW (.var 0))) .nil)
noncomputable def D_in_order : Fn := den 1 1 i_in_order
theorem b_in_order {X : Cx} {G : GS} {W : WX} (h : Bd G W n_in_order l_in_order l_in_order g_in_order 0 X) (hsc : X.env.scope = defScope s_in_order) (hl : LM.LamOk G X) (m_sorted : X.mg "sorted" = none) (m_len : X.mg "len" = none) : PSs X (defBody s_in_order) (tSs G W i_in_order) :=
  (ss_cons (sp_ret (LM.se_sortW h.c h.u (h.r.mono (Nat.zero_le _)) (h.g (j := 0) rfl) m_sorted m_len hl (LM.lenS_by (by decide +kernel)) (by decide) (fun _ => rfl) rfl (fun _ _ _ _ _ _ => rfl) (h.v (i := 0) (j := 0) rfl rfl) rfl rfl)) ss_nil)
theorem f_in_order {P : Program} {w : World} {K : PySem.W.Frag} {mg : Str → Option Value} {base : Heap} {G : GS} {fd : FuncData} (F : FunD K "in_order" "in_order" (defArgs s_in_order) (defBody s_in_order) (defScope s_in_order) [] [] (He.fAd K ("in_order", none)) fd) (hK : G.K = K) (tb : LamX.TabB base mg (He.cT K ("in_order", none)).1 (He.cT K ("in_order", none)).2) (mT : ((He.cT K ("in_order", none)).2, (("in_order" : Str) ++ ".<locals>.") ++ "<lambda>") ∈ G.tabs) (uT : ∀ p ∈ G.tabs, p.1 = (He.cT K ("in_order", none)).2 → p.2 = (("in_order" : Str) ++ ".<locals>.") ++ "<lambda>") (m_sorted : mg "sorted" = none) (m_len : mg "len" = none) : FnOk P w K mg base (L2.CX P w) 1 (He.fAd K ("in_order", none)) fd ["words"] (spOf G D_in_order) :=
  fn_simL F sc_in_order hK nm_in_order rfl rfl tb mT uT fun X W h hfr hl e1 e2 e3 e4 e5 hsc => by subst e1 e2 e3 e4 e5; exact b_in_order h hsc hl m_sorted m_len
/-! ### stretches -/
abbrev s_stretches : Stmt := topS 12
abbrev n_stretches : List Str := ["text", "found", "start", "end"]
abbrev l_stretches : List Str := ["text", "found", "start", "end"]
abbrev g_stretches : List Str := ["range", "len", "in_order", "list"]
theorem sc_stretches : FnScope n_stretches ["text"] (defScope s_stretches) := ⟨rfl, rfl, rfl, by decide +kernel, rfl, by decide +kernel, by decide +kernel⟩
theorem nm_stretches : nmC l_stretches g_stretches (defScope s_stretches) = true := by decide +kernel
noncomputable def w0_stretches : Ss := (.cons (.put (.var 1) (.slc (.var 0) (.var 2) (.var 3)) (.con (.bl true))) .nil)
noncomputable def w1_stretches : Ss := (.cons (.for_ [3] (.rng2 (.bin .add (.var 2) (.con (.int 1))) (.bin .add (.bf1 .len (.var 0)) (.con (.int 1)))) w0_stretches) .nil)
noncomputable def i_stretches : Ss := (.cons (.set 1 (.dct (.cons (.con (.str [])) (.cons (.con (.bl true)) .nil)))) (.cons (.for_ [2] (.rng1 (.bf1 .len (.var 0))) w1_stretches) (.cons (.ret (.call D_in_order (.cons (.bf1 .list (.var 1)) .nil))) .nil)))
noncomputable def D_stretches : Fn := den 1 4 i_stretches
theorem b_stretches {X : Cx} {G : GS} {W : WX} (h : Bd G W n_stretches l_stretches l_stretches g_stretches 1 X) (hsc : X.env.scope = defScope s_stretches) (m_range : X.mg "range" = none) (m_len : X.mg "len" = none) (m_list : X.mg "list" = none) (c_in_order : Cal G X.prog X.w X.K X.mg X.base 1 "in_order" D_in_order) : PSs X (defBody s_stretches) (tSs G W i_stretches) :=
  (ss_cons (h.set (i := 1) (j := 1) rfl rfl (se_dct1 (se_str st_1) se_bl) rfl) (ss_cons (h.for_ (si_rng1 (h.g (j := 0) rfl) m_range (h.bf1 (j := 1) rfl (b_len h.K) m_len boot_len (h.v (i := 0) (j := 0) rfl rfl) rfl) rfl) (h.tg (i := 2) (j := 2) rfl rfl) (ss_cons (h.for_ (si_rng2 (h.g (j := 0) rfl) m_range (se_bin o_add (h.v (i := 2) (j := 2) rfl rfl) se_int) (se_bin o_add (h.bf1 (j := 1) rfl (b_len h.K) m_len boot_len (h.v (i := 0) (j := 0) rfl rfl) rfl) se_int) rfl rfl) (h.tg (i := 3) (j := 3) rfl rfl) (ss_cons (sp_put (by have := h.u; omega) (h.pl (i := 1) (j := 1) rfl rfl) (se_slc h.K (h.v (i := 0) (j := 0) rfl rfl) (spo_some (h.v (i := 2) (j := 2) rfl rfl)) (spo_some (h.v (i := 3) (j := 3) rfl rfl))) se_bl (fun _ => rfl) rfl rfl rfl) ss_nil) fun _ => rfl) ss_nil) fun _ => rfl) (ss_cons (sp_ret (h.call (j := 2) c_in_order (by decide) rfl (sa_cons (h.bt1 (j := 3) rfl (b_list h.K h.c) m_list Pv.boot_list (h.v (i := 1) (j := 1) rfl rfl) rfl) sa_nil rfl) rfl rfl)) ss_nil)))
theorem f_stretches {P : Program} {w : World} {K : PySem.W.Frag} {mg : Str → Option Value} {base : Heap} {G : GS} {f : Addr} {fd : FuncData} (F : FunD K "stretches" "stretches" (defArgs s_stretches) (defBody s_stretches) (defScope s_stretches) [] [] f fd) (hK : G.K = K) (m_range : mg "range" = none) (m_len : mg "len" = none) (m_list : mg "list" = none) (c_in_order : Cal G P w K mg base 1 "in_order" D_in_order) : FnOk P w K mg base (L2.CX P w) 2 f fd ["text"] (spOf G D_stretches) :=
  fn_sim F sc_stretches hK nm_stretches rfl rfl fun X W h hfr e1 e2 e3 e4 e5 hsc => by subst e1 e2 e3 e4 e5; exact b_stretches h hsc m_range m_len m_list c_in_order
/-! ### lacking -/
abbrev s_lacking : Stmt := topS 16
abbrev n_lacking : List Str := ["text", "kinds", "known", "word", "found", "letter", "longer"]
abbrev l_lacking : List Str := ["text", "kinds", "known", "word", "found", "letter", "longer"]
abbrev g_lacking : List Str := ["need_kinds", "need_word", "MOST_LETTERS", "stretches"]
theorem sc_lacking : FnScope n_lacking ["text", "kinds"] (defScope s_lacking) := ⟨rfl, rfl, rfl, by decide +kernel, rfl, by decide +kernel, by decide +kernel⟩
theorem nm_lacking : nmC l_lacking g_lacking (defScope s_lacking) = true := by decide +kernel
noncomputable def w0_lacking : Ss := (.cons (.put (.var 2) (.var 3) (.bm .find (.var 0) (.cons (.var 3) .nil))) .nil)
noncomputable def w1_lacking : Ss := (.cons (.set 6 (.bin .add (.var 3) (.var 5))) (.cons (.ifs (.and (.val (.cmp .notin (.var 6) (.var 2))) (.val (.cmp .isin (.slc (.var 6) (.con (.int 1)) (.con .non)) (.var 2)))) (.cons (.frz [6] (.app (.var 4) (.tup (.cons (.var 6) (.cons (.idx (.var 2) (.var 3)) (.cons (.idx (.var 2) (.slc (.var 6) (.con (.int 1)) (.con .non))) .nil)))))) .nil) .nil) .nil))
noncomputable def w2_lacking : Ss := (.cons (.for_ [5] (.val (.var 1)) w1_lacking) .nil)
noncomputable def i_lacking : Ss := (.cons (.expr (.call D_need_kinds (.cons (.var 1) .nil))) (.cons (.expr (.call D_need_word (.cons (.var 0) (.cons (.var 1) (.cons (.con (.int 40)) .nil))))) (.cons (.set 2 (.dct .nil)) (.cons (.for_ [3] (.val (.call D_stretches (.cons (.var 0) .nil))) w0_lacking) (.cons (.set 4 (.lst .nil)) (.cons (.for_ [3] (.val (.call D_stretches (.cons (.var 0) .nil))) w2_lacking) (.cons (.retV 4) .nil)))))))
noncomputable def D_lacking : Fn := den 2 7 i_lacking
theorem b_lacking {X : Cx} {G : GS} {W : WX} (h : Bd G W n_lacking l_lacking l_lacking g_lacking 3 X) (hsc : X.env.scope = defScope s_lacking) (k_MOST_LETTERS : ∃ t, X.mg "MOST_LETTERS" = some (.int 40 t)) (c_need_kinds : Cal G X.prog X.w X.K X.mg X.base 2 "need_kinds" D_need_kinds) (c_need_word : Cal G X.prog X.w X.K X.mg X.base 3 "need_word" D_need_word) (c_stretches : Cal G X.prog X.w X.K X.mg X.base 2 "stretches" D_stretches) : PSs X (defBody s_lacking) (tSs G W i_lacking) :=
  (ss_cons (sp_expr (h.call (j := 0) c_need_kinds (by decide) rfl (sa_cons (h.v (i := 1) (j := 1) rfl rfl) sa_nil rfl) rfl rfl) rfl) (ss_cons (sp_expr (h.call (j := 1) c_need_word (by decide) rfl (sa_cons (h.v (i := 0) (j := 0) rfl rfl) (sa_cons (h.v (i := 1) (j := 1) rfl rfl) (sa_cons (h.gint (j := 2) rfl k_MOST_LETTERS) sa_nil rfl) rfl) rfl) rfl rfl) rfl) (ss_cons (h.set (i := 2) (j := 2) rfl rfl se_dct0 rfl) (ss_cons (h.for_ (si_valE (h.call (j := 3) c_stretches (by decide) rfl (sa_cons (h.v (i := 0) (j := 0) rfl rfl) sa_nil rfl) rfl rfl) rfl) (h.tg (i := 3) (j := 3) rfl rfl) (ss_cons (sp_put (by have := h.u; omega) (h.pl (i := 2) (j := 2) rfl rfl) (h.v (i := 3) (j := 3) rfl rfl) (se_bm (by decide) PySem.F.slot_str_find PySem.F.type_str_find m_find (h.v (i := 0) (j := 0) rfl rfl) (sk_cons (h.v (i := 3) (j := 3) rfl rfl) sk_nil rfl) rfl rfl rfl rfl rfl) (fun _ => rfl) rfl rfl rfl) ss_nil) fun _ => rfl) (ss_cons (h.set (i := 4) (j := 4) rfl rfl (se_lst sk_nil (small_es rfl)) rfl) (ss_cons (h.for_ (si_valE (h.call (j := 3) c_stretches (by decide) rfl (sa_cons (h.v (i := 0) (j := 0) rfl rfl) sa_nil rfl) rfl rfl) rfl) (h.tg (i := 3) (j := 3) rfl rfl) (ss_cons (h.forV (i := 1) (j := 1) rfl rfl (h.tg (i := 5) (j := 5) rfl rfl) (ss_cons (h.set (i := 6) (j := 6) rfl rfl (se_bin o_add (h.v (i := 3) (j := 3) rfl rfl) (h.v (i := 5) (j := 5) rfl rfl)) rfl) (ss_cons (sp_if (L2.PW.pt (sw_and (st_cmp (o_notin h.K h.u) (h.v (i := 6) (j := 6) rfl rfl) (h.v (i := 2) (j := 2) rfl rfl) rfl) (sw_and1 (st_cmp (o_in h.K h.u) (se_slc h.K (h.v (i := 6) (j := 6) rfl rfl) (spo_some se_int) spo_none) (h.v (i := 2) (j := 2) rfl rfl) rfl)))) (ss_cons (sp_frz (is := [6]) (sp_app (h.pl (i := 4) (j := 4) rfl rfl) (se_tup (sk_cons (h.v (i := 6) (j := 6) rfl rfl) (sk_cons (se_idx h.u (h.v (i := 2) (j := 2) rfl rfl) (h.v (i := 3) (j := 3) rfl rfl) fun _ _ => rfl) (sk_cons (se_idx h.u (h.v (i := 2) (j := 2) rfl rfl) (se_slc h.K (h.v (i := 6) (j := 6) rfl rfl) (spo_some se_int) spo_none) fun _ _ => rfl) sk_nil rfl) rfl) rfl) (small_es rfl)) rfl rfl rfl rfl rfl)) ss_nil) ss_nil) ss_nil))) ss_nil) fun _ => rfl) (ss_cons (h.retV (i := 4) (j := 4) rfl rfl) ss_nil)))))))
theorem f_lacking {P : Program} {w : World} {K : PySem.W.Frag} {mg : Str → Option Value} {base : Heap} {G : GS} {f : Addr} {fd : FuncData} (F : FunD K "lacking" "lacking" (defArgs s_lacking) (defBody s_lacking) (defScope s_lacking) [] [] f fd) (hK : G.K = K) (k_MOST_LETTERS : ∃ t, mg "MOST_LETTERS" = some (.int 40 t)) (c_need_kinds : Cal G P w K mg base 2 "need_kinds" D_need_kinds) (c_need_word : Cal G P w K mg base 3 "need_word" D_need_word) (c_stretches : Cal G P w K mg base 2 "stretches" D_stretches) : FnOk P w K mg base (L2.CX P w) 4 f fd ["text", "kinds"] (spOf G D_lacking) :=
  fn_sim F sc_lacking hK nm_lacking rfl rfl fun X W h hfr e1 e2 e3 e4 e5 hsc => by subst e1 e2 e3 e4 e5; exact b_lacking h hsc k_MOST_LETTERS c_need_kinds c_need_word c_stretches
/-! ### _law_word -/
abbrev s__law_word : Stmt := topS 24
abbrev n__law_word : List Str := ["_law_cell_here", "_law_text_here", "_law_kinds_here", "_law_way", "_law_start", "_law_piece", "_law_left"]
abbrev l__law_word : List Str := ["_law_cell_here", "_law_text_here", "_law_kinds_here", "_law_way", "_law_start", "_law_piece", "_law_left"]
abbrev g__law_word : List Str := ["len", "_law_letters"]
theorem sc__law_word : FnScope n__law_word ["_law_cell_here", "_law_text_here", "_law_kinds_here"] (defScope s__law_word) := ⟨rfl, rfl, rfl, by decide +kernel, rfl, by decide +kernel, by decide +kernel⟩
theorem nm__law_word : nmC l__law_word g__law_word (defScope s__law_word) = true := by decide +kernel
noncomputable def i__law_word : Ss := (.cons (.set 3 (.bin .mod (.var 0) (.con (.int 4)))) (.cons (.set 4 (.bin .mod (.bin .fdiv (.var 0) (.con (.int 4))) (.bin .add (.bf1 .len (.var 1)) (.con (.int 1))))) (.cons (.set 5 (.slc (.var 1) (.var 4) (.bin .add (.var 4) (.bin .mod (.bin .fdiv (.var 0) (.con (.int 164))) (.con (.int 41)))))) (.cons (.set 6 (.bin .fdiv (.var 0) (.con (.int 6724)))) (.cons (.ifs (.val (.cmp .eq (.var 3) (.con (.int 0)))) (.cons (.retV 5) .nil) .nil) (.cons (.ifs (.val (.cmp .eq (.var 3) (.con (.int 1)))) (.cons (.ret (.bin .add (.var 5) (.call D__law_letters (.cons (.bin .fdiv (.var 6) (.con (.int 5))) (.cons (.var 2) (.cons (.bin .mod (.var 6) (.con (.int 5))) (.cons (.con (.bl true)) .nil))))))) .nil) .nil) (.cons (.ifs (.val (.cmp .eq (.var 3) (.con (.int 2)))) (.cons (.ret (.call D__law_letters (.cons (.bin .fdiv (.var 6) (.con (.int 9))) (.cons (.var 2) (.cons (.bin .mod (.var 6) (.con (.int 9))) (.cons (.con (.bl true)) .nil)))))) .nil) .nil) (.cons (.ret (.slc (.bin .add (.var 5) (.slc (.var 1) (.bin .mod (.var 6) (.bin .add (.bf1 .len (.var 1)) (.con (.int 1)))) (.con .non))) (.con .non) (.con (.int 60)))) .nil))))))))
noncomputable def D__law_word : Fn := den 3 7 i__law_word
theorem b__law_word {X : Cx} {G : GS} {W : WX} (h : Bd G W n__law_word l__law_word l__law_word g__law_word 2 X) (hsc : X.env.scope = defScope s__law_word) (m_len : X.mg "len" = none) (c__law_letters : Cal G X.prog X.w X.K X.mg X.base 2 "_law_letters" D__law_letters) : PSs X (defBody s__law_word) (tSs G W i__law_word) :=
  (ss_cons (h.set (i := 3) (j := 3) rfl rfl (se_bin o_mod (h.v (i := 0) (j := 0) rfl rfl) se_int) rfl) (ss_cons (h.set (i := 4) (j := 4) rfl rfl (se_bin o_mod (se_bin o_fdiv (h.v (i := 0) (j := 0) rfl rfl) se_int) (se_bin o_add (h.bf1 (j := 0) rfl (b_len h.K) m_len boot_len (h.v (i := 1) (j := 1) rfl rfl) rfl) se_int)) rfl) (ss_cons (h.set (i := 5) (j := 5) rfl rfl (se_slc h.K (h.v (i := 1) (j := 1) rfl rfl) (spo_some (h.v (i := 4) (j := 4) rfl rfl)) (spo_some (se_bin o_add (h.v (i := 4) (j := 4) rfl rfl) (se_bin o_mod (se_bin o_fdiv (h.v (i := 0) (j := 0) rfl rfl) se_int) se_int)))) rfl) (ss_cons (h.set (i := 6) (j := 6) rfl rfl (se_bin o_fdiv (h.v (i := 0) (j := 0) rfl rfl) se_int) rfl) (ss_cons (sp_if (st_cmp (o_eq h.K h.u) (h.v (i := 3) (j := 3) rfl rfl) se_int rfl) (ss_cons (h.retV (i := 5) (j := 5) rfl rfl) ss_nil) ss_nil) (ss_cons (sp_if (st_cmp (o_eq h.K h.u) (h.v (i := 3) (j := 3) rfl rfl) se_int rfl) (ss_cons (sp_ret (se_bin o_add (h.v (i := 5) (j := 5) rfl rfl) (h.call (j := 1) c__law_letters (by decide) rfl (sa_cons (se_bin o_fdiv (h.v (i := 6) (j := 6) rfl rfl) se_int) (sa_cons (h.v (i := 2) (j := 2) rfl rfl) (sa_cons (se_bin o_mod (h.v (i := 6) (j := 6) rfl rfl) se_int) (sa_cons se_bl sa_nil rfl) rfl) rfl) rfl) rfl rfl))) ss_nil) ss_nil) (ss_cons (sp_if (st_cmp (o_eq h.K h.u) (h.v (i := 3) (j := 3) rfl rfl) se_int rfl) (ss_cons (sp_ret (h.call (j := 1) c__law_letters (by decide) rfl (sa_cons (se_bin o_fdiv (h.v (i := 6) (j := 6) rfl rfl) se_int) (sa_cons (h.v (i := 2) (j := 2) rfl rfl) (sa_cons (se_bin o_mod (h.v (i := 6) (j := 6) rfl rfl) se_int) (sa_cons se_bl sa_nil rfl) rfl) rfl) rfl) rfl rfl)) ss_nil) ss_nil) (ss_cons (sp_ret (se_slc h.K (se_bin o_add (h.v (i := 5) (j := 5) rfl rfl) (se_slc h.K (h.v (i := 1) (j := 1) rfl rfl) (spo_some (se_bin o_mod (h.v (i := 6) (j := 6) rfl rfl) (se_bin o_add (h.bf1 (j := 0) rfl (b_len h.K) m_len boot_len (h.v (i := 1) (j := 1) rfl rfl) rfl) se_int))) spo_none)) spo_none (spo_some se_int))) ss_nil))))))))
theorem f__law_word {P : Program} {w : World} {K : PySem.W.Frag} {mg : Str → Option Value} {base : Heap} {G : GS} {f : Addr} {fd : FuncData} (F : FunD K "_law_word" "_law_word" (defArgs s__law_word) (defBody s__law_word) (defScope s__law_word) [] [] f fd) (hK : G.K = K) (m_len : mg "len" = none) (c__law_letters : Cal G P w K mg base 2 "_law_letters" D__law_letters) : FnOk P w K mg base (L2.CX P w) 3 f fd ["_law_cell_here", "_law_text_here", "_law_kinds_here"] (spOf G D__law_word) :=
  fn_sim F sc__law_word hK nm__law_word rfl rfl fun X W h hfr e1 e2 e3 e4 e5 hsc => by subst e1 e2 e3 e4 e5; exact b__law_word h hsc m_len c__law_letters
/-! ### _law_asked -/
abbrev s__law_asked : Stmt := topS 27
abbrev n__law_asked : List Str := ["_law_cell_here", "_law_text_here", "_law_kinds_here", "_law_words", "_law_word_here", "_law_letter"]
abbrev l__law_asked : List Str := ["_law_cell_here", "_law_text_here", "_law_kinds_here", "_law_words", "_law_word_here", "_law_letter"]
abbrev g__law_asked : List Str := ["_law_word", "len"]
theorem sc__law_asked : FnScope n__law_asked ["_law_cell_here", "_law_text_here", "_law_kinds_here", "_law_words"] (defScope s__law_asked) := ⟨rfl, rfl, rfl, by decide +kernel, rfl, by decide +kernel, by decide +kernel⟩
theorem nm__law_asked : nmC l__law_asked g__law_asked (defScope s__law_asked) = true := by decide +kernel
noncomputable def i__law_asked : Ss := (.cons (.ifs (.val (.cmp .gt (.bin .mod (.var 0) (.con (.int 3))) (.con (.int 0)))) (.cons (.ret (.call D__law_word (.cons (.bin .fdiv (.var 0) (.con (.int 3))) (.cons (.var 1) (.cons (.var 2) .nil))))) .nil) .nil) (.cons (.set 4 (.idx (.var 3) (.bin .mod (.bin .fdiv (.var 0) (.con (.int 9))) (.bf1 .len (.var 3))))) (.cons (.set 5 (.idx (.var 2) (.bin .mod (.bin .fdiv (.var 0) (.con (.int 2000))) (.bf1 .len (.var 2))))) (.cons (.frz [4] (.ret (.idx (.lst (.cons (.var 4) (.cons (.bin .add (.var 5) (.var 4)) (.cons (.bin .add (.var 4) (.var 5)) .nil)))) (.bin .mod (.bin .fdiv (.var 0) (.con (.int 3))) (.con (.int 3)))))) .nil))))
noncomputable def D__law_asked : Fn := den 4 6 i__law_asked
theorem b__law_asked {X : Cx} {G : GS} {W : WX} (h : Bd G W n__law_asked l__law_asked l__law_asked g__law_asked 3 X) (hsc : X.env.scope = defScope s__law_asked) (m_len : X.mg "len" = none) (c__law_word : Cal G X.prog X.w X.K X.mg X.base 3 "_law_word" D__law_word) : PSs X (defBody s__law_asked) (tSs G W i__law_asked) :=
  (ss_cons (sp_if (st_cmp o_gt (se_bin o_mod (h.v (i := 0) (j := 0) rfl rfl) se_int) se_int rfl) (ss_cons (sp_ret (h.call (j := 0) c__law_word (by decide) rfl (sa_cons (se_bin o_fdiv (h.v (i := 0) (j := 0) rfl rfl) se_int) (sa_cons (h.v (i := 1) (j := 1) rfl rfl) (sa_cons (h.v (i := 2) (j := 2) rfl rfl) sa_nil rfl) rfl) rfl) rfl rfl)) ss_nil) ss_nil) (ss_cons (h.set (i := 4) (j := 4) rfl rfl (se_idx h.u (h.v (i := 3) (j := 3) rfl rfl) (se_bin o_mod (se_bin o_fdiv (h.v (i := 0) (j := 0) rfl rfl) se_int) (h.bf1 (j := 1) rfl (b_len h.K) m_len boot_len (h.v (i := 3) (j := 3) rfl rfl) rfl)) fun _ _ => rfl) rfl) (ss_cons (h.set (i := 5) (j := 5) rfl rfl (se_idx h.u (h.v (i := 2) (j := 2) rfl rfl) (se_bin o_mod (se_bin o_fdiv (h.v (i := 0) (j := 0) rfl rfl) se_int) (h.bf1 (j := 1) rfl (b_len h.K) m_len boot_len (h.v (i := 2) (j := 2) rfl rfl) rfl)) fun _ _ => rfl) rfl) (ss_cons (sp_frz (is := [4]) (sp_ret (se_idx h.u (se_lst (sk_cons (h.v (i := 4) (j := 4) rfl rfl) (sk_cons (se_bin o_add (h.v (i := 5) (j := 5) rfl rfl) (h.v (i := 4) (j := 4) rfl rfl)) (sk_cons (se_bin o_add (h.v (i := 4) (j := 4) rfl rfl) (h.v (i := 5) (j := 5) rfl rfl)) sk_nil rfl) rfl) rfl) (small_es rfl)) (se_bin o_mod (se_bin o_fdiv (h.v (i := 0) (j := 0) rfl rfl) se_int) se_int) fun _ _ => rfl))) ss_nil))))
theorem f__law_asked {P : Program} {w : World} {K : PySem.W.Frag} {mg : Str → Option Value} {base : Heap} {G : GS} {f : Addr} {fd : FuncData} (F : FunD K "_law_asked" "_law_asked" (defArgs s__law_asked) (defBody s__law_asked) (defScope s__law_asked) [] [] f fd) (hK : G.K = K) (m_len : mg "len" = none) (c__law_word : Cal G P w K mg base 3 "_law_word" D__law_word) : FnOk P w K mg base (L2.CX P w) 4 f fd ["_law_cell_here", "_law_text_here", "_law_kinds_here", "_law_words"] (spOf G D__law_asked) :=
  fn_sim F sc__law_asked hK nm__law_asked rfl rfl fun X W h hfr e1 e2 e3 e4 e5 hsc => by subst e1 e2 e3 e4 e5; exact b__law_asked h hsc m_len c__law_word
/-! ### is_lacking -/
abbrev s_is_lacking : Stmt := topS 17
abbrev n_is_lacking : List Str := ["text", "kinds", "word"]
abbrev l_is_lacking : List Str := ["text", "kinds", "word"]
abbrev g_is_lacking : List Str := ["need_kinds", "need_word", "MOST_LETTERS", "MOST_ASKED"]
theorem sc_is_lacking : FnScope n_is_lacking ["text", "kinds", "word"] (defScope s_is_lacking) := ⟨rfl, rfl, rfl, by decide +kernel, rfl, by decide +kernel, by decide +kernel⟩
theorem nm_is_lacking : nmC l_is_lacking g_is_lacking (defScope s_is_lacking) = true := by decide +kernel
noncomputable def i_is_lacking : Ss := (.cons (.expr (.call D_need_kinds (.cons (.var 1) .nil))) (.cons (.expr (.call D_need_word (.cons (.var 0) (.cons (.var 1) (.cons (.con (.int 40)) .nil))))) (.cons (.expr (.call D_need_word (.cons (.var 2) (.cons (.var 1) (.cons (.con (.int 60)) .nil))))) (.cons (.ret (.andV (.cmp .lt (.bm .find (.var 0) (.cons (.var 2) .nil)) (.con (.int 0))) (.andV (.cmp .ge (.bm .find (.var 0) (.cons (.slc (.var 2) (.con (.int 1)) (.con .non)) .nil)) (.con (.int 0))) (.cmp .ge (.bm .find (.var 0) (.cons (.slc (.var 2) (.con .non) (.neg (.con (.int 1)))) .nil)) (.con (.int 0)))))) .nil))))
noncomputable def D_is_lacking : Fn := den 3 3 i_is_lacking
theorem b_is_lacking {X : Cx} {G : GS} {W : WX} (h : Bd G W n_is_lacking l_is_lacking l_is_lacking g_is_lacking 3 X) (hsc : X.env.scope = defScope s_is_lacking) (k_MOST_LETTERS : ∃ t, X.mg "MOST_LETTERS" = some (.int 40 t)) (k_MOST_ASKED : ∃ t, X.mg "MOST_ASKED" = some (.int 60 t)) (c_need_kinds : Cal G X.prog X.w X.K X.mg X.base 2 "need_kinds" D_need_kinds) (c_need_word : Cal G X.prog X.w X.K X.mg X.base 3 "need_word" D_need_word) : PSs X (defBody s_is_lacking) (tSs G W i_is_lacking) :=
  (ss_cons (sp_expr (h.call (j := 0) c_need_kinds (by decide) rfl (sa_cons (h.v (i := 1) (j := 1) rfl rfl) sa_nil rfl) rfl rfl) rfl) (ss_cons (sp_expr (h.call (j := 1) c_need_word (by decide) rfl (sa_cons (h.v (i := 0) (j := 0) rfl rfl) (sa_cons (h.v (i := 1) (j := 1) rfl rfl) (sa_cons (h.gint (j := 2) rfl k_MOST_LETTERS) sa_nil rfl) rfl) rfl) rfl rfl) rfl) (ss_cons (sp_expr (h.call (j := 1) c_need_word (by decide) rfl (sa_cons (h.v (i := 2) (j := 2) rfl rfl) (sa_cons (h.v (i := 1) (j := 1) rfl rfl) (sa_cons (h.gint (j := 3) rfl k_MOST_ASKED) sa_nil rfl) rfl) rfl) rfl rfl) rfl) (ss_cons (sp_ret (se_and (se_cmp (o_lt h.u) (se_bm (by decide) PySem.F.slot_str_find PySem.F.type_str_find m_find (h.v (i := 0) (j := 0) rfl rfl) (sk_cons (h.v (i := 2) (j := 2) rfl rfl) sk_nil rfl) rfl rfl rfl rfl rfl) se_int rfl) (se_and (se_cmp o_ge (se_bm (by decide) PySem.F.slot_str_find PySem.F.type_str_find m_find (h.v (i := 0) (j := 0) rfl rfl) (sk_cons (se_slc h.K (h.v (i := 2) (j := 2) rfl rfl) (spo_some se_int) spo_none) sk_nil rfl) rfl rfl rfl rfl rfl) se_int rfl) (L2.pe_one (se_cmp o_ge (se_bm (by decide) PySem.F.slot_str_find PySem.F.type_str_find m_find (h.v (i := 0) (j := 0) rfl rfl) (sk_cons (se_slc h.K (h.v (i := 2) (j := 2) rfl rfl) spo_none (spo_some (se_neg se_int))) sk_nil rfl) rfl rfl rfl rfl rfl) se_int rfl))))) ss_nil))))
theorem f_is_lacking {P : Program} {w : World} {K : PySem.W.Frag} {mg : Str → Option Value} {base : Heap} {G : GS} {f : Addr} {fd : FuncData} (F : FunD K "is_lacking" "is_lacking" (defArgs s_is_lacking) (defBody s_is_lacking) (defScope s_is_lacking) [] [] f fd) (hK : G.K = K) (k_MOST_LETTERS : ∃ t, mg "MOST_LETTERS" = some (.int 40 t)) (k_MOST_ASKED : ∃ t, mg "MOST_ASKED" = some (.int 60 t)) (c_need_kinds : Cal G P w K mg base 2 "need_kinds" D_need_kinds) (c_need_word : Cal G P w K mg base 3 "need_word" D_need_word) : FnOk P w K mg base (L2.CX P w) 4 f fd ["text", "kinds", "word"] (spOf G D_is_lacking) :=
  fn_sim F sc_is_lacking hK nm_is_lacking rfl rfl fun X W h hfr e1 e2 e3 e4 e5 hsc => by subst e1 e2 e3 e4 e5; exact b_is_lacking h hsc k_MOST_LETTERS k_MOST_ASKED c_need_kinds c_need_word
/-! ### _law_due -/
abbrev s__law_due : Stmt := topS 28
abbrev n__law_due : List Str := ["_law_text_here", "_law_word_here"]
abbrev l__law_due : List Str := ["_law_text_here", "_law_word_here"]
abbrev g__law_due : List Str := []
theorem sc__law_due : FnScope n__law_due ["_law_text_here", "_law_word_here"] (defScope s__law_due) := ⟨rfl, rfl, rfl, by decide +kernel, rfl, by decide +kernel, by decide +kernel⟩
theorem nm__law_due : nmC l__law_due g__law_due (defScope s__law_due) = true := by decide +kernel
noncomputable def i__law_due : Ss := (.cons (.ifs (.or (.val (.cmp .eq (.var 1) (.con (.str [])))) (.val (.cmp .ge (.bm .find (.var 0) (.cons (.var 1) .nil)) (.con (.int 0))))) (.cons (.ret (.con (.bl false))) .nil) .nil) (.cons (.ret (.andV (.cmp .ge (.bm .find (.var 0) (.cons (.slc (.var 1) (.con (.int 1)) (.con .non)) .nil)) (.con (.int 0))) (.cmp .ge (.bm .find (.var 0) (.cons (.slc (.var 1) (.con .non) (.neg (.con (.int 1)))) .nil)) (.con (.int 0))))) .nil))
noncomputable def D__law_due : Fn := den 2 2 i__law_due
theorem b__law_due {X : Cx} {G : GS} {W : WX} (h : Bd G W n__law_due l__law_due l__law_due g__law_due 0 X) (hsc : X.env.scope = defScope s__law_due) : PSs X (defBody s__law_due) (tSs G W i__law_due) :=
  (ss_cons (sp_if (L2.PW.pt (sw_or (st_cmp (o_eq h.K h.u) (h.v (i := 1) (j := 1) rfl rfl) (se_str st_1) rfl) (sw_or1 (st_cmp o_ge (se_bm (by decide) PySem.F.slot_str_find PySem.F.type_str_find m_find (h.v (i := 0) (j := 0) rfl rfl) (sk_cons (h.v (i := 1) (j := 1) rfl rfl) sk_nil rfl) rfl rfl rfl rfl rfl) se_int rfl)))) (ss_cons (sp_ret se_bl) ss_nil) ss_nil) (ss_cons (sp_ret (se_and (se_cmp o_ge (se_bm (by decide) PySem.F.slot_str_find PySem.F.type_str_find m_find (h.v (i := 0) (j := 0) rfl rfl) (sk_cons (se_slc h.K (h.v (i := 1) (j := 1) rfl rfl) (spo_some se_int) spo_none) sk_nil rfl) rfl rfl rfl rfl rfl) se_int rfl) (L2.pe_one (se_cmp o_ge (se_bm (by decide) PySem.F.slot_str_find PySem.F.type_str_find m_find (h.v (i := 0) (j := 0) rfl rfl) (sk_cons (se_slc h.K (h.v (i := 1) (j := 1) rfl rfl) spo_none (spo_some (se_neg se_int))) sk_nil rfl) rfl rfl rfl rfl rfl) se_int rfl)))) ss_nil))
theorem f__law_due {P : Program} {w : World} {K : PySem.W.Frag} {mg : Str → Option Value} {base : Heap} {G : GS} {f : Addr} {fd : FuncData} (F : FunD K "_law_due" "_law_due" (defArgs s__law_due) (defBody s__law_due) (defScope s__law_due) [] [] f fd) (hK : G.K = K) : FnOk P w K mg base (L2.CX P w) 1 f fd ["_law_text_here", "_law_word_here"] (spOf G D__law_due) :=
  fn_sim F sc__law_due hK nm__law_due rfl rfl fun X W h hfr e1 e2 e3 e4 e5 hsc => by subst e1 e2 e3 e4 e5; exact b__law_due h hsc 
/-! ### _law_no_kinds -/
abbrev s__law_no_kinds : Stmt := topS 26
abbrev n__law_no_kinds : List Str := ["_law_kinds_here", "_law_number", "_law_some"]
abbrev l__law_no_kinds : List Str := ["_law_kinds_here", "_law_number", "_law_some"]
abbrev g__law_no_kinds : List Str := []
theorem sc__law_no_kinds : FnScope n__law_no_kinds ["_law_kinds_here", "_law_number"] (defScope s__law_no_kinds) := ⟨rfl, rfl, rfl, by decide +kernel, rfl, by decide +kernel, by decide +kernel⟩
theorem nm__law_no_kinds : nmC l__law_no_kinds g__law_no_kinds (defScope s__law_no_kinds) = true := by decide +kernel
noncomputable def i__law_no_kinds : Ss := (.cons (.set 2 (.lst (.cons (.con (.str [])) (.cons (.bin .mul (.idx (.var 0) (.con (.int 0))) (.con (.int 2))) (.cons (.con (.str [98, 97])) (.cons (.con (.str [97, 98, 99, 100, 101])) (.cons (.bm .upper (.var 0) .nil) (.cons (.bin .add (.idx (.var 0) (.con (.int 0))) (.con (.str [32]))) (.cons (.con (.str [49])) (.cons (.con .non) (.cons (.con (.int 5)) (.cons (.con (.bl true)) (.cons (.lst (.cons (.idx (.var 0) (.con (.int 0))) .nil)) (.cons (.dct .nil) (.cons (.tup (.cons (.con (.str [97])) .nil)) .nil))))))))))))))) (.cons (.ret (.idx (.var 2) (.bin .mod (.var 1) (.con (.int 13))))) .nil))
noncomputable def D__law_no_kinds : Fn := den 2 3 i__law_no_kinds
theorem b__law_no_kinds {X : Cx} {G : GS} {W : WX} (h : Bd G W n__law_no_kinds l__law_no_kinds l__law_no_kinds g__law_no_kinds 0 X) (hsc : X.env.scope = defScope s__law_no_kinds) : PSs X (defBody s__law_no_kinds) (tSs G W i__law_no_kinds) :=
  (ss_cons (h.set (i := 2) (j := 2) rfl rfl (se_lst (sk_cons (se_str st_1) (sk_cons (se_bin o_mul (se_idx h.u (h.v (i := 0) (j := 0) rfl rfl) se_int fun _ _ => rfl) se_int) (sk_cons (se_str st_6) (sk_cons (se_str st_5) (sk_cons (se_bm0 (by decide) PySem.F.slot_str_upper PySem.F.type_str_upper m_upper (h.v (i := 0) (j := 0) rfl rfl) rfl rfl) (sk_cons (se_bin o_add (se_idx h.u (h.v (i := 0) (j := 0) rfl rfl) se_int fun _ _ => rfl) (se_str st_4)) (sk_cons (se_str st_3) (sk_cons se_non (sk_cons se_int (sk_cons se_bl (sk_cons (se_lst (sk_cons (se_idx h.u (h.v (i := 0) (j := 0) rfl rfl) se_int fun _ _ => rfl) sk_nil rfl) (small_es rfl)) (sk_cons se_dct0 (sk_cons (se_tup (sk_cons (se_str st_2) sk_nil rfl) (small_es rfl)) sk_nil rfl) rfl) rfl) rfl) rfl) rfl) rfl) rfl) rfl) rfl) rfl) rfl) rfl) (small_es rfl)) rfl) (ss_cons (sp_ret (se_idx h.u (h.v (i := 2) (j := 2) rfl rfl) (se_bin o_mod (h.v (i := 1) (j := 1) rfl rfl) se_int) fun _ _ => rfl)) ss_nil))
theorem f__law_no_kinds {P : Program} {w : World} {K : PySem.W.Frag} {mg : Str → Option Value} {base : Heap} {G : GS} {f : Addr} {fd : FuncData} (F : FunD K "_law_no_kinds" "_law_no_kinds" (defArgs s__law_no_kinds) (defBody s__law_no_kinds) (defScope s__law_no_kinds) [] [] f fd) (hK : G.K = K) : FnOk P w K mg base (L2.CX P w) 1 f fd ["_law_kinds_here", "_law_number"] (spOf G D__law_no_kinds) :=
  fn_sim F sc__law_no_kinds hK nm__law_no_kinds rfl rfl fun X W h hfr e1 e2 e3 e4 e5 hsc => by subst e1 e2 e3 e4 e5; exact b__law_no_kinds h hsc 
/-! ### _law_bad -/
abbrev s__law_bad : Stmt := topS 25
abbrev n__law_bad : List Str := ["_law_kinds_here", "_law_most", "_law_number", "_law_odd", "_law_some", "_law_letter"]
abbrev l__law_bad : List Str := ["_law_kinds_here", "_law_most", "_law_number", "_law_odd", "_law_some"]
abbrev g__law_bad : List Str := []
theorem sc__law_bad : FnScope n__law_bad ["_law_kinds_here", "_law_most", "_law_number"] (defScope s__law_bad) := ⟨rfl, rfl, rfl, by decide +kernel, rfl, by decide +kernel, by decide +kernel⟩
theorem nm__law_bad : nmC l__law_bad g__law_bad (defScope s__law_bad) = true := by decide +kernel
noncomputable def e0__law_bad : E := (.var 5)
noncomputable def t1__law_bad : T := (.val (.cmp .notin (.var 5) (.var 0)))
noncomputable def i__law_bad : Ss := (.cons (.set 3 (.idx (.comp e0__law_bad [5] (.val (.con (.str [97, 98, 99, 100, 101]))) t1__law_bad) (.con (.int 0)))) (.cons (.frz [3] (.set 4 (.lst (.cons (.bin .add (.bin .mul (.idx (.var 0) (.con (.int 0))) (.var 1)) (.idx (.var 0) (.con (.int 0)))) (.cons (.var 3) (.cons (.bin .add (.bin .add (.idx (.var 0) (.con (.int 0))) (.var 3)) (.idx (.var 0) (.con (.int 0)))) (.cons (.bm .upper (.idx (.var 0) (.con (.int 0))) .nil) (.cons (.con (.str [32])) (.cons (.bin .add (.idx (.var 0) (.con (.int 0))) (.con (.str [32]))) (.cons (.con (.str [63])) .nil)))))))))) (.cons (.set 4 (.bin .add (.var 4) (.lst (.cons (.con .non) (.cons (.con (.int 5)) (.cons (.con (.bl true)) (.cons (.con (.int 0)) (.cons (.lst .nil) (.cons (.lst (.cons (.idx (.var 0) (.con (.int 0))) .nil)) (.cons (.tup (.cons (.idx (.var 0) (.con (.int 0))) .nil)) (.cons (.dct .nil) (.cons (.dct (.cons (.idx (.var 0) (.con (.int 0))) (.cons (.idx (.var 0) (.con (.int 0))) .nil))) .nil)))))))))))) (.cons (.ret (.idx (.var 4) (.bin .mod (.var 2) (.con (.int 16))))) .nil))))
noncomputable def D__law_bad : Fn := den 3 6 i__law_bad
theorem b__law_bad {X : Cx} {G : GS} {W : WX} (h : Bd G W n__law_bad l__law_bad l__law_bad g__law_bad 0 X) (hsc : X.env.scope = defScope s__law_bad) : PSs X (defBody s__law_bad) (tSs G W i__law_bad) :=
  (ss_cons (h.set (i := 3) (j := 3) rfl rfl (se_idx h.u (h.comp hsc (vs' := ["_law_letter", "_law_kinds_here"]) (ls' := ["_law_letter"]) (gs' := []) [("_law_letter", 5)] (by decide +kernel) (by decide +kernel) rfl (by decide) (si_valE (se_str st_5) rfl) (fun _ _ _ _ _ hb => (hb.pgn (i := 5) (j := 0) rfl rfl)) (fun _ _ _ _ _ hb => (st_one (st_cmp (o_notin hb.K hb.u) (hb.v (i := 5) (j := 0) rfl rfl) (hb.v (i := 0) (j := 1) rfl rfl) rfl))) (fun _ _ _ _ _ hb => (hb.v (i := 5) (j := 0) rfl rfl)) (fun _ => rfl)) se_int fun _ _ => rfl) rfl) (ss_cons (sp_frz (is := [3]) (h.set (i := 4) (j := 4) rfl rfl (se_lst (sk_cons (se_bin o_add (se_bin o_mul (se_idx h.u (h.v (i := 0) (j := 0) rfl rfl) se_int fun _ _ => rfl) (h.v (i := 1) (j := 1) rfl rfl)) (se_idx h.u (h.v (i := 0) (j := 0) rfl rfl) se_int fun _ _ => rfl)) (sk_cons (h.v (i := 3) (j := 3) rfl rfl) (sk_cons (se_bin o_add (se_bin o_add (se_idx h.u (h.v (i := 0) (j := 0) rfl rfl) se_int fun _ _ => rfl) (h.v (i := 3) (j := 3) rfl rfl)) (se_idx h.u (h.v (i := 0) (j := 0) rfl rfl) se_int fun _ _ => rfl)) (sk_cons (se_bm0 (by decide) PySem.F.slot_str_upper PySem.F.type_str_upper m_upper (se_idx h.u (h.v (i := 0) (j := 0) rfl rfl) se_int fun _ _ => rfl) rfl rfl) (sk_cons (se_str st_4) (sk_cons (se_bin o_add (se_idx h.u (h.v (i := 0) (j := 0) rfl rfl) se_int fun _ _ => rfl) (se_str st_4)) (sk_cons (se_str st_7) sk_nil rfl) rfl) rfl) rfl) rfl) rfl) rfl) (small_es rfl)) rfl)) (ss_cons (h.set (i := 4) (j := 4) rfl rfl (se_bin o_add (h.v (i := 4) (j := 4) rfl rfl) (se_lst (sk_cons se_non (sk_cons se_int (sk_cons se_bl (sk_cons se_int (sk_cons (se_lst sk_nil (small_es rfl)) (sk_cons (se_lst (sk_cons (se_idx h.u (h.v (i := 0) (j := 0) rfl rfl) se_int fun _ _ => rfl) sk_nil rfl) (small_es rfl)) (sk_cons (se_tup (sk_cons (se_idx h.u (h.v (i := 0) (j := 0) rfl rfl) se_int fun _ _ => rfl) sk_nil rfl) (small_es rfl)) (sk_cons se_dct0 (sk_cons (se_dct1 (se_idx h.u (h.v (i := 0) (j := 0) rfl rfl) se_int fun _ _ => rfl) (se_idx h.u (h.v (i := 0) (j := 0) rfl rfl) se_int fun _ _ => rfl)) sk_nil rfl) rfl) rfl) rfl) rfl) rfl) rfl) rfl) rfl) (small_es rfl))) rfl) (ss_cons (sp_ret (se_idx h.u (h.v (i := 4) (j := 4) rfl rfl) (se_bin o_mod (h.v (i := 2) (j := 2) rfl rfl) se_int) fun _ _ => rfl)) ss_nil))))
theorem f__law_bad {P : Program} {w : World} {K : PySem.W.Frag} {mg : Str → Option Value} {base : Heap} {G : GS} {f : Addr} {fd : FuncData} (F : FunD K "_law_bad" "_law_bad" (defArgs s__law_bad) (defBody s__law_bad) (defScope s__law_bad) [] [] f fd) (hK : G.K = K) : FnOk P w K mg base (L2.CX P w) 1 f fd ["_law_kinds_here", "_law_most", "_law_number"] (spOf G D__law_bad) :=
  fn_sim F sc__law_bad hK nm__law_bad rfl rfl fun X W h hfr e1 e2 e3 e4 e5 hsc => by subst e1 e2 e3 e4 e5; exact b__law_bad h hsc 
/-! ### _law_refused -/
abbrev s__law_refused : Stmt := topS 30
abbrev n__law_refused : List Str := ["_law_caught_here", "_law_kinds_bad", "_law_due_here"]
abbrev l__law_refused : List Str := ["_law_caught_here", "_law_kinds_bad", "_law_due_here"]
abbrev g__law_refused : List Str := ["isinstance", "NoWord", "NoKinds", "bool"]
theorem sc__law_refused : FnScope n__law_refused ["_law_caught_here", "_law_kinds_bad", "_law_due_here"] (defScope s__law_refused) := ⟨rfl, rfl, rfl, by decide +kernel, rfl, by decide +kernel, by decide +kernel⟩
theorem nm__law_refused : nmC l__law_refused g__law_refused (defScope s__law_refused) = true := by decide +kernel
noncomputable def i__law_refused : Ss := (.cons (.ifs (.val (.var 1)) (.cons (.ret (.andV (.inst (.var 0) [.exc [1]]) (.notV (.val (.inst (.var 0) [.exc [2]]))))) .nil) .nil) (.cons (.ifs (.or (.not (.val (.inst (.var 0) [.exc [2]]))) (.val (.inst (.var 0) [.exc [1]]))) (.cons (.ret (.con (.bl false))) .nil) .nil) (.cons (.ret (.andV (.cmp .eq (.xfld [(2, 0)] (.var 0)) (.var 2)) (.cmp .eq (.inst (.xfld [(2, 0)] (.var 0)) [.bool]) (.inst (.var 2) [.bool])))) .nil)))
noncomputable def D__law_refused : Fn := den 3 3 i__law_refused
theorem b__law_refused {X : Cx} {G : GS} {W : WX} (h : Bd G W n__law_refused l__law_refused l__law_refused g__law_refused 0 X) (hsc : X.env.scope = defScope s__law_refused) (m_isinstance : X.mg "isinstance" = none) (m_bool : X.mg "bool" = none) (xis_NoWord : XisN G X.K X.mg "NoWord" [2]) (xis_NoKinds : XisN G X.K X.mg "NoKinds" [1]) (xf_word : XfOk G X.K "word" [(2, 0)]) : PSs X (defBody s__law_refused) (tSs G W i__law_refused) :=
  (ss_cons (sp_if (st_val (h.v (i := 1) (j := 1) rfl rfl) fun _ => rfl) (ss_cons (sp_ret (se_and (h.insX (j := 0) (j2 := 2) rfl m_isinstance PyProof.Rows.boot_isinstance (h.v (i := 0) (j := 0) rfl rfl) rfl xis_NoKinds rfl) (L2.pe_one (se_notV (h.insX (j := 0) (j2 := 1) rfl m_isinstance PyProof.Rows.boot_isinstance (h.v (i := 0) (j := 0) rfl rfl) rfl xis_NoWord rfl))))) ss_nil) ss_nil) (ss_cons (sp_if (L2.PW.pt (sw_or (st_not (st_val (h.insX (j := 0) (j2 := 1) rfl m_isinstance PyProof.Rows.boot_isinstance (h.v (i := 0) (j := 0) rfl rfl) rfl xis_NoWord rfl) fun _ => rfl)) (sw_or1 (st_val (h.insX (j := 0) (j2 := 2) rfl m_isinstance PyProof.Rows.boot_isinstance (h.v (i := 0) (j := 0) rfl rfl) rfl xis_NoKinds rfl) fun _ => rfl)))) (ss_cons (sp_ret se_bl) ss_nil) ss_nil) (ss_cons (sp_ret (se_and (se_cmp (o_eq h.K h.u) (se_xfld xf_word (h.v (i := 0) (j := 0) rfl rfl) rfl) (h.v (i := 2) (j := 2) rfl rfl) rfl) (L2.pe_one (se_cmp (o_eq h.K h.u) (h.ins1 (j := 0) (j2 := 3) rfl m_isinstance PyProof.Rows.boot_isinstance (se_xfld xf_word (h.v (i := 0) (j := 0) rfl rfl) rfl) rfl m_bool Pv.boot_bool rfl rfl) (h.ins1 (j := 0) (j2 := 3) rfl m_isinstance PyProof.Rows.boot_isinstance (h.v (i := 2) (j := 2) rfl rfl) rfl m_bool Pv.boot_bool rfl rfl) rfl)))) ss_nil)))
theorem f__law_refused {P : Program} {w : World} {K : PySem.W.Frag} {mg : Str → Option Value} {base : Heap} {G : GS} {f : Addr} {fd : FuncData} (F : FunD K "_law_refused" "_law_refused" (defArgs s__law_refused) (defBody s__law_refused) (defScope s__law_refused) [] [] f fd) (hK : G.K = K) (m_isinstance : mg "isinstance" = none) (m_bool : mg "bool" = none) (xis_NoWord : XisN G K mg "NoWord" [2]) (xis_NoKinds : XisN G K mg "NoKinds" [1]) (xf_word : XfOk G K "word" [(2, 0)]) : FnOk P w K mg base (L2.CX P w) 1 f fd ["_law_caught_here", "_law_kinds_bad", "_law_due_here"] (spOf G D__law_refused) :=
  fn_sim F sc__law_refused hK nm__law_refused rfl rfl fun X W h hfr e1 e2 e3 e4 e5 hsc => by subst e1 e2 e3 e4 e5; exact b__law_refused h hsc m_isinstance m_bool xis_NoWord xis_NoKinds xf_word
/-! ### _law_caught -/
abbrev s__law_caught : Stmt := topS 29
abbrev n__law_caught : List Str := ["_law_way", "_law_text_here", "_law_kinds_here", "_law_word_here", "_law_caught_here", "e"]
abbrev l__law_caught : List Str := ["_law_way", "_law_text_here", "_law_kinds_here", "_law_word_here", "_law_caught_here", "e"]
abbrev g__law_caught : List Str := ["lacking", "is_lacking", "LackError"]
theorem sc__law_caught : FnScope n__law_caught ["_law_way", "_law_text_here", "_law_kinds_here", "_law_word_here"] (defScope s__law_caught) := ⟨rfl, rfl, rfl, by decide +kernel, rfl, by decide +kernel, by decide +kernel⟩
theorem nm__law_caught : nmC l__law_caught g__law_caught (defScope s__law_caught) = true := by decide +kernel
noncomputable def i__law_caught : Ss := (.cons (.set 4 (.con .non)) (.cons (.try_ (.cons (.ifs (.val (.cmp .eq (.var 0) (.con (.int 0)))) (.cons (.expr (.call D_lacking (.cons (.var 1) (.cons (.var 2) .nil)))) .nil) (.cons (.expr (.call D_is_lacking (.cons (.var 1) (.cons (.var 2) (.cons (.var 3) .nil))))) .nil)) .nil) (.cons [0, 1, 2] (some 5) (.cons (.frz [5] (.set 4 (.var 5))) .nil) .nil)) (.cons (.retV 4) .nil)))
noncomputable def D__law_caught : Fn := den 4 6 i__law_caught
theorem b__law_caught {X : Cx} {G : GS} {W : WX} (h : Bd G W n__law_caught l__law_caught l__law_caught g__law_caught 4 X) (hsc : X.env.scope = defScope s__law_caught) (c_lacking : Cal G X.prog X.w X.K X.mg X.base 4 "lacking" D_lacking) (c_is_lacking : Cal G X.prog X.w X.K X.mg X.base 4 "is_lacking" D_is_lacking) (xh_LackError : XhN G X.K X.mg "LackError" [0, 1, 2]) (hfr : Fr X) : PSs X (defBody s__law_caught) (tSs G W i__law_caught) :=
  (ss_cons (h.set (i := 4) (j := 4) rfl rfl se_non rfl) (ss_cons (h.tryS hfr (fun _ _ _ h => (ss_cons (sp_if (st_cmp (o_eq h.K h.u) (h.v (i := 0) (j := 0) rfl rfl) se_int rfl) (ss_cons (sp_expr (h.call (j := 0) c_lacking (by decide) rfl (sa_cons (h.v (i := 1) (j := 1) rfl rfl) (sa_cons (h.v (i := 2) (j := 2) rfl rfl) sa_nil rfl) rfl) rfl rfl) rfl) ss_nil) (ss_cons (sp_expr (h.call (j := 1) c_is_lacking (by decide) rfl (sa_cons (h.v (i := 1) (j := 1) rfl rfl) (sa_cons (h.v (i := 2) (j := 2) rfl rfl) (sa_cons (h.v (i := 3) (j := 3) rfl rfl) sa_nil rfl) rfl) rfl) rfl rfl) rfl) ss_nil)) ss_nil)) (h.hsA (i := 5) (j := 2) rfl rfl (by rw [hsc]; decide +kernel) xh_LackError (fun _ _ h => (ss_cons (sp_frz (is := [5]) (h.set (i := 4) (j := 4) rfl rfl (h.v (i := 5) (j := 5) rfl rfl) rfl)) ss_nil)) HsOk.nil)) (ss_cons (h.retV (i := 4) (j := 4) rfl rfl) ss_nil)))
theorem f__law_caught {P : Program} {w : World} {K : PySem.W.Frag} {mg : Str → Option Value} {base : Heap} {G : GS} {f : Addr} {fd : FuncData} (F : FunD K "_law_caught" "_law_caught" (defArgs s__law_caught) (defBody s__law_caught) (defScope s__law_caught) [] [] f fd) (hK : G.K = K) (c_lacking : Cal G P w K mg base 4 "lacking" D_lacking) (c_is_lacking : Cal G P w K mg base 4 "is_lacking" D_is_lacking) (xh_LackError : XhN G K mg "LackError" [0, 1, 2]) : FnOk P w K mg base (L2.CX P w) 5 f fd ["_law_way", "_law_text_here", "_law_kinds_here", "_law_word_here"] (spOf G D__law_caught) :=
  fn_sim F sc__law_caught hK nm__law_caught rfl rfl fun X W h hfr e1 e2 e3 e4 e5 hsc => by subst e1 e2 e3 e4 e5; exact b__law_caught h hsc c_lacking c_is_lacking xh_LackError hfr
/-! ### law -/
abbrev s_law : Stmt := topS 31
abbrev n_law : List Str := ["_law_script", "_law_kinds_here", "_law_text_here", "_law_words", "_law_cell_here", "_law_word_here", "_law_found", "_law_number", "_law_none", "_law_odd", "_law_other", "_law_way", "_law_row"]
abbrev l_law : List Str := ["_law_script", "_law_kinds_here", "_law_text_here", "_law_words", "_law_cell_here", "_law_word_here", "_law_found", "_law_number", "_law_none", "_law_odd", "_law_other", "_law_way"]
abbrev g_law : List Str := ["_law_kinds", "_law_cell", "_law_text", "lacking", "_law_asked", "is_lacking", "_law_due", "isinstance", "bool", "_law_mixed", "_law_no_kinds", "_law_bad", "range", "_law_refused", "_law_caught"]
theorem sc_law : FnScope n_law ["_law_script"] (defScope s_law) := ⟨rfl, rfl, rfl, by decide +kernel, rfl, by decide +kernel, by decide +kernel⟩
theorem nm_law : nmC l_law g_law (defScope s_law) = true := by decide +kernel
noncomputable def e0_law : E := (.idx (.var 12) (.con (.int 0)))
noncomputable def w1_law : Ss := (.cons (.set 5 (.slc (.call D__law_asked (.cons (.var 4) (.cons (.var 2) (.cons (.var 1) (.cons (.var 3) .nil))))) (.con .non) (.con (.int 60)))) (.cons (.set 6 (.call D_is_lacking (.cons (.var 2) (.cons (.var 1) (.cons (.var 5) .nil))))) (.cons (.ifs (.or (.not (.val (.inst (.var 6) [.bool]))) (.val (.cmp .ne (.var 6) (.call D__law_due (.cons (.var 2) (.cons (.var 5) .nil)))))) (.cons (.ret (.con (.bl false))) .nil) .nil) .nil)))
noncomputable def w2_law : Ss := (.cons (.ifs (.not (.val (.call D__law_refused (.cons (.call D__law_caught (.cons (.var 11) (.cons (.var 9) (.cons (.var 8) (.cons (.var 10) .nil))))) (.cons (.con (.bl true)) (.cons (.con .non) .nil)))))) (.cons (.ret (.con (.bl false))) .nil) .nil) (.cons (.ifs (.not (.val (.call D__law_refused (.cons (.call D__law_caught (.cons (.var 11) (.cons (.var 2) (.cons (.var 8) (.cons (.var 2) .nil))))) (.cons (.con (.bl true)) (.cons (.con .non) .nil)))))) (.cons (.ret (.con (.bl false))) .nil) .nil) (.cons (.ifs (.not (.val (.call D__law_refused (.cons (.call D__law_caught (.cons (.var 11) (.cons (.var 9) (.cons (.var 1) (.cons (.var 10) .nil))))) (.cons (.con (.bl false)) (.cons (.var 9) .nil)))))) (.cons (.ret (.con (.bl false))) .nil) .nil) .nil)))
noncomputable def i_law : Ss := (.cons (.set 1 (.call D__law_kinds (.cons (.call D__law_cell (.cons (.var 0) (.cons (.con (.int 0)) .nil))) .nil))) (.cons (.set 2 (.call D__law_text (.cons (.var 0) (.cons (.con (.int 1)) (.cons (.var 1) .nil))))) (.cons (.set 3 (.comp e0_law [12] (.val (.call D_lacking (.cons (.var 2) (.cons (.var 1) .nil)))) .tt)) (.cons (.for_ [4] (.val (.bin .add (.slc (.var 0) (.con (.int 3)) (.con (.int 40))) (.lst (.cons (.con (.int 17)) .nil)))) w1_law) (.cons (.set 7 (.call D__law_mixed (.cons (.call D__law_cell (.cons (.var 0) (.cons (.con (.int 3)) .nil))) (.cons (.con (.int 5)) .nil)))) (.cons (.set 8 (.call D__law_no_kinds (.cons (.var 1) (.cons (.var 7) .nil)))) (.cons (.set 9 (.call D__law_bad (.cons (.var 1) (.cons (.con (.int 40)) (.cons (.bin .fdiv (.var 7) (.con (.int 13))) .nil))))) (.cons (.set 10 (.call D__law_bad (.cons (.var 1) (.cons (.con (.int 60)) (.cons (.bin .fdiv (.var 7) (.con (.int 208))) .nil))))) (.cons (.for_ [11] (.rng1 (.con (.int 2))) w2_law) (.cons (.ret (.call D__law_refused (.cons (.call D__law_caught (.cons (.con (.int 1)) (.cons (.var 2) (.cons (.var 1) (.cons (.var 10) .nil))))) (.cons (.con (.bl false)) (.cons (.var 10) .nil))))) .nil))))))))))
noncomputable def D_law : Fn := den 1 13 i_law
theorem b_law {X : Cx} {G : GS} {W : WX} (h : Bd G W n_law l_law l_law g_law 5 X) (hsc : X.env.scope = defScope s_law) (m_isinstance : X.mg "isinstance" = none) (m_bool : X.mg "bool" = none) (m_range : X.mg "range" = none) (c__law_kinds : Cal G X.prog X.w X.K X.mg X.base 1 "_law_kinds" D__law_kinds) (c__law_cell : Cal G X.prog X.w X.K X.mg X.base 1 "_law_cell" D__law_cell) (c__law_text : Cal G X.prog X.w X.K X.mg X.base 3 "_law_text" D__law_text) (c_lacking : Cal G X.prog X.w X.K X.mg X.base 4 "lacking" D_lacking) (c__law_asked : Cal G X.prog X.w X.K X.mg X.base 4 "_law_asked" D__law_asked) (c_is_lacking : Cal G X.prog X.w X.K X.mg X.base 4 "is_lacking" D_is_lacking) (c__law_due : Cal G X.prog X.w X.K X.mg X.base 1 "_law_due" D__law_due) (c__law_mixed : Cal G X.prog X.w X.K X.mg X.base 1 "_law_mixed" D__law_mixed) (c__law_no_kinds : Cal G X.prog X.w X.K X.mg X.base 1 "_law_no_kinds" D__law_no_kinds) (c__law_bad : Cal G X.prog X.w X.K X.mg X.base 1 "_law_bad" D__law_bad) (c__law_refused : Cal G X.prog X.w X.K X.mg X.base 1 "_law_refused" D__law_refused) (c__law_caught : Cal G X.prog X.w X.K X.mg X.base 5 "_law_caught" D__law_caught) : PSs X (defBody s_law) (tSs G W i_law) :=
  (ss_cons (h.set (i := 1) (j := 1) rfl rfl (h.call (j := 0) c__law_kinds (by decide) rfl (sa_cons (h.call (j := 1) c__law_cell (by decide) rfl (sa_cons (h.v (i := 0) (j := 0) rfl rfl) (sa_cons se_int sa_nil rfl) rfl) rfl rfl) sa_nil rfl) rfl rfl) rfl) (ss_cons (h.set (i := 2) (j := 2) rfl rfl (h.call (j := 2) c__law_text (by decide) rfl (sa_cons (h.v (i := 0) (j := 0) rfl rfl) (sa_cons se_int (sa_cons (h.v (i := 1) (j := 1) rfl rfl) sa_nil rfl) rfl) rfl) rfl rfl) rfl) (ss_cons (h.setC hsc (i := 3) (vs' := ["_law_row"]) (ls' := ["_law_row"]) (gs' := []) [("_law_row", 12)] rfl (by decide +kernel) rfl (by decide +kernel) (by decide +kernel) (by decide +kernel) rfl (by decide) (si_valE (h.call (j := 3) c_lacking (by decide) rfl (sa_cons (h.v (i := 2) (j := 2) rfl rfl) (sa_cons (h.v (i := 1) (j := 1) rfl rfl) sa_nil rfl) rfl) rfl rfl) rfl) (fun _ _ _ _ _ hb => (hb.pgn (i := 12) (j := 0) rfl rfl)) (fun _ _ _ _ _ hb => st_tts) (fun _ _ _ _ _ hb => (se_idx hb.u (hb.v (i := 12) (j := 0) rfl rfl) se_int fun _ _ => rfl)) (fun _ => rfl)) (ss_cons (h.for_ (si_valE (se_bin o_add (se_slc h.K (h.v (i := 0) (j := 0) rfl rfl) (spo_some se_int) (spo_some se_int)) (se_lst (sk_cons se_int sk_nil rfl) (small_es rfl))) rfl) (h.tg (i := 4) (j := 4) rfl rfl) (ss_cons (h.set (i := 5) (j := 5) rfl rfl (se_slc h.K (h.call (j := 4) c__law_asked (by decide) rfl (sa_cons (h.v (i := 4) (j := 4) rfl rfl) (sa_cons (h.v (i := 2) (j := 2) rfl rfl) (sa_cons (h.v (i := 1) (j := 1) rfl rfl) (sa_cons (h.v (i := 3) (j := 3) rfl rfl) sa_nil rfl) rfl) rfl) rfl) rfl rfl) spo_none (spo_some se_int)) rfl) (ss_cons (h.set (i := 6) (j := 6) rfl rfl (h.call (j := 5) c_is_lacking (by decide) rfl (sa_cons (h.v (i := 2) (j := 2) rfl rfl) (sa_cons (h.v (i := 1) (j := 1) rfl rfl) (sa_cons (h.v (i := 5) (j := 5) rfl rfl) sa_nil rfl) rfl) rfl) rfl rfl) rfl) (ss_cons (sp_if (L2.PW.pt (sw_or (st_not (st_val (h.ins1 (j := 7) (j2 := 8) rfl m_isinstance PyProof.Rows.boot_isinstance (h.v (i := 6) (j := 6) rfl rfl) rfl m_bool Pv.boot_bool rfl rfl) fun _ => rfl)) (sw_or1 (st_cmp (o_ne h.K h.u) (h.v (i := 6) (j := 6) rfl rfl) (h.call (j := 6) c__law_due (by decide) rfl (sa_cons (h.v (i := 2) (j := 2) rfl rfl) (sa_cons (h.v (i := 5) (j := 5) rfl rfl) sa_nil rfl) rfl) rfl rfl) rfl)))) (ss_cons (sp_ret se_bl) ss_nil) ss_nil) ss_nil))) fun _ => rfl) (ss_cons (h.set (i := 7) (j := 7) rfl rfl (h.call (j := 9) c__law_mixed (by decide) rfl (sa_cons (h.call (j := 1) c__law_cell (by decide) rfl (sa_cons (h.v (i := 0) (j := 0) rfl rfl) (sa_cons se_int sa_nil rfl) rfl) rfl rfl) (sa_cons se_int sa_nil rfl) rfl) rfl rfl) rfl) (ss_cons (h.set (i := 8) (j := 8) rfl rfl (h.call (j := 10) c__law_no_kinds (by decide) rfl (sa_cons (h.v (i := 1) (j := 1) rfl rfl) (sa_cons (h.v (i := 7) (j := 7) rfl rfl) sa_nil rfl) rfl) rfl rfl) rfl) (ss_cons (h.set (i := 9) (j := 9) rfl rfl (h.call (j := 11) c__law_bad (by decide) rfl (sa_cons (h.v (i := 1) (j := 1) rfl rfl) (sa_cons se_int (sa_cons (se_bin o_fdiv (h.v (i := 7) (j := 7) rfl rfl) se_int) sa_nil rfl) rfl) rfl) rfl rfl) rfl) (ss_cons (h.set (i := 10) (j := 10) rfl rfl (h.call (j := 11) c__law_bad (by decide) rfl (sa_cons (h.v (i := 1) (j := 1) rfl rfl) (sa_cons se_int (sa_cons (se_bin o_fdiv (h.v (i := 7) (j := 7) rfl rfl) se_int) sa_nil rfl) rfl) rfl) rfl rfl) rfl) (ss_cons (h.for_ (si_rng1 (h.g (j := 12) rfl) m_range se_int rfl) (h.tg (i := 11) (j := 11) rfl rfl) (ss_cons (sp_if (st_not (st_val (h.call (j := 13) c__law_refused (by decide) rfl (sa_cons (h.call (j := 14) c__law_caught (by decide) rfl (sa_cons (h.v (i := 11) (j := 11) rfl rfl) (sa_cons (h.v (i := 9) (j := 9) rfl rfl) (sa_cons (h.v (i := 8) (j := 8) rfl rfl) (sa_cons (h.v (i := 10) (j := 10) rfl rfl) sa_nil rfl) rfl) rfl) rfl) rfl rfl) (sa_cons se_bl (sa_cons se_non sa_nil rfl) rfl) rfl) rfl rfl) fun _ => rfl)) (ss_cons (sp_ret se_bl) ss_nil) ss_nil) (ss_cons (sp_if (st_not (st_val (h.call (j := 13) c__law_refused (by decide) rfl (sa_cons (h.call (j := 14) c__law_caught (by decide) rfl (sa_cons (h.v (i := 11) (j := 11) rfl rfl) (sa_cons (h.v (i := 2) (j := 2) rfl rfl) (sa_cons (h.v (i := 8) (j := 8) rfl rfl) (sa_cons (h.v (i := 2) (j := 2) rfl rfl) sa_nil rfl) rfl) rfl) rfl) rfl rfl) (sa_cons se_bl (sa_cons se_non sa_nil rfl) rfl) rfl) rfl rfl) fun _ => rfl)) (ss_cons (sp_ret se_bl) ss_nil) ss_nil) (ss_cons (sp_if (st_not (st_val (h.call (j := 13) c__law_refused (by decide) rfl (sa_cons (h.call (j := 14) c__law_caught (by decide) rfl (sa_cons (h.v (i := 11) (j := 11) rfl rfl) (sa_cons (h.v (i := 9) (j := 9) rfl rfl) (sa_cons (h.v (i := 1) (j := 1) rfl rfl) (sa_cons (h.v (i := 10) (j := 10) rfl rfl) sa_nil rfl) rfl) rfl) rfl) rfl rfl) (sa_cons se_bl (sa_cons (h.v (i := 9) (j := 9) rfl rfl) sa_nil rfl) rfl) rfl) rfl rfl) fun _ => rfl)) (ss_cons (sp_ret se_bl) ss_nil) ss_nil) ss_nil))) fun _ => rfl) (ss_cons (sp_ret (h.call (j := 13) c__law_refused (by decide) rfl (sa_cons (h.call (j := 14) c__law_caught (by decide) rfl (sa_cons se_int (sa_cons (h.v (i := 2) (j := 2) rfl rfl) (sa_cons (h.v (i := 1) (j := 1) rfl rfl) (sa_cons (h.v (i := 10) (j := 10) rfl rfl) sa_nil rfl) rfl) rfl) rfl) rfl rfl) (sa_cons se_bl (sa_cons (h.v (i := 10) (j := 10) rfl rfl) sa_nil rfl) rfl) rfl) rfl rfl)) ss_nil))))))))))
theorem f_law {P : Program} {w : World} {K : PySem.W.Frag} {mg : Str → Option Value} {base : Heap} {G : GS} {f : Addr} {fd : FuncData} (F : FunD K "law" "law" (defArgs s_law) (defBody s_law) (defScope s_law) [] [] f fd) (hK : G.K = K) (m_isinstance : mg "isinstance" = none) (m_bool : mg "bool" = none) (m_range : mg "range" = none) (c__law_kinds : Cal G P w K mg base 1 "_law_kinds" D__law_kinds) (c__law_cell : Cal G P w K mg base 1 "_law_cell" D__law_cell) (c__law_text : Cal G P w K mg base 3 "_law_text" D__law_text) (c_lacking : Cal G P w K mg base 4 "lacking" D_lacking) (c__law_asked : Cal G P w K mg base 4 "_law_asked" D__law_asked) (c_is_lacking : Cal G P w K mg base 4 "is_lacking" D_is_lacking) (c__law_due : Cal G P w K mg base 1 "_law_due" D__law_due) (c__law_mixed : Cal G P w K mg base 1 "_law_mixed" D__law_mixed) (c__law_no_kinds : Cal G P w K mg base 1 "_law_no_kinds" D__law_no_kinds) (c__law_bad : Cal G P w K mg base 1 "_law_bad" D__law_bad) (c__law_refused : Cal G P w K mg base 1 "_law_refused" D__law_refused) (c__law_caught : Cal G P w K mg base 5 "_law_caught" D__law_caught) : FnOk P w K mg base (L2.CX P w) 6 f fd ["_law_script"] (spOf G D_law) :=
  fn_sim F sc_law hK nm_law rfl rfl fun X W h hfr e1 e2 e3 e4 e5 hsc => by subst e1 e2 e3 e4 e5; exact b_law h hsc m_isinstance m_bool m_range c__law_kinds c__law_cell c__law_text c_lacking c__law_asked c_is_lacking c__law_due c__law_mixed c__law_no_kinds c__law_bad c__law_refused c__law_caught
/-! ### the head -/
def d__law_kinds : He.DefD := ⟨("_law_kinds", none), "_law_kinds", "_law_kinds", defArgs s__law_kinds, defBody s__law_kinds, defScope s__law_kinds, [], []⟩
def d__law_cell : He.DefD := ⟨("_law_cell", none), "_law_cell", "_law_cell", defArgs s__law_cell, defBody s__law_cell, defScope s__law_cell, [], []⟩
def d__law_mixed : He.DefD := ⟨("_law_mixed", none), "_law_mixed", "_law_mixed", defArgs s__law_mixed, defBody s__law_mixed, defScope s__law_mixed, [], []⟩
def d__law_letters : He.DefD := ⟨("_law_letters", none), "_law_letters", "_law_letters", defArgs s__law_letters, defBody s__law_letters, defScope s__law_letters, [], []⟩
def d__law_text : He.DefD := ⟨("_law_text", none), "_law_text", "_law_text", defArgs s__law_text, defBody s__law_text, defScope s__law_text, [], []⟩
def d_is_kinds : He.DefD := ⟨("is_kinds", none), "is_kinds", "is_kinds", defArgs s_is_kinds, defBody s_is_kinds, defScope s_is_kinds, [], []⟩
def d_need_kinds : He.DefD := ⟨("need_kinds", none), "need_kinds", "need_kinds", defArgs s_need_kinds, defBody s_need_kinds, defScope s_need_kinds, [], []⟩
def d_is_word : He.DefD := ⟨("is_word", none), "is_word", "is_word", defArgs s_is_word, defBody s_is_word, defScope s_is_word, [], []⟩
def d_need_word : He.DefD := ⟨("need_word", none), "need_word", "need_word", defArgs s_need_word, defBody s_need_word, defScope s_need_word, [], []⟩
def d_in_order : He.DefD := ⟨("in_order", none), "in_order", "in_order", defArgs s_in_order, defBody s_in_order, defScope s_in_order, [], []⟩
def d_stretches : He.DefD := ⟨("stretches", none), "stretches", "stretches", defArgs s_stretches, defBody s_stretches, defScope s_stretches, [], []⟩
def d_lacking : He.DefD := ⟨("lacking", none), "lacking", "lacking", defArgs s_lacking, defBody s_lacking, defScope s_lacking, [], []⟩
def d__law_word : He.DefD := ⟨("_law_word", none), "_law_word", "_law_word", defArgs s__law_word, defBody s__law_word, defScope s__law_word, [], []⟩
def d__law_asked : He.DefD := ⟨("_law_asked", none), "_law_asked", "_law_asked", defArgs s__law_asked, defBody s__law_asked, defScope s__law_asked, [], []⟩
def d_is_lacking : He.DefD := ⟨("is_lacking", none), "is_lacking", "is_lacking", defArgs s_is_lacking, defBody s_is_lacking, defScope s_is_lacking, [], []⟩
def d__law_due : He.DefD := ⟨("_law_due", none), "_law_due", "_law_due", defArgs s__law_due, defBody s__law_due, defScope s__law_due, [], []⟩
def d__law_no_kinds : He.DefD := ⟨("_law_no_kinds", none), "_law_no_kinds", "_law_no_kinds", defArgs s__law_no_kinds, defBody s__law_no_kinds, defScope s__law_no_kinds, [], []⟩
def d__law_bad : He.DefD := ⟨("_law_bad", none), "_law_bad", "_law_bad", defArgs s__law_bad, defBody s__law_bad, defScope s__law_bad, [], []⟩
def d__law_refused : He.DefD := ⟨("_law_refused", none), "_law_refused", "_law_refused", defArgs s__law_refused, defBody s__law_refused, defScope s__law_refused, [], []⟩
def d__law_caught : He.DefD := ⟨("_law_caught", none), "_law_caught", "_law_caught", defArgs s__law_caught, defBody s__law_caught, defScope s__law_caught, [], []⟩
def d_law : He.DefD := ⟨("law", none), "law", "law", defArgs s_law, defBody s_law, defScope s_law, [], []⟩
abbrev s_NoWord___init__ : Stmt := L2.inClass (topS 3) 0
theorem sc_NoWord___init__ : FnScope ["self", "word"] ["self", "word"] (defScope s_NoWord___init__) := ⟨rfl, rfl, rfl, by decide +kernel, rfl, by decide +kernel, by decide +kernel⟩
theorem nm_NoWord___init__ : nmC ["self", "word"] ["LackError"] (defScope s_NoWord___init__) = true := by decide +kernel
def d_NoWord____init__ : He.DefD := ⟨("NoWord", some "__init__"), "__init__", "NoWord.__init__", defArgs s_NoWord___init__, defBody s_NoWord___init__, defScope s_NoWord___init__, [], []⟩
def xnames : List Str := ["LackError", "NoKinds", "NoWord"]
def xfl : List (List Str) := [[], [], ["word"]]
def fns : List He.DefD := [d__law_kinds, d__law_cell, d__law_mixed, d__law_letters, d__law_text, d_is_kinds, d_need_kinds, d_is_word, d_need_word, d_in_order, d_stretches, d_lacking, d__law_word, d__law_asked, d_is_lacking, d__law_due, d__law_no_kinds, d__law_bad, d__law_refused, d__law_caught, d_law, d_NoWord____init__]
def fas : List He.Fa := [.glo "_law_kinds", .glo "_law_cell", .glo "_law_mixed", .glo "_law_letters", .glo "_law_text", .glo "is_kinds", .glo "need_kinds", .glo "is_word", .glo "need_word", .glo "in_order", .glo "stretches", .glo "lacking", .glo "_law_word", .glo "_law_asked", .glo "is_lacking", .glo "_law_due", .glo "_law_no_kinds", .glo "_law_bad", .glo "_law_refused", .glo "_law_caught", .glo "law", .free "list", .free "range", .free "len", .free "sorted", .free "isinstance", .free "str", .free "all", .free "set", .free "bool", .int "MOST_KINDS" 4, .int "MOST_LETTERS" 40, .int "MOST_ASKED" 60, .glo "NoKinds", .glo "NoWord", .glo "LackError", .exc "NoKinds", .meth "NoWord" "__init__"]
abbrev R : PySem.W.OpenRow := PySem.W.OpenLaw.row PySem.Challenge.rw_lackword_k22_missing_or_not
def tfs : List He.Defn := [("in_order", none)]
def tls : List (He.Defn × Str) := [(("in_order", none), (("in_order" : Str) ++ ".<locals>.") ++ "<lambda>")]
theorem tfs_eq : tls.map (·.1) = tfs := rfl
def xb (K : PySem.W.Frag) : Bool := tabsNd K tls && (xsB K xnames && (kiB K xnames (.ref (He.ga K "NoWord")) [2] && (kiB K xnames (.ref (He.ga K "NoKinds")) [1] && (xmB K xnames (.ref (He.ga K "LackError")) [0, 1, 2] && (oexB K (He.ga K "NoWord") && (nofB K (He.ga K "NoWord") ["word"] && (bxB K "LackError")))))))
abbrev hk : PySem.W.Hook := hookQ 4 fas fns tfs xb
def ob (s : PySem.W.SharedT) : He.AlD × Bool := obsQ 4 fas fns tfs xb s
theorem ob_eq (s : PySem.W.SharedT) : ob s = hk.obs s.abs := obsQ_eq 4 fas fns tfs xb s
def loose : List Str := ["LackError", "NoKinds", "NoWord", "MOST_KINDS", "is_kinds", "is_word", "need_kinds", "need_word", "in_order", "stretches", "MOST_LETTERS", "MOST_ASKED", "lacking", "is_lacking", "_law_cell", "_law_mixed", "_law_kinds", "_law_letters", "_law_text", "_law_word", "_law_bad", "_law_no_kinds", "_law_asked", "_law_due", "_law_caught", "_law_refused"]
theorem run (w : World) : HandSHeadRun.RunEq R (PySem.W.view R.prog [31]) hk ob 4000 loose w := by
  intro os
  kernel_rfl
def GK (K : PySem.W.Frag) : GS := { K := K, cl := fun _ => 0, fnm := fun n => ⟨#[n]⟩, xcl := xclA K xnames, xn := xnames.length, xfs := fun c => xfl.getD c [], tabs := tabsG K tls, inj := fun f g e => by simpa using e }
theorem facts (hlaw : LawOk D_law 63) {P : Program} {w : World} {K : PySem.W.Frag} {h : Heap} {mg : Str → Option Value} {f : Addr} (X : K.In h) (G : h.Ns mainGlobals mg) (hfa : mg ("law" : Str) = some (.ref f)) (c : He.SaysD fas fns K) (hx : xb K = true) :
    ∃ fd : FuncData, (∀ (s : Shared) (v : Value), BindsTo s fd ⟨[v], []⟩ [("_law_script", v)]) ∧ ∀ base : Heap, K.In base → base.Ns mainGlobals mg → (∀ p ∈ csOf K tls, LamX.TabB base mg p.1 p.2) → FnOk P w K mg base (L2.CX P w) 6 f fd ["_law_script"] (spOf (GK K) D_law) := by
  obtain ⟨fd__law_kinds, F__law_kinds⟩ := c.def_ 0 (d := d__law_kinds) rfl
  have e__law_kinds := He.glo_ok X G (c.fact 0 (f := .glo "_law_kinds") rfl)
  obtain ⟨fd__law_cell, F__law_cell⟩ := c.def_ 1 (d := d__law_cell) rfl
  have e__law_cell := He.glo_ok X G (c.fact 1 (f := .glo "_law_cell") rfl)
  obtain ⟨fd__law_mixed, F__law_mixed⟩ := c.def_ 2 (d := d__law_mixed) rfl
  have e__law_mixed := He.glo_ok X G (c.fact 2 (f := .glo "_law_mixed") rfl)
  obtain ⟨fd__law_letters, F__law_letters⟩ := c.def_ 3 (d := d__law_letters) rfl
  have e__law_letters := He.glo_ok X G (c.fact 3 (f := .glo "_law_letters") rfl)
  obtain ⟨fd__law_text, F__law_text⟩ := c.def_ 4 (d := d__law_text) rfl
  have e__law_text := He.glo_ok X G (c.fact 4 (f := .glo "_law_text") rfl)
  obtain ⟨fd_is_kinds, F_is_kinds⟩ := c.def_ 5 (d := d_is_kinds) rfl
  have e_is_kinds := He.glo_ok X G (c.fact 5 (f := .glo "is_kinds") rfl)
  obtain ⟨fd_need_kinds, F_need_kinds⟩ := c.def_ 6 (d := d_need_kinds) rfl
  have e_need_kinds := He.glo_ok X G (c.fact 6 (f := .glo "need_kinds") rfl)
  obtain ⟨fd_is_word, F_is_word⟩ := c.def_ 7 (d := d_is_word) rfl
  have e_is_word := He.glo_ok X G (c.fact 7 (f := .glo "is_word") rfl)
  obtain ⟨fd_need_word, F_need_word⟩ := c.def_ 8 (d := d_need_word) rfl
  have e_need_word := He.glo_ok X G (c.fact 8 (f := .glo "need_word") rfl)
  obtain ⟨fd_in_order, F_in_order⟩ := c.def_ 9 (d := d_in_order) rfl
  have e_in_order := He.glo_ok X G (c.fact 9 (f := .glo "in_order") rfl)
  obtain ⟨fd_stretches, F_stretches⟩ := c.def_ 10 (d := d_stretches) rfl
  have e_stretches := He.glo_ok X G (c.fact 10 (f := .glo "stretches") rfl)
  obtain ⟨fd_lacking, F_lacking⟩ := c.def_ 11 (d := d_lacking) rfl
  have e_lacking := He.glo_ok X G (c.fact 11 (f := .glo "lacking") rfl)
  obtain ⟨fd__law_word, F__law_word⟩ := c.def_ 12 (d := d__law_word) rfl
  have e__law_word := He.glo_ok X G (c.fact 12 (f := .glo "_law_word") rfl)
  obtain ⟨fd__law_asked, F__law_asked⟩ := c.def_ 13 (d := d__law_asked) rfl
  have e__law_asked := He.glo_ok X G (c.fact 13 (f := .glo "_law_asked") rfl)
  obtain ⟨fd_is_lacking, F_is_lacking⟩ := c.def_ 14 (d := d_is_lacking) rfl
  have e_is_lacking := He.glo_ok X G (c.fact 14 (f := .glo "is_lacking") rfl)
  obtain ⟨fd__law_due, F__law_due⟩ := c.def_ 15 (d := d__law_due) rfl
  have e__law_due := He.glo_ok X G (c.fact 15 (f := .glo "_law_due") rfl)
  obtain ⟨fd__law_no_kinds, F__law_no_kinds⟩ := c.def_ 16 (d := d__law_no_kinds) rfl
  have e__law_no_kinds := He.glo_ok X G (c.fact 16 (f := .glo "_law_no_kinds") rfl)
  obtain ⟨fd__law_bad, F__law_bad⟩ := c.def_ 17 (d := d__law_bad) rfl
  have e__law_bad := He.glo_ok X G (c.fact 17 (f := .glo "_law_bad") rfl)
  obtain ⟨fd__law_refused, F__law_refused⟩ := c.def_ 18 (d := d__law_refused) rfl
  have e__law_refused := He.glo_ok X G (c.fact 18 (f := .glo "_law_refused") rfl)
  obtain ⟨fd__law_caught, F__law_caught⟩ := c.def_ 19 (d := d__law_caught) rfl
  have e__law_caught := He.glo_ok X G (c.fact 19 (f := .glo "_law_caught") rfl)
  obtain ⟨fd_law, F_law⟩ := c.def_ 20 (d := d_law) rfl
  have e_law := He.glo_ok X G (c.fact 20 (f := .glo "law") rfl)
  have m_list := He.free_ok X G (c.fact 21 (f := .free "list") rfl)
  have m_range := He.free_ok X G (c.fact 22 (f := .free "range") rfl)
  have m_len := He.free_ok X G (c.fact 23 (f := .free "len") rfl)
  have m_sorted := He.free_ok X G (c.fact 24 (f := .free "sorted") rfl)
  have m_isinstance := He.free_ok X G (c.fact 25 (f := .free "isinstance") rfl)
  have m_str := He.free_ok X G (c.fact 26 (f := .free "str") rfl)
  have m_all := He.free_ok X G (c.fact 27 (f := .free "all") rfl)
  have m_set := He.free_ok X G (c.fact 28 (f := .free "set") rfl)
  have m_bool := He.free_ok X G (c.fact 29 (f := .free "bool") rfl)
  have k_MOST_KINDS := He.int_ok X G (c.fact 30 (f := .int "MOST_KINDS" 4) rfl)
  have k_MOST_LETTERS := He.int_ok X G (c.fact 31 (f := .int "MOST_LETTERS" 40) rfl)
  have k_MOST_ASKED := He.int_ok X G (c.fact 32 (f := .int "MOST_ASKED" 60) rfl)
  unfold xb at hx
  obtain ⟨x_0, hx⟩ := Bool.and_eq_true_iff.mp hx
  have nd_ := x_0
  obtain ⟨x_1, hx⟩ := Bool.and_eq_true_iff.mp hx
  have xs_ := xsB_ok x_1
  obtain ⟨x_2, hx⟩ := Bool.and_eq_true_iff.mp hx
  have xk_NoWord := kiB_ok x_2
  obtain ⟨x_3, hx⟩ := Bool.and_eq_true_iff.mp hx
  have xk_NoKinds := kiB_ok x_3
  obtain ⟨x_4, hx⟩ := Bool.and_eq_true_iff.mp hx
  have xm_LackError := xmB_ok x_4
  obtain ⟨x_5, hx⟩ := Bool.and_eq_true_iff.mp hx
  have xo_NoWord := oexB_ok x_5
  obtain ⟨x_6, hx⟩ := Bool.and_eq_true_iff.mp hx
  have xn_NoWord := nofB_ok x_6
  have bxb_ := hx
  have e_NoKinds := He.glo_ok X G (c.fact 33 (f := .glo "NoKinds") rfl)
  have e_NoWord := He.glo_ok X G (c.fact 34 (f := .glo "NoWord") rfl)
  have e_LackError := He.glo_ok X G (c.fact 35 (f := .glo "LackError") rfl)
  have xis_NoWord : XisN (GK K) K mg "NoWord" [2] := ⟨_, e_NoWord, xk_NoWord.1, xs_, xk_NoWord.2⟩
  have xis_NoKinds : XisN (GK K) K mg "NoKinds" [1] := ⟨_, e_NoKinds, xk_NoKinds.1, xs_, xk_NoKinds.2⟩
  have xh_LackError : XhN (GK K) K mg "LackError" [0, 1, 2] := ⟨_, e_LackError, xm_LackError⟩
  have x0_NoKinds : X0Ok (GK K) K mg 1 "NoKinds" := ⟨e_NoKinds, (show 1 < xnames.length by decide), rfl, He.exc_ok (c.fact 36 (f := .exc "NoKinds") rfl)⟩
  obtain ⟨fd_NoWord____init__, F_NoWord____init__⟩ := c.def_ 21 (d := d_NoWord____init__) rfl
  have me_NoWord____init__ := He.meth_ok (c.fact 37 (f := .meth "NoWord" "__init__") rfl)
  have xf_word : XfOk (GK K) K "word" [(2, 0)] := (XfOk.cons (fs := ["word"]) rfl rfl (by decide +kernel) (xs_ 2 (show 2 < xnames.length by decide)) xn_NoWord XfOk.nil)
  cases hfa.symm.trans e_law
  refine ⟨fd_law, fun s v => FunD.bindsA (ps := ["_law_script"]) F_law (fun _ _ _ _ _ _ us hl => match us, hl with | [_], _ => rfl) s [v] rfl, fun base _ _ tbs => ?_⟩
  have x1_NoWord : X1N (GK K) P w K mg base 1 2 1 "NoWord" := ⟨⟨e_NoWord, (show 2 < xnames.length by decide), xo_NoWord, xn_NoWord, ⟨_, fd_NoWord____init__, ["self", "word"], me_NoWord____init__.at_, beq_iff_eq.mp me_NoWord____init__.fn, fn_xi1 (P := P) (w := w) (base := base) (k := 0) F_NoWord____init__ sc_NoWord___init__ nm_NoWord___init__ (bxB_ok bxb_ e_LackError) rfl (fun env => ⟨_, rfl⟩), FunD.bindsN F_NoWord____init__ fun _ _ _ _ _ _ us hl => match us, hl with | [_, _], _ => rfl, rfl⟩⟩, rfl⟩
  have c__law_kinds : Cal (GK K) P w K mg base 1 "_law_kinds" D__law_kinds := ⟨_, fd__law_kinds, ["_law_cell_here"], f__law_kinds (P := P) (w := w) (base := base) (G := GK K) F__law_kinds rfl m_list m_range m_len m_sorted, e__law_kinds, F__law_kinds.kp, FunD.bindsN F__law_kinds fun _ _ _ _ _ _ us hl => match us, hl with | [_], _ => rfl⟩
  have c__law_cell : Cal (GK K) P w K mg base 1 "_law_cell" D__law_cell := ⟨_, fd__law_cell, ["_law_script", "_law_k"], f__law_cell (P := P) (w := w) (base := base) (G := GK K) F__law_cell rfl m_len, e__law_cell, F__law_cell.kp, FunD.bindsN F__law_cell fun _ _ _ _ _ _ us hl => match us, hl with | [_, _], _ => rfl⟩
  have c__law_mixed : Cal (GK K) P w K mg base 1 "_law_mixed" D__law_mixed := ⟨_, fd__law_mixed, ["_law_cell_here", "_law_k"], f__law_mixed (P := P) (w := w) (base := base) (G := GK K) F__law_mixed rfl , e__law_mixed, F__law_mixed.kp, FunD.bindsN F__law_mixed fun _ _ _ _ _ _ us hl => match us, hl with | [_, _], _ => rfl⟩
  have c__law_letters : Cal (GK K) P w K mg base 2 "_law_letters" D__law_letters := ⟨_, fd__law_letters, ["_law_cell_here", "_law_kinds_here", "_law_size", "_law_digits"], f__law_letters (P := P) (w := w) (base := base) (G := GK K) F__law_letters rfl m_range m_len c__law_mixed, e__law_letters, F__law_letters.kp, FunD.bindsN F__law_letters fun _ _ _ _ _ _ us hl => match us, hl with | [_, _, _, _], _ => rfl⟩
  have c__law_text : Cal (GK K) P w K mg base 3 "_law_text" D__law_text := ⟨_, fd__law_text, ["_law_script", "_law_at", "_law_kinds_here"], f__law_text (P := P) (w := w) (base := base) (G := GK K) F__law_text rfl m_len c__law_mixed c__law_cell c__law_letters, e__law_text, F__law_text.kp, FunD.bindsN F__law_text fun _ _ _ _ _ _ us hl => match us, hl with | [_, _, _], _ => rfl⟩
  have c_is_kinds : Cal (GK K) P w K mg base 1 "is_kinds" D_is_kinds := ⟨_, fd_is_kinds, ["thing"], f_is_kinds (P := P) (w := w) (base := base) (G := GK K) F_is_kinds rfl m_len m_isinstance m_str m_all m_list m_sorted m_set k_MOST_KINDS, e_is_kinds, F_is_kinds.kp, FunD.bindsN F_is_kinds fun _ _ _ _ _ _ us hl => match us, hl with | [_], _ => rfl⟩
  have c_need_kinds : Cal (GK K) P w K mg base 2 "need_kinds" D_need_kinds := ⟨_, fd_need_kinds, ["thing"], f_need_kinds (P := P) (w := w) (base := base) (G := GK K) F_need_kinds rfl c_is_kinds x0_NoKinds, e_need_kinds, F_need_kinds.kp, FunD.bindsN F_need_kinds fun _ _ _ _ _ _ us hl => match us, hl with | [_], _ => rfl⟩
  have c_is_word : Cal (GK K) P w K mg base 1 "is_word" D_is_word := ⟨_, fd_is_word, ["thing", "kinds", "most"], f_is_word (P := P) (w := w) (base := base) (G := GK K) F_is_word rfl m_len m_isinstance m_str m_all, e_is_word, F_is_word.kp, FunD.bindsN F_is_word fun _ _ _ _ _ _ us hl => match us, hl with | [_, _, _], _ => rfl⟩
  have c_need_word : Cal (GK K) P w K mg base 3 "need_word" D_need_word := ⟨_, fd_need_word, ["thing", "kinds", "most"], f_need_word (P := P) (w := w) (base := base) (G := GK K) F_need_word rfl c_is_word x1_NoWord, e_need_word, F_need_word.kp, FunD.bindsN F_need_word fun _ _ _ _ _ _ us hl => match us, hl with | [_, _, _], _ => rfl⟩
  have c_in_order : Cal (GK K) P w K mg base 1 "in_order" D_in_order := ⟨_, fd_in_order, ["words"], f_in_order (P := P) (w := w) (base := base) (G := GK K) F_in_order rfl (csOf_get tbs (p := (("in_order", none), (("in_order" : Str) ++ ".<locals>.") ++ "<lambda>")) (List.mem_of_getElem? (i := 0) rfl)) (tabsG_mem (K := K) (tl := tls) (p := (("in_order", none), (("in_order" : Str) ++ ".<locals>.") ++ "<lambda>")) (List.mem_of_getElem? (i := 0) rfl)) (tabsG_u (K := K) (tl := tls) nd_ (p := (("in_order", none), (("in_order" : Str) ++ ".<locals>.") ++ "<lambda>")) (List.mem_of_getElem? (i := 0) rfl)) m_sorted m_len, e_in_order, F_in_order.kp, FunD.bindsN F_in_order fun _ _ _ _ _ _ us hl => match us, hl with | [_], _ => rfl⟩
  have c_stretches : Cal (GK K) P w K mg base 2 "stretches" D_stretches := ⟨_, fd_stretches, ["text"], f_stretches (P := P) (w := w) (base := base) (G := GK K) F_stretches rfl m_range m_len m_list c_in_order, e_stretches, F_stretches.kp, FunD.bindsN F_stretches fun _ _ _ _ _ _ us hl => match us, hl with | [_], _ => rfl⟩
  have c_lacking : Cal (GK K) P w K mg base 4 "lacking" D_lacking := ⟨_, fd_lacking, ["text", "kinds"], f_lacking (P := P) (w := w) (base := base) (G := GK K) F_lacking rfl k_MOST_LETTERS c_need_kinds c_need_word c_stretches, e_lacking, F_lacking.kp, FunD.bindsN F_lacking fun _ _ _ _ _ _ us hl => match us, hl with | [_, _], _ => rfl⟩
  have c__law_word : Cal (GK K) P w K mg base 3 "_law_word" D__law_word := ⟨_, fd__law_word, ["_law_cell_here", "_law_text_here", "_law_kinds_here"], f__law_word (P := P) (w := w) (base := base) (G := GK K) F__law_word rfl m_len c__law_letters, e__law_word, F__law_word.kp, FunD.bindsN F__law_word fun _ _ _ _ _ _ us hl => match us, hl with | [_, _, _], _ => rfl⟩
  have c__law_asked : Cal (GK K) P w K mg base 4 "_law_asked" D__law_asked := ⟨_, fd__law_asked, ["_law_cell_here", "_law_text_here", "_law_kinds_here", "_law_words"], f__law_asked (P := P) (w := w) (base := base) (G := GK K) F__law_asked rfl m_len c__law_word, e__law_asked, F__law_asked.kp, FunD.bindsN F__law_asked fun _ _ _ _ _ _ us hl => match us, hl with | [_, _, _, _], _ => rfl⟩
  have c_is_lacking : Cal (GK K) P w K mg base 4 "is_lacking" D_is_lacking := ⟨_, fd_is_lacking, ["text", "kinds", "word"], f_is_lacking (P := P) (w := w) (base := base) (G := GK K) F_is_lacking rfl k_MOST_LETTERS k_MOST_ASKED c_need_kinds c_need_word, e_is_lacking, F_is_lacking.kp, FunD.bindsN F_is_lacking fun _ _ _ _ _ _ us hl => match us, hl with | [_, _, _], _ => rfl⟩
  have c__law_due : Cal (GK K) P w K mg base 1 "_law_due" D__law_due := ⟨_, fd__law_due, ["_law_text_here", "_law_word_here"], f__law_due (P := P) (w := w) (base := base) (G := GK K) F__law_due rfl , e__law_due, F__law_due.kp, FunD.bindsN F__law_due fun _ _ _ _ _ _ us hl => match us, hl with | [_, _], _ => rfl⟩
  have c__law_no_kinds : Cal (GK K) P w K mg base 1 "_law_no_kinds" D__law_no_kinds := ⟨_, fd__law_no_kinds, ["_law_kinds_here", "_law_number"], f__law_no_kinds (P := P) (w := w) (base := base) (G := GK K) F__law_no_kinds rfl , e__law_no_kinds, F__law_no_kinds.kp, FunD.bindsN F__law_no_kinds fun _ _ _ _ _ _ us hl => match us, hl with | [_, _], _ => rfl⟩
  have c__law_bad : Cal (GK K) P w K mg base 1 "_law_bad" D__law_bad := ⟨_, fd__law_bad, ["_law_kinds_here", "_law_most", "_law_number"], f__law_bad (P := P) (w := w) (base := base) (G := GK K) F__law_bad rfl , e__law_bad, F__law_bad.kp, FunD.bindsN F__law_bad fun _ _ _ _ _ _ us hl => match us, hl with | [_, _, _], _ => rfl⟩
  have c__law_refused : Cal (GK K) P w K mg base 1 "_law_refused" D__law_refused := ⟨_, fd__law_refused, ["_law_caught_here", "_law_kinds_bad", "_law_due_here"], f__law_refused (P := P) (w := w) (base := base) (G := GK K) F__law_refused rfl m_isinstance m_bool xis_NoWord xis_NoKinds xf_word, e__law_refused, F__law_refused.kp, FunD.bindsN F__law_refused fun _ _ _ _ _ _ us hl => match us, hl with | [_, _, _], _ => rfl⟩
  have c__law_caught : Cal (GK K) P w K mg base 5 "_law_caught" D__law_caught := ⟨_, fd__law_caught, ["_law_way", "_law_text_here", "_law_kinds_here", "_law_word_here"], f__law_caught (P := P) (w := w) (base := base) (G := GK K) F__law_caught rfl c_lacking c_is_lacking xh_LackError, e__law_caught, F__law_caught.kp, FunD.bindsN F__law_caught fun _ _ _ _ _ _ us hl => match us, hl with | [_, _, _, _], _ => rfl⟩
  exact f_law (P := P) (w := w) (base := base) (G := GK K) F_law rfl m_isinstance m_bool m_range c__law_kinds c__law_cell c__law_text c_lacking c__law_asked c_is_lacking c__law_due c__law_mixed c__law_no_kinds c__law_bad c__law_refused c__law_caught
end LW

/-! PVL.Y: texts, each once. -/
namespace PVL.Y
open PVL PVL.C PVS.TX
theorem rise_ext {a b : List Txt} (ha : a.Pairwise (· < ·)) (hb : b.Pairwise (· < ·)) (h : ∀ w, w ∈ a ↔ w ∈ b) : a = b := by
  refine List.Perm.eq_of_pairwise (le := fun x y => x < y) (fun x y _ _ h1 h2 => absurd (List.lt_trans h1 h2) (List.lt_irrefl _)) ha hb ?_
  have n1 : a.Nodup := ha.imp fun {x y} h e => by subst e; exact List.lt_irrefl _ h
  have n2 : b.Nodup := hb.imp fun {x y} h e => by subst e; exact List.lt_irrefl _ h
  exact (List.perm_ext_iff_of_nodup n1 n2).mpr h
theorem set_ext {a b : List Txt} (h : ∀ w, w ∈ a ↔ w ∈ b) : setW a = setW b := rise_ext words_rise words_rise fun w => by rw [words_mem, words_mem, h]
theorem set_rise {a : List Txt} (h : a.Pairwise (· < ·)) : setW a = a := rise_ext words_rise h fun w => words_mem
theorem leT_le {a b : Txt} : leT a b = true ↔ a ≤ b := by rw [leT_iff]; exact ⟨fun h => List.not_lt.mp h, fun h => List.not_lt.mpr h⟩
theorem sort_set {us : List Txt} (h : us.Nodup) : us.mergeSort leT = setW us := by
  have hp := List.mergeSort_perm us leT
  refine rise_ext ?_ words_rise fun w => by rw [words_mem, hp.mem_iff]
  have h1 := List.pairwise_mergeSort (le := leT) (fun a b c h1 h2 => by rw [leT_le] at *; exact List.le_trans h1 h2) (fun a b => by rw [Bool.or_eq_true, leT_le, leT_le]; exact List.le_total _ _) us
  have h2 : (us.mergeSort leT).Nodup := hp.nodup_iff.mpr h
  refine (h1.and h2).imp fun {a b} ⟨x, y⟩ => ?_
  rw [leT_le] at x
  rcases Classical.em (a < b) with q | q
  · exact q
  · exact absurd (List.le_antisymm x (List.not_lt.mp q)) y
/-- one text more, if it is new -/
def uput (us : List Txt) (w : Txt) : List Txt := if w ∈ us then us else us ++ [w]
theorem uput_mem {us : List Txt} {w x : Txt} : x ∈ uput us w ↔ x ∈ us ∨ x = w := by
  unfold uput
  split
  · rename_i h
    exact ⟨.inl, fun q => q.elim id fun e => e ▸ h⟩
  · rw [List.mem_append, List.mem_singleton]
theorem uput_nodup {us : List Txt} {w : Txt} (h : us.Nodup) : (uput us w).Nodup := by
  unfold uput
  split
  · exact h
  · rename_i q
    rw [List.nodup_append]
    exact ⟨h, by simp, fun a ha b hb e => q (by rw [List.mem_singleton.mp hb] at e; exact e ▸ ha)⟩
theorem uput_len {us : List Txt} {w : Txt} : (uput us w).length ≤ us.length + 1 := by
  unfold uput
  split
  · omega
  · simp
/-- a dict in which each text stands for True -/
def setD (us : List Txt) : List (PV × PV) := us.map fun w => (.str w, .bl true)
theorem setD_put {us : List Txt} {w : Txt} : put (setD us) (.str w) (.bl true) = setD (uput us w) := by
  have ha : (setD us).any (fun p => keyEq p.1 (.str w)) = decide (w ∈ us) := by
    unfold setD
    rw [List.any_map]
    induction us with
    | nil => rfl
    | cons u us ih =>
      rw [List.any_cons, ih]
      show ((u == w) || _) = _
      by_cases h : u = w
      · subst h; simp
      · have : (u == w) = false := by simpa using h
        rw [this]
        simp [Ne.symm h, show ¬ w = u from fun z => h z.symm]
  unfold put
  rw [ha]
  unfold uput
  by_cases h : w ∈ us
  · rw [decide_eq_true h, if_pos rfl, if_pos h]
    unfold setD
    rw [List.map_map]
    refine List.map_congr_left fun u _ => ?_
    show (if (u == w) = true then _ else _) = _
    split <;> rfl
  · rw [decide_eq_false h, if_neg (by decide), if_neg h]
    unfold setD
    rw [List.map_append]
    rfl
theorem setD_fits {us : List Txt} {w : Txt} : keyFits (setD us) (.str w) = true := by
  unfold keyFits
  have : (setD us).all (fun p => flatKey p.1) = true := by
    rw [List.all_eq_true]
    intro p hp
    obtain ⟨u, _, rfl⟩ := List.mem_map.mp hp
    rfl
  rw [this]
  rfl
theorem setD_len (us : List Txt) : (setD us).length = us.length := List.length_map ..
theorem setD_keys (us : List Txt) : (setD us).map (·.1) = us.map .str := by
  unfold setD
  rw [List.map_map]
  rfl
theorem setD_sorted {us : List Txt} (h : us.Nodup) : bfV .sorted [.dic (setD us)] = some (.lst ((setW us).map .str)) := by
  show (strsV ((setD us).map (·.1))).map _ = _
  rw [setD_keys, strsV_map, Option.map_some, sort_set h]
theorem setD_store {us : List Txt} {w : Txt} (h : us.length < line) : storeV (.dic (setD us)) (.str w) (.bl true) = some (.dic (setD (uput us w))) := by
  show (if keyFits (setD us) (.str w) = true ∧ (setD us).length < line then some (PV.dic (put (setD us) (.str w) (.bl true))) else none) = _
  rw [if_pos ⟨setD_fits, by rw [setD_len]; exact h⟩, setD_put]
end PVL.Y

/-! PVL.Y: comprehensions, objects, texts multiplied, reckoned. -/
namespace PVL.Y
open PVL PVL.C
variable {ρ : Env} {ω : Store}
theorem cp_1 {e : E} {i : Nat} {c : T} {x : PV} : cpE e [i] c ρ x ω = ((evT c (setV (wipeV (lendV ρ) [i]) i (x, .fz)) ω).bind (cpE2 e (setV (wipeV (lendV ρ) [i]) i (x, .fz)))).calm := by
  unfold cpE
  rw [as_1]
theorem lend_cons {o : Option VM} : lendV (o :: ρ) = (o.map fun v => (v.1, if v.2 = .own then .br else v.2)) :: lendV ρ := (rfl)
theorem lend_nil : lendV [] = [] := (rfl)
theorem lm_own {x : PV} : (some (x, Md.own)).map (fun v : VM => (v.1, if v.2 = .own then Md.br else v.2)) = some (x, .br) := (rfl)
theorem lm_fz {x : PV} : (some (x, Md.fz)).map (fun v : VM => (v.1, if v.2 = .own then Md.br else v.2)) = some (x, .fz) := (rfl)
theorem lm_br {x : PV} : (some (x, Md.br)).map (fun v : VM => (v.1, if v.2 = .own then Md.br else v.2)) = some (x, .br) := (rfl)
theorem lm_none : (none : Option VM).map (fun v : VM => (v.1, if v.2 = .own then Md.br else v.2)) = none := (rfl)
theorem wipe_1 {i : Nat} : wipeV ρ [i] = ρ.set i none := (rfl)
theorem calm_ok {α : Type} {a : α} : (R.ok a ω).calm = .ok a ω := (rfl)
theorem cpE2_t {e : E} : cpE2 e ρ true ω = (ev e ρ ω).bind cpE3 := (rfl)
theorem cpE2_f {e : E} : cpE2 e ρ false ω = .ok none ω := (rfl)
theorem cpE3_fz {x : PV} : cpE3 (x, .fz) ω = .ok (some x) ω := by unfold cpE3; rw [if_pos kp_fz]
theorem cpE3_own {x : PV} : cpE3 (x, .own) ω = .ok (some x) ω := by unfold cpE3; rw [if_pos kp_own]
def cv0 := And.intro @cp_1 (And.intro @lend_cons (And.intro @lend_nil (And.intro @lm_own (And.intro @lm_fz (And.intro @lm_br (And.intro @lm_none (And.intro @wipe_1 (And.intro @calm_ok (And.intro @cpE2_t (And.intro @cpE2_f (And.intro @cpE3_fz @cpE3_own)))))))))))
theorem foldC_o {g : PV → Store → R (Option PV)} {o : PV → Option PV} : ∀ {xs acc : List PV}, (∀ x ∈ xs, g x ω = .ok (o x) ω) → acc.length + xs.length ≤ line → foldC g xs acc ω = .ok (acc ++ xs.filterMap o) ω
  | [], acc, _, _ => by rw [List.filterMap_nil, List.append_nil]; rfl
  | x :: xs, acc, h, hl => by
    unfold foldC
    rw [h x (List.mem_cons_self ..)]
    rw [List.length_cons] at hl
    cases e : o x with
    | none =>
      rw [List.filterMap_cons_none e]
      exact foldC_o (fun y hy => h y (List.mem_cons_of_mem _ hy)) (by omega)
    | some y =>
      rw [List.filterMap_cons_some e]
      show (if acc.length < line then foldC g xs (acc ++ [y]) ω else .bad) = _
      rw [if_pos (by omega), foldC_o (fun y hy => h y (List.mem_cons_of_mem _ hy)) (by rw [List.length_append, List.length_singleton]; omega), List.append_assoc]
      rfl
theorem comp_o {e : E} {tg : List Nat} {c : T} {xs : List PV} {o : PV → Option PV} (h : ∀ x ∈ xs, cpE e tg c ρ x ω = .ok (o x) ω) (hl : xs.length ≤ line) : foldC (cpE e tg c ρ) xs [] ω = .ok (xs.filterMap o) ω := by
  rw [foldC_o h (by simpa using hl), List.nil_append]
theorem comp_map {e : E} {tg : List Nat} {c : T} {xs : List PV} {f : PV → PV} (h : ∀ x ∈ xs, cpE e tg c ρ x ω = .ok (some (f x)) ω) (hl : xs.length ≤ line) : foldC (cpE e tg c ρ) xs [] ω = .ok (xs.map f) ω := by
  rw [comp_o (o := fun x => some (f x)) h hl]
  simp
theorem range_fm {α β : Type} {f : α → Option β} {g : Nat → Option β} {h : Nat → α} (n : Nat) (e : ∀ i, f (h i) = g i) : ((List.range n).map h).filterMap f = (List.range n).filterMap g := by
  rw [List.filterMap_map]
  congr 1
  funext i
  exact e i
theorem comp_upTo_o {e : E} {tg : List Nat} {c : T} {n : Nat} {o : Nat → Option PV} (h : ∀ i : Nat, i < n → cpE e tg c ρ (.int (i : Int)) ω = .ok (o i) ω) (hl : n ≤ line) : foldC (cpE e tg c ρ) (upTo 0 n) [] ω = .ok ((List.range n).filterMap o) ω := by
  rw [comp_o (o := fun x => match x with
    | .int i => o i.toNat
    | _ => none) (fun x hx => ?_) (by rw [upTo_len]; exact hl)]
  · have : (upTo 0 n).filterMap (fun x => match x with
      | .int i => o i.toNat
      | _ => none) = (List.range n).filterMap o := range_fm n fun i => by
        show o (0 + (i : Int)).toNat = o i
        rw [Int.zero_add, Int.toNat_natCast]
    rw [this]
  · obtain ⟨i, hi⟩ := List.getElem?_of_mem hx
    obtain ⟨h1, rfl⟩ := upTo_get hi
    exact h i h1
theorem comp_upTo {e : E} {tg : List Nat} {c : T} {n : Nat} {g : Nat → PV} (h : ∀ i : Nat, i < n → cpE e tg c ρ (.int (i : Int)) ω = .ok (some (g i)) ω) (hl : n ≤ line) : foldC (cpE e tg c ρ) (upTo 0 n) [] ω = .ok ((List.range n).map g) ω := by
  rw [comp_upTo_o (o := fun i => some (g i)) h hl]
  simp
theorem chars_map (g : Nat → Nat) (n : Nat) : ((List.range n).map fun i => PV.str [g i]) = charsOf ((List.range n).map g) := by
  unfold charsOf
  rw [List.map_map]
  rfl
/-! ### objects -/
theorem fld_of {n f : Nat} {r : Rec} {v : PV} (h : ω[n]? = some r) (e : r.flds.lookup f = some v) : fldV ω (.obj n) f = some v := by
  show (ω[n]?).bind _ = _
  rw [h]
  exact e
theorem room_last {c : Nat} {fs : List (Nat × PV)} (h : fs.length < 1000) : roomF (ω ++ [⟨c, fs⟩]) ω.length = true := by
  unfold roomF
  rw [List.getElem?_concat_length]
  exact decide_eq_true h
theorem set_last {c f : Nat} {fs : List (Nat × PV)} {v : PV} : setF (ω ++ [⟨c, fs⟩]) ω.length f v = ω ++ [⟨c, putF f v fs⟩] := by
  unfold setF
  rw [List.getElem?_concat_length]
  show List.set _ _ _ = _
  rw [List.set_append_right _ _ (Nat.le_refl _), Nat.sub_self]
  rfl
theorem get_last {r : Rec} : (ω ++ [r])[ω.length]? = some r := List.getElem?_concat_length
theorem get_keep {ω' : Store} {n : Nat} {r : Rec} (h : ω[n]? = some r) : (ω ++ ω')[n]? = some r := by
  rw [List.getElem?_append_left (List.getElem?_eq_some_iff.mp h).1, h]
theorem isNon_non : isNon .non = true := (rfl)
/-! ### texts -/
theorem mul_str {a : Txt} {n : Nat} (h : a.length * n ≤ line) (hn : n < 2 ^ 62) : binV .mul (.str a) (.int (n : Int)) = some (.str (List.replicate n a).flatten) := by
  simp only [binV]
  rw [if_pos ⟨by rw [Int.toNat_natCast]; exact h, by omega, by omega⟩, Int.toNat_natCast]
theorem mul_strI {a : Txt} {n : Nat} {i : Int} (e : i = (n : Int)) (h : a.length * n ≤ line) (hn : n < 2 ^ 62) : binV .mul (.str a) (.int i) = some (.str (List.replicate n a).flatten) := by
  rw [e]; exact mul_str h hn
theorem cut_from {α : Type} (w : List α) (a : Nat) : cut w (some (a : Int)) none = w.drop a := by
  unfold cut clip
  simp only [Int.toNat_natCast]
  rw [if_neg (by omega)]
  by_cases h : a ≤ w.length
  · rw [Nat.min_eq_left h]
    exact List.take_of_length_le (by rw [List.length_drop]; omega)
  · rw [Nat.min_eq_right (by omega), List.drop_of_length_le (Nat.le_refl _), List.drop_of_length_le (by omega)]
    simp
theorem slc_from (w : Txt) (a : Nat) : slcV (.str w) (.int (a : Int)) .non = some (.str (w.drop a)) := by simp [slcV, slcX, optI, cut_from]
theorem slc_fromL (w : List PV) (a : Nat) : slcV (.lst w) (.int (a : Int)) .non = some (.lst (w.drop a)) := by simp [slcV, slcX, optI, cut_from]
theorem in_chr {c : Nat} {K : Txt} (h : c ∈ K) : cmpV .isin (.str [c]) (.str K) = some true := by
  show some (isIn [c] K) = _
  rw [isIn_infix.mpr]
  obtain ⟨a, b, e⟩ := List.append_of_mem h
  exact ⟨a, b, by rw [e]; simp⟩
theorem all_true (xs : List PV) : bfV .all [.lst (xs.map fun _ => .bl true)] = some (.bl true) := by
  show (boolsV _).map _ = _
  have : boolsV (xs.map fun _ => PV.bl true) = some (xs.map fun _ => true) := by
    induction xs with
    | nil => rfl
    | cons x xs ih => show (boolsV (xs.map fun _ => PV.bl true)).map _ = _; rw [ih]; rfl
  rw [this]
  simp
end PVL.Y

/-! PVL.FS: small defs of the first laws (kinds, places, strips), each reckoned once. -/
namespace PVL.FS
open PVL PVL.C PVL.Y
noncomputable def i_cell_at : Ss := (.cons (.ifs (.val (.cmp .lt (.var 1) (.bf1 .len (.var 0)))) (.cons (.ret (.idx (.var 0) (.var 1))) .nil) .nil) (.cons (.ret (.con (.int 0))) .nil))
noncomputable def D_cell_at : Fn := den 2 2 i_cell_at
noncomputable def i_mixed : Ss := (.cons (.set 2 (.bin .mod (.bin .add (.bin .add (.bin .mul (.bin .mod (.var 0) (.con (.int 2147483629))) (.con (.int 48271))) (.bin .mul (.var 1) (.con (.int 7919)))) (.con (.int 104729))) (.con (.int 2147483629)))) (.cons (.set 2 (.bin .mod (.bin .add (.bin .add (.bin .mul (.bin .mod (.bin .mul (.var 2) (.var 2)) (.con (.int 2147483629))) (.con (.int 16807))) (.bin .mul (.var 1) (.con (.int 104729)))) (.con (.int 11))) (.con (.int 2147483587)))) (.cons (.ret (.bin .mod (.bin .mul (.var 2) (.var 2)) (.con (.int 2147483587)))) .nil)))
noncomputable def D_mixed : Fn := den 2 3 i_mixed
noncomputable def e0_kinds : E := (.idx (.var 1) (.bin .add (.var 3) (.bin .mul (.var 2) (.var 4))))
noncomputable def i_kinds : Ss := (.cons (.set 1 (.con (.str [97, 98, 99, 100, 101, 102, 103, 104, 105, 106, 107, 108, 109, 110, 111, 112, 113, 114, 115, 116, 117, 118, 119, 120, 121, 122]))) (.cons (.set 2 (.bin .add (.con (.int 1)) (.bin .mod (.call D_mixed (.cons (.var 0) (.cons (.con (.int 1)) .nil))) (.con (.int 8))))) (.cons (.set 3 (.bin .mod (.call D_mixed (.cons (.var 0) (.cons (.con (.int 2)) .nil))) (.bin .sub (.con (.int 26)) (.bin .mul (.con (.int 3)) (.var 2))))) (.cons (.ret (.bm .join (.con (.str [])) (.cons (.comp e0_kinds [4] (.rng1 (.bin .add (.con (.int 1)) (.bin .mod (.call D_mixed (.cons (.var 0) (.cons (.con (.int 3)) .nil))) (.con (.int 4))))) .tt) .nil))) .nil))))
noncomputable def D_kinds : Fn := den 1 5 i_kinds
noncomputable def w0_row : Ss := (.cons (.frz [4] (.set 6 (.var 4))) (.cons (.ifs (.or (.val (.cmp .eq (.var 4) (.con (.int 0)))) (.val (.cmp .eq (.var 4) (.neg (.con (.int 1)))))) (.cons (.set 6 (.call D_mixed (.cons (.var 0) (.cons (.bin .add (.con (.int 700)) (.var 5)) .nil)))) .nil) .nil) (.cons (.set 3 (.bin .add (.var 3) (.idx (.var 1) (.bin .mod (.var 6) (.bf1 .len (.var 1)))))) (.cons (.set 4 (.bin .fdiv (.var 4) (.bf1 .len (.var 1)))) .nil))))
noncomputable def i_row : Ss := (.cons (.set 3 (.con (.str []))) (.cons (.frz [0] (.set 4 (.var 0))) (.cons (.for_ [5] (.rng1 (.var 2)) w0_row) (.cons (.retV 3) .nil))))
noncomputable def D_row : Fn := den 3 7 i_row
noncomputable def e0_text : E := (.idx (.var 2) (.bin .mod (.call D_mixed (.cons (.var 0) (.cons (.bin .add (.con (.int 30)) (.var 7)) .nil))) (.bf1 .len (.var 2))))
noncomputable def e1_text : E := (.idx (.var 5) (.bin .mod (.var 7) (.var 6)))
noncomputable def i_text : Ss := (.cons (.set 4 (.bin .mod (.call D_mixed (.cons (.var 1) (.cons (.con (.int 9)) .nil))) (.bin .add (.var 3) (.con (.int 1))))) (.cons (.ifs (.val (.cmp .eq (.bin .mod (.var 1) (.con (.int 2))) (.con (.int 1)))) (.cons (.ret (.call D_row (.cons (.var 0) (.cons (.var 2) (.cons (.var 4) .nil))))) .nil) .nil) (.cons (.set 5 (.bm .join (.con (.str [])) (.cons (.comp e0_text [7] (.rng1 (.var 4)) .tt) .nil))) (.cons (.ifs (.val (.cmp .eq (.bin .mod (.bin .fdiv (.var 1) (.con (.int 2))) (.con (.int 3))) (.con (.int 0)))) (.cons (.set 6 (.bin .add (.con (.int 1)) (.bin .mod (.call D_mixed (.cons (.var 1) (.cons (.con (.int 10)) .nil))) (.con (.int 6))))) (.cons (.set 5 (.bm .join (.con (.str [])) (.cons (.comp e1_text [7] (.rng1 (.var 4)) .tt) .nil))) .nil)) .nil) (.cons (.retV 5) .nil)))))
noncomputable def D_text : Fn := den 4 8 i_text
theorem cell_ok (ns : List Int) (k : Nat) (ω : Store) : ∃ c, D_cell_at [(.lst (ns.map .int), .fz), (.int (k : Int), .fz)] ω = .ok (.int c, .fz) ω := by
  refine den_out (Q := fun r => ∃ c, r = .ok (.int c, .fz) ω) (by rfl) ?_
  have ln : ((ns.map PV.int).length : Int) = (ns.length : Int) := by rw [List.length_map]
  unfold i_cell_at
  by_cases h : k < ns.length
  · have e3 : idxV (.lst (ns.map .int)) (.int (k : Int)) = some (.int ns[k]) := idx_lst (by simp [h])
    have h2 : (k : Int) < (ns.length : Int) := by omega
    simp only [pv0, pv1, pv2, pv3, pv4, pv5, pv6, pv7, pv8, pv9, pv10, pv11, eq_self, beq_self_eq_true, reduceIte, reduceCtorEq, Nat.reduceAdd, Nat.reduceSub, Nat.reduceBNe, Nat.reduceBEq, Nat.reduceEqDiff, ln, h2, e3]
    exact ⟨ns[k], rfl⟩
  · have h2 : ¬ (k : Int) < (ns.length : Int) := by omega
    simp only [pv0, pv1, pv2, pv3, pv4, pv5, pv6, pv7, pv8, pv9, pv10, pv11, eq_self, beq_self_eq_true, reduceIte, reduceCtorEq, Nat.reduceAdd, Nat.reduceSub, Nat.reduceBNe, Nat.reduceBEq, Nat.reduceEqDiff, ln, h2]
    exact ⟨0, rfl⟩
theorem cell_at (ns : List Int) (k : Nat) (K : Int) (e : K = (k : Int)) (ω : Store) : ∃ c, D_cell_at [(.lst (ns.map .int), .fz), (.int K, .fz)] ω = .ok (.int c, .fz) ω := by
  rw [e]; exact cell_ok ns k ω
theorem mixed_ok (c k : Int) (hk : k.natAbs < 2 ^ 90) (ω : Store) : ∃ r, 0 ≤ r ∧ r < 2147483587 ∧ D_mixed [(.int c, .fz), (.int k, .fz)] ω = .ok (.int r, .fz) ω := by
  refine den_out (Q := fun r => ∃ x, 0 ≤ x ∧ x < 2147483587 ∧ r = .ok (.int x, .fz) ω) (by rfl) ?_
  obtain ⟨r1, p1, q1, e1⟩ := mod_int (j := 2147483629) (by decide) c
  obtain ⟨r2, p2, q2, e2⟩ := mod_int (j := 2147483629) (by decide) (r1 * 48271 + k * 7919 + 104729)
  obtain ⟨r3, p3, q3, e3⟩ := mod_int (j := 2147483629) (by decide) (r2 * r2)
  obtain ⟨r4, p4, q4, e4⟩ := mod_int (j := 2147483587) (by decide) (r3 * 16807 + k * 104729 + 11)
  obtain ⟨r5, p5, q5, e5⟩ := mod_int (j := 2147483587) (by decide) (r4 * r4)
  have f1 : binV .mul (.int r1) (.int 48271) = some (.int (r1 * 48271)) := mul_int (by omega) (by decide)
  have f2 : binV .mul (.int k) (.int 7919) = some (.int (k * 7919)) := mul_int (by omega) (by decide)
  have f3 : binV .mul (.int r2) (.int r2) = some (.int (r2 * r2)) := mul_int (by omega) (by omega)
  have f4 : binV .mul (.int r3) (.int 16807) = some (.int (r3 * 16807)) := mul_int (by omega) (by decide)
  have f5 : binV .mul (.int k) (.int 104729) = some (.int (k * 104729)) := mul_int (by omega) (by decide)
  have f6 : binV .mul (.int r4) (.int r4) = some (.int (r4 * r4)) := mul_int (by omega) (by omega)
  unfold i_mixed
  simp only [pv0, pv1, pv2, pv3, pv4, pv5, pv6, pv7, pv8, pv9, pv10, pv11, eq_self, beq_self_eq_true, reduceIte, reduceCtorEq, Nat.reduceAdd, Nat.reduceSub, Nat.reduceBNe, Nat.reduceBEq, Nat.reduceEqDiff, e1, f1, f2, e2, f3, e3, f4, f5, e4, f6, e5]
  exact ⟨r5, p5, q5, rfl⟩
theorem alpha_at : ∀ a, a < 26 → ([97, 98, 99, 100, 101, 102, 103, 104, 105, 106, 107, 108, 109, 110, 111, 112, 113, 114, 115, 116, 117, 118, 119, 120, 121, 122] : List Nat)[a]? = some (97 + a) := by decide
theorem kinds_ok (c : Int) (ω : Store) : ∃ K, Kinds K ∧ D_kinds [(.int c, .fz)] ω = .ok (.str K, .fz) ω := by
  refine den_out (Q := fun r => ∃ K, Kinds K ∧ r = .ok (.str K, .fz) ω) (by rfl) ?_
  obtain ⟨m1, _, _, e1⟩ := mixed_ok c 1 (by decide) ω
  obtain ⟨m2, _, _, e2⟩ := mixed_ok c 2 (by decide) ω
  obtain ⟨m3, _, _, e3⟩ := mixed_ok c 3 (by decide) ω
  obtain ⟨s, hs, es⟩ := mod_nat (i := m1) (n := 8) (by decide)
  have g1 : binV .mod (.int m1) (.int 8) = some (.int (s : Int)) := by rw [← es]; exact binV_mod (by decide)
  have p1 : binV .mul (.int 3) (.int (1 + (s : Int))) = some (.int (3 * (1 + (s : Int)))) := mul_int (by decide) (by omega)
  have hq : 0 < 26 - 3 * (1 + s) := by omega
  obtain ⟨f, hf, ef⟩ := mod_nat (i := m2) hq
  have g2 : binV .mod (.int m2) (.int (26 - 3 * (1 + (s : Int)))) = some (.int (f : Int)) := by
    rw [show (26 - 3 * (1 + (s : Int))) = ((26 - 3 * (1 + s) : Nat) : Int) by omega, binV_mod (by omega), ef]
  obtain ⟨n, hn, en⟩ := mod_nat (i := m3) (n := 4) (by decide)
  have g3 : binV .mod (.int m3) (.int 4) = some (.int (n : Int)) := by rw [← en]; exact binV_mod (by decide)
  have s1 : small (1 + (n : Int)) = true := by rw [show 1 + (n : Int) = ((n + 1 : Nat) : Int) by omega]; exact small_nat (by omega)
  have l1 : (1 + (n : Int)).toNat = n + 1 := by omega
  have up : ∀ i, i < n + 1 → f + (1 + s) * i < 26 := fun i hi => by
    have : (1 + s) * i ≤ (1 + s) * 3 := Nat.mul_le_mul (Nat.le_refl _) (by omega)
    omega
  have fc : foldC (cpE e0_kinds [4] .tt [some (.int c, .fz), some (.str [97, 98, 99, 100, 101, 102, 103, 104, 105, 106, 107, 108, 109, 110, 111, 112, 113, 114, 115, 116, 117, 118, 119, 120, 121, 122], .fz), some (.int (1 + (s : Int)), .fz), some (.int (f : Int), .fz), none]) (upTo 0 (n + 1)) [] ω = .ok ((List.range (n + 1)).map fun i => .str [97 + (f + (1 + s) * i)]) ω := comp_upTo (fun i hi => by
    have q := up i hi
    have q1 : binV .mul (.int (1 + (s : Int))) (.int (i : Int)) = some (.int ((1 + (s : Int)) * (i : Int))) := mul_int (by omega) (by omega)
    have q2 : idxV (.str [97, 98, 99, 100, 101, 102, 103, 104, 105, 106, 107, 108, 109, 110, 111, 112, 113, 114, 115, 116, 117, 118, 119, 120, 121, 122]) (.int ((f : Int) + (1 + (s : Int)) * (i : Int))) = some (.str [97 + (f + (1 + s) * i)]) := by
      rw [show (f : Int) + (1 + (s : Int)) * (i : Int) = ((f + (1 + s) * i : Nat) : Int) by simp]
      exact idx_str (alpha_at _ q)
    unfold e0_kinds
    simp only [pv0, pv1, pv2, pv3, pv4, pv5, pv6, pv7, pv8, pv9, pv10, pv11, eq_self, beq_self_eq_true, reduceIte, reduceCtorEq, Nat.reduceAdd, Nat.reduceSub, Nat.reduceBNe, Nat.reduceBEq, Nat.reduceEqDiff, cv0, q1, q2]) (by rw [line]; omega)
  rw [chars_map (fun i => 97 + (f + (1 + s) * i))] at fc
  have hK : Kinds ((List.range (n + 1)).map fun i => 97 + (f + (1 + s) * i)) := by
    refine ⟨by simp, by simp; omega, ?_, fun c hc => ?_⟩
    · rw [List.pairwise_map]
      refine List.pairwise_lt_range.imp fun {a b} h => ?_
      have : (1 + s) * a < (1 + s) * b := Nat.mul_lt_mul_of_pos_left h (by omega)
      omega
    · obtain ⟨i, hi, rfl⟩ := List.mem_map.mp hc
      have := up i (List.mem_range.mp hi)
      omega
  have hl := hK.few
  generalize ((List.range (n + 1)).map fun i => 97 + (f + (1 + s) * i)) = K at *
  have e9 := join_chars K (by rw [line]; omega)
  unfold i_kinds
  simp only [pv0, pv1, pv2, pv3, pv4, pv5, pv6, pv7, pv8, pv9, pv10, pv11, eq_self, beq_self_eq_true, reduceIte, reduceCtorEq, Nat.reduceAdd, Nat.reduceSub, Nat.reduceBNe, Nat.reduceBEq, Nat.reduceEqDiff, e1, g1, e2, p1, g2, e3, g3, s1, l1, fc, e9, bmOn]
  exact ⟨K, hK, rfl⟩
section
variable {K : Txt} (hK : Kinds K)
theorem at_K (hK : Kinds K) (q : Int) : ∃ a ∈ K, ∃ j : Nat, binV .mod (.int q) (.int (K.length : Int)) = some (.int (j : Int)) ∧ idxV (.str K) (.int (j : Int)) = some (.str [a]) := by
  have hpos := hK.pos
  obtain ⟨j, hj, ej⟩ := mod_nat (i := q) (n := K.length) (by omega)
  exact ⟨K[j], List.getElem_mem _, j, by rw [binV_mod (by omega), ej], idx_str (by simp [hj])⟩
theorem row_ok (c : Int) (hK : Kinds K) (n : Nat) (hn : n ≤ 1000) (ω : Store) : ∃ w : Txt, w.length = n ∧ (∀ a ∈ w, a ∈ K) ∧ D_row [(.int c, .fz), (.str K, .fz), (.int (n : Int), .fz)] ω = .ok (.str w, .fz) ω := by
  have s1 : small (n : Int) = true := small_nat (by omega)
  have hpos : 0 < K.length := hK.pos
  have hfew := hK.few
  have ln : bfV .len [.str K] = some (.int (K.length : Int)) := rfl
  refine den_out (Q := fun r => ∃ w : Txt, w.length = n ∧ (∀ a ∈ w, a ∈ K) ∧ r = .ok (.str w, .fz) ω) (by rfl) ?_
  unfold i_row
  simp only [pv0, pv1, pv2, pv3, pv4, pv5, pv6, pv7, pv8, pv9, pv10, pv11, eq_self, beq_self_eq_true, reduceIte, reduceCtorEq, Nat.reduceAdd, Nat.reduceSub, Nat.reduceBNe, Nat.reduceBEq, Nat.reduceEqDiff, s1, Int.toNat_natCast]
  refine for_st (fun i ρ => ∃ w l o1 o2, w.length = i ∧ (∀ a ∈ w, a ∈ K) ∧ ρ = [some (.int c, .fz), some (.str K, .fz), some (.int (n : Int), .fz), some (.str w, .fz), some (.int l, .fz), o1, o2]) ⟨[], c, none, none, rfl, fun a h => by simp at h, rfl⟩ ?_ ?_
  · rintro i x ρ hx ⟨w, l, o1, o2, h1, h2, rfl⟩
    obtain ⟨hi, rfl⟩ := upTo_get hx
    refine ⟨_, as_1, ?_⟩
    obtain ⟨r, _, _, em⟩ := mixed_ok c (700 + (i : Int)) (by omega) ω
    have f2 : binV .fdiv (.int l) (.int (K.length : Int)) = some (.int (l / K.length)) := binV_fdiv (by omega) (by omega)
    have ad : ∀ a, binV .add (.str w) (.str [a]) = some (.str (w ++ [a])) := fun a => add_str (by simp [line]; omega)
    have fin : ∀ a ∈ K, (∀ x ∈ w ++ [a], x ∈ K) := fun a ha x hx => by
      rcases List.mem_append.mp hx with h | h
      · exact h2 x h
      · rw [List.mem_singleton.mp h]; exact ha
    unfold w0_row
    by_cases h0 : l = 0
    · obtain ⟨a, ha, j, ej, eix⟩ := at_K hK r
      simp only [pv0, pv1, pv2, pv3, pv4, pv5, pv6, pv7, pv8, pv9, pv10, pv11, eq_self, beq_self_eq_true, reduceIte, reduceCtorEq, Nat.reduceAdd, Nat.reduceSub, Nat.reduceBNe, Nat.reduceBEq, Nat.reduceEqDiff, h0, em, ej, eix, ad, ln]
      have f3 : binV .fdiv (.int 0) (.int (K.length : Int)) = some (.int (0 / K.length)) := binV_fdiv (by omega) (by omega)
      simp only [pv0, pv1, pv2, pv3, pv4, pv5, pv6, pv7, pv8, pv9, pv10, pv11, eq_self, beq_self_eq_true, reduceIte, reduceCtorEq, Nat.reduceAdd, Nat.reduceSub, Nat.reduceBNe, Nat.reduceBEq, Nat.reduceEqDiff, f3]
      exact ⟨w ++ [a], _, _, _, by simp [h1], fin a ha, rfl⟩
    · by_cases h9 : l = -1
      · obtain ⟨a, ha, j, ej, eix⟩ := at_K hK r
        have f3 : binV .fdiv (.int (-1)) (.int (K.length : Int)) = some (.int (-1 / K.length)) := binV_fdiv (by omega) (by omega)
        have n0 : ¬ (-1 : Int) = 0 := by decide
        subst h9
        simp only [pv0, pv1, pv2, pv3, pv4, pv5, pv6, pv7, pv8, pv9, pv10, pv11, eq_self, beq_self_eq_true, reduceIte, reduceCtorEq, Nat.reduceAdd, Nat.reduceSub, Nat.reduceBNe, Nat.reduceBEq, Nat.reduceEqDiff, n0, em, ej, eix, ad, ln, f3]
        exact ⟨w ++ [a], _, _, _, by simp [h1], fin a ha, rfl⟩
      · obtain ⟨a, ha, j, ej, eix⟩ := at_K hK l
        simp only [pv0, pv1, pv2, pv3, pv4, pv5, pv6, pv7, pv8, pv9, pv10, pv11, eq_self, beq_self_eq_true, reduceIte, reduceCtorEq, Nat.reduceAdd, Nat.reduceSub, Nat.reduceBNe, Nat.reduceBEq, Nat.reduceEqDiff, h0, h9, ej, eix, ad, ln, f2]
        exact ⟨w ++ [a], _, _, _, by simp [h1], fin a ha, rfl⟩
  · rintro ρ ⟨w, l, o1, o2, h1, h2, rfl⟩
    rw [upTo_len] at h1
    simp only [pv0, pv1, pv2, pv3, pv4, pv5, pv6, pv7, pv8, pv9, pv10, pv11, eq_self, beq_self_eq_true, reduceIte, reduceCtorEq, Nat.reduceAdd, Nat.reduceSub, Nat.reduceBNe, Nat.reduceBEq, Nat.reduceEqDiff]
    exact ⟨w, h1, h2, rfl⟩
/-- letters drawn one by one -/
theorem drawn_ok {e : E} {ρ : Env} {ω : Store} {n : Nat} {S : List Nat} (h : ∀ i : Nat, i < n → ∃ a ∈ S, cpE e [7] .tt ρ (.int (i : Int)) ω = .ok (some (.str [a])) ω) (hn : n ≤ 1000) : ∃ w : Txt, w.length = n ∧ (∀ a ∈ w, a ∈ S) ∧ foldC (cpE e [7] .tt ρ) (upTo 0 n) [] ω = .ok (charsOf w) ω := by
  classical
  have : ∃ g : Nat → Nat, ∀ i, i < n → g i ∈ S ∧ cpE e [7] .tt ρ (.int (i : Int)) ω = .ok (some (.str [g i])) ω := by
    refine ⟨fun i => if hi : i < n then Classical.choose (h i hi) else 0, fun i hi => ?_⟩
    have e0 : (if hi : i < n then Classical.choose (h i hi) else 0) = Classical.choose (h i hi) := dif_pos hi
    show (if hi : i < n then Classical.choose (h i hi) else 0) ∈ S ∧ cpE e [7] .tt ρ (.int (i : Int)) ω = .ok (some (.str [if hi : i < n then Classical.choose (h i hi) else 0])) ω
    rw [e0]
    exact Classical.choose_spec (h i hi)
  obtain ⟨g, hg⟩ := this
  refine ⟨(List.range n).map g, by simp, fun a ha => ?_, ?_⟩
  · obtain ⟨i, hi, rfl⟩ := List.mem_map.mp ha
    exact (hg i (List.mem_range.mp hi)).1
  · rw [comp_upTo (g := fun i => .str [g i]) (fun i hi => (hg i hi).2) (by rw [line]; omega), chars_map]
theorem text_ok (c b : Int) (hK : Kinds K) (most : Nat) (hm : most ≤ 900) (ω : Store) : ∃ w : Txt, w.length ≤ most ∧ (∀ a ∈ w, a ∈ K) ∧ D_text [(.int c, .fz), (.int b, .fz), (.str K, .fz), (.int (most : Int), .fz)] ω = .ok (.str w, .fz) ω := by
  have ln : bfV .len [.str K] = some (.int (K.length : Int)) := rfl
  obtain ⟨m1, _, _, e1⟩ := mixed_ok b 9 (by decide) ω
  obtain ⟨n, hn, en⟩ := mod_nat (i := m1) (n := most + 1) (by omega)
  have g1 : binV .mod (.int m1) (.int ((most : Int) + 1)) = some (.int (n : Int)) := by rw [show (most : Int) + 1 = ((most + 1 : Nat) : Int) by omega, binV_mod (by omega), en]
  obtain ⟨p, hp, ep⟩ := mod_nat (i := b) (n := 2) (by decide)
  have g2 : binV .mod (.int b) (.int 2) = some (.int (p : Int)) := by rw [← ep]; exact binV_mod (by decide)
  refine den_out (Q := fun r => ∃ w : Txt, w.length ≤ most ∧ (∀ a ∈ w, a ∈ K) ∧ r = .ok (.str w, .fz) ω) (by rfl) ?_
  unfold i_text
  by_cases h : (p : Int) = 1
  · obtain ⟨w, hw, hwK, ew⟩ := row_ok c hK n (by omega) ω
    simp only [pv0, pv1, pv2, pv3, pv4, pv5, pv6, pv7, pv8, pv9, pv10, pv11, eq_self, beq_self_eq_true, reduceIte, reduceCtorEq, Nat.reduceAdd, Nat.reduceSub, Nat.reduceBNe, Nat.reduceBEq, Nat.reduceEqDiff, e1, g1, g2, h, ew]
    exact ⟨w, by omega, hwK, rfl⟩
  · have s1 : small (n : Int) = true := small_nat (by omega)
    obtain ⟨w, hw, hwK, fc⟩ := drawn_ok (e := e0_text) (ρ := [some (.int c, .fz), some (.int b, .fz), some (.str K, .fz), some (.int (most : Int), .fz), some (.int (n : Int), .fz), none, none, none]) (ω := ω) (n := n) (S := K) (fun i hi => by
      obtain ⟨r, _, _, em⟩ := mixed_ok c (30 + (i : Int)) (by omega) ω
      obtain ⟨a, ha, j, ej, eix⟩ := at_K hK r
      refine ⟨a, ha, ?_⟩
      unfold e0_text
      simp only [pv0, pv1, pv2, pv3, pv4, pv5, pv6, pv7, pv8, pv9, pv10, pv11, eq_self, beq_self_eq_true, reduceIte, reduceCtorEq, Nat.reduceAdd, Nat.reduceSub, Nat.reduceBNe, Nat.reduceBEq, Nat.reduceEqDiff, cv0, em, ln, ej, eix]) (by omega)
    have j1 := join_chars w (by rw [line]; omega)
    have f3 : binV .fdiv (.int b) (.int 2) = some (.int (b / 2)) := binV_fdiv (by decide) (by omega)
    obtain ⟨d, hd, ed⟩ := mod_nat (i := b / 2) (n := 3) (by decide)
    have g3 : binV .mod (.int (b / 2)) (.int 3) = some (.int (d : Int)) := by rw [← ed]; exact binV_mod (by decide)
    by_cases h3 : (d : Int) = 0
    · obtain ⟨m2, _, _, e4⟩ := mixed_ok b 10 (by decide) ω
      obtain ⟨u, hu, eu⟩ := mod_nat (i := m2) (n := 6) (by decide)
      have g4 : binV .mod (.int m2) (.int 6) = some (.int (u : Int)) := by rw [← eu]; exact binV_mod (by decide)
      obtain ⟨v, hv, hvK, fc2⟩ := drawn_ok (e := e1_text) (ρ := [some (.int c, .fz), some (.int b, .fz), some (.str K, .fz), some (.int (most : Int), .fz), some (.int (n : Int), .fz), some (.str w, .fz), some (.int (1 + (u : Int)), .fz), none]) (ω := ω) (n := n) (S := w) (fun i hi => by
        have hm := Nat.mod_le i (1 + u)
        have hl : i % (1 + u) < w.length := by omega
        have q1 : binV .mod (.int (i : Int)) (.int (1 + (u : Int))) = some (.int ((i % (1 + u) : Nat) : Int)) := by rw [binV_mod (by omega), Int.natCast_emod]; rfl
        have q2 : idxV (.str w) (.int ((i % (1 + u) : Nat) : Int)) = some (.str [w[i % (1 + u)]]) := idx_str (by simp [hl])
        refine ⟨_, List.getElem_mem hl, ?_⟩
        unfold e1_text
        simp only [pv0, pv1, pv2, pv3, pv4, pv5, pv6, pv7, pv8, pv9, pv10, pv11, eq_self, beq_self_eq_true, reduceIte, reduceCtorEq, Nat.reduceAdd, Nat.reduceSub, Nat.reduceBNe, Nat.reduceBEq, Nat.reduceEqDiff, cv0, q1, q2]) (by omega)
      have j2 := join_chars v (by rw [line]; omega)
      simp only [pv0, pv1, pv2, pv3, pv4, pv5, pv6, pv7, pv8, pv9, pv10, pv11, eq_self, beq_self_eq_true, reduceIte, reduceCtorEq, Nat.reduceAdd, Nat.reduceSub, Nat.reduceBNe, Nat.reduceBEq, Nat.reduceEqDiff, e1, g1, g2, h, s1, Int.toNat_natCast, fc, j1, bmOn, f3, g3, h3, e4, g4, fc2, j2]
      exact ⟨v, by omega, fun a ha => hwK a (hvK a ha), rfl⟩
    · simp only [pv0, pv1, pv2, pv3, pv4, pv5, pv6, pv7, pv8, pv9, pv10, pv11, eq_self, beq_self_eq_true, reduceIte, reduceCtorEq, Nat.reduceAdd, Nat.reduceSub, Nat.reduceBNe, Nat.reduceBEq, Nat.reduceEqDiff, e1, g1, g2, h, s1, Int.toNat_natCast, fc, j1, bmOn, f3, g3, h3]
      exact ⟨w, by omega, hwK, rfl⟩
end
end PVL.FS

/-! PVL.FK: the program's kinds and words (is_kinds, is_word, need_kinds, need_word) at any thing. -/
namespace PVL.FK
open PVL PVL.C PVL.Y PVS.TX
noncomputable def e0_is_kinds : E := (.cmp .isin (.var 1) (.con (.str [97, 98, 99, 100, 101, 102, 103, 104, 105, 106, 107, 108, 109, 110, 111, 112, 113, 114, 115, 116, 117, 118, 119, 120, 121, 122])))
noncomputable def i_is_kinds : Ss := (.cons (.ifs (.or (.not (.val (.inst (.var 0) [.str]))) (.or (.val (.cmp .lt (.bf1 .len (.var 0)) (.con (.int 1)))) (.val (.cmp .gt (.bf1 .len (.var 0)) (.con (.int 4)))))) (.cons (.ret (.con (.bl false))) .nil) .nil) (.cons (.ifs (.not (.val (.bf1 .all (.comp e0_is_kinds [1] (.val (.var 0)) .tt)))) (.cons (.ret (.con (.bl false))) .nil) .nil) (.cons (.ret (.cmp .eq (.bf1 .list (.var 0)) (.bf1 .sortedSet (.var 0)))) .nil)))
noncomputable def D_is_kinds : Fn := den 1 2 i_is_kinds
noncomputable def e0_is_word : E := (.cmp .isin (.var 3) (.var 1))
noncomputable def i_is_word : Ss := (.cons (.ifs (.or (.not (.val (.inst (.var 0) [.str]))) (.val (.cmp .gt (.bf1 .len (.var 0)) (.var 2)))) (.cons (.ret (.con (.bl false))) .nil) .nil) (.cons (.ret (.bf1 .all (.comp e0_is_word [3] (.val (.var 0)) .tt))) .nil))
noncomputable def D_is_word : Fn := den 3 4 i_is_word
noncomputable def i_need_kinds : Ss := (.cons (.ifs (.not (.val (.call D_is_kinds (.cons (.var 0) .nil)))) (.cons (.rais (.mkx 1 .nil)) .nil) .nil) .nil)
noncomputable def D_need_kinds : Fn := den 1 1 i_need_kinds
noncomputable def i_need_word : Ss := (.cons (.ifs (.not (.val (.call D_is_word (.cons (.var 0) (.cons (.var 1) (.cons (.var 2) .nil)))))) (.cons (.frz [0] (.rais (.mkx 2 (.cons (.var 0) .nil)))) .nil) .nil) .nil)
noncomputable def D_need_word : Fn := den 3 3 i_need_word
def isS : PV → Bool
  | .str _ => true
  | _ => false
/-- whether the thing is a text can be told -/
def Tell (x : PV) : Prop := ∀ ω, isTy ω x .str = some (isS x)
theorem tell_str (s : Txt) : Tell (.str s) := fun _ => rfl
theorem tell_int (s : Int) : Tell (.int s) := fun _ => rfl
theorem tell_bl (s : Bool) : Tell (.bl s) := fun _ => rfl
theorem tell_non : Tell .non := fun _ => rfl
theorem tell_lst (xs : List PV) : Tell (.lst xs) := fun _ => rfl
theorem tell_tup (xs : List PV) : Tell (.tup xs) := fun _ => rfl
theorem tell_dic (a : Txt) (x : PV) : Tell (.dic [(.str a, x)]) := fun _ => rfl
theorem tell_dic0 : Tell (.dic []) := fun _ => rfl
def low (c : Nat) : Bool := decide (97 ≤ c ∧ c ≤ 122)
def kindsT (t : Txt) : Bool := decide (1 ≤ t.length) && decide (t.length ≤ 4) && t.all low && decide (t.Pairwise (· < ·))
def kindsB : PV → Bool
  | .str t => kindsT t
  | _ => false
def wordT (K : Txt) (most : Nat) (t : Txt) : Bool := decide (t.length ≤ most) && t.all fun c => decide (c ∈ K)
def wordB (K : Txt) (most : Nat) : PV → Bool
  | .str t => wordT K most t
  | _ => false
theorem kinds_B {K : Txt} (hK : Kinds K) : kindsT K = true := by
  unfold kindsT low
  simp only [Bool.and_eq_true, decide_eq_true_eq, List.all_eq_true]
  exact ⟨⟨⟨hK.pos, hK.few⟩, fun a ha => hK.abc a ha⟩, hK.rise⟩
theorem word_B {K t : Txt} {n : Nat} (h : t.length ≤ n) (hK : ∀ a ∈ t, a ∈ K) : wordT K n t = true := by
  unfold wordT
  simp only [Bool.and_eq_true, decide_eq_true_eq, List.all_eq_true]
  exact ⟨h, hK⟩
theorem alpha_mem (c : Nat) : c ∈ ([97, 98, 99, 100, 101, 102, 103, 104, 105, 106, 107, 108, 109, 110, 111, 112, 113, 114, 115, 116, 117, 118, 119, 120, 121, 122] : Txt) ↔ low c = true := by
  unfold low
  rw [decide_eq_true_eq]
  constructor
  · intro h
    simp only [List.mem_cons, List.not_mem_nil, or_false] at h
    omega
  · intro ⟨h1, h2⟩
    have := FS.alpha_at (c - 97) (by omega)
    rw [show 97 + (c - 97) = c by omega] at this
    exact List.mem_of_getElem? this
theorem in_chrB (c : Nat) (K : Txt) : cmpV .isin (.str [c]) (.str K) = some (decide (c ∈ K)) := by
  by_cases h : c ∈ K
  · rw [in_chr h, decide_eq_true h]
  · show some (isIn [c] K) = _
    rw [decide_eq_false h]
    congr 1
    refine Bool.eq_false_iff.mpr fun z => h ?_
    obtain ⟨a, b, e⟩ := isIn_infix.mp z
    rw [← e]; simp
theorem notin_chrB (c : Nat) (K : Txt) : cmpV .notin (.str [c]) (.str K) = some (!decide (c ∈ K)) := by
  have := in_chrB c K
  rw [cm_in] at this
  rw [cm_notin, this]
  rfl
theorem in_abc (c : Nat) : cmpV .isin (.str [c]) (.str [97, 98, 99, 100, 101, 102, 103, 104, 105, 106, 107, 108, 109, 110, 111, 112, 113, 114, 115, 116, 117, 118, 119, 120, 121, 122]) = some (low c) := by
  rw [in_chrB]
  congr 1
  rw [Bool.eq_iff_iff, decide_eq_true_eq]
  exact alpha_mem c
theorem comp_chars_o {ρ : Env} {ω : Store} {e : E} {tg : List Nat} {c : T} {t : Txt} {o : Nat → Option PV} (h : ∀ a ∈ t, cpE e tg c ρ (.str [a]) ω = .ok (o a) ω) (hl : t.length ≤ 1000) : foldC (cpE e tg c ρ) (charsOf t) [] ω = .ok (t.filterMap o) ω := by
  rw [comp_o (o := fun x => match x with
    | .str [a] => o a
    | _ => none) (fun x hx => ?_) (by rw [charsOf, List.length_map, line]; omega)]
  · congr 1
    unfold charsOf
    rw [List.filterMap_map]
    rfl
  · obtain ⟨a, ha, e⟩ := List.mem_map.mp hx
    subst e
    exact h a ha
theorem comp_chars {ρ : Env} {ω : Store} {e : E} {tg : List Nat} {c : T} {t : Txt} {g : Nat → PV} (h : ∀ a ∈ t, cpE e tg c ρ (.str [a]) ω = .ok (some (g a)) ω) (hl : t.length ≤ 1000) : foldC (cpE e tg c ρ) (charsOf t) [] ω = .ok (t.map g) ω := by
  rw [comp_chars_o (o := fun a => some (g a)) h hl]
  simp
theorem all_bl {α : Type} (f : α → Bool) (xs : List α) : bfV .all [.lst (xs.map fun a => .bl (f a))] = some (.bl (xs.all f)) := by
  show (boolsV _).map _ = _
  have : boolsV (xs.map fun a => PV.bl (f a)) = some (xs.map f) := by
    induction xs with
    | nil => rfl
    | cons x xs ih => show (boolsV (xs.map fun a => PV.bl (f a))).map _ = _; rw [ih]; rfl
  rw [this]
  show some (PV.bl _) = _
  rw [List.all_map]
  rfl
theorem ones_set (t : Txt) : decide (onesT t = setW (onesT t)) = decide (t.Pairwise (· < ·)) := by
  congr 1
  refine propext ⟨fun h => ?_, fun h => (set_rise ?_).symm⟩
  · have q : (onesT t).Pairwise (· < ·) := by rw [h]; exact words_rise
    unfold onesT at q
    rw [List.pairwise_map] at q
    refine q.imp fun {a b} z => ?_
    rw [List.cons_lt_cons_iff] at z
    rcases z with z | ⟨_, z⟩
    · exact z
    · exact absurd z (List.lt_irrefl _)
  · exact List.pairwise_map.mpr (h.imp fun {a b} h => by rw [List.cons_lt_cons_iff]; exact .inl h)
theorem chars_ones (K : Txt) : charsOf K = (onesT K).map .str := by
  unfold charsOf onesT
  rw [List.map_map]
  rfl
section
variable {x : PV} {K : Txt} {ω : Store}
theorem is_kinds_any (h : Tell x) : D_is_kinds [(x, .fz)] ω = .ok (.bl (kindsB x), .fz) ω := by
  refine den_out (Q := fun r => r = .ok (.bl (kindsB x), .fz) ω) (by rfl) ?_
  have ti := h ω
  by_cases hs : ∃ t, x = .str t
  · obtain ⟨t, rfl⟩ := hs
    have e1 : kindsB (.str t) = kindsT t := rfl
    rw [e1]
    unfold i_is_kinds
    have ti : isTy ω (.str t) .str = some true := rfl
    by_cases g1 : (t.length : Int) < 1
    · have : kindsT t = false := by unfold kindsT; rw [decide_eq_false (by omega)]; rfl
      simp only [pv0, pv1, pv2, pv3, pv4, pv5, pv6, pv7, pv8, pv9, pv10, pv11, eq_self, beq_self_eq_true, reduceIte, reduceCtorEq, Nat.reduceAdd, Nat.reduceSub, Nat.reduceBNe, Nat.reduceBEq, Nat.reduceEqDiff, g1]
      rw [this]
    · by_cases g2 : (4 : Int) < (t.length : Int)
      · have : kindsT t = false := by unfold kindsT; rw [decide_eq_false (p := t.length ≤ 4) (by omega), Bool.and_false]; rfl
        simp only [pv0, pv1, pv2, pv3, pv4, pv5, pv6, pv7, pv8, pv9, pv10, pv11, eq_self, beq_self_eq_true, reduceIte, reduceCtorEq, Nat.reduceAdd, Nat.reduceSub, Nat.reduceBNe, Nat.reduceBEq, Nat.reduceEqDiff, g1, g2]
        rw [this]
      · have fc : foldC (cpE e0_is_kinds [1] .tt [some (.str t, .fz), none]) (charsOf t) [] ω = .ok (t.map fun a => .bl (low a)) ω := comp_chars (fun a ha => by
          have q := in_abc a
          unfold e0_is_kinds
          simp only [pv0, pv1, pv2, pv3, pv4, pv5, pv6, pv7, pv8, pv9, pv10, pv11, eq_self, beq_self_eq_true, reduceIte, reduceCtorEq, Nat.reduceAdd, Nat.reduceSub, Nat.reduceBNe, Nat.reduceBEq, Nat.reduceEqDiff, cv0, q]) (by omega)
        have fa := all_bl low t
        have k : kindsT t = (t.all low && decide (t.Pairwise (· < ·))) := by
          unfold kindsT
          rw [decide_eq_true (p := 1 ≤ t.length) (by omega), decide_eq_true (p := t.length ≤ 4) (by omega)]
          rfl
        by_cases q : t.all low = true
        · have fs : bfV .sortedSet [.str t] = some (.lst ((setW (onesT t)).map .str)) := if_pos (by omega)
          have fe : cmpV .eq (.lst (charsOf t)) (.lst ((setW (onesT t)).map .str)) = some (decide (t.Pairwise (· < ·))) := by rw [chars_ones, eq_strs, ones_set]
          rw [k, q]
          rw [q] at fa
          simp only [pv0, pv1, pv2, pv3, pv4, pv5, pv6, pv7, pv8, pv9, pv10, pv11, eq_self, beq_self_eq_true, reduceIte, reduceCtorEq, Nat.reduceAdd, Nat.reduceSub, Nat.reduceBNe, Nat.reduceBEq, Nat.reduceEqDiff, g1, g2, fc, fa, fs, fe, Bool.true_and]
        · have q := Bool.eq_false_iff.mpr q
          rw [k, q]
          rw [q] at fa
          simp only [pv0, pv1, pv2, pv3, pv4, pv5, pv6, pv7, pv8, pv9, pv10, pv11, eq_self, beq_self_eq_true, reduceIte, reduceCtorEq, Nat.reduceAdd, Nat.reduceSub, Nat.reduceBNe, Nat.reduceBEq, Nat.reduceEqDiff, g1, g2, fc, fa, Bool.false_and]
  · have e0 : isS x = false := by
      cases x <;> first | rfl | exact absurd ⟨_, rfl⟩ hs
    have e1 : kindsB x = false := by
      cases x <;> first | rfl | exact absurd ⟨_, rfl⟩ hs
    rw [e0] at ti
    rw [e1]
    unfold i_is_kinds
    simp only [pv0, pv1, pv2, pv3, pv4, pv5, pv6, pv7, pv8, pv9, pv10, pv11, eq_self, beq_self_eq_true, reduceIte, reduceCtorEq, Nat.reduceAdd, Nat.reduceSub, Nat.reduceBNe, Nat.reduceBEq, Nat.reduceEqDiff, ti]
theorem is_word_any (h : Tell x) (hl : ∀ t, x = .str t → t.length ≤ 1000) (n : Nat) : D_is_word [(x, .fz), (.str K, .fz), (.int (n : Int), .fz)] ω = .ok (.bl (wordB K n x), .fz) ω := by
  refine den_out (Q := fun r => r = .ok (.bl (wordB K n x), .fz) ω) (by rfl) ?_
  have ti := h ω
  by_cases hs : ∃ t, x = .str t
  · obtain ⟨t, rfl⟩ := hs
    have hl := hl t rfl
    have e1 : wordB K n (.str t) = wordT K n t := rfl
    rw [e1]
    unfold i_is_word
    by_cases g2 : (n : Int) < (t.length : Int)
    · have : wordT K n t = false := by unfold wordT; rw [decide_eq_false (p := t.length ≤ n) (by omega)]; rfl
      simp only [pv0, pv1, pv2, pv3, pv4, pv5, pv6, pv7, pv8, pv9, pv10, pv11, eq_self, beq_self_eq_true, reduceIte, reduceCtorEq, Nat.reduceAdd, Nat.reduceSub, Nat.reduceBNe, Nat.reduceBEq, Nat.reduceEqDiff, g2]
      rw [this]
    · have fc : foldC (cpE e0_is_word [3] .tt [some (.str t, .fz), some (.str K, .fz), some (.int (n : Int), .fz), none]) (charsOf t) [] ω = .ok (t.map fun a => .bl (decide (a ∈ K))) ω := comp_chars (fun a ha => by
        have q := in_chrB a K
        unfold e0_is_word
        simp only [pv0, pv1, pv2, pv3, pv4, pv5, pv6, pv7, pv8, pv9, pv10, pv11, eq_self, beq_self_eq_true, reduceIte, reduceCtorEq, Nat.reduceAdd, Nat.reduceSub, Nat.reduceBNe, Nat.reduceBEq, Nat.reduceEqDiff, cv0, q]) hl
      have fa := all_bl (fun a => decide (a ∈ K)) t
      have k : wordT K n t = t.all fun a => decide (a ∈ K) := by
        unfold wordT
        rw [decide_eq_true (p := t.length ≤ n) (by omega)]
        rfl
      rw [k]
      simp only [pv0, pv1, pv2, pv3, pv4, pv5, pv6, pv7, pv8, pv9, pv10, pv11, eq_self, beq_self_eq_true, reduceIte, reduceCtorEq, Nat.reduceAdd, Nat.reduceSub, Nat.reduceBNe, Nat.reduceBEq, Nat.reduceEqDiff, g2, fc, fa]
  · have e0 : isS x = false := by
      cases x <;> first | rfl | exact absurd ⟨_, rfl⟩ hs
    have e1 : wordB K n x = false := by
      cases x <;> first | rfl | exact absurd ⟨_, rfl⟩ hs
    rw [e0] at ti
    rw [e1]
    unfold i_is_word
    simp only [pv0, pv1, pv2, pv3, pv4, pv5, pv6, pv7, pv8, pv9, pv10, pv11, eq_self, beq_self_eq_true, reduceIte, reduceCtorEq, Nat.reduceAdd, Nat.reduceSub, Nat.reduceBNe, Nat.reduceBEq, Nat.reduceEqDiff, ti]
theorem need_kinds_y (h : Tell x) (hb : kindsB x = true) : D_need_kinds [(x, .fz)] ω = .ok (.non, .fz) ω := by
  refine den_out (Q := fun r => r = .ok (.non, .fz) ω) (by rfl) ?_
  have e := is_kinds_any (ω := ω) h
  rw [hb] at e
  unfold i_need_kinds
  simp only [pv0, pv1, pv2, pv3, pv4, pv5, pv6, pv7, pv8, pv9, pv10, pv11, eq_self, beq_self_eq_true, reduceIte, reduceCtorEq, Nat.reduceAdd, Nat.reduceSub, Nat.reduceBNe, Nat.reduceBEq, Nat.reduceEqDiff, e]
theorem need_kinds_n (h : Tell x) (hb : kindsB x = false) : D_need_kinds [(x, .fz)] ω = .exc 1 [] ω := by
  refine den_out (Q := fun r => r = .exc 1 [] ω) (by rfl) ?_
  have e := is_kinds_any (ω := ω) h
  rw [hb] at e
  unfold i_need_kinds
  simp only [pv0, pv1, pv2, pv3, pv4, pv5, pv6, pv7, pv8, pv9, pv10, pv11, eq_self, beq_self_eq_true, reduceIte, reduceCtorEq, Nat.reduceAdd, Nat.reduceSub, Nat.reduceBNe, Nat.reduceBEq, Nat.reduceEqDiff, e]
theorem need_word_y {n : Nat} (h : Tell x) (hl : ∀ t, x = .str t → t.length ≤ 1000) (hb : wordB K n x = true) : D_need_word [(x, .fz), (.str K, .fz), (.int (n : Int), .fz)] ω = .ok (.non, .fz) ω := by
  refine den_out (Q := fun r => r = .ok (.non, .fz) ω) (by rfl) ?_
  have e := is_word_any (K := K) (ω := ω) h hl n
  rw [hb] at e
  unfold i_need_word
  simp only [pv0, pv1, pv2, pv3, pv4, pv5, pv6, pv7, pv8, pv9, pv10, pv11, eq_self, beq_self_eq_true, reduceIte, reduceCtorEq, Nat.reduceAdd, Nat.reduceSub, Nat.reduceBNe, Nat.reduceBEq, Nat.reduceEqDiff, e]
theorem need_word_n {n : Nat} (h : Tell x) (hl : ∀ t, x = .str t → t.length ≤ 1000) (hb : wordB K n x = false) : D_need_word [(x, .fz), (.str K, .fz), (.int (n : Int), .fz)] ω = .exc 2 [x] ω := by
  refine den_out (Q := fun r => r = .exc 2 [x] ω) (by rfl) ?_
  have e := is_word_any (K := K) (ω := ω) h hl n
  rw [hb] at e
  unfold i_need_word
  simp only [pv0, pv1, pv2, pv3, pv4, pv5, pv6, pv7, pv8, pv9, pv10, pv11, eq_self, beq_self_eq_true, reduceIte, reduceCtorEq, Nat.reduceAdd, Nat.reduceSub, Nat.reduceBNe, Nat.reduceBEq, Nat.reduceEqDiff, e]
end
/-! ### things that laws try -/
/-- what a law tries: told to be a text or not, not long, equal to itself -/
structure Thing (x : PV) : Prop where
  tell : Tell x
  len : ∀ t, x = .str t → t.length ≤ 1000
  eq : cmpV .eq x x = some true
theorem mk_fz {x : PV} : mk x .fz = (x, .fz) := by unfold mk; split <;> rfl
theorem th_str {s : Txt} (h : s.length ≤ 1000) : Thing (.str s) := ⟨tell_str s, fun t e => by cases e; exact h, by rw [cm_eqS]; simp⟩
theorem th_int (i : Int) : Thing (.int i) := ⟨tell_int i, fun t e => by (cases e), by rw [cm_eqI]; simp⟩
theorem th_bl (i : Bool) : Thing (.bl i) := ⟨tell_bl i, fun t e => by (cases e), by rw [cm_eqB]; simp⟩
theorem th_non : Thing .non := ⟨tell_non, fun t e => by (cases e), rfl⟩
theorem eqvs_refl : ∀ s : Txt, eqvs (charsOf s) (charsOf s) = true
  | [] => rfl
  | c :: s => by
    show (([c] == [c]) && eqvs (charsOf s) (charsOf s)) = true
    rw [eqvs_refl s]; simp
theorem deeps_chars : ∀ s : Txt, deeps (charsOf s) = some 0
  | [] => rfl
  | c :: s => by
    show (some 0).bind (fun a => (deeps (charsOf s)).map fun b => max a b) = some 0
    rw [deeps_chars s]; rfl
theorem th_chars (s : Txt) : Thing (.lst (charsOf s)) := ⟨tell_lst _, fun t e => by (cases e), by rw [chars_ones, eq_strs]; simp⟩
theorem th_one (s : Txt) : Thing (.lst [.str s]) := ⟨tell_lst _, fun t e => by (cases e), by
  have := eq_strs [s] [s]
  simpa using this⟩
theorem th_tup (s : Txt) : Thing (.tup (charsOf s)) := ⟨tell_tup _, fun t e => by (cases e), by
  have o : eqOk (.tup (charsOf s)) (.tup (charsOf s)) = true := by
    unfold eqOk deep
    rw [deeps_chars]
    rfl
  simp only [cmpV]
  rw [if_pos o]
  show some (eqvs _ _) = _
  rw [eqvs_refl]⟩
theorem th_dic (a b : Txt) : Thing (.dic [(.str a, .str b)]) := ⟨tell_dic a _, fun t e => by (cases e), by
  have o : eqOk (.dic [(.str a, .str b)]) (.dic [(.str a, .str b)]) = false := rfl
  simp only [cmpV]
  rw [o]
  simp [dicEq, flatKey, shal, deep, look, keyEq, eqv]⟩
theorem pick {P : PV → Prop} {L : List PV} {j : Nat} (h : ∀ x ∈ L, P x) (hj : j < L.length) : ∃ x, P x ∧ idxV (.lst L) (.int (j : Int)) = some x := ⟨L[j], h _ (List.getElem_mem _), idx_lst (by simp [hj])⟩
theorem mod_ex (q : Int) (n : Nat) (h : 0 < n) (h2 : n < 1000) {N : Int} (e : N = (n : Int)) : ∃ j : Nat, j < n ∧ binV .mod (.int q) (.int N) = some (.int (j : Int)) := by
  subst e
  obtain ⟨j, hj, ej⟩ := mod_nat (i := q) h
  exact ⟨j, hj, by rw [binV_mod (by omega), ej]⟩
theorem not_s {x : PV} (hs : ¬ ∃ t, x = .str t) : isS x = false := by
  cases x <;> first | rfl | exact absurd ⟨_, rfl⟩ hs
/-- the letters that are no kinds -/
def odds (K t : Txt) : List PV := t.filterMap fun a => if a ∈ K then none else some (.str [a])
theorem odds_0 (K t : Txt) : decide (((odds K t).length : Int) = 0) = t.all fun a => decide (a ∈ K) := by
  unfold odds
  rw [Bool.eq_iff_iff, decide_eq_true_eq, List.all_eq_true]
  constructor
  · intro z a ha
    have z : (t.filterMap fun a => if a ∈ K then none else some (PV.str [a])) = [] := List.eq_nil_of_length_eq_zero (by omega)
    rw [List.filterMap_eq_nil_iff] at z
    have := z a ha
    by_cases hk : a ∈ K
    · exact decide_eq_true hk
    · rw [if_neg hk] at this; cases this
  · intro z
    have : (t.filterMap fun a => if a ∈ K then none else some (PV.str [a])) = [] := by
      rw [List.filterMap_eq_nil_iff]
      intro a ha
      rw [if_pos (of_decide_eq_true (z a ha))]
    rw [this]; rfl
end PVL.FK

/-! PVL.Y: the stretches of a text; the places of a word. -/
namespace PVL.Y
open PVL PVL.C PVS.TX
theorem upTo_get2 {lo : Int} {n i : Nat} {x : PV} (h : (upTo lo n)[i]? = some x) : i < n ∧ x = .int (lo + (i : Nat)) := by
  unfold upTo at h
  rw [List.getElem?_map, Option.map_eq_some_iff] at h
  obtain ⟨k, hk, rfl⟩ := h
  have hi : i < n := by have := (List.getElem?_eq_some_iff.mp hk).1; simpa using this
  rw [List.getElem?_range hi] at hk
  cases hk
  exact ⟨hi, rfl⟩
/-! ### the order of words -/
def ltW (a b : Txt) : Prop := a.length < b.length ∨ a.length = b.length ∧ a < b
theorem leW_iff {a b : Txt} : leW a b = true ↔ ltW a b ∨ a = b := by
  unfold leW ltW
  by_cases h1 : a.length < b.length
  · simp [h1]
  · rw [if_neg h1]
    by_cases h2 : b.length < a.length
    · rw [if_pos h2]
      simp only [Bool.false_eq_true, false_iff, not_or, not_and]
      refine ⟨⟨h1, fun e => by omega⟩, fun e => by subst e; omega⟩
    · rw [if_neg h2, leT_le]
      have e : a.length = b.length := by omega
      simp only [e, Nat.lt_irrefl, false_or, true_and]
      constructor
      · intro h
        rcases Classical.em (a < b) with q | q
        · exact .inl q
        · exact .inr (List.le_antisymm h (List.not_lt.mp q))
      · rintro (h | h)
        · exact le_of_lt' h
        · subst h; exact List.le_refl _
theorem ltW_irrefl (a : Txt) : ¬ ltW a a := by
  rintro (h | ⟨_, h⟩)
  · omega
  · exact List.lt_irrefl _ h
theorem ltW_trans {a b c : Txt} (h1 : ltW a b) (h2 : ltW b c) : ltW a c := by
  rcases h1 with h1 | ⟨e1, h1⟩ <;> rcases h2 with h2 | ⟨e2, h2⟩
  · exact .inl (by omega)
  · exact .inl (by omega)
  · exact .inl (by omega)
  · exact .inr ⟨by omega, List.lt_trans h1 h2⟩
theorem ltW_tri (a b : Txt) : ltW a b ∨ a = b ∨ ltW b a := by
  rcases Nat.lt_trichotomy a.length b.length with h | h | h
  · exact .inl (.inl h)
  · rcases Classical.em (a < b) with q | q
    · exact .inl (.inr ⟨h, q⟩)
    · rcases Classical.em (b < a) with q2 | q2
      · exact .inr (.inr (.inr ⟨h.symm, q2⟩))
      · exact .inr (.inl (List.le_antisymm (List.not_lt.mp q2) (List.not_lt.mp q)))
  · exact .inr (.inr (.inl h))
theorem sortW_pair (us : List Txt) : (us.mergeSort leW).Pairwise (fun a b => ltW a b ∨ a = b) := by
  refine (List.pairwise_mergeSort (le := leW) (fun a b c h1 h2 => ?_) (fun a b => ?_) us).imp fun h => leW_iff.mp h
  · rw [leW_iff] at *
    rcases h1 with h1 | rfl
    · rcases h2 with h2 | rfl
      · exact .inl (ltW_trans h1 h2)
      · exact .inl h1
    · exact h2
  · rw [Bool.or_eq_true, leW_iff, leW_iff]
    rcases ltW_tri a b with h | h | h
    · exact .inl (.inl h)
    · exact .inl (.inr h)
    · exact .inr (.inl h)
/-- the one row in order -/
theorem sortW_is {us ds : List Txt} (nd : us.Nodup) (hd : ds.Pairwise ltW) (hm : ∀ w, w ∈ us ↔ w ∈ ds) : us.mergeSort leW = ds := by
  have hp := List.mergeSort_perm us leW
  have n2 : ds.Nodup := hd.imp fun {a b} h e => by subst e; exact ltW_irrefl _ h
  refine List.Perm.eq_of_pairwise (le := fun a b => ltW a b ∨ a = b) (fun a b _ _ h1 h2 => ?_) (sortW_pair us) (hd.imp .inl) ?_
  · rcases h1 with h1 | h1
    · rcases h2 with h2 | h2
      · exact absurd (ltW_trans h1 h2) (ltW_irrefl _)
      · exact h2.symm
    · exact h1
  · exact (List.perm_ext_iff_of_nodup (hp.nodup_iff.mpr nd) n2).mpr fun w => by rw [hp.mem_iff, hm]
theorem sortW_perm {us ds : List Txt} (hd : ds.Pairwise ltW) (hp : us.Perm ds) : us.mergeSort leW = ds :=
  sortW_is (hp.nodup_iff.mpr (hd.imp fun {a b} h e => by subst e; exact ltW_irrefl _ h)) hd fun w => hp.mem_iff
/-! ### the stretches -/
def cutT (t : Txt) (s n : Nat) : Txt := (t.drop s).take n
def slices (t : Txt) (n : Nat) : List Txt := (List.range (t.length - n + 1)).map fun s => cutT t s n
def dueN (t : Txt) (n : Nat) : List Txt := ((List.range n).map fun i => setW (slices t i)).flatten
def dueS (t : Txt) : List Txt := dueN t (t.length + 1)
theorem cut_len {t : Txt} {s n : Nat} (h : s + n ≤ t.length) : (cutT t s n).length = n := by
  unfold cutT
  rw [List.length_take, List.length_drop]
  omega
theorem dueN_succ (t : Txt) (n : Nat) : dueN t (n + 1) = dueN t n ++ setW (slices t n) := by
  unfold dueN
  rw [List.range_succ, List.map_append, List.flatten_append]
  simp
theorem slices_mem {t : Txt} {n : Nat} (hn : n ≤ t.length) {w : Txt} : w ∈ slices t n ↔ ∃ s, s + n ≤ t.length ∧ w = cutT t s n := by
  unfold slices
  rw [List.mem_map]
  constructor
  · rintro ⟨s, hs, e⟩
    rw [List.mem_range] at hs
    exact ⟨s, by omega, e.symm⟩
  · rintro ⟨s, hs, e⟩
    exact ⟨s, List.mem_range.mpr (by omega), e.symm⟩
theorem dueN_mem {t : Txt} {n : Nat} (hn : n ≤ t.length + 1) {w : Txt} : w ∈ dueN t n ↔ ∃ s, s + w.length ≤ t.length ∧ w = cutT t s w.length ∧ w.length < n := by
  unfold dueN
  rw [List.mem_flatten]
  constructor
  · rintro ⟨l, hl, hw⟩
    obtain ⟨i, hi, rfl⟩ := List.mem_map.mp hl
    rw [List.mem_range] at hi
    rw [words_mem, slices_mem (by omega)] at hw
    obtain ⟨s, hs, e⟩ := hw
    have := cut_len hs
    rw [← e] at this
    exact ⟨s, by omega, by rw [this]; exact e, by omega⟩
  · rintro ⟨s, hs, e, hl⟩
    exact ⟨_, List.mem_map.mpr ⟨w.length, List.mem_range.mpr hl, rfl⟩, words_mem.mpr ((slices_mem (by omega)).mpr ⟨s, hs, e⟩)⟩
theorem dueS_mem {t w : Txt} : w ∈ dueS t ↔ ∃ s, s + w.length ≤ t.length ∧ w = cutT t s w.length := by
  unfold dueS
  rw [dueN_mem (Nat.le_refl _)]
  constructor
  · rintro ⟨s, h1, h2, _⟩
    exact ⟨s, h1, h2⟩
  · rintro ⟨s, h1, h2⟩
    exact ⟨s, h1, h2, by omega⟩
theorem dueN_pair {t : Txt} : ∀ {n : Nat}, n ≤ t.length + 1 → (dueN t n).Pairwise ltW
  | 0, _ => .nil
  | n + 1, h => by
    rw [dueN_succ, List.pairwise_append]
    have hlen : ∀ w ∈ setW (slices t n), w.length = n := fun w hw => by
      rw [words_mem, slices_mem (by omega)] at hw
      obtain ⟨s, hs, e⟩ := hw
      rw [e, cut_len hs]
    refine ⟨dueN_pair (by omega), ?_, fun a ha b hb => ?_⟩
    · refine List.Pairwise.imp_of_mem (R := fun a b => a < b) (fun {a b} ha hb h => ?_) words_rise
      exact .inr ⟨by rw [hlen a ha, hlen b hb], h⟩
    · obtain ⟨s, _, _, hl⟩ := (dueN_mem (by omega)).mp ha
      exact .inl (by rw [hlen b hb]; exact hl)
theorem dueS_pair (t : Txt) : (dueS t).Pairwise ltW := dueN_pair (Nat.le_refl _)
theorem dueN_len {t : Txt} : ∀ {n : Nat}, (dueN t n).length ≤ n * (t.length + 1)
  | 0 => by simp [dueN]
  | n + 1 => by
    rw [dueN_succ, List.length_append, Nat.add_mul, Nat.one_mul]
    have h1 := dueN_len (t := t) (n := n)
    have h2 : (setW (slices t n)).length ≤ (slices t n).length := words_len
    have h3 : (slices t n).length = t.length - n + 1 := by simp [slices]
    omega
/-! ### the places -/
def plcN (w t : Txt) (n : Nat) : List Nat := (List.range n).filter fun p => isPre w (t.drop p)
def plc (w t : Txt) : List Nat := plcN w t (t.length + 1)
theorem plcN_succ (w t : Txt) (n : Nat) : plcN w t (n + 1) = plcN w t n ++ if isPre w (t.drop n) then [n] else [] := by
  unfold plcN
  rw [List.range_succ, List.filter_append]
  congr 1
  rw [List.filter_cons, List.filter_nil]
theorem plcN_skip {w t : Txt} {a b : Nat} (h : a ≤ b) (hn : ∀ p, a ≤ p → p < b → isPre w (t.drop p) = false) : plcN w t b = plcN w t a := by
  induction b with
  | zero => rw [show a = 0 by omega]
  | succ b ih =>
    by_cases e : a = b + 1
    · rw [e]
    · rw [plcN_succ, hn b (by omega) (by omega), ih (by omega) fun p h1 h2 => hn p h1 (by omega)]
      simp
theorem std_pre {w t : Txt} {p : Nat} : Std w t p ↔ p ≤ t.length ∧ isPre w (t.drop p) = true := by
  unfold Std
  rw [isPre_iff]
theorem std_drop {w t : Txt} {a k : Nat} (ha : a ≤ t.length) : Std w (t.drop a) k ↔ Std w t (a + k) := by
  unfold Std
  rw [List.length_drop, List.drop_drop]
  constructor
  · rintro ⟨h1, h2⟩; exact ⟨by omega, h2⟩
  · rintro ⟨h1, h2⟩; exact ⟨by omega, h2⟩
/-- the first place from a on -/
theorem find_at (w t : Txt) (a : Nat) (ha : a ≤ t.length + 1) (h62 : t.length < 2 ^ 60) : ∃ v : Int, bmV .find (.str t) [.str w, .int (a : Int)] = some (.int v) ∧ ((v = -1 ∧ plcN w t (t.length + 1) = plcN w t a) ∨ ∃ m : Nat, v = (m : Int) ∧ a ≤ m ∧ m ≤ t.length ∧ isPre w (t.drop m) = true ∧ plcN w t m = plcN w t a) := by
  have e : bmV .find (.str t) [.str w, .int (a : Int)] = some (.int (if t.length < a then -1 else findFrom w (t.drop a) a)) := by
    simp only [bmV]
    rw [if_pos ⟨by omega, by omega⟩, Int.toNat_natCast]
  rw [e]
  refine ⟨_, rfl, ?_⟩
  by_cases hl : t.length < a
  · rw [if_pos hl]
    have : a = t.length + 1 := by omega
    subst this
    exact .inl ⟨rfl, rfl⟩
  · rw [if_neg hl]
    have ha2 : a ≤ t.length := by omega
    rcases PVL.C.findFrom_spec w (t.drop a) a with ⟨e1, n1⟩ | ⟨k, e1, s1, n1⟩
    · refine .inl ⟨e1, plcN_skip (by omega) fun p h1 h2 => ?_⟩
      have := n1 (p - a)
      rw [std_drop ha2, show a + (p - a) = p by omega, std_pre] at this
      cases q : isPre w (t.drop p) with
      | false => rfl
      | true => exact absurd ⟨by omega, q⟩ this
    · rw [std_drop ha2, std_pre] at s1
      refine .inr ⟨a + k, e1, by omega, s1.1, s1.2, plcN_skip (by omega) fun p h1 h2 => ?_⟩
      have := n1 (p - a) (by omega)
      rw [std_drop ha2, show a + (p - a) = p by omega, std_pre] at this
      cases q : isPre w (t.drop p) with
      | false => rfl
      | true => exact absurd ⟨by omega, q⟩ this
theorem find_0 (w t : Txt) : ∃ v : Int, bmV .find (.str t) [.str w] = some (.int v) ∧ ((v = -1 ∧ plcN w t (t.length + 1) = plcN w t 0) ∨ ∃ m : Nat, v = (m : Int) ∧ 0 ≤ m ∧ m ≤ t.length ∧ isPre w (t.drop m) = true ∧ plcN w t m = plcN w t 0) := by
  refine ⟨_, bm_find, ?_⟩
  rcases find_std t w with ⟨e, n1⟩ | ⟨k, e, s1, n1⟩
  · refine .inl ⟨e, plcN_skip (by omega) fun p _ h2 => ?_⟩
    have := n1 p
    rw [std_pre] at this
    cases q : isPre w (t.drop p) with
    | false => rfl
    | true => exact absurd ⟨by omega, q⟩ this
  · rw [std_pre] at s1
    refine .inr ⟨k, e, Nat.zero_le _, s1.1, s1.2, plcN_skip (by omega) fun p _ h2 => ?_⟩
    have := n1 p h2
    rw [std_pre] at this
    cases q : isPre w (t.drop p) with
    | false => rfl
    | true => exact absurd ⟨by omega, q⟩ this
/-! ### rows of ints -/
theorem eq_intsS (ns : List Int) : cmpV .eq (.lst (ns.map .int)) (.lst (ns.map .int)) = some true := by
  have d : ∀ ns : List Int, deeps (ns.map .int) = some 0 := fun ns => by
    induction ns with
    | nil => rfl
    | cons n ns ih =>
      show (deep (.int n)).bind (fun a => (deeps (ns.map .int)).map fun b => max a b) = _
      rw [ih]; rfl
  have r : ∀ ns : List Int, eqvs (ns.map .int) (ns.map .int) = true := fun ns => by
    induction ns with
    | nil => rfl
    | cons n ns ih =>
      show (eqv (.int n) (.int n) && eqvs (ns.map .int) (ns.map .int)) = true
      rw [ih]
      show ((n == n) && true) = true
      simp
  have o : eqOk (.lst (ns.map .int)) (.lst (ns.map .int)) = true := by
    unfold eqOk deep
    rw [d]
    rfl
  show (if eqOk (.lst (ns.map .int)) (.lst (ns.map .int)) = true then some (eqv (.lst (ns.map .int)) (.lst (ns.map .int))) else none) = _
  rw [if_pos o]
  show some (eqvs _ _) = _
  rw [r]
theorem ne_intsS (ns : List Int) : cmpV .ne (.lst (ns.map .int)) (.lst (ns.map .int)) = some false := by
  have h := eq_intsS ns
  have e : cmpV .ne (.lst (ns.map .int)) (.lst (ns.map .int)) = (cmpV .eq (.lst (ns.map .int)) (.lst (ns.map .int))).map (!·) := by
    simp only [cmpV]
    split <;> rfl
  rw [e, h]
  rfl
end PVL.Y

/-! PVL.PG: the program's small defs (kinds, words, stretches, missing words), each reckoned once. -/
namespace PVL.PG
open PVL PVL.C PVL.Y
noncomputable def e0_is_kinds : E := (.cmp .isin (.var 1) (.con (.str [97, 98, 99, 100, 101, 102, 103, 104, 105, 106, 107, 108, 109, 110, 111, 112, 113, 114, 115, 116, 117, 118, 119, 120, 121, 122])))
noncomputable def i_is_kinds : Ss := (.cons (.ifs (.or (.not (.val (.inst (.var 0) [.str]))) (.or (.val (.cmp .lt (.bf1 .len (.var 0)) (.con (.int 1)))) (.val (.cmp .gt (.bf1 .len (.var 0)) (.con (.int 4)))))) (.cons (.ret (.con (.bl false))) .nil) .nil) (.cons (.ifs (.not (.val (.bf1 .all (.comp e0_is_kinds [1] (.val (.var 0)) .tt)))) (.cons (.ret (.con (.bl false))) .nil) .nil) (.cons (.ret (.cmp .eq (.bf1 .list (.var 0)) (.bf1 .sortedSet (.var 0)))) .nil)))
noncomputable def D_is_kinds : Fn := den 1 2 i_is_kinds
noncomputable def e0_is_word : E := (.cmp .isin (.var 3) (.var 1))
noncomputable def i_is_word : Ss := (.cons (.ifs (.or (.not (.val (.inst (.var 0) [.str]))) (.val (.cmp .gt (.bf1 .len (.var 0)) (.var 2)))) (.cons (.ret (.con (.bl false))) .nil) .nil) (.cons (.ret (.bf1 .all (.comp e0_is_word [3] (.val (.var 0)) .tt))) .nil))
noncomputable def D_is_word : Fn := den 3 4 i_is_word
noncomputable def i_need_kinds : Ss := (.cons (.ifs (.not (.val (.call D_is_kinds (.cons (.var 0) .nil)))) (.cons .bad .nil) .nil) .nil)
noncomputable def D_need_kinds : Fn := den 1 1 i_need_kinds
noncomputable def i_need_word : Ss := (.cons (.ifs (.not (.val (.call D_is_word (.cons (.var 0) (.cons (.var 1) (.cons (.var 2) .nil)))))) (.cons .bad .nil) .nil) .nil)
noncomputable def D_need_word : Fn := den 3 3 i_need_word
noncomputable def i_in_order : Ss := (.cons (.ret (.bf1 .sortedW (.var 0))) .nil)
noncomputable def D_in_order : Fn := den 1 1 i_in_order
noncomputable def w0_stretches : Ss := (.cons (.put (.var 1) (.slc (.var 0) (.var 2) (.var 3)) (.con (.bl true))) .nil)
noncomputable def w1_stretches : Ss := (.cons (.for_ [3] (.rng2 (.bin .add (.var 2) (.con (.int 1))) (.bin .add (.bf1 .len (.var 0)) (.con (.int 1)))) w0_stretches) .nil)
noncomputable def i_stretches : Ss := (.cons (.set 1 (.dct (.cons (.con (.str [])) (.cons (.con (.bl true)) .nil)))) (.cons (.for_ [2] (.rng1 (.bf1 .len (.var 0))) w1_stretches) (.cons (.ret (.call D_in_order (.cons (.bf1 .list (.var 1)) .nil))) .nil)))
noncomputable def D_stretches : Fn := den 1 4 i_stretches
noncomputable def w0_lacking : Ss := (.cons (.put (.var 2) (.var 3) (.bm .find (.var 0) (.cons (.var 3) .nil))) .nil)
noncomputable def w1_lacking : Ss := (.cons (.set 6 (.bin .add (.var 3) (.var 5))) (.cons (.ifs (.and (.val (.cmp .notin (.var 6) (.var 2))) (.val (.cmp .isin (.slc (.var 6) (.con (.int 1)) (.con .non)) (.var 2)))) (.cons (.frz [6] (.app (.var 4) (.tup (.cons (.var 6) (.cons (.idx (.var 2) (.var 3)) (.cons (.idx (.var 2) (.slc (.var 6) (.con (.int 1)) (.con .non))) .nil)))))) .nil) .nil) .nil))
noncomputable def w2_lacking : Ss := (.cons (.for_ [5] (.val (.var 1)) w1_lacking) .nil)
noncomputable def i_lacking : Ss := (.cons (.expr (.call D_need_kinds (.cons (.var 1) .nil))) (.cons (.expr (.call D_need_word (.cons (.var 0) (.cons (.var 1) (.cons (.con (.int 40)) .nil))))) (.cons (.set 2 (.dct .nil)) (.cons (.for_ [3] (.val (.call D_stretches (.cons (.var 0) .nil))) w0_lacking) (.cons (.set 4 (.lst .nil)) (.cons (.for_ [3] (.val (.call D_stretches (.cons (.var 0) .nil))) w2_lacking) (.cons (.retV 4) .nil)))))))
noncomputable def D_lacking : Fn := den 2 7 i_lacking
noncomputable def w0_inside : Ss := (.cons (.set 5 (.bm .find (.var 1) (.cons (.var 4) .nil))) (.cons (.ifs (.val (.cmp .ge (.var 5) (.con (.int 0)))) (.cons (.set 6 (.tup (.cons (.bin .add (.var 5) (.bf1 .len (.var 4))) (.cons (.bf1 .len (.var 4)) .nil)))) (.cons (.ifs (.or (.val (.cmp .is (.var 2) (.con .non))) (.val (.cmp .lt (.var 6) (.var 3)))) (.cons (.frz [4, 5] (.set 2 (.tup (.cons (.var 4) (.cons (.var 5) .nil))))) (.cons (.frz [6] (.set 3 (.var 6))) .nil)) .nil) .nil)) .nil) .nil))
noncomputable def i_inside : Ss := (.cons (.set 2 (.con .non)) (.cons (.set 3 (.tup (.cons (.con (.int 0)) (.cons (.con (.int 0)) .nil)))) (.cons (.for_ [4] (.val (.var 0)) w0_inside) (.cons (.retV 2) .nil))))
noncomputable def D_inside : Fn := den 2 7 i_inside
theorem mem_chars {t : Txt} {x : PV} (h : x ∈ charsOf t) : ∃ a ∈ t, x = .str [a] := by
  obtain ⟨a, ha, e⟩ := List.mem_map.mp h
  exact ⟨a, ha, e.symm⟩
theorem chars_line {t : Txt} (h : t.length ≤ 1000) : (charsOf t).length ≤ line := by
  rw [charsOf, List.length_map, line]; omega
theorem is_word_ok {K t : Txt} {k : Nat} (hl : t.length ≤ k) (h2 : t.length ≤ 1000) (hK : ∀ a ∈ t, a ∈ K) (ω : Store) : D_is_word [(.str t, .fz), (.str K, .fz), (.int (k : Int), .fz)] ω = .ok (.bl true, .fz) ω := by
  refine den_out (Q := fun r => r = .ok (.bl true, .fz) ω) (by rfl) ?_
  have g1 : ¬ (k : Int) < (t.length : Int) := by omega
  have fc : foldC (cpE e0_is_word [3] .tt [some (.str t, .fz), some (.str K, .fz), some (.int (k : Int), .fz), none]) (charsOf t) [] ω = .ok ((charsOf t).map fun _ => .bl true) ω := comp_map (fun x hx => by
    obtain ⟨a, ha, rfl⟩ := mem_chars hx
    have q := in_chr (hK a ha)
    unfold e0_is_word
    simp only [pv0, pv1, pv2, pv3, pv4, pv5, pv6, pv7, pv8, pv9, pv10, pv11, eq_self, beq_self_eq_true, reduceIte, reduceCtorEq, Nat.reduceAdd, Nat.reduceSub, Nat.reduceBNe, Nat.reduceBEq, Nat.reduceEqDiff, cv0, q]) (chars_line h2)
  have fa := all_true (charsOf t)
  unfold i_is_word
  simp only [pv0, pv1, pv2, pv3, pv4, pv5, pv6, pv7, pv8, pv9, pv10, pv11, eq_self, beq_self_eq_true, reduceIte, reduceCtorEq, Nat.reduceAdd, Nat.reduceSub, Nat.reduceBNe, Nat.reduceBEq, Nat.reduceEqDiff, g1, fc, fa]
theorem alpha_at : ∀ a, a < 26 → ([97, 98, 99, 100, 101, 102, 103, 104, 105, 106, 107, 108, 109, 110, 111, 112, 113, 114, 115, 116, 117, 118, 119, 120, 121, 122] : List Nat)[a]? = some (97 + a) := by decide
theorem abc_mem : ∀ c, 97 ≤ c → c ≤ 122 → c ∈ ([97, 98, 99, 100, 101, 102, 103, 104, 105, 106, 107, 108, 109, 110, 111, 112, 113, 114, 115, 116, 117, 118, 119, 120, 121, 122] : Txt) := fun c h1 h2 => by
  have := alpha_at (c - 97) (by omega)
  rw [show 97 + (c - 97) = c by omega] at this
  exact List.mem_of_getElem? this
theorem set_ones {K : Txt} (hK : Kinds K) : setW (onesT K) = onesT K := set_rise (List.pairwise_map.mpr (hK.rise.imp fun {a b} h => by
  rw [List.cons_lt_cons_iff]; exact .inl h))
theorem sort_ones {K : Txt} (hK : Kinds K) : bfV .sortedSet [.str K] = some (.lst ((onesT K).map .str)) := by
  show (if K.length < 4000 then some (PV.lst ((setW (onesT K)).map .str)) else none) = _
  rw [if_pos (by have := hK.few; omega), set_ones hK]
theorem chars_ones (K : Txt) : charsOf K = (onesT K).map .str := by
  unfold charsOf onesT
  rw [List.map_map]
  rfl
theorem is_kinds_ok {K : Txt} (hK : Kinds K) (ω : Store) : D_is_kinds [(.str K, .fz)] ω = .ok (.bl true, .fz) ω := by
  refine den_out (Q := fun r => r = .ok (.bl true, .fz) ω) (by rfl) ?_
  have g1 : ¬ (K.length : Int) < 1 := by have := hK.pos; omega
  have g2 : ¬ (4 : Int) < (K.length : Int) := by have := hK.few; omega
  have fc : foldC (cpE e0_is_kinds [1] .tt [some (.str K, .fz), none]) (charsOf K) [] ω = .ok ((charsOf K).map fun _ => .bl true) ω := comp_map (fun x hx => by
    obtain ⟨a, ha, rfl⟩ := mem_chars hx
    have q := in_chr (abc_mem a (hK.abc a ha).1 (hK.abc a ha).2)
    unfold e0_is_kinds
    simp only [pv0, pv1, pv2, pv3, pv4, pv5, pv6, pv7, pv8, pv9, pv10, pv11, eq_self, beq_self_eq_true, reduceIte, reduceCtorEq, Nat.reduceAdd, Nat.reduceSub, Nat.reduceBNe, Nat.reduceBEq, Nat.reduceEqDiff, cv0, q]) (chars_line (by have := hK.few; omega))
  have fa := all_true (charsOf K)
  have fs := sort_ones hK
  have fe : cmpV .eq (.lst (charsOf K)) (.lst ((onesT K).map .str)) = some true := by rw [chars_ones, eq_strs]; simp
  unfold i_is_kinds
  simp only [pv0, pv1, pv2, pv3, pv4, pv5, pv6, pv7, pv8, pv9, pv10, pv11, eq_self, beq_self_eq_true, reduceIte, reduceCtorEq, Nat.reduceAdd, Nat.reduceSub, Nat.reduceBNe, Nat.reduceBEq, Nat.reduceEqDiff, g1, g2, fc, fa, fs, fe]
theorem need_kinds_ok {K : Txt} (hK : Kinds K) (ω : Store) : D_need_kinds [(.str K, .fz)] ω = .ok (.non, .fz) ω := by
  refine den_out (Q := fun r => r = .ok (.non, .fz) ω) (by rfl) ?_
  have e := is_kinds_ok hK ω
  unfold i_need_kinds
  simp only [pv0, pv1, pv2, pv3, pv4, pv5, pv6, pv7, pv8, pv9, pv10, pv11, eq_self, beq_self_eq_true, reduceIte, reduceCtorEq, Nat.reduceAdd, Nat.reduceSub, Nat.reduceBNe, Nat.reduceBEq, Nat.reduceEqDiff, e]
section
variable {t w : Txt} {ω : Store}
theorem order_ok (us : List Txt) (m : Md) (hm : m = .fz ∨ m = .br) : D_in_order [(.lst (us.map .str), m)] ω = .ok (.lst ((us.mergeSort leW).map .str), .own) ω := by
  refine den_out (Q := fun r => r = .ok (.lst ((us.mergeSort leW).map .str), .own) ω) (by rfl) ?_
  have e : bfV .sortedW [.lst (us.map .str)] = some (.lst ((us.mergeSort leW).map .str)) := by
    show (strsV _).map _ = _
    rw [strsV_map]
    rfl
  unfold i_in_order
  rcases hm with rfl | rfl <;> simp only [pv0, pv1, pv2, pv3, pv4, pv5, pv6, pv7, pv8, pv9, pv10, pv11, eq_self, beq_self_eq_true, reduceIte, reduceCtorEq, Nat.reduceAdd, Nat.reduceSub, Nat.reduceBNe, Nat.reduceBEq, Nat.reduceEqDiff, e]
theorem setD_list (us : List Txt) : bfV .list [.dic (setD us)] = some (.lst (us.map .str)) := by
  show (if (setD us).all (fun p => flatKey p.1) then some (PV.lst ((setD us).map (·.1))) else none) = _
  rw [if_pos, setD_keys]
  rw [List.all_eq_true]
  intro p hp
  obtain ⟨u, _, rfl⟩ := List.mem_map.mp hp
  rfl
theorem stretches_ok (ht : t.length ≤ 100) : D_stretches [(.str t, .fz)] ω = .ok (.lst ((dueS t).map .str), .own) ω := by
  refine den_out (Q := fun r => r = .ok (.lst ((dueS t).map .str), .own) ω) (by rfl) ?_
  have s1 : small (t.length : Int) = true := small_nat (by omega)
  have s2 : small ((t.length : Int) + 1) = true := by rw [show (t.length : Int) + 1 = ((t.length + 1 : Nat) : Int) by omega]; exact small_nat (by omega)
  have dn : dispV [.str [], .bl true] = some (.dic (setD [[]])) := rfl
  unfold i_stretches
  simp only [pv0, pv1, pv2, pv3, pv4, pv5, pv6, pv7, pv8, pv9, pv10, pv11, eq_self, beq_self_eq_true, reduceIte, reduceCtorEq, Nat.reduceAdd, Nat.reduceSub, Nat.reduceBNe, Nat.reduceBEq, Nat.reduceEqDiff, s1, Int.toNat_natCast, dn]
  refine for_st (fun i ρ => ∃ us o2 o3, us.Nodup ∧ us.length ≤ 1 + i * 101 ∧ (∀ w, w ∈ us ↔ w = [] ∨ ∃ s e, s < i ∧ s < e ∧ e ≤ t.length ∧ w = (t.drop s).take (e - s)) ∧ ρ = [some (.str t, .fz), some (.dic (setD us), .own), o2, o3])
    ⟨[[]], none, none, by simp, by simp, fun w => by simp, rfl⟩ ?_ ?_
  · rintro i x ρ hx ⟨us, o2, o3, h1, h2, h3, rfl⟩
    obtain ⟨hi, rfl⟩ := upTo_get hx
    refine ⟨_, as_1, ?_⟩
    have s3 : small ((i : Int) + 1) = true := by rw [show (i : Int) + 1 = ((i + 1 : Nat) : Int) by omega]; exact small_nat (by omega)
    have l3 : ((t.length : Int) + 1 - ((i : Int) + 1)).toNat = t.length - i := by omega
    unfold w1_stretches
    simp only [pv0, pv1, pv2, pv3, pv4, pv5, pv6, pv7, pv8, pv9, pv10, pv11, eq_self, beq_self_eq_true, reduceIte, reduceCtorEq, Nat.reduceAdd, Nat.reduceSub, Nat.reduceBNe, Nat.reduceBEq, Nat.reduceEqDiff, s2, s3, l3]
    refine for_st (fun j ρ => ∃ us o3, us.Nodup ∧ us.length ≤ 1 + i * 101 + j ∧ (∀ w, w ∈ us ↔ w = [] ∨ ∃ s e, (s < i ∨ s = i ∧ e ≤ i + j) ∧ s < e ∧ e ≤ t.length ∧ w = (t.drop s).take (e - s)) ∧ ρ = [some (.str t, .fz), some (.dic (setD us), .own), some (.int (i : Int), .fz), o3])
      ⟨us, o3, h1, h2, fun w => by
        rw [h3]
        constructor
        · rintro (h | ⟨s, e, a, b, c, d⟩)
          · exact .inl h
          · exact .inr ⟨s, e, .inl a, b, c, d⟩
        · rintro (h | ⟨s, e, a, b, c, d⟩)
          · exact .inl h
          · exact .inr ⟨s, e, by omega, b, c, d⟩, rfl⟩ ?_ ?_
    · rintro j x ρ hx ⟨us, o, h1, h2, h3, rfl⟩
      obtain ⟨hj, rfl⟩ := upTo_get2 hx
      refine ⟨_, as_1, ?_⟩
      have es : slcV (.str t) (.int (i : Int)) (.int ((i : Int) + 1 + (j : Int))) = some (.str ((t.drop i).take (j + 1))) := by
        rw [show (i : Int) + 1 + (j : Int) = ((i + 1 + j : Nat) : Int) by omega, slc_str, show i + 1 + j - i = j + 1 by omega]
      have hij : i * 101 ≤ 100 * 101 := Nat.mul_le_mul (by omega) (Nat.le_refl _)
      have ep := setD_store (us := us) (w := (t.drop i).take (j + 1)) (by rw [line]; omega)
      unfold w0_stretches
      simp only [pv0, pv1, pv2, pv3, pv4, pv5, pv6, pv7, pv8, pv9, pv10, pv11, eq_self, beq_self_eq_true, reduceIte, reduceCtorEq, Nat.reduceAdd, Nat.reduceSub, Nat.reduceBNe, Nat.reduceBEq, Nat.reduceEqDiff, es, ep]
      refine ⟨uput us ((t.drop i).take (j + 1)), _, uput_nodup h1, Nat.le_trans uput_len (by omega), fun w => ?_, rfl⟩
      rw [uput_mem, h3]
      constructor
      · rintro ((h | ⟨s, e, a, b, c, d⟩) | e)
        · exact .inl h
        · exact .inr ⟨s, e, by omega, b, c, d⟩
        · exact .inr ⟨i, i + (j + 1), by omega, by omega, by omega, by rw [e, show i + (j + 1) - i = j + 1 by omega]⟩
      · rintro (h | ⟨s, e, a, b, c, d⟩)
        · exact .inl (.inl h)
        · by_cases q : s < i ∨ s = i ∧ e ≤ i + j
          · exact .inl (.inr ⟨s, e, q, b, c, d⟩)
          · have e1 : s = i := by omega
            have e2 : e = i + (j + 1) := by omega
            rw [e1, e2, show i + (j + 1) - i = j + 1 by omega] at d
            exact .inr d
    · rintro ρ ⟨us, o, h1, h2, h3, rfl⟩
      rw [upTo_len] at h2 h3
      simp only [pv0, pv1, pv2, pv3, pv4, pv5, pv6, pv7, pv8, pv9, pv10, pv11, eq_self, beq_self_eq_true, reduceIte, reduceCtorEq, Nat.reduceAdd, Nat.reduceSub, Nat.reduceBNe, Nat.reduceBEq, Nat.reduceEqDiff]
      refine ⟨us, _, _, h1, by omega, fun w => ?_, rfl⟩
      rw [h3]
      constructor
      · rintro (h | ⟨s, e, a, b, c, d⟩)
        · exact .inl h
        · exact .inr ⟨s, e, by omega, b, c, d⟩
      · rintro (h | ⟨s, e, a, b, c, d⟩)
        · exact .inl h
        · exact .inr ⟨s, e, by omega, b, c, d⟩
  · rintro ρ ⟨us, o2, o3, h1, h2, h3, rfl⟩
    rw [upTo_len] at h3
    have ls := setD_list us
    have od := order_ok (ω := ω) us .fz (.inl rfl)
    have q : us.mergeSort leW = dueS t := sortW_is h1 (dueS_pair t) fun w => by
      rw [h3, dueS_mem]
      constructor
      · rintro (h | ⟨s, e, a, b, c, d⟩)
        · subst h
          exact ⟨0, by simp, by simp [cutT]⟩
        · have hl : w.length = e - s := by rw [d, List.length_take, List.length_drop]; omega
          exact ⟨s, by omega, by rw [hl]; exact d⟩
      · rintro ⟨s, h4, h5⟩
        by_cases hw : w = []
        · exact .inl hw
        · have := List.length_pos_iff.mpr hw
          exact .inr ⟨s, s + w.length, by omega, by omega, by omega, by rw [Nat.add_sub_cancel_left]; exact h5⟩
    rw [q] at od
    simp only [pv0, pv1, pv2, pv3, pv4, pv5, pv6, pv7, pv8, pv9, pv10, pv11, eq_self, beq_self_eq_true, reduceIte, reduceCtorEq, Nat.reduceAdd, Nat.reduceSub, Nat.reduceBNe, Nat.reduceBEq, Nat.reduceEqDiff, ls, od]
end
/-- a word of the list ends at e, of s letters -/
def Hit (ws : List Txt) (w : Txt) (e s : Nat) : Prop := s ≤ e ∧ e ≤ w.length ∧ (w.drop (e - s)).take s ∈ ws
def Due (ws : List Txt) (w : Txt) (v : PV) : Prop := (v = .non ∧ ∀ e s, ¬ Hit ws w e s) ∨ ∃ e s, Hit ws w e s ∧ v = .tup [.str ((w.drop (e - s)).take s), .int ((e - s : Nat) : Int)] ∧ ∀ e' s', Hit ws w e' s' → e < e' ∨ e = e' ∧ s ≤ s'
theorem ltI2 (a b c d : Int) : ltI [a, b] [c, d] = decide (a < c ∨ a = c ∧ b < d) := by
  unfold ltI
  by_cases h : a = c
  · rw [if_pos h]
    unfold ltI
    by_cases h2 : b = d
    · rw [if_pos h2]; subst h; subst h2; simp [ltI]
    · rw [if_neg h2]; subst h; simp
  · rw [if_neg h]; simp [h]
theorem hit_of {ws : List Txt} {w x : Txt} {p : Nat} (hx : x ∈ ws) (h : Std x w p) : Hit ws w (p + x.length) x.length := by
  refine ⟨by omega, std_len h, ?_⟩
  rw [show p + x.length - x.length = p by omega, (std_iff.mp h).2]
  exact hx
theorem std_of {ws : List Txt} {w : Txt} {e s : Nat} (h : Hit ws w e s) : Std ((w.drop (e - s)).take s) w (e - s) ∧ ((w.drop (e - s)).take s).length = s := by
  obtain ⟨h1, h2, h3⟩ := h
  exact ⟨std_cut (by omega), by rw [List.length_take, List.length_drop]; omega⟩
/-- of the words so far the first -/
def Found (ws : List Txt) (w : Txt) (v u : PV) : Prop := (v = .non ∧ ∃ a b : Int, u = .tup [.int a, .int b]) ∧ (∀ x ∈ ws, ∀ k, ¬ Std x w k) ∨ ∃ x ∈ ws, ∃ p : Nat, Std x w p ∧ v = .tup [.str x, .int (p : Int)] ∧ u = .tup [.int ((p + x.length : Nat) : Int), .int ((x.length : Nat) : Int)] ∧ ∀ y ∈ ws, ∀ k, Std y w k → p + x.length < k + y.length ∨ p + x.length = k + y.length ∧ x.length ≤ y.length
theorem found_due {ws : List Txt} {w : Txt} {v u : PV} (h : Found ws w v u) : Due ws w v := by
  rcases h with ⟨⟨rfl, _⟩, h⟩ | ⟨x, hx, p, hp, rfl, _, hm⟩
  · exact .inl ⟨rfl, fun e s he => h _ he.2.2 _ (std_of he).1⟩
  · refine .inr ⟨p + x.length, x.length, hit_of hx hp, ?_, fun e' s' he => ?_⟩
    · rw [show p + x.length - x.length = p by omega, (std_iff.mp hp).2]
    · have := hm _ he.2.2 _ (std_of he).1
      rw [(std_of he).2] at this
      have h1 := he.1
      omega
theorem found_step {ws : List Txt} {w x : Txt} {v u : PV} (h : Found ws w v u) (hx : ∀ k, ¬ Std x w k) : Found (ws ++ [x]) w v u := by
  rcases h with ⟨h0, h⟩ | ⟨y, hy, p, hp, e1, e2, hm⟩
  · refine .inl ⟨h0, fun z hz => ?_⟩
    rcases List.mem_append.mp hz with q | q
    · exact h z q
    · rw [List.mem_singleton.mp q]; exact hx
  · refine .inr ⟨y, List.mem_append_left _ hy, p, hp, e1, e2, fun z hz k hk => ?_⟩
    rcases List.mem_append.mp hz with q | q
    · exact hm z q k hk
    · rw [List.mem_singleton.mp q] at hk; exact absurd hk (hx k)
theorem found_keep {ws : List Txt} {w x y : Txt} {p q : Nat} {v u : PV} (hy : y ∈ ws) (hp : Std y w p) (hm : ∀ z ∈ ws, ∀ k, Std z w k → p + y.length < k + z.length ∨ p + y.length = k + z.length ∧ y.length ≤ z.length)
    (e1 : v = .tup [.str y, .int (p : Int)]) (e2 : u = .tup [.int ((p + y.length : Nat) : Int), .int ((y.length : Nat) : Int)]) (hn : ∀ k < q, ¬ Std x w k) (hl : ¬ (q + x.length < p + y.length ∨ q + x.length = p + y.length ∧ x.length < y.length)) : Found (ws ++ [x]) w v u := by
  refine .inr ⟨y, List.mem_append_left _ hy, p, hp, e1, e2, fun z hz k hk => ?_⟩
  rcases List.mem_append.mp hz with h | h
  · exact hm z h k hk
  · rw [List.mem_singleton.mp h] at hk ⊢
    have : ¬ k < q := fun z => hn k z hk
    omega
theorem found_new {ws : List Txt} {w x : Txt} {q : Nat} (hq : Std x w q) (hn : ∀ k < q, ¬ Std x w k) (h : ∀ z ∈ ws, ∀ k, Std z w k → q + x.length < k + z.length ∨ q + x.length = k + z.length ∧ x.length ≤ z.length) : Found (ws ++ [x]) w (.tup [.str x, .int (q : Int)]) (.tup [.int ((q + x.length : Nat) : Int), .int ((x.length : Nat) : Int)]) := by
  refine .inr ⟨x, by simp, q, hq, rfl, rfl, fun z hz k hk => ?_⟩
  rcases List.mem_append.mp hz with h2 | h2
  · exact h z h2 k hk
  · rw [List.mem_singleton.mp h2] at hk ⊢
    have : ¬ k < q := fun z => hn k z hk
    omega
theorem inside_ok (ws : List Txt) (w : Txt) (m1 m2 : Md) (hm : m1 = .fz ∨ m1 = .br) (ω : Store) : ∃ v, Due ws w v ∧ D_inside [(.lst (ws.map .str), m1), (.str w, m2)] ω = .ok (v, .fz) ω := by
  refine den_out (Q := fun r => ∃ v, Due ws w v ∧ r = .ok (v, .fz) ω) (by rfl) ?_
  unfold i_inside
  have key : F.Out (fun r => ∃ v, Due ws w v ∧ r = .ok (v, .fz) ω) (F.seq (forL (exs w0_inside) [4] (ws.map .str) [some (.lst (ws.map .str), m1), some (.str w, m2), some (.non, .fz), some (.tup [.int 0, .int 0], .fz), none, none, none] ω) (exs (.cons (.retV 2) .nil))) := by
    refine for_st (fun i ρ => ∃ v u o1 o2 o3, Found (ws.take i) w v u ∧ ρ = [some (.lst (ws.map .str), m1), some (.str w, m2), some (v, .fz), some (u, .fz), o1, o2, o3]) ⟨_, _, none, none, none, .inl ⟨⟨rfl, _, _, rfl⟩, fun x hx => by simp at hx⟩, rfl⟩ ?_ ?_
    · rintro i x ρ hx ⟨v, u, o1, o2, o3, hf, rfl⟩
      rw [List.getElem?_map, Option.map_eq_some_iff] at hx
      obtain ⟨x, hx, rfl⟩ := hx
      have ht : ws.take (i + 1) = ws.take i ++ [x] := by rw [List.take_add_one, hx]; rfl
      rw [ht]
      generalize ws.take i = vs at *
      refine ⟨_, rfl, ?_⟩
      unfold w0_inside
      rcases find_std w x with ⟨e, hn⟩ | ⟨q, e, hq, hn⟩
      · have e0 : decide ((0 : Int) ≤ -1) = false := rfl
        simp only [pv0, pv1, pv2, pv3, pv4, pv5, pv6, pv7, pv8, pv9, pv10, pv11, eq_self, beq_self_eq_true, reduceIte, reduceCtorEq, Nat.reduceAdd, Nat.reduceSub, Nat.reduceBNe, Nat.reduceBEq, Nat.reduceEqDiff, e, e0]
        exact ⟨v, u, _, _, _, found_step hf hn, rfl⟩
      · have e0 : decide ((0 : Int) ≤ (q : Int)) = true := decide_eq_true (by omega)
        have ec : (q : Int) + (x.length : Int) = ((q + x.length : Nat) : Int) := by omega
        rcases hf with ⟨⟨rfl, a, b, rfl⟩, hf⟩ | ⟨y, hy, p, hp, rfl, rfl, hmn⟩
        · simp only [pv0, pv1, pv2, pv3, pv4, pv5, pv6, pv7, pv8, pv9, pv10, pv11, eq_self, beq_self_eq_true, reduceIte, reduceCtorEq, Nat.reduceAdd, Nat.reduceSub, Nat.reduceBNe, Nat.reduceBEq, Nat.reduceEqDiff, e, e0, ec]
          exact ⟨_, _, _, _, _, found_new hq hn fun z hz k hk => absurd hk (hf z hz k), rfl⟩
        · by_cases hl : q + x.length < p + y.length ∨ q + x.length = p + y.length ∧ x.length < y.length
          · have e1 : decide (((q + x.length : Nat) : Int) < ((p + y.length : Nat) : Int) ∨ ((q + x.length : Nat) : Int) = ((p + y.length : Nat) : Int) ∧ ((x.length : Nat) : Int) < ((y.length : Nat) : Int)) = true := decide_eq_true (by omega)
            simp only [pv0, pv1, pv2, pv3, pv4, pv5, pv6, pv7, pv8, pv9, pv10, pv11, eq_self, beq_self_eq_true, reduceIte, reduceCtorEq, Nat.reduceAdd, Nat.reduceSub, Nat.reduceBNe, Nat.reduceBEq, Nat.reduceEqDiff, e, e0, ec, ltI2, e1]
            refine ⟨_, _, _, _, _, found_new hq hn fun z hz k hk => ?_, rfl⟩
            have := hmn z hz k hk
            omega
          · have e1 : decide (((q + x.length : Nat) : Int) < ((p + y.length : Nat) : Int) ∨ ((q + x.length : Nat) : Int) = ((p + y.length : Nat) : Int) ∧ ((x.length : Nat) : Int) < ((y.length : Nat) : Int)) = false := decide_eq_false (by omega)
            simp only [pv0, pv1, pv2, pv3, pv4, pv5, pv6, pv7, pv8, pv9, pv10, pv11, eq_self, beq_self_eq_true, reduceIte, reduceCtorEq, Nat.reduceAdd, Nat.reduceSub, Nat.reduceBNe, Nat.reduceBEq, Nat.reduceEqDiff, e, e0, ec, ltI2, e1]
            exact ⟨_, _, _, _, _, found_keep hy hp hmn rfl rfl hn hl, rfl⟩
    · rintro ρ ⟨v, u, o1, o2, o3, hf, rfl⟩
      rw [List.length_map, List.take_length] at hf
      simp only [pv0, pv1, pv2, pv3, pv4, pv5, pv6, pv7, pv8, pv9, pv10, pv11, eq_self, beq_self_eq_true, reduceIte, reduceCtorEq, Nat.reduceAdd, Nat.reduceSub, Nat.reduceBNe, Nat.reduceBEq, Nat.reduceEqDiff]
      exact ⟨v, found_due hf, rfl⟩
  rcases hm with rfl | rfl <;> (simp only [pv0, pv1, pv2, pv3, pv4, pv5, pv6, pv7, pv8, pv9, pv10, pv11, eq_self, beq_self_eq_true, reduceIte, reduceCtorEq, Nat.reduceAdd, Nat.reduceSub, Nat.reduceBNe, Nat.reduceBEq, Nat.reduceEqDiff]; exact key)
theorem need_word_ok {K t : Txt} {k : Nat} (hl : t.length ≤ k) (h2 : t.length ≤ 1000) (hK : ∀ a ∈ t, a ∈ K) (ω : Store) : D_need_word [(.str t, .fz), (.str K, .fz), (.int (k : Int), .fz)] ω = .ok (.non, .fz) ω := by
  refine den_out (Q := fun r => r = .ok (.non, .fz) ω) (by rfl) ?_
  have e := is_word_ok hl h2 hK ω
  unfold i_need_word
  simp only [pv0, pv1, pv2, pv3, pv4, pv5, pv6, pv7, pv8, pv9, pv10, pv11, eq_self, beq_self_eq_true, reduceIte, reduceCtorEq, Nat.reduceAdd, Nat.reduceSub, Nat.reduceBNe, Nat.reduceBEq, Nat.reduceEqDiff, e]
/-! ### dicts with texts for keys -/
def txD (f : Txt → PV) (us : List Txt) : List (PV × PV) := us.map fun w => (.str w, f w)
section
variable {f : Txt → PV} {us : List Txt} {w : Txt}
theorem txD_fits : keyFits (txD f us) (.str w) = true := by
  unfold keyFits
  have : (txD f us).all (fun p => flatKey p.1) = true := by
    rw [List.all_eq_true]
    intro p hp
    obtain ⟨u, _, rfl⟩ := List.mem_map.mp hp
    rfl
  rw [this]
  rfl
theorem txD_look : look (txD f us) (.str w) = if w ∈ us then some (f w) else none := by
  unfold look txD
  induction us with
  | nil => simp
  | cons u us ih =>
    rw [List.map_cons, List.find?_cons]
    show (match (u == w) with | true => some (PV.str u, f u) | false => List.find? _ _).map _ = _
    by_cases h : u = w
    · subst h; simp
    · have : (u == w) = false := by simpa using h
      rw [this]
      show Option.map _ (List.find? _ _) = _
      rw [ih]
      simp [show ¬ w = u from fun z => h z.symm]
theorem txD_in : inV (.str w) (.dic (txD f us)) = some (decide (w ∈ us)) := by
  show (if keyFits (txD f us) (.str w) = true then some (look (txD f us) (.str w)).isSome else none) = _
  rw [if_pos txD_fits, txD_look]
  by_cases h : w ∈ us <;> simp [h]
theorem txD_idx (h : w ∈ us) : idxV (.dic (txD f us)) (.str w) = some (f w) := by
  show (if keyFits (txD f us) (.str w) = true then look (txD f us) (.str w) else none) = _
  rw [if_pos txD_fits, txD_look, if_pos h]
theorem txD_put (h : w ∉ us) : put (txD f us) (.str w) (f w) = txD f (us ++ [w]) := by
  unfold put
  rw [if_neg]
  · unfold txD
    rw [List.map_append]
    rfl
  · rw [List.any_eq_true]
    rintro ⟨p, hp, e⟩
    obtain ⟨u, hu, rfl⟩ := List.mem_map.mp hp
    have e : (u == w) = true := e
    have e : u = w := by simpa using e
    exact h (e ▸ hu)
theorem txD_store (h : w ∉ us) (hl : us.length < line) : storeV (.dic (txD f us)) (.str w) (f w) = some (.dic (txD f (us ++ [w]))) := by
  show (if keyFits (txD f us) (.str w) = true ∧ (txD f us).length < line then some (PV.dic (put (txD f us) (.str w) (f w))) else none) = _
  rw [if_pos ⟨txD_fits, by rw [txD, List.length_map]; exact hl⟩, txD_put h]
end
/-! ### missing words -/
theorem due_infix {w t : Txt} : w ∈ dueS t ↔ w <:+: t := by
  rw [dueS_mem]
  constructor
  · rintro ⟨s, h, e⟩
    refine ⟨t.take s, (t.drop s).drop w.length, ?_⟩
    have : w = (t.drop s).take w.length := e
    rw [List.append_assoc]
    conv => lhs; rhs; lhs; rw [this]
    rw [List.take_append_drop, List.take_append_drop]
  · rintro ⟨a, b, e⟩
    refine ⟨a.length, by rw [← e]; simp only [List.length_append]; omega, ?_⟩
    unfold cutT
    rw [← e, List.append_assoc, List.drop_left, List.take_left]
/-- a row: a word that doesn't stand, though both its shorter ones do -/
def row1 (t w : Txt) (c : Nat) : Option (Txt × Int × Int) := if w ++ [c] ∉ dueS t ∧ (w ++ [c]).drop 1 ∈ dueS t then some (w ++ [c], find t w, find t ((w ++ [c]).drop 1)) else none
def rowW (t K w : Txt) : List (Txt × Int × Int) := K.filterMap (row1 t w)
def rowsN (t K : Txt) (n : Nat) : List (Txt × Int × Int) := ((dueS t).take n).flatMap (rowW t K)
def rows (t K : Txt) : List (Txt × Int × Int) := (dueS t).flatMap (rowW t K)
def encR (r : Txt × Int × Int) : PV := .tup [.str r.1, .int r.2.1, .int r.2.2]
theorem rowsN_len {t K : Txt} {n : Nat} : (rowsN t K n).length ≤ n * K.length := by
  unfold rowsN
  have go : ∀ l : List Txt, (l.flatMap (rowW t K)).length ≤ l.length * K.length := fun l => by
    induction l with
    | nil => simp
    | cons a l ih =>
      rw [List.flatMap_cons, List.length_append, List.length_cons, Nat.add_mul, Nat.one_mul]
      have : (rowW t K a).length ≤ K.length := List.length_filterMap_le ..
      omega
  refine Nat.le_trans (go _) (Nat.mul_le_mul ?_ (Nat.le_refl _))
  rw [List.length_take]
  omega
theorem rowsN_succ {t K : Txt} {n : Nat} {w : Txt} (h : (dueS t)[n]? = some w) : rowsN t K (n + 1) = rowsN t K n ++ rowW t K w := by
  unfold rowsN
  rw [List.take_add_one, h, List.flatMap_append]
  simp
theorem row_mem {t K : Txt} {r : Txt × Int × Int} : r ∈ rows t K ↔ ∃ w c, w <:+: t ∧ c ∈ K ∧ ¬ (w ++ [c]) <:+: t ∧ (w ++ [c]).drop 1 <:+: t ∧ r = (w ++ [c], find t w, find t ((w ++ [c]).drop 1)) := by
  unfold rows rowW row1
  rw [List.mem_flatMap]
  constructor
  · rintro ⟨w, hw, h⟩
    obtain ⟨c, hc, e⟩ := List.mem_filterMap.mp h
    split at e
    · rename_i q
      rw [due_infix, due_infix] at q
      exact ⟨w, c, due_infix.mp hw, hc, q.1, q.2, (Option.some.inj e).symm⟩
    · cases e
  · rintro ⟨w, c, h1, h2, h3, h4, rfl⟩
    refine ⟨w, due_infix.mpr h1, List.mem_filterMap.mpr ⟨c, h2, ?_⟩⟩
    rw [if_pos ⟨by rw [due_infix]; exact h3, by rw [due_infix]; exact h4⟩]
/-- a missing word -/
def Mis (t K m : Txt) : Prop := ∃ w c, w <:+: t ∧ c ∈ K ∧ ¬ (w ++ [c]) <:+: t ∧ (w ++ [c]).drop 1 <:+: t ∧ m = w ++ [c]
def names (t K : Txt) : List Txt := (rows t K).map (·.1)
theorem name_mem {t K m : Txt} : m ∈ names t K ↔ Mis t K m := by
  unfold names Mis
  rw [List.mem_map]
  constructor
  · rintro ⟨r, hr, rfl⟩
    obtain ⟨w, c, h1, h2, h3, h4, rfl⟩ := row_mem.mp hr
    exact ⟨w, c, h1, h2, h3, h4, rfl⟩
  · rintro ⟨w, c, h1, h2, h3, h4, rfl⟩
    exact ⟨_, row_mem.mpr ⟨w, c, h1, h2, h3, h4, rfl⟩, rfl⟩
theorem inf_trans {a b c : Txt} (h1 : a <:+: b) (h2 : b <:+: c) : a <:+: c := List.IsInfix.trans h1 h2
theorem mis_no {t K m : Txt} (h : Mis t K m) : ¬ m <:+: t := by
  obtain ⟨w, c, h1, h2, h3, h4, rfl⟩ := h
  exact h3
/-- in a word that doesn't stand, a missing one stands -/
theorem mis_ex {t K : Txt} : ∀ (n : Nat) (v : Txt), v.length = n → (∀ a ∈ v, a ∈ K) → ¬ v <:+: t → ∃ m, Mis t K m ∧ m <:+: v := by
  intro n
  induction n using Nat.strongRecOn with
  | ind n ih =>
    intro v hv hK hn
    rcases List.eq_nil_or_concat v with rfl | ⟨w, c, e⟩
    · exact absurd (List.nil_infix) hn
    · have e : v = w ++ [c] := by rw [e]; simp
      subst e
      have wi : w <:+: w ++ [c] := (List.prefix_append w [c]).isInfix
      by_cases hw : w <:+: t
      · by_cases hd : (w ++ [c]).drop 1 <:+: t
        · exact ⟨w ++ [c], ⟨w, c, hw, hK c (by simp), hn, hd, rfl⟩, List.infix_refl _⟩
        · have di : (w ++ [c]).drop 1 <:+: w ++ [c] := (List.drop_suffix 1 _).isInfix
          obtain ⟨m, h1, h2⟩ := ih _ (by rw [List.length_drop]; have : (w ++ [c]).length = n := hv; simp at this ⊢; omega) ((w ++ [c]).drop 1) rfl (fun a ha => hK a (List.mem_of_mem_drop ha)) hd
          exact ⟨m, h1, inf_trans h2 di⟩
      · obtain ⟨m, h1, h2⟩ := ih _ (by have : (w ++ [c]).length = n := hv; simp at this; omega) w rfl (fun a ha => hK a (by simp [ha])) hw
        exact ⟨m, h1, inf_trans h2 wi⟩
/-- none stands in another -/
theorem mis_in {t K m m' : Txt} (h : Mis t K m) (h' : Mis t K m') (hi : m' <:+: m) : m' = m := by
  obtain ⟨w, c, h1, h2, h3, h4, rfl⟩ := h
  obtain ⟨a, b, e⟩ := hi
  have no := mis_no h'
  rcases List.eq_nil_or_concat b with rfl | ⟨b', x, eb⟩
  · cases a with
    | nil => simpa using e
    | cons y a =>
      exfalso
      refine no (inf_trans ⟨a, [], ?_⟩ h4)
      rw [← e]
      simp
  · have eb : b = b' ++ [x] := by rw [eb]; simp
    subst eb
    exfalso
    have : a ++ m' ++ b' = w := by
      have e2 : (a ++ m' ++ b') ++ [x] = w ++ [c] := by rw [← e]; simp
      exact (List.append_inj' e2 rfl).1
    exact no (inf_trans ⟨a, b', this⟩ h1)
theorem names_ne {t K : Txt} (hK : Kinds K) : names t K ≠ [] := fun z => by
  have hp := hK.pos
  have hin : K[0]'(by omega) ∈ K := List.getElem_mem _
  obtain ⟨m, h1, _⟩ := mis_ex (t := t) (K := K) (t.length + 1) (List.replicate (t.length + 1) (K[0]'(by omega))) (by simp) (fun a ha => by rw [(List.mem_replicate.mp ha).2]; exact hin) (fun h => by
    have := h.length_le
    simp at this
    omega)
  have := name_mem.mpr h1
  rw [z] at this
  cases this
theorem due_len {t : Txt} (ht : t.length ≤ 40) : (dueS t).length ≤ 1681 := Nat.le_trans dueN_len (by
  have : (t.length + 1) * (t.length + 1) ≤ 41 * 41 := Nat.mul_le_mul (by omega) (by omega)
  omega)
theorem lacking_ok {K t : Txt} (hK : Kinds K) (ht : t.length ≤ 40) (h2 : ∀ a ∈ t, a ∈ K) (ω : Store) : D_lacking [(.str t, .fz), (.str K, .fz)] ω = .ok (.lst ((rows t K).map encR), .own) ω := by
  have hf := hK.few
  have hdl := due_len ht
  have dn : (dueS t).Nodup := (dueS_pair t).imp fun {a b} h e => by subst e; exact ltW_irrefl _ h
  have e1 := need_kinds_ok hK ω
  have e2 : D_need_word [(.str t, .fz), (.str K, .fz), (.int 40, .fz)] ω = .ok (.non, .fz) ω := need_word_ok (k := 40) ht (by omega) h2 ω
  have e3 := stretches_ok (t := t) (ω := ω) (by omega)
  let f : Txt → PV := fun w => .int (find t w)
  have d0 : dispV [] = some (.dic (txD f [])) := rfl
  have gw : ∀ {i : Nat} {x : PV}, ((dueS t).map PV.str)[i]? = some x → ∃ w, (dueS t)[i]? = some w ∧ x = .str w := fun {i x} h => by
    rw [List.getElem?_map, Option.map_eq_some_iff] at h
    obtain ⟨w, h1, h2⟩ := h
    exact ⟨w, h1, h2.symm⟩
  refine den_out (Q := fun r => r = .ok (.lst ((rows t K).map encR), .own) ω) (by rfl) ?_
  unfold i_lacking
  simp only [pv0, pv1, pv2, pv3, pv4, pv5, pv6, pv7, pv8, pv9, pv10, pv11, eq_self, beq_self_eq_true, reduceIte, reduceCtorEq, Nat.reduceAdd, Nat.reduceSub, Nat.reduceBNe, Nat.reduceBEq, Nat.reduceEqDiff, e1, e2, d0, e3]
  refine for_st (fun i ρ => ∃ o, ρ = [some (.str t, .fz), some (.str K, .fz), some (.dic (txD f ((dueS t).take i)), .own), o, none, none, none]) ⟨none, rfl⟩ ?_ ?_
  · rintro i x ρ hx ⟨o, rfl⟩
    obtain ⟨w, hw, rfl⟩ := gw hx
    refine ⟨_, as_1, ?_⟩
    have hni : w ∉ (dueS t).take i := fun z => by
      obtain ⟨j, hj⟩ := List.getElem?_of_mem z
      have hji : j < i := by
        have := (List.getElem?_eq_some_iff.mp hj).1
        rw [List.length_take] at this
        omega
      rw [List.getElem?_take_of_lt hji] at hj
      have hjl := (List.getElem?_eq_some_iff.mp hj).1
      have hil := (List.getElem?_eq_some_iff.mp hw).1
      have := (List.getElem?_inj hjl dn).mp (hj.trans hw.symm)
      omega
    have es : storeV (.dic (txD f ((dueS t).take i))) (.str w) (.int (find t w)) = some (.dic (txD f ((dueS t).take (i + 1)))) := by
      have := txD_store (f := f) hni (by rw [List.length_take, line]; omega)
      rw [List.take_add_one, hw]
      exact this
    unfold w0_lacking
    simp only [pv0, pv1, pv2, pv3, pv4, pv5, pv6, pv7, pv8, pv9, pv10, pv11, eq_self, beq_self_eq_true, reduceIte, reduceCtorEq, Nat.reduceAdd, Nat.reduceSub, Nat.reduceBNe, Nat.reduceBEq, Nat.reduceEqDiff, bmOn, es]
    exact ⟨_, rfl⟩
  · rintro ρ ⟨o, rfl⟩
    rw [List.length_map, List.take_length]
    simp only [pv0, pv1, pv2, pv3, pv4, pv5, pv6, pv7, pv8, pv9, pv10, pv11, eq_self, beq_self_eq_true, reduceIte, reduceCtorEq, Nat.reduceAdd, Nat.reduceSub, Nat.reduceBNe, Nat.reduceBEq, Nat.reduceEqDiff, e3]
    refine for_st (fun i ρ => ∃ o3 o5 o6, ρ = [some (.str t, .fz), some (.str K, .fz), some (.dic (txD f (dueS t)), .own), o3, some (.lst ((rowsN t K i).map encR), .own), o5, o6]) ⟨o, none, none, rfl⟩ ?_ ?_
    · rintro i x ρ hx ⟨o3, o5, o6, rfl⟩
      obtain ⟨w, hw, rfl⟩ := gw hx
      have hil := (List.getElem?_eq_some_iff.mp hw).1
      have hwm : w ∈ dueS t := List.mem_of_getElem? hw
      have hwl : w.length ≤ 40 := Nat.le_trans (due_infix.mp hwm).length_le ht
      have hrl := rowsN_len (t := t) (K := K) (n := i)
      have hik : i * K.length ≤ 1681 * 4 := Nat.mul_le_mul (by omega) hf
      refine ⟨_, as_1, ?_⟩
      unfold w2_lacking
      simp only [pv0, pv1, pv2, pv3, pv4, pv5, pv6, pv7, pv8, pv9, pv10, pv11, eq_self, beq_self_eq_true, reduceIte, reduceCtorEq, Nat.reduceAdd, Nat.reduceSub, Nat.reduceBNe, Nat.reduceBEq, Nat.reduceEqDiff]
      refine for_st (fun j ρ => ∃ o5 o6, ρ = [some (.str t, .fz), some (.str K, .fz), some (.dic (txD f (dueS t)), .own), some (.str w, .fz), some (.lst ((rowsN t K i ++ (K.take j).filterMap (row1 t w)).map encR), .own), o5, o6]) ⟨o5, o6, by rw [List.take_zero, List.filterMap_nil, List.append_nil]⟩ ?_ ?_
      · rintro j x ρ hx ⟨o5, o6, rfl⟩
        unfold charsOf at hx
        rw [List.getElem?_map, Option.map_eq_some_iff] at hx
        obtain ⟨c, hc, rfl⟩ := hx
        refine ⟨_, as_1, ?_⟩
        have ad : binV .add (.str w) (.str [c]) = some (.str (w ++ [c])) := add_str (by rw [line, List.length_singleton]; omega)
        have i1 := txD_in (f := f) (us := dueS t) (w := w ++ [c])
        have i2 := txD_in (f := f) (us := dueS t) (w := (w ++ [c]).drop 1)
        have s1 : slcV (.str (w ++ [c])) (.int 1) .non = some (.str ((w ++ [c]).drop 1)) := slc_from (w ++ [c]) 1
        have tk : (K.take (j + 1)).filterMap (row1 t w) = (K.take j).filterMap (row1 t w) ++ (row1 t w c).toList := by
          rw [List.take_add_one, hc, List.filterMap_append]
          congr 1
        have fl : ((K.take j).filterMap (row1 t w)).length ≤ 4 := Nat.le_trans (List.length_filterMap_le ..) (by rw [List.length_take]; omega)
        unfold w1_lacking
        by_cases h1 : w ++ [c] ∈ dueS t
        · have r0 : row1 t w c = none := by unfold row1; rw [if_neg fun z => z.1 h1]
          rw [tk, r0, Option.toList_none, List.append_nil]
          simp only [pv0, pv1, pv2, pv3, pv4, pv5, pv6, pv7, pv8, pv9, pv10, pv11, eq_self, beq_self_eq_true, reduceIte, reduceCtorEq, Nat.reduceAdd, Nat.reduceSub, Nat.reduceBNe, Nat.reduceBEq, Nat.reduceEqDiff, ad, i1, h1, decide_true]
          exact ⟨_, _, rfl⟩
        · by_cases h2 : (w ++ [c]).drop 1 ∈ dueS t
          · have r0 : row1 t w c = some (w ++ [c], find t w, find t ((w ++ [c]).drop 1)) := by unfold row1; rw [if_pos ⟨h1, h2⟩]
            have x1 : idxV (.dic (txD f (dueS t))) (.str w) = some (.int (find t w)) := txD_idx (f := f) hwm
            have x2 : idxV (.dic (txD f (dueS t))) (.str ((w ++ [c]).drop 1)) = some (.int (find t ((w ++ [c]).drop 1))) := txD_idx (f := f) h2
            have ll : ((rowsN t K i ++ (K.take j).filterMap (row1 t w)).map encR).length < line := by
              rw [List.length_map, List.length_append, line]
              omega
            rw [tk, r0]
            simp only [pv0, pv1, pv2, pv3, pv4, pv5, pv6, pv7, pv8, pv9, pv10, pv11, eq_self, beq_self_eq_true, reduceIte, reduceCtorEq, Nat.reduceAdd, Nat.reduceSub, Nat.reduceBNe, Nat.reduceBEq, Nat.reduceEqDiff, ad, i1, h1, s1, i2, h2, decide_true, decide_false, x1, x2, xApp2_l ll, ll]
            exact ⟨_, _, by rw [← List.append_assoc, List.map_append (l₂ := Option.toList _)]; rfl⟩
          · have r0 : row1 t w c = none := by unfold row1; rw [if_neg fun z => h2 z.2]
            rw [tk, r0, Option.toList_none, List.append_nil]
            simp only [pv0, pv1, pv2, pv3, pv4, pv5, pv6, pv7, pv8, pv9, pv10, pv11, eq_self, beq_self_eq_true, reduceIte, reduceCtorEq, Nat.reduceAdd, Nat.reduceSub, Nat.reduceBNe, Nat.reduceBEq, Nat.reduceEqDiff, ad, i1, h1, s1, i2, h2, decide_true, decide_false]
            exact ⟨_, _, rfl⟩
      · rintro ρ ⟨o5, o6, rfl⟩
        have : (charsOf K).length = K.length := by rw [charsOf, List.length_map]
        rw [this, List.take_length]
        simp only [pv0, pv1, pv2, pv3, pv4, pv5, pv6, pv7, pv8, pv9, pv10, pv11, eq_self, beq_self_eq_true, reduceIte, reduceCtorEq, Nat.reduceAdd, Nat.reduceSub, Nat.reduceBNe, Nat.reduceBEq, Nat.reduceEqDiff]
        rw [rowsN_succ hw]
        exact ⟨_, _, _, rfl⟩
    · rintro ρ ⟨o3, o5, o6, rfl⟩
      rw [List.length_map]
      simp only [pv0, pv1, pv2, pv3, pv4, pv5, pv6, pv7, pv8, pv9, pv10, pv11, eq_self, beq_self_eq_true, reduceIte, reduceCtorEq, Nat.reduceAdd, Nat.reduceSub, Nat.reduceBNe, Nat.reduceBEq, Nat.reduceEqDiff]
      unfold rowsN
      rw [List.take_length]
      rfl
end PVL.PG

/-! PVL.FL: the texts of the laws of missing words. -/
namespace PVL.FL
open PVL PVL.C PVL.Y
noncomputable def tl_text : Ss := (.cons (.ifs (.and (.val (.cmp .eq (.bin .mod (.bin .fdiv (.var 3) (.con (.int 10000))) (.con (.int 3))) (.con (.int 0)))) (.val (.cmp .gt (.var 4) (.con (.int 0))))) (.cons (.set 5 (.slc (.bin .mul (.slc (.var 5) (.con .non) (.bin .add (.con (.int 1)) (.bin .mod (.bin .fdiv (.var 3) (.con (.int 30000))) (.con (.int 6))))) (.var 4)) (.con .non) (.var 4))) (.cons (.set 6 (.bin .mod (.bin .fdiv (.var 3) (.con (.int 180000))) (.var 4))) (.cons (.set 7 (.idx (.var 2) (.bin .mod (.bin .fdiv (.var 3) (.con (.int 7200000))) (.bf1 .len (.var 2))))) (.cons (.set 5 (.bin .add (.bin .add (.slc (.var 5) (.con .non) (.var 6)) (.var 7)) (.slc (.var 5) (.bin .add (.var 6) (.con (.int 1))) (.con .non)))) .nil)))) .nil) (.cons (.retV 5) .nil))
noncomputable def i_text : Ss := (.cons (.set 3 (.call mixed (.cons (.call cell (.cons (.var 0) (.cons (.var 1) .nil))) (.cons (.con (.int 1)) .nil)))) (.cons (.set 4 (.bin .mod (.var 3) (.con (.int 13)))) (.cons (.ifs (.val (.cmp .eq (.bin .mod (.bin .fdiv (.var 3) (.con (.int 13))) (.con (.int 8))) (.con (.int 0)))) (.cons (.set 4 (.bin .mod (.bin .fdiv (.var 3) (.con (.int 104))) (.con (.int 41)))) .nil) .nil) (.cons (.set 5 (.call letters (.cons (.call cell (.cons (.var 0) (.cons (.bin .add (.var 1) (.con (.int 1))) .nil))) (.cons (.var 2) (.cons (.var 4) (.cons (.cmp .eq (.bin .mod (.bin .fdiv (.var 3) (.con (.int 5000))) (.con (.int 2))) (.con (.int 0))) .nil)))))) tl_text))))
noncomputable def D_text : Fn := den 3 8 i_text
theorem at_K {K : Txt} (hK : Kinds K) (q : Int) : ∃ a ∈ K, ∃ j : Nat, binV .mod (.int q) (.int (K.length : Int)) = some (.int (j : Int)) ∧ idxV (.str K) (.int (j : Int)) = some (.str [a]) := by
  have hpos := hK.pos
  obtain ⟨j, hj, ej⟩ := mod_nat (i := q) (n := K.length) (by omega)
  exact ⟨K[j], List.getElem_mem _, j, by rw [binV_mod (by omega), ej], idx_str (by simp [hj])⟩
theorem text_ok (ns : List Int) (k : Nat) (hk : k < 2 ^ 50) {K : Txt} (hK : Kinds K) (ω : Store) : ∃ w : Txt, w.length ≤ 40 ∧ (∀ a ∈ w, a ∈ K) ∧ D_text [(.lst (ns.map .int), .fz), (.int (k : Int), .fz), (.str K, .fz)] ω = .ok (.str w, .fz) ω := by
  obtain ⟨c, e1⟩ := C.cell_at ns k (by omega) (k : Int) rfl ω
  obtain ⟨c1, e2⟩ := C.cell_at ns (k + 1) (by omega) ((k : Int) + 1) (by omega) ω
  obtain ⟨s, _, _, e3⟩ := C.mixed_ok c 1 (by decide) .fz .fz ω
  have ln : bfV .len [.str K] = some (.int (K.length : Int)) := rfl
  have hpos : 0 < K.length := hK.pos
  obtain ⟨n1, hn1, en1⟩ := mod_nat (i := s) (n := 13) (by decide)
  have g1 : binV .mod (.int s) (.int 13) = some (.int (n1 : Int)) := by rw [← en1]; exact binV_mod (by decide)
  have f1 : binV .fdiv (.int s) (.int 13) = some (.int (s / 13)) := binV_fdiv (by decide) (by omega)
  obtain ⟨d, hd, ed⟩ := mod_nat (i := s / 13) (n := 8) (by decide)
  have g2 : binV .mod (.int (s / 13)) (.int 8) = some (.int (d : Int)) := by rw [← ed]; exact binV_mod (by decide)
  have f2 : binV .fdiv (.int s) (.int 104) = some (.int (s / 104)) := binV_fdiv (by decide) (by omega)
  obtain ⟨n2, hn2, en2⟩ := mod_nat (i := s / 104) (n := 41) (by decide)
  have g3 : binV .mod (.int (s / 104)) (.int 41) = some (.int (n2 : Int)) := by rw [← en2]; exact binV_mod (by decide)
  have f3 : binV .fdiv (.int s) (.int 5000) = some (.int (s / 5000)) := binV_fdiv (by decide) (by omega)
  have g4 : binV .mod (.int (s / 5000)) (.int 2) = some (.int (s / 5000 % 2)) := binV_mod (by decide)
  have f4 : binV .fdiv (.int s) (.int 10000) = some (.int (s / 10000)) := binV_fdiv (by decide) (by omega)
  obtain ⟨u, hu, eu⟩ := mod_nat (i := s / 10000) (n := 3) (by decide)
  have g5 : binV .mod (.int (s / 10000)) (.int 3) = some (.int (u : Int)) := by rw [← eu]; exact binV_mod (by decide)
  have f5 : binV .fdiv (.int s) (.int 30000) = some (.int (s / 30000)) := binV_fdiv (by decide) (by omega)
  obtain ⟨q, hq, eq⟩ := mod_nat (i := s / 30000) (n := 6) (by decide)
  have g6 : binV .mod (.int (s / 30000)) (.int 6) = some (.int (q : Int)) := by rw [← eq]; exact binV_mod (by decide)
  have f6 : binV .fdiv (.int s) (.int 180000) = some (.int (s / 180000)) := binV_fdiv (by decide) (by omega)
  have f7 : binV .fdiv (.int s) (.int 7200000) = some (.int (s / 7200000)) := binV_fdiv (by decide) (by omega)
  obtain ⟨a, ha, j, ej, eix⟩ := at_K hK (s / 7200000)
  -- behind the letters
  have tail : ∀ n : Nat, n ≤ 40 → ∀ w : Txt, w.length = n → (∀ x ∈ w, x ∈ K) → F.Out (fun r => ∃ w : Txt, w.length ≤ 40 ∧ (∀ a ∈ w, a ∈ K) ∧ r = .ok (.str w, .fz) ω)
      (exs tl_text
        [some (.lst (ns.map .int), .fz), some (.int (k : Int), .fz), some (.str K, .fz), some (.int s, .fz), some (.int (n : Int), .fz), some (.str w, .fz), none, none] ω) := fun n hn w hw hwK => by
    unfold tl_text
    by_cases hu0 : (u : Int) = 0
    · by_cases hn0 : (0 : Int) < (n : Int)
      · have hnp : 0 < n := by omega
        obtain ⟨p, hp, ep⟩ := mod_nat (i := s / 180000) hnp
        have g7 : binV .mod (.int (s / 180000)) (.int (n : Int)) = some (.int (p : Int)) := by rw [binV_mod (by omega), ep]
        have c3 : 1 + (q : Int) = ((q + 1 : Nat) : Int) := by omega
        have t3 := slc_to w (q + 1)
        have m3 : binV .mul (.str (w.take (q + 1))) (.int (n : Int)) = some (.str (List.replicate n (w.take (q + 1))).flatten) := mul_str (by
          rw [List.length_take, line]
          have : min (q + 1) w.length * n ≤ 1000 * 1000 := Nat.mul_le_mul (by omega) (by omega)
          omega) (by omega)
        have hl : (List.replicate n (w.take (q + 1))).flatten.length = n * min (q + 1) w.length := by simp
        have t4 := slc_to (List.replicate n (w.take (q + 1))).flatten n
        have hv : ((List.replicate n (w.take (q + 1))).flatten.take n).length = n := by
          rw [List.length_take, hl, Nat.min_eq_left]
          exact Nat.le_mul_of_pos_right n (by omega)
        have hvK : ∀ a ∈ (List.replicate n (w.take (q + 1))).flatten.take n, a ∈ K := fun a ha => by
          have := List.mem_of_mem_take ha
          obtain ⟨v, hv, hav⟩ := List.mem_flatten.mp this
          rw [(List.mem_replicate.mp hv).2] at hav
          exact hwK a (List.mem_of_mem_take hav)
        generalize (List.replicate n (w.take (q + 1))).flatten.take n = v at t4 hv hvK
        have t5 := slc_to v p
        have c6 : (p : Int) + 1 = ((p + 1 : Nat) : Int) := by omega
        have t6 := slc_from v (p + 1)
        have a1 : binV .add (.str (v.take p)) (.str [a]) = some (.str (v.take p ++ [a])) := add_str (by rw [line, List.length_take, List.length_singleton]; omega)
        have a2 : binV .add (.str (v.take p ++ [a])) (.str (v.drop (p + 1))) = some (.str (v.take p ++ [a] ++ v.drop (p + 1))) := add_str (by simp only [line, List.length_append, List.length_take, List.length_drop, List.length_singleton]; omega)
        simp only [pv0, pv1, pv2, pv3, pv4, pv5, pv6, pv7, pv8, pv9, pv10, pv11, eq_self, beq_self_eq_true, reduceIte, reduceCtorEq, Nat.reduceAdd, Nat.reduceSub, Nat.reduceBNe, Nat.reduceBEq, Nat.reduceEqDiff, f4, g5, hu0, hn0, f5, g6, c3, t3, m3, t4, f6, g7, f7, ln, ej, eix, t5, a1, c6, t6, a2]
        refine ⟨_, ?_, ?_, rfl⟩
        · simp only [List.length_append, List.length_take, List.length_drop, List.length_singleton]; omega
        · intro x hx
          rcases List.mem_append.mp hx with hx | hx
          · rcases List.mem_append.mp hx with hx | hx
            · exact hvK x (List.mem_of_mem_take hx)
            · rw [List.mem_singleton.mp hx]; exact ha
          · exact hvK x (List.mem_of_mem_drop hx)
      · simp only [pv0, pv1, pv2, pv3, pv4, pv5, pv6, pv7, pv8, pv9, pv10, pv11, eq_self, beq_self_eq_true, reduceIte, reduceCtorEq, Nat.reduceAdd, Nat.reduceSub, Nat.reduceBNe, Nat.reduceBEq, Nat.reduceEqDiff, f4, g5, hu0, hn0]
        exact ⟨w, by omega, hwK, rfl⟩
    · simp only [pv0, pv1, pv2, pv3, pv4, pv5, pv6, pv7, pv8, pv9, pv10, pv11, eq_self, beq_self_eq_true, reduceIte, reduceCtorEq, Nat.reduceAdd, Nat.reduceSub, Nat.reduceBNe, Nat.reduceBEq, Nat.reduceEqDiff, f4, g5, hu0]
      exact ⟨w, by omega, hwK, rfl⟩
  refine den_out (Q := fun r => ∃ w : Txt, w.length ≤ 40 ∧ (∀ a ∈ w, a ∈ K) ∧ r = .ok (.str w, .fz) ω) (by rfl) ?_
  unfold i_text
  by_cases h : (d : Int) = 0
  · obtain ⟨w, hw, hwK, e4⟩ := C.letters_ok c1 hK n2 (by omega) (decide (s / 5000 % 2 = 0)) .fz .fz .fz ω
    have HT := tail n2 (by omega) w hw hwK
    simp only [pv0, pv1, pv2, pv3, pv4, pv5, pv6, pv7, pv8, pv9, pv10, pv11, eq_self, beq_self_eq_true, reduceIte, reduceCtorEq, Nat.reduceAdd, Nat.reduceSub, Nat.reduceBNe, Nat.reduceBEq, Nat.reduceEqDiff, e1, e3, g1, f1, g2, h, f2, g3, e2, f3, g4, e4]
    exact HT
  · obtain ⟨w, hw, hwK, e4⟩ := C.letters_ok c1 hK n1 (by omega) (decide (s / 5000 % 2 = 0)) .fz .fz .fz ω
    have HT := tail n1 (by omega) w hw hwK
    simp only [pv0, pv1, pv2, pv3, pv4, pv5, pv6, pv7, pv8, pv9, pv10, pv11, eq_self, beq_self_eq_true, reduceIte, reduceCtorEq, Nat.reduceAdd, Nat.reduceSub, Nat.reduceBNe, Nat.reduceBEq, Nat.reduceEqDiff, e1, e3, g1, f1, g2, h, e2, f3, g4, e4]
    exact HT
end PVL.FL

/-! PVL.FW: words that the laws of missing words draw. -/
namespace PVL.FWd
open PVL PVL.C PVL.Y PVL.PG
noncomputable def i_word : Ss := (.cons (.set 3 (.bin .mod (.var 0) (.con (.int 4)))) (.cons (.set 4 (.bin .mod (.bin .fdiv (.var 0) (.con (.int 4))) (.bin .add (.bf1 .len (.var 1)) (.con (.int 1))))) (.cons (.set 5 (.slc (.var 1) (.var 4) (.bin .add (.var 4) (.bin .mod (.bin .fdiv (.var 0) (.con (.int 164))) (.con (.int 41)))))) (.cons (.set 6 (.bin .fdiv (.var 0) (.con (.int 6724)))) (.cons (.ifs (.val (.cmp .eq (.var 3) (.con (.int 0)))) (.cons (.retV 5) .nil) .nil) (.cons (.ifs (.val (.cmp .eq (.var 3) (.con (.int 1)))) (.cons (.ret (.bin .add (.var 5) (.call C.letters (.cons (.bin .fdiv (.var 6) (.con (.int 5))) (.cons (.var 2) (.cons (.bin .mod (.var 6) (.con (.int 5))) (.cons (.con (.bl true)) .nil))))))) .nil) .nil) (.cons (.ifs (.val (.cmp .eq (.var 3) (.con (.int 2)))) (.cons (.ret (.call C.letters (.cons (.bin .fdiv (.var 6) (.con (.int 9))) (.cons (.var 2) (.cons (.bin .mod (.var 6) (.con (.int 9))) (.cons (.con (.bl true)) .nil)))))) .nil) .nil) (.cons (.ret (.slc (.bin .add (.var 5) (.slc (.var 1) (.bin .mod (.var 6) (.bin .add (.bf1 .len (.var 1)) (.con (.int 1)))) (.con .non))) (.con .non) (.con (.int 60)))) .nil))))))))
noncomputable def D_word : Fn := den 3 7 i_word
section
variable {K t : Txt} {ω : Store}
theorem word_ok (hK : Kinds K) (ht : t.length ≤ 40) (htK : ∀ a ∈ t, a ∈ K) (c : Int) : ∃ w : Txt, w.length ≤ 80 ∧ (∀ a ∈ w, a ∈ K) ∧ D_word [(.int c, .fz), (.str t, .fz), (.str K, .fz)] ω = .ok (.str w, .fz) ω := by
  obtain ⟨y, hy, ey⟩ := mod_nat (i := c) (n := 4) (by decide)
  have g1 : binV .mod (.int c) (.int 4) = some (.int (y : Int)) := by rw [← ey]; exact binV_mod (by decide)
  have f1 : binV .fdiv (.int c) (.int 4) = some (.int (c / 4)) := binV_fdiv (by decide) (by omega)
  obtain ⟨s, hs, es⟩ := mod_nat (i := c / 4) (n := t.length + 1) (by omega)
  have g2 : binV .mod (.int (c / 4)) (.int ((t.length : Int) + 1)) = some (.int (s : Int)) := by rw [show (t.length : Int) + 1 = ((t.length + 1 : Nat) : Int) by omega, binV_mod (by omega), es]
  have f2 : binV .fdiv (.int c) (.int 164) = some (.int (c / 164)) := binV_fdiv (by decide) (by omega)
  obtain ⟨n, hn, en⟩ := mod_nat (i := c / 164) (n := 41) (by decide)
  have g3 : binV .mod (.int (c / 164)) (.int 41) = some (.int (n : Int)) := by rw [← en]; exact binV_mod (by decide)
  have f3 : binV .fdiv (.int c) (.int 6724) = some (.int (c / 6724)) := binV_fdiv (by decide) (by omega)
  have sl : slcV (.str t) (.int (s : Int)) (.int ((s : Int) + (n : Int))) = some (.str (cutT t s n)) := by
    rw [show (s : Int) + (n : Int) = ((s + n : Nat) : Int) by omega, slc_str, Nat.add_sub_cancel_left]
    rfl
  have hu : (cutT t s n).length ≤ 40 := by unfold cutT; rw [List.length_take, List.length_drop]; omega
  have huK : ∀ a ∈ cutT t s n, a ∈ K := fun a ha => htK a (List.mem_of_mem_drop (List.mem_of_mem_take ha))
  generalize cutT t s n = u at sl hu huK
  generalize c / 6724 = l at f3
  refine den_out (Q := fun r => ∃ w : Txt, w.length ≤ 80 ∧ (∀ a ∈ w, a ∈ K) ∧ r = .ok (.str w, .fz) ω) (by rfl) ?_
  unfold i_word
  by_cases y0 : (y : Int) = 0
  · simp only [pv0, pv1, pv2, pv3, pv4, pv5, pv6, pv7, pv8, pv9, pv10, pv11, eq_self, beq_self_eq_true, reduceIte, reduceCtorEq, Nat.reduceAdd, Nat.reduceSub, Nat.reduceBNe, Nat.reduceBEq, Nat.reduceEqDiff, g1, f1, g2, f2, g3, sl, f3, y0]
    exact ⟨u, by omega, huK, rfl⟩
  by_cases y1 : (y : Int) = 1
  · have n0 : ¬ (1 : Int) = 0 := by decide
    have f4 : binV .fdiv (.int l) (.int 5) = some (.int (l / 5)) := binV_fdiv (by decide) (by omega)
    obtain ⟨m, hm, em⟩ := mod_nat (i := l) (n := 5) (by decide)
    have g4 : binV .mod (.int l) (.int 5) = some (.int (m : Int)) := by rw [← em]; exact binV_mod (by decide)
    obtain ⟨v, hv, hvK, ev⟩ := C.letters_ok (l / 5) hK m (by omega) true .fz .fz .fz ω
    have ad : binV .add (.str u) (.str v) = some (.str (u ++ v)) := add_str (by rw [line]; omega)
    simp only [pv0, pv1, pv2, pv3, pv4, pv5, pv6, pv7, pv8, pv9, pv10, pv11, eq_self, beq_self_eq_true, reduceIte, reduceCtorEq, Nat.reduceAdd, Nat.reduceSub, Nat.reduceBNe, Nat.reduceBEq, Nat.reduceEqDiff, g1, f1, g2, f2, g3, sl, f3, y0, y1, n0, f4, g4, ev, ad]
    exact ⟨u ++ v, by rw [List.length_append]; omega, fun a ha => (List.mem_append.mp ha).elim (huK a) (hvK a), rfl⟩
  by_cases y2 : (y : Int) = 2
  · have n0 : ¬ (2 : Int) = 0 := by decide
    have n1 : ¬ (2 : Int) = 1 := by decide
    have f4 : binV .fdiv (.int l) (.int 9) = some (.int (l / 9)) := binV_fdiv (by decide) (by omega)
    obtain ⟨m, hm, em⟩ := mod_nat (i := l) (n := 9) (by decide)
    have g4 : binV .mod (.int l) (.int 9) = some (.int (m : Int)) := by rw [← em]; exact binV_mod (by decide)
    obtain ⟨v, hv, hvK, ev⟩ := C.letters_ok (l / 9) hK m (by omega) true .fz .fz .fz ω
    simp only [pv0, pv1, pv2, pv3, pv4, pv5, pv6, pv7, pv8, pv9, pv10, pv11, eq_self, beq_self_eq_true, reduceIte, reduceCtorEq, Nat.reduceAdd, Nat.reduceSub, Nat.reduceBNe, Nat.reduceBEq, Nat.reduceEqDiff, g1, f1, g2, f2, g3, sl, f3, y2, n0, n1, f4, g4, ev]
    exact ⟨v, by omega, hvK, rfl⟩
  · obtain ⟨s2, hs2, es2⟩ := mod_nat (i := l) (n := t.length + 1) (by omega)
    have g4 : binV .mod (.int l) (.int ((t.length : Int) + 1)) = some (.int (s2 : Int)) := by rw [show (t.length : Int) + 1 = ((t.length + 1 : Nat) : Int) by omega, binV_mod (by omega), es2]
    have s3 := slc_from t s2
    have ad : binV .add (.str u) (.str (t.drop s2)) = some (.str (u ++ t.drop s2)) := add_str (by rw [line, List.length_drop]; omega)
    have s4 : slcV (.str (u ++ t.drop s2)) .non (.int 60) = some (.str ((u ++ t.drop s2).take 60)) := slc_to (u ++ t.drop s2) 60
    simp only [pv0, pv1, pv2, pv3, pv4, pv5, pv6, pv7, pv8, pv9, pv10, pv11, eq_self, beq_self_eq_true, reduceIte, reduceCtorEq, Nat.reduceAdd, Nat.reduceSub, Nat.reduceBNe, Nat.reduceBEq, Nat.reduceEqDiff, g1, f1, g2, f2, g3, sl, f3, y0, y1, y2, g4, s3, ad, s4]
    exact ⟨_, by rw [List.length_take]; omega, fun a ha => (List.mem_append.mp (List.mem_of_mem_take ha)).elim (huK a) (fun z => htK a (List.mem_of_mem_drop z)), rfl⟩
theorem find_inf {t w : Txt} : (0 : Int) ≤ find t w ↔ w <:+: t := by
  have := isIn_infix (w := w) (t := t)
  unfold isIn at this
  rw [decide_eq_true_eq] at this
  exact this
/-- a shorter word's place -/
theorem find_cut {t w : Txt} (h : w <:+: t) : ∃ p : Nat, find t w = (p : Int) ∧ (t.drop p).take w.length = w := by
  rcases find_std t w with ⟨e, _⟩ | ⟨p, e, s, _⟩
  · have := find_inf.mpr h
    omega
  · exact ⟨p, e, (std_iff.mp s).2⟩
end
end PVL.FWd

/-! PVL.FT: things that are no words, no kinds. -/
namespace PVL.FT
open PVL PVL.C PVL.Y PVL.FK
noncomputable def i_no_kinds : Ss := (.cons (.set 2 (.lst (.cons (.con (.str [])) (.cons (.bin .mul (.idx (.var 0) (.con (.int 0))) (.con (.int 2))) (.cons (.con (.str [98, 97])) (.cons (.con (.str [97, 98, 99, 100, 101])) (.cons (.bm .upper (.var 0) .nil) (.cons (.bin .add (.idx (.var 0) (.con (.int 0))) (.con (.str [32]))) (.cons (.con (.str [49])) (.cons (.con .non) (.cons (.con (.int 5)) (.cons (.con (.bl true)) (.cons (.lst (.cons (.idx (.var 0) (.con (.int 0))) .nil)) (.cons (.dct .nil) (.cons (.tup (.cons (.con (.str [97])) .nil)) .nil))))))))))))))) (.cons (.ret (.idx (.var 2) (.bin .mod (.var 1) (.con (.int 13))))) .nil))
noncomputable def D_no_kinds : Fn := den 2 3 i_no_kinds
noncomputable def e0_bad : E := (.var 5)
noncomputable def t1_bad : T := (.val (.cmp .notin (.var 5) (.var 0)))
noncomputable def i_bad : Ss := (.cons (.set 3 (.idx (.comp e0_bad [5] (.val (.con (.str [97, 98, 99, 100, 101]))) t1_bad) (.con (.int 0)))) (.cons (.frz [3] (.set 4 (.lst (.cons (.bin .add (.bin .mul (.idx (.var 0) (.con (.int 0))) (.var 1)) (.idx (.var 0) (.con (.int 0)))) (.cons (.var 3) (.cons (.bin .add (.bin .add (.idx (.var 0) (.con (.int 0))) (.var 3)) (.idx (.var 0) (.con (.int 0)))) (.cons (.bm .upper (.idx (.var 0) (.con (.int 0))) .nil) (.cons (.con (.str [32])) (.cons (.bin .add (.idx (.var 0) (.con (.int 0))) (.con (.str [32]))) (.cons (.con (.str [63])) .nil)))))))))) (.cons (.set 4 (.bin .add (.var 4) (.lst (.cons (.con .non) (.cons (.con (.int 5)) (.cons (.con (.bl true)) (.cons (.con (.int 0)) (.cons (.lst .nil) (.cons (.lst (.cons (.idx (.var 0) (.con (.int 0))) .nil)) (.cons (.tup (.cons (.idx (.var 0) (.con (.int 0))) .nil)) (.cons (.dct .nil) (.cons (.dct (.cons (.idx (.var 0) (.con (.int 0))) (.cons (.idx (.var 0) (.con (.int 0))) .nil))) .nil)))))))))))) (.cons (.ret (.idx (.var 4) (.bin .mod (.var 2) (.con (.int 16))))) .nil))))
noncomputable def D_bad : Fn := den 3 6 i_bad
def isB : PV → Bool
  | .bl _ => true
  | _ => false
structure Odd (x : PV) : Prop where
  th : Thing x
  tb : ∀ ω, isTy ω x .bool = some (isB x)
theorem odd_str {s : Txt} (h : s.length ≤ 1000) : Odd (.str s) := ⟨th_str h, fun _ => rfl⟩
theorem odd_int (i : Int) : Odd (.int i) := ⟨th_int i, fun _ => rfl⟩
theorem odd_bl (i : Bool) : Odd (.bl i) := ⟨th_bl i, fun _ => rfl⟩
theorem odd_non : Odd .non := ⟨th_non, fun _ => rfl⟩
theorem odd_lst0 : Odd (.lst []) := ⟨th_chars [], fun _ => rfl⟩
theorem odd_one (s : Txt) : Odd (.lst [.str s]) := ⟨th_one s, fun _ => rfl⟩
theorem odd_tup (s : Txt) : Odd (.tup (charsOf s)) := ⟨th_tup s, fun _ => rfl⟩
theorem odd_dic (a b : Txt) : Odd (.dic [(.str a, .str b)]) := ⟨th_dic a b, fun _ => rfl⟩
theorem odd_dic0 : Odd (.dic []) := ⟨⟨tell_dic0, fun t e => by (cases e), rfl⟩, fun _ => rfl⟩
theorem mod_ex' (q : Int) (n : Nat) (h : 0 < n) (h2 : n < 1000000) {N : Int} (e : N = (n : Int)) : ∃ j : Nat, j < n ∧ binV .mod (.int q) (.int N) = some (.int (j : Int)) := by
  subst e
  obtain ⟨j, hj, ej⟩ := mod_nat (i := q) h
  exact ⟨j, hj, by rw [binV_mod (by omega), ej]⟩
theorem fdv (q : Int) (n : Nat) (h : 0 < n) (h2 : n < 1000000000) {N : Int} (e : N = (n : Int)) : binV .fdiv (.int q) (.int N) = some (.int (q / (n : Int))) := by
  subst e; exact binV_fdiv (by omega) (by omega)
theorem odds_head {K : Txt} : ∀ {t : Txt}, (∃ a ∈ t, a ∉ K) → ∃ d ∈ t, d ∉ K ∧ ∃ r, odds K t = .str [d] :: r
  | [], h => by obtain ⟨a, ha, _⟩ := h; cases ha
  | b :: t, h => by
    unfold odds
    rw [List.filterMap_cons]
    by_cases q : b ∈ K
    · rw [if_pos q]
      obtain ⟨a, ha, hn⟩ := h
      have : ∃ a ∈ t, a ∉ K := ⟨a, (List.mem_cons.mp ha).elim (fun z => absurd (z ▸ q) hn) id, hn⟩
      obtain ⟨d, hd, h2, r, e⟩ := odds_head this
      exact ⟨d, List.mem_cons_of_mem _ hd, h2, r, e⟩
    · rw [if_neg q]
      exact ⟨b, List.mem_cons_self .., q, _, rfl⟩
section
variable {K : Txt} {ω : Store}
theorem few_not (hK : Kinds K) : ∃ a ∈ ([97, 98, 99, 100, 101] : Txt), a ∉ K := by
  refine Classical.byContradiction fun z => ?_
  have : ([97, 98, 99, 100, 101] : Txt).length ≤ K.length := List.Nodup.length_le_of_subset (by decide) fun a ha => Classical.byContradiction fun h => z ⟨a, ha, h⟩
  have := hK.few
  simp at *
  omega
theorem word_bad {K s : Txt} {n : Nat} {d : Nat} (h : d ∈ s) (hd : d ∉ K) : wordB K n (.str s) = false := by
  show wordT K n s = false
  unfold wordT
  rw [Bool.and_eq_false_iff]
  right
  rw [List.all_eq_false]
  exact ⟨d, h, by simpa using hd⟩
theorem low_not {d : Nat} (hK : Kinds K) (h : d < 97) : d ∉ K := fun z => by have := (hK.abc d z).1; omega
theorem up_low {a : Nat} (h1 : 97 ≤ a) (h2 : a ≤ 122) : upC a = a - 32 := by unfold upC; rw [if_pos ⟨h1, h2⟩]
theorem bad_ok (hK : Kinds K) (most : Nat) (hm : most ≤ 60) (c : Int) : ∃ x, Odd x ∧ wordB K most x = false ∧ D_bad [(.str K, .fz), (.int (most : Int), .fz), (.int c, .fz)] ω = .ok (x, .fz) ω := by
  refine den_out (Q := fun r => ∃ x, Odd x ∧ wordB K most x = false ∧ r = .ok (x, .fz) ω) (by rfl) ?_
  obtain ⟨d, _, hd, r, er⟩ := odds_head (few_not hK)
  have fc : ∀ ρ : Env, ρ = [some (.str K, .fz), some (.int (most : Int), .fz), some (.int c, .fz), none, none, none] → foldC (cpE e0_bad [5] t1_bad ρ) (charsOf [97, 98, 99, 100, 101]) [] ω = .ok (odds K [97, 98, 99, 100, 101]) ω := fun ρ hρ => comp_chars_o (o := fun a => if a ∈ K then none else some (.str [a])) (fun a ha => by
    subst hρ
    have q := in_chrB a K
    rw [cm_in] at q
    unfold e0_bad t1_bad
    by_cases z : a ∈ K
    · rw [decide_eq_true z] at q
      simp only [pv0, pv1, pv2, pv3, pv4, pv5, pv6, pv7, pv8, pv9, pv10, pv11, eq_self, beq_self_eq_true, reduceIte, reduceCtorEq, Nat.reduceAdd, Nat.reduceSub, Nat.reduceBNe, Nat.reduceBEq, Nat.reduceEqDiff, cv0, q, Option.map_some]
      rw [if_pos z]
    · rw [decide_eq_false z] at q
      simp only [pv0, pv1, pv2, pv3, pv4, pv5, pv6, pv7, pv8, pv9, pv10, pv11, eq_self, beq_self_eq_true, reduceIte, reduceCtorEq, Nat.reduceAdd, Nat.reduceSub, Nat.reduceBNe, Nat.reduceBEq, Nat.reduceEqDiff, cv0, q, Option.map_some]
      rw [if_neg z]) (by decide)
  have fc := fc _ rfl
  rw [er] at fc
  have ix : idxV (.lst (.str [d] :: r)) (.int 0) = some (.str [d]) := idx_lst (i := 0) rfl
  have hp := hK.pos
  obtain ⟨a, haK, i0⟩ : ∃ a ∈ K, idxV (.str K) (.int 0) = some (.str [a]) := ⟨K[0]'(by omega), List.getElem_mem _, idx_str (i := 0) (List.getElem?_eq_getElem _)⟩
  have ha := hK.abc a haK
  have m1 : binV .mul (.str [a]) (.int (most : Int)) = some (.str (List.replicate most [a]).flatten) := mul_str (by simp [line]; omega) (by omega)
  have ad : ∀ a b : Txt, a.length + b.length ≤ 1000 → binV .add (.str a) (.str b) = some (.str (a ++ b)) := fun a b h => add_str (by simp [line]; omega)
  have lr : (List.replicate most [a]).flatten.length = most := by simp
  have a1 := ad (List.replicate most [a]).flatten [a] (by rw [lr]; simp; omega)
  have a2 := ad [a] [d] (by simp)
  have a3 := ad ([a] ++ [d]) [a] (by simp)
  have a4 := ad [a] [32] (by simp)
  have up : bmV .upper (.str [a]) [] = some (.str [a - 32]) := by
    rw [bm_upper (by simp; omega) (by simp)]
    show some (PV.str [upC a]) = _
    rw [up_low ha.1 ha.2]
  have dd : dispV [.str [a], .str [a]] = some (.dic [(.str [a], .str [a])]) := rfl
  have d0 : dispV [] = some (.dic []) := rfl
  have al : binV .add (.lst [.str ((List.replicate most [a]).flatten ++ [a]), .str [d], .str ([a] ++ [d] ++ [a]), .str [a - 32], .str [32], .str ([a] ++ [32]), .str [63]]) (.lst [.non, .int 5, .bl true, .int 0, .lst [], .lst [.str [a]], .tup [.str [a]], .dic [], .dic [(.str [a], .str [a])]]) = some (.lst ([.str ((List.replicate most [a]).flatten ++ [a]), .str [d], .str ([a] ++ [d] ++ [a]), .str [a - 32], .str [32], .str ([a] ++ [32]), .str [63]] ++ [.non, .int 5, .bl true, .int 0, .lst [], .lst [.str [a]], .tup [.str [a]], .dic [], .dic [(.str [a], .str [a])]])) := add_lst (by simp [line])
  obtain ⟨j, hj, ej⟩ := mod_ex' c 16 (by decide) (by decide) (N := 16) rfl
  obtain ⟨x, ⟨h1, h2⟩, ex⟩ := pick (P := fun x => Odd x ∧ wordB K most x = false) (L := [.str ((List.replicate most [a]).flatten ++ [a]), .str [d], .str ([a] ++ [d] ++ [a]), .str [a - 32], .str [32], .str ([a] ++ [32]), .str [63]] ++ [.non, .int 5, .bl true, .int 0, .lst [], .lst [.str [a]], .tup [.str [a]], .dic [], .dic [(.str [a], .str [a])]]) (j := j) (by
    intro x hx
    simp only [List.mem_append, List.mem_cons, List.not_mem_nil, or_false] at hx
    rcases hx with (rfl | rfl | rfl | rfl | rfl | rfl | rfl) | (rfl | rfl | rfl | rfl | rfl | rfl | rfl | rfl | rfl)
    · refine ⟨odd_str (by rw [List.length_append, lr]; simp; omega), ?_⟩
      show wordT K most _ = false
      unfold wordT
      rw [decide_eq_false (by rw [List.length_append, lr]; simp), Bool.false_and]
    · exact ⟨odd_str (by simp), word_bad (d := d) (by simp) hd⟩
    · exact ⟨odd_str (by simp), word_bad (d := d) (by simp) hd⟩
    · exact ⟨odd_str (by simp), word_bad (d := a - 32) (by simp) (low_not hK (by omega))⟩
    · exact ⟨odd_str (by simp), word_bad (d := 32) (by simp) (low_not hK (by omega))⟩
    · exact ⟨odd_str (by simp), word_bad (d := 32) (by simp) (low_not hK (by omega))⟩
    · exact ⟨odd_str (by simp), word_bad (d := 63) (by simp) (low_not hK (by omega))⟩
    · exact ⟨odd_non, rfl⟩
    · exact ⟨odd_int _, rfl⟩
    · exact ⟨odd_bl _, rfl⟩
    · exact ⟨odd_int _, rfl⟩
    · exact ⟨odd_lst0, rfl⟩
    · exact ⟨odd_one _, rfl⟩
    · exact ⟨odd_tup [a], rfl⟩
    · exact ⟨odd_dic0, rfl⟩
    · exact ⟨odd_dic _ _, rfl⟩) (by exact hj)
  unfold i_bad
  simp only [pv0, pv1, pv2, pv3, pv4, pv5, pv6, pv7, pv8, pv9, pv10, pv11, eq_self, beq_self_eq_true, reduceIte, reduceCtorEq, Nat.reduceAdd, Nat.reduceSub, Nat.reduceBNe, Nat.reduceBEq, Nat.reduceEqDiff, fc, ix, i0, m1, a1, a2, a3, up, bmOn, a4, d0, dd, al, ej, ex, FK.mk_fz]
  exact ⟨x, h1, h2, rfl⟩
theorem rise_not {a b : Nat} {s : Txt} (h : ¬ a < b) : kindsB (.str (a :: b :: s)) = false := by
  show kindsT _ = false
  have : decide ((a :: b :: s).Pairwise (· < ·)) = false := decide_eq_false fun z => h ((List.pairwise_cons.mp z).1 b (by simp))
  unfold kindsT
  rw [this, Bool.and_false]
theorem low_bad {s : Txt} {d : Nat} (h : d ∈ s) (hd : low d = false) : kindsB (.str s) = false := by
  show kindsT s = false
  have : s.all low = false := by
    rw [List.all_eq_false]
    exact ⟨d, h, by rw [hd]; decide⟩
  unfold kindsT
  rw [this, Bool.and_false, Bool.false_and]
theorem no_kinds_ok (hK : Kinds K) (c : Int) : ∃ x, Odd x ∧ kindsB x = false ∧ D_no_kinds [(.str K, .fz), (.int c, .fz)] ω = .ok (x, .fz) ω := by
  refine den_out (Q := fun r => ∃ x, Odd x ∧ kindsB x = false ∧ r = .ok (x, .fz) ω) (by rfl) ?_
  have hp := hK.pos
  obtain ⟨a, haK, i0⟩ : ∃ a ∈ K, idxV (.str K) (.int 0) = some (.str [a]) := ⟨K[0]'(by omega), List.getElem_mem _, idx_str (i := 0) (List.getElem?_eq_getElem _)⟩
  have ha := hK.abc a haK
  have m1 : binV .mul (.str [a]) (.int 2) = some (.str [a, a]) := mul_str (n := 2) (by simp [line]) (by decide)
  have a4 : binV .add (.str [a]) (.str [32]) = some (.str [a, 32]) := add_str (by simp [line])
  have up : bmV .upper (.str K) [] = some (.str (K.map upC)) := bm_upper (by
    rw [List.all_eq_true]
    intro x hx
    have := hK.abc x hx
    exact decide_eq_true (by omega)) (by have := hK.few; omega)
  have d0 : dispV [] = some (.dic []) := rfl
  obtain ⟨j, hj, ej⟩ := mod_ex' c 13 (by decide) (by decide) (N := 13) rfl
  obtain ⟨x, ⟨h1, h2⟩, ex⟩ := pick (P := fun x => Odd x ∧ kindsB x = false) (L := [.str [], .str [a, a], .str [98, 97], .str [97, 98, 99, 100, 101], .str (K.map upC), .str [a, 32], .str [49], .non, .int 5, .bl true, .lst [.str [a]], .dic [], .tup [.str [97]]]) (j := j) (by
    intro x hx
    simp only [List.mem_cons, List.not_mem_nil, or_false] at hx
    rcases hx with rfl | rfl | rfl | rfl | rfl | rfl | rfl | rfl | rfl | rfl | rfl | rfl | rfl
    · exact ⟨odd_str (by simp), rfl⟩
    · exact ⟨odd_str (by simp), rise_not (by omega)⟩
    · exact ⟨odd_str (by simp), rise_not (by omega)⟩
    · exact ⟨odd_str (by simp), by decide⟩
    · refine ⟨odd_str (by rw [List.length_map]; have := hK.few; omega), low_bad (d := upC a) (List.mem_map_of_mem haK) ?_⟩
      rw [up_low ha.1 ha.2]
      exact decide_eq_false (by omega)
    · exact ⟨odd_str (by simp), low_bad (d := 32) (by simp) rfl⟩
    · exact ⟨odd_str (by simp), low_bad (d := 49) (by simp) rfl⟩
    · exact ⟨odd_non, rfl⟩
    · exact ⟨odd_int _, rfl⟩
    · exact ⟨odd_bl _, rfl⟩
    · exact ⟨odd_one _, rfl⟩
    · exact ⟨odd_dic0, rfl⟩
    · exact ⟨odd_tup [97], rfl⟩) (by exact hj)
  unfold i_no_kinds
  simp only [pv0, pv1, pv2, pv3, pv4, pv5, pv6, pv7, pv8, pv9, pv10, pv11, eq_self, beq_self_eq_true, reduceIte, reduceCtorEq, Nat.reduceAdd, Nat.reduceSub, Nat.reduceBNe, Nat.reduceBEq, Nat.reduceEqDiff, i0, m1, a4, up, bmOn, d0, ej, ex, FK.mk_fz]
  exact ⟨x, h1, h2, rfl⟩
end
end PVL.FT

/-! PVL.LK: missing words made anew, with what is refused. -/
namespace PVL.LK
open PVL PVL.C PVL.Y PVL.PG
noncomputable def i_lacking : Ss := (.cons (.expr (.call FK.D_need_kinds (.cons (.var 1) .nil))) (.cons (.expr (.call FK.D_need_word (.cons (.var 0) (.cons (.var 1) (.cons (.con (.int 40)) .nil))))) (.cons (.set 2 (.dct .nil)) (.cons (.for_ [3] (.val (.call PG.D_stretches (.cons (.var 0) .nil))) w0_lacking) (.cons (.set 4 (.lst .nil)) (.cons (.for_ [3] (.val (.call PG.D_stretches (.cons (.var 0) .nil))) w2_lacking) (.cons (.retV 4) .nil)))))))
noncomputable def D_lacking : Fn := den 2 7 i_lacking
noncomputable def i_is_lacking : Ss := (.cons (.expr (.call FK.D_need_kinds (.cons (.var 1) .nil))) (.cons (.expr (.call FK.D_need_word (.cons (.var 0) (.cons (.var 1) (.cons (.con (.int 40)) .nil))))) (.cons (.expr (.call FK.D_need_word (.cons (.var 2) (.cons (.var 1) (.cons (.con (.int 60)) .nil))))) (.cons (.ret (.andV (.cmp .lt (.bm .find (.var 0) (.cons (.var 2) .nil)) (.con (.int 0))) (.andV (.cmp .ge (.bm .find (.var 0) (.cons (.slc (.var 2) (.con (.int 1)) (.con .non)) .nil)) (.con (.int 0))) (.cmp .ge (.bm .find (.var 0) (.cons (.slc (.var 2) (.con .non) (.neg (.con (.int 1)))) .nil)) (.con (.int 0)))))) .nil))))
noncomputable def D_is_lacking : Fn := den 3 3 i_is_lacking
theorem lacking_ok {K t : Txt} (hK : Kinds K) (ht : t.length ≤ 40) (h2 : ∀ a ∈ t, a ∈ K) (ω : Store) : D_lacking [(.str t, .fz), (.str K, .fz)] ω = .ok (.lst ((rows t K).map encR), .own) ω := by
  have hf := hK.few
  have hdl := due_len ht
  have dn : (dueS t).Nodup := (dueS_pair t).imp fun {a b} h e => by subst e; exact ltW_irrefl _ h
  have e1 := FK.need_kinds_y (x := .str K) (ω := ω) (FK.tell_str K) (FK.kinds_B hK)
  have e2 : FK.D_need_word [(.str t, .fz), (.str K, .fz), (.int 40, .fz)] ω = .ok (.non, .fz) ω := FK.need_word_y (n := 40) (FK.tell_str t) (fun s q => by cases q; omega) (FK.word_B ht h2)
  have e3 := stretches_ok (t := t) (ω := ω) (by omega)
  let f : Txt → PV := fun w => .int (find t w)
  have d0 : dispV [] = some (.dic (txD f [])) := rfl
  have gw : ∀ {i : Nat} {x : PV}, ((dueS t).map PV.str)[i]? = some x → ∃ w, (dueS t)[i]? = some w ∧ x = .str w := fun {i x} h => by
    rw [List.getElem?_map, Option.map_eq_some_iff] at h
    obtain ⟨w, h1, h2⟩ := h
    exact ⟨w, h1, h2.symm⟩
  refine den_out (Q := fun r => r = .ok (.lst ((rows t K).map encR), .own) ω) (by rfl) ?_
  unfold i_lacking
  simp only [pv0, pv1, pv2, pv3, pv4, pv5, pv6, pv7, pv8, pv9, pv10, pv11, eq_self, beq_self_eq_true, reduceIte, reduceCtorEq, Nat.reduceAdd, Nat.reduceSub, Nat.reduceBNe, Nat.reduceBEq, Nat.reduceEqDiff, e1, e2, d0, e3]
  refine for_st (fun i ρ => ∃ o, ρ = [some (.str t, .fz), some (.str K, .fz), some (.dic (txD f ((dueS t).take i)), .own), o, none, none, none]) ⟨none, rfl⟩ ?_ ?_
  · rintro i x ρ hx ⟨o, rfl⟩
    obtain ⟨w, hw, rfl⟩ := gw hx
    refine ⟨_, as_1, ?_⟩
    have hni : w ∉ (dueS t).take i := fun z => by
      obtain ⟨j, hj⟩ := List.getElem?_of_mem z
      have hji : j < i := by
        have := (List.getElem?_eq_some_iff.mp hj).1
        rw [List.length_take] at this
        omega
      rw [List.getElem?_take_of_lt hji] at hj
      have hjl := (List.getElem?_eq_some_iff.mp hj).1
      have hil := (List.getElem?_eq_some_iff.mp hw).1
      have := (List.getElem?_inj hjl dn).mp (hj.trans hw.symm)
      omega
    have es : storeV (.dic (txD f ((dueS t).take i))) (.str w) (.int (find t w)) = some (.dic (txD f ((dueS t).take (i + 1)))) := by
      have := txD_store (f := f) hni (by rw [List.length_take, line]; omega)
      rw [List.take_add_one, hw]
      exact this
    unfold w0_lacking
    simp only [pv0, pv1, pv2, pv3, pv4, pv5, pv6, pv7, pv8, pv9, pv10, pv11, eq_self, beq_self_eq_true, reduceIte, reduceCtorEq, Nat.reduceAdd, Nat.reduceSub, Nat.reduceBNe, Nat.reduceBEq, Nat.reduceEqDiff, bmOn, es]
    exact ⟨_, rfl⟩
  · rintro ρ ⟨o, rfl⟩
    rw [List.length_map, List.take_length]
    simp only [pv0, pv1, pv2, pv3, pv4, pv5, pv6, pv7, pv8, pv9, pv10, pv11, eq_self, beq_self_eq_true, reduceIte, reduceCtorEq, Nat.reduceAdd, Nat.reduceSub, Nat.reduceBNe, Nat.reduceBEq, Nat.reduceEqDiff, e3]
    refine for_st (fun i ρ => ∃ o3 o5 o6, ρ = [some (.str t, .fz), some (.str K, .fz), some (.dic (txD f (dueS t)), .own), o3, some (.lst ((rowsN t K i).map encR), .own), o5, o6]) ⟨o, none, none, rfl⟩ ?_ ?_
    · rintro i x ρ hx ⟨o3, o5, o6, rfl⟩
      obtain ⟨w, hw, rfl⟩ := gw hx
      have hil := (List.getElem?_eq_some_iff.mp hw).1
      have hwm : w ∈ dueS t := List.mem_of_getElem? hw
      have hwl : w.length ≤ 40 := Nat.le_trans (due_infix.mp hwm).length_le ht
      have hrl := rowsN_len (t := t) (K := K) (n := i)
      have hik : i * K.length ≤ 1681 * 4 := Nat.mul_le_mul (by omega) hf
      refine ⟨_, as_1, ?_⟩
      unfold w2_lacking
      simp only [pv0, pv1, pv2, pv3, pv4, pv5, pv6, pv7, pv8, pv9, pv10, pv11, eq_self, beq_self_eq_true, reduceIte, reduceCtorEq, Nat.reduceAdd, Nat.reduceSub, Nat.reduceBNe, Nat.reduceBEq, Nat.reduceEqDiff]
      refine for_st (fun j ρ => ∃ o5 o6, ρ = [some (.str t, .fz), some (.str K, .fz), some (.dic (txD f (dueS t)), .own), some (.str w, .fz), some (.lst ((rowsN t K i ++ (K.take j).filterMap (row1 t w)).map encR), .own), o5, o6]) ⟨o5, o6, by rw [List.take_zero, List.filterMap_nil, List.append_nil]⟩ ?_ ?_
      · rintro j x ρ hx ⟨o5, o6, rfl⟩
        unfold charsOf at hx
        rw [List.getElem?_map, Option.map_eq_some_iff] at hx
        obtain ⟨c, hc, rfl⟩ := hx
        refine ⟨_, as_1, ?_⟩
        have ad : binV .add (.str w) (.str [c]) = some (.str (w ++ [c])) := add_str (by rw [line, List.length_singleton]; omega)
        have i1 := txD_in (f := f) (us := dueS t) (w := w ++ [c])
        have i2 := txD_in (f := f) (us := dueS t) (w := (w ++ [c]).drop 1)
        have s1 : slcV (.str (w ++ [c])) (.int 1) .non = some (.str ((w ++ [c]).drop 1)) := slc_from (w ++ [c]) 1
        have tk : (K.take (j + 1)).filterMap (row1 t w) = (K.take j).filterMap (row1 t w) ++ (row1 t w c).toList := by
          rw [List.take_add_one, hc, List.filterMap_append]
          congr 1
        have fl : ((K.take j).filterMap (row1 t w)).length ≤ 4 := Nat.le_trans (List.length_filterMap_le ..) (by rw [List.length_take]; omega)
        unfold w1_lacking
        by_cases h1 : w ++ [c] ∈ dueS t
        · have r0 : row1 t w c = none := by unfold row1; rw [if_neg fun z => z.1 h1]
          rw [tk, r0, Option.toList_none, List.append_nil]
          simp only [pv0, pv1, pv2, pv3, pv4, pv5, pv6, pv7, pv8, pv9, pv10, pv11, eq_self, beq_self_eq_true, reduceIte, reduceCtorEq, Nat.reduceAdd, Nat.reduceSub, Nat.reduceBNe, Nat.reduceBEq, Nat.reduceEqDiff, ad, i1, h1, decide_true]
          exact ⟨_, _, rfl⟩
        · by_cases h2 : (w ++ [c]).drop 1 ∈ dueS t
          · have r0 : row1 t w c = some (w ++ [c], find t w, find t ((w ++ [c]).drop 1)) := by unfold row1; rw [if_pos ⟨h1, h2⟩]
            have x1 : idxV (.dic (txD f (dueS t))) (.str w) = some (.int (find t w)) := txD_idx (f := f) hwm
            have x2 : idxV (.dic (txD f (dueS t))) (.str ((w ++ [c]).drop 1)) = some (.int (find t ((w ++ [c]).drop 1))) := txD_idx (f := f) h2
            have ll : ((rowsN t K i ++ (K.take j).filterMap (row1 t w)).map encR).length < line := by
              rw [List.length_map, List.length_append, line]
              omega
            rw [tk, r0]
            simp only [pv0, pv1, pv2, pv3, pv4, pv5, pv6, pv7, pv8, pv9, pv10, pv11, eq_self, beq_self_eq_true, reduceIte, reduceCtorEq, Nat.reduceAdd, Nat.reduceSub, Nat.reduceBNe, Nat.reduceBEq, Nat.reduceEqDiff, ad, i1, h1, s1, i2, h2, decide_true, decide_false, x1, x2, xApp2_l ll, ll]
            exact ⟨_, _, by rw [← List.append_assoc, List.map_append (l₂ := Option.toList _)]; rfl⟩
          · have r0 : row1 t w c = none := by unfold row1; rw [if_neg fun z => h2 z.2]
            rw [tk, r0, Option.toList_none, List.append_nil]
            simp only [pv0, pv1, pv2, pv3, pv4, pv5, pv6, pv7, pv8, pv9, pv10, pv11, eq_self, beq_self_eq_true, reduceIte, reduceCtorEq, Nat.reduceAdd, Nat.reduceSub, Nat.reduceBNe, Nat.reduceBEq, Nat.reduceEqDiff, ad, i1, h1, s1, i2, h2, decide_true, decide_false]
            exact ⟨_, _, rfl⟩
      · rintro ρ ⟨o5, o6, rfl⟩
        have : (charsOf K).length = K.length := by rw [charsOf, List.length_map]
        rw [this, List.take_length]
        simp only [pv0, pv1, pv2, pv3, pv4, pv5, pv6, pv7, pv8, pv9, pv10, pv11, eq_self, beq_self_eq_true, reduceIte, reduceCtorEq, Nat.reduceAdd, Nat.reduceSub, Nat.reduceBNe, Nat.reduceBEq, Nat.reduceEqDiff]
        rw [rowsN_succ hw]
        exact ⟨_, _, _, rfl⟩
    · rintro ρ ⟨o3, o5, o6, rfl⟩
      rw [List.length_map]
      simp only [pv0, pv1, pv2, pv3, pv4, pv5, pv6, pv7, pv8, pv9, pv10, pv11, eq_self, beq_self_eq_true, reduceIte, reduceCtorEq, Nat.reduceAdd, Nat.reduceSub, Nat.reduceBNe, Nat.reduceBEq, Nat.reduceEqDiff]
      unfold rowsN
      rw [List.take_length]
      rfl

section
variable {K t w : Txt} {x k z : PV} {ω : Store}
theorem lacking_k (tl : FK.Tell k) (hb : FK.kindsB k = false) : D_lacking [(x, .fz), (k, .fz)] ω = .exc 1 [] ω := by
  refine den_out (Q := fun r => r = .exc 1 [] ω) (by rfl) ?_
  have e := FK.need_kinds_n (x := k) (ω := ω) tl hb
  unfold i_lacking
  simp only [pv0, pv1, pv2, pv3, pv4, pv5, pv6, pv7, pv8, pv9, pv10, pv11, eq_self, beq_self_eq_true, reduceIte, reduceCtorEq, Nat.reduceAdd, Nat.reduceSub, Nat.reduceBNe, Nat.reduceBEq, Nat.reduceEqDiff, e]
theorem lacking_w (hK : FK.kindsT K = true) (tl : FK.Tell x) (hl : ∀ s, x = .str s → s.length ≤ 1000) (hb : FK.wordB K 40 x = false) : D_lacking [(x, .fz), (.str K, .fz)] ω = .exc 2 [x] ω := by
  refine den_out (Q := fun r => r = .exc 2 [x] ω) (by rfl) ?_
  have e := FK.need_kinds_y (x := .str K) (ω := ω) (FK.tell_str K) hK
  have e2 : FK.D_need_word [(x, .fz), (.str K, .fz), (.int 40, .fz)] ω = .exc 2 [x] ω := FK.need_word_n (n := 40) tl hl hb
  unfold i_lacking
  simp only [pv0, pv1, pv2, pv3, pv4, pv5, pv6, pv7, pv8, pv9, pv10, pv11, eq_self, beq_self_eq_true, reduceIte, reduceCtorEq, Nat.reduceAdd, Nat.reduceSub, Nat.reduceBNe, Nat.reduceBEq, Nat.reduceEqDiff, e, e2]
def isM (t w : Txt) : Bool := decide (find t w < 0) && (decide (0 ≤ find t (w.drop 1)) && decide (0 ≤ find t w.dropLast))
theorem isl_k (tl : FK.Tell k) (hb : FK.kindsB k = false) : D_is_lacking [(x, .fz), (k, .fz), (z, .fz)] ω = .exc 1 [] ω := by
  refine den_out (Q := fun r => r = .exc 1 [] ω) (by rfl) ?_
  have e := FK.need_kinds_n (x := k) (ω := ω) tl hb
  unfold i_is_lacking
  simp only [pv0, pv1, pv2, pv3, pv4, pv5, pv6, pv7, pv8, pv9, pv10, pv11, eq_self, beq_self_eq_true, reduceIte, reduceCtorEq, Nat.reduceAdd, Nat.reduceSub, Nat.reduceBNe, Nat.reduceBEq, Nat.reduceEqDiff, e]
theorem isl_t (hK : FK.kindsT K = true) (tl : FK.Tell x) (hl : ∀ s, x = .str s → s.length ≤ 1000) (hb : FK.wordB K 40 x = false) : D_is_lacking [(x, .fz), (.str K, .fz), (z, .fz)] ω = .exc 2 [x] ω := by
  refine den_out (Q := fun r => r = .exc 2 [x] ω) (by rfl) ?_
  have e := FK.need_kinds_y (x := .str K) (ω := ω) (FK.tell_str K) hK
  have e2 : FK.D_need_word [(x, .fz), (.str K, .fz), (.int 40, .fz)] ω = .exc 2 [x] ω := FK.need_word_n (n := 40) tl hl hb
  unfold i_is_lacking
  simp only [pv0, pv1, pv2, pv3, pv4, pv5, pv6, pv7, pv8, pv9, pv10, pv11, eq_self, beq_self_eq_true, reduceIte, reduceCtorEq, Nat.reduceAdd, Nat.reduceSub, Nat.reduceBNe, Nat.reduceBEq, Nat.reduceEqDiff, e, e2]
theorem isl_w (hK : FK.kindsT K = true) (ht : FK.wordT K 40 t = true) (h1 : t.length ≤ 40) (tl : FK.Tell z) (hl : ∀ s, z = .str s → s.length ≤ 1000) (hb : FK.wordB K 60 z = false) : D_is_lacking [(.str t, .fz), (.str K, .fz), (z, .fz)] ω = .exc 2 [z] ω := by
  refine den_out (Q := fun r => r = .exc 2 [z] ω) (by rfl) ?_
  have e := FK.need_kinds_y (x := .str K) (ω := ω) (FK.tell_str K) hK
  have e2 : FK.D_need_word [(.str t, .fz), (.str K, .fz), (.int 40, .fz)] ω = .ok (.non, .fz) ω := FK.need_word_y (n := 40) (FK.tell_str t) (fun s q => by cases q; omega) ht
  have e3 : FK.D_need_word [(z, .fz), (.str K, .fz), (.int 60, .fz)] ω = .exc 2 [z] ω := FK.need_word_n (n := 60) tl hl hb
  unfold i_is_lacking
  simp only [pv0, pv1, pv2, pv3, pv4, pv5, pv6, pv7, pv8, pv9, pv10, pv11, eq_self, beq_self_eq_true, reduceIte, reduceCtorEq, Nat.reduceAdd, Nat.reduceSub, Nat.reduceBNe, Nat.reduceBEq, Nat.reduceEqDiff, e, e2, e3]
theorem slc_dl (w : Txt) : slcV (.str w) .non (.int (-1)) = some (.str w.dropLast) := by
  have : cut w none (some (-1)) = w.dropLast := by
    rw [List.dropLast_eq_take]
    show (w.drop 0).take ((if (-1 : Int) < 0 then ((-1 : Int) + (w.length : Int)).toNat else min (-1 : Int).toNat w.length) - 0) = _
    rw [if_pos (by decide), List.drop_zero]
    congr 1
    omega
  simp [slcV, slcX, optI, this]
theorem isl_ok (hK : FK.kindsT K = true) (ht : FK.wordT K 40 t = true) (h1 : t.length ≤ 40) (hw : FK.wordT K 60 w = true) (h2 : w.length ≤ 60) : D_is_lacking [(.str t, .fz), (.str K, .fz), (.str w, .fz)] ω = .ok (.bl (isM t w), .fz) ω := by
  refine den_out (Q := fun r => r = .ok (.bl (isM t w), .fz) ω) (by rfl) ?_
  have e := FK.need_kinds_y (x := .str K) (ω := ω) (FK.tell_str K) hK
  have e2 : FK.D_need_word [(.str t, .fz), (.str K, .fz), (.int 40, .fz)] ω = .ok (.non, .fz) ω := FK.need_word_y (n := 40) (FK.tell_str t) (fun s q => by cases q; omega) ht
  have e3 : FK.D_need_word [(.str w, .fz), (.str K, .fz), (.int 60, .fz)] ω = .ok (.non, .fz) ω := FK.need_word_y (n := 60) (FK.tell_str w) (fun s q => by cases q; omega) hw
  have s1 : slcV (.str w) (.int 1) .non = some (.str (w.drop 1)) := slc_from w 1
  have s2 := slc_dl w
  have ng : -(1 : Int) = -1 := rfl
  unfold i_is_lacking isM
  cases q1 : decide (find t w < 0) with
  | false => simp only [pv0, pv1, pv2, pv3, pv4, pv5, pv6, pv7, pv8, pv9, pv10, pv11, eq_self, beq_self_eq_true, reduceIte, reduceCtorEq, Nat.reduceAdd, Nat.reduceSub, Nat.reduceBNe, Nat.reduceBEq, Nat.reduceEqDiff, e, e2, e3, bmOn, q1]
  | true =>
    cases q2 : decide (0 ≤ find t (w.drop 1)) with
    | false => simp only [pv0, pv1, pv2, pv3, pv4, pv5, pv6, pv7, pv8, pv9, pv10, pv11, eq_self, beq_self_eq_true, reduceIte, reduceCtorEq, Nat.reduceAdd, Nat.reduceSub, Nat.reduceBNe, Nat.reduceBEq, Nat.reduceEqDiff, e, e2, e3, bmOn, q1, s1, q2]
    | true => simp only [pv0, pv1, pv2, pv3, pv4, pv5, pv6, pv7, pv8, pv9, pv10, pv11, eq_self, beq_self_eq_true, reduceIte, reduceCtorEq, Nat.reduceAdd, Nat.reduceSub, Nat.reduceBNe, Nat.reduceBEq, Nat.reduceEqDiff, e, e2, e3, bmOn, q1, s1, q2, ng, s2]
end
end PVL.LK

namespace LW
open PVL PVL.C PVL.Y PVL.PG PVL.FK PVL.FT PVL.LK
theorem e_cell : D__law_cell = cell := rfl
theorem e_mixed : D__law_mixed = C.mixed := rfl
theorem e_kinds : D__law_kinds = kinds := rfl
theorem e_text : D__law_text = FL.D_text := rfl
theorem e_word : D__law_word = FWd.D_word := rfl
theorem e_lacking : D_lacking = LK.D_lacking := rfl
theorem e_isl : D_is_lacking = LK.D_is_lacking := rfl
theorem e_bad : D__law_bad = FT.D_bad := rfl
theorem e_nok : D__law_no_kinds = FT.D_no_kinds := rfl
section
variable {K t w : Txt} {x k z : PV} {ω : Store}
theorem caught_0 {c : Nat} {xs : List PV} (e : LK.D_lacking [(x, .fz), (k, .fz)] ω = .exc c xs ω) (hc : c = 1 ∨ c = 2) : D__law_caught [(.int 0, .fz), (x, .fz), (k, .fz), (z, .fz)] ω = .ok (.exc c xs, .fz) ω := by
  refine den_out (Q := fun r => r = .ok (.exc c xs, .fz) ω) (by rfl) ?_
  unfold i__law_caught
  rw [e_lacking]
  rcases hc with rfl | rfl <;> simp only [pv0, pv1, pv2, pv3, pv4, pv5, pv6, pv7, pv8, pv9, pv10, pv11, eq_self, beq_self_eq_true, reduceIte, reduceCtorEq, Nat.reduceAdd, Nat.reduceSub, Nat.reduceBNe, Nat.reduceBEq, Nat.reduceEqDiff, e, decide_true]
theorem caught_1 {c : Nat} {xs : List PV} (e : LK.D_is_lacking [(x, .fz), (k, .fz), (z, .fz)] ω = .exc c xs ω) (hc : c = 1 ∨ c = 2) : D__law_caught [(.int 1, .fz), (x, .fz), (k, .fz), (z, .fz)] ω = .ok (.exc c xs, .fz) ω := by
  refine den_out (Q := fun r => r = .ok (.exc c xs, .fz) ω) (by rfl) ?_
  have n : decide ((1 : Int) = 0) = false := rfl
  unfold i__law_caught
  rw [e_isl]
  rcases hc with rfl | rfl <;> simp only [pv0, pv1, pv2, pv3, pv4, pv5, pv6, pv7, pv8, pv9, pv10, pv11, eq_self, beq_self_eq_true, reduceIte, reduceCtorEq, Nat.reduceAdd, Nat.reduceSub, Nat.reduceBNe, Nat.reduceBEq, Nat.reduceEqDiff, e, n]
theorem refused_k : D__law_refused [(.exc 1 [], .fz), (.bl true, .fz), (.non, .fz)] ω = .ok (.bl true, .fz) ω := by
  refine den_out (Q := fun r => r = .ok (.bl true, .fz) ω) (by rfl) ?_
  have c1 : ([1] : List Nat).contains 1 = true := rfl
  have c2 : ([2] : List Nat).contains 1 = false := rfl
  unfold i__law_refused
  simp only [pv0, pv1, pv2, pv3, pv4, pv5, pv6, pv7, pv8, pv9, pv10, pv11, eq_self, beq_self_eq_true, reduceIte, reduceCtorEq, Nat.reduceAdd, Nat.reduceSub, Nat.reduceBNe, Nat.reduceBEq, Nat.reduceEqDiff, c1, c2]
theorem refused_w (h : Odd x) : D__law_refused [(.exc 2 [x], .fz), (.bl false, .fz), (x, .fz)] ω = .ok (.bl true, .fz) ω := by
  refine den_out (Q := fun r => r = .ok (.bl true, .fz) ω) (by rfl) ?_
  have c1 : ([1] : List Nat).contains 2 = false := rfl
  have c2 : ([2] : List Nat).contains 2 = true := rfl
  have q := h.th.eq
  have b := h.tb ω
  unfold i__law_refused
  simp only [pv0, pv1, pv2, pv3, pv4, pv5, pv6, pv7, pv8, pv9, pv10, pv11, eq_self, beq_self_eq_true, reduceIte, reduceCtorEq, Nat.reduceAdd, Nat.reduceSub, Nat.reduceBNe, Nat.reduceBEq, Nat.reduceEqDiff, c1, c2, FK.mk_fz, q, b]
theorem asked_ok (hK : Kinds K) (ht : t.length ≤ 40) (htK : ∀ a ∈ t, a ∈ K) (c : Int) : ∃ w : Txt, w.length ≤ 200 ∧ (∀ a ∈ w, a ∈ K) ∧ D__law_asked [(.int c, .fz), (.str t, .fz), (.str K, .fz), (.lst ((names t K).map .str), .br)] ω = .ok (.str w, .fz) ω := by
  refine den_out (Q := fun r => ∃ w : Txt, w.length ≤ 200 ∧ (∀ a ∈ w, a ∈ K) ∧ r = .ok (.str w, .fz) ω) (by rfl) ?_
  obtain ⟨y, hy, ey⟩ := mod_ex' c 3 (by decide) (by decide) (N := 3) rfl
  have f3 := fdv c 3 (by decide) (by decide) (N := 3) rfl
  unfold i__law_asked
  rw [e_word]
  by_cases q : (0 : Int) < (y : Int)
  · obtain ⟨w, hw, hwK, ew⟩ := FWd.word_ok (ω := ω) hK ht htK (c / (3 : Nat))
    have qd : decide ((0 : Int) < (y : Int)) = true := decide_eq_true q
    simp only [pv0, pv1, pv2, pv3, pv4, pv5, pv6, pv7, pv8, pv9, pv10, pv11, eq_self, beq_self_eq_true, reduceIte, reduceCtorEq, Nat.reduceAdd, Nat.reduceSub, Nat.reduceBNe, Nat.reduceBEq, Nat.reduceEqDiff, ey, qd, f3, ew]
    exact ⟨w, by omega, hwK, rfl⟩
  · have qd : decide ((0 : Int) < (y : Int)) = false := decide_eq_false q
    have hlen : 0 < (names t K).length := List.length_pos_iff.mpr (names_ne hK)
    have nl : (names t K).length ≤ 1681 * 4 := by
      unfold names
      rw [List.length_map]
      have := rowsN_len (t := t) (K := K) (n := (dueS t).length)
      unfold rowsN at this
      rw [List.take_length] at this
      exact Nat.le_trans this (Nat.mul_le_mul (due_len ht) hK.few)
    have f9 := fdv c 9 (by decide) (by decide) (N := 9) rfl
    have lnm : (((names t K).map PV.str).length : Int) = ((names t K).length : Int) := by rw [List.length_map]
    obtain ⟨j, hj, ej⟩ := mod_ex' (c / (9 : Nat)) (names t K).length hlen (by omega) (N := ((names t K).length : Int)) rfl
    have hm : Mis t K ((names t K)[j]) := name_mem.mp (List.getElem_mem hj)
    have ix : idxV (.lst ((names t K).map .str)) (.int (j : Int)) = some (.str ((names t K)[j])) := idx_lst (by simp [hj])
    generalize (names t K)[j] = m at hm ix
    have hm1 : m.length ≤ 41 ∧ ∀ a ∈ m, a ∈ K := by
      obtain ⟨v, b, h1, h2, _, _, rfl⟩ := hm
      have := h1.length_le
      refine ⟨by simp; omega, fun a ha => ?_⟩
      rcases List.mem_append.mp ha with h | h
      · exact htK a (h1.subset h)
      · rw [List.mem_singleton.mp h]; exact h2
    have f20 := fdv c 2000 (by decide) (by decide) (N := 2000) rfl
    obtain ⟨a, ha, p, ep, eix⟩ := FL.at_K hK (c / (2000 : Nat))
    have a1 : binV .add (.str [a]) (.str m) = some (.str ([a] ++ m)) := add_str (by simp [line]; omega)
    have a2 : binV .add (.str m) (.str [a]) = some (.str (m ++ [a])) := add_str (by simp [line]; omega)
    obtain ⟨g, hg, eg⟩ := mod_ex' (c / (3 : Nat)) 3 (by decide) (by decide) (N := 3) rfl
    obtain ⟨x, ⟨w, rfl, h1, h2⟩, ex⟩ := pick (P := fun x => ∃ w : Txt, x = .str w ∧ w.length ≤ 200 ∧ ∀ a ∈ w, a ∈ K) (L := [.str m, .str ([a] ++ m), .str (m ++ [a])]) (j := g) (by
      intro x hx
      simp only [List.mem_cons, List.not_mem_nil, or_false] at hx
      rcases hx with rfl | rfl | rfl
      · exact ⟨_, rfl, by omega, hm1.2⟩
      · exact ⟨_, rfl, by simp; omega, fun b hb => (List.mem_append.mp hb).elim (fun z => by rw [List.mem_singleton.mp z]; exact ha) (hm1.2 b)⟩
      · exact ⟨_, rfl, by simp; omega, fun b hb => (List.mem_append.mp hb).elim (hm1.2 b) (fun z => by rw [List.mem_singleton.mp z]; exact ha)⟩) (by exact hg)
    simp only [pv0, pv1, pv2, pv3, pv4, pv5, pv6, pv7, pv8, pv9, pv10, pv11, eq_self, beq_self_eq_true, reduceIte, reduceCtorEq, Nat.reduceAdd, Nat.reduceSub, Nat.reduceBNe, Nat.reduceBEq, Nat.reduceEqDiff, ey, qd, f9, lnm, ej, ix, f20, ep, eix, a1, a2, f3, eg, ex]
    exact ⟨w, h1, h2, rfl⟩
theorem due_ok (t w : Txt) : D__law_due [(.str t, .fz), (.str w, .fz)] ω = .ok (.bl (isM t w), .fz) ω := by
  refine den_out (Q := fun r => r = .ok (.bl (isM t w), .fz) ω) (by rfl) ?_
  have s1 : slcV (.str w) (.int 1) .non = some (.str (w.drop 1)) := slc_from w 1
  have s2 := slc_dl w
  have ng : -(1 : Int) = -1 := rfl
  unfold i__law_due isM
  by_cases q0 : w = []
  · subst q0
    have : find t [] = 0 := by
      rcases find_std t [] with ⟨_, h⟩ | ⟨k, e, h, hm⟩
      · exact absurd ⟨Nat.zero_le _, List.nil_prefix⟩ (h 0)
      · have : k = 0 := by
          refine Classical.byContradiction fun z => hm 0 (by omega) ⟨Nat.zero_le _, List.nil_prefix⟩
        rw [e, this]; rfl
    rw [this]
    simp only [pv0, pv1, pv2, pv3, pv4, pv5, pv6, pv7, pv8, pv9, pv10, pv11, eq_self, beq_self_eq_true, reduceIte, reduceCtorEq, Nat.reduceAdd, Nat.reduceSub, Nat.reduceBNe, Nat.reduceBEq, Nat.reduceEqDiff, decide_true]
    rfl
  · have d0 : decide (w = []) = false := decide_eq_false q0
    by_cases q1 : 0 ≤ find t w
    · have d1 : decide (0 ≤ find t w) = true := decide_eq_true q1
      have d2 : decide (find t w < 0) = false := decide_eq_false (by omega)
      simp only [pv0, pv1, pv2, pv3, pv4, pv5, pv6, pv7, pv8, pv9, pv10, pv11, eq_self, beq_self_eq_true, reduceIte, reduceCtorEq, Nat.reduceAdd, Nat.reduceSub, Nat.reduceBNe, Nat.reduceBEq, Nat.reduceEqDiff, d0, bmOn, d1, d2]
    · have d1 : decide (0 ≤ find t w) = false := decide_eq_false q1
      have d2 : decide (find t w < 0) = true := decide_eq_true (by omega)
      cases q2 : decide (0 ≤ find t (w.drop 1)) with
      | false => simp only [pv0, pv1, pv2, pv3, pv4, pv5, pv6, pv7, pv8, pv9, pv10, pv11, eq_self, beq_self_eq_true, reduceIte, reduceCtorEq, Nat.reduceAdd, Nat.reduceSub, Nat.reduceBNe, Nat.reduceBEq, Nat.reduceEqDiff, d0, bmOn, d1, d2, s1, q2]
      | true => simp only [pv0, pv1, pv2, pv3, pv4, pv5, pv6, pv7, pv8, pv9, pv10, pv11, eq_self, beq_self_eq_true, reduceIte, reduceCtorEq, Nat.reduceAdd, Nat.reduceSub, Nat.reduceBNe, Nat.reduceBEq, Nat.reduceEqDiff, d0, bmOn, d1, d2, s1, q2, ng, s2]
end
theorem holds : PVS.LawOk D_law 63 := fun ns hl _ => by
  refine ⟨[], ?_⟩
  refine den_out (Q := fun r => r = .ok (.bl true, .fz) []) (by rfl) ?_
  obtain ⟨c0, e0⟩ := C.cell_at ns 0 (by decide) 0 rfl []
  obtain ⟨K, hK, eK⟩ := C.kinds_ok c0 .fz []
  obtain ⟨t, ht, htK, et⟩ := FL.text_ok ns 1 (by decide) hK []
  have et : FL.D_text [(.lst (ns.map .int), .fz), (.int 1, .fz), (.str K, .fz)] [] = _ := et
  have el := LK.lacking_ok hK ht htK []
  have hKB := kinds_B hK
  have htB := word_B ht htK
  have rl : (rows t K).length ≤ 1681 * 4 := by
    have := rowsN_len (t := t) (K := K) (n := (dueS t).length)
    unfold rowsN at this
    rw [List.take_length] at this
    exact Nat.le_trans this (Nat.mul_le_mul (due_len ht) hK.few)
  have fc : foldC (cpE e0_law [12] .tt [some (.lst (ns.map .int), .fz), some (.str K, .fz), some (.str t, .fz), none, none, none, none, none, none, none, none, none, none]) ((rows t K).map encR) [] [] = .ok ((names t K).map .str) [] := by
    have := comp_map (e := e0_law) (tg := [12]) (c := .tt) (ρ := [some (.lst (ns.map .int), .fz), some (.str K, .fz), some (.str t, .fz), none, none, none, none, none, none, none, none, none, none]) (ω := []) (xs := (rows t K).map encR) (f := fun x => match x with
      | .tup (y :: _) => y
      | x => x) (fun x hx => by
        obtain ⟨r, _, rfl⟩ := List.mem_map.mp hx
        have ix : idxV (encR r) (.int 0) = some (.str r.1) := rfl
        unfold e0_law
        simp only [pv0, pv1, pv2, pv3, pv4, pv5, pv6, pv7, pv8, pv9, pv10, pv11, eq_self, beq_self_eq_true, reduceIte, reduceCtorEq, Nat.reduceAdd, Nat.reduceSub, Nat.reduceBNe, Nat.reduceBEq, Nat.reduceEqDiff, cv0, ix]
        rfl) (by rw [List.length_map, line]; omega)
    rw [this, List.map_map]
    unfold names
    rw [List.map_map]
    rfl
  have sl := slc_ints ns 3 40 3 40 rfl rfl
  have ad : binV .add (.lst (((ns.drop 3).take (40 - 3)).map .int)) (.lst [.int 17]) = some (.lst (((ns.drop 3).take (40 - 3) ++ [17]).map .int)) := by
    rw [add_lst (by rw [List.length_map, List.length_take]; simp [line]; omega), List.map_append]; rfl
  generalize (ns.drop 3).take (40 - 3) ++ [17] = cs at ad
  unfold i_law
  rw [e_cell, e_kinds, e_text, e_lacking, e_mixed, e_nok, e_bad]
  simp only [pv0, pv1, pv2, pv3, pv4, pv5, pv6, pv7, pv8, pv9, pv10, pv11, eq_self, beq_self_eq_true, reduceIte, reduceCtorEq, Nat.reduceAdd, Nat.reduceSub, Nat.reduceBNe, Nat.reduceBEq, Nat.reduceEqDiff, e0, eK, et, el, fc, sl, ad]
  refine for_st (fun i ρ => ∃ o4 o5 o6, ρ = [some (.lst (ns.map .int), .fz), some (.str K, .fz), some (.str t, .fz), some (.lst ((names t K).map .str), .own), o4, o5, o6, none, none, none, none, none, none]) ⟨none, none, none, rfl⟩ ?_ ?_
  · rintro i x ρ hx ⟨o4, o5, o6, rfl⟩
    obtain ⟨c, rfl⟩ := ints_get hx
    refine ⟨_, as_1, ?_⟩
    obtain ⟨w, hw, hwK, ew⟩ := asked_ok (ω := []) hK ht htK c
    have s1 : slcV (.str w) .non (.int 60) = some (.str (w.take 60)) := slc_to w 60
    have hu : (w.take 60).length ≤ 60 := by rw [List.length_take]; omega
    have huK : ∀ a ∈ w.take 60, a ∈ K := fun a ha => hwK a (List.mem_of_mem_take ha)
    generalize w.take 60 = u at s1 hu huK
    have e1 := isl_ok (ω := []) hKB htB ht (word_B hu huK) hu
    have e2 := due_ok (ω := []) t u
    have bb : (isM t u == isM t u) = true := beq_self_eq_true _
    unfold w1_law
    rw [e_isl]
    simp only [pv0, pv1, pv2, pv3, pv4, pv5, pv6, pv7, pv8, pv9, pv10, pv11, eq_self, beq_self_eq_true, reduceIte, reduceCtorEq, Nat.reduceAdd, Nat.reduceSub, Nat.reduceBNe, Nat.reduceBEq, Nat.reduceEqDiff, ew, s1, e1, e2, bb]
    exact ⟨_, _, _, rfl⟩
  · rintro ρ ⟨o4, o5, o6, rfl⟩
    obtain ⟨c3, e3⟩ := C.cell_at ns 3 (by decide) 3 rfl []
    obtain ⟨n, _, _, em⟩ := C.mixed_ok c3 5 (by decide) .fz .fz []
    obtain ⟨k, hk, hkB, ek⟩ := no_kinds_ok (ω := []) hK n
    have f13 := fdv n 13 (by decide) (by decide) (N := 13) rfl
    have f208 := fdv n 208 (by decide) (by decide) (N := 208) rfl
    obtain ⟨x, hx, hxB, ex⟩ := bad_ok (ω := []) hK 40 (by decide) (n / (13 : Nat))
    obtain ⟨z, hz, hzB, ez⟩ := bad_ok (ω := []) hK 60 (by decide) (n / (208 : Nat))
    have ex : FT.D_bad [(.str K, .fz), (.int 40, .fz), (.int (n / (13 : Nat)), .fz)] [] = _ := ex
    have ez : FT.D_bad [(.str K, .fz), (.int 60, .fz), (.int (n / (208 : Nat)), .fz)] [] = _ := ez
    have s2 : small 2 = true := by decide
    have t2 : (2 : Int).toNat = 2 := rfl
    have rk := refused_k (ω := [])
    have rx := refused_w (ω := []) hx
    have rz := refused_w (ω := []) hz
    have c4 := caught_1 (ω := []) (x := .str t) (k := .str K) (z := z) (isl_w hKB htB ht hz.th.tell hz.th.len hzB) (.inr rfl)
    simp only [pv0, pv1, pv2, pv3, pv4, pv5, pv6, pv7, pv8, pv9, pv10, pv11, eq_self, beq_self_eq_true, reduceIte, reduceCtorEq, Nat.reduceAdd, Nat.reduceSub, Nat.reduceBNe, Nat.reduceBEq, Nat.reduceEqDiff, e3, em, ek, f13, ex, f208, ez, s2, t2]
    refine for_st (fun i ρ => ∃ o11, ρ = [some (.lst (ns.map .int), .fz), some (.str K, .fz), some (.str t, .fz), some (.lst ((names t K).map .str), .own), o4, o5, o6, some (.int n, .fz), some (k, .fz), some (x, .fz), some (z, .fz), o11, none]) ⟨none, rfl⟩ ?_ ?_
    · rintro i y ρ hy ⟨o, rfl⟩
      obtain ⟨hi, rfl⟩ := upTo_get hy
      refine ⟨_, as_1, ?_⟩
      unfold w2_law
      have hi2 : i = 0 ∨ i = 1 := by omega
      rcases hi2 with rfl | rfl
      · have c1 := caught_0 (ω := []) (x := x) (k := k) (z := z) (lacking_k hk.th.tell hkB) (.inl rfl)
        have c2 := caught_0 (ω := []) (x := .str t) (k := k) (z := .str t) (lacking_k hk.th.tell hkB) (.inl rfl)
        have c3 := caught_0 (ω := []) (x := x) (k := .str K) (z := z) (lacking_w hKB hx.th.tell hx.th.len hxB) (.inr rfl)
        simp only [pv0, pv1, pv2, pv3, pv4, pv5, pv6, pv7, pv8, pv9, pv10, pv11, eq_self, beq_self_eq_true, reduceIte, reduceCtorEq, Nat.reduceAdd, Nat.reduceSub, Nat.reduceBNe, Nat.reduceBEq, Nat.reduceEqDiff, Int.natCast_zero, Int.ofNat_zero, c1, c2, c3, rk, rx]
        exact ⟨_, rfl⟩
      · have c1 := caught_1 (ω := []) (x := x) (k := k) (z := z) (isl_k hk.th.tell hkB) (.inl rfl)
        have c2 := caught_1 (ω := []) (x := .str t) (k := k) (z := .str t) (isl_k hk.th.tell hkB) (.inl rfl)
        have c3 := caught_1 (ω := []) (x := x) (k := .str K) (z := z) (isl_t hKB hx.th.tell hx.th.len hxB) (.inr rfl)
        have e1 : ((1 : Nat) : Int) = 1 := rfl
        simp only [pv0, pv1, pv2, pv3, pv4, pv5, pv6, pv7, pv8, pv9, pv10, pv11, eq_self, beq_self_eq_true, reduceIte, reduceCtorEq, Nat.reduceAdd, Nat.reduceSub, Nat.reduceBNe, Nat.reduceBEq, Nat.reduceEqDiff, e1, c1, c2, c3, rk, rx]
        exact ⟨_, rfl⟩
    · rintro ρ ⟨o, rfl⟩
      simp only [pv0, pv1, pv2, pv3, pv4, pv5, pv6, pv7, pv8, pv9, pv10, pv11, eq_self, beq_self_eq_true, reduceIte, reduceCtorEq, Nat.reduceAdd, Nat.reduceSub, Nat.reduceBNe, Nat.reduceBEq, Nat.reduceEqDiff, c4, rz]
end LW

set_option maxHeartbeats 1000000
open PySem PySem.W PySem.Calls PyProof.Rows
set_option maxHeartbeats 0 in
theorem PySem.Challenge.cw_lackword_k22_missing_or_not_holds : PySem.Challenge.rw_lackword_k22_missing_or_not.Holds := by
  w_on; o_law
  refine HandSHeadRun.head_any (r := OpenLaw.row PySem.Challenge.rw_lackword_k22_missing_or_not) (q := view (OpenLaw.row PySem.Challenge.rw_lackword_k22_missing_or_not).prog [31]) (H := LW.hk) (ob := LW.ob) (M := 4000) (loose := LW.loose) (d := HandSHeadRun.topDef (OpenLaw.row PySem.Challenge.rw_lackword_k22_missing_or_not).prog 31) (kwd := []) LW.ob_eq
    (by kernel_rfl) (fun s => by kernel_rfl) LW.run (by kernel_rfl) (by kernel_rfl) (by kernel_rfl) (by rfl) (by first | assumption | decide +kernel) (by decide +kernel) ⟨rfl, rfl, rfl, rfl, rfl, by decide +kernel⟩ ?hw ?hc
  case hw => w_witness2
  case hc =>
    refine PVS.walk_pv (l := PySem.Challenge.rw_lackword_k22_missing_or_not) (n := 63) (k := 6) (x := "_law_script") rfl (by decide) (by kernel_rfl) ⟨rfl, by decide, by decide⟩ ?F
    intro w mg fa h Y G hmg0
    obtain ⟨K, KX, c, hnl, hx, tb⟩ := Y
    have hmg : mg ("law" : PySem.Str) = some (.ref fa) := by
      have e : (HandSHeadRun.topDef (OpenLaw.row PySem.Challenge.rw_lackword_k22_missing_or_not).prog 31).name = ("law" : PySem.Str) := by kernel_rfl
      rw [← e]
      exact hmg0
    obtain ⟨fd, hb, hF⟩ := LW.facts LW.holds (P := (PySem.Challenge.rw_lackword_k22_missing_or_not).prog) (w := w) KX G hmg c hx
    exact ⟨K, fd, LW.GK K, LW.D_law, PVS.csOf K LW.tls, KX, hnl, hb, LW.holds, PVS.csOf_all (c := fun q => h.get? q.2 = some { cls := .none, data := .fields #[] }) LW.tfs_eq tb.empty, PVS.csOf_all (c := fun q => K.lookup q.2 = none) LW.tfs_eq tb.out, PVS.csOf_all (c := fun q => PySem.W.CodeHd h q.1 q.2) LW.tfs_eq (fun p hp => PySem.W.codeHd_of_K KX (tb.hd p hp)), PVS.csOf_tabs, hF⟩
