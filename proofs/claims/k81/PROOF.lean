import PyProof.Rows.All
import Wide.All
import OpenK.AllK
import Wide.FinOn
import HandS.ForMost
import HandS.ForExc
import HandS.StrMore
import HandS.Wide
import PyProof.StrOps2
import HandS.CallSlots
import HandS.Flow
import HandS.Iter
import HandS.IsInst
import HandS.TupLen
import HandS.More
import HandS.Steps
import HandS.WordsExc
import HandS.Defaults
import HandS.Head0
import HandS.Head1
import HandS.Head2
import HandS.HeadEnd
import HandS.HeadHook1
import HandS.HeadHook2
import HandS.HeadHook4
import HandS.EndBits
import PySem.Challenge.RW_lackword_k81_shares
set_option Elab.async false
set_option linter.all false
set_option maxRecDepth 100000
/-! PVL.Dom: plain values, the IR of the Python that is met, and what the IR means (core Lean alone). -/
namespace PVL

abbrev Txt := List Nat

/-- plain values: obj n is the n-th object of the store; exc: an exception of the class c with its fields -/
inductive PV where
  | non | bl (b : Bool) | int (i : Int) | str (s : Txt)
  | tup (xs : List PV) | lst (xs : List PV) | dic (kvs : List (PV × PV))
  | obj (n : Nat) | exc (c : Nat) (xs : List PV)
  deriving Inhabited

/-- own: a container that just this place holds, it may be changed; fz: never changed any more; br: lent, read only; lv: a name's own container, read just now -/
inductive Md where
  | own | fz | br | lv
  deriving DecidableEq, Inhabited

structure Rec where
  cls : Nat
  flds : List (Nat × PV)
  deriving Inhabited
abbrev Store := List Rec
inductive R (α : Type) where
  | ok (a : α) (ω : Store) | exc (c : Nat) (xs : List PV) (ω : Store) | bad
def R.bind {α β : Type} : R α → (α → Store → R β) → R β
  | .ok a ω, f => f a ω
  | .exc c xs ω, _ => .exc c xs ω
  | .bad, _ => .bad
abbrev VM := PV × Md
abbrev Fn := List VM → Store → R VM
abbrev Env := List (Option VM)
/-- the longest list, text -/
def line : Nat := 16777216

/-! ### values -/
def isC : PV → Bool
  | .lst _ => true
  | .dic _ => true
  | _ => false
mutual
def eqv : PV → PV → Bool
  | .non, y => match y with | .non => true | _ => false
  | .bl a, y => match y with | .bl b => a == b | .int j => (if a then 1 else 0) == j | _ => false
  | .int i, y => match y with | .bl b => i == (if b then 1 else 0) | .int j => i == j | _ => false
  | .str a, y => match y with | .str b => a == b | _ => false
  | .tup xs, y => match y with | .tup ys => eqvs xs ys | _ => false
  | .lst xs, y => match y with | .lst ys => eqvs xs ys | _ => false
  | .dic _, _ => false
  | .obj _, _ => false
  | .exc _ _, _ => false
def eqvs : List PV → List PV → Bool
  | [], ys => match ys with | [] => true | _ :: _ => false
  | x :: xs, ys => match ys with | [] => false | y :: ys => eqv x y && eqvs xs ys
end
mutual
/-- data whose == is served: how deep; none where it holds a dict, an object, an exception -/
def deep : PV → Option Nat
  | .non => some 0
  | .bl _ => some 0
  | .int _ => some 0
  | .str _ => some 0
  | .tup xs => (deeps xs).map (· + 1)
  | .lst xs => (deeps xs).map (· + 1)
  | .dic _ => none
  | .obj _ => none
  | .exc _ _ => none
def deeps : List PV → Option Nat
  | [] => some 0
  | x :: xs => (deep x).bind fun a => (deeps xs).map fun b => max a b
end
def eqOk (x y : PV) : Bool := match deep x, deep y with
  | some a, some b => decide (min a b ≤ 60)
  | _, _ => false
/-- a dict's key: an int, a text, a tuple of these -/
def flatKey : PV → Bool
  | .int _ => true
  | .str _ => true
  | _ => false
def tupKey : PV → Bool
  | .tup xs => xs.all flatKey
  | _ => false
def keyEq : PV → PV → Bool
  | .int i, y => match y with | .int j => i == j | _ => false
  | .str a, y => match y with | .str b => a == b | _ => false
  | .tup xs, y => match y with | .tup ys => eqvs xs ys | _ => false
  | _, _ => false
/-- does the key fit the dict: all its keys of one sort -/
def keyFits (kvs : List (PV × PV)) (k : PV) : Bool :=
  (flatKey k && kvs.all fun p => flatKey p.1) || (tupKey k && !kvs.isEmpty && kvs.all fun p => tupKey p.1)
def look (kvs : List (PV × PV)) (k : PV) : Option PV := (kvs.find? fun p => keyEq p.1 k).map (·.2)
def put (kvs : List (PV × PV)) (k v : PV) : List (PV × PV) :=
  if kvs.any (fun p => keyEq p.1 k) then kvs.map (fun p => if keyEq p.1 k then (p.1, v) else p) else kvs ++ [(k, v)]
def drop (kvs : List (PV × PV)) (k : PV) : List (PV × PV) := kvs.filter fun p => !keyEq p.1 k
/-- the truth of a value -/
def truthy : PV → Option Bool
  | .non => some false
  | .bl b => some b
  | .int i => some (i != 0)
  | .str s => some (!s.isEmpty)
  | .tup xs => some (!xs.isEmpty)
  | .lst xs => some (!xs.isEmpty)
  | _ => none
/-- an index within, from the left or from behind -/
def ixAt (n : Nat) (i : Int) : Option Nat :=
  if 0 ≤ i then (if i < n then some i.toNat else none) else if -(n : Int) ≤ i then some (i + n).toNat else none
/-- an end of a slice -/
def clip (n d : Nat) : Option Int → Nat
  | none => d
  | some i => if i < 0 then (i + (n : Int)).toNat else min i.toNat n
def cut {α : Type} (xs : List α) (lo hi : Option Int) : List α :=
  (xs.drop (clip xs.length 0 lo)).take (clip xs.length xs.length hi - clip xs.length 0 lo)
/-- does the word stand at the head -/
def isPre : Txt → Txt → Bool
  | [], _ => true
  | _ :: _, [] => false
  | a :: w, b :: t => a == b && isPre w t
/-- the first place from i on -/
def findFrom (w : Txt) : Txt → Nat → Int
  | [], i => if w = [] then (i : Int) else -1
  | c :: t, i => if isPre w (c :: t) then (i : Int) else findFrom w t (i + 1)
def find (t w : Txt) : Int := findFrom w t 0
def isIn (w t : Txt) : Bool := decide (0 ≤ find t w)
def joinT (sep : Txt) : List Txt → Txt
  | [] => []
  | [p] => p
  | p :: q :: r => p ++ (sep ++ joinT sep (q :: r))
def strsV : List PV → Option (List Txt)
  | [] => some []
  | .str s :: r => (strsV r).map (s :: ·)
  | _ :: _ => none
def intsV : List PV → Option (List Int)
  | [] => some []
  | .int i :: r => (intsV r).map (i :: ·)
  | _ :: _ => none
def boolsV : List PV → Option (List Bool)
  | [] => some []
  | .bl b :: r => (boolsV r).map (b :: ·)
  | _ :: _ => none
/-- the order of texts -/
def ltT : Txt → Txt → Bool
  | [], [] => false
  | [], _ :: _ => true
  | _ :: _, [] => false
  | a :: s, b :: t => if a < b then true else if b < a then false else ltT s t
def leT (a b : Txt) : Bool := !ltT b a
/-- the order of words: by length, then as texts -/
def leW (a b : Txt) : Bool := if a.length < b.length then true else if b.length < a.length then false else leT a b

/-! ### operators -/
inductive BOp where | add | sub | mul | fdiv | mod | pow
  deriving DecidableEq
inductive COp where | eq | ne | lt | le | gt | ge | isin | notin | is | isnot
  deriving DecidableEq
/-- a product that the machine reckons -/
def mulOk (i j : Int) : Bool := decide (i.natAbs.log2 + j.natAbs.log2 < 1000000)
def binV : BOp → PV → PV → Option PV
  | .add, .int i, .int j => some (.int (i + j))
  | .add, .str a, .str b => if a.length + b.length ≤ line then some (.str (a ++ b)) else none
  | .add, .lst a, .lst b => if a.length + b.length ≤ line then some (.lst (a ++ b)) else none
  | .sub, .int i, .int j => some (.int (i - j))
  | .mul, .int i, .int j => if mulOk i j then some (.int (i * j)) else none
  | .mul, .str a, .int n => if a.length * n.toNat ≤ line ∧ -(2 ^ 62) ≤ n ∧ n < 2 ^ 62 then some (.str (List.replicate n.toNat a).flatten) else none
  | .fdiv, .int i, .int j => if 0 < j ∧ j.natAbs.log2 < 9000 then some (.int (i / j)) else none
  | .mod, .int i, .int j => if 0 < j then some (.int (i % j)) else none
  | .pow, .int i, .int j => if 0 ≤ j ∧ j ≤ 1000000 ∧ i.natAbs < 2 ^ 64 then some (.int (i ^ j.toNat)) else none
  | _, _, _ => none
/-- x op= y, of intsV and texts -/
def augV : BOp → PV → PV → Option PV
  | .add, .int i, .int j => some (.int (i + j))
  | .add, .str a, .str b => if a.length + b.length ≤ line then some (.str (a ++ b)) else none
  | .sub, .int i, .int j => some (.int (i - j))
  | _, _, _ => none
def flatS : PV → Bool
  | .non => true
  | .bl _ => true
  | .int _ => true
  | .str _ => true
  | _ => false
def inV (x : PV) : PV → Option Bool
  | .str t => match x with | .str w => some (isIn w t) | _ => none
  | .lst xs => if flatS x && xs.all flatS then some (xs.any fun y => eqv y x) else none
  | .tup xs => if flatS x && xs.all flatS then some (xs.any fun y => eqv y x) else none
  | .dic kvs => if keyFits kvs x then some (look kvs x).isSome else none
  | _ => none
def cmpV : COp → PV → PV → Option Bool
  | .eq, x, y => if eqOk x y then some (eqv x y) else none
  | .ne, x, y => if eqOk x y then some (!eqv x y) else none
  | .lt, .int i, .int j => some (decide (i < j))
  | .le, .int i, .int j => some (decide (i ≤ j))
  | .gt, .int i, .int j => some (decide (j < i))
  | .ge, .int i, .int j => some (decide (j ≤ i))
  | .lt, .str a, .str b => some (ltT a b)
  | .le, .str a, .str b => some (leT a b)
  | .gt, .str a, .str b => some (ltT b a)
  | .ge, .str a, .str b => some (leT b a)
  | .isin, x, y => inV x y
  | .notin, x, y => (inV x y).map (!·)
  | .is, x, .non => some (match x with | .non => true | _ => false)
  | .isnot, x, .non => some (match x with | .non => false | _ => true)
  | _, _, _ => none
/-- a[i] -/
def idxV : PV → PV → Option PV
  | .str s, .int i => (ixAt s.length i).bind fun j => (s[j]?).map fun c => .str [c]
  | .lst xs, .int i => (ixAt xs.length i).bind fun j => xs[j]?
  | .tup xs, .int i => (ixAt xs.length i).bind fun j => xs[j]?
  | .dic kvs, k => if keyFits kvs k then look kvs k else none
  | _, _ => none
def optI : PV → Option (Option Int)
  | .non => some none
  | .int i => some (some i)
  | _ => none
def slcX (a : PV) (l h : Option Int) : Option PV := match a with
  | .str s => some (.str (cut s l h))
  | .lst xs => some (.lst (cut xs l h))
  | _ => none
def slcV (a lo hi : PV) : Option PV := (optI lo).bind fun l => (optI hi).bind fun h => slcX a l h
/-- the types that isinstance asks for; own: any of these classes of objects; exc: any of these classes of exceptions -/
inductive Ty where
  | int | bool | str | list | tuple | dict | own (cs : List Nat) | exc (cs : List Nat)
def isTy (ω : Store) : PV → Ty → Option Bool
  | .non, _ => some false
  | .bl _, t => match t with | .bool => some true | .int => some true | _ => some false
  | .int _, t => match t with | .int => some true | _ => some false
  | .str _, t => match t with | .str => some true | _ => some false
  | .tup _, t => match t with | .tuple => some true | _ => some false
  | .lst _, t => match t with | .list => some true | _ => some false
  | .dic kvs, t => if kvs.all (fun p => flatKey p.1) then (match t with | .dict => some true | _ => some false) else none
  | .obj n, t => match t with | .own cs => (ω[n]?).map fun r => cs.contains r.cls | _ => none
  | .exc c _, t => match t with | .exc cs => some (cs.contains c) | _ => none

/-! ### built-ins -/
inductive BF where
  | len | int | abs | max | min | sum | list | tuple | dict | sorted | sortedW | sortedR | sortedSet | all | any | str | range
  deriving DecidableEq
inductive BM where
  | find | startswith | join | upper | get | values | replace | split | rfind | index | count | keys
  deriving DecidableEq
def charsOf (s : Txt) : List PV := s.map fun c => .str [c]
/-- what a walk over a value meets -/
def itemsOf : PV → Option (List PV)
  | .str s => some (charsOf s)
  | .lst xs => some xs
  | .tup xs => some xs
  | .dic kvs => if kvs.all (fun p => flatKey p.1) then some (kvs.map (·.1)) else none
  | _ => none
def insT (le : Txt → Txt → Bool) (x : Txt) : List Txt → List Txt
  | [] => [x]
  | y :: r => if le x y then x :: y :: r else y :: insT le x r
def numT (n : Nat) : Txt := (Nat.toDigits 10 n).map Char.toNat
def rowKey : PV → Option Txt
  | .tup (.str s :: _) => some s
  | _ => none
def rowKeys : List PV → Option (List (Txt × PV))
  | [] => some []
  | r :: rs => (rowKey r).bind fun k => (rowKeys rs).map ((k, r) :: ·)
def maxI : List Int → Option PV
  | [] => none
  | n :: r => some (.int (r.foldl Max.max n))
def minI : List Int → Option PV
  | [] => none
  | n :: r => some (.int (r.foldl Min.min n))
def sortP (le : Txt → Txt → Bool) (x : PV) : Option PV := (itemsOf x).bind fun xs => (strsV xs).map fun ws => .lst ((ws.mergeSort le).map .str)
def bfV : BF → List PV → Option PV
  | .len, [.str s] => some (.int s.length)
  | .len, [.lst xs] => some (.int xs.length)
  | .len, [.tup xs] => some (.int xs.length)
  | .len, [.dic kvs] => some (.int kvs.length)
  | .int, [.int i] => some (.int i)
  | .int, [.bl b] => some (.int (if b then 1 else 0))
  | .abs, [.int i] => some (.int (if i < 0 then -i else i))
  | .max, [.int i, .int j] => some (.int (if j > i then j else i))
  | .min, [.int i, .int j] => some (.int (if j < i then j else i))
  | .max, [.lst xs] => (intsV xs).bind maxI
  | .min, [.lst xs] => (intsV xs).bind minI
  | .sum, [.lst xs] => (intsV xs).map fun ns => .int ns.sum
  | .list, [x] => (itemsOf x).map .lst
  | .tuple, [x] => (itemsOf x).map .tup
  | .dict, [.dic kvs] => some (.dic kvs)
  | .sorted, [x] => sortP leT x
  | .sortedW, [x] => sortP leW x
  | .sortedR, [.lst xs] => (rowKeys xs).map fun ks => .lst ((ks.mergeSort fun a b => leW a.1 b.1).map (·.2))
  | .all, [.lst xs] => (boolsV xs).map fun bs => .bl (bs.all id)
  | .any, [.lst xs] => (boolsV xs).map fun bs => .bl (bs.any id)
  | .str, [.int i] => if i.natAbs.log2 < 1920 ∧ 0 ≤ i then some (.str (numT i.toNat)) else none
  | .str, [.str s] => some (.str s)
  | _, _ => none
def joinV (t : Txt) (ws : List Txt) : Option PV := if (ws.map List.length).sum + ws.length * t.length ≤ line then some (.str (joinT t ws)) else none
def bmV : BM → PV → List PV → Option PV
  | .find, .str t, [.str w] => some (.int (find t w))
  | .find, .str t, [.str w, .int i] => if 0 ≤ i ∧ i < 2 ^ 62 then some (.int (if t.length < i.toNat then -1 else findFrom w (t.drop i.toNat) i.toNat)) else none
  | .startswith, .str t, [.str w] => some (.bl (isPre w t))
  | .join, .str t, [.lst xs] => (strsV xs).bind (joinV t)
  | .join, .str t, [.tup xs] => (strsV xs).bind (joinV t)
  | .get, .dic kvs, [k] => if keyFits kvs k then some ((look kvs k).getD .non) else none
  | .get, .dic kvs, [k, d] => if keyFits kvs k then some ((look kvs k).getD d) else none
  | _, _, _ => none

/-! ### the IR -/
mutual
inductive E where
  | var (i : Nat) | con (x : PV) | tup (es : Es) | lst (es : Es) | dct (es : Es)
  | bin (op : BOp) (a b : E) | neg (a : E) | cmp (op : COp) (a b : E) | chn (o1 o2 : COp) (a b c : E)
  | andV (a b : E) | orV (a b : E) | notV (t : T) | ite (t : T) (a b : E)
  | fld (f : Nat) (o : E) | idxF (f : Nat) (o i : E) | cmpF (op : COp) (f : Nat) (o b : E) | inF (op : COp) (a : E) (f : Nat) (o : E) | bfF (b : BF) (f : Nat) (o : E) | idx (a i : E) | slc (a lo hi : E)
  | call (f : Fn) (es : Es) | meth (tb : List (Nat × Fn)) (o : E) (es : Es) | new (c : Nat) (f : Fn) (es : Es) | mkx (c : Nat) (es : Es)
  | bm (m : BM) (o : E) (es : Es) | bf1 (f : BF) (a : E) | bf2 (f : BF) (a b : E) | inst (a : E) (ts : List Ty)
  | comp (e : E) (tg : List Nat) (it : It) (c : T)
inductive Es where
  | nil | cons (e : E) (r : Es)
inductive T where
  | tt | val (e : E) | and (a b : T) | or (a b : T) | not (a : T)
inductive It where
  | val (e : E) | rng1 (a : E) | rng2 (a b : E) | rngD (a b : E) | enum (e : E) | zip (a b : E) | rev (e : E) | items (e : E) | values (e : E)
end

/-! ### names -/
def getV (ρ : Env) (i : Nat) : Option VM := (ρ[i]?).bind id
def setV (ρ : Env) (i : Nat) (v : VM) : Env := ρ.set i (some v)
/-- fresh things are handed on frozen -/
def Md.give : Md → Md
  | .own => .fz
  | .fz => .fz
  | .br => .br
  | .lv => .br
/-- may it be stored elsewhere -/
def keeps (v : VM) : Bool := !isC v.1 || match v.2 with | .own => true | .fz => true | .br => false | .lv => false
/-- what a def hands back -/
def told (v : VM) (ω : Store) : R VM := if keeps v then .ok v ω else .bad
/-- targets of a for, of an assignment -/
def assignT (ρ : Env) : List Nat → PV → Option Env
  | [i], x => some (setV ρ i (x, .fz))
  | is, .tup xs => if is.length = xs.length then some ((is.zip xs).foldl (fun ρ p => setV ρ p.1 (p.2, .fz)) ρ) else none
  | _, _ => none
/-- for x in xs: f -/
def foldC (f : PV → Store → R (Option PV)) : List PV → List PV → Store → R (List PV)
  | [], acc, ω => .ok acc ω
  | x :: xs, acc, ω => (f x ω).bind fun y ω => match y with
    | some y => if acc.length < line then foldC f xs (acc ++ [y]) ω else .bad
    | none => foldC f xs acc ω
/-- no exception leaves it -/
def R.calm {α : Type} : R α → R α
  | .ok a ω => .ok a ω
  | _ => .bad
/-- what a block sees of the names -/
def lendV (ρ : Env) : Env := ρ.map fun o => o.map fun v => (v.1, if v.2 = .own then .br else v.2)
def wipeV (ρ : Env) : List Nat → Env
  | [] => ρ
  | v :: vs => (wipeV ρ vs).set v none
/-- lo, lo + 1, .. -/
def upTo (lo : Int) (n : Nat) : List PV := (List.range n).map fun k => .int (lo + (k : Nat))
def downTo (hi : Int) (n : Nat) : List PV := (List.range n).map fun k => .int (hi - (k : Nat))
def small (i : Int) : Bool := decide (-(2 ^ 62) ≤ i ∧ i < 2 ^ 62)
/-- a mode is told of containers alone -/
def mk (x : PV) (m : Md) : VM := (x, if isC x then m else .fz)
def liftO (o : Option PV) (m : Md) (ω : Store) : R VM := match o with
  | some x => .ok (mk x m) ω
  | none => .bad
/-- a field -/
def fldV (ω : Store) (x : PV) (f : Nat) : Option PV := match x with
  | .obj n => (ω[n]?).bind fun r => r.flds.lookup f
  | .exc _ xs => xs[f]?
  | _ => none
def liftB (o : Option Bool) (ω : Store) : R VM := match o with
  | some b => .ok (.bl b, .fz) ω
  | none => .bad
/-- a display's pairs -/
def pairsV : List PV → Option (List (PV × PV))
  | [] => some []
  | k :: v :: r => (pairsV r).map ((k, v) :: ·)
  | _ => none
def dispV (xs : List PV) : Option PV := (pairsV xs).bind fun ps =>
  if ps.length ≤ 15 ∧ (ps.all fun p => flatKey p.1 || tupKey p.1) ∧ ((ps.all fun p => flatKey p.1) ∨ ps.length ≤ 1) then some (.dic (ps.foldl (fun d p => put d p.1 p.2) [])) else none

mutual
/-- an expression that calls no def -/
def pureE : E → Bool
  | .var _ => true
  | .con _ => true
  | .tup es => pureEs es
  | .lst es => pureEs es
  | .bin _ a b => pureE a && pureE b
  | .fld _ o => pureE o
  | .idxF _ o i => pureE o && pureE i
  | .idx a i => pureE a && pureE i
  | _ => false
def pureEs : Es → Bool
  | .nil => true
  | .cons e r => pureE e && pureEs r
end
def isVar : E → Bool
  | .var _ => true
  | _ => false
def isD : PV → Bool
  | .dic _ => true
  | _ => false
mutual
/-- what an expression yields -/
def ev : E → Env → Store → R VM
  | .var i, ρ, ω => match getV ρ i with
    | some (x, m) => .ok (x, if m = .own then .lv else m) ω
    | none => .bad
  | .con x, _, ω => .ok (x, .fz) ω
  | .tup es, ρ, ω => (evK es ρ ω).bind fun xs ω => .ok (.tup xs, .fz) ω
  | .lst es, ρ, ω => (evK es ρ ω).bind fun xs ω => .ok (.lst xs, .own) ω
  | .dct es, ρ, ω => (evK es ρ ω).bind fun xs ω => liftO (dispV xs) .own ω
  | .bin op a b, ρ, ω => (ev a ρ ω).bind fun x ω => (ev b ρ ω).bind fun y ω => liftO (binV op x.1 y.1) .own ω
  | .neg a, ρ, ω => (ev a ρ ω).bind fun x ω => match x.1 with | .int i => .ok (.int (-i), .fz) ω | _ => .bad
  | .cmp op a b, ρ, ω => (ev a ρ ω).bind fun x ω => (ev b ρ ω).bind fun y ω => liftB (cmpV op x.1 y.1) ω
  | .chn o1 o2 a b c, ρ, ω => (ev a ρ ω).bind fun x ω => (ev b ρ ω).bind fun y ω => match cmpV o1 x.1 y.1 with
    | some true => (ev c ρ ω).bind fun z ω => liftB (cmpV o2 y.1 z.1) ω
    | some false => .ok (.bl false, .fz) ω
    | none => .bad
  | .andV a b, ρ, ω => (ev a ρ ω).bind fun x ω => match x.1 with | .bl true => ev b ρ ω | .bl false => .ok (.bl false, .fz) ω | _ => .bad
  | .orV a b, ρ, ω => (ev a ρ ω).bind fun x ω => match x.1 with
    | .bl true => .ok (.bl true, .fz) ω
    | .bl false => ev b ρ ω
    | .str s => if s = [] then ev b ρ ω else .ok (.str s, .fz) ω
    | _ => .bad
  | .notV t, ρ, ω => (evT t ρ ω).bind fun b ω => .ok (.bl (!b), .fz) ω
  | .ite t a b, ρ, ω => (evT t ρ ω).bind fun c ω => if c then ev a ρ ω else ev b ρ ω
  | .fld f o, ρ, ω => (ev o ρ ω).bind fun x ω => (fldV ω x.1 f).elim .bad fun v => if isC v then .bad else .ok (v, .fz) ω
  | .idxF f o i, ρ, ω => (ev o ρ ω).bind fun x ω => (ev i ρ ω).bind fun y ω => (fldV ω x.1 f).elim .bad fun v => liftO (idxV v y.1) .fz ω
  | .cmpF op f o b, ρ, ω => (ev o ρ ω).bind fun x ω => (ev b ρ ω).bind fun y ω => (fldV ω x.1 f).elim .bad fun v => liftB (cmpV op v y.1) ω
  | .inF op a f o, ρ, ω => (ev a ρ ω).bind fun y ω => (ev o ρ ω).bind fun x ω => (fldV ω x.1 f).elim .bad fun v => liftB (cmpV op y.1 v) ω
  | .bfF g f o, ρ, ω => (ev o ρ ω).bind fun x ω => (fldV ω x.1 f).elim .bad fun v => liftO (bfV g [v]) .own ω
  | .idx a i, ρ, ω => (ev a ρ ω).bind fun x ω => (ev i ρ ω).bind fun y ω => liftO (idxV x.1 y.1) .fz ω
  | .slc a lo hi, ρ, ω => (ev a ρ ω).bind fun x ω => (ev lo ρ ω).bind fun l ω => if (optI l.1).isSome then (ev hi ρ ω).bind fun h ω => liftO (slcV x.1 l.1 h.1) .own ω else .bad
  | .call f es, ρ, ω => (evA es ρ ω).bind fun xs ω => (f xs ω).bind told
  | .meth tb o es, ρ, ω => (ev o ρ ω).bind fun x ω => match x.1 with
    | .obj n => match ω[n]? with
      | some r => match tb.lookup r.cls with
        | some f => (evA es ρ ω).bind fun xs ω => (f ((.obj n, .fz) :: xs) ω).bind told
        | none => .bad
      | none => .bad
    | _ => .bad
  | .new c f es, ρ, ω => (evA es ρ ω).bind fun xs ω => (f ((.obj ω.length, .fz) :: xs) (ω ++ [⟨c, []⟩])).bind fun _ ω' => .ok (.obj ω.length, .fz) ω'
  | .mkx c es, ρ, ω => (evK es ρ ω).bind fun xs ω => .ok (.exc c xs, .fz) ω
  | .bm m o es, ρ, ω => (ev o ρ ω).bind fun x ω => (evK es ρ ω).bind fun xs ω => liftO (bmV m x.1 xs) .fz ω
  | .bf1 f a, ρ, ω => (ev a ρ ω).bind fun x ω => liftO (bfV f [x.1]) .own ω
  | .bf2 f a b, ρ, ω => (ev a ρ ω).bind fun x ω => (ev b ρ ω).bind fun y ω => liftO (bfV f [x.1, y.1]) .own ω
  | .inst a ts, ρ, ω => (ev a ρ ω).bind fun x ω => liftB (ts.foldr (fun t b => b.bind fun b => (isTy ω x.1 t).map (· || b)) (some false)) ω
  | .comp e tg it c, ρ, ω => (evI false it ρ ω).bind fun xs ω => (foldC (fun x ω => match assignT (wipeV (lendV ρ) tg) tg x with
      | none => .bad
      | some ρ' => ((evT c ρ' ω).bind fun b ω => if b then (ev e ρ' ω).bind fun y ω => if keeps y then .ok (some y.1) ω else .bad else .ok none ω).calm) xs [] ω).bind fun ys ω => .ok (.lst ys, .own) ω
/-- items that are kept (of a display) -/
def evK : Es → Env → Store → R (List PV)
  | .nil, _, ω => .ok [] ω
  | .cons e r, ρ, ω => (ev e ρ ω).bind fun x ω => if keeps x then (evK r ρ ω).bind fun xs ω => .ok (x.1 :: xs) ω else .bad
/-- arguments of a def -/
def evA : Es → Env → Store → R (List VM)
  | .nil, _, ω => .ok [] ω
  | .cons e r, ρ, ω => (ev e ρ ω).bind fun x ω => (evA r ρ ω).bind fun xs ω => .ok ((x.1, x.2.give) :: xs) ω
def evT : T → Env → Store → R Bool
  | .tt, _, ω => .ok true ω
  | .val e, ρ, ω => (ev e ρ ω).bind fun x ω => match truthy x.1 with | some b => .ok b ω | none => .bad
  | .and a b, ρ, ω => (evT a ρ ω).bind fun x ω => if x then evT b ρ ω else .ok false ω
  | .or a b, ρ, ω => (evT a ρ ω).bind fun x ω => if x then .ok true ω else evT b ρ ω
  | .not a, ρ, ω => (evT a ρ ω).bind fun x ω => .ok (!x) ω
def evI (safe : Bool) : It → Env → Store → R (List PV)
  | .val e, ρ, ω => (ev e ρ ω).bind fun x ω => if safe && x.2 == .lv || isD x.1 && !isVar e then .bad else match itemsOf x.1 with | some xs => .ok xs ω | none => .bad
  | .rng1 a, ρ, ω => (ev a ρ ω).bind fun x ω => match x.1 with
    | .int j => if small j then .ok (upTo 0 j.toNat) ω else .bad
    | _ => .bad
  | .rng2 a b, ρ, ω => (ev a ρ ω).bind fun x ω => (ev b ρ ω).bind fun y ω => match x.1, y.1 with
    | .int i, .int j => if small i && small j then .ok (upTo i (j - i).toNat) ω else .bad
    | _, _ => .bad
  | .rngD a b, ρ, ω => (ev a ρ ω).bind fun x ω => (ev b ρ ω).bind fun y ω => match x.1, y.1 with
    | .int i, .int j => if small i && small j then .ok (downTo i (i - j).toNat) ω else .bad
    | _, _ => .bad
  | .enum e, ρ, ω => (ev e ρ ω).bind fun x ω => if safe && x.2 == .lv then .bad else match x.1 with
    | .lst xs => .ok (xs.zipIdx.map fun p => .tup [.int (p.2 : Nat), p.1]) ω
    | _ => .bad
  | .zip a b, ρ, ω => (ev a ρ ω).bind fun x ω => (ev b ρ ω).bind fun y ω => if safe && (x.2 == .lv || y.2 == .lv) then .bad else match x.1, y.1 with
    | .lst xs, .lst ys => .ok ((xs.zip ys).map fun p => .tup [p.1, p.2]) ω
    | _, _ => .bad
  | .rev e, ρ, ω => (ev e ρ ω).bind fun x ω => if safe && x.2 == .lv then .bad else match x.1 with
    | .lst xs => .ok xs.reverse ω
    | _ => .bad
  | .items e, ρ, ω => (ev e ρ ω).bind fun x ω => if safe && x.2 == .lv then .bad else match x.1 with
    | .dic kvs => if kvs.all (fun p => flatKey p.1) then .ok (kvs.map fun p => .tup [p.1, p.2]) ω else .bad
    | _ => .bad
  | .values e, ρ, ω => (ev e ρ ω).bind fun x ω => if safe && x.2 == .lv then .bad else match x.1 with
    | .dic kvs => if kvs.all (fun p => flatKey p.1) then .ok (kvs.map (·.2)) ω else .bad
    | _ => .bad
end

/-! ### statements -/
/-- a place that holds a container -/
inductive Pl where
  | var (i : Nat) | fld (i : Nat) (f : Nat)
mutual
inductive S where
  | expr (e : E) | set (i : Nat) (e : E) | setT (is : List Nat) (e : E) | par (i j : Nat) (a b : E) | aug (i : Nat) (op : BOp) (e : E)
  | put (p : Pl) (k e : E) | augP (p : Pl) (k : E) (op : BOp) (e : E) | fset (i : Nat) (f : Nat) (e : E)
  | app (p : Pl) (e : E) | ins (p : Pl) (i e : E) | clr (p : Pl) | rev (p : Pl)
  | pop (is : List Nat) (p : Pl) (es : Es) | appPop (p q : Pl) (e : E)
  | frz (is : List Nat) (s : S)
  | ifs (c : T) (a b : Ss) | whl (c : T) (b : Ss) | for_ (tg : List Nat) (it : It) (b : Ss)
  | ret (e : E) | retV (i : Nat) | rais (e : E) | try_ (b : Ss) (hs : Hs)
  | brk | cnt | pass
inductive Ss where
  | nil | cons (s : S) (r : Ss)
/-- clauses: the classes of exceptions, the name's slot, the suite -/
inductive Hs where
  | nil | cons (cs : List Nat) (i : Option Nat) (b : Ss) (r : Hs)
end

/-- the end of a statement -/
inductive F where
  | nx (ρ : Env) (ω : Store) | bk (ρ : Env) (ω : Store) | ct (ρ : Env) (ω : Store) | rt (v : VM) (ω : Store)
  | exc (c : Nat) (xs : List PV) (ρ : Env) (ω : Store) | bad
def F.seq (f : F) (k : Env → Store → F) : F := match f with
  | .nx ρ ω => k ρ ω
  | f => f
def R.to {α : Type} (r : R α) (ρ : Env) (k : α → Store → F) : F := match r with
  | .ok a ω => k a ω
  | .exc c xs ω => .exc c xs ρ ω
  | .bad => .bad
def freeze (ρ : Env) (i : Nat) : Env := match getV ρ i with
  | some (x, .own) => setV ρ i (x, .fz)
  | _ => ρ
/-- the container at a place -/
def plGet (p : Pl) (ρ : Env) (ω : Store) : R PV := match p with
  | .var i => match getV ρ i with
    | some (x, .own) => .ok x ω
    | _ => .bad
  | .fld i f => match getV ρ i with
    | some (.obj n, _) => match ω[n]? with
      | some r => match r.flds.lookup f with
        | some v => if isC v then .ok v ω else .bad
        | none => .bad
      | none => .bad
    | _ => .bad
def putF (f : Nat) (v : PV) : List (Nat × PV) → List (Nat × PV)
  | [] => [(f, v)]
  | (g, u) :: r => if g = f then (f, v) :: r else (g, u) :: putF f v r
def setF (ω : Store) (n f : Nat) (v : PV) : Store := match ω[n]? with
  | some r => ω.set n ⟨r.cls, putF f v r.flds⟩
  | none => ω
def plPut (p : Pl) (v : PV) (ρ : Env) (ω : Store) : F := match p with
  | .var i => .nx (setV ρ i (v, .own)) ω
  | .fld i f => match getV ρ i with
    | some (.obj n, _) => .nx ρ (setF ω n f v)
    | _ => .bad
/-- is there a list, a dict, to be changed -/
def plIs (k : PV → Bool) (p : Pl) (ρ : Env) (ω : Store) : Bool := match plGet p ρ ω with
  | .ok x _ => k x
  | _ => false
def isL : PV → Bool
  | .lst _ => true
  | _ => false
/-- are the arguments quiet (of a field's container) -/
def plE (p : Pl) (e : E) : Bool := match p with
  | .var _ => true
  | .fld _ _ => pureE e
def plEs (p : Pl) (e : Es) : Bool := match p with
  | .var _ => true
  | .fld _ _ => pureEs e
/-- x[k] = v -/
def storeV : PV → PV → PV → Option PV
  | .lst xs, .int i, v => (ixAt xs.length i).map fun j => .lst (xs.set j v)
  | .dic kvs, k, v => if keyFits kvs k ∧ kvs.length < line then some (.dic (put kvs k v)) else none
  | _, _, _ => none
/-- x.pop(..): what is told and what is left -/
def popV : PV → List PV → Option (PV × PV)
  | .lst xs, [] => (xs[xs.length - 1]?).map fun y => (y, .lst xs.dropLast)
  | .lst xs, [.int i] => if -(2 ^ 62) ≤ i ∧ i < 2 ^ 62 then (ixAt xs.length i).bind fun j => (xs[j]?).map fun y => (y, .lst (xs.eraseIdx j)) else none
  | .dic kvs, [k] => if flatKey k ∧ (kvs.all fun p => flatKey p.1) then (look kvs k).map fun y => (y, .dic (drop kvs k)) else none
  | _, _ => none
/-- the loop of a for -/
def forL (f : Env → Store → F) (tg : List Nat) : List PV → Env → Store → F
  | [], ρ, ω => .nx ρ ω
  | x :: xs, ρ, ω => match assignT ρ tg x with
    | none => .bad
    | some ρ' => match f ρ' ω with
      | .nx ρ ω => forL f tg xs ρ ω
      | .ct ρ ω => forL f tg xs ρ ω
      | .bk ρ ω => .nx ρ ω
      | r => r
/-- is a dict walked (it is locked the while: no exception may leave) -/
def lockI : It → Env → Bool
  | .val (.var i), ρ => match getV ρ i with
    | some (.dic _, _) => true
    | _ => false
  | .items _, _ => true
  | .values _, _ => true
  | _, _ => false
def F.calm (b : Bool) (f : F) : F := match f with
  | .exc c xs ρ ω => if b then .bad else .exc c xs ρ ω
  | f => f
/-- a while's turns, at most n -/
def whlN (c : Env → Store → R Bool) (f : Env → Store → F) : Nat → Env → Store → F
  | 0, _, _ => .bad
  | n + 1, ρ, ω => (c ρ ω).to ρ fun b ω => if b then (match f ρ ω with
      | .nx ρ ω => whlN c f n ρ ω
      | .ct ρ ω => whlN c f n ρ ω
      | .bk ρ ω => .nx ρ ω
      | r => r) else .nx ρ ω
open Classical in
noncomputable def whl (c : Env → Store → R Bool) (f : Env → Store → F) (ρ : Env) (ω : Store) : F :=
  if h : ∃ n, whlN c f n ρ ω ≠ .bad then whlN c f (choose h) ρ ω else .bad
/-- which clause takes an exception -/
def catch_ (c : Nat) (xs : List PV) (ρ : Env) (ω : Store) : List (List Nat × Option Nat × (Env → Store → F)) → F
  | [] => .exc c xs ρ ω
  | (cs, i, f) :: r => if cs.contains c then (match i with
      | none => f ρ ω
      | some i => match f (setV ρ i (.exc c xs, .fz)) ω with
        | .nx ρ ω => .nx (ρ.set i none) ω
        | .bk ρ ω => .bk (ρ.set i none) ω
        | .ct ρ ω => .ct (ρ.set i none) ω
        | r => r) else catch_ c xs ρ ω r
mutual
noncomputable def ex : S → Env → Store → F
  | .expr e, ρ, ω => (ev e ρ ω).to ρ fun _ ω => .nx ρ ω
  | .set i e, ρ, ω => (ev e ρ ω).to ρ fun x ω => if keeps x then .nx (setV ρ i x) ω else .bad
  | .setT is e, ρ, ω => (ev e ρ ω).to ρ fun x ω => match assignT ρ is x.1 with | some ρ => .nx ρ ω | none => .bad
  | .par i j a b, ρ, ω => (ev a ρ ω).to ρ fun x ω => if keeps x then (ev b ρ ω).to ρ fun y ω => if keeps y then .nx (setV (setV ρ i (x.1, .fz)) j (y.1, .fz)) ω else .bad else .bad
  | .aug i op e, ρ, ω => match getV ρ i with
    | some x => (ev e ρ ω).to ρ fun y ω => match augV op x.1 y.1 with
      | some z => .nx (setV ρ i (z, .fz)) ω
      | none => .bad
    | none => .bad
  | .put p k e, ρ, ω => (ev e ρ ω).to ρ fun v ω => if keeps v && plE p k then (ev k ρ ω).to ρ fun k ω => (plGet p ρ ω).to ρ fun x ω => match storeV x k.1 v.1 with
      | some x => plPut p x ρ ω
      | none => .bad
    else .bad
  | .augP p k op e, ρ, ω => if pureE k && plE p e then (ev k ρ ω).to ρ fun k ω => (plGet p ρ ω).to ρ fun x ω => match idxV x k.1 with
    | some old => (ev e ρ ω).to ρ fun v ω => match augV op old v.1 with
      | some z => match storeV x k.1 z with
        | some x => plPut p x ρ ω
        | none => .bad
      | none => .bad
    | none => .bad else .bad
  | .fset i f e, ρ, ω => (ev e ρ ω).to ρ fun v ω => match getV ρ i with
    | some (.obj n, _) => if isC v.1 && v.2 != .own then .bad else .nx ρ (setF ω n f v.1)
    | _ => .bad
  | .app p e, ρ, ω => if plIs isL p ρ ω && plE p e then (ev e ρ ω).to ρ fun v ω => if keeps v then (plGet p ρ ω).to ρ fun x ω => match x with
      | .lst xs => if xs.length < line then plPut p (.lst (xs ++ [v.1])) ρ ω else .bad
      | _ => .bad
    else .bad else .bad
  | .ins p i e, ρ, ω => if plIs isL p ρ ω && plE p i && plE p e then (ev i ρ ω).to ρ fun i ω => (ev e ρ ω).to ρ fun v ω => if keeps v then (plGet p ρ ω).to ρ fun x ω => match x, i.1 with
      | .lst xs, .int i => if 0 ≤ i ∧ i ≤ xs.length ∧ xs.length < line then plPut p (.lst (xs.take i.toNat ++ v.1 :: xs.drop i.toNat)) ρ ω else .bad
      | _, _ => .bad
    else .bad else .bad
  | .clr p, ρ, ω => (plGet p ρ ω).to ρ fun x ω => match x with
    | .lst _ => plPut p (.lst []) ρ ω
    | _ => .bad
  | .rev p, ρ, ω => (plGet p ρ ω).to ρ fun x ω => match x with
    | .lst xs => plPut p (.lst xs.reverse) ρ ω
    | _ => .bad
  | .pop is p es, ρ, ω => if plEs p es then (plGet p ρ ω).to ρ fun _ ω => (evK es ρ ω).to ρ fun ks ω => (plGet p ρ ω).to ρ fun x ω => match popV x ks with
    | some (y, x) => (plPut p x ρ ω).seq fun ρ ω => if is = [] then .nx ρ ω else (match assignT ρ is y with | some ρ => .nx ρ ω | none => .bad)
    | none => .bad
    else .bad
  | .appPop p q e, ρ, ω => (ev e ρ ω).to ρ fun k ω => (plGet q ρ ω).to ρ fun x ω => match popV x [k.1] with
    | some (y, x) => (plPut q x ρ ω).seq fun ρ ω => (plGet p ρ ω).to ρ fun x ω => match x with
      | .lst xs => if xs.length < line then plPut p (.lst (xs ++ [y])) ρ ω else .bad
      | _ => .bad
    | none => .bad
  | .frz is s, ρ, ω => ex s (is.foldl freeze ρ) ω
  | .ifs c a b, ρ, ω => (evT c ρ ω).to ρ fun t ω => if t then exs a ρ ω else exs b ρ ω
  | .whl c b, ρ, ω => whl (evT c) (exs b) ρ ω
  | .for_ tg it b, ρ, ω => ((evI true it ρ ω).to ρ fun xs ω => forL (exs b) tg xs ρ ω).calm (lockI it ρ)
  | .ret e, ρ, ω => (ev e ρ ω).to ρ fun x ω => if keeps x then .rt x ω else .bad
  | .retV i, ρ, ω => match getV ρ i with
    | some x => if keeps x then .rt x ω else .bad
    | none => .bad
  | .rais e, ρ, ω => (ev e ρ ω).to ρ fun x ω => match x.1 with
    | .exc c xs => .exc c xs ρ ω
    | _ => .bad
  | .try_ b hs, ρ, ω => match exs b ρ ω with
    | .exc c xs ρ ω => catch_ c xs ρ ω (exh hs)
    | f => f
  | .brk, ρ, ω => .bk ρ ω
  | .cnt, ρ, ω => .ct ρ ω
  | .pass, ρ, ω => .nx ρ ω
noncomputable def exs : Ss → Env → Store → F
  | .nil, ρ, ω => .nx ρ ω
  | .cons s r, ρ, ω => (ex s ρ ω).seq (exs r)
noncomputable def exh : Hs → List (List Nat × Option Nat × (Env → Store → F))
  | .nil => []
  | .cons cs i b r => (cs, i, exs b) :: exh r
end
/-- a def: its parameters, how many names, its body -/
noncomputable def den (np n : Nat) (b : Ss) : Fn := fun xs ω =>
  if xs.length = np then (match exs b (xs.map some ++ List.replicate (n - np) none) ω with
    | .nx _ ω => .ok (.non, .fz) ω
    | .rt v ω => .ok v ω
    | .exc c xs _ ω => .exc c xs ω
    | _ => .bad) else .bad
end PVL

set_option maxHeartbeats 1000000
/-! PVS: how plain values stand in the machine's heap. -/
namespace PVS
open PySem L2 PVL

/-- what is fixed of a program: its written part, its classes and their fields' names, its exceptions -/
structure GS where
  K : PySem.W.Frag
  cl : Nat → Addr
  fnm : Nat → Str
  xcl : Nat → Addr
  xfs : Nat → List Nat
  inj : ∀ f g, fnm f = fnm g → f = g

abbrev mkS (s : Txt) : Str := ⟨s.toArray⟩
/-- a text as the machine has it: not too long, of code points -/
def okT (s : Txt) : Prop := s.length ≤ line ∧ ∀ c ∈ s, c < 0x110000
/-- a key as a plain value -/
def kP : Key → PV
  | .inl i => .int i
  | .inr s => .str s.cps.toList

/-- what may be read as u where Z says u: it is u, or a dict that is walked just now -/
def At (H : Hp) (a : Addr) (u : HO) : Prop := H a = some u ∨ (Mut (some u) ∧ ∃ o, H a = some (.frz o u))
theorem At.rd {H : Hp} {a : Addr} {u : HO} (h : At H a u) : Rd H a u := by
  rcases h with h | ⟨_, o, h⟩
  · exact .inl h
  · exact .inr ⟨o, h⟩
/-- Z within H -/
def Sub (Z H : Hp) : Prop := ∀ a u, Z a = some u → At H a u
theorem Sub.sqL {K : PySem.W.Frag} {Z H : Hp} (s : Sub Z H) {a : Addr} {xs : List V} (h : SqL K Z a xs) : SqL K H a xs := by
  rcases h with (h | ⟨o, h⟩) | h
  · exact .inl (s a _ h).rd
  · rcases s a _ h with q | ⟨m, _⟩
    · exact .inl (.inr ⟨o, q⟩)
    · exact m.elim
  · exact .inr h
theorem Sub.sqT {K : PySem.W.Frag} {Z H : Hp} (s : Sub Z H) {a : Addr} {xs : List V} (h : SqT K Z a xs) : SqT K H a xs := by
  rcases h with (h | ⟨o, h⟩) | h
  · exact .inl (s a _ h).rd
  · rcases s a _ h with q | ⟨m, _⟩
    · exact .inl (.inr ⟨o, q⟩)
    · exact m.elim
  · exact .inr h
theorem Same.sqT {K : PySem.W.Frag} {Z H : Hp} (s : Same Z H) {a : Addr} {xs : List V} (h : SqT K Z a xs) : SqT K H a xs := by
  rcases h with (h | ⟨o, h⟩) | h
  · exact .inl (.inl (s a _ h))
  · exact .inl (.inr ⟨o, s a _ h⟩)
  · exact .inr h

mutual
/-- a value that never changes any more -/
inductive RV (G : GS) (Z : Hp) (ι : List (Addr × Addr)) : V → PV → Prop
  | non : RV G Z ι .non .non
  | bl (b : Bool) : RV G Z ι (.bl b) (.bl b)
  | int (i : Int) : RV G Z ι (.int i) (.int i)
  | str (s : Txt) : okT s → RV G Z ι (.str (mkS s)) (.str s)
  | tup {a : Addr} {vs : List V} {xs : List PV} : Z a = some (.tup vs) → RVs G Z ι vs xs → RV G Z ι (.ref a) (.tup xs)
  | lst {a : Addr} {vs : List V} {xs : List PV} : Rd Z a (.lst vs) → RVs G Z ι vs xs → RV G Z ι (.ref a) (.lst xs)
  | dK {a : Addr} {kvs : List (Key × V)} {ps : List (PV × PV)} : Z a = some (.dK kvs) → RK G Z ι kvs ps → RV G Z ι (.ref a) (.dic ps)
  | dT {a : Addr} {kvs : List (List Key × V)} {ps : List (PV × PV)} : Z a = some (.dT kvs) → RT G Z ι kvs ps → kvs ≠ [] → RV G Z ι (.ref a) (.dic ps)
  | obj {a dx : Addr} {n : Nat} : ι[n]? = some (a, dx) → RV G Z ι (.ref a) (.obj n)
inductive RVs (G : GS) (Z : Hp) (ι : List (Addr × Addr)) : List V → List PV → Prop
  | nil : RVs G Z ι [] []
  | cons {v : V} {x : PV} {vs : List V} {xs : List PV} : RV G Z ι v x → RVs G Z ι vs xs → RVs G Z ι (v :: vs) (x :: xs)
inductive RK (G : GS) (Z : Hp) (ι : List (Addr × Addr)) : List (Key × V) → List (PV × PV) → Prop
  | nil : RK G Z ι [] []
  | cons {k : Key} {v : V} {x : PV} {vs : List (Key × V)} {xs : List (PV × PV)} : RV G Z ι v x → (∀ s, k = .inr s → okT s.cps.toList) → RK G Z ι vs xs → RK G Z ι ((k, v) :: vs) ((kP k, x) :: xs)
inductive RT (G : GS) (Z : Hp) (ι : List (Addr × Addr)) : List (List Key × V) → List (PV × PV) → Prop
  | nil : RT G Z ι [] []
  | cons {k : List Key} {v : V} {x : PV} {vs : List (List Key × V)} {xs : List (PV × PV)} : RV G Z ι v x → (∀ s, Sum.inr s ∈ k → okT s.cps.toList) → RT G Z ι vs xs → RT G Z ι ((k, v) :: vs) ((.tup (k.map kP), x) :: xs)
end

/-- the content of a container that may change -/
inductive RO (G : GS) (Z : Hp) (ι : List (Addr × Addr)) : HO → PV → Prop
  | lst {vs : List V} {xs : List PV} : RVs G Z ι vs xs → RO G Z ι (.lst vs) (.lst xs)
  | dK {kvs : List (Key × V)} {ps : List (PV × PV)} : RK G Z ι kvs ps → RO G Z ι (.dK kvs) (.dic ps)
  | dT {kvs : List (List Key × V)} {ps : List (PV × PV)} : RT G Z ι kvs ps → kvs ≠ [] → RO G Z ι (.dT kvs) (.dic ps)

theorem rd_mono {Z Z' : Hp} (hz : Same Z Z') {a : Addr} {u : HO} (h : Rd Z a u) : Rd Z' a u := by
  rcases h with h | ⟨o, h⟩
  · exact .inl (hz _ _ h)
  · exact .inr ⟨o, hz _ _ h⟩
theorem Sub.rdl {Z H : Hp} (s : Sub Z H) {a : Addr} {xs : List V} (h : Rd Z a (.lst xs)) : Rd H a (.lst xs) := by
  rcases h with h | ⟨o, h⟩
  · exact (s a _ h).rd
  · rcases s a _ h with q | ⟨m, _⟩
    · exact .inr ⟨o, q⟩
    · exact m.elim
theorem Sub.tup {Z H : Hp} (s : Sub Z H) {a : Addr} {xs : List V} (h : Z a = some (.tup xs)) : H a = some (.tup xs) := by
  rcases s a _ h with q | ⟨m, _⟩
  · exact q
  · exact m.elim
theorem pre_get {α : Type} {l l' : List α} {n : Nat} {x : α} (hi : l <+: l') (h : l[n]? = some x) : l'[n]? = some x := by
  obtain ⟨t, rfl⟩ := hi
  rw [List.getElem?_append_left (List.getElem?_eq_some_iff.mp h).1]
  exact h
section
variable {G : GS} {Z Z' : Hp} {ι ι' : List (Addr × Addr)}
mutual
theorem RV.mono (hz : Same Z Z') (hi : ι <+: ι') : ∀ {v : V} {x : PV}, RV G Z ι v x → RV G Z' ι' v x
  | _, _, .non => .non
  | _, _, .bl b => .bl b
  | _, _, .int i => .int i
  | _, _, .str s h => .str s h
  | _, _, .tup h r => .tup (hz _ _ h) (RVs.mono hz hi r)
  | _, _, .lst h r => .lst (rd_mono hz h) (RVs.mono hz hi r)
  | _, _, .dK h r => .dK (hz _ _ h) (RK.mono hz hi r)
  | _, _, .dT h r e => .dT (hz _ _ h) (RT.mono hz hi r) e
  | _, _, .obj h => .obj (pre_get hi h)
theorem RVs.mono (hz : Same Z Z') (hi : ι <+: ι') : ∀ {vs : List V} {xs : List PV}, RVs G Z ι vs xs → RVs G Z' ι' vs xs
  | _, _, .nil => .nil
  | _, _, .cons h r => .cons (RV.mono hz hi h) (RVs.mono hz hi r)
theorem RK.mono (hz : Same Z Z') (hi : ι <+: ι') : ∀ {vs : List (Key × V)} {xs : List (PV × PV)}, RK G Z ι vs xs → RK G Z' ι' vs xs
  | _, _, .nil => .nil
  | _, _, .cons h k r => .cons (RV.mono hz hi h) k (RK.mono hz hi r)
theorem RT.mono (hz : Same Z Z') (hi : ι <+: ι') : ∀ {vs : List (List Key × V)} {xs : List (PV × PV)}, RT G Z ι vs xs → RT G Z' ι' vs xs
  | _, _, .nil => .nil
  | _, _, .cons h k r => .cons (RV.mono hz hi h) k (RT.mono hz hi r)
end
theorem RO.mono (hz : Same Z Z') (hi : ι <+: ι') {o : HO} {x : PV} : RO G Z ι o x → RO G Z' ι' o x
  | .lst r => .lst (r.mono hz hi)
  | .dK r => .dK (r.mono hz hi)
  | .dT r e => .dT (r.mono hz hi) e
theorem RO.isC {o : HO} {x : PV} : RO G Z ι o x → isC x = true
  | .lst _ => rfl
  | .dK _ => rfl
  | .dT _ _ => rfl
theorem RO.mut {o : HO} {x : PV} : RO G Z ι o x → Mut (some o)
  | .lst _ => trivial
  | .dK _ => trivial
  | .dT _ _ => trivial
/-- frozen where it stands -/
theorem RO.fz {o : HO} {x : PV} {a : Addr} (h : Z a = some o) : RO G Z ι o x → RV G Z ι (.ref a) x
  | .lst r => .lst (.inl h) r
  | .dK r => .dK h r
  | .dT r e => .dT h r e
theorem RVs.len {vs : List V} {xs : List PV} : RVs G Z ι vs xs → vs.length = xs.length
  | .nil => rfl
  | .cons _ r => congrArg (· + 1) r.len
theorem RK.len {vs : List (Key × V)} {xs : List (PV × PV)} : RK G Z ι vs xs → vs.length = xs.length
  | .nil => rfl
  | .cons _ _ r => congrArg (· + 1) r.len
theorem RT.len {vs : List (List Key × V)} {xs : List (PV × PV)} : RT G Z ι vs xs → vs.length = xs.length
  | .nil => rfl
  | .cons _ _ r => congrArg (· + 1) r.len
theorem RVs.get {i : Nat} : ∀ {vs : List V} {xs : List PV}, RVs G Z ι vs xs → ∀ {x : PV}, xs[i]? = some x → ∃ v, vs[i]? = some v ∧ RV G Z ι v x := by
  induction i with
  | zero =>
    intro vs xs h x e
    cases h with
    | nil => cases e
    | cons r _ => cases e; exact ⟨_, rfl, r⟩
  | succ i ih =>
    intro vs xs h x e
    cases h with
    | nil => cases e
    | cons _ r => exact ih r e
theorem RVs.get' {i : Nat} : ∀ {vs : List V} {xs : List PV}, RVs G Z ι vs xs → ∀ {v : V}, vs[i]? = some v → ∃ x, xs[i]? = some x ∧ RV G Z ι v x := by
  induction i with
  | zero =>
    intro vs xs h x e
    cases h with
    | nil => cases e
    | cons r _ => cases e; exact ⟨_, rfl, r⟩
  | succ i ih =>
    intro vs xs h x e
    cases h with
    | nil => cases e
    | cons _ r => exact ih r e
theorem RVs.app {vs ws : List V} {xs ys : List PV} (h : RVs G Z ι vs xs) (h' : RVs G Z ι ws ys) : RVs G Z ι (vs ++ ws) (xs ++ ys) := by
  induction vs generalizing xs with
  | nil => cases h; exact h'
  | cons v vs ih => cases h with | cons r t => exact .cons r (ih t)
theorem RVs.snoc {vs : List V} {xs : List PV} {v : V} {x : PV} (h : RVs G Z ι vs xs) (r : RV G Z ι v x) : RVs G Z ι (vs ++ [v]) (xs ++ [x]) := h.app (.cons r .nil)
theorem RVs.drop {vs : List V} {xs : List PV} (n : Nat) (h : RVs G Z ι vs xs) : RVs G Z ι (vs.drop n) (xs.drop n) := by
  induction n generalizing vs xs with
  | zero => exact h
  | succ n ih => cases h with | nil => exact .nil | cons _ t => exact ih t
theorem RVs.take {vs : List V} {xs : List PV} (n : Nat) (h : RVs G Z ι vs xs) : RVs G Z ι (vs.take n) (xs.take n) := by
  induction n generalizing vs xs with
  | zero => exact .nil
  | succ n ih => cases h with | nil => exact .nil | cons r t => exact .cons r (ih t)
theorem RVs.set {vs : List V} {xs : List PV} {v : V} {x : PV} (n : Nat) (h : RVs G Z ι vs xs) (r : RV G Z ι v x) : RVs G Z ι (vs.set n v) (xs.set n x) := by
  induction n generalizing vs xs with
  | zero => cases h with | nil => exact .nil | cons _ t => exact .cons r t
  | succ n ih => cases h with | nil => exact .nil | cons q t => exact .cons q (ih t)
theorem RVs.erase {vs : List V} {xs : List PV} (n : Nat) (h : RVs G Z ι vs xs) : RVs G Z ι (vs.eraseIdx n) (xs.eraseIdx n) := by
  induction n generalizing vs xs with
  | zero => cases h with | nil => exact .nil | cons _ t => exact t
  | succ n ih => cases h with | nil => exact .nil | cons q t => exact .cons q (ih t)
theorem RVs.rev {vs : List V} {xs : List PV} (h : RVs G Z ι vs xs) : RVs G Z ι vs.reverse xs.reverse := by
  induction vs generalizing xs with
  | nil => cases h; exact .nil
  | cons v vs ih => cases h with | cons r t => rw [List.reverse_cons, List.reverse_cons]; exact (ih t).snoc r
theorem RVs.dropLast {vs : List V} {xs : List PV} (h : RVs G Z ι vs xs) : RVs G Z ι vs.dropLast xs.dropLast := by
  rw [List.dropLast_eq_take, List.dropLast_eq_take, h.len]; exact h.take _
theorem RVs.strsV {vs : List V} {xs : List PV} {ws : List Txt} (h : RVs G Z ι vs xs) (e : PVL.strsV xs = some ws) : vs = (ws.map mkS).map V.str ∧ xs = ws.map PV.str ∧ ∀ w ∈ ws, okT w := by
  induction vs generalizing xs ws with
  | nil => cases h; cases e; exact ⟨rfl, rfl, fun _ h => by cases h⟩
  | cons v vs ih =>
    cases h with
    | cons r t =>
      cases r <;> simp only [PVL.strsV, Option.map_eq_some_iff, reduceCtorEq] at e
      obtain ⟨w, e1, rfl⟩ := e
      obtain ⟨h1, h2, h3⟩ := ih t e1
      refine ⟨by rw [h1]; rfl, by rw [h2]; rfl, fun u hu => ?_⟩
      rcases List.mem_cons.mp hu with rfl | hu
      · assumption
      · exact h3 u hu
theorem RVs.intsV {vs : List V} {xs : List PV} {ws : List Int} (h : RVs G Z ι vs xs) (e : PVL.intsV xs = some ws) : vs = ws.map V.int ∧ xs = ws.map PV.int := by
  induction vs generalizing xs ws with
  | nil => cases h; cases e; exact ⟨rfl, rfl⟩
  | cons v vs ih =>
    cases h with
    | cons r t =>
      cases r <;> simp only [PVL.intsV, Option.map_eq_some_iff, reduceCtorEq] at e
      obtain ⟨w, e1, rfl⟩ := e
      obtain ⟨h1, h2⟩ := ih t e1
      exact ⟨by rw [h1]; rfl, by rw [h2]; rfl⟩
theorem RVs.boolsV {vs : List V} {xs : List PV} {ws : List Bool} (h : RVs G Z ι vs xs) (e : PVL.boolsV xs = some ws) : vs = ws.map V.bl ∧ xs = ws.map PV.bl := by
  induction vs generalizing xs ws with
  | nil => cases h; cases e; exact ⟨rfl, rfl⟩
  | cons v vs ih =>
    cases h with
    | cons r t =>
      cases r <;> simp only [PVL.boolsV, Option.map_eq_some_iff, reduceCtorEq] at e
      obtain ⟨w, e1, rfl⟩ := e
      obtain ⟨h1, h2⟩ := ih t e1
      exact ⟨by rw [h1]; rfl, by rw [h2]; rfl⟩
end

/-! ### who holds what may change -/
inductive Ow where
  | slot (i : Nat) | ins (n : Nat) | dct (n : Nat) | fld (n j : Nat)
/-- what a field holds -/
def FR (G : GS) (Z : Hp) (ι : List (Addr × Addr)) (H : Hp) (v : V) (x : PV) : Prop :=
  if isC x = true then ∃ a o, v = .ref a ∧ H a = some o ∧ RO G Z ι o x else RV G Z ι v x
inductive FsR (G : GS) (Z : Hp) (ι : List (Addr × Addr)) (H : Hp) : List (Nat × PV) → List (Str × V) → Prop
  | nil : FsR G Z ι H [] []
  | cons {f : Nat} {x : PV} {v : V} {xs : List (Nat × PV)} {vs : List (Str × V)} : FR G Z ι H v x → FsR G Z ι H xs vs → FsR G Z ι H ((f, x) :: xs) ((G.fnm f, v) :: vs)
def owA (G : GS) (H : Hp) (ι : List (Addr × Addr)) (ω : PVL.Store) (ρ : PVL.Env) (σ : St) : Ow → Addr → Prop
  | .slot i, a => (∃ x, ρ[i]? = some (some (x, .own))) ∧ σ[i]? = some (some (.ref a))
  | .ins n, a => ∃ dx, ι[n]? = some (a, dx)
  | .dct n, a => ∃ b, ι[n]? = some (b, a)
  | .fld n j, a => ∃ b dx C fs nm r f x, ι[n]? = some (b, dx) ∧ H b = some (.ins C dx fs) ∧ fs[j]? = some (nm, .ref a) ∧ ω[n]? = some r ∧ r.flds[j]? = some (f, x) ∧ isC x = true
/-- what a slot holds -/
def SR (G : GS) (Z B H : Hp) (ι : List (Addr × Addr)) (v : V) (x : PV) : Md → Prop
  | .own => ∃ a o, v = .ref a ∧ H a = some o ∧ RO G Z ι o x
  | .fz => RV G Z ι v x
  | .br => RV G Z ι v x ∨ ∃ a o, v = .ref a ∧ B a = some o ∧ RO G Z ι o x
  | .lv => False

structure Sim (G : GS) (Z B H : Hp) (ι : List (Addr × Addr)) (ω : PVL.Store) (ρ : PVL.Env) (σ : St) : Prop where
  zH : Sub Z H
  bH : Sub B H
  iL : ι.length = ω.length
  ob : ∀ (n : Nat) (r : PVL.Rec), ω[n]? = some r → ∃ b dx fs, ι[n]? = some (b, dx) ∧ H b = some (.ins (G.cl r.cls) dx fs) ∧ H dx = some (.own b) ∧ FsR G Z ι H r.flds fs
  sl : ∀ (i : Nat) (x : PV) (m : Md), ρ[i]? = some (some (x, m)) → ∃ v, σ[i]? = some (some v) ∧ SR G Z B H ι v x m
  len : ρ.length = σ.length
  inj : ∀ k k' a, owA G H ι ω ρ σ k a → owA G H ι ω ρ σ k' a → k = k'
  zno : ∀ k a, owA G H ι ω ρ σ k a → Z a = none ∧ B a = none
  zb : ∀ a o, B a = some o → Z a = none

/-- what comes behind, seen from a def's own place: what is frozen and what P tells stands as it stood -/
structure Ext (Z Z' : Hp) (P : Addr → Prop) (ι ι' : List (Addr × Addr)) (H H' : Hp) : Prop where
  z : Same Z Z'
  i : ι <+: ι'
  k : ∀ a, Z a ≠ none ∨ P a → H' a = H a
theorem Ext.refl {Z H : Hp} {P : Addr → Prop} {ι : List (Addr × Addr)} : Ext Z Z P ι ι H H := ⟨Same.refl _, List.prefix_refl _, fun _ _ => rfl⟩
theorem Ext.trans {Z Z1 Z2 H H1 H2 : Hp} {P : Addr → Prop} {ι ι1 ι2 : List (Addr × Addr)} (a : Ext Z Z1 P ι ι1 H H1) (b : Ext Z1 Z2 P ι1 ι2 H1 H2) : Ext Z Z2 P ι ι2 H H2 :=
  ⟨a.z.trans b.z, a.i.trans b.i, fun c h => (b.k c (h.imp (fun q => by
    cases e : Z c with
    | none => exact absurd e q
    | some o => rw [a.z c o e]; simp) id)).trans (a.k c h)⟩
theorem Ext.imp {Z Z1 H H1 : Hp} {P P' : Addr → Prop} {ι ι1 : List (Addr × Addr)} (a : Ext Z Z1 P ι ι1 H H1) (h : ∀ a, P' a → P a) : Ext Z Z1 P' ι ι1 H H1 := ⟨a.z, a.i, fun c q => a.k c (q.imp id (h c))⟩
/-- what is borrowed; and what the names hold, too -/
def PB (B : Hp) : Addr → Prop := fun a => B a ≠ none
def PO (B : Hp) (ρ : PVL.Env) (σ : St) : Addr → Prop := fun a => B a ≠ none ∨ ∃ (i : Nat) (x : PV), ρ[i]? = some (some (x, Md.own)) ∧ σ[i]? = some (some (V.ref a))
theorem Ext.pb {Z Z1 B H H1 : Hp} {ρ : PVL.Env} {σ : St} {ι ι1 : List (Addr × Addr)} (a : Ext Z Z1 (PO B ρ σ) ι ι1 H H1) : Ext Z Z1 (PB B) ι ι1 H H1 := a.imp fun _ h => .inl h

section
variable {G : GS} {Z Z' B H H' : Hp} {ι ι' : List (Addr × Addr)} {ω : PVL.Store} {ρ : PVL.Env} {σ : St}
theorem FsR.get {xs : List (Nat × PV)} {vs : List (Str × V)} (h : FsR G Z ι H xs vs) : ∀ {j : Nat} {f : Nat} {x : PV}, xs[j]? = some (f, x) → ∃ v, vs[j]? = some (G.fnm f, v) ∧ FR G Z ι H v x := by
  induction h with
  | nil => intro j f x e; simp at e
  | @cons f' x' v' xs' vs' r _ ih =>
    intro j f x e
    cases j with
    | zero => simp only [List.getElem?_cons_zero, Option.some.injEq, Prod.mk.injEq] at e; obtain ⟨rfl, rfl⟩ := e; exact ⟨_, rfl, r⟩
    | succ j => exact ih e
theorem FsR.imp {xs : List (Nat × PV)} {vs : List (Str × V)} (h : FsR G Z ι H xs vs) (hz : Same Z Z') (hi : ι <+: ι')
    (k : ∀ (j : Nat) (f : Nat) (x : PV) (nm : Str) (a : Addr) (o : HO), xs[j]? = some (f, x) → vs[j]? = some (nm, .ref a) → isC x = true → H a = some o → H' a = some o) : FsR G Z' ι' H' xs vs := by
  induction h with
  | nil => exact .nil
  | @cons f' x' v' xs' vs' r _ ih =>
    refine .cons ?_ (ih fun j f x nm a o h1 h2 h3 h4 => k (j + 1) f x nm a o h1 h2 h3 h4)
    unfold FR at r ⊢
    split
    · rename_i hc
      rw [if_pos hc] at r
      obtain ⟨a, o, rfl, e, q⟩ := r
      exact ⟨a, o, rfl, k 0 f' x' _ a o rfl rfl hc e, q.mono hz hi⟩
    · rename_i hc
      rw [if_neg hc] at r
      exact r.mono hz hi
theorem FsR.mono {xs : List (Nat × PV)} {vs : List (Str × V)} (h : FsR G Z ι H xs vs) (hz : Same Z Z') (hi : ι <+: ι') (s : Same H H') : FsR G Z' ι' H' xs vs := h.imp hz hi fun _ _ _ _ a o _ _ _ e => s a o e
theorem FsR.len {xs : List (Nat × PV)} {vs : List (Str × V)} (h : FsR G Z ι H xs vs) : xs.length = vs.length := by
  induction h with
  | nil => rfl
  | cons _ _ ih => simp [ih]
theorem FsR.lookup {xs : List (Nat × PV)} {vs : List (Str × V)} (h : FsR G Z ι H xs vs) {f : Nat} : ∀ {x : PV}, xs.lookup f = some x → ∃ v, vs.lookup (G.fnm f) = some v ∧ FR G Z ι H v x ∧ ∃ j : Nat, xs[j]? = some (f, x) ∧ vs[j]? = some (G.fnm f, v) := by
  induction h with
  | nil => intro x e; simp at e
  | @cons f' x' v' xs' vs' r _ ih =>
    intro x e
    rw [List.lookup_cons] at e
    by_cases hf : f = f'
    · subst hf
      simp only [beq_self_eq_true] at e
      cases e
      exact ⟨v', by simp [List.lookup_cons], r, 0, rfl, rfl⟩
    · have e1 : (f == f') = false := by simpa using hf
      have e2 : (G.fnm f == G.fnm f') = false := by simpa using fun z => hf (G.inj _ _ z)
      rw [e1] at e
      obtain ⟨v, h1, h2, j, h3, h4⟩ := ih e
      exact ⟨v, by rw [List.lookup_cons, e2]; exact h1, h2, j + 1, h3, h4⟩
theorem FsR.lookup_none {xs : List (Nat × PV)} {vs : List (Str × V)} (h : FsR G Z ι H xs vs) {f : Nat} (e : xs.lookup f = none) : vs.lookup (G.fnm f) = none := by
  induction h with
  | nil => rfl
  | @cons f' x' v' xs' vs' r _ ih =>
    rw [List.lookup_cons] at e
    by_cases hf : f = f'
    · subst hf
      simp at e
    · have e1 : (f == f') = false := by simpa using hf
      have e2 : (G.fnm f == G.fnm f') = false := by simpa using fun z => hf (G.inj _ _ z)
      rw [e1] at e
      rw [List.lookup_cons, e2]
      exact ih e
/-- the names of the fields are none but the class's -/
theorem FsR.names {xs : List (Nat × PV)} {vs : List (Str × V)} (h : FsR G Z ι H xs vs) {m : Str} (hm : ∀ f, m ≠ G.fnm f) : vs.lookup m = none := by
  induction h with
  | nil => rfl
  | @cons f' x' v' xs' vs' r _ ih =>
    have e2 : (m == G.fnm f') = false := by simpa using hm f'
    rw [List.lookup_cons, e2]
    exact ih

/-! ### what stands in a Sim -/
theorem sub_some {Z H : Hp} (s : Sub Z H) {a : Addr} {u : HO} (h : Z a = some u) : ∃ o, H a = some o := by
  rcases s a u h with q | ⟨_, o, q⟩
  · exact ⟨_, q⟩
  · exact ⟨_, q⟩
theorem sub_none {Z H : Hp} (s : Sub Z H) {a : Addr} (h : H a = none) : Z a = none := by
  cases e : Z a with
  | none => rfl
  | some u =>
    obtain ⟨o, q⟩ := sub_some s e
    rw [h] at q; cases q
theorem Sim.owSome (S : Sim G Z B H ι ω ρ σ) {k : Ow} {a : Addr} (h : owA G H ι ω ρ σ k a) : ∃ o, H a = some o := by
  cases k with
  | slot i =>
    obtain ⟨⟨x, e⟩, e2⟩ := h
    obtain ⟨v, e3, b, o, rfl, e4, _⟩ := S.sl i x .own e
    rw [e2] at e3; cases e3
    exact ⟨o, e4⟩
  | ins n =>
    obtain ⟨dx, e⟩ := h
    have hn : n < ω.length := by rw [← S.iL]; exact (List.getElem?_eq_some_iff.mp e).1
    obtain ⟨b, dx', fs, e1, e2, _⟩ := S.ob n ω[n] (List.getElem?_eq_getElem hn)
    rw [e] at e1; cases e1
    exact ⟨_, e2⟩
  | dct n =>
    obtain ⟨dx, e⟩ := h
    have hn : n < ω.length := by rw [← S.iL]; exact (List.getElem?_eq_some_iff.mp e).1
    obtain ⟨b, dx', fs, e1, _, e2, _⟩ := S.ob n ω[n] (List.getElem?_eq_getElem hn)
    rw [e] at e1; cases e1
    exact ⟨_, e2⟩
  | fld n j =>
    obtain ⟨b, dx, C, fs, nm, r, f, x, e1, e2, e3, e4, e5, e6⟩ := h
    obtain ⟨b', dx', fs', q1, q2, _, q3⟩ := S.ob n r e4
    rw [e1] at q1; cases q1
    rw [e2] at q2; cases q2
    obtain ⟨v, q4, q5⟩ := q3.get e5
    rw [e3] at q4; cases q4
    unfold FR at q5
    rw [if_pos e6] at q5
    obtain ⟨a', o, z, q6, _⟩ := q5
    cases z
    exact ⟨o, q6⟩
theorem Sim.notOw (S : Sim G Z B H ι ω ρ σ) {a : Addr} (h : H a = none) (k : Ow) : ¬ owA G H ι ω ρ σ k a := fun z => by
  obtain ⟨o, e⟩ := S.owSome z
  rw [h] at e; cases e
theorem Sim.zn (S : Sim G Z B H ι ω ρ σ) {a : Addr} (h : H a = none) : Z a = none := sub_none S.zH h
theorem Sim.bn (S : Sim G Z B H ι ω ρ σ) {a : Addr} (h : H a = none) : B a = none := sub_none S.bH h
/-- owners are as the instances are -/
theorem owA_congr (e : ∀ (n : Nat) (b dx : Addr), ι[n]? = some (b, dx) → H' b = H b) {k : Ow} {a : Addr} : owA G H' ι ω ρ σ k a ↔ owA G H ι ω ρ σ k a := by
  cases k with
  | slot i => exact Iff.rfl
  | ins n => exact Iff.rfl
  | dct n => exact Iff.rfl
  | fld n j =>
    constructor
    · rintro ⟨b, dx, C, fs, nm, r, f, x, e1, e2, e3⟩
      exact ⟨b, dx, C, fs, nm, r, f, x, e1, by rw [← e n b dx e1]; exact e2, e3⟩
    · rintro ⟨b, dx, C, fs, nm, r, f, x, e1, e2, e3⟩
      exact ⟨b, dx, C, fs, nm, r, f, x, e1, by rw [e n b dx e1]; exact e2, e3⟩
theorem Sim.inst (S : Sim G Z B H ι ω ρ σ) {n : Nat} {b dx : Addr} (e : ι[n]? = some (b, dx)) : ∃ r fs, ω[n]? = some r ∧ H b = some (.ins (G.cl r.cls) dx fs) ∧ H dx = some (.own b) ∧ FsR G Z ι H r.flds fs := by
  have hn : n < ω.length := by rw [← S.iL]; exact (List.getElem?_eq_some_iff.mp e).1
  obtain ⟨b', dx', fs, e1, e2⟩ := S.ob n ω[n] (List.getElem?_eq_getElem hn)
  rw [e] at e1; cases e1
  exact ⟨_, fs, List.getElem?_eq_getElem hn, e2⟩

/-- a new thing is laid, nobody's -/
theorem Sim.lay (S : Sim G Z B H ι ω ρ σ) {p : Addr} (o : HO) (hp : H p = none) : Sim G Z B (upd H p o) ι ω ρ σ := by
  have s : Same H (upd H p o) := fun b u e => by rw [upd_ne (ne_of_none e hp)]; exact e
  have at_ : ∀ {a u}, At H a u → At (upd H p o) a u := fun {a u} h => by
    rcases h with h | ⟨m, x, h⟩
    · exact .inl (s _ _ h)
    · exact .inr ⟨m, x, s _ _ h⟩
  have oc : ∀ {k a}, owA G (upd H p o) ι ω ρ σ k a ↔ owA G H ι ω ρ σ k a := owA_congr fun n b dx e => by
    obtain ⟨r, fs, _, q, _⟩ := S.inst e
    rw [upd_ne (ne_of_none q hp)]
  refine ⟨fun a u e => at_ (S.zH a u e), fun a u e => at_ (S.bH a u e), S.iL, fun n r e => ?_, fun i x m e => ?_, S.len, fun k k' a h h' => S.inj k k' a (oc.mp h) (oc.mp h'), fun k a h => S.zno k a (oc.mp h), S.zb⟩
  · obtain ⟨b, dx, fs, e1, e2, e3, e4⟩ := S.ob n r e
    exact ⟨b, dx, fs, e1, s _ _ e2, s _ _ e3, e4.mono (Same.refl _) (List.prefix_refl _) s⟩
  · obtain ⟨v, e1, e2⟩ := S.sl i x m e
    refine ⟨v, e1, ?_⟩
    cases m with
    | own => obtain ⟨a, u, h1, h2, h3⟩ := e2; exact ⟨a, u, h1, s _ _ h2, h3⟩
    | fz => exact e2
    | br => exact e2
    | lv => exact e2
theorem PO.some (S : Sim G Z B H ι ω ρ σ) {a : Addr} (h : PO B ρ σ a) : ∃ o, H a = some o := by
  rcases h with h | ⟨i, x, e1, e2⟩
  · cases e : B a with
    | none => exact absurd e h
    | some o => exact sub_some S.bH e
  · exact S.owSome (k := .slot i) ⟨⟨x, e1⟩, e2⟩
theorem Ext.lay (S : Sim G Z B H ι ω ρ σ) {p : Addr} (o : HO) (hp : H p = none) : Ext Z Z (PO B ρ σ) ι ι H (upd H p o) :=
  ⟨Same.refl _, List.prefix_refl _, fun a h => upd_ne fun z => by
    subst z
    rcases h with h | h
    · exact h (S.zn hp)
    · obtain ⟨u, e⟩ := PO.some S h
      rw [hp] at e; cases e⟩
/-- nobody's thing is frozen -/
theorem Sim.fz (S : Sim G Z B H ι ω ρ σ) {p : Addr} {o : HO} (hp : H p = some o) (hz : Z p = none) (hb : B p = none) (hn : ∀ k, ¬ owA G H ι ω ρ σ k p) : Sim G (upd Z p o) B H ι ω ρ σ := by
  have s : Same Z (upd Z p o) := fun b u e => by rw [upd_ne (ne_of_none e hz)]; exact e
  refine ⟨fun a u e => ?_, S.bH, S.iL, fun n r e => ?_, fun i x m e => ?_, S.len, S.inj, fun k a h => ?_, fun a u e => by rw [upd_ne (fun z => by subst z; rw [hb] at e; cases e)]; exact S.zb a u e⟩
  · by_cases ha : a = p
    · subst ha; rw [upd_same] at e; cases e; exact .inl hp
    · rw [upd_ne ha] at e; exact S.zH a u e
  · obtain ⟨b, dx, fs, e1, e2, e3, e4⟩ := S.ob n r e
    exact ⟨b, dx, fs, e1, e2, e3, e4.mono s (List.prefix_refl _) (Same.refl _)⟩
  · obtain ⟨v, e1, e2⟩ := S.sl i x m e
    refine ⟨v, e1, ?_⟩
    cases m with
    | own => obtain ⟨a, u, h1, h2, h3⟩ := e2; exact ⟨a, u, h1, h2, h3.mono s (List.prefix_refl _)⟩
    | fz => exact e2.mono s (List.prefix_refl _)
    | br =>
      rcases e2 with e2 | ⟨a, u, h1, h2, h3⟩
      · exact .inl (e2.mono s (List.prefix_refl _))
      · exact .inr ⟨a, u, h1, h2, h3.mono s (List.prefix_refl _)⟩
    | lv => exact e2
  · have ha : a ≠ p := fun z => hn k (z ▸ h)
    rw [upd_ne ha]
    exact S.zno k a h
theorem Ext.fz {P : Addr → Prop} {p : Addr} {o : HO} (hz : Z p = none) : Ext Z (upd Z p o) P ι ι H H := ⟨fun b u e => by rw [upd_ne (ne_of_none e hz)]; exact e, List.prefix_refl _, fun _ _ => rfl⟩
end
end PVS

set_option maxHeartbeats 1000000
/-! PVS: what changes. -/
namespace PVS
open PySem L2 PVL
section
variable {G : GS} {Z Z' B H H' : Hp} {ι ι' : List (Addr × Addr)} {ω : PVL.Store} {ρ : PVL.Env} {σ : St}

theorem getV_some {i : Nat} {v : VM} : getV ρ i = some v ↔ ρ[i]? = some (some v) := by
  unfold getV
  cases h : ρ[i]? with
  | none => simp
  | some o => simp
/-- owners of the store alone -/
theorem owA_slots {ρ' : PVL.Env} {σ' : St} {k : Ow} {a : Addr} (h : owA G H ι ω ρ σ k a) (hk : ∀ i, k ≠ .slot i) : owA G H ι ω ρ' σ' k a := by
  cases k with
  | slot i => exact absurd rfl (hk i)
  | ins n => exact h
  | dct n => exact h
  | fld n j => exact h

/-- a name holds another thing -/
theorem Sim.setS (S : Sim G Z B H ι ω ρ σ) {i : Nat} (hi : i < ρ.length) {v : V} {x : PV} {m : Md} (r : SR G Z B H ι v x m) (ho : m = .own → ∀ a, v = .ref a → Z a = none ∧ B a = none ∧ ∀ k, ¬ owA G H ι ω ρ σ k a) :
    Sim G Z B H ι ω (setV ρ i (x, m)) (σ.set i (some v)) := by
  have hσ : i < σ.length := by rw [← S.len]; exact hi
  -- who holds what, now
  have oc : ∀ {k a}, owA G H ι ω (setV ρ i (x, m)) (σ.set i (some v)) k a → (k = .slot i ∧ m = .own ∧ v = .ref a) ∨ owA G H ι ω ρ σ k a := by
    intro k a h
    cases k with
    | slot j =>
      by_cases hj : j = i
      · subst hj
        obtain ⟨⟨y, e1⟩, e2⟩ := h
        unfold setV at e1
        rw [List.getElem?_set_self hi] at e1
        rw [List.getElem?_set_self hσ] at e2
        cases e1; cases e2
        exact .inl ⟨rfl, rfl, rfl⟩
      · obtain ⟨⟨y, e1⟩, e2⟩ := h
        unfold setV at e1
        rw [List.getElem?_set_ne (Ne.symm hj)] at e1
        rw [List.getElem?_set_ne (Ne.symm hj)] at e2
        exact .inr ⟨⟨y, e1⟩, e2⟩
    | ins n => exact .inr h
    | dct n => exact .inr h
    | fld n j => exact .inr h
  refine ⟨S.zH, S.bH, S.iL, S.ob, fun j y q e => ?_, by simp [setV, S.len], fun k k' a h h' => ?_, fun k a h => ?_, S.zb⟩
  · by_cases hj : j = i
    · subst hj
      unfold setV at e
      rw [List.getElem?_set_self hi] at e
      cases e
      exact ⟨v, List.getElem?_set_self hσ, r⟩
    · unfold setV at e
      rw [List.getElem?_set_ne (Ne.symm hj)] at e
      obtain ⟨u, e1, e2⟩ := S.sl j y q e
      exact ⟨u, by rw [List.getElem?_set_ne (Ne.symm hj)]; exact e1, e2⟩
  · rcases oc h with ⟨rfl, hm, hv⟩ | h1
    · rcases oc h' with ⟨rfl, _, _⟩ | h2
      · rfl
      · exact absurd h2 ((ho hm a hv).2.2 k')
    · rcases oc h' with ⟨rfl, hm, hv⟩ | h2
      · exact absurd h1 ((ho hm a hv).2.2 k)
      · exact S.inj k k' a h1 h2
  · rcases oc h with ⟨rfl, hm, hv⟩ | h1
    · exact ⟨(ho hm a hv).1, (ho hm a hv).2.1⟩
    · exact S.zno k a h1

/-- what is forgotten of the names -/
theorem Sim.clear (S : Sim G Z B H ι ω ρ σ) (i : Nat) : Sim G Z B H ι ω (ρ.set i none) (σ.set i none) := by
  have oc : ∀ {k a}, owA G H ι ω (ρ.set i none) (σ.set i none) k a → owA G H ι ω ρ σ k a := by
    intro k a h
    cases k with
    | slot j =>
      obtain ⟨⟨y, e1⟩, e2⟩ := h
      by_cases hj : j = i
      · subst hj
        by_cases hl : j < ρ.length
        · rw [List.getElem?_set_self hl] at e1; cases e1
        · rw [List.getElem?_eq_none (by simpa using hl)] at e1; cases e1
      · rw [List.getElem?_set_ne (Ne.symm hj)] at e1
        rw [List.getElem?_set_ne (Ne.symm hj)] at e2
        exact ⟨⟨y, e1⟩, e2⟩
    | ins n => exact h
    | dct n => exact h
    | fld n j => exact h
  refine ⟨S.zH, S.bH, S.iL, S.ob, fun j y q e => ?_, by simp [S.len], fun k k' a h h' => S.inj k k' a (oc h) (oc h'), fun k a h => S.zno k a (oc h), S.zb⟩
  by_cases hj : j = i
  · subst hj
    by_cases hl : j < ρ.length
    · rw [List.getElem?_set_self hl] at e; cases e
    · rw [List.getElem?_eq_none (by simpa using hl)] at e; cases e
  · rw [List.getElem?_set_ne (Ne.symm hj)] at e
    obtain ⟨u, e1, e2⟩ := S.sl j y q e
    exact ⟨u, by rw [List.getElem?_set_ne (Ne.symm hj)]; exact e1, e2⟩
/-- weaker knowledge of the names: a part of ρ -/
theorem Sim.less (S : Sim G Z B H ι ω ρ σ) {ρ' : PVL.Env} (hl : ρ'.length = ρ.length) (w : ∀ (i : Nat) (v : VM), ρ'[i]? = some (some v) → ρ[i]? = some (some v)) : Sim G Z B H ι ω ρ' σ := by
  have oc : ∀ {k a}, owA G H ι ω ρ' σ k a → owA G H ι ω ρ σ k a := by
    intro k a h
    cases k with
    | slot j => obtain ⟨⟨y, e1⟩, e2⟩ := h; exact ⟨⟨y, w _ _ e1⟩, e2⟩
    | ins n => exact h
    | dct n => exact h
    | fld n j => exact h
  exact ⟨S.zH, S.bH, S.iL, S.ob, fun j y q e => S.sl j y q (w _ _ e), by rw [hl, S.len], fun k k' a h h' => S.inj k k' a (oc h) (oc h'), fun k a h => S.zno k a (oc h), S.zb⟩

/-- at an owner's address a thing is put anew: what the others see -/
theorem sub_upd {Z H : Hp} (s : Sub Z H) {p : Addr} {o : HO} (hp : Z p = none) : Sub Z (upd H p o) := fun a u e => by
  have ha : a ≠ p := fun z => by subst z; rw [hp] at e; cases e
  rcases s a u e with q | ⟨m, x, q⟩
  · exact .inl (by rw [upd_ne ha]; exact q)
  · exact .inr ⟨m, x, by rw [upd_ne ha]; exact q⟩
/-- the container of a name is changed -/
theorem Sim.mutS (S : Sim G Z B H ι ω ρ σ) {i : Nat} {x x' : PV} {a : Addr} {o' : HO} (e : getV ρ i = some (x, .own)) (e2 : σ[i]? = some (some (.ref a))) (r : RO G Z ι o' x') :
    Sim G Z B (upd H a o') ι ω (setV ρ i (x', .own)) σ := by
  rw [getV_some] at e
  have hi : i < ρ.length := (List.getElem?_eq_some_iff.mp e).1
  have me : owA G H ι ω ρ σ (.slot i) a := ⟨⟨x, e⟩, e2⟩
  obtain ⟨za, ba⟩ := S.zno _ _ me
  have other : ∀ {k b}, owA G H ι ω ρ σ k b → k ≠ .slot i → b ≠ a := fun {k b} h hk z => hk (S.inj _ _ _ (z ▸ h) me)
  have inst : ∀ (n : Nat) (b dx : Addr), ι[n]? = some (b, dx) → b ≠ a ∧ dx ≠ a := fun n b dx h => ⟨other (k := .ins n) ⟨dx, h⟩ (by simp), other (k := .dct n) ⟨b, h⟩ (by simp)⟩
  have oc : ∀ {k b}, owA G (upd H a o') ι ω (setV ρ i (x', .own)) σ k b → owA G H ι ω ρ σ k b := by
    intro k b h
    have h := (owA_congr (H' := upd H a o') (H := H) fun n b dx h => upd_ne (inst n b dx h).1).mp h
    cases k with
    | slot j =>
      obtain ⟨⟨y, e1⟩, e3⟩ := h
      by_cases hj : j = i
      · subst hj
        exact ⟨⟨x, e⟩, e3⟩
      · unfold setV at e1
        rw [List.getElem?_set_ne (Ne.symm hj)] at e1
        exact ⟨⟨y, e1⟩, e3⟩
    | ins n => exact h
    | dct n => exact h
    | fld n j => exact h
  refine ⟨sub_upd S.zH za, sub_upd S.bH ba, S.iL, fun n r' en => ?_, fun j y q ej => ?_, by simp [setV, S.len], fun k k' b h h' => S.inj k k' b (oc h) (oc h'), fun k b h => S.zno k b (oc h), S.zb⟩
  · obtain ⟨b, dx, fs, e1, e3, e4, e5⟩ := S.ob n r' en
    obtain ⟨n1, n2⟩ := inst n b dx e1
    refine ⟨b, dx, fs, e1, by rw [upd_ne n1]; exact e3, by rw [upd_ne n2]; exact e4, e5.imp (Same.refl _) (List.prefix_refl _) fun j f y nm c u h1 h2 h3 h4 => ?_⟩
    rw [upd_ne (other (k := .fld n j) ⟨b, dx, _, fs, nm, r', f, y, e1, e3, h2, en, h1, h3⟩ (by simp))]
    exact h4
  · by_cases hj : j = i
    · subst hj
      unfold setV at ej
      rw [List.getElem?_set_self hi] at ej
      cases ej
      exact ⟨_, e2, a, o', rfl, upd_same, r⟩
    · unfold setV at ej
      rw [List.getElem?_set_ne (Ne.symm hj)] at ej
      obtain ⟨v, e3, e4⟩ := S.sl j y q ej
      refine ⟨v, e3, ?_⟩
      cases q with
      | own =>
        obtain ⟨c, u, rfl, h2, h3⟩ := e4
        exact ⟨c, u, rfl, by rw [upd_ne (other (k := .slot j) ⟨⟨y, ej⟩, e3⟩ (by simpa using hj))]; exact h2, h3⟩
      | fz => exact e4
      | br => exact e4
      | lv => exact e4
theorem Ext.mutS (S : Sim G Z B H ι ω ρ σ) {k : Ow} {a : Addr} {o' : HO} (h : owA G H ι ω ρ σ k a) : Ext Z Z (PB B) ι ι H (upd H a o') := by
  obtain ⟨za, ba⟩ := S.zno _ _ h
  exact ⟨Same.refl _, List.prefix_refl _, fun c hc => upd_ne fun z => by
    subst z
    rcases hc with q | q
    · exact q za
    · exact q ba⟩
/-- a name's container is frozen -/
theorem Sim.frzS (S : Sim G Z B H ι ω ρ σ) {i : Nat} {x : PV} {a : Addr} {o : HO} (e : getV ρ i = some (x, .own)) (e2 : σ[i]? = some (some (.ref a))) (ea : H a = some o) (r : RO G Z ι o x) :
    Sim G (upd Z a o) B H ι ω (setV ρ i (x, .fz)) σ := by
  rw [getV_some] at e
  have hi : i < ρ.length := (List.getElem?_eq_some_iff.mp e).1
  have me : owA G H ι ω ρ σ (.slot i) a := ⟨⟨x, e⟩, e2⟩
  obtain ⟨za, ba⟩ := S.zno _ _ me
  have s : Same Z (L2.upd Z a o) := fun b u q => by rw [upd_ne (ne_of_none q za)]; exact q
  have S1 : Sim G Z B H ι ω (ρ.set i none) σ := S.less (by simp) fun j v h => by
    by_cases hj : j = i
    · subst hj; rw [List.getElem?_set_self hi] at h; cases h
    · rw [List.getElem?_set_ne (Ne.symm hj)] at h; exact h
  have no : ∀ k, ¬ owA G H ι ω (ρ.set i none) σ k a := fun k h => by
    have h' : owA G H ι ω ρ σ k a := by
      cases k with
      | slot j =>
        obtain ⟨⟨y, e1⟩, e3⟩ := h
        by_cases hj : j = i
        · subst hj; rw [List.getElem?_set_self hi] at e1; cases e1
        · rw [List.getElem?_set_ne (Ne.symm hj)] at e1; exact ⟨⟨y, e1⟩, e3⟩
      | ins n => exact h
      | dct n => exact h
      | fld n j => exact h
    have q := S.inj _ _ _ h' me
    subst q
    obtain ⟨⟨y, e1⟩, _⟩ := h
    rw [List.getElem?_set_self hi] at e1; cases e1
  have S2 := S1.fz ea za ba no
  have S3 := S2.setS (i := i) (by simpa using hi) (v := .ref a) (x := x) (m := .fz) (show SR G (L2.upd Z a o) B H ι (.ref a) x .fz from RO.fz upd_same (r.mono s (List.prefix_refl _))) (fun h => by cases h)
  have es : σ.set i (some (.ref a)) = σ := by
    have hσ : i < σ.length := (List.getElem?_eq_some_iff.mp e2).1
    apply List.ext_getElem?
    intro j
    by_cases hj : j = i
    · subst hj; rw [List.getElem?_set_self hσ, e2]
    · rw [List.getElem?_set_ne (Ne.symm hj)]
  rw [es] at S3
  have ep : setV (ρ.set i none) i (x, .fz) = setV ρ i (x, .fz) := by unfold setV; rw [List.set_set]
  rw [ep] at S3
  exact S3
end
end PVS

set_option maxHeartbeats 1000000
/-! PVS: objects, calls, locks. -/
namespace PVS
open PySem L2 PVL
section
variable {G : GS} {Z Z' B H H' : Hp} {ι ι' : List (Addr × Addr)} {ω : PVL.Store} {ρ : PVL.Env} {σ : St}

theorem putF_get {f : Nat} {x : PV} : ∀ {xs : List (Nat × PV)} {j : Nat} {g : Nat} {y : PV}, (PVL.putF f x xs)[j]? = some (g, y) → (g = f ∧ y = x) ∨ (xs[j]? = some (g, y) ∧ g ≠ f) ∨ (xs[j]? = some (g, y))
  | [], j, g, y, e => by
    cases j with
    | zero => simp [PVL.putF] at e; exact .inl ⟨e.1.symm, e.2.symm⟩
    | succ j => simp [PVL.putF] at e
  | (h, u) :: r, j, g, y, e => by
    unfold PVL.putF at e
    split at e
    · rename_i hh
      cases j with
      | zero => simp at e; exact .inl ⟨e.1.symm, e.2.symm⟩
      | succ j => exact .inr (.inr e)
    · rename_i hh
      cases j with
      | zero => exact .inr (.inr e)
      | succ j =>
        rcases putF_get (xs := r) (j := j) e with q | q | q
        · exact .inl q
        · exact .inr (.inl q)
        · exact .inr (.inr q)

/-- where the first f stands, or behind all -/
def fidx (f : Nat) : List (Nat × PV) → Nat
  | [] => 0
  | (g, _) :: r => if g = f then 0 else fidx f r + 1
theorem FsR.put {xs : List (Nat × PV)} {vs : List (Str × V)} (h : FsR G Z ι H xs vs) {f : Nat} {x : PV} {v : V}
    (r : FR G Z ι H' v x) (k : ∀ (j g : Nat) (y : PV) (nm : Str) (a : Addr) (o : HO), j ≠ fidx f xs → xs[j]? = some (g, y) → vs[j]? = some (nm, .ref a) → isC y = true → H a = some o → H' a = some o) :
    FsR G Z ι H' (PVL.putF f x xs) (L2.putF (G.fnm f) v vs) := by
  induction h with
  | nil => exact .cons r .nil
  | @cons f' x' v' xs' vs' r' h' ih =>
    by_cases hf : f' = f
    · subst hf
      have e1 : PVL.putF f' x ((f', x') :: xs') = (f', x) :: xs' := if_pos rfl
      have e2 : L2.putF (G.fnm f') v ((G.fnm f', v') :: vs') = (G.fnm f', v) :: vs' := if_pos rfl
      rw [e1, e2]
      refine .cons r (h'.imp (Same.refl _) (List.prefix_refl _) fun j g y nm a o h1 h2 h3 h4 => k (j + 1) g y nm a o ?_ h1 h2 h3 h4)
      unfold fidx; rw [if_pos rfl]; exact Nat.succ_ne_zero _
    · have hn : ¬ G.fnm f' = G.fnm f := fun z => hf (G.inj _ _ z)
      have e1 : PVL.putF f x ((f', x') :: xs') = (f', x') :: PVL.putF f x xs' := if_neg hf
      have e2 : L2.putF (G.fnm f) v ((G.fnm f', v') :: vs') = (G.fnm f', v') :: L2.putF (G.fnm f) v vs' := if_neg hn
      have e3 : fidx f ((f', x') :: xs') = fidx f xs' + 1 := if_neg hf
      rw [e1, e2]
      refine .cons ?_ (ih fun j g y nm a o hj h1 h2 h3 h4 => k (j + 1) g y nm a o (by rw [e3]; omega) h1 h2 h3 h4)
      unfold FR at r' ⊢
      split
      · rename_i hc
        rw [if_pos hc] at r'
        obtain ⟨a, o, rfl, e, q⟩ := r'
        exact ⟨a, o, rfl, k 0 f' x' _ a o (by rw [e3]; omega) rfl rfl hc e, q⟩
      · rename_i hc
        rw [if_neg hc] at r'
        exact r'
theorem put_at {f : Nat} {x : PV} {nm : Str} {v : V} {xs : List (Nat × PV)} {vs : List (Str × V)} (h : FsR G Z ι H xs vs) : ∀ {j g : Nat} {y : PV} {n : Str} {u : V}, (PVL.putF f x xs)[j]? = some (g, y) → (L2.putF (G.fnm f) v vs)[j]? = some (n, u) →
    (j = fidx f xs ∧ y = x ∧ u = v) ∨ (j ≠ fidx f xs ∧ xs[j]? = some (g, y) ∧ vs[j]? = some (n, u)) := by
  induction h with
  | nil =>
    intro j g y n u e1 e2
    cases j with
    | zero => simp [PVL.putF, L2.putF] at e1 e2; exact .inl ⟨rfl, e1.2.symm, e2.2.symm⟩
    | succ j => simp [PVL.putF] at e1
  | @cons f' x' v' xs' vs' r' h' ih =>
    intro j g y n u e1 e2
    by_cases hf : f' = f
    · subst hf
      rw [show PVL.putF f' x ((f', x') :: xs') = (f', x) :: xs' from if_pos rfl] at e1
      rw [show L2.putF (G.fnm f') v ((G.fnm f', v') :: vs') = (G.fnm f', v) :: vs' from if_pos rfl] at e2
      have e3 : fidx f' ((f', x') :: xs') = 0 := if_pos rfl
      rw [e3]
      cases j with
      | zero => simp at e1 e2; exact .inl ⟨rfl, e1.2.symm, e2.2.symm⟩
      | succ j => exact .inr ⟨Nat.succ_ne_zero _, e1, e2⟩
    · have hn : ¬ G.fnm f' = G.fnm f := fun z => hf (G.inj _ _ z)
      rw [show PVL.putF f x ((f', x') :: xs') = (f', x') :: PVL.putF f x xs' from if_neg hf] at e1
      rw [show L2.putF (G.fnm f) v ((G.fnm f', v') :: vs') = (G.fnm f', v') :: L2.putF (G.fnm f) v vs' from if_neg hn] at e2
      have e3 : fidx f ((f', x') :: xs') = fidx f xs' + 1 := if_neg hf
      rw [e3]
      cases j with
      | zero => exact .inr ⟨by omega, e1, e2⟩
      | succ j =>
        rcases ih e1 e2 with ⟨q1, q2, q3⟩ | ⟨q1, q2, q3⟩
        · exact .inl ⟨by omega, q2, q3⟩
        · exact .inr ⟨by omega, q2, q3⟩
theorem fidx_of {f : Nat} {x : PV} : ∀ {xs : List (Nat × PV)}, xs.lookup f = some x → xs[fidx f xs]? = some (f, x)
  | [], e => by simp at e
  | (g, y) :: r, e => by
    rw [List.lookup_cons] at e
    by_cases h : f = g
    · subst h
      simp at e
      subst e
      unfold fidx
      rw [if_pos rfl]
      rfl
    · have e1 : (f == g) = false := by simpa using h
      rw [e1] at e
      unfold fidx
      rw [if_neg (fun z => h z.symm)]
      exact fidx_of e

/-- a field is set: H1 the heap where a new container may stand that nobody holds -/
theorem Sim.setF (S : Sim G Z B H ι ω ρ σ) {n : Nat} {r : PVL.Rec} {b dx C : Addr} {fs : List (Str × V)} (en : ω[n]? = some r) (ei : ι[n]? = some (b, dx)) (eb : H b = some (.ins C dx fs)) {f : Nat} {x : PV} {v : V}
    (hr : FR G Z ι H v x) (ho : isC x = true → ∀ a, v = .ref a → Z a = none ∧ B a = none ∧ ∀ k, ¬ owA G H ι ω ρ σ k a) :
    Sim G Z B (upd H b (.ins C dx (L2.putF (G.fnm f) v fs))) ι (PVL.setF ω n f x) ρ σ := by
  have me : owA G H ι ω ρ σ (.ins n) b := ⟨dx, ei⟩
  obtain ⟨zb, bb⟩ := S.zno _ _ me
  have hn : n < ω.length := (List.getElem?_eq_some_iff.mp en).1
  have eω : PVL.setF ω n f x = ω.set n ⟨r.cls, PVL.putF f x r.flds⟩ := by unfold PVL.setF; rw [en]
  rw [eω]
  obtain ⟨b', dx', fs', q1, q2, q3, q4⟩ := S.ob n r en
  rw [ei] at q1; cases q1
  rw [eb] at q2; cases q2
  have other : ∀ {k c}, owA G H ι ω ρ σ k c → k ≠ .ins n → c ≠ b := fun {k c} h hk z => hk (S.inj _ _ _ (z ▸ h) me)
  have instne : ∀ (m : Nat) (c dy : Addr), ι[m]? = some (c, dy) → m ≠ n → c ≠ b := fun m c dy h hm => other (k := .ins m) ⟨dy, h⟩ (by simpa using hm)
  -- the new container is nobody's: it stands apart from the instance
  have oc : ∀ {k a}, owA G (upd H b (.ins (G.cl r.cls) dx (L2.putF (G.fnm f) v fs))) ι (ω.set n ⟨r.cls, PVL.putF f x r.flds⟩) ρ σ k a → (k = .fld n (fidx f r.flds) ∧ isC x = true ∧ v = .ref a) ∨ owA G H ι ω ρ σ k a := by
    intro k a h
    cases k with
    | slot i => exact .inr h
    | ins m => exact .inr h
    | dct m => exact .inr h
    | fld m j =>
      obtain ⟨c, dy, C', gs, nm, r', g, y, h1, h2, h3, h4, h5, h6⟩ := h
      by_cases hm : m = n
      · subst hm
        rw [ei] at h1; cases h1
        rw [upd_same] at h2; cases h2
        rw [List.getElem?_set_self hn] at h4; cases h4
        rcases put_at (nm := nm) q4 h5 h3 with ⟨z1, z2, z3⟩ | ⟨z1, z2, z3⟩
        · subst z1; subst z2
          exact .inl ⟨rfl, h6, z3.symm⟩
        · exact .inr ⟨b, dx, _, fs, nm, r, g, y, ei, eb, z3, en, z2, h6⟩
      · rw [List.getElem?_set_ne (Ne.symm hm)] at h4
        rw [upd_ne (instne m c dy h1 hm)] at h2
        exact .inr ⟨c, dy, C', gs, nm, r', g, y, h1, h2, h3, h4, h5, h6⟩
  refine ⟨sub_upd S.zH zb, sub_upd S.bH bb, by simp [S.iL], fun m r' em => ?_, fun i y q e => ?_, S.len, fun k k' a h h' => ?_, fun k a h => ?_, S.zb⟩
  · by_cases hm : m = n
    · subst hm
      rw [List.getElem?_set_self hn] at em; cases em
      refine ⟨b, dx, _, ei, upd_same, by rw [upd_ne (other (k := .dct m) ⟨b, ei⟩ (by simp))]; exact q3, ?_⟩
      refine q4.put ?_ fun j g y nm a o hj h1 h2 h3 h4 => ?_
      · unfold FR at hr ⊢
        split
        · rename_i hc
          rw [if_pos hc] at hr
          obtain ⟨a, o, rfl, e, q⟩ := hr
          exact ⟨a, o, rfl, by rw [upd_ne (fun z => (ho hc a rfl).2.2 _ (z ▸ me))]; exact e, q⟩
        · rename_i hc
          rw [if_neg hc] at hr
          exact hr
      · rw [upd_ne (other (k := .fld m j) ⟨b, dx, _, fs, nm, r, g, y, ei, eb, h2, en, h1, h3⟩ (by simp))]
        exact h4
    · rw [List.getElem?_set_ne (Ne.symm hm)] at em
      obtain ⟨c, dy, gs, h1, h2, h3, h4⟩ := S.ob m r' em
      refine ⟨c, dy, gs, h1, by rw [upd_ne (instne m c dy h1 hm)]; exact h2, by rw [upd_ne (other (k := .dct m) ⟨c, h1⟩ (by simp))]; exact h3, h4.imp (Same.refl _) (List.prefix_refl _) fun j g y nm a o z1 z2 z3 z4 => ?_⟩
      rw [upd_ne (other (k := .fld m j) ⟨c, dy, _, gs, nm, r', g, y, h1, h2, z2, em, z1, z3⟩ (by simp))]
      exact z4
  · obtain ⟨u, e1, e2⟩ := S.sl i y q e
    refine ⟨u, e1, ?_⟩
    cases q with
    | own =>
      obtain ⟨a, o, rfl, h2, h3⟩ := e2
      exact ⟨a, o, rfl, by rw [upd_ne (other (k := .slot i) ⟨⟨y, e⟩, e1⟩ (by simp))]; exact h2, h3⟩
    | fz => exact e2
    | br => exact e2
    | lv => exact e2
  · rcases oc h with ⟨rfl, hc, hv⟩ | h1
    · rcases oc h' with ⟨rfl, _, _⟩ | h2
      · rfl
      · exact absurd h2 ((ho hc a hv).2.2 k')
    · rcases oc h' with ⟨rfl, hc, hv⟩ | h2
      · exact absurd h1 ((ho hc a hv).2.2 k)
      · exact S.inj k k' a h1 h2
  · rcases oc h with ⟨rfl, hc, hv⟩ | h1
    · exact ⟨(ho hc a hv).1, (ho hc a hv).2.1⟩
    · exact S.zno k a h1
/-- a field's container is changed in its place -/
theorem Sim.mutF (S : Sim G Z B H ι ω ρ σ) {n : Nat} {r : PVL.Rec} {b dx C : Addr} {fs : List (Str × V)} (en : ω[n]? = some r) (ei : ι[n]? = some (b, dx)) (eb : H b = some (.ins C dx fs)) {f : Nat} {x x' : PV} {a : Addr} {o' : HO}
    (hl : r.flds.lookup f = some x) (hc : isC x = true) (hv : fs.lookup (G.fnm f) = some (.ref a)) (hr : RO G Z ι o' x') : Sim G Z B (upd H a o') ι (PVL.setF ω n f x') ρ σ ∧ ∃ k, owA G H ι ω ρ σ k a := by
  have hn : n < ω.length := (List.getElem?_eq_some_iff.mp en).1
  have eω : PVL.setF ω n f x' = ω.set n ⟨r.cls, PVL.putF f x' r.flds⟩ := by unfold PVL.setF; rw [en]
  rw [eω]
  obtain ⟨b', dx', fs', q1, q2, q3, q4⟩ := S.ob n r en
  rw [ei] at q1; cases q1
  rw [eb] at q2; cases q2
  obtain ⟨v, l1, l2, j0, l3, l4⟩ := q4.lookup hl
  rw [hv] at l1; cases l1
  have hj : r.flds[fidx f r.flds]? = some (f, x) := fidx_of hl
  -- the place of f
  obtain ⟨v2, p1, p2⟩ := q4.get hj
  -- the value there is the one that lookup finds
  have same : ∀ {xs : List (Nat × PV)} {vs : List (Str × V)}, FsR G Z ι H xs vs → xs.lookup f = some x → ∀ u, vs.lookup (G.fnm f) = some u → vs[fidx f xs]? = some (G.fnm f, u) := by
    intro xs vs h
    induction h with
    | nil => intro e; simp at e
    | @cons f' x' v' xs' vs' r' h' ih =>
      intro e u e2
      by_cases hf : f = f'
      · subst hf
        simp [List.lookup_cons] at e2
        subst e2
        unfold fidx; rw [if_pos rfl]; rfl
      · have e1 : (f == f') = false := by simpa using hf
        have e3 : (G.fnm f == G.fnm f') = false := by simpa using fun z => hf (G.inj _ _ z)
        rw [List.lookup_cons, e1] at e
        rw [List.lookup_cons, e3] at e2
        unfold fidx; rw [if_neg (fun z => hf z.symm)]
        exact ih e u e2
  have pa := same q4 hl _ hv
  have me : owA G H ι ω ρ σ (.fld n (fidx f r.flds)) a := ⟨b, dx, _, fs, _, r, f, x, ei, eb, pa, en, hj, hc⟩
  obtain ⟨za, ba⟩ := S.zno _ _ me
  have other : ∀ {k c}, owA G H ι ω ρ σ k c → k ≠ .fld n (fidx f r.flds) → c ≠ a := fun {k c} h hk z => hk (S.inj _ _ _ (z ▸ h) me)
  have inst : ∀ (m : Nat) (c dy : Addr), ι[m]? = some (c, dy) → c ≠ a ∧ dy ≠ a := fun m c dy h => ⟨other (k := .ins m) ⟨dy, h⟩ (by simp), other (k := .dct m) ⟨c, h⟩ (by simp)⟩
  -- the names stay: putF puts the same reference
  have efs : L2.putF (G.fnm f) (.ref a) fs = fs := by
    have go : ∀ (vs : List (Str × V)), vs.lookup (G.fnm f) = some (.ref a) → L2.putF (G.fnm f) (.ref a) vs = vs := by
      intro vs
      induction vs with
      | nil => intro e; simp at e
      | cons p vs ih =>
        obtain ⟨nm, u⟩ := p
        intro e
        rw [List.lookup_cons] at e
        by_cases h : nm = G.fnm f
        · subst h
          simp at e
          subst e
          exact if_pos rfl
        · have e1 : (G.fnm f == nm) = false := by simpa using fun z => h z.symm
          rw [e1] at e
          rw [show L2.putF (G.fnm f) (.ref a) ((nm, u) :: vs) = (nm, u) :: L2.putF (G.fnm f) (.ref a) vs from if_neg h, ih e]
    exact go fs hv
  have oc : ∀ {k c}, owA G (upd H a o') ι (ω.set n ⟨r.cls, PVL.putF f x' r.flds⟩) ρ σ k c → owA G H ι ω ρ σ k c := by
    intro k c h
    have h := (owA_congr (H' := upd H a o') (H := H) fun m c dy h => upd_ne (inst m c dy h).1).mp h
    cases k with
    | slot i => exact h
    | ins m => exact h
    | dct m => exact h
    | fld m j =>
      obtain ⟨c', dy, C', gs, nm, r', g, y, h1, h2, h3, h4, h5, h6⟩ := h
      by_cases hm : m = n
      · subst hm
        rw [ei] at h1; cases h1
        rw [eb] at h2; cases h2
        rw [List.getElem?_set_self hn] at h4; cases h4
        rcases put_at (nm := nm) (v := .ref a) q4 h5 (by rw [efs]; exact h3) with ⟨z1, z2, z3⟩ | ⟨z1, z2, z3⟩
        · subst z1
          cases z3
          exact me
        · exact ⟨b, dx, _, fs, nm, r, g, y, ei, eb, z3, en, z2, h6⟩
      · rw [List.getElem?_set_ne (Ne.symm hm)] at h4
        exact ⟨c', dy, C', gs, nm, r', g, y, h1, h2, h3, h4, h5, h6⟩
  refine ⟨⟨sub_upd S.zH za, sub_upd S.bH ba, by simp [S.iL], fun m r' em => ?_, fun i y q e => ?_, S.len, fun k k' c h h' => S.inj k k' c (oc h) (oc h'), fun k c h => S.zno k c (oc h), S.zb⟩, _, me⟩
  · by_cases hm : m = n
    · subst hm
      rw [List.getElem?_set_self hn] at em; cases em
      obtain ⟨n1, n2⟩ := inst m b dx ei
      refine ⟨b, dx, fs, ei, by rw [upd_ne n1]; exact eb, by rw [upd_ne n2]; exact q3, ?_⟩
      have z := q4.put (H' := upd H a o') (f := f) (x := x') (v := .ref a) (by unfold FR; rw [if_pos hr.isC]; exact ⟨a, o', rfl, upd_same, hr⟩) fun j g y nm c o hj h1 h2 h3 h4 => by
        rw [upd_ne (other (k := .fld m j) ⟨b, dx, _, fs, nm, r, g, y, ei, eb, h2, en, h1, h3⟩ (by simpa using hj))]
        exact h4
      rw [efs] at z
      exact z
    · rw [List.getElem?_set_ne (Ne.symm hm)] at em
      obtain ⟨c, dy, gs, h1, h2, h3, h4⟩ := S.ob m r' em
      obtain ⟨n1, n2⟩ := inst m c dy h1
      refine ⟨c, dy, gs, h1, by rw [upd_ne n1]; exact h2, by rw [upd_ne n2]; exact h3, h4.imp (Same.refl _) (List.prefix_refl _) fun j g y nm d o z1 z2 z3 z4 => ?_⟩
      rw [upd_ne (other (k := .fld m j) ⟨c, dy, _, gs, nm, r', g, y, h1, h2, z2, em, z1, z3⟩ (by simp; exact fun z => absurd z hm))]
      exact z4
  · obtain ⟨u, e1, e2⟩ := S.sl i y q e
    refine ⟨u, e1, ?_⟩
    cases q with
    | own =>
      obtain ⟨c, o, rfl, h2, h3⟩ := e2
      exact ⟨c, o, rfl, by rw [upd_ne (other (k := .slot i) ⟨⟨y, e⟩, e1⟩ (by simp))]; exact h2, h3⟩
    | fz => exact e2
    | br => exact e2
    | lv => exact e2
end
end PVS

set_option maxHeartbeats 1000000
/-! PVS: new objects, calls, locks. -/
namespace PVS
open PySem L2 PVL
section
variable {G : GS} {Z Z' B H H' : Hp} {ι ι' : List (Addr × Addr)} {ω : PVL.Store} {ρ : PVL.Env} {σ : St}

/-- a new object of the class c, without fields -/
theorem Sim.make (S : Sim G Z B H ι ω ρ σ) {x dx : Addr} (c : Nat) (hx : H x = none) (hd : H dx = none) (hne : dx ≠ x) :
    Sim G Z B (upd (upd H dx (.own x)) x (.ins (G.cl c) dx [])) (ι ++ [(x, dx)]) (ω ++ [⟨c, []⟩]) ρ σ ∧ Ext Z Z (PO B ρ σ) ι (ι ++ [(x, dx)]) H (upd (upd H dx (.own x)) x (.ins (G.cl c) dx [])) := by
  generalize hH : upd (upd H dx (.own x)) x (.ins (G.cl c) dx []) = H1
  have hx1 : H1 x = some (.ins (G.cl c) dx []) := by rw [← hH]; exact upd_same
  have hd1 : H1 dx = some (.own x) := by rw [← hH, upd_ne hne]; exact upd_same
  have s : Same H H1 := fun b u e => by rw [← hH, upd_ne (ne_of_none e hx), upd_ne (ne_of_none e hd)]; exact e
  have keep : ∀ b, b ≠ x → b ≠ dx → H1 b = H b := fun b h1 h2 => by rw [← hH, upd_ne h1, upd_ne h2]
  have at_ : ∀ {a u}, At H a u → At H1 a u := fun {a u} h => by
    rcases h with h | ⟨m, z, h⟩
    · exact .inl (s _ _ h)
    · exact .inr ⟨m, z, s _ _ h⟩
  have pre : ι <+: ι ++ [(x, dx)] := List.prefix_append ι _
  have last : (ι ++ [(x, dx)])[ι.length]? = some (x, dx) := by simp
  have old : ∀ {n : Nat} {p : Addr × Addr}, (ι ++ [(x, dx)])[n]? = some p → (n = ι.length ∧ p = (x, dx)) ∨ ι[n]? = some p := by
    intro n p h
    by_cases hn : n < ι.length
    · rw [List.getElem?_append_left hn] at h; exact .inr h
    · have hl := (List.getElem?_eq_some_iff.mp h).1
      have : n = ι.length := by simp at hl; omega
      subst this
      rw [last] at h; cases h
      exact .inl ⟨rfl, rfl⟩
  have oldω : ∀ {n : Nat} {r : PVL.Rec}, (ω ++ [⟨c, []⟩])[n]? = some r → (n = ω.length ∧ r = ⟨c, []⟩) ∨ ω[n]? = some r := by
    intro n r h
    by_cases hn : n < ω.length
    · rw [List.getElem?_append_left hn] at h; exact .inr h
    · have hl := (List.getElem?_eq_some_iff.mp h).1
      have : n = ω.length := by simp at hl; omega
      subst this
      simp at h
      exact .inl ⟨rfl, h.symm⟩
  have oc : ∀ {k a}, owA G H1 (ι ++ [(x, dx)]) (ω ++ [⟨c, []⟩]) ρ σ k a → (k = .ins ι.length ∧ a = x) ∨ (k = .dct ι.length ∧ a = dx) ∨ owA G H ι ω ρ σ k a := by
    intro k a h
    cases k with
    | slot i => exact .inr (.inr h)
    | ins n =>
      obtain ⟨dy, h⟩ := h
      rcases old h with ⟨rfl, e⟩ | h
      · cases e; exact .inl ⟨rfl, rfl⟩
      · exact .inr (.inr ⟨dy, h⟩)
    | dct n =>
      obtain ⟨dy, h⟩ := h
      rcases old h with ⟨rfl, e⟩ | h
      · cases e; exact .inr (.inl ⟨rfl, rfl⟩)
      · exact .inr (.inr ⟨dy, h⟩)
    | fld n j =>
      obtain ⟨b, dy, C, fs, nm, r, f, y, h1, h2, h3, h4, h5, h6⟩ := h
      rcases oldω h4 with ⟨rfl, rfl⟩ | h4
      · simp at h5
      · rcases old h1 with ⟨rfl, e⟩ | h1
        · exfalso
          have := (List.getElem?_eq_some_iff.mp h4).1
          rw [S.iL] at this
          exact absurd this (Nat.lt_irrefl _)
        · obtain ⟨r2, fs2, _, q, _⟩ := S.inst h1
          rw [s _ _ q] at h2
          cases h2
          exact .inr (.inr ⟨b, dy, _, _, nm, r, f, y, h1, q, h3, h4, h5, h6⟩)
  refine ⟨⟨fun a u e => at_ (S.zH a u e), fun a u e => at_ (S.bH a u e), by simp [S.iL], fun n r en => ?_, fun i y q e => ?_, S.len, fun k k' a h h' => ?_, fun k a h => ?_, S.zb⟩, ⟨Same.refl _, pre, fun a h => keep a (fun z => ?_) (fun z => ?_)⟩⟩
  · rcases oldω en with ⟨rfl, rfl⟩ | en
    · exact ⟨x, dx, [], by rw [← S.iL]; exact last, hx1, hd1, .nil⟩
    · obtain ⟨b, dy, fs, h1, h2, h3, h4⟩ := S.ob n r en
      exact ⟨b, dy, fs, pre_get pre h1, s _ _ h2, s _ _ h3, h4.mono (Same.refl _) pre s⟩
  · obtain ⟨u, e1, e2⟩ := S.sl i y q e
    refine ⟨u, e1, ?_⟩
    cases q with
    | own => obtain ⟨a, o, h1, h2, h3⟩ := e2; exact ⟨a, o, h1, s _ _ h2, h3.mono (Same.refl _) pre⟩
    | fz => exact e2.mono (Same.refl _) pre
    | br =>
      rcases e2 with e2 | ⟨a, o, h1, h2, h3⟩
      · exact .inl (e2.mono (Same.refl _) pre)
      · exact .inr ⟨a, o, h1, h2, h3.mono (Same.refl _) pre⟩
    | lv => exact e2
  · rcases oc h with ⟨rfl, rfl⟩ | ⟨rfl, rfl⟩ | h1
    · rcases oc h' with ⟨rfl, _⟩ | ⟨rfl, z⟩ | h2
      · rfl
      · exact absurd z.symm hne
      · exact absurd h2 (S.notOw hx k')
    · rcases oc h' with ⟨rfl, z⟩ | ⟨rfl, _⟩ | h2
      · exact absurd z hne
      · rfl
      · exact absurd h2 (S.notOw hd k')
    · rcases oc h' with ⟨rfl, rfl⟩ | ⟨rfl, rfl⟩ | h2
      · exact absurd h1 (S.notOw hx k)
      · exact absurd h1 (S.notOw hd k)
      · exact S.inj k k' a h1 h2
  · rcases oc h with ⟨rfl, rfl⟩ | ⟨rfl, rfl⟩ | h1
    · exact ⟨S.zn hx, S.bn hx⟩
    · exact ⟨S.zn hd, S.bn hd⟩
    · exact S.zno k a h1
  · subst z
    rcases h with h | h
    · exact h (S.zn hx)
    · obtain ⟨u, e⟩ := PO.some S h
      rw [hx] at e; cases e
  · subst z
    rcases h with h | h
    · exact h (S.zn hd)
    · obtain ⟨u, e⟩ := PO.some S h
      rw [hd] at e; cases e

open Classical in
/-- what a callee may not touch: what we have borrowed, what our names hold -/
noncomputable def lend (B H : Hp) (ρ : PVL.Env) (σ : St) : Hp := fun a => if (∃ (i : Nat) (x : PV), ρ[i]? = some (some (x, Md.own)) ∧ σ[i]? = some (some (V.ref a))) then H a else B a
theorem lend_slot {i : Nat} {x : PV} {a : Addr} (e : ρ[i]? = some (some (x, .own))) (e2 : σ[i]? = some (some (V.ref a))) : lend B H ρ σ a = H a := by
  unfold lend; rw [if_pos ⟨i, x, e, e2⟩]
theorem lend_b (S : Sim G Z B H ι ω ρ σ) {a : Addr} {o : HO} (h : B a = some o) : lend B H ρ σ a = some o := by
  unfold lend
  rw [if_neg]
  · exact h
  · rintro ⟨i, x, e1, e2⟩
    have := (S.zno (.slot i) a ⟨⟨x, e1⟩, e2⟩).2
    rw [h] at this; cases this
/-- the callee's view -/
theorem Sim.call (S : Sim G Z B H ι ω ρ σ) : Sim G Z (lend B H ρ σ) H ι ω [] [] := by
  have oc : ∀ {k a}, owA G H ι ω [] [] k a → owA G H ι ω ρ σ k a ∧ ∀ i, k ≠ .slot i := by
    intro k a h
    cases k with
    | slot i => obtain ⟨⟨x, e⟩, _⟩ := h; simp at e
    | ins n => exact ⟨h, fun _ z => by cases z⟩
    | dct n => exact ⟨h, fun _ z => by cases z⟩
    | fld n j => exact ⟨h, fun _ z => by cases z⟩
  refine ⟨S.zH, fun a u e => ?_, S.iL, S.ob, fun i x m e => by simp at e, rfl, fun k k' a h h' => S.inj k k' a (oc h).1 (oc h').1, fun k a h => ⟨(S.zno k a (oc h).1).1, ?_⟩, fun a o e => ?_⟩
  · unfold lend at e
    split at e
    · exact .inl e
    · exact S.bH a u e
  · unfold lend
    rw [if_neg]
    · exact (S.zno k a (oc h).1).2
    · rintro ⟨i, x, e1, e2⟩
      exact (oc h).2 i (S.inj _ _ _ (oc h).1 ⟨⟨x, e1⟩, e2⟩)
  · unfold lend at e
    split at e
    · rename_i hc
      obtain ⟨i, x, e1, e2⟩ := hc
      exact (S.zno (.slot i) a ⟨⟨x, e1⟩, e2⟩).1
    · exact S.zb a o e
/-- back from the callee -/
theorem Sim.back (S : Sim G Z B H ι ω ρ σ) {ω' : PVL.Store} (S' : Sim G Z' (lend B H ρ σ) H' ι' ω' [] []) (E : Ext Z Z' (PB (lend B H ρ σ)) ι ι' H H') : Sim G Z' B H' ι' ω' ρ σ ∧ Ext Z Z' (PO B ρ σ) ι ι' H H' := by
  have keepB : ∀ a, Z a ≠ none ∨ B a ≠ none → H' a = H a := fun a h => E.k a (h.imp id fun q => by
    cases e : B a with
    | none => exact absurd e q
    | some o => show lend B H ρ σ a ≠ none; rw [lend_b S e]; simp)
  have own : ∀ {i x a}, ρ[i]? = some (some (x, Md.own)) → σ[i]? = some (some (V.ref a)) → ∃ o, H a = some o ∧ H' a = some o ∧ lend B H ρ σ a = some o := fun {i x a} e1 e2 => by
    obtain ⟨o, ho⟩ := S.owSome (k := .slot i) ⟨⟨x, e1⟩, e2⟩
    have hl : lend B H ρ σ a = some o := by rw [lend_slot e1 e2]; exact ho
    exact ⟨o, ho, by rw [E.k a (.inr (by show lend B H ρ σ a ≠ none; rw [hl]; simp))]; exact ho, hl⟩
  have zl : ∀ {k a}, owA G H' ι' ω' [] [] k a → Z' a = none ∧ lend B H ρ σ a = none := fun {k a} h => S'.zno k a h
  have oc : ∀ {k a}, owA G H' ι' ω' ρ σ k a → (∃ i, k = .slot i) ∨ owA G H' ι' ω' [] [] k a := by
    intro k a h
    cases k with
    | slot i => exact .inl ⟨i, rfl⟩
    | ins n => exact .inr h
    | dct n => exact .inr h
    | fld n j => exact .inr h
  exact ⟨⟨S'.zH, fun a u e => by
      rcases S.bH a u e with q | ⟨m, o, q⟩
      · exact .inl (by rw [keepB a (.inr (by rw [e]; simp))]; exact q)
      · exact .inr ⟨m, o, by rw [keepB a (.inr (by rw [e]; simp))]; exact q⟩, S'.iL, S'.ob, fun i x m e => by
      obtain ⟨v, e1, e2⟩ := S.sl i x m e
      refine ⟨v, e1, ?_⟩
      cases m with
      | own =>
        obtain ⟨a, o, rfl, h2, h3⟩ := e2
        obtain ⟨o', q1, q2, _⟩ := own e e1
        rw [h2] at q1; cases q1
        exact ⟨a, o, rfl, q2, h3.mono E.z E.i⟩
      | fz => exact e2.mono E.z E.i
      | br =>
        rcases e2 with e2 | ⟨a, o, h1, h2, h3⟩
        · exact .inl (e2.mono E.z E.i)
        · exact .inr ⟨a, o, h1, h2, h3.mono E.z E.i⟩
      | lv => exact e2, S.len, fun k k' a h h' => by
      rcases oc h with ⟨i, rfl⟩ | h1
      · rcases oc h' with ⟨j, rfl⟩ | h2
        · exact S.inj _ _ a h h'
        · obtain ⟨⟨x, e1⟩, e2⟩ := h
          obtain ⟨o, _, _, q⟩ := own e1 e2
          rw [(zl h2).2] at q; cases q
      · rcases oc h' with ⟨j, rfl⟩ | h2
        · obtain ⟨⟨x, e1⟩, e2⟩ := h'
          obtain ⟨o, _, _, q⟩ := own e1 e2
          rw [(zl h1).2] at q; cases q
        · exact S'.inj k k' a h1 h2, fun k a h => by
      rcases oc h with ⟨i, rfl⟩ | h1
      · obtain ⟨⟨x, e1⟩, e2⟩ := h
        obtain ⟨o, _, _, q⟩ := own e1 e2
        exact ⟨S'.zb a o q, (S.zno (.slot i) a ⟨⟨x, e1⟩, e2⟩).2⟩
      · refine ⟨(zl h1).1, ?_⟩
        cases e : B a with
        | none => rfl
        | some o =>
          have := (zl h1).2
          rw [lend_b S e] at this
          contradiction, fun a o e => S'.zb a o (lend_b S e)⟩, ⟨E.z, E.i, fun a h => by
      rcases h with h | h | ⟨i, x, e1, e2⟩
      · exact keepB a (.inl h)
      · exact keepB a (.inr h)
      · obtain ⟨o, q1, q2, _⟩ := own e1 e2
        rw [q1, q2]⟩⟩
end
end PVS

/-! PVL: texts: what find, slices and orders are (core Lean). -/
namespace PVL
theorem isPre_iff : ∀ {w t : Txt}, isPre w t = true ↔ w <+: t
  | [], t => by simp [isPre]
  | a :: w, [] => by simp [isPre]
  | a :: w, b :: t => by simp [isPre, isPre_iff (w := w) (t := t), List.cons_prefix_cons]
theorem findFrom_spec (w : Txt) : ∀ (t : Txt) (i : Nat),
    (findFrom w t i = -1 ∧ ∀ k, k ≤ t.length → ¬ w <+: t.drop k) ∨ ∃ k, k ≤ t.length ∧ findFrom w t i = ((i + k : Nat) : Int) ∧ w <+: t.drop k ∧ ∀ j, j < k → ¬ w <+: t.drop j
  | [], i => by
    unfold findFrom
    by_cases h : w = []
    · subst h
      exact .inr ⟨0, Nat.le_refl _, by simp, by simp, fun j hj => absurd hj (Nat.not_lt_zero _)⟩
    · refine .inl ⟨if_neg h, fun k _ => ?_⟩
      simp [h]
  | c :: t, i => by
    unfold findFrom
    by_cases h : isPre w (c :: t) = true
    · exact .inr ⟨0, Nat.zero_le _, by rw [if_pos h]; simp, isPre_iff.mp h, fun j hj => absurd hj (Nat.not_lt_zero _)⟩
    · rw [if_neg h]
      have h0 : ¬ w <+: (c :: t).drop 0 := fun z => h (isPre_iff.mpr z)
      rcases findFrom_spec w t (i + 1) with ⟨e, n⟩ | ⟨k, h1, h2, h3, h4⟩
      · refine .inl ⟨e, fun k hk => ?_⟩
        cases k with
        | zero => exact h0
        | succ k => exact n k (by simpa using hk)
      · refine .inr ⟨k + 1, by simpa using h1, by rw [h2]; congr 1; omega, h3, fun j hj => ?_⟩
        cases j with
        | zero => exact h0
        | succ j => exact h4 j (by omega)
/-- w stands in t at i -/
def At (w t : Txt) (i : Nat) : Prop := i ≤ t.length ∧ w <+: t.drop i
theorem find_spec (t w : Txt) : (find t w = -1 ∧ ∀ k, ¬ At w t k) ∨ ∃ k : Nat, find t w = (k : Int) ∧ At w t k ∧ ∀ j, j < k → ¬ At w t j := by
  unfold find
  rcases findFrom_spec w t 0 with ⟨e, n⟩ | ⟨k, h1, h2, h3, h4⟩
  · exact .inl ⟨e, fun k ⟨h, z⟩ => n k h z⟩
  · exact .inr ⟨k, by rw [h2]; simp, ⟨h1, h3⟩, fun j hj ⟨_, z⟩ => h4 j hj z⟩
theorem isIn_iff {w t : Txt} : isIn w t = true ↔ ∃ k, At w t k := by
  unfold isIn
  rcases find_spec t w with ⟨e, n⟩ | ⟨k, e, h, _⟩
  · rw [e]
    simp
    exact n
  · rw [e]
    simp
    exact ⟨k, h⟩
theorem at_len {w t : Txt} {i : Nat} (h : At w t i) : i + w.length ≤ t.length := by
  have := h.2.length_le
  rw [List.length_drop] at this
  have := h.1
  omega
theorem at_iff_take {w t : Txt} {i : Nat} (hi : i ≤ t.length) : At w t i ↔ (t.drop i).take w.length = w := by
  constructor
  · intro h; exact (List.prefix_iff_eq_take.mp h.2).symm
  · intro h; exact ⟨hi, List.prefix_iff_eq_take.mpr h.symm⟩
theorem at_infix {w t : Txt} : (∃ k, At w t k) ↔ w <:+: t := by
  constructor
  · rintro ⟨k, h1, r, h2⟩
    exact ⟨t.take k, r, by rw [List.append_assoc, h2, List.take_append_drop]⟩
  · rintro ⟨a, b, rfl⟩
    refine ⟨a.length, by simp only [List.length_append]; omega, b, ?_⟩
    rw [List.append_assoc, List.drop_left]
theorem isIn_infix {w t : Txt} : isIn w t = true ↔ w <:+: t := isIn_iff.trans at_infix

/-! ### orders -/
theorem ltT_iff : ∀ {a b : Txt}, ltT a b = true ↔ a < b
  | [], [] => by simp [ltT]
  | [], b :: t => by simp [ltT]
  | a :: s, [] => by simp [ltT]
  | a :: s, b :: t => by
    rw [List.cons_lt_cons_iff]
    unfold ltT
    split
    · rename_i h; simp [h]
    · rename_i h
      split
      · rename_i h2
        simp only [Bool.false_eq_true, false_iff, not_or, not_and]
        exact ⟨h, fun e => by omega⟩
      · rename_i h2
        have e : a = b := by omega
        subst e
        simp [ltT_iff (a := s) (b := t)]
theorem leT_iff {a b : Txt} : leT a b = true ↔ ¬ b < a := by
  unfold leT
  rw [Bool.not_eq_true', ← Bool.not_eq_true, ltT_iff]
end PVL

set_option maxHeartbeats 1000000
/-! PVS: the operators. -/
namespace PVS
open PySem L2 TL PVL

theorem line_eq : PVL.line = sizeLine := by rw [sizeLine_eq]; rfl

/-- v is read as x in H -/
def RH (G : GS) (Z H : Hp) (ι : List (Addr × Addr)) (v : V) : PV → Prop
  | .lst xs => ∃ a vs, v = .ref a ∧ Rd H a (.lst vs) ∧ RVs G Z ι vs xs
  | .dic ps => ∃ a, v = .ref a ∧ ((∃ kvs, Rd H a (.dK kvs) ∧ RK G Z ι kvs ps) ∨ ∃ kvs, Rd H a (.dT kvs) ∧ RT G Z ι kvs ps ∧ kvs ≠ [])
  | x => RV G Z ι v x
section
variable {G : GS} {Z Z' B H H' : Hp} {ι ι' : List (Addr × Addr)}
theorem RH.of (s : Sub Z H) {v : V} {x : PV} (h : RV G Z ι v x) : RH G Z H ι v x := by
  cases h with
  | lst h r => exact ⟨_, _, rfl, s.rdl h, r⟩
  | dK h r => exact ⟨_, rfl, .inl ⟨_, (s _ _ h).rd, r⟩⟩
  | dT h r e => exact ⟨_, rfl, .inr ⟨_, (s _ _ h).rd, r, e⟩⟩
  | non => exact .non
  | bl b => exact .bl b
  | int i => exact .int i
  | str z h => exact .str z h
  | tup h r => exact .tup h r
  | obj h => exact .obj h
theorem RH.ofO {a : Addr} {o : HO} {x : PV} (h : Rd H a o) (r : RO G Z ι o x) : RH G Z H ι (.ref a) x := by
  cases r with
  | lst r => exact ⟨_, _, rfl, h, r⟩
  | dK r => exact ⟨_, rfl, .inl ⟨_, h, r⟩⟩
  | dT r e => exact ⟨_, rfl, .inr ⟨_, h, r, e⟩⟩
theorem RH.flat {v : V} {x : PV} (h : RH G Z H ι v x) (hc : isC x = false) : RV G Z ι v x := by
  cases x with
  | lst _ => cases hc
  | dic _ => cases hc
  | _ => exact h
theorem RH.str {v : V} {s : Txt} (h : RH G Z H ι v (.str s)) : v = .str (mkS s) ∧ okT s := by
  cases h with
  | str _ h => exact ⟨rfl, h⟩
theorem RH.int {v : V} {i : Int} (h : RH G Z H ι v (.int i)) : v = .int i := by
  cases h
  rfl
theorem RH.bl {v : V} {b : Bool} (h : RH G Z H ι v (.bl b)) : v = .bl b := by
  cases h
  rfl
theorem RH.non {v : V} (h : RH G Z H ι v .non) : v = .non := by
  cases h
  rfl
theorem RH.tup (s : Sub Z H) {v : V} {xs : List PV} (h : RH G Z H ι v (.tup xs)) : ∃ a vs, v = .ref a ∧ H a = some (.tup vs) ∧ RVs G Z ι vs xs := by
  cases h with
  | tup h r => exact ⟨_, _, rfl, s.tup h, r⟩

/-- a result: a thing that stands, or a new one -/
def Nw (G : GS) (Z H : Hp) (ι : List (Addr × Addr)) (m : Md) (z : PV) (v : V) (H' : Hp) : Prop :=
  ((m = .own → isC z = false) ∧ RV G Z ι v z ∧ H' = H) ∨
  ∃ p o, H p = none ∧ v = .ref p ∧ H' = upd H p o ∧ (RO G Z ι o z ∨ ∃ vs xs, o = .tup vs ∧ z = .tup xs ∧ RVs G Z ι vs xs)
theorem Nw.val {m : Md} {z : PV} {v : V} (h : RV G Z ι v z) (hc : isC z = false) : Nw G Z H ι m z v H := .inl ⟨fun _ => hc, h, rfl⟩
theorem Nw.lst {m : Md} {vs : List V} {xs : List PV} {p : Addr} (hp : H p = none) (r : RVs G Z ι vs xs) : Nw G Z H ι m (.lst xs) (.ref p) (upd H p (.lst vs)) := .inr ⟨p, _, hp, rfl, rfl, .inl (.lst r)⟩
theorem Nw.tup {m : Md} {vs : List V} {xs : List PV} {p : Addr} (hp : H p = none) (r : RVs G Z ι vs xs) : Nw G Z H ι m (.tup xs) (.ref p) (upd H p (.tup vs)) := .inr ⟨p, _, hp, rfl, rfl, .inr ⟨vs, xs, rfl, rfl, r⟩⟩
end

/-- an operation of two values -/
def rOp (G : GS) (g : PV → PV → Option PV) (m : Md) : R2 := fun v u H Q => ∃ Z ι x y z, Sub Z H ∧ RH G Z H ι v x ∧ RH G Z H ι u y ∧ g x y = some z ∧ ∀ w H', Nw G Z H ι m z w H' → Q w H'
/-- a comparison -/
def rCm (G : GS) (g : PV → PV → Option Bool) : R2 := fun v u H Q => ∃ Z ι x y b, Sub Z H ∧ RH G Z H ι v x ∧ RH G Z H ι u y ∧ g x y = some b ∧ Q (.bl b) H

section
variable {X : Cx} {G : GS}
theorem okT.app {a b : Txt} (ha : okT a) (hb : okT b) (h : a.length + b.length ≤ PVL.line) : okT (a ++ b) :=
  ⟨by rw [List.length_append]; exact h, fun c hc => (List.mem_append.mp hc).elim (ha.2 c) (hb.2 c)⟩
theorem mkS_len (a : Txt) : (mkS a).length = a.length := by simp [mkS, Str.length]
theorem mkS_app (a b : Txt) : mkS a ++ mkS b = mkS (a ++ b) := ext_tl (by rw [tl_append])
theorem mkS_inj {a b : Txt} (h : mkS a = mkS b) : a = b := by
  have := congrArg tl h
  simpa [tl] using this

/-! ### + of lists that are read -/
theorem Inv.lstR {pins : List (Addr × Obj)} {σ : St} {H : Hp} {s : Shared} (I : Inv X pins σ H s) {l : Addr} {xs : List V} (h : Rd H l (.lst xs)) : xs.length ≤ sizeLine ∧ ∃ (its : List Value) (n : Nat), Vals xs its ∧ xs.length = its.length ∧ s.heap.get? l = some { cls := .type "list", data := .seq its.toArray n } := by
  obtain ⟨z, its, n, r, e⟩ := h.ok I.hok
  exact ⟨z, its, n, r, r.length, e⟩
theorem op_catR : OpR X (binaryOp .Add) (fun x y H Q => ∃ l b xs zs, x = .ref l ∧ y = .ref b ∧ Rd H l (.lst xs) ∧ Rd H b (.lst zs) ∧ xs.length + zs.length ≤ sizeLine ∧ ∀ p, H p = none → Q (.ref p) (upd H p (.lst (xs ++ zs)))) := by
  intro pins s σ H x y v u Q I rx ry h
  obtain ⟨l, b, xs, zs, rfl, rfl, hH, hB, hz, q⟩ := h
  cases rx
  cases ry
  obtain ⟨z, its, n, r, hl, e⟩ := PVS.Inv.lstR I hH
  obtain ⟨z2, its2, n2, r2, hl2, e2⟩ := PVS.Inv.lstR I hB
  refine PySem.P.add_list e e2 ?_ (by rw [List.size_toArray, List.size_toArray]; omega)
  have ea : its.toArray ++ its2.toArray = (its ++ its2).toArray := by simp
  rw [ea]
  exact ⟨.ref _, _, I.lnew (t' := s.toks) (r.append r2) (by rw [List.length_append]; omega), rfl, q _ I.fresh⟩
theorem o_add : OpR X (binaryOp .Add) (rOp G (binV .add) .own) := by
  intro pins s σ H v u vv uu Q I rv ru h
  obtain ⟨Z, ι, x, y, z, sz, hx, hy, hg, k⟩ := h
  cases x <;> cases y <;> simp only [binV, reduceCtorEq] at hg
  · cases hg
    rw [hx.int] at rv; rw [hy.int] at ru
    exact op_add pins s σ H _ _ vv uu Q I rv ru ⟨_, _, rfl, rfl, k _ _ (.val (.int _) rfl)⟩
  · split at hg
    · rename_i hl
      cases hg
      obtain ⟨rfl, h1⟩ := hx.str
      obtain ⟨rfl, h2⟩ := hy.str
      refine op_add_str pins s σ H _ _ vv uu Q I rv ru ⟨_, _, rfl, rfl, by rw [mkS_len, mkS_len, ← line_eq]; exact hl, ?_⟩
      rw [mkS_app]
      exact k _ _ (.val (.str _ (h1.app h2 hl)) rfl)
    · cases hg
  · split at hg
    · rename_i hl
      cases hg
      obtain ⟨a, vs, rfl, h1, r1⟩ := hx
      obtain ⟨b, ws, rfl, h2, r2⟩ := hy
      exact op_catR pins s σ H _ _ vv uu Q I rv ru ⟨_, _, _, _, rfl, rfl, h1, h2, by rw [r1.len, r2.len, ← line_eq]; exact hl, fun p hp => k _ _ (.lst hp (r1.app r2))⟩
    · cases hg
theorem o_sub : OpR X (binaryOp .Sub) (rOp G (binV .sub) .own) := by
  intro pins s σ H v u vv uu Q I rv ru h
  obtain ⟨Z, ι, x, y, z, sz, hx, hy, hg, k⟩ := h
  cases x <;> cases y <;> simp only [binV, reduceCtorEq] at hg
  cases hg
  rw [hx.int] at rv; rw [hy.int] at ru
  exact op_sub pins s σ H _ _ vv uu Q I rv ru ⟨_, _, rfl, rfl, k _ _ (.val (.int _) rfl)⟩
theorem o_fdiv : OpR X (binaryOp .FloorDiv) (rOp G (binV .fdiv) .own) := by
  intro pins s σ H v u vv uu Q I rv ru h
  obtain ⟨Z, ι, x, y, z, sz, hx, hy, hg, k⟩ := h
  cases x <;> cases y <;> simp only [binV, reduceCtorEq] at hg
  split at hg
  · rename_i hc
    cases hg
    rw [hx.int] at rv; rw [hy.int] at ru
    exact op_fdivW pins s σ H _ _ vv uu Q I rv ru ⟨_, _, rfl, rfl, hc, k _ _ (.val (.int _) rfl)⟩
  · cases hg
theorem o_mod : OpR X (binaryOp .Mod) (rOp G (binV .mod) .own) := by
  intro pins s σ H v u vv uu Q I rv ru h
  obtain ⟨Z, ι, x, y, z, sz, hx, hy, hg, k⟩ := h
  cases x <;> cases y <;> simp only [binV, reduceCtorEq] at hg
  split at hg
  · rename_i hc
    cases hg
    rw [hx.int] at rv; rw [hy.int] at ru
    exact op_mod pins s σ H _ _ vv uu Q I rv ru ⟨_, _, rfl, rfl, hc, k _ _ (.val (.int _) rfl)⟩
  · cases hg
theorem o_pow : OpR X (binaryOp .Pow) (rOp G (binV .pow) .own) := by
  intro pins s σ H v u vv uu Q I rv ru h
  obtain ⟨Z, ι, x, y, z, sz, hx, hy, hg, k⟩ := h
  cases x <;> cases y <;> simp only [binV, reduceCtorEq] at hg
  split at hg
  · rename_i hc
    cases hg
    rw [hx.int] at rv; rw [hy.int] at ru
    exact op_pow pins s σ H _ _ vv uu Q I rv ru ⟨_, _, rfl, rfl, hc, k _ _ (.val (.int _) rfl)⟩
  · cases hg
theorem foldl_rep (a : Txt) : ∀ (n : Nat) (acc : Array Nat), ((List.replicate n a.toArray).foldl (· ++ ·) acc).toList = acc.toList ++ (List.replicate n a).flatten
  | 0, acc => by simp
  | n + 1, acc => by rw [List.replicate_succ, List.foldl_cons, foldl_rep a n]; simp [List.replicate_succ]
theorem flatten_len (a : Txt) : ∀ n : Nat, ((List.replicate n a).flatten).length = a.length * n
  | 0 => by simp
  | n + 1 => by simp [List.replicate_succ, flatten_len a n, Nat.mul_succ, Nat.add_comm]
theorem okT.rep {a : Txt} (ha : okT a) (n : Nat) (h : a.length * n ≤ PVL.line) : okT (List.replicate n a).flatten :=
  ⟨by rw [flatten_len]; exact h, fun c hc => by
    obtain ⟨l, h1, h2⟩ := List.mem_flatten.mp hc
    rw [(List.mem_replicate.mp h1).2] at h2
    exact ha.2 c h2⟩
theorem o_mul : OpR X (binaryOp .Mult) (rOp G (binV .mul) .own) := by
  intro pins s σ H v u vv uu Q I rv ru h
  obtain ⟨Z, ι, x, y, z, sz, hx, hy, hg, k⟩ := h
  cases x <;> cases y <;> simp only [binV, reduceCtorEq] at hg
  · split at hg
    · rename_i hc
      cases hg
      rw [hx.int] at rv; rw [hy.int] at ru
      exact op_mulW pins s σ H _ _ vv uu Q I rv ru ⟨_, _, rfl, rfl, of_decide_eq_true (p := _ < _) hc, k _ _ (.val (.int _) rfl)⟩
    · cases hg
  · split at hg
    · rename_i a n hc
      cases hg
      obtain ⟨rfl, h1⟩ := hx.str
      rw [hy.int] at ru
      obtain ⟨t, rfl⟩ := rv
      obtain ⟨t', rfl⟩ := ru
      have fin : ∀ (st : Shared), Inv X pins σ H st → ∀ t2, EP X pins σ Q (.str (mkS (List.replicate n.toNat a).flatten) t2) st := fun st J t2 => ⟨.str (mkS (List.replicate n.toNat a).flatten), H, J, ⟨_, rfl⟩, k _ _ (.val (.str _ (h1.rep _ hc.1)) rfl)⟩
      by_cases hn : n < 1
      · by_cases hlo : n < -(2 ^ 63 : Int)
        · have := hc.2.1
          omega
        · refine PySem.P.mul_str_none hn hlo ?_
          have e : (List.replicate n.toNat a).flatten = [] := by rw [show n.toNat = 0 by omega]; rfl
          have := fin { s with toks := s.toks + 1 } (I.tok _) s.toks
          rw [e] at this
          exact this
      · refine PySem.P.mul_str ?_ ?_ ?_ ?_
        · rw [decide_eq_false (by omega), decide_eq_false (by have := hc.2.2; omega)]; rfl
        · intro _ _ hgt
          rw [mkS_len] at hgt
          have h1 := hc.1
          have h3 : (a.length * n.toNat : Nat) ≤ 2 ^ 24 := h1
          have h4 : ((a.length * n.toNat : Nat) : Int) = a.length * n := by rw [Int.natCast_mul, Int.toNat_of_nonneg (by omega)]
          have h5 : (a.length : Int) * n ≤ 2 ^ 63 - 1 := by omega
          have h6 : (a.length : Int) ≤ (2 ^ 63 - 1) / n := (Int.le_ediv_iff_mul_le (by omega)).mpr h5
          omega
        · intro _ _
          unfold Builtin.Str.tooLong
          rw [mkS_len, decide_eq_false]
          rw [← line_eq]
          have := hc.1
          omega
        · rw [if_neg hn]
          split
          · rename_i h2
            have e : (List.replicate n.toNat a).flatten = a := by
              rcases Bool.or_eq_true _ _ ▸ h2 with q | q
              · have : n = 1 := by simpa using q
                subst this
                simp
              · have : a = [] := by
                  have : (mkS a).length = 0 := by simpa using q
                  rw [mkS_len] at this
                  exact List.eq_nil_of_length_eq_zero this
                subst this
                apply List.flatten_eq_nil_iff.mpr
                intro l hl
                exact (List.mem_replicate.mp hl).2
            have := fin { s with toks := s.toks } (I.tok _) t
            rw [e] at this
            exact this
          · have e : (⟨(List.replicate n.toNat (mkS a).cps).foldl (· ++ ·) #[]⟩ : Str) = mkS (List.replicate n.toNat a).flatten := ext_tl (by
              show ((List.replicate n.toNat a.toArray).foldl (· ++ ·) #[]).toList = _
              rw [foldl_rep]; simp [tl])
            rw [e]
            refine ⟨?_, fin _ (I.tok _) _⟩
            rw [mkS_len, flatten_len, ← line_eq]
            exact hc.1
    · cases hg
end
end PVS

set_option maxHeartbeats 1000000
/-! PVS: comparisons. -/
namespace PVS
open PySem L2 TL PVL
/-! ### plain values as the library's data -/
mutual
def toPD : PV → PyData
  | .non => .none
  | .bl b => .bool b
  | .int i => .int i
  | .str s => .str (mkS s)
  | .tup xs => .tuple (toPDs xs)
  | .lst xs => .list (toPDs xs)
  | .dic _ => .none
  | .obj _ => .none
  | .exc _ _ => .none
def toPDs : List PV → List PyData
  | [] => []
  | x :: xs => toPD x :: toPDs xs
end
mutual
theorem depth_of : ∀ {x : PV} {n : Nat}, deep x = some n → (toPD x).depth = n
  | .non, n, h => by cases h; rfl
  | .bl _, n, h => by cases h; rfl
  | .int _, n, h => by cases h; rfl
  | .str _, n, h => by cases h; rfl
  | .tup xs, n, h => by
    simp only [deep, Option.map_eq_some_iff] at h
    obtain ⟨m, h1, rfl⟩ := h
    simp [toPD, PyData.depth, depths_of h1]
  | .lst xs, n, h => by
    simp only [deep, Option.map_eq_some_iff] at h
    obtain ⟨m, h1, rfl⟩ := h
    simp [toPD, PyData.depth, depths_of h1]
  | .dic _, n, h => by cases h
  | .obj _, n, h => by cases h
  | .exc _ _, n, h => by cases h
theorem depths_of : ∀ {xs : List PV} {n : Nat}, deeps xs = some n → PyData.depthAll (toPDs xs) = n
  | [], n, h => by cases h; rfl
  | x :: xs, n, h => by
    simp only [deeps, Option.bind_eq_some_iff, Option.map_eq_some_iff] at h
    obtain ⟨a, h1, b, h2, rfl⟩ := h
    simp [toPDs, PyData.depthAll, depth_of h1, depths_of h2]
end
theorem beq_mkS (a b : Txt) : (mkS a == mkS b) = (a == b) := by
  by_cases h : a = b
  · subst h; simp
  · have : ¬ mkS a = mkS b := fun z => h (mkS_inj z)
    rw [beq_eq_false_iff_ne.mpr h, beq_eq_false_iff_ne.mpr this]
mutual
theorem eqv_pd : ∀ {x y : PV} {n m : Nat}, deep x = some n → deep y = some m → eqv x y = PyData.eqv (toPD x) (toPD y)
  | .non, y, n, m, h, h' => by cases y <;> simp [deep] at h' <;> simp [eqv, toPD, PyData.eqv]
  | .bl _, y, n, m, h, h' => by cases y <;> simp [deep] at h' <;> simp [eqv, toPD, PyData.eqv]
  | .int _, y, n, m, h, h' => by cases y <;> simp [deep] at h' <;> simp [eqv, toPD, PyData.eqv]
  | .str _, y, n, m, h, h' => by cases y <;> simp [deep] at h' <;> simp [eqv, toPD, PyData.eqv, beq_mkS]
  | .tup xs, y, n, m, h, h' => by
    simp only [deep, Option.map_eq_some_iff] at h
    obtain ⟨a, h1, rfl⟩ := h
    cases y with
    | tup ys =>
      simp only [deep, Option.map_eq_some_iff] at h'
      obtain ⟨b, h2, rfl⟩ := h'
      simp [eqv, toPD, PyData.eqv, eqvs_pd h1 h2]
    | _ => simp [deep] at h' <;> simp [eqv, toPD, PyData.eqv]
  | .lst xs, y, n, m, h, h' => by
    simp only [deep, Option.map_eq_some_iff] at h
    obtain ⟨a, h1, rfl⟩ := h
    cases y with
    | lst ys =>
      simp only [deep, Option.map_eq_some_iff] at h'
      obtain ⟨b, h2, rfl⟩ := h'
      simp [eqv, toPD, PyData.eqv, eqvs_pd h1 h2]
    | _ => simp [deep] at h' <;> simp [eqv, toPD, PyData.eqv]
  | .dic _, y, n, m, h, h' => by cases h
  | .obj _, y, n, m, h, h' => by cases h
  | .exc _ _, y, n, m, h, h' => by cases h
theorem eqvs_pd : ∀ {xs ys : List PV} {n m : Nat}, deeps xs = some n → deeps ys = some m → eqvs xs ys = PyData.eqvAll (toPDs xs) (toPDs ys)
  | [], [], n, m, h, h' => rfl
  | [], y :: ys, n, m, h, h' => rfl
  | x :: xs, [], n, m, h, h' => rfl
  | x :: xs, y :: ys, n, m, h, h' => by
    simp only [deeps, Option.bind_eq_some_iff, Option.map_eq_some_iff] at h h'
    obtain ⟨a, h1, b, h2, rfl⟩ := h
    obtain ⟨a', h1', b', h2', rfl⟩ := h'
    simp [eqvs, toPDs, PyData.eqvAll, eqv_pd h1 h1', eqvs_pd h2 h2']
end
section
variable {G : GS} {Z Z' B H H' : Hp} {ι ι' : List (Addr × Addr)}
theorem okT.strOk {s : Txt} (h : okT s) : PyData.strOk (mkS s) = true := by
  unfold PyData.strOk
  simp only [mkS, List.all_toArray, List.all_eq_true, decide_eq_true_eq]
  exact h.2
mutual
theorem RV.lay : ∀ {v : V} {x : PV} {n : Nat}, RV G Z ι v x → deep x = some n → (toPD x).canLay0 = true
  | _, _, _, .non, _ => rfl
  | _, _, _, .bl _, _ => rfl
  | _, _, _, .int _, _ => rfl
  | _, _, _, .str s h, _ => h.strOk
  | _, _, _, .tup h r, e => by
    simp only [deep, Option.map_eq_some_iff] at e
    obtain ⟨m, h1, rfl⟩ := e
    exact RVs.lay r h1
  | _, _, _, .lst h r, e => by
    simp only [deep, Option.map_eq_some_iff] at e
    obtain ⟨m, h1, rfl⟩ := e
    exact RVs.lay r h1
  | _, _, _, .dK h r, e => by cases e
  | _, _, _, .dT h r _, e => by cases e
  | _, _, _, .obj h, e => by cases e
theorem RVs.lay : ∀ {vs : List V} {xs : List PV} {n : Nat}, RVs G Z ι vs xs → deeps xs = some n → PyData.canLayAll0 (toPDs xs) = true
  | _, _, _, .nil, _ => rfl
  | _, _, _, .cons r t, e => by
    simp only [deeps, Option.bind_eq_some_iff, Option.map_eq_some_iff] at e
    obtain ⟨a, h1, b, h2, rfl⟩ := e
    simp [toPDs, PyData.canLayAll0, RV.lay r h1, RVs.lay t h2]
end
mutual
theorem RV.dp (s : Sub Z H) {K : PySem.W.Frag} (hK : G.K = K) : ∀ {v : V} {x : PV} {n : Nat}, RV G Z ι v x → deep x = some n → Dp K H v (toPD x)
  | _, _, _, .non, _ => .non
  | _, _, _, .bl _, _ => .bl _
  | _, _, _, .int _, _ => .int _
  | _, _, _, .str _ h, _ => .str _
  | _, _, _, .tup h r, e => by
    simp only [deep, Option.map_eq_some_iff] at e
    obtain ⟨m, h1, rfl⟩ := e
    exact .tup (SqT.of (s.tup h)) (RVs.dp s hK r h1)
  | _, _, _, .lst h r, e => by
    simp only [deep, Option.map_eq_some_iff] at e
    obtain ⟨m, h1, rfl⟩ := e
    exact .lst (.inl (s.rdl h)) (RVs.dp s hK r h1)
  | _, _, _, .dK h r, e => by cases e
  | _, _, _, .dT h r _, e => by cases e
  | _, _, _, .obj h, e => by cases e
theorem RVs.dp (s : Sub Z H) {K : PySem.W.Frag} (hK : G.K = K) : ∀ {vs : List V} {xs : List PV} {n : Nat}, RVs G Z ι vs xs → deeps xs = some n → DpAll K H vs (toPDs xs)
  | _, _, _, .nil, _ => .nil
  | _, _, _, .cons r t, e => by
    simp only [deeps, Option.bind_eq_some_iff, Option.map_eq_some_iff] at e
    obtain ⟨a, h1, b, h2, rfl⟩ := e
    exact .cons (RV.dp s hK r h1) (RVs.dp s hK t h2)
end
theorem RH.dp (s : Sub Z H) {K : PySem.W.Frag} (hK : G.K = K) {v : V} {x : PV} {n : Nat} (h : RH G Z H ι v x) (e : deep x = some n) : Dp K H v (toPD x) ∧ (toPD x).canLay0 = true := by
  cases x with
  | lst xs =>
    obtain ⟨a, vs, rfl, h1, r⟩ := h
    simp only [deep, Option.map_eq_some_iff] at e
    obtain ⟨m, h2, rfl⟩ := e
    exact ⟨.lst (.inl h1) (r.dp s hK h2), r.lay h2⟩
  | dic _ => cases e
  | _ => exact ⟨RV.dp s hK h e, RV.lay h e⟩
end
section
variable {X : Cx} {G : GS}
theorem eq_run (hK : G.K = X.K) (hu : X.A.units + 64 < cLine) {pins : List (Addr × Obj)} {s : Shared} {σ : St} {H : Hp} {v u : V} {vv uu : Value} (I : Inv X pins σ H s) (rv : RelV v vv) (ru : RelV u uu) {Z : Hp} {ι : List (Addr × Addr)} {x y : PV}
    (sz : Sub Z H) (hx : RH G Z H ι v x) (hy : RH G Z H ι u y) (hk : eqOk x y = true) :
    ∃ as bs, Reads s.heap vv (toPD x) as ∧ Reads s.heap uu (toPD y) bs ∧ (toPD x).canLay0 = true ∧ (toPD y).canLay0 = true ∧ X.A.units + min (toPD x).depth (toPD y).depth < cLine ∧ eqv x y = PyData.eqv (toPD x) (toPD y) := by
  unfold eqOk at hk
  cases e1 : deep x with
  | none => rw [e1] at hk; cases hk
  | some a =>
    cases e2 : deep y with
    | none => rw [e1, e2] at hk; cases hk
    | some b =>
      rw [e1, e2] at hk
      have hk := of_decide_eq_true hk
      obtain ⟨d1, l1⟩ := hx.dp sz hK e1
      obtain ⟨d2, l2⟩ := hy.dp sz hK e2
      obtain ⟨as, r1⟩ := Dp.reads I _ _ _ d1 rv
      obtain ⟨bs, r2⟩ := Dp.reads I _ _ _ d2 ru
      exact ⟨as, bs, r1, r2, l1, l2, by rw [depth_of e1, depth_of e2]; omega, eqv_pd e1 e2⟩
theorem o_eq (hK : G.K = X.K) (hu : X.A.units + 64 < cLine) : OpR X (compareOp .Eq) (rCm G (cmpV .eq)) := by
  intro pins s σ H v u vv uu Q I rv ru h
  obtain ⟨Z, ι, x, y, b, sz, hx, hy, hg, k⟩ := h
  simp only [cmpV] at hg
  split at hg
  · rename_i hk
    cases hg
    obtain ⟨as, bs, r1, r2, l1, l2, hu', e⟩ := eq_run hK hu I rv ru sz hx hy hk
    exact SeqAt.compareEq_reads r1 r2 l1 l2 hu' ⟨.bl _, H, I, by rw [e]; rfl, k⟩
  · cases hg
theorem o_ne (hK : G.K = X.K) (hu : X.A.units + 64 < cLine) : OpR X (compareOp .NotEq) (rCm G (cmpV .ne)) := by
  intro pins s σ H v u vv uu Q I rv ru h
  obtain ⟨Z, ι, x, y, b, sz, hx, hy, hg, k⟩ := h
  simp only [cmpV] at hg
  split at hg
  · rename_i hk
    cases hg
    obtain ⟨as, bs, r1, r2, l1, l2, hu', e⟩ := eq_run hK hu I rv ru sz hx hy hk
    exact SeqAt.compareNe_reads r1 r2 l1 l2 hu' ⟨.bl _, H, I, by rw [e]; rfl, k⟩
  · cases hg
theorem dec_lt (a b : Txt) : decide ((mkS a).cps.toList < (mkS b).cps.toList) = ltT a b := by
  show decide (a < b) = ltT a b
  by_cases h : a < b
  · rw [decide_eq_true h, ltT_iff.mpr h]
  · rw [decide_eq_false h]
    exact (Bool.eq_false_iff.mpr fun z => h (ltT_iff.mp z)).symm
theorem o_lt : OpR X (compareOp .Lt) (rCm G (cmpV .lt)) := by
  intro pins s σ H v u vv uu Q I rv ru h
  obtain ⟨Z, ι, x, y, b, sz, hx, hy, hg, k⟩ := h
  cases x <;> cases y <;> simp only [cmpV, reduceCtorEq] at hg <;> cases hg
  · rw [hx.int] at rv; rw [hy.int] at ru
    exact op_lt pins s σ H _ _ vv uu Q I rv ru ⟨_, _, rfl, rfl, k⟩
  · rw [hx.str.1] at rv; rw [hy.str.1] at ru
    exact op_lt_str pins s σ H _ _ vv uu Q I rv ru ⟨_, _, rfl, rfl, by rw [dec_lt]; exact k⟩
theorem o_le : OpR X (compareOp .LtE) (rCm G (cmpV .le)) := by
  intro pins s σ H v u vv uu Q I rv ru h
  obtain ⟨Z, ι, x, y, b, sz, hx, hy, hg, k⟩ := h
  cases x <;> cases y <;> simp only [cmpV, reduceCtorEq] at hg <;> cases hg
  · rw [hx.int] at rv; rw [hy.int] at ru
    exact op_le pins s σ H _ _ vv uu Q I rv ru ⟨_, _, rfl, rfl, k⟩
  · rw [hx.str.1] at rv; rw [hy.str.1] at ru
    exact op_le_str pins s σ H _ _ vv uu Q I rv ru ⟨_, _, rfl, rfl, by rw [dec_lt]; exact k⟩
theorem o_gt : OpR X (compareOp .Gt) (rCm G (cmpV .gt)) := by
  intro pins s σ H v u vv uu Q I rv ru h
  obtain ⟨Z, ι, x, y, b, sz, hx, hy, hg, k⟩ := h
  cases x <;> cases y <;> simp only [cmpV, reduceCtorEq] at hg <;> cases hg
  · rw [hx.int] at rv; rw [hy.int] at ru
    exact op_gt pins s σ H _ _ vv uu Q I rv ru ⟨_, _, rfl, rfl, k⟩
  · rw [hx.str.1] at rv; rw [hy.str.1] at ru
    exact op_gt_str pins s σ H _ _ vv uu Q I rv ru ⟨_, _, rfl, rfl, by rw [dec_lt]; exact k⟩
theorem o_ge : OpR X (compareOp .GtE) (rCm G (cmpV .ge)) := by
  intro pins s σ H v u vv uu Q I rv ru h
  obtain ⟨Z, ι, x, y, b, sz, hx, hy, hg, k⟩ := h
  cases x <;> cases y <;> simp only [cmpV, reduceCtorEq] at hg <;> cases hg
  · rw [hx.int] at rv; rw [hy.int] at ru
    exact op_ge pins s σ H _ _ vv uu Q I rv ru ⟨_, _, rfl, rfl, k⟩
  · rw [hx.str.1] at rv; rw [hy.str.1] at ru
    exact op_ge_str pins s σ H _ _ vv uu Q I rv ru ⟨_, _, rfl, rfl, by rw [dec_lt]; exact k⟩
end
end PVS

set_option maxHeartbeats 1000000
/-! PVS: in, is, items, slices. -/
namespace PVS
open PySem L2 TL PVL
section
variable {X : Cx} {G : GS}
theorem at_str {w t : Txt} {i : Nat} : PySem.StrLaws.At (mkS t) (mkS w) (mkS t).length i ↔ PVL.At w t i := by
  have h1 := mkS_len t
  have h2 := mkS_len w
  constructor
  · rintro ⟨a, b⟩
    rw [PySem.StrLaws.subAt_eq] at b
    have hi : i ≤ t.length := by omega
    refine (at_iff_take hi).mpr ?_
    have := eq_of_beq b
    rw [h2] at this
    exact this
  · intro h
    have hl := at_len h
    refine ⟨by omega, ?_⟩
    rw [PySem.StrLaws.subAt_eq, h2]
    have := (at_iff_take h.1).mp h
    exact beq_iff_eq.mpr this
theorem in_str (w t : Txt) : (!(Builtin.Str.occurrences (mkS t) (mkS w) 0 (mkS t).length 1).isEmpty) = isIn w t := by
  rcases PySem.StrLaws.occ_head (mkS t) (mkS w) 1 (Nat.le_refl _) with ⟨e, n⟩ | ⟨i, r, e, h, _⟩
  · rw [e]
    symm
    show isIn w t = false
    refine Bool.eq_false_iff.mpr fun z => ?_
    obtain ⟨k, hk⟩ := isIn_iff.mp z
    exact n k (at_str.mpr hk)
  · rw [e]
    symm
    exact isIn_iff.mpr ⟨i, at_str.mp h⟩
theorem find_str (t w : Txt) : Txt.find (mkS t) (mkS w) = PVL.find t w := by
  unfold Txt.find
  rcases PySem.StrLaws.occ_head (mkS t) (mkS w) 1 (Nat.le_refl _) with ⟨e, n⟩ | ⟨i, r, e, h, l⟩
  · rw [e]
    rcases find_spec t w with ⟨q, _⟩ | ⟨k, _, h, _⟩
    · exact q.symm
    · exact absurd (at_str.mpr h) (n k)
  · rw [e]
    rcases find_spec t w with ⟨q, n⟩ | ⟨k, q, hk, m⟩
    · exact absurd (at_str.mp h) (n i)
    · rw [q]
      have : i = k := by
        rcases Nat.lt_trichotomy i k with z | z | z
        · exact absurd (at_str.mp h) (m i z)
        · exact z
        · exact absurd (at_str.mpr hk) (l k z)
      rw [this]

/-! ### in -/
theorem eqV_flat {Z : Hp} {ι : List (Addr × Addr)} {v u : V} {x y : PV} (hx : RV G Z ι v x) (hy : RV G Z ι u y) (fx : flatS x = true) (fy : flatS y = true) : L2.eqV u v = eqv y x ∧ flatV v = true ∧ flatV u = true := by
  cases hx <;> simp [flatS] at fx <;> cases hy <;> simp [flatS] at fy <;> simp [L2.eqV, eqv, flatV, beq_mkS]
theorem inV_flat {Z : Hp} {ι : List (Addr × Addr)} {v : V} {x : PV} (hx : RV G Z ι v x) (fx : flatS x = true) : ∀ {vs : List V} {xs : List PV}, RVs G Z ι vs xs → xs.all flatS = true → L2.inV v vs = (xs.any fun y => eqv y x) ∧ vs.all flatV = true
  | _, _, .nil, _ => ⟨rfl, rfl⟩
  | _, _, .cons r t, h => by
    rw [List.all_cons, Bool.and_eq_true] at h
    obtain ⟨h1, h2, h3⟩ := eqV_flat hx r fx h.1
    obtain ⟨h4, h5⟩ := inV_flat hx fx t h.2
    unfold L2.inV at h4 ⊢
    rw [List.any_cons, List.any_cons, h1, h4, List.all_cons, h3, h5]
    exact ⟨rfl, rfl⟩
theorem flat_not {x : PV} (h : flatS x = true) : isC x = false := by cases x <;> simp [flatS] at h <;> rfl

/-! ### keys of dicts -/
theorem kP_flat (k : Key) : flatKey (kP k) = true := by cases k <;> rfl
theorem tup_kP (k : Key) : tupKey (kP k) = false := by cases k <;> rfl
theorem keyEq_kP (a b : Key) : keyEq (kP a) (kP b) = decide (a = b) := by
  cases a with
  | inl i =>
    cases b with
    | inl j => simp [kP, keyEq]; exact Bool.beq_eq_decide_eq _ _
    | inr s => simp [kP, keyEq]
  | inr s =>
    cases b with
    | inl j => simp [kP, keyEq]
    | inr t =>
      simp only [kP, keyEq]
      by_cases h : s = t
      · subst h; simp
      · have : ¬ s.cps.toList = t.cps.toList := fun z => h (ext_tl z)
        rw [beq_eq_false_iff_ne.mpr this, decide_eq_false (fun z => h (Sum.inr.inj z))]
theorem eqv_kP (a b : Key) : eqv (kP a) (kP b) = decide (a = b) := by
  rw [← keyEq_kP]
  cases a <;> cases b <;> simp [kP, keyEq, eqv]
theorem eqvs_kP : ∀ (a b : List Key), eqvs (a.map kP) (b.map kP) = decide (a = b)
  | [], [] => rfl
  | [], _ :: _ => rfl
  | _ :: _, [] => rfl
  | x :: a, y :: b => by
    show (eqv (kP x) (kP y) && eqvs (a.map kP) (b.map kP)) = _
    rw [eqv_kP, eqvs_kP a b]
    by_cases h : x = y
    · subst h; simp
    · simp [h]
theorem keyEq_tP (a b : List Key) : keyEq (.tup (a.map kP)) (.tup (b.map kP)) = decide (a = b) := eqvs_kP a b
theorem kP_inj {a b : Key} (h : kP a = kP b) : a = b := by
  have := keyEq_kP a b
  rw [h, keyEq_kP] at this
  simpa using this.symm
/-- a key as it stands -/
theorem key_flat {Z H : Hp} {ι : List (Addr × Addr)} {v : V} {x : PV} (h : RV G Z ι v x) (f : flatKey x = true) : ∃ k : Key, v = kV k ∧ x = kP k ∧ ∀ s, k = .inr s → okT s.cps.toList := by
  cases h <;> simp [flatKey] at f
  · exact ⟨.inl _, rfl, rfl, fun _ z => by cases z⟩
  · rename_i s h
    exact ⟨.inr (mkS s), rfl, rfl, fun _ z => by cases z; exact h⟩
theorem keys_flat {Z H : Hp} {ι : List (Addr × Addr)} : ∀ {vs : List V} {xs : List PV}, RVs G Z ι vs xs → xs.all flatKey = true → ∃ ks : List Key, vs = ks.map kV ∧ xs = ks.map kP ∧ ∀ s, Sum.inr s ∈ ks → okT s.cps.toList
  | _, _, .nil, _ => ⟨[], rfl, rfl, fun _ h => by cases h⟩
  | _, _, .cons r t, h => by
    rw [List.all_cons, Bool.and_eq_true] at h
    obtain ⟨k, rfl, rfl, h1⟩ := key_flat (H := H) r h.1
    obtain ⟨ks, rfl, rfl, h2⟩ := keys_flat (H := H) t h.2
    exact ⟨k :: ks, rfl, rfl, fun s hs => by
      rcases List.mem_cons.mp hs with z | z
      · exact h1 s z.symm
      · exact h2 s z⟩
section
variable {Z : Hp} {ι : List (Addr × Addr)}
theorem RK.look {kvs : List (Key × V)} {ps : List (PV × PV)} (h : RK G Z ι kvs ps) (k : Key) : (∀ x, look ps (kP k) = some x → ∃ v, valV kvs k = some v ∧ RV G Z ι v x) ∧ (look ps (kP k) = none → valV kvs k = none) := by
  induction kvs generalizing ps with
  | nil => cases h; exact ⟨fun x e => (by cases e), fun _ => rfl⟩
  | cons p kvs ih =>
    cases h with
    | @cons j v x _ xs r _ t =>
      obtain ⟨i1, i2⟩ := ih t
      unfold PVL.look at i1 i2 ⊢
      rw [List.find?_cons, keyEq_kP]
      by_cases e : j = k
      · subst e
        simp only [decide_true, Option.map_some]
        exact ⟨fun y hy => by cases hy; exact ⟨v, valV_pos rfl, r⟩, fun z => by cases z⟩
      · simp only [decide_eq_false e]
        exact ⟨fun y hy => by rw [valV_neg e]; exact i1 y hy, fun z => by rw [valV_neg e]; exact i2 z⟩
theorem RT.look {kvs : List (List Key × V)} {ps : List (PV × PV)} (h : RT G Z ι kvs ps) (k : List Key) : (∀ x, look ps (.tup (k.map kP)) = some x → ∃ v, valV kvs k = some v ∧ RV G Z ι v x) ∧ (look ps (.tup (k.map kP)) = none → valV kvs k = none) := by
  induction kvs generalizing ps with
  | nil => cases h; exact ⟨fun x e => (by cases e), fun _ => rfl⟩
  | cons p kvs ih =>
    cases h with
    | @cons j v x _ xs r _ t =>
      obtain ⟨i1, i2⟩ := ih t
      unfold PVL.look at i1 i2 ⊢
      rw [List.find?_cons, keyEq_tP]
      by_cases e : j = k
      · subst e
        simp only [decide_true, Option.map_some]
        exact ⟨fun y hy => by cases hy; exact ⟨v, valV_pos rfl, r⟩, fun z => by cases z⟩
      · simp only [decide_eq_false e]
        exact ⟨fun y hy => by rw [valV_neg e]; exact i1 y hy, fun z => by rw [valV_neg e]; exact i2 z⟩
theorem RK.flats {kvs : List (Key × V)} {ps : List (PV × PV)} (h : RK G Z ι kvs ps) : ps.all (fun p => flatKey p.1) = true := by
  induction kvs generalizing ps with
  | nil => cases h; rfl
  | cons p kvs ih => cases h with | cons r _ t => rw [List.all_cons, ih t]; simp [kP_flat]
theorem RT.tups {kvs : List (List Key × V)} {ps : List (PV × PV)} (h : RT G Z ι kvs ps) : ps.all (fun p => tupKey p.1) = true := by
  induction kvs generalizing ps with
  | nil => cases h; rfl
  | cons p kvs ih =>
    cases h with
    | cons r _ t =>
      rw [List.all_cons, ih t]
      simp [tupKey, kP_flat]
end
/-- a dict that is read by a key: what DGet asks -/
theorem dget {Z H : Hp} {ι : List (Addr × Addr)} (sz : Sub Z H) {a : Addr} {ps : List (PV × PV)} {u : V} {k : PV} (hd : RH G Z H ι (.ref a) (.dic ps)) (hk : RH G Z H ι u k) (hf : keyFits ps k = true) :
    (∀ x, PVL.look ps k = some x → ∃ v, DGet H a u (some v) ∧ RV G Z ι v x) ∧ (PVL.look ps k = none → DGet H a u none) := by
  unfold keyFits at hf
  obtain ⟨a', e, hd⟩ := hd
  cases e
  rcases (Bool.or_eq_true _ _).mp hf with hf | hf
  · rw [Bool.and_eq_true] at hf
    have hkc : isC k = false := by cases k <;> simp [flatKey] at hf <;> rfl
    obtain ⟨j, rfl, rfl, _⟩ := key_flat (H := H) (hk.flat hkc) hf.1
    rcases hd with ⟨kvs, h1, r⟩ | ⟨kvs, h1, r, ne⟩
    · obtain ⟨l1, l2⟩ := r.look j
      refine ⟨fun x hx => ?_, fun hn => ?_⟩
      · obtain ⟨v, h2, h3⟩ := l1 x hx
        exact ⟨v, .inl ⟨kvs, j, h1, rfl, h2.symm⟩, h3⟩
      · exact .inl ⟨kvs, j, h1, rfl, (l2 hn).symm⟩
    · exfalso
      have h2 := r.tups
      cases r with
      | nil => exact ne rfl
      | cons _ _ _ =>
        rw [List.all_cons, Bool.and_eq_true] at hf h2
        have := hf.2.1
        simp [flatKey] at this
  · rw [Bool.and_eq_true, Bool.and_eq_true] at hf
    cases k with
    | tup xs =>
      cases hk with
      | tup ht rs =>
        obtain ⟨ks, rfl, rfl, _⟩ := keys_flat (H := H) rs hf.1.1
        rcases hd with ⟨kvs, h1, r⟩ | ⟨kvs, h1, r, ne⟩
        · exfalso
          have h2 := r.flats
          cases r with
          | nil => simp at hf
          | cons _ _ _ =>
            rw [List.all_cons, Bool.and_eq_true] at h2
            have h3 := hf.2
            rw [List.all_cons, Bool.and_eq_true] at h3
            have := h3.1
            simp [tup_kP] at this
        · obtain ⟨l1, l2⟩ := r.look ks
          refine ⟨fun x hx => ?_, fun hn => ?_⟩
          · obtain ⟨v, h2, h3⟩ := l1 x hx
            exact ⟨v, .inr ⟨kvs, ks, _, h1, rfl, sz.tup ht, h2.symm⟩, h3⟩
          · exact .inr ⟨kvs, ks, _, h1, rfl, sz.tup ht, (l2 hn).symm⟩
    | _ => simp [tupKey] at hf
theorem o_in (hK : G.K = X.K) (hu : X.A.units + 64 < cLine) : OpR X (compareOp .In) (rCm G (cmpV .isin)) := by
  intro pins s σ H v u vv uu Q I rv ru h
  obtain ⟨Z, ι, x, y, b, sz, hx, hy, hg, k⟩ := h
  simp only [cmpV] at hg
  cases y <;> simp only [PVL.inV, reduceCtorEq] at hg
  · cases x <;> simp only [reduceCtorEq] at hg
    cases hg
    rw [hx.str.1] at rv; rw [hy.str.1] at ru
    exact op_in_str pins s σ H _ _ vv uu Q I rv ru ⟨_, _, rfl, rfl, by rw [in_str]; exact k⟩
  · split at hg
    · rename_i hc
      cases hg
      rw [Bool.and_eq_true] at hc
      obtain ⟨a, vs, rfl, h1, r⟩ := hy.tup sz
      obtain ⟨e1, e2⟩ := inV_flat (hx.flat (flat_not hc.1)) hc.1 r hc.2
      have hv : flatV v = true := by
        have := (eqV_flat (hx.flat (flat_not hc.1)) (hx.flat (flat_not hc.1)) hc.1 hc.1).2.1
        exact this
      exact op_in_seq pins s σ H _ _ vv uu Q I rv ru ⟨_, _, rfl, .inr (SqT.of h1), hv, e2, by rw [e1]; exact k⟩
    · cases hg
  · split at hg
    · rename_i hc
      cases hg
      rw [Bool.and_eq_true] at hc
      obtain ⟨a, vs, rfl, h1, r⟩ := hy
      obtain ⟨e1, e2⟩ := inV_flat (hx.flat (flat_not hc.1)) hc.1 r hc.2
      have hv : flatV v = true := (eqV_flat (hx.flat (flat_not hc.1)) (hx.flat (flat_not hc.1)) hc.1 hc.1).2.1
      exact op_in_seq pins s σ H _ _ vv uu Q I rv ru ⟨_, _, rfl, .inl (.inl h1), hv, e2, by rw [e1]; exact k⟩
    · cases hg
  · split at hg
    · rename_i hc
      cases hg
      obtain ⟨a, e, _⟩ := id hy
      subst e
      cases ru
      obtain ⟨d1, d2⟩ := dget sz hy hx hc
      cases hl : PVL.look _ _ with
      | none =>
        rw [hl] at k
        exact d_in (by omega) I (d2 hl) rv fun s' J => ⟨.bl false, H, J, rfl, k⟩
      | some z =>
        rw [hl] at k
        obtain ⟨w, g, _⟩ := d1 z hl
        exact d_in (by omega) I g rv fun s' J => ⟨.bl true, H, J, rfl, k⟩
    · cases hg
theorem o_notin (hK : G.K = X.K) (hu : X.A.units + 64 < cLine) : OpR X (compareOp .NotIn) (rCm G (cmpV .notin)) := by
  intro pins s σ H v u vv uu Q I rv ru h
  obtain ⟨Z, ι, x, y, b, sz, hx, hy, hg, k⟩ := h
  simp only [cmpV, Option.map_eq_some_iff] at hg
  obtain ⟨c, hg, rfl⟩ := hg
  cases y <;> simp only [PVL.inV, reduceCtorEq] at hg
  · cases x <;> simp only [reduceCtorEq] at hg
    cases hg
    rw [hx.str.1] at rv; rw [hy.str.1] at ru
    exact op_notin_str pins s σ H _ _ vv uu Q I rv ru ⟨_, _, rfl, rfl, by rw [in_str]; exact k⟩
  · split at hg
    · rename_i hc
      cases hg
      rw [Bool.and_eq_true] at hc
      obtain ⟨a, vs, rfl, h1, r⟩ := hy.tup sz
      obtain ⟨e1, e2⟩ := inV_flat (hx.flat (flat_not hc.1)) hc.1 r hc.2
      have hv : flatV v = true := (eqV_flat (hx.flat (flat_not hc.1)) (hx.flat (flat_not hc.1)) hc.1 hc.1).2.1
      exact op_notIn_seq pins s σ H _ _ vv uu Q I rv ru ⟨_, _, rfl, .inr (SqT.of h1), hv, e2, by rw [e1]; exact k⟩
    · cases hg
  · split at hg
    · rename_i hc
      cases hg
      rw [Bool.and_eq_true] at hc
      obtain ⟨a, vs, rfl, h1, r⟩ := hy
      obtain ⟨e1, e2⟩ := inV_flat (hx.flat (flat_not hc.1)) hc.1 r hc.2
      have hv : flatV v = true := (eqV_flat (hx.flat (flat_not hc.1)) (hx.flat (flat_not hc.1)) hc.1 hc.1).2.1
      exact op_notIn_seq pins s σ H _ _ vv uu Q I rv ru ⟨_, _, rfl, .inl (.inl h1), hv, e2, by rw [e1]; exact k⟩
    · cases hg
  · split at hg
    · rename_i hc
      cases hg
      obtain ⟨a, e, _⟩ := id hy
      subst e
      cases ru
      obtain ⟨d1, d2⟩ := dget sz hy hx hc
      cases hl : PVL.look _ _ with
      | none =>
        rw [hl] at k
        exact d_notIn (by omega) I (d2 hl) rv fun s' J => ⟨.bl true, H, J, rfl, k⟩
      | some z =>
        rw [hl] at k
        obtain ⟨w, g, _⟩ := d1 z hl
        exact d_notIn (by omega) I g rv fun s' J => ⟨.bl false, H, J, rfl, k⟩
    · cases hg
theorem RH.none_iff {Z H : Hp} {ι : List (Addr × Addr)} {v : V} {x : PV} (h : RH G Z H ι v x) : decide (v = .non) = (match x with | .non => true | _ => false) := by
  cases x with
  | lst _ => obtain ⟨a, _, rfl, _⟩ := h; rfl
  | dic _ => obtain ⟨a, rfl, _⟩ := h; rfl
  | _ => cases h <;> rfl
theorem o_is : OpR X (compareOp .Is) (rCm G (cmpV .is)) := by
  intro pins s σ H v u vv uu Q I rv ru h
  obtain ⟨Z, ι, x, y, b, sz, hx, hy, hg, k⟩ := h
  cases y <;> simp only [cmpV, reduceCtorEq] at hg
  cases hg
  rw [hy.non] at ru
  refine op_isN pins s σ H _ _ vv uu Q I rv ru ⟨rfl, ?_⟩
  rw [hx.none_iff]
  cases x <;> exact k
theorem o_isnot : OpR X (compareOp .IsNot) (rCm G (cmpV .isnot)) := by
  intro pins s σ H v u vv uu Q I rv ru h
  obtain ⟨Z, ι, x, y, b, sz, hx, hy, hg, k⟩ := h
  cases y <;> simp only [cmpV, reduceCtorEq] at hg
  cases hg
  rw [hy.non] at ru
  refine op_notN pins s σ H _ _ vv uu Q I rv ru ⟨rfl, ?_⟩
  rw [hx.none_iff]
  cases x <;> exact k
end
end PVS

set_option maxHeartbeats 1000000
/-! PVS: items, slices, the built-ins' functions. -/
namespace PVS
open PySem L2 TL PVL
section
variable {X : Cx} {G : GS}
/-- a[i] -/
def rIxA (G : GS) : R2 := fun v u H Q => ∃ Z ι x y z, Sub Z H ∧ RH G Z H ι v x ∧ RH G Z H ι u y ∧ idxV x y = some z ∧ ∀ w, RV G Z ι w z → Q w H
theorem ix_dict (hu : X.A.units + 1 < cLine) : IxR X (fun x y H Q => ∃ a v, x = .ref a ∧ DGet H a y (some v) ∧ Q v H) := by
  intro value slice pins s σ H x y v u Q I rx ry h hs
  obtain ⟨a, w, rfl, g, q⟩ := h
  cases rx
  exact PyProof.Rows.tail_any (dict_typeIs I g) PySem.F.slot_dict_getitem.lookup (d_getItem hu I g ry fun w' s3 I3 rw' => ⟨w, H, I3, rw', q⟩) hs
theorem i_all (hu : X.A.units + 64 < cLine) : IxR X (rIxA G) := by
  intro value slice pins s σ H v u vv uu Q I rv ru h hs
  obtain ⟨Z, ι, x, y, z, sz, hx, hy, hg, k⟩ := h
  cases x <;> simp only [idxV, reduceCtorEq] at hg
  · cases y <;> simp only [idxV, reduceCtorEq, Option.bind_eq_some_iff, Option.map_eq_some_iff] at hg
    obtain ⟨j, h1, c, h2, rfl⟩ := hg
    obtain ⟨rfl, h3⟩ := hx.str
    rw [hy.int] at ru
    refine ix_str value slice pins s σ H _ _ vv uu Q I rv ru ⟨_, _, c, rfl, rfl, by rw [mkS_len, ← line_eq]; exact h3.1, ?_, k _ (.str [c] ?_)⟩ hs
    · unfold atI
      rw [show (mkS _).cps.toList = _ from rfl]
      rw [show L2.ixN _ _ = some j from h1]
      exact h2
    · exact ⟨by show 1 ≤ line; decide, fun d hd => by rw [List.mem_singleton.mp hd]; exact h3.2 c (List.mem_of_getElem? h2)⟩
  · cases y <;> simp only [idxV, reduceCtorEq, Option.bind_eq_some_iff] at hg
    obtain ⟨j, h1, h2⟩ := hg
    obtain ⟨a, vs, rfl, h3, r⟩ := hx.tup sz
    rw [hy.int] at ru
    obtain ⟨w, h4, h5⟩ := r.get h2
    refine ix_tup value slice pins s σ H _ _ vv uu Q I rv ru ⟨_, _, _, w, rfl, rfl, SqT.of h3, ?_, k _ h5⟩ hs
    unfold atI
    rw [r.len, show L2.ixN _ _ = some j from h1]
    exact h4
  · cases y <;> simp only [idxV, reduceCtorEq, Option.bind_eq_some_iff] at hg
    obtain ⟨j, h1, h2⟩ := hg
    obtain ⟨a, vs, rfl, h3, r⟩ := hx
    rw [hy.int] at ru
    obtain ⟨w, h4, h5⟩ := r.get h2
    refine ix_list value slice pins s σ H _ _ vv uu Q I rv ru ⟨_, _, _, w, rfl, rfl, .inl h3, ?_, k _ h5⟩ hs
    unfold atI
    rw [r.len, show L2.ixN _ _ = some j from h1]
    exact h4
  · split at hg
    · rename_i hc
      obtain ⟨a, e, _⟩ := id hx
      subst e
      obtain ⟨d1, d2⟩ := dget sz hx hy hc
      obtain ⟨w, g, r⟩ := d1 z hg
      exact ix_dict (by omega) value slice pins s σ H _ _ vv uu Q I rv ru ⟨a, w, rfl, g, k _ r⟩ hs
    · cases hg

/-! ### slices -/
theorem okT.sub {s t : Txt} (h : okT s) (hl : t.length ≤ s.length) (hm : ∀ c ∈ t, c ∈ s) : okT t := ⟨Nat.le_trans hl h.1, fun c hc => h.2 c (hm c hc)⟩
theorem cut_mem {α : Type} {xs : List α} {lo hi : Option Int} {x : α} (h : x ∈ PVL.cut xs lo hi) : x ∈ xs := List.mem_of_mem_drop (List.mem_of_mem_take h)
theorem cut_len {α : Type} (xs : List α) (lo hi : Option Int) : (PVL.cut xs lo hi).length ≤ xs.length := by
  unfold PVL.cut
  rw [List.length_take, List.length_drop]
  omega
theorem clip_eq (n d : Nat) (o : Option Int) : PVL.clip n d o = HT.sIx n d o := by cases o <;> rfl
theorem cutS_eq (s : Txt) (lo hi : Option Int) : cutS (mkS s) lo hi = mkS (PVL.cut s lo hi) := ext_tl (by
  unfold cutS PVL.cut
  rw [clip_eq, clip_eq, mkS_len])
theorem cutV_eq (vs : List V) (lo hi : Option Int) : cutV vs lo hi = PVL.cut vs lo hi := by unfold cutV PVL.cut; rw [clip_eq, clip_eq]
theorem RVs.cut {Z : Hp} {ι : List (Addr × Addr)} {vs : List V} {xs : List PV} (r : RVs G Z ι vs xs) (lo hi : Option Int) : RVs G Z ι (PVL.cut vs lo hi) (PVL.cut xs lo hi) := by
  unfold PVL.cut
  rw [r.len]
  exact (r.drop _).take _
/-- a[lo:hi] -/
theorem sl_all {K : PySem.W.Frag} (hK : X.K = K) : SlR X (fun v lo hi H Q => ∃ Z ι x z, Sub Z H ∧ RH G Z H ι v x ∧ slcX x lo hi = some z ∧ ∀ w H', Nw G Z H ι .own z w H' → Q w H') := by
  subst hK
  intro pins s σ H v vv vl vu lo hi sl Q I rv hsl pl pu h
  obtain ⟨Z, ι, x, z, sz, hx, hg, k⟩ := h
  cases x <;> simp only [slcX, reduceCtorEq] at hg
  · cases hg
    obtain ⟨rfl, h1⟩ := hx.str
    refine sl_str pins s σ H _ vv vl vu lo hi sl Q I rv hsl pl pu ⟨_, rfl, by rw [mkS_len, ← line_eq]; exact h1.1, ?_⟩
    rw [cutS_eq]
    exact k _ _ (.val (.str _ (h1.sub (cut_len _ _ _) fun c hc => cut_mem hc)) rfl)
  · cases hg
    obtain ⟨a, vs, rfl, h1, r⟩ := hx
    refine sl_list pins s σ H _ vv vl vu lo hi sl Q I rv hsl pl pu ⟨_, _, rfl, .inl h1, fun p hp => ?_⟩
    rw [cutV_eq]
    exact k _ _ (.lst hp (r.cut _ _))
end
end PVS

set_option maxHeartbeats 1000000
/-! PVS: what an expression's reading is. -/
namespace PVS
open PySem L2 TL PVL

/-- what is wanted of a result -/
def RP {α : Type} (r : R α) (k : α → PVL.Store → Prop) (x : Nat → List PV → PVL.Store → Prop) : Prop := match r with
  | .ok a ω => k a ω
  | .exc c xs ω => x c xs ω
  | .bad => False
theorem RP.bind {α β : Type} {r : R α} {f : α → PVL.Store → R β} {k : β → PVL.Store → Prop} {x : Nat → List PV → PVL.Store → Prop} (h : RP (r.bind f) k x) : RP r (fun a ω => RP (f a ω) k x) x := by
  cases r with
  | ok a ω => exact h
  | exc c xs ω => exact h
  | bad => exact h
theorem RP.mono {α : Type} {r : R α} {k k' : α → PVL.Store → Prop} {x x' : Nat → List PV → PVL.Store → Prop} (h : RP r k x) (hk : ∀ a ω, k a ω → k' a ω) (hx : ∀ c xs ω, x c xs ω → x' c xs ω) : RP r k' x' := by
  cases r with
  | ok a ω => exact hk _ _ h
  | exc c xs ω => exact hx _ _ _ h
  | bad => exact h

section
variable (G : GS)
/-- what is held of a value: its content and who holds it -/
def OkV (Z B H : Hp) (ι : List (Addr × Addr)) (ω : PVL.Store) (ρ : PVL.Env) (σ : St) (v : V) (x : PV) : Md → Prop
  | .own => ∃ a o, v = .ref a ∧ H a = some o ∧ RO G Z ι o x ∧ Z a = none ∧ B a = none ∧ ∀ k, ¬ owA G H ι ω ρ σ k a
  | .fz => RV G Z ι v x
  | .br => SR G Z B H ι v x .br
  | .lv => ∃ (i : Nat) (a : Addr), ρ[i]? = some (some (x, .own)) ∧ σ[i]? = some (some (.ref a)) ∧ v = .ref a
/-- an exception as it flies: its class, its own dict -/
def XR (Z : Hp) (ι : List (Addr × Addr)) (c : Nat) (xs : List PV) (cls : Value) (d : Option Addr) : Prop :=
  cls = .ref (G.xcl c) ∧ ((G.xfs c = [] ∧ xs = []) ∨ ∃ dx fs vs, d = some dx ∧ Z dx = some (.xd fs) ∧ RVs G Z ι vs xs ∧ fs = (((G.xfs c).map G.fnm).zip vs).reverse ∧ (G.xfs c).length = xs.length)
/-- what is wanted where an exception comes -/
def QX (W : WX) (Z B H : Hp) (ι : List (Addr × Addr)) (ρ : PVL.Env) (σ : St) (c : Nat) (xs : List PV) (ω' : PVL.Store) : Prop :=
  ∀ cls d H' Z' ι', Ext Z Z' (PO B ρ σ) ι ι' H H' → Sim G Z' B H' ι' ω' ρ σ → XR G Z' ι' c xs cls d → W cls d σ H'
/-- nothing that stood was touched -/
def Pu (p : Bool) (H H' : Hp) (ω ω' : PVL.Store) (ι ι' : List (Addr × Addr)) : Prop := p = true → Same H H' ∧ ω' = ω ∧ ι' = ι
def tE (W : WX) (e : E) : TE := fun σ H Q => ∃ Z B ι ω ρ, Sim G Z B H ι ω ρ σ ∧
  RP (ev e ρ ω) (fun r ω' => ∀ v H' Z' ι', Ext Z Z' (PO B ρ σ) ι ι' H H' → Sim G Z' B H' ι' ω' ρ σ → OkV G Z' B H' ι' ω' ρ σ v r.1 r.2 → Pu (pureE e) H H' ω ω' ι ι' → Q v H') (QX G W Z B H ι ρ σ)
def tT (W : WX) (t : T) : TT := fun σ H Q => ∃ Z B ι ω ρ, Sim G Z B H ι ω ρ σ ∧
  RP (evT t ρ ω) (fun b ω' => ∀ H' Z' ι', Ext Z Z' (PO B ρ σ) ι ι' H H' → Sim G Z' B H' ι' ω' ρ σ → Q b H') (QX G W Z B H ι ρ σ)
end
section
variable {G : GS} {Z Z' B H H' : Hp} {ι ι' : List (Addr × Addr)} {ω ω' : PVL.Store} {ρ : PVL.Env} {σ : St}
theorem Pu.refl {p : Bool} : Pu p H H ω ω ι ι := fun _ => ⟨Same.refl _, rfl, rfl⟩
theorem QX.on {W : WX} {c : Nat} {xs : List PV} {ω' : PVL.Store} (h : QX G W Z B H ι ρ σ c xs ω') (E : Ext Z Z' (PO B ρ σ) ι ι' H H') : QX G W Z' B H' ι' ρ σ c xs ω' := fun cls d H2 Z2 ι2 E2 => h cls d H2 Z2 ι2 (E.trans E2)
/-- a value that is read further on -/
def Lv (G : GS) (Z B H : Hp) (ι : List (Addr × Addr)) (ρ : PVL.Env) (σ : St) (v : V) (x : PV) : Prop := SR G Z B H ι v x .br ∨ ∃ (i : Nat) (a : Addr), ρ[i]? = some (some (x, .own)) ∧ σ[i]? = some (some (.ref a)) ∧ v = .ref a
theorem Lv.on {v : V} {x : PV} (h : Lv G Z B H ι ρ σ v x) (E : Ext Z Z' (PO B ρ σ) ι ι' H H') : Lv G Z' B H' ι' ρ σ v x := by
  rcases h with (h | ⟨a, o, h1, h2, h3⟩) | h
  · exact .inl (.inl (h.mono E.z E.i))
  · exact .inl (.inr ⟨a, o, h1, h2, h3.mono E.z E.i⟩)
  · exact .inr h
theorem Lv.rh {v : V} {x : PV} (S : Sim G Z B H ι ω ρ σ) (h : Lv G Z B H ι ρ σ v x) : RH G Z H ι v x := by
  rcases h with (h | ⟨a, o, rfl, h2, h3⟩) | ⟨i, a, h1, h2, rfl⟩
  · exact .of S.zH h
  · exact .ofO (S.bH a o h2).rd h3
  · obtain ⟨v, e1, b, o, rfl, e3, e4⟩ := S.sl i x .own h1
    rw [h2] at e1; cases e1
    exact .ofO (.inl e3) e4
/-- a fresh thing is frozen where it is only read -/
theorem OkV.settle (S : Sim G Z B H ι ω ρ σ) {v : V} {x : PV} {m : Md} (h : OkV G Z B H ι ω ρ σ v x m) : ∃ Z', Ext Z Z' (PO B ρ σ) ι ι H H ∧ Sim G Z' B H ι ω ρ σ ∧ Lv G Z' B H ι ρ σ v x ∧ (m = .own ∨ m = .fz → RV G Z' ι v x) := by
  cases m with
  | own =>
    obtain ⟨a, o, rfl, h1, h2, h3, h4, h5⟩ := h
    have r : RV G (upd Z a o) ι (.ref a) x := RO.fz upd_same (h2.mono (Ext.fz (P := PB B) (H := H) (ι := ι) h3).z (List.prefix_refl _))
    exact ⟨upd Z a o, Ext.fz h3, S.fz h1 h3 h4 h5, .inl (.inl r), fun _ => r⟩
  | fz => exact ⟨Z, Ext.refl, S, .inl (.inl h), fun _ => h⟩
  | br => exact ⟨Z, Ext.refl, S, .inl h, fun z => by rcases z with z | z <;> cases z⟩
  | lv => exact ⟨Z, Ext.refl, S, .inr h, fun z => by rcases z with z | z <;> cases z⟩
/-- what may be kept is frozen -/
theorem OkV.keep (S : Sim G Z B H ι ω ρ σ) {v : V} {x : PV} {m : Md} (h : OkV G Z B H ι ω ρ σ v x m) (k : keeps (x, m) = true) : ∃ Z', Ext Z Z' (PO B ρ σ) ι ι H H ∧ Sim G Z' B H ι ω ρ σ ∧ RV G Z' ι v x := by
  cases m with
  | own => obtain ⟨Z', E, S', _, r⟩ := h.settle S; exact ⟨Z', E, S', r (by decide)⟩
  | fz => obtain ⟨Z', E, S', _, r⟩ := h.settle S; exact ⟨Z', E, S', r (by decide)⟩
  | br =>
    have hc : isC x = false := by
      unfold keeps at k
      cases h : isC x with
      | false => rfl
      | true => rw [h] at k; simp at k
    refine ⟨Z, Ext.refl, S, ?_⟩
    rcases h with h | ⟨a, o, _, _, h3⟩
    · exact h
    · rw [h3.isC] at hc; cases hc
  | lv =>
    have hc : isC x = false := by
      unfold keeps at k
      cases h : isC x with
      | false => rfl
      | true => rw [h] at k; simp at k
    obtain ⟨i, a, h1, h2, rfl⟩ := h
    obtain ⟨v, e1, b, o, rfl, e3, e4⟩ := S.sl i x .own h1
    rw [e4.isC] at hc; cases hc
/-- a result is told -/
theorem Nw.fin (S : Sim G Z B H ι ω ρ σ) {m : Md} {z : PV} {v : V} (hm : m = .own ∨ m = .fz) (h : Nw G Z H ι m z v H') : ∃ Z', Ext Z Z' (PO B ρ σ) ι ι H H' ∧ Sim G Z' B H' ι ω ρ σ ∧ OkV G Z' B H' ι ω ρ σ v (mk z m).1 (mk z m).2 ∧ Same H H' := by
  rcases h with ⟨h1, h2, rfl⟩ | ⟨p, o, hp, rfl, rfl, h⟩
  · refine ⟨Z, Ext.refl, S, ?_, Same.refl _⟩
    have e : (mk z m).2 = .fz := by
      unfold mk
      cases hc : isC z with
      | false => rfl
      | true =>
        cases m with
        | own => rw [h1 rfl] at hc; cases hc
        | fz => rfl
        | br => rcases hm with h | h <;> cases h
        | lv => rcases hm with h | h <;> cases h
    show OkV G Z B _ ι ω ρ σ v z (mk z m).2
    rw [e]
    exact h2
  · have same : Same H (upd H p o) := fun b u e => by rw [upd_ne (ne_of_none e hp)]; exact e
    have S1 := S.lay o hp
    have E1 := Ext.lay S o hp
    rcases h with h | ⟨vs, xs, rfl, rfl, r⟩
    · have hc := h.isC
      have e : (mk z m).2 = m := by unfold mk; rw [hc]; rfl
      have no : ∀ k, ¬ owA G (upd H p o) ι ω ρ σ k p := fun k q => by
        have q' : owA G H ι ω ρ σ k p := (owA_congr (H' := upd H p o) (H := H) fun n b dx e => by
          obtain ⟨r, fs, _, q, _⟩ := S.inst e
          rw [upd_ne (ne_of_none q hp)]).mp q
        exact S.notOw hp k q'
      cases m with
      | own => exact ⟨Z, E1, S1, by show OkV G Z B _ ι ω ρ σ _ z (mk z Md.own).2; rw [e]; exact ⟨p, o, rfl, upd_same, h, S.zn hp, S.bn hp, no⟩, same⟩
      | fz =>
        refine ⟨upd Z p o, E1.trans (Ext.fz (S.zn hp)), S1.fz upd_same (S.zn hp) (S.bn hp) no, ?_, same⟩
        show OkV G _ B _ ι ω ρ σ _ z (mk z Md.fz).2
        rw [e]
        exact RO.fz upd_same (h.mono (Ext.fz (P := PB B) (H := H) (ι := ι) (S.zn hp)).z (List.prefix_refl _))
      | br => rcases hm with h | h <;> cases h
      | lv => rcases hm with h | h <;> cases h
    · have no : ∀ k, ¬ owA G (upd H p (.tup vs)) ι ω ρ σ k p := fun k q => by
        have q' : owA G H ι ω ρ σ k p := (owA_congr (H' := upd H p (.tup vs)) (H := H) fun n b dx e => by
          obtain ⟨r, fs, _, q, _⟩ := S.inst e
          rw [upd_ne (ne_of_none q hp)]).mp q
        exact S.notOw hp k q'
      refine ⟨upd Z p (.tup vs), E1.trans (Ext.fz (S.zn hp)), S1.fz upd_same (S.zn hp) (S.bn hp) no, ?_, same⟩
      exact RV.tup upd_same (r.mono (Ext.fz (P := PB B) (H := H) (ι := ι) (S.zn hp)).z (List.prefix_refl _))
end
/-- a reading that is asked for less -/
theorem PE.imp {X : Cx} {e : Expr} {t t' : TE} (h : PE X e t) (i : ∀ σ H Q, t' σ H Q → t σ H Q) : PE X e t' := ⟨fun pins s σ H Q I q => h.run pins s σ H Q I (i σ H Q q)⟩
theorem PT.imp {X : Cx} {e : Expr} {t t' : TT} (h : PT X e t) (i : ∀ σ H Q, t' σ H Q → t σ H Q) : PT X e t' := ⟨fun pins s σ H Q I q => h.run pins s σ H Q I (i σ H Q q)⟩
theorem PS.imp {X : Cx} {st : Stmt} {t t' : TS} (h : PS X st t) (i : ∀ D σ H, t' D σ H → t D σ H) : PS X st t' := ⟨fun pins s σ H D I q => h.run pins s σ H D I (i D σ H q)⟩

section
variable {X : Cx} {G : GS} {W : WX}
/-- a value that is settled: to go on with the next expression -/
theorem tE.next {ia : E} {Z B H : Hp} {ι : List (Addr × Addr)} {ω : PVL.Store} {ρ : PVL.Env} {σ : St} (S : Sim G Z B H ι ω ρ σ) {k : VM → PVL.Store → Prop} {R : V → Hp → Prop}
    (h : RP (ev ia ρ ω) k (QX G W Z B H ι ρ σ))
    (go : ∀ x ω1, k x ω1 → ∀ v H1 Z1 ι1, Ext Z Z1 (PO B ρ σ) ι ι1 H H1 → Sim G Z1 B H1 ι1 ω1 ρ σ → Lv G Z1 B H1 ι1 ρ σ v x.1 → (x.2 = .own ∨ x.2 = .fz → RV G Z1 ι1 v x.1) → Pu (pureE ia) H H1 ω ω1 ι ι1 → R v H1) : tE G W ia σ H R := by
  refine ⟨Z, B, ι, ω, ρ, S, h.mono (fun x ω1 hk v H1 Z1 ι1 E1 S1 o1 p1 => ?_) fun _ _ _ q => q⟩
  obtain ⟨Z2, E2, S2, l2, r2⟩ := o1.settle S1
  exact go x ω1 hk v H1 Z2 ι1 (E1.trans E2) S2 l2 r2 p1
theorem Pu.and {p q r : Bool} {H H1 H2 : Hp} {ω ω1 ω2 : PVL.Store} {ι ι1 ι2 : List (Addr × Addr)} (a : Pu p H H1 ω ω1 ι ι1) (b : Pu q H1 H2 ω1 ω2 ι1 ι2) (h : r = (p && q)) : Pu r H H2 ω ω2 ι ι2 := fun z => by
  rw [h, Bool.and_eq_true] at z
  obtain ⟨s1, e1, i1⟩ := a z.1
  obtain ⟨s2, e2, i2⟩ := b z.2
  exact ⟨s1.trans s2, e2.trans e1, i2.trans i1⟩
/-- a binary operator -/
theorem se_bin {a b : Expr} {ia ib : E} {op : Operator} {bop : BOp} {pos : Pos} (ho : OpR X (binaryOp op) (rOp G (binV bop) .own)) (ha : PE X a (tE G W ia)) (hb : PE X b (tE G W ib)) : PE X (.BinOp a op b pos) (tE G W (.bin bop ia ib)) := by
  refine PE.imp (pe_op ho ha hb) fun σ H Q h => ?_
  obtain ⟨Z, B, ι, ω, ρ, S, h⟩ := h
  unfold ev at h
  refine tE.next S h.bind fun x ω1 h1 v H1 Z1 ι1 E1 S1 l1 _ p1 => ?_
  refine tE.next S1 (h1.bind.mono (fun _ _ q => q) fun _ _ _ q => q.on E1) fun y ω2 h2 u H2 Z2 ι2 E2 S2 l2 _ p2 => ?_
  unfold liftO at h2
  cases e : binV bop x.1 y.1 with
  | none => rw [e] at h2; exact h2.elim
  | some z =>
    rw [e] at h2
    refine ⟨Z2, ι2, x.1, y.1, z, S2.zH, (l1.on E2).rh S2, l2.rh S2, e, fun w H3 n => ?_⟩
    obtain ⟨Z3, E3, S3, o3, s3⟩ := n.fin S2 (by decide)
    exact h2 w H3 Z3 ι2 ((E1.trans E2).trans E3) S3 o3 ((p1.and p2 rfl).and (r := pureE (.bin bop ia ib)) (q := true) (fun _ => ⟨s3, rfl, rfl⟩) (by simp [pureE]))
theorem se_cmpC {a b : Expr} {ia ib : E} {op : CmpOp} {cop : COp} (ho : OpR X (compareOp op) (rCm G (cmpV cop))) (ha : PE X a (tE G W ia)) (hb : PE X b (tE G W ib)) : PC X op a b (tE G W (.cmp cop ia ib)) := by
  refine ⟨fun pins s σ H Q I h => ?_⟩
  obtain ⟨Z, B, ι, ω, ρ, S, h⟩ := h
  unfold ev at h
  have t : tOp (rCm G (cmpV cop)) (tE G W ia) (tE G W ib) σ H Q := by
    refine tE.next S h.bind fun x ω1 h1 v H1 Z1 ι1 E1 S1 l1 _ p1 => ?_
    refine tE.next S1 (h1.bind.mono (fun _ _ q => q) fun _ _ _ q => q.on E1) fun y ω2 h2 u H2 Z2 ι2 E2 S2 l2 _ p2 => ?_
    unfold liftB at h2
    cases e : cmpV cop x.1 y.1 with
    | none => rw [e] at h2; exact h2.elim
    | some z =>
      rw [e] at h2
      exact ⟨Z2, ι2, x.1, y.1, z, S2.zH, (l1.on E2).rh S2, l2.rh S2, e, h2 _ H2 Z2 ι2 (E1.trans E2) S2 (RV.bl z) (fun z => by cases z)⟩
  exact binT ha hb I t fun v u s2 x y H2 I2 rx ry q => ho pins s2 σ H2 x y v u Q I2 rx ry q
end
end PVS

set_option maxHeartbeats 1000000
/-! PVS: names, constants, displays, tests, calls. -/
namespace PVS
open PySem L2 TL PVL
section
variable {X : Cx} {G : GS} {W : WX}

theorem se_var {i : Nat} {x : Str} {pos : Pos} (hN : X.N[i]? = some x) (hv : Vis X.env.scope x) (hd : (x == ("__debug__" : Str)) = false) (hcd : (x == ("__classdict__" : Str)) = false) : PE X (.Name x pos) (tE G W (.var i)) := by
  refine PE.imp (pe_var hN hv hd hcd) fun σ H Q h => ?_
  obtain ⟨Z, B, ι, ω, ρ, S, h⟩ := h
  unfold ev at h
  cases e : getV ρ i with
  | none => rw [e] at h; exact h.elim
  | some r =>
    obtain ⟨y, m⟩ := r
    rw [e] at h
    obtain ⟨v, e1, e2⟩ := S.sl i y m (getV_some.mp e)
    refine ⟨v, e1, h v H Z ι Ext.refl S ?_ Pu.refl⟩
    cases m with
    | own =>
      obtain ⟨a, o, rfl, h2, h3⟩ := e2
      exact ⟨i, a, getV_some.mp e, e1, rfl⟩
    | fz => exact e2
    | br => exact e2
    | lv => exact e2.elim
theorem se_con {e : Expr} {v : V} {x : PV} (h : PE X e (tC v)) (r : ∀ Z ι, RV G Z ι v x) : PE X e (tE G W (.con x)) := by
  refine PE.imp h fun σ H Q h => ?_
  obtain ⟨Z, B, ι, ω, ρ, S, h⟩ := h
  unfold ev at h
  exact h v H Z ι Ext.refl S (r Z ι) Pu.refl

/-! ### lists of expressions -/
variable (G W) in
/-- items that are kept -/
def tK (es : Es) : TA := fun σ H Q => ∃ Z B ι ω ρ, Sim G Z B H ι ω ρ σ ∧
  RP (evK es ρ ω) (fun xs ω' => ∀ vs H' Z' ι', Ext Z Z' (PO B ρ σ) ι ι' H H' → Sim G Z' B H' ι' ω' ρ σ → RVs G Z' ι' vs xs → Pu (pureEs es) H H' ω ω' ι ι' → Q vs H') (QX G W Z B H ι ρ σ)
/-- arguments of a def -/
inductive Ags (G : GS) (Z B H : Hp) (ι : List (Addr × Addr)) (ρ : PVL.Env) (σ : St) : List V → List VM → Prop
  | nil : Ags G Z B H ι ρ σ [] []
  | cons {v : V} {x : PV} {m : Md} {vs : List V} {xs : List VM} : m = .fz ∨ m = .br → Lv G Z B H ι ρ σ v x → (m = .fz → RV G Z ι v x) → Ags G Z B H ι ρ σ vs xs → Ags G Z B H ι ρ σ (v :: vs) ((x, m) :: xs)
theorem Ags.on {Z Z' B H H' : Hp} {ι ι' : List (Addr × Addr)} {ρ : PVL.Env} {σ : St} (E : Ext Z Z' (PO B ρ σ) ι ι' H H') {vs : List V} {xs : List VM} (h : Ags G Z B H ι ρ σ vs xs) : Ags G Z' B H' ι' ρ σ vs xs := by
  induction h with
  | nil => exact .nil
  | cons h1 h2 h3 _ ih => exact .cons h1 (h2.on E) (fun z => (h3 z).mono E.z E.i) ih
variable (G W) in
def tA (es : Es) : TA := fun σ H Q => ∃ Z B ι ω ρ, Sim G Z B H ι ω ρ σ ∧
  RP (evA es ρ ω) (fun xs ω' => ∀ vs H' Z' ι', Ext Z Z' (PO B ρ σ) ι ι' H H' → Sim G Z' B H' ι' ω' ρ σ → Ags G Z' B H' ι' ρ σ vs xs → Q vs H') (QX G W Z B H ι ρ σ)
theorem PA.imp {es : List Expr} {t t' : TA} (h : PA X es t) (i : ∀ σ H Q, t' σ H Q → t σ H Q) : PA X es t' := ⟨fun pos pins s σ H Q I q => h.run pos pins s σ H Q I (i σ H Q q)⟩
theorem sk_nil : PA X [] (tK G W .nil) := by
  refine PA.imp pa_nil fun σ H Q h => ?_
  obtain ⟨Z, B, ι, ω, ρ, S, h⟩ := h
  unfold evK at h
  exact h [] H Z ι Ext.refl S .nil Pu.refl
theorem sk_cons {e : Expr} {es : List Expr} {ie : E} {ies : Es} (he : PE X e (tE G W ie)) (hr : PA X es (tK G W ies)) (hs : starEach (e :: es) X.env = (false, eval e X.env) :: starEach es X.env) : PA X (e :: es) (tK G W (.cons ie ies)) := by
  refine PA.imp (pa_cons he hr hs) fun σ H Q h => ?_
  obtain ⟨Z, B, ι, ω, ρ, S, h⟩ := h
  unfold evK at h
  refine ⟨Z, B, ι, ω, ρ, S, h.bind.mono (fun x ω1 h1 v H1 Z1 ι1 E1 S1 o1 p1 => ?_) fun _ _ _ q => q⟩
  cases hk : keeps x with
  | false => rw [hk] at h1; exact h1.elim
  | true =>
    rw [hk] at h1
    obtain ⟨Z2, E2, S2, r2⟩ := o1.keep S1 hk
    refine ⟨Z2, B, ι1, ω1, ρ, S2, h1.bind.mono (fun xs ω2 h2 vs H2 Z3 ι2 E3 S3 r3 p3 => ?_) fun _ _ _ q => q.on (E1.trans E2)⟩
    exact h2 (v :: vs) H2 Z3 ι2 ((E1.trans E2).trans E3) S3 (.cons (r2.mono E3.z E3.i) r3) (p1.and p3 rfl)
theorem sa_nil : PA X [] (tA G W .nil) := by
  refine PA.imp pa_nil fun σ H Q h => ?_
  obtain ⟨Z, B, ι, ω, ρ, S, h⟩ := h
  unfold evA at h
  exact h [] H Z ι Ext.refl S .nil
theorem sa_cons {e : Expr} {es : List Expr} {ie : E} {ies : Es} (he : PE X e (tE G W ie)) (hr : PA X es (tA G W ies)) (hs : starEach (e :: es) X.env = (false, eval e X.env) :: starEach es X.env) : PA X (e :: es) (tA G W (.cons ie ies)) := by
  refine PA.imp (pa_cons he hr hs) fun σ H Q h => ?_
  obtain ⟨Z, B, ι, ω, ρ, S, h⟩ := h
  unfold evA at h
  refine ⟨Z, B, ι, ω, ρ, S, h.bind.mono (fun x ω1 h1 v H1 Z1 ι1 E1 S1 o1 p1 => ?_) fun _ _ _ q => q⟩
  obtain ⟨Z2, E2, S2, l2, r2⟩ := o1.settle S1
  refine ⟨Z2, B, ι1, ω1, ρ, S2, h1.bind.mono (fun xs ω2 h2 vs H2 Z3 ι2 E3 S3 r3 => ?_) fun _ _ _ q => q.on (E1.trans E2)⟩
  refine h2 (v :: vs) H2 Z3 ι2 ((E1.trans E2).trans E3) S3 (.cons ?_ (l2.on E3) (fun z => (r2 ?_).mono E3.z E3.i) r3)
  · cases x.2 <;> decide
  · cases e : x.2 with
    | own => exact .inl rfl
    | fz => exact .inr rfl
    | br => rw [e] at z; cases z
    | lv => rw [e] at z; cases z
/-! ### displays -/
theorem RVs.okLen {Z : Hp} {ι : List (Addr × Addr)} {vs : List V} {xs : List PV} (r : RVs G Z ι vs xs) (h : xs.length ≤ sizeLine) : vs.length ≤ sizeLine := by rw [r.len]; exact h
def esLen : Es → Nat
  | .nil => 0
  | .cons _ r => esLen r + 1
theorem evK_length : ∀ (es : Es) (ρ : PVL.Env) (ω : PVL.Store), RP (evK es ρ ω) (fun xs _ => xs.length = esLen es) (fun _ _ _ => True) ∨ evK es ρ ω = .bad
  | .nil, ρ, ω => by unfold evK; exact .inl rfl
  | .cons e r, ρ, ω => by
    unfold evK
    cases h : ev e ρ ω with
    | bad => exact .inr rfl
    | exc c xs ω' => exact .inl trivial
    | ok x ω1 =>
      show RP (if keeps x = true then _ else _) _ _ ∨ (if keeps x = true then _ else _) = _
      split
      · rcases evK_length r ρ ω1 with q | q
        · cases h2 : evK r ρ ω1 with
          | bad => exact .inr rfl
          | exc c xs ω' => exact .inl trivial
          | ok xs ω2 =>
            rw [h2] at q
            exact .inl (congrArg (· + 1) q)
        · rw [q]; exact .inr rfl
      · exact .inr rfl
theorem RP.and {α : Type} {r : R α} {k k' : α → PVL.Store → Prop} {x x' : Nat → List PV → PVL.Store → Prop} (h : RP r k x) (h' : RP r k' x') : RP r (fun a ω => k a ω ∧ k' a ω) (fun c xs ω => x c xs ω ∧ x' c xs ω) := by
  cases r with
  | ok a ω => exact ⟨h, h'⟩
  | exc c xs ω => exact ⟨h, h'⟩
  | bad => exact h
theorem RP.len {es : Es} {ρ : PVL.Env} {ω : PVL.Store} {k : List PV → PVL.Store → Prop} {x : Nat → List PV → PVL.Store → Prop} (h : RP (evK es ρ ω) k x) : RP (evK es ρ ω) (fun xs ω' => k xs ω' ∧ xs.length = esLen es) x := by
  rcases evK_length es ρ ω with q | q
  · exact (h.and q).mono (fun _ _ z => z) fun _ _ _ z => z.1
  · rw [q] at h; exact h.elim
theorem se_tup {es : List Expr} {ies : Es} {k : Nat} {pos : Pos} (h : PA X es (tK G W ies)) (hl : esLen ies ≤ sizeLine) : PE X (.Tuple es k pos) (tE G W (.tup ies)) := by
  refine PE.imp (pe_tup h) fun σ H Q h => ?_
  obtain ⟨Z, B, ι, ω, ρ, S, h⟩ := h
  unfold ev at h
  refine ⟨Z, B, ι, ω, ρ, S, h.bind.len.mono (fun xs ω1 h1 vs H1 Z1 ι1 E1 S1 r1 p1 => ?_) fun _ _ _ q => q⟩
  obtain ⟨h1, hx⟩ := h1
  refine ⟨by rw [r1.len, hx]; exact hl, fun p hp => ?_⟩
  obtain ⟨Z2, E2, S2, o2, s2⟩ := (Nw.tup (m := .fz) hp r1).fin S1 (by decide)
  exact h1 _ _ Z2 ι1 (E1.trans E2) S2 o2 (p1.and (r := pureE (.tup ies)) (q := true) (fun _ => ⟨s2, rfl, rfl⟩) (by simp [pureE]))
theorem se_lst {es : List Expr} {ies : Es} {pos : Pos} (h : PA X es (tK G W ies)) (hl : esLen ies ≤ sizeLine) : PE X (.List es pos) (tE G W (.lst ies)) := by
  refine PE.imp (pe_lst h) fun σ H Q h => ?_
  obtain ⟨Z, B, ι, ω, ρ, S, h⟩ := h
  unfold ev at h
  refine ⟨Z, B, ι, ω, ρ, S, h.bind.len.mono (fun xs ω1 h1 vs H1 Z1 ι1 E1 S1 r1 p1 => ?_) fun _ _ _ q => q⟩
  obtain ⟨h1, hx⟩ := h1
  refine ⟨by rw [r1.len, hx]; exact hl, fun p hp => ?_⟩
  obtain ⟨Z2, E2, S2, o2, s2⟩ := (Nw.lst (m := .own) hp r1).fin S1 (by decide)
  exact h1 _ _ Z2 ι1 (E1.trans E2) S2 o2 (p1.and (r := pureE (.lst ies)) (q := true) (fun _ => ⟨s2, rfl, rfl⟩) (by simp [pureE]))
theorem se_neg {a : Expr} {ia : E} {pos : Pos} (ha : PE X a (tE G W ia)) : PE X (.UnaryOp .USub a pos) (tE G W (.neg ia)) := by
  refine PE.imp (pe_un un_neg ha) fun σ H Q h => ?_
  obtain ⟨Z, B, ι, ω, ρ, S, h⟩ := h
  unfold ev at h
  refine tE.next S h.bind fun x ω1 h1 v H1 Z1 ι1 E1 S1 l1 _ p1 => ?_
  obtain ⟨y, m⟩ := x
  cases y <;> try exact h1.elim
  rename_i i
  rw [(l1.rh S1).int]
  exact ⟨_, rfl, h1 _ H1 Z1 ι1 E1 S1 (RV.int _) (fun z => by cases z)⟩
/-! ### tests -/
theorem st_tt {e : Expr} (h : PT X e tYes) : PT X e (tT G W .tt) := by
  refine PT.imp h fun σ H Q h => ?_
  obtain ⟨Z, B, ι, ω, ρ, S, h⟩ := h
  unfold evT at h
  exact h H Z ι Ext.refl S
theorem truthy_ok {Z H : Hp} {ι : List (Addr × Addr)} {K : PySem.W.Frag} (sz : Sub Z H) {v : V} {x : PV} {b : Bool} (h : RH G Z H ι v x) (e : PVL.truthy x = some b) : TruV K v H b := by
  cases x <;> simp only [PVL.truthy, reduceCtorEq, Option.some.injEq] at e
  · rw [h.non]; subst e; rfl
  · rw [h.bl]; subst e; rfl
  · rw [h.int]; subst e; rfl
  · obtain ⟨rfl, h1⟩ := h.str
    subst e
    refine ⟨by rw [mkS_len, ← line_eq]; exact h1.1, ?_⟩
    rw [mkS_len]
    rename_i s
    cases s <;> rfl
  · obtain ⟨a, vs, rfl, h1, r⟩ := h.tup sz
    subst e
    refine .inr (.inl ⟨vs, SqT.of h1, ?_⟩)
    cases r <;> rfl
  · obtain ⟨a, vs, rfl, h1, r⟩ := h
    subst e
    refine .inl ⟨vs, .inl h1, ?_⟩
    cases r <;> rfl
/-- a test by its value's truth -/
theorem st_val {e : Expr} {ie : E} (h : PE X e (tE G W ie)) (he : ∀ whole, isTrue e X.env whole = (do let v ← whole; standAt e.pos; holding [v] (PySem.truthy v))) : PT X e (tT G W (.val ie)) := by
  refine PT.imp (pt_truth h he) fun σ H Q h => ?_
  obtain ⟨Z, B, ι, ω, ρ, S, h⟩ := h
  unfold evT at h
  refine tE.next S h.bind fun x ω1 h1 v H1 Z1 ι1 E1 S1 l1 _ p1 => ?_
  cases e : PVL.truthy x.1 with
  | none => rw [e] at h1; exact h1.elim
  | some b =>
    rw [e] at h1
    exact ⟨b, truthy_ok S1.zH (l1.rh S1) e, h1 H1 Z1 ι1 E1 S1⟩
/-- a comparison's reading -/
theorem cmp_read {ia ib : E} {cop : COp} {Z B H : Hp} {ι : List (Addr × Addr)} {ω : PVL.Store} {ρ : PVL.Env} {σ : St} (S : Sim G Z B H ι ω ρ σ) {k : VM → PVL.Store → Prop} {Q : VK} (h : RP (ev (.cmp cop ia ib) ρ ω) k (QX G W Z B H ι ρ σ))
    (go : ∀ b ω2, k (.bl b, .fz) ω2 → ∀ H2 Z2 ι2, Ext Z Z2 (PO B ρ σ) ι ι2 H H2 → Sim G Z2 B H2 ι2 ω2 ρ σ → Q (.bl b) H2) : tOp (rCm G (cmpV cop)) (tE G W ia) (tE G W ib) σ H Q := by
  unfold ev at h
  refine tE.next S h.bind fun x ω1 h1 v H1 Z1 ι1 E1 S1 l1 _ p1 => ?_
  refine tE.next S1 (h1.bind.mono (fun _ _ q => q) fun _ _ _ q => q.on E1) fun y ω2 h2 u H2 Z2 ι2 E2 S2 l2 _ p2 => ?_
  unfold liftB at h2
  cases e : cmpV cop x.1 y.1 with
  | none => rw [e] at h2; exact h2.elim
  | some z =>
    rw [e] at h2
    exact ⟨Z2, ι2, x.1, y.1, z, S2.zH, (l1.on E2).rh S2, l2.rh S2, e, go z ω2 h2 H2 Z2 ι2 (E1.trans E2) S2⟩
theorem se_cmp {a b : Expr} {ia ib : E} {op : CmpOp} {cop : COp} {pos : Pos} (ho : OpR X (compareOp op) (rCm G (cmpV cop))) (ha : PE X a (tE G W ia)) (hb : PE X b (tE G W ib)) (hm : behindInMarks op b = false) : PE X (.Compare a [op] [b] pos) (tE G W (.cmp cop ia ib)) := by
  refine PE.imp (pe_cmpR ho ha hb hm) fun σ H Q h => ?_
  obtain ⟨Z, B, ι, ω, ρ, S, h⟩ := h
  exact cmp_read S h fun b ω2 h2 H2 Z2 ι2 E2 S2 => h2 _ H2 Z2 ι2 E2 S2 (RV.bl b) (fun z => by cases z)
theorem st_cmp {a b : Expr} {ia ib : E} {op : CmpOp} {cop : COp} {pos : Pos} (ho : OpR X (compareOp op) (rCm G (cmpV cop))) (ha : PE X a (tE G W ia)) (hb : PE X b (tE G W ib)) (hm : behindInMarks op b = false) : PT X (.Compare a [op] [b] pos) (tT G W (.val (.cmp cop ia ib))) := by
  refine PT.imp (pt_cmpR ho ha hb hm) fun σ H Q h => ?_
  obtain ⟨Z, B, ι, ω, ρ, S, h⟩ := h
  unfold evT at h
  exact cmp_read S h.bind fun b ω2 h2 H2 Z2 ι2 E2 S2 => ⟨b, rfl, h2 H2 Z2 ι2 E2 S2⟩
/-- a < b < c -/
theorem chn_read {ia ib ic : E} {o1 o2 : COp} {Z B H : Hp} {ι : List (Addr × Addr)} {ω : PVL.Store} {ρ : PVL.Env} {σ : St} (S : Sim G Z B H ι ω ρ σ) {k : VM → PVL.Store → Prop} {Q : VK} (h : RP (ev (.chn o1 o2 ia ib ic) ρ ω) k (QX G W Z B H ι ρ σ))
    (go : ∀ b ω2, k (.bl b, .fz) ω2 → ∀ H2 Z2 ι2, Ext Z Z2 (PO B ρ σ) ι ι2 H H2 → Sim G Z2 B H2 ι2 ω2 ρ σ → Q (.bl b) H2) : tChain (rCm G (cmpV o1)) (rCm G (cmpV o2)) (tE G W ia) (tE G W ib) (tE G W ic) σ H Q := by
  unfold ev at h
  refine tE.next S h.bind fun x ω1 h1 v H1 Z1 ι1 E1 S1 l1 _ p1 => ?_
  refine tE.next S1 (h1.bind.mono (fun _ _ q => q) fun _ _ _ q => q.on E1) fun y ω2 h2 u H2 Z2 ι2 E2 S2 l2 _ p2 => ?_
  cases e : cmpV o1 x.1 y.1 with
  | none => rw [e] at h2; exact h2.elim
  | some z =>
    rw [e] at h2
    refine ⟨Z2, ι2, x.1, y.1, z, S2.zH, (l1.on E2).rh S2, l2.rh S2, e, z, rfl, ?_⟩
    cases z with
    | false => exact go false ω2 h2 H2 Z2 ι2 (E1.trans E2) S2
    | true =>
      refine tE.next S2 (h2.bind.mono (fun _ _ q => q) fun _ _ _ q => q.on (E1.trans E2)) fun w ω3 h3 t H3 Z3 ι3 E3 S3 l3 _ p3 => ?_
      unfold liftB at h3
      cases e2 : cmpV o2 y.1 w.1 with
      | none => rw [e2] at h3; exact h3.elim
      | some z2 =>
        rw [e2] at h3
        exact ⟨Z3, ι3, y.1, w.1, z2, S3.zH, (l2.on E3).rh S3, l3.rh S3, e2, go z2 ω3 h3 H3 Z3 ι3 ((E1.trans E2).trans E3) S3⟩
theorem st_not {a : Expr} {ia : T} {pos : Pos} (h : PT X a (tT G W ia)) : PT X (.UnaryOp .Not a pos) (tT G W (.not ia)) := by
  refine PT.imp (pt_not h) fun σ H Q h => ?_
  obtain ⟨Z, B, ι, ω, ρ, S, h⟩ := h
  unfold evT at h
  exact ⟨Z, B, ι, ω, ρ, S, h.bind.mono (fun x ω1 h1 H1 Z1 ι1 E1 S1 => h1 H1 Z1 ι1 E1 S1) fun _ _ _ q => q⟩
end
end PVS

set_option maxHeartbeats 1000000
/-! PVS: chains, and, or, items, calls of defs. -/
namespace PVS
open PySem L2 TL PVL
section
variable {X : Cx} {G : GS} {W : WX}
theorem se_chn {a b c : Expr} {ia ib ic : E} {op op' : CmpOp} {o1 o2 : COp} {pos : Pos} (h1 : OpR X (compareOp op) (rCm G (cmpV o1))) (h2 : OpR X (compareOp op') (rCm G (cmpV o2))) (ha : PE X a (tE G W ia)) (hb : PE X b (tE G W ib)) (hc : PE X c (tE G W ic))
    (hm : lastMarks [op, op'] [b, c] = false) : PE X (.Compare a [op, op'] [b, c] pos) (tE G W (.chn o1 o2 ia ib ic)) := by
  refine PE.imp (pe_chain h1 h2 ha hb hc hm) fun σ H Q h => ?_
  obtain ⟨Z, B, ι, ω, ρ, S, h⟩ := h
  exact chn_read S h fun b ω2 h2 H2 Z2 ι2 E2 S2 => h2 _ H2 Z2 ι2 E2 S2 (RV.bl b) (fun z => by cases z)
theorem st_chn {a b c : Expr} {ia ib ic : E} {op op' : CmpOp} {o1 o2 : COp} {pos : Pos} (h1 : OpR X (compareOp op) (rCm G (cmpV o1))) (h2 : OpR X (compareOp op') (rCm G (cmpV o2))) (ha : PE X a (tE G W ia)) (hb : PE X b (tE G W ib)) (hc : PE X c (tE G W ic))
    (hm : lastMarks [op, op'] [b, c] = false) : PT X (.Compare a [op, op'] [b, c] pos) (tT G W (.val (.chn o1 o2 ia ib ic))) := by
  refine PT.imp (pt_chain h1 h2 ha hb hc hm) fun σ H Q h => ?_
  obtain ⟨Z, B, ι, ω, ρ, S, h⟩ := h
  unfold evT at h
  exact chn_read S h.bind fun b ω2 h2 H2 Z2 ι2 E2 S2 => ⟨b, rfl, h2 H2 Z2 ι2 E2 S2⟩
theorem PW.imp {e : Expr} {t t' : TT} (h : PW X e t) (i : ∀ σ H Q, t' σ H Q → t σ H Q) : PW X e t' := ⟨fun w pins s σ H Q I q => h.run w pins s σ H Q I (i σ H Q q)⟩
theorem tT.next {ia : T} {Z B H : Hp} {ι : List (Addr × Addr)} {ω : PVL.Store} {ρ : PVL.Env} {σ : St} (S : Sim G Z B H ι ω ρ σ) {k : Bool → PVL.Store → Prop} {R : Bool → Hp → Prop} (h : RP (evT ia ρ ω) k (QX G W Z B H ι ρ σ))
    (go : ∀ x ω1, k x ω1 → ∀ H1 Z1 ι1, Ext Z Z1 (PO B ρ σ) ι ι1 H H1 → Sim G Z1 B H1 ι1 ω1 ρ σ → R x H1) : tT G W ia σ H R :=
  ⟨Z, B, ι, ω, ρ, S, h.mono (fun x ω1 hk H1 Z1 ι1 E1 S1 => go x ω1 hk H1 Z1 ι1 E1 S1) fun _ _ _ q => q⟩
theorem sw_and1 {a : Expr} {ia : T} {pos : Pos} (h : PT X a (tT G W ia)) : PW X (.BoolOp .And [a] pos) (tT G W ia) := pw_and1 h
theorem sw_or1 {a : Expr} {ia : T} {pos : Pos} (h : PT X a (tT G W ia)) : PW X (.BoolOp .Or [a] pos) (tT G W ia) := pw_or1 h
theorem sw_and {a b : Expr} {rest : List Expr} {ia ib : T} {pos : Pos} (ha : PT X a (tT G W ia)) (hb : PW X (.BoolOp .And (b :: rest) pos) (tT G W ib)) : PW X (.BoolOp .And (a :: b :: rest) pos) (tT G W (.and ia ib)) := by
  refine PW.imp (pw_and ha hb) fun σ H Q h => ?_
  obtain ⟨Z, B, ι, ω, ρ, S, h⟩ := h
  unfold evT at h
  refine tT.next S h.bind fun x ω1 h1 H1 Z1 ι1 E1 S1 => ?_
  cases x with
  | false => rw [if_neg Bool.false_ne_true]; exact h1 H1 Z1 ι1 E1 S1
  | true =>
    rw [if_pos rfl]
    exact tT.next S1 ((show RP (evT ib ρ ω1) _ _ from h1).mono (fun _ _ q => q) fun _ _ _ q => q.on E1) fun y ω2 h2 H2 Z2 ι2 E2 S2 => h2 H2 Z2 ι2 (E1.trans E2) S2
theorem sw_or {a b : Expr} {rest : List Expr} {ia ib : T} {pos : Pos} (ha : PT X a (tT G W ia)) (hb : PW X (.BoolOp .Or (b :: rest) pos) (tT G W ib)) : PW X (.BoolOp .Or (a :: b :: rest) pos) (tT G W (.or ia ib)) := by
  refine PW.imp (pw_or ha hb) fun σ H Q h => ?_
  obtain ⟨Z, B, ι, ω, ρ, S, h⟩ := h
  unfold evT at h
  refine tT.next S h.bind fun x ω1 h1 H1 Z1 ι1 E1 S1 => ?_
  cases x with
  | true => rw [if_pos rfl]; exact h1 H1 Z1 ι1 E1 S1
  | false =>
    rw [if_neg Bool.false_ne_true]
    exact tT.next S1 ((show RP (evT ib ρ ω1) _ _ from h1).mono (fun _ _ q => q) fun _ _ _ q => q.on E1) fun y ω2 h2 H2 Z2 ι2 E2 S2 => h2 H2 Z2 ι2 (E1.trans E2) S2
theorem Pu.no {p : Bool} (h : p = false) {H H' : Hp} {ω ω' : PVL.Store} {ι ι' : List (Addr × Addr)} : Pu p H H' ω ω' ι ι' := fun z => by rw [h] at z; cases z
theorem se_and {a b : Expr} {rest : List Expr} {ia ib : E} {pos : Pos} (ha : PE X a (tE G W ia)) (hb : PE X (.BoolOp .And (b :: rest) pos) (tE G W ib)) : PE X (.BoolOp .And (a :: b :: rest) pos) (tE G W (.andV ia ib)) := by
  refine PE.imp (pe_and ha hb) fun σ H Q h => ?_
  obtain ⟨Z, B, ι, ω, ρ, S, h⟩ := h
  unfold ev at h
  refine tE.next S h.bind fun x ω1 h1 v H1 Z1 ι1 E1 S1 l1 r1 p1 => ?_
  obtain ⟨y, m⟩ := x
  cases y <;> try exact h1.elim
  rename_i c
  cases c with
  | false =>
    rw [(l1.rh S1).bl]
    exact ⟨false, rfl, by rw [if_neg Bool.false_ne_true]; exact h1 _ H1 Z1 ι1 E1 S1 (RV.bl _) (fun z => by cases z)⟩
  | true =>
    rw [(l1.rh S1).bl]
    refine ⟨true, rfl, ?_⟩
    rw [if_pos rfl]
    exact ⟨Z1, B, ι1, ω1, ρ, S1, (show RP (ev ib ρ ω1) _ _ from h1).mono (fun y ω2 h2 u H2 Z2 ι2 E2 S2 o2 p2 => h2 u H2 Z2 ι2 (E1.trans E2) S2 o2 (.no rfl)) fun _ _ _ q => q.on E1⟩
theorem se_or {a b : Expr} {rest : List Expr} {ia ib : E} {pos : Pos} (ha : PE X a (tE G W ia)) (hb : PE X (.BoolOp .Or (b :: rest) pos) (tE G W ib)) : PE X (.BoolOp .Or (a :: b :: rest) pos) (tE G W (.orV ia ib)) := by
  refine PE.imp (pe_orT ha hb) fun σ H Q h => ?_
  obtain ⟨Z, B, ι, ω, ρ, S, h⟩ := h
  unfold ev at h
  refine tE.next S h.bind fun x ω1 h1 v H1 Z1 ι1 E1 S1 l1 r1 p1 => ?_
  obtain ⟨y, m⟩ := x
  have back : RP (ev ib ρ ω1) (fun r ω' => ∀ v H' Z' ι', Ext Z Z' (PO B ρ σ) ι ι' H H' → Sim G Z' B H' ι' ω' ρ σ → OkV G Z' B H' ι' ω' ρ σ v r.1 r.2 → Pu (pureE (.orV ia ib)) H H' ω ω' ι ι' → Q v H') (QX G W Z B H ι ρ σ) → tE G W ib σ H1 Q := fun h2 =>
    ⟨Z1, B, ι1, ω1, ρ, S1, h2.mono (fun y ω2 h2 u H2 Z2 ι2 E2 S2 o2 p2 => h2 u H2 Z2 ι2 (E1.trans E2) S2 o2 (.no rfl)) fun _ _ _ q => q.on E1⟩
  cases y <;> try exact h1.elim
  · rename_i c
    cases c with
    | true =>
      rw [(l1.rh S1).bl]
      exact ⟨true, rfl, by rw [if_pos rfl]; exact h1 _ H1 Z1 ι1 E1 S1 (RV.bl _) (fun z => by cases z)⟩
    | false =>
      rw [(l1.rh S1).bl]
      exact ⟨false, rfl, by rw [if_neg Bool.false_ne_true]; exact back h1⟩
  · rename_i s
    have t := truthy_ok (K := X.K) (x := .str s) S1.zH (l1.rh S1) rfl
    have hr := (l1.rh S1).str
    refine ⟨_, t, ?_⟩
    by_cases hs : s = []
    · subst hs
      rw [if_neg (by simp)]
      exact back h1
    · rw [if_pos (by simp [hs])]
      have h1 : RP (if s = [] then ev ib ρ ω1 else .ok (.str s, .fz) ω1) _ _ := h1
      rw [if_neg hs] at h1
      exact h1 _ H1 Z1 ι1 E1 S1 (by rw [hr.1]; exact RV.str _ hr.2) (fun z => by cases z)
theorem se_notV {a : Expr} {ia : E} {pos : Pos} (ha : PE X a (tE G W ia)) : PE X (.UnaryOp .Not a pos) (tE G W (.notV (.val ia))) := by
  refine PE.imp (pe_notT ha) fun σ H Q h => ?_
  obtain ⟨Z, B, ι, ω, ρ, S, h⟩ := h
  unfold ev at h
  have h := h.bind
  unfold evT at h
  refine tE.next S h.bind fun x ω1 h1 v H1 Z1 ι1 E1 S1 l1 r1 p1 => ?_
  cases e : PVL.truthy x.1 with
  | none => rw [e] at h1; exact h1.elim
  | some b =>
    rw [e] at h1
    exact ⟨b, truthy_ok S1.zH (l1.rh S1) e, h1 _ H1 Z1 ι1 E1 S1 (RV.bl _) (fun z => by cases z)⟩
theorem se_ite {c a b : Expr} {ic : T} {ia ib : E} {pos : Pos} (hc : PT X c (tT G W ic)) (ha : PE X a (tE G W ia)) (hb : PE X b (tE G W ib)) : PE X (.IfExp c a b pos) (tE G W (.ite ic ia ib)) := by
  refine PE.imp (pe_ifExp hc ha hb) fun σ H Q h => ?_
  obtain ⟨Z, B, ι, ω, ρ, S, h⟩ := h
  unfold ev at h
  refine tT.next S h.bind fun x ω1 h1 H1 Z1 ι1 E1 S1 => ?_
  cases x with
  | true =>
    rw [if_pos rfl]
    exact ⟨Z1, B, ι1, ω1, ρ, S1, (show RP (ev ia ρ ω1) _ _ from h1).mono (fun y ω2 h2 u H2 Z2 ι2 E2 S2 o2 p2 => h2 u H2 Z2 ι2 (E1.trans E2) S2 o2 (.no rfl)) fun _ _ _ q => q.on E1⟩
  | false =>
    rw [if_neg Bool.false_ne_true]
    exact ⟨Z1, B, ι1, ω1, ρ, S1, (show RP (ev ib ρ ω1) _ _ from h1).mono (fun y ω2 h2 u H2 Z2 ι2 E2 S2 o2 p2 => h2 u H2 Z2 ι2 (E1.trans E2) S2 o2 (.no rfl)) fun _ _ _ q => q.on E1⟩
theorem Lv.rv {Z B H : Hp} {ι : List (Addr × Addr)} {ω : PVL.Store} {ρ : PVL.Env} {σ : St} (S : Sim G Z B H ι ω ρ σ) {v : V} {x : PV} (l : Lv G Z B H ι ρ σ v x) (hc : isC x = false) : RV G Z ι v x := (l.rh S).flat hc
theorem se_idx {a i : Expr} {ia ii : E} {pos : Pos} (hu : X.A.units + 64 < cLine) (ha : PE X a (tE G W ia)) (hi : PE X i (tE G W ii)) (hs : PlainIx i) : PE X (.Subscript a i pos) (tE G W (.idx ia ii)) := by
  refine PE.imp (pe_ix (i_all (G := G) hu) ha hi hs) fun σ H Q h => ?_
  obtain ⟨Z, B, ι, ω, ρ, S, h⟩ := h
  unfold ev at h
  refine tE.next S h.bind fun x ω1 h1 v H1 Z1 ι1 E1 S1 l1 _ p1 => ?_
  refine tE.next S1 (h1.bind.mono (fun _ _ q => q) fun _ _ _ q => q.on E1) fun y ω2 h2 u H2 Z2 ι2 E2 S2 l2 _ p2 => ?_
  unfold liftO at h2
  cases e : idxV x.1 y.1 with
  | none => rw [e] at h2; exact h2.elim
  | some z =>
    rw [e] at h2
    refine ⟨Z2, ι2, x.1, y.1, z, S2.zH, (l1.on E2).rh S2, l2.rh S2, e, fun w r => ?_⟩
    have em : (mk z .fz).2 = .fz := by unfold mk; cases isC z <;> rfl
    exact h2 w H2 Z2 ι2 (E1.trans E2) S2 (by show OkV G Z2 B H2 ι2 ω2 ρ σ w z (mk z .fz).2; rw [em]; exact r) (p1.and p2 rfl)

/-! ### calls -/
variable (G) in
/-- a def's promise, by what it means -/
def spOf (D : Fn) : Sp := fun vs H Q E => ∃ Z B ι ω xs, Sim G Z B H ι ω [] [] ∧ Ags G Z B H ι [] [] vs xs ∧
  RP (D xs ω) (fun r ω' => ∀ v H' Z' ι', Ext Z Z' (PB B) ι ι' H H' → Sim G Z' B H' ι' ω' [] [] → OkV G Z' B H' ι' ω' [] [] v r.1 r.2 → Q v H')
    (fun c ys ω' => ∀ cls d H' Z' ι', Ext Z Z' (PB B) ι ι' H H' → Sim G Z' B H' ι' ω' [] [] → XR G Z' ι' c ys cls d → E cls d H')
/-- the arguments as the callee has them -/
theorem Ags.call {Z B H : Hp} {ι : List (Addr × Addr)} {ω : PVL.Store} {ρ : PVL.Env} {σ : St} (S : Sim G Z B H ι ω ρ σ) {vs : List V} {xs : List VM} (h : Ags G Z B H ι ρ σ vs xs) : Ags G Z (lend B H ρ σ) H ι [] [] vs xs := by
  induction h with
  | nil => exact .nil
  | @cons v x m vs xs h1 h2 h3 _ ih =>
    refine .cons h1 ?_ h3 ih
    rcases h2 with (h | ⟨a, o, e1, e2, e3⟩) | ⟨i, a, e1, e2, rfl⟩
    · exact .inl (.inl h)
    · exact .inl (.inr ⟨a, o, e1, lend_b S e2, e3⟩)
    · obtain ⟨v, q1, b, o, rfl, q3, q4⟩ := S.sl i x .own e1
      rw [e2] at q1; cases q1
      exact .inl (.inr ⟨_, o, rfl, by rw [lend_slot e1 e2]; exact q3, q4⟩)
/-- behind a call: what was told, here -/
theorem told_ok {Z Z' B H H' : Hp} {ι ι' : List (Addr × Addr)} {ω ω' : PVL.Store} {ρ : PVL.Env} {σ : St} (S : Sim G Z B H ι ω ρ σ) (S' : Sim G Z' (lend B H ρ σ) H' ι' ω' [] []) (E : Ext Z Z' (PB (lend B H ρ σ)) ι ι' H H')
    {v : V} {x : PV} {m : Md} (k : keeps (x, m) = true) (o : OkV G Z' (lend B H ρ σ) H' ι' ω' [] [] v x m) : OkV G Z' B H' ι' ω' ρ σ v x m := by
  obtain ⟨S2, E2⟩ := S.back S' E
  cases m with
  | own =>
    obtain ⟨a, o, rfl, h1, h2, h3, h4, h5⟩ := o
    refine ⟨a, o, rfl, h1, h2, h3, ?_, fun k q => ?_⟩
    · cases e : B a with
      | none => rfl
      | some u => rw [lend_b S e] at h4; cases h4
    · cases k with
      | slot i =>
        obtain ⟨⟨y, e1⟩, e2⟩ := q
        obtain ⟨u, hu⟩ := S.owSome (k := .slot i) ⟨⟨y, e1⟩, e2⟩
        rw [lend_slot e1 e2, hu] at h4; cases h4
      | ins n => exact h5 (.ins n) q
      | dct n => exact h5 (.dct n) q
      | fld n j => exact h5 (.fld n j) q
  | fz => exact o
  | br =>
    have hc : isC x = false := by
      unfold keeps at k
      cases h : isC x with
      | false => rfl
      | true => rw [h] at k; simp at k
    exact .inl (Lv.rv S' (.inl o) hc)
  | lv =>
    obtain ⟨i, a, h1, h2, rfl⟩ := o
    simp at h1
/-- the callee's promise from the caller's place -/
theorem call_read {D : Fn} {Z B H : Hp} {ι : List (Addr × Addr)} {ω : PVL.Store} {ρ : PVL.Env} {σ : St} (S : Sim G Z B H ι ω ρ σ) {vs : List V} {xs : List VM} (ag : Ags G Z B H ι ρ σ vs xs) {k : VM → PVL.Store → Prop} {Q : VK}
    (h : RP ((D xs ω).bind told) k (QX G W Z B H ι ρ σ))
    (go : ∀ r ω', k r ω' → ∀ v H' Z' ι', Ext Z Z' (PO B ρ σ) ι ι' H H' → Sim G Z' B H' ι' ω' ρ σ → OkV G Z' B H' ι' ω' ρ σ v r.1 r.2 → Q v H') : spOf G D vs H Q (fun cls d H' => W cls d σ H') := by
  refine ⟨Z, lend B H ρ σ, ι, ω, xs, S.call, ag.call S, h.bind.mono (fun r ω' h1 v H' Z' ι' E' S' o' => ?_) fun c ys ω' h1 cls d H' Z' ι' E' S' x' => ?_⟩
  · obtain ⟨S2, E2⟩ := S.back S' E'
    unfold told at h1
    cases hk : keeps r with
    | false => rw [hk] at h1; exact h1.elim
    | true =>
      rw [if_pos hk] at h1
      exact go r ω' h1 v H' Z' ι' E2 S2 (told_ok S S' E' hk o')
  · obtain ⟨S2, E2⟩ := S.back S' E'
    exact h1 cls d H' Z' ι' E2 S2 x'
theorem se_call {D : Fn} {e : Expr} {es : List Expr} {ies : Es} {x : Str} {p pos : Pos} {k : Nat} {f : Addr} {fd : FuncData} {ps : List Str} (tk : Takes X W) (F : FnOk X.prog X.w X.K X.mg X.base (L2.CX X.prog X.w) k f fd ps (spOf G D)) (hr : Room k X.A) (hg : Gl X x) (hm : X.mg x = some (.ref f))
    (hk : PySem.W.keepIn X.K (.ref f) = true) (hb : Binds X.K fd ps []) (ha : PA X (e :: es) (tA G W ies)) (hdb : (x == ("__debug__" : Str)) = false) (he : starEach (e :: es) X.env = (false, eval e X.env) :: starEach es X.env) (hpl : (backTo pos (starEach es X.env)).any (·.1) = false) :
    PE X (.Call (.Name x p) (e :: es) [] pos) (tE G W (.call D ies)) := by
  refine PE.imp (pe_callS (E := WE W) F hr hg hm hk hb (fun σ => passAt tk σ) ha hdb he hpl) fun σ H Q h => ?_
  obtain ⟨Z, B, ι, ω, ρ, S, h⟩ := h
  unfold ev at h
  refine ⟨Z, B, ι, ω, ρ, S, h.bind.mono (fun xs ω1 h1 vs H1 Z1 ι1 E1 S1 ag => ?_) fun _ _ _ q => q⟩
  exact call_read S1 ag (h1.mono (fun _ _ q => q) fun _ _ _ q => q.on E1) fun r ω' hk v H' Z' ι' E' S' o' => hk v H' Z' ι' (E1.trans E') S' o' (.no rfl)
end
end PVS

set_option maxHeartbeats 1000000
/-! PVS: statements. -/
namespace PVS
open PySem L2 TL PVL
section
variable (G : GS) (W : WX)
/-- what is wanted of a statement's end -/
def FP (f : PVL.F) (Z B H : Hp) (ι : List (Addr × Addr)) (D : Ends) : Prop := match f with
  | .nx ρ' ω' => ∀ H' Z' ι' σ', Ext Z Z' (PB B) ι ι' H H' → Sim G Z' B H' ι' ω' ρ' σ' → D.nx σ' H'
  | .bk ρ' ω' => ∀ H' Z' ι' σ', Ext Z Z' (PB B) ι ι' H H' → Sim G Z' B H' ι' ω' ρ' σ' → D.bk σ' H'
  | .ct ρ' ω' => ∀ H' Z' ι' σ', Ext Z Z' (PB B) ι ι' H H' → Sim G Z' B H' ι' ω' ρ' σ' → D.ct σ' H'
  | .rt r ω' => ∀ v H' Z' ι', Ext Z Z' (PB B) ι ι' H H' → Sim G Z' B H' ι' ω' [] [] → OkV G Z' B H' ι' ω' [] [] v r.1 r.2 → D.rt v H'
  | .exc c xs ρ' ω' => ∀ cls d H' Z' ι' σ', Ext Z Z' (PB B) ι ι' H H' → Sim G Z' B H' ι' ω' ρ' σ' → XR G Z' ι' c xs cls d → W cls d σ' H'
  | .bad => False
def tS (s : S) : TS := fun D σ H => ∃ Z B ι ω ρ, Sim G Z B H ι ω ρ σ ∧ FP G W (ex s ρ ω) Z B H ι D
def tSs (s : Ss) : TS := fun D σ H => ∃ Z B ι ω ρ, Sim G Z B H ι ω ρ σ ∧ FP G W (exs s ρ ω) Z B H ι D
end
section
variable {G : GS} {W : WX} {Z Z' B H H' : Hp} {ι ι' : List (Addr × Addr)} {ω ω' : PVL.Store} {ρ ρ' : PVL.Env} {σ σ' : St} {D D' : Ends}
theorem FP.on {f : PVL.F} (h : FP G W f Z B H ι D) (E : Ext Z Z' (PB B) ι ι' H H') : FP G W f Z' B H' ι' D := by
  cases f with
  | nx ρ' ω' => exact fun H2 Z2 ι2 σ2 E2 => h H2 Z2 ι2 σ2 (E.trans E2)
  | bk ρ' ω' => exact fun H2 Z2 ι2 σ2 E2 => h H2 Z2 ι2 σ2 (E.trans E2)
  | ct ρ' ω' => exact fun H2 Z2 ι2 σ2 E2 => h H2 Z2 ι2 σ2 (E.trans E2)
  | rt r ω' => exact fun v H2 Z2 ι2 E2 => h v H2 Z2 ι2 (E.trans E2)
  | exc c xs ρ' ω' => exact fun cls d H2 Z2 ι2 σ2 E2 => h cls d H2 Z2 ι2 σ2 (E.trans E2)
  | bad => exact h
/-- an expression, then on -/
theorem FP.to {α : Type} {r : R α} {k : α → PVL.Store → PVL.F} (h : FP G W (r.to ρ k) Z B H ι D) : RP r (fun a ω' => FP G W (k a ω') Z B H ι D) (QX G W Z B H ι ρ σ) := by
  cases r with
  | ok a ω' => exact h
  | exc c xs ω' => exact fun cls d H2 Z2 ι2 E2 S2 x2 => h cls d H2 Z2 ι2 σ E2.pb S2 x2
  | bad => exact h
theorem Sim.drop (S : Sim G Z B H ι ω ρ σ) : Sim G Z B H ι ω [] [] := by
  have oc : ∀ {k a}, owA G H ι ω [] [] k a → owA G H ι ω ρ σ k a := by
    intro k a h
    cases k with
    | slot i => obtain ⟨⟨x, e⟩, _⟩ := h; simp at e
    | ins n => exact h
    | dct n => exact h
    | fld n j => exact h
  exact ⟨S.zH, S.bH, S.iL, S.ob, fun i x m e => by simp at e, rfl, fun k k' a h h' => S.inj k k' a (oc h) (oc h'), fun k a h => S.zno k a (oc h), S.zb⟩
theorem OkV.drop {v : V} {x : PV} {m : Md} (S : Sim G Z B H ι ω ρ σ) (k : keeps (x, m) = true) (o : OkV G Z B H ι ω ρ σ v x m) : OkV G Z B H ι ω [] [] v x m := by
  cases m with
  | own =>
    obtain ⟨a, o, rfl, h1, h2, h3, h4, h5⟩ := o
    refine ⟨a, o, rfl, h1, h2, h3, h4, fun k q => ?_⟩
    cases k with
    | slot i => obtain ⟨⟨y, e⟩, _⟩ := q; simp at e
    | ins n => exact h5 (.ins n) q
    | dct n => exact h5 (.dct n) q
    | fld n j => exact h5 (.fld n j) q
  | fz => exact o
  | br => exact o
  | lv =>
    obtain ⟨i, a, h1, h2, rfl⟩ := o
    obtain ⟨v, e1, b, o, rfl, e3, e4⟩ := S.sl i x .own h1
    unfold keeps at k
    rw [e4.isC] at k
    cases k
end
section
variable {X : Cx} {G : GS} {W : WX}
theorem PSs.imp {st : List Stmt} {t t' : TS} (h : PSs X st t) (i : ∀ D σ H, t' D σ H → t D σ H) : PSs X st t' := ⟨fun pins s σ H D I q => h.run pins s σ H D I (i D σ H q)⟩
theorem ss_nil : PSs X [] (tSs G W .nil) := by
  refine PSs.imp pss_nil fun D σ H h => ?_
  obtain ⟨Z, B, ι, ω, ρ, S, h⟩ := h
  unfold exs at h
  exact h H Z ι σ Ext.refl S
theorem ss_cons {st : Stmt} {rest : List Stmt} {is : S} {ir : Ss} (h1 : PS X st (tS G W is)) (h2 : PSs X rest (tSs G W ir)) : PSs X (st :: rest) (tSs G W (.cons is ir)) := by
  refine PSs.imp (pss_cons h1 h2) fun D σ H h => ?_
  obtain ⟨Z, B, ι, ω, ρ, S, h⟩ := h
  unfold exs at h
  refine ⟨Z, B, ι, ω, ρ, S, ?_⟩
  cases e : ex is ρ ω with
  | nx ρ' ω' =>
    rw [e] at h
    exact fun H' Z' ι' σ' E' S' => ⟨Z', B, ι', ω', ρ', S', h.on E'⟩
  | bk ρ' ω' => rw [e] at h; exact h
  | ct ρ' ω' => rw [e] at h; exact h
  | rt r ω' => rw [e] at h; exact h
  | exc c xs ρ' ω' => rw [e] at h; exact h
  | bad => rw [e] at h; exact h
theorem ss_one {st : Stmt} {is : S} (h1 : PS X st (tS G W is)) : PSs X [st] (tSs G W (.cons is .nil)) := ss_cons h1 ss_nil
theorem sp_pass {pos : Pos} : PS X (.Pass pos) (tS G W .pass) := by
  refine PS.imp ps_pass fun D σ H h => ?_
  obtain ⟨Z, B, ι, ω, ρ, S, h⟩ := h
  unfold ex at h
  exact h H Z ι σ Ext.refl S
theorem sp_brk {pos : Pos} : PS X (.Break pos) (tS G W .brk) := by
  refine PS.imp ps_break fun D σ H h => ?_
  obtain ⟨Z, B, ι, ω, ρ, S, h⟩ := h
  unfold ex at h
  exact h H Z ι σ Ext.refl S
theorem sp_cnt {pos : Pos} : PS X (.Continue pos) (tS G W .cnt) := by
  refine PS.imp ps_continue fun D σ H h => ?_
  obtain ⟨Z, B, ι, ω, ρ, S, h⟩ := h
  unfold ex at h
  exact h H Z ι σ Ext.refl S
theorem sp_doc {x : Str} {j : Nat} {p p' : Pos} : PS X (.Expr (.Constant (.str x) j p) p') (tS G W .pass) := by
  refine PS.imp ps_doc fun D σ H h => ?_
  obtain ⟨Z, B, ι, ω, ρ, S, h⟩ := h
  unfold ex at h
  exact h H Z ι σ Ext.refl S
theorem sp_expr {e : Expr} {ie : E} {pos : Pos} (he : PE X e (tE G W ie)) (hs : swapsWith e none pos.line X.env = pure false) : PS X (.Expr e pos) (tS G W (.expr ie)) := by
  refine PS.imp (ps_expr he hs) fun D σ H h => ?_
  obtain ⟨Z, B, ι, ω, ρ, S, h⟩ := h
  unfold ex at h
  exact ⟨Z, B, ι, ω, ρ, S, h.to.mono (fun x ω1 h1 v H1 Z1 ι1 E1 S1 o1 p1 => h1 H1 Z1 ι1 σ E1.pb S1) fun _ _ _ q => q⟩
/-- a name is stored -/
theorem Sim.store {Z B H : Hp} {ι : List (Addr × Addr)} {ω : PVL.Store} {ρ : PVL.Env} {σ : St} (S : Sim G Z B H ι ω ρ σ) {i : Nat} (hi : i < ρ.length) {v : V} {x : VM} (k : keeps x = true) (o : OkV G Z B H ι ω ρ σ v x.1 x.2) : Sim G Z B H ι ω (setV ρ i x) (σ.set i (some v)) := by
  obtain ⟨x, m⟩ := x
  cases m with
  | own =>
    obtain ⟨a, o, rfl, h1, h2, h3, h4, h5⟩ := o
    exact S.setS hi (show SR G Z B H ι (.ref a) x .own from ⟨a, o, rfl, h1, h2⟩) fun _ b e => by cases e; exact ⟨h3, h4, h5⟩
  | fz => exact S.setS hi (show SR G Z B H ι v x .fz from o) fun e => by cases e
  | br =>
    have hc : isC x = false := by
      unfold keeps at k
      cases h : isC x with
      | false => rfl
      | true => rw [h] at k; simp at k
    exact S.setS hi (show SR G Z B H ι v x .br from .inl (Lv.rv S (.inl o) hc)) fun e => by cases e
  | lv =>
    obtain ⟨i, a, h1, h2, rfl⟩ := o
    obtain ⟨v, e1, b, o, rfl, e3, e4⟩ := S.sl i x .own h1
    unfold keeps at k
    rw [e4.isC] at k
    cases k
theorem sp_set {i : Nat} {x : Str} {e : Expr} {ie : E} {pos pos' : Pos} (hN : X.N.Nodup) (hi : X.N[i]? = some x) (hx : Loc X.env.scope x) (he : PE X e (tE G W ie)) (hs : swapsWith e (some (.Name x pos')) pos.line X.env = pure false) (hf : X.fn x = true ∨ X.env.scope.names.lookup x = some .local) : PS X (.Assign [.Name x pos'] e pos) (tS G W (.set i ie)) := by
  refine ⟨fun pins s σ H D I h => (ps_set hN hi hx he hs hf).run pins s σ H D I ?_⟩
  obtain ⟨Z, B, ι, ω, ρ, S, h⟩ := h
  unfold ex at h
  have hiρ : i < ρ.length := by rw [S.len, I.len]; exact (List.getElem?_eq_some_iff.mp hi).1
  refine ⟨Z, B, ι, ω, ρ, S, h.to.mono (fun y ω1 h1 v H1 Z1 ι1 E1 S1 o1 p1 => ?_) fun _ _ _ q => q⟩
  cases hk : keeps y with
  | false => rw [hk] at h1; exact h1.elim
  | true =>
    rw [hk] at h1
    exact h1 H1 Z1 ι1 _ E1.pb (S1.store hiρ hk o1)
theorem sp_ret {e : Expr} {ie : E} {pos : Pos} (he : PE X e (tE G W ie)) : PS X (.Return (some e) pos) (tS G W (.ret ie)) := by
  refine PS.imp (ps_ret he) fun D σ H h => ?_
  obtain ⟨Z, B, ι, ω, ρ, S, h⟩ := h
  unfold ex at h
  refine ⟨Z, B, ι, ω, ρ, S, h.to.mono (fun y ω1 h1 v H1 Z1 ι1 E1 S1 o1 p1 => ?_) fun _ _ _ q => q⟩
  cases hk : keeps y with
  | false => rw [hk] at h1; exact h1.elim
  | true =>
    rw [hk] at h1
    exact h1 v H1 Z1 ι1 E1.pb S1.drop (o1.drop S1 hk)
theorem sp_retN {pos : Pos} : PS X (.Return none pos) (tS G W (.ret (.con .non))) := by
  refine PS.imp ps_retN fun D σ H h => ?_
  obtain ⟨Z, B, ι, ω, ρ, S, h⟩ := h
  unfold ex ev at h
  exact h .non H Z ι Ext.refl S.drop RV.non
/-- a name is handed back: what it holds is given away -/
theorem sp_retV {i : Nat} {x : Str} {p pos : Pos} (hN : X.N[i]? = some x) (hv : Vis X.env.scope x) (hd : (x == ("__debug__" : Str)) = false) (hcd : (x == ("__classdict__" : Str)) = false) : PS X (.Return (some (.Name x p)) pos) (tS G W (.retV i)) := by
  refine PS.imp (ps_ret (pe_var hN hv hd hcd)) fun D σ H h => ?_
  obtain ⟨Z, B, ι, ω, ρ, S, h⟩ := h
  unfold ex at h
  cases e : getV ρ i with
  | none => rw [e] at h; exact h.elim
  | some r =>
    obtain ⟨y, m⟩ := r
    rw [e] at h
    obtain ⟨v, e1, e2⟩ := S.sl i y m (getV_some.mp e)
    refine ⟨v, e1, ?_⟩
    cases hk : keeps (y, m) with
    | false =>
      have h : FP G W (if keeps (y, m) = true then .rt (y, m) ω else .bad) Z B H ι D := h
      rw [hk] at h
      exact h.elim
    | true =>
      have h : FP G W (if keeps (y, m) = true then .rt (y, m) ω else .bad) Z B H ι D := h
      rw [hk, if_pos rfl] at h
      refine h v H Z ι Ext.refl S.drop ?_
      cases m with
      | own =>
        obtain ⟨a, o, rfl, h2, h3⟩ := e2
        have me : owA G H ι ω ρ σ (.slot i) a := ⟨⟨y, getV_some.mp e⟩, e1⟩
        refine ⟨a, o, rfl, h2, h3, (S.zno _ _ me).1, (S.zno _ _ me).2, fun k q => ?_⟩
        cases k with
        | slot j => obtain ⟨⟨y, e⟩, _⟩ := q; simp at e
        | ins n => cases S.inj (.ins n) _ a q me
        | dct n => cases S.inj (.dct n) _ a q me
        | fld n j => cases S.inj (.fld n j) _ a q me
      | fz => exact e2
      | br => exact e2
      | lv => exact e2.elim
theorem sp_if {c : Expr} {a b : List Stmt} {ic : T} {ia ib : Ss} {pos : Pos} (hc : PT X c (tT G W ic)) (ha : PSs X a (tSs G W ia)) (hb : PSs X b (tSs G W ib)) : PS X (.If c a b pos) (tS G W (.ifs ic ia ib)) := by
  refine PS.imp (ps_if hc ha hb) fun D σ H h => ?_
  obtain ⟨Z, B, ι, ω, ρ, S, h⟩ := h
  unfold ex at h
  refine tT.next S h.to fun x ω1 h1 H1 Z1 ι1 E1 S1 => ?_
  cases x with
  | true => rw [if_pos rfl]; exact ⟨Z1, B, ι1, ω1, ρ, S1, (show FP G W (exs ia ρ ω1) Z B H ι D from h1).on E1.pb⟩
  | false => rw [if_neg Bool.false_ne_true]; exact ⟨Z1, B, ι1, ω1, ρ, S1, (show FP G W (exs ib ρ ω1) Z B H ι D from h1).on E1.pb⟩
theorem sp_while {c : Expr} {body : List Stmt} {ic : T} {ib : Ss} {pos : Pos} (hp : PassesOwn (model X.prog X.w) X.A X.env X.xe) (hc : PT X c (tT G W ic)) (hb : PSs X body (tSs G W ib)) : PS X (.While c body [] pos) (tS G W (.whl ic ib)) := by
  refine PS.imp (ps_while hp hc hb) fun D σ H h => ?_
  obtain ⟨Z, B, ι, ω, ρ, S, h⟩ := h
  unfold ex whl at h
  split at h
  · rename_i hex
    generalize Classical.choose hex = n at h
    refine ⟨fun m σ' H' => ∃ Z' ι' ω' ρ', Sim G Z' B H' ι' ω' ρ' σ' ∧ FP G W (whlN (evT ic) (exs ib) m ρ' ω') Z' B H' ι' D, ⟨n, Z, ι, ω, ρ, S, h⟩, fun m σ' H' h' => ?_⟩
    obtain ⟨Z', ι', ω', ρ', S', h'⟩ := h'
    cases m with
    | zero => exact h'.elim
    | succ m =>
      unfold whlN at h'
      refine tT.next S' h'.to fun x ω1 h1 H1 Z1 ι1 E1 S1 => ?_
      cases x with
      | false => rw [if_neg Bool.false_ne_true]; exact h1 H1 Z1 ι1 σ' E1.pb S1
      | true =>
        rw [if_pos rfl]
        rw [if_pos rfl] at h1
        refine ⟨fun σ2 H2 => ∃ Z2 ι2 ω2 ρ2, Sim G Z2 B H2 ι2 ω2 ρ2 σ2 ∧ FP G W (whlN (evT ic) (exs ib) m ρ2 ω2) Z2 B H2 ι2 D, fun σ2 H2 q => ⟨m, Nat.lt_succ_self m, q⟩, Z1, B, ι1, ω1, ρ', S1, ?_⟩
        cases e : exs ib ρ' ω1 with
        | nx ρ2 ω2 => rw [e] at h1; exact fun H2 Z2 ι2 σ2 E2 S2 => ⟨Z2, ι2, ω2, ρ2, S2, h1.on (E1.pb.trans E2)⟩
        | ct ρ2 ω2 => rw [e] at h1; exact fun H2 Z2 ι2 σ2 E2 S2 => ⟨Z2, ι2, ω2, ρ2, S2, h1.on (E1.pb.trans E2)⟩
        | bk ρ2 ω2 => rw [e] at h1; exact fun H2 Z2 ι2 σ2 E2 S2 => h1 H2 Z2 ι2 σ2 (E1.pb.trans E2) S2
        | rt r ω2 => rw [e] at h1; exact fun v H2 Z2 ι2 E2 => h1 v H2 Z2 ι2 (E1.pb.trans E2)
        | exc c xs ρ2 ω2 => rw [e] at h1; exact fun cls d H2 Z2 ι2 σ2 E2 => h1 cls d H2 Z2 ι2 σ2 (E1.pb.trans E2)
        | bad => rw [e] at h1; exact h1.elim
  · exact h.elim
/-- what is frozen ahead -/
theorem Sim.frz1 {Z B H : Hp} {ι : List (Addr × Addr)} {ω : PVL.Store} {ρ : PVL.Env} {σ : St} (S : Sim G Z B H ι ω ρ σ) (i : Nat) : ∃ Z', Ext Z Z' (PB B) ι ι H H ∧ Sim G Z' B H ι ω (freeze ρ i) σ := by
  unfold freeze
  cases e : getV ρ i with
  | none => exact ⟨Z, Ext.refl, S⟩
  | some r =>
    obtain ⟨x, m⟩ := r
    cases m with
    | own =>
      obtain ⟨v, e1, a, o, rfl, e3, e4⟩ := S.sl i x .own (getV_some.mp e)
      have me : owA G H ι ω ρ σ (.slot i) a := ⟨⟨x, getV_some.mp e⟩, e1⟩
      exact ⟨upd Z a o, Ext.fz (S.zno _ _ me).1, S.frzS e e1 e3 e4⟩
    | fz => exact ⟨Z, Ext.refl, S⟩
    | br => exact ⟨Z, Ext.refl, S⟩
    | lv => exact ⟨Z, Ext.refl, S⟩
theorem Sim.frzL {B H : Hp} {ι : List (Addr × Addr)} {ω : PVL.Store} {σ : St} : ∀ (is : List Nat) {Z : Hp} {ρ : PVL.Env}, Sim G Z B H ι ω ρ σ → ∃ Z', Ext Z Z' (PB B) ι ι H H ∧ Sim G Z' B H ι ω (is.foldl freeze ρ) σ
  | [], Z, ρ, S => ⟨Z, Ext.refl, S⟩
  | i :: is, Z, ρ, S => by
    obtain ⟨Z1, E1, S1⟩ := S.frz1 i
    obtain ⟨Z2, E2, S2⟩ := Sim.frzL is S1
    exact ⟨Z2, E1.trans E2, S2⟩
theorem sp_frz {st : Stmt} {is : List Nat} {s : S} (h : PS X st (tS G W s)) : PS X st (tS G W (.frz is s)) := by
  refine PS.imp h fun D σ H h => ?_
  obtain ⟨Z, B, ι, ω, ρ, S, h⟩ := h
  unfold ex at h
  obtain ⟨Z1, E1, S1⟩ := S.frzL is
  exact ⟨Z1, B, ι, ω, _, S1, h.on E1⟩
end
end PVS

set_option maxHeartbeats 1000000
/-! PVS: what is walked; for. -/
namespace PVS
open PySem L2 TL PVL
section
variable {G : GS} {Z Z' B H H' : Hp} {ι ι' : List (Addr × Addr)} {ω : PVL.Store} {ρ ρ' : PVL.Env} {σ : St}
/-- a name holds another thing, within or not -/
theorem Sim.setS' (S : Sim G Z B H ι ω ρ σ) {i : Nat} {v : V} {x : PV} (r : RV G Z ι v x) : Sim G Z B H ι ω (setV ρ i (x, .fz)) (σ.set i (some v)) := by
  by_cases hi : i < ρ.length
  · exact S.setS hi (show SR G Z B H ι v x .fz from r) fun e => by cases e
  · have e1 : setV ρ i (x, .fz) = ρ := by unfold setV; exact List.set_eq_of_length_le (Nat.le_of_not_lt hi)
    have e2 : σ.set i (some v) = σ := List.set_eq_of_length_le (by rw [← S.len]; exact Nat.le_of_not_lt hi)
    rw [e1, e2]; exact S
/-- the walk meets xs, while what is frozen and what P tells stands -/
def Walk (G : GS) (P : Addr → Prop) (Z : Hp) (ι : List (Addr × Addr)) (H : Hp) (J : L2.It) (xs : List PV) : Prop :=
  ∀ Z' ι' H', Ext Z Z' P ι ι' H H' → Sub Z' H' → (∀ i, xs.length ≤ i → J.stop i H') ∧ ∀ i x, xs[i]? = some x → J.go i H' ∧ ∀ v H'', J.yld i H' v H'' → Nw G Z' H' ι' .fz x v H''
variable {P : Addr → Prop}
theorem Walk.imp {P' : Addr → Prop} {J : L2.It} {xs : List PV} (h : Walk G P Z ι H J xs) (i : ∀ a, P a → P' a) : Walk G P' Z ι H J xs := fun Z' ι' H' E => h Z' ι' H' (E.imp i)
theorem Walk.on {J : L2.It} {xs : List PV} (h : Walk G P Z ι H J xs) (E : Ext Z Z' P ι ι' H H') : Walk G P Z' ι' H' J xs := fun Z2 ι2 H2 E2 => h Z2 ι2 H2 (E.trans E2)
theorem Walk.nil_of {J : L2.It} {xs : List PV} (h : Walk G P Z ι H J xs) (s : Sub Z H) : (∀ i, xs.length ≤ i → J.stop i H) ∧ ∀ i x, xs[i]? = some x → J.go i H ∧ ∀ v H'', J.yld i H v H'' → Nw G Z H ι .fz x v H'' := h Z ι H Ext.refl s
theorem walk_list {K : PySem.W.Frag} {a : Addr} {vs : List V} {xs : List PV} (hs : Z a ≠ none ∨ P a) (h : Rd H a (.lst vs)) (r : RVs G Z ι vs xs) : Walk G P Z ι H (Itl K a) xs := by
  intro Z' ι' H' E s
  have e : H' a = H a := E.k a hs
  have h' : SqL K H' a vs := .inl (by unfold Rd; rw [e]; exact h)
  have r' := r.mono E.z E.i
  refine ⟨fun i hi => ⟨vs, h', by rw [r.len]; exact hi⟩, fun i x hx => ?_⟩
  obtain ⟨v, hv, rv⟩ := r'.get hx
  refine ⟨⟨vs, v, h', hv⟩, fun u H'' y => ?_⟩
  obtain ⟨rfl, y⟩ := y
  have := y vs h'
  rw [hv] at this; cases this
  exact .inl ⟨fun z => by (cases z), rv, rfl⟩
theorem walk_rev {K : PySem.W.Frag} {a : Addr} {vs : List V} {xs : List PV} (hs : Z a ≠ none ∨ P a) (h : Rd H a (.lst vs)) (r : RVs G Z ι vs xs) : Walk G P Z ι H (Itv K a vs.length) xs.reverse := by
  intro Z' ι' H' E s
  have e : H' a = H a := E.k a hs
  have h' : SqL K H' a vs := .inl (by unfold Rd; rw [e]; exact h)
  have r' := r.mono E.z E.i
  refine ⟨fun i hi => by rw [List.length_reverse, ← r.len] at hi; exact hi, fun i x hx => ?_⟩
  have hi : i < xs.length := by simpa using (List.getElem?_eq_some_iff.mp hx).1
  rw [List.getElem?_reverse hi] at hx
  obtain ⟨v, hv, rv⟩ := r'.get hx
  have el := r.len
  refine ⟨⟨by omega, vs, v, h', by rw [el]; exact hv⟩, fun u H'' y => ?_⟩
  obtain ⟨rfl, y⟩ := y
  have := y vs h'
  rw [el, hv] at this; cases this
  exact .inl ⟨fun z => by (cases z), rv, rfl⟩
theorem walk_tup {K : PySem.W.Frag} {a : Addr} {vs : List V} {xs : List PV} (h : Z a = some (.tup vs)) (r : RVs G Z ι vs xs) : Walk G P Z ι H (Itt K a) xs := by
  intro Z' ι' H' E s
  have h' : SqT K H' a vs := SqT.of (s.tup (E.z a _ h))
  have r' := r.mono E.z E.i
  refine ⟨fun i hi => ⟨vs, h', by rw [r.len]; exact hi⟩, fun i x hx => ?_⟩
  obtain ⟨v, hv, rv⟩ := r'.get hx
  refine ⟨⟨vs, v, h', hv⟩, fun u H'' y => ?_⟩
  obtain ⟨rfl, y⟩ := y
  have := y vs h'
  rw [hv] at this; cases this
  exact .inl ⟨fun z => by (cases z), rv, rfl⟩
theorem walk_str {s : Txt} (h : okT s) : Walk G P Z ι H (Its (mkS s)) (charsOf s) := by
  intro Z' ι' H' E sb
  have hl : (charsOf s).length = s.length := by simp [charsOf]
  refine ⟨fun i hi => by rw [hl] at hi; exact hi, fun i x hx => ?_⟩
  have hi : i < s.length := by rw [← hl]; exact (List.getElem?_eq_some_iff.mp hx).1
  refine ⟨hi, fun u H'' y => ?_⟩
  obtain ⟨rfl, c, hc, rfl⟩ := y
  have hc' : s[i]? = some c := by simpa using hc
  have ex : x = .str [c] := by
    unfold charsOf at hx
    rw [List.getElem?_map, hc'] at hx
    exact (Option.some.inj hx).symm
  subst ex
  exact .val (.str [c] ⟨by show 1 ≤ PVL.line; decide, fun d hd => by
    have : d = c := by simpa using hd
    subst this
    exact h.2 d (List.mem_of_getElem? hc')⟩) rfl
theorem walk_range {lo : Int} {n : Nat} : Walk G P Z ι H (Itr lo n) (PVL.upTo lo n) := by
  intro Z' ι' H' E sb
  have hl : (PVL.upTo lo n).length = n := by simp [PVL.upTo]
  refine ⟨fun i hi => by rw [hl] at hi; exact hi, fun i x hx => ?_⟩
  have hi : i < n := by rw [← hl]; exact (List.getElem?_eq_some_iff.mp hx).1
  refine ⟨hi, fun u H'' y => ?_⟩
  obtain ⟨rfl, rfl⟩ := y
  have ex : x = .int (lo + (i : Nat)) := by
    unfold PVL.upTo at hx
    rw [List.getElem?_map, List.getElem?_range hi] at hx
    exact (Option.some.inj hx).symm
  subst ex
  exact .val (.int _) rfl
theorem walk_down {top : Int} {n : Nat} : Walk G P Z ι H (Itc top (-1) n) (downTo top n) := by
  intro Z' ι' H' E sb
  have hl : (downTo top n).length = n := by simp [downTo]
  refine ⟨fun i hi => by rw [hl] at hi; exact hi, fun i x hx => ?_⟩
  have hi : i < n := by rw [← hl]; exact (List.getElem?_eq_some_iff.mp hx).1
  refine ⟨hi, fun u H'' y => ?_⟩
  obtain ⟨rfl, rfl⟩ := y
  have ex : x = .int (top - (i : Nat)) := by
    unfold downTo at hx
    rw [List.getElem?_map, List.getElem?_range hi] at hx
    exact (Option.some.inj hx).symm
  subst ex
  have e2 : top + (i : Int) * (-1) = top - i := by omega
  rw [e2]
  exact .val (.int _) rfl
theorem walk_enum {K : PySem.W.Frag} {a : Addr} {vs : List V} {xs : List PV} (hs : Z a ≠ none ∨ P a) (h : Rd H a (.lst vs)) (r : RVs G Z ι vs xs) : Walk G P Z ι H (Ite K a) (xs.zipIdx.map fun p => .tup [.int (p.2 : Nat), p.1]) := by
  intro Z' ι' H' E s
  have e : H' a = H a := E.k a hs
  have h' : SqL K H' a vs := .inl (by unfold Rd; rw [e]; exact h)
  have r' := r.mono E.z E.i
  refine ⟨fun i hi => ⟨vs, h', by rw [r.len]; simpa using hi⟩, fun i x hx => ?_⟩
  rw [List.getElem?_map, List.getElem?_zipIdx] at hx
  cases ex : xs[i]? with
  | none => rw [ex] at hx; cases hx
  | some y =>
    rw [ex] at hx
    obtain ⟨v, hv, rv⟩ := r'.get ex
    refine ⟨⟨vs, v, h', hv⟩, fun u H'' q => ?_⟩
    obtain ⟨T, w, rfl, hT, rfl, q⟩ := q
    have := q vs h'
    rw [hv] at this; cases this
    have e3 : x = .tup [.int (i : Nat), y] := by simpa using hx.symm
    subst e3
    exact .tup hT (.cons (.int _) (.cons rv .nil))
theorem walk_zip {K : PySem.W.Frag} {a b : Addr} {vs us : List V} {xs ys : List PV} (hs : Z a ≠ none ∨ P a) (h : Rd H a (.lst vs)) (r : RVs G Z ι vs xs) (hs2 : Z b ≠ none ∨ P b) (h2 : Rd H b (.lst us)) (r2 : RVs G Z ι us ys) : Walk G P Z ι H (Itz K a b) ((xs.zip ys).map fun p => .tup [p.1, p.2]) := by
  intro Z' ι' H' E s
  have h' : SqL K H' a vs := .inl (by unfold Rd; rw [E.k a hs]; exact h)
  have h2' : SqL K H' b us := .inl (by unfold Rd; rw [E.k b hs2]; exact h2)
  have r' := r.mono E.z E.i
  have r2' := r2.mono E.z E.i
  have l1 := r.len
  have l2 := r2.len
  refine ⟨fun i hi => ⟨vs, us, h', h2', ?_⟩, fun i x hx => ?_⟩
  · simp only [List.length_map, List.length_zip] at hi
    omega
  · rw [List.getElem?_map] at hx
    cases ex : (xs.zip ys)[i]? with
    | none => rw [ex] at hx; cases hx
    | some y =>
      rw [ex] at hx
      obtain ⟨y1, y2⟩ := y
      rw [List.getElem?_zip_eq_some] at ex
      obtain ⟨v, hv, rv⟩ := r'.get ex.1
      obtain ⟨w, hw, rw⟩ := r2'.get ex.2
      refine ⟨⟨vs, us, v, w, h', h2', hv, hw⟩, fun u H'' q => ?_⟩
      obtain ⟨T, v1, w1, rfl, hT, rfl, q1, q2⟩ := q
      have e1 := q1 vs h'
      have e2 := q2 us h2'
      rw [hv] at e1; cases e1
      rw [hw] at e2; cases e2
      have e3 : x = .tup [y1, y2] := (Option.some.inj hx).symm
      subst e3
      exact .tup hT (.cons rv (.cons rw .nil))
/-! ### dicts, locked -/
theorem RK.keyAt {kvs : List (Key × V)} {ps : List (PV × PV)} (r : RK G Z ι kvs ps) : ∀ {i : Nat} {p : PV × PV}, ps[i]? = some p → ∃ k v, kvs[i]? = some (k, v) ∧ p.1 = kP k ∧ RV G Z ι (kV k) (kP k) ∧ RV G Z ι v p.2 := by
  induction kvs generalizing ps with
  | nil => cases r; intro i p e; simp at e
  | cons q kvs ih =>
    cases r with
    | @cons k v x _ xs r hk t =>
      intro i p e
      cases i with
      | zero =>
        cases e
        refine ⟨k, v, rfl, rfl, ?_, r⟩
        cases k with
        | inl i => exact .int i
        | inr s => exact .str _ (hk s rfl)
      | succ i => exact ih t e
theorem RT.keyAt {kvs : List (List Key × V)} {ps : List (PV × PV)} (r : RT G Z ι kvs ps) : ∀ {i : Nat} {p : PV × PV}, ps[i]? = some p → ∃ k v, kvs[i]? = some (k, v) ∧ p.1 = .tup (k.map kP) ∧ RVs G Z ι (k.map kV) (k.map kP) ∧ RV G Z ι v p.2 := by
  induction kvs generalizing ps with
  | nil => cases r; intro i p e; simp at e
  | cons q kvs ih =>
    cases r with
    | @cons k v x _ xs r hk t =>
      intro i p e
      cases i with
      | zero =>
        cases e
        refine ⟨k, v, rfl, rfl, ?_, r⟩
        clear ih r t
        induction k with
        | nil => exact .nil
        | cons a k ih =>
          refine .cons ?_ (ih fun s hs => hk s (List.mem_cons_of_mem _ hs))
          cases a with
          | inl i => exact .int i
          | inr s => exact .str _ (hk s (List.mem_cons_self ..))
      | succ i => exact ih t e
theorem walk_keys {a : Addr} {o : Obj} {kvs : List (Key × V)} {ps : List (PV × PV)} (hs : Z a ≠ none ∨ P a) (h : H a = some (.frz o (.dK kvs))) (r : RK G Z ι kvs ps) : Walk G P Z ι H (Itk a o kvs) (ps.map (·.1)) := by
  intro Z' ι' H' E s
  have h' : H' a = some (.frz o (.dK kvs)) := by rw [E.k a hs]; exact h
  have r' := r.mono E.z E.i
  refine ⟨fun i hi => ⟨h', by rw [r.len]; simpa using hi⟩, fun i x hx => ?_⟩
  rw [List.getElem?_map] at hx
  cases ex : ps[i]? with
  | none => rw [ex] at hx; cases hx
  | some p =>
    rw [ex] at hx
    cases hx
    obtain ⟨k, v, e1, e2, e3, e4⟩ := r'.keyAt ex
    refine ⟨⟨h', (List.getElem?_eq_some_iff.mp e1).1⟩, fun u H'' q => ?_⟩
    obtain ⟨rfl, k2, v2, q1, rfl⟩ := q
    rw [e1] at q1; cases q1
    refine .inl ⟨fun z => by (cases z), ?_, rfl⟩
    show RV G Z' ι' (kV k) p.1
    rw [e2]
    exact e3
theorem walk_vals {a : Addr} {o : Obj} {kvs : List (Key × V)} {ps : List (PV × PV)} (hs : Z a ≠ none ∨ P a) (h : H a = some (.frz o (.dK kvs))) (r : RK G Z ι kvs ps) : Walk G P Z ι H (Itd a o kvs) (ps.map (·.2)) := by
  intro Z' ι' H' E s
  have h' : H' a = some (.frz o (.dK kvs)) := by rw [E.k a hs]; exact h
  have r' := r.mono E.z E.i
  refine ⟨fun i hi => ⟨h', by rw [r.len]; simpa using hi⟩, fun i x hx => ?_⟩
  rw [List.getElem?_map] at hx
  cases ex : ps[i]? with
  | none => rw [ex] at hx; cases hx
  | some p =>
    rw [ex] at hx
    cases hx
    obtain ⟨k, v, e1, e2, e3, e4⟩ := r'.keyAt ex
    refine ⟨⟨h', (List.getElem?_eq_some_iff.mp e1).1⟩, fun u H'' q => ?_⟩
    obtain ⟨rfl, k2, q1⟩ := q
    rw [e1] at q1; cases q1
    exact .inl ⟨fun z => by (cases z), e4, rfl⟩
theorem walk_items {a : Addr} {o : Obj} {kvs : List (Key × V)} {ps : List (PV × PV)} (hs : Z a ≠ none ∨ P a) (h : H a = some (.frz o (.dK kvs))) (r : RK G Z ι kvs ps) : Walk G P Z ι H (Iti a o kvs) (ps.map fun p => .tup [p.1, p.2]) := by
  intro Z' ι' H' E s
  have h' : H' a = some (.frz o (.dK kvs)) := by rw [E.k a hs]; exact h
  have r' := r.mono E.z E.i
  refine ⟨fun i hi => ⟨h', by rw [r.len]; simpa using hi⟩, fun i x hx => ?_⟩
  rw [List.getElem?_map] at hx
  cases ex : ps[i]? with
  | none => rw [ex] at hx; cases hx
  | some p =>
    rw [ex] at hx
    cases hx
    obtain ⟨k, v, e1, e2, e3, e4⟩ := r'.keyAt ex
    refine ⟨⟨h', (List.getElem?_eq_some_iff.mp e1).1⟩, fun u H'' q => ?_⟩
    obtain ⟨T, k2, v2, q1, rfl, hT, rfl⟩ := q
    rw [e1] at q1; cases q1
    show Nw G Z' H' ι' .fz (.tup [p.1, p.2]) _ _
    rw [e2]
    exact .tup hT (.cons e3 (.cons e4 .nil))
end
end PVS

set_option maxHeartbeats 1000000
/-! PVS: targets, for. -/
namespace PVS
open PySem L2 TL PVL
variable {X : Cx} {G : GS} {W : WX}
theorem wipe_set {i : Nat} {o : Option V} {σ : St} : ∀ {vs : List Nat}, i ∈ vs → wipe (σ.set i o) vs = wipe σ vs
  | [], h => by cases h
  | v :: vs, h => by
    unfold wipe
    by_cases e : i ∈ vs
    · rw [wipe_set e]
    · have ev : v = i := by
        rcases List.mem_cons.mp h with z | z
        · exact z.symm
        · exact absurd z e
      subst ev
      have go : ∀ (vs : List Nat) (σ : St), v ∉ vs → (wipe (σ.set v o) vs).set v none = (wipe σ vs).set v none := by
        intro vs
        induction vs with
        | nil => intro σ _; unfold wipe; rw [List.set_set]
        | cons u us ih =>
          intro σ hn
          unfold wipe
          have hu : u ≠ v := fun z => hn (by simp [z])
          rw [List.set_comm _ _ hu, List.set_comm _ _ hu, ih σ (fun z => hn (List.mem_cons_of_mem _ z))]
      exact go vs σ e
/-- a target's names -/
def TgOk (X : Cx) (G : GS) (tg : Expr) (is : List Nat) : Prop := ∃ g, PG X tg g ∧ ∀ (Z B H : Hp) (ι : List (Addr × Addr)) (ω : PVL.Store) (ρ : PVL.Env) (σ : St) (v : V) (x : PV) (ρ' : PVL.Env) (Q : St → Hp → Prop),
  Sim G Z B H ι ω ρ σ → RV G Z ι v x → assignT ρ is x = some ρ' → (∀ σ', Sim G Z B H ι ω ρ' σ' → wipe σ' is = wipe σ is → Q σ' H) → g v σ H Q
def TgsOk (X : Cx) (G : GS) (es : List Expr) (is : List Nat) : Prop := ∃ t, PGs X es t ∧ ∀ (Z B H : Hp) (ι : List (Addr × Addr)) (ω : PVL.Store) (ρ : PVL.Env) (σ : St) (vs : List V) (xs : List PV) (Q : St → Hp → Prop),
  Sim G Z B H ι ω ρ σ → RVs G Z ι vs xs → is.length = xs.length → (∀ σ', Sim G Z B H ι ω ((is.zip xs).foldl (fun ρ p => setV ρ p.1 (p.2, .fz)) ρ) σ' → (∀ js, (∀ i ∈ is, i ∈ js) → wipe σ' js = wipe σ js) → Q σ' H) → t vs σ H Q
theorem tg_name {i : Nat} {x : Str} {pos : Pos} (hN : X.N.Nodup) (hi : X.N[i]? = some x) (hx : Loc X.env.scope x) (hf : X.fn x = true ∨ X.env.scope.names.lookup x = some .local) : TgOk X G (.Name x pos) [i] := by
  refine ⟨gName i, pg_name hN hi hx hf, fun Z B H ι ω ρ σ v x ρ' Q S r e k => ?_⟩
  have e' : ρ' = setV ρ i (x, .fz) := (Option.some.inj e).symm
  subst e'
  exact k _ (S.setS' r) (wipe_set (by simp))
theorem tgs_nil : TgsOk X G [] [] := ⟨gNil, pgs_nil, fun Z B H ι ω ρ σ vs xs Q S r hl k => by
  cases xs with
  | nil => cases r; exact ⟨rfl, k σ S fun _ _ => rfl⟩
  | cons x xs => simp at hl⟩
theorem tgs_cons {i : Nat} {x : Str} {pos : Pos} {es : List Expr} {is : List Nat} (hN : X.N.Nodup) (hi : X.N[i]? = some x) (hx : Loc X.env.scope x) (hf : X.fn x = true ∨ X.env.scope.names.lookup x = some .local) (h : TgsOk X G es is)
    (hs : (assignEach (.Name x pos :: es) X.env).map (·.2) = assign (.Name x pos) X.env :: (assignEach es X.env).map (·.2)) : TgsOk X G (.Name x pos :: es) (i :: is) := by
  obtain ⟨t, h1, h2⟩ := h
  refine ⟨gCons (gName i) t, pgs_cons (pg_name hN hi hx hf) h1 hs, fun Z B H ι ω ρ σ vs xs Q S r hl k => ?_⟩
  cases xs with
  | nil => simp at hl
  | cons y xs =>
    cases r with
    | @cons v _ vs _ r rr =>
      refine ⟨v, vs, rfl, ?_⟩
      refine h2 Z B H ι ω (setV ρ i (y, .fz)) (σ.set i (some v)) vs xs Q (S.setS' r) rr (by simpa using hl) fun σ' S' w => ?_
      exact k σ' S' fun js hj => by
        rw [w js fun j hjm => hj j (List.mem_cons_of_mem _ hjm)]
        exact wipe_set (hj i (List.mem_cons_self ..))
theorem tg_tup {es : List Expr} {is : List Nat} {k : Nat} {pos : Pos} (hc : X.calm = true) (h : TgsOk X G es is) (hl : 2 ≤ is.length)
    (hn : (assignEach es X.env).length = is.length) (hst : (assignEach es X.env).findIdx? (·.1) = none) : TgOk X G (.Tuple es k pos) is := by
  obtain ⟨t, h1, h2⟩ := h
  refine ⟨gTup X.K is.length t, pg_tup hc h1 hn hst, fun Z B H ι ω ρ σ v x ρ' Q S r e kk => ?_⟩
  have e' : ∃ xs, x = .tup xs ∧ is.length = xs.length ∧ ρ' = (is.zip xs).foldl (fun ρ p => setV ρ p.1 (p.2, .fz)) ρ := by
    unfold assignT at e
    split at e
    · simp at hl
    · split at e
      · rename_i hxs
        exact ⟨_, rfl, hxs, (Option.some.inj e).symm⟩
      · cases e
    · cases e
  obtain ⟨xs, rfl, hlen, rfl⟩ := e'
  cases r with
  | @tup a vs _ hz rr =>
    refine ⟨a, vs, rfl, SqT.of (S.zH.tup hz), by rw [rr.len, hlen], ?_⟩
    exact h2 Z B H ι ω ρ σ vs xs Q S rr hlen fun σ' S' w => kk σ' S' (w is fun _ h => h)

variable (G W) in
/-- what is walked -/
def tI (safe : Bool) (it : PVL.It) : TI := fun σ H R => ∃ Z B ι ω ρ, Sim G Z B H ι ω ρ σ ∧
  RP (evI safe it ρ ω) (fun xs ω' => ∀ J H' Z' ι', Ext Z Z' (PO B ρ σ) ι ι' H H' → Sim G Z' B H' ι' ω' ρ σ → Walk G (if safe = true then PB B else PO B ρ σ) Z' ι' H' J xs → R J H') (QX G W Z B H ι ρ σ)
theorem PI.imp {tg iter : Expr} {t t' : TI} (h : PI X tg iter t) (i : ∀ σ H R, t' σ H R → t σ H R) : PI X tg iter t' := ⟨fun pins s σ H R I q => h.run pins s σ H R I (i σ H R q)⟩
theorem PI.or {tg iter : Expr} {t t' : TI} (h : PI X tg iter t) (h' : PI X tg iter t') : PI X tg iter (fun σ H R => t σ H R ∨ t' σ H R) := ⟨fun pins s σ H R I q => q.elim (h.run pins s σ H R I) (h'.run pins s σ H R I)⟩
theorem PS.or {st : Stmt} {t t' : TS} (h : PS X st t) (h' : PS X st t') : PS X st (fun D σ H => t D σ H ∨ t' D σ H) := ⟨fun pins s σ H D I q => q.elim (h.run pins s σ H D I) (h'.run pins s σ H D I)⟩
theorem PE.or {e : Expr} {t t' : TE} (h : PE X e t) (h' : PE X e t') : PE X e (fun σ H Q => t σ H Q ∨ t' σ H Q) := ⟨fun pins s σ H Q I q => q.elim (h.run pins s σ H Q I) (h'.run pins s σ H Q I)⟩
/-- for, over what is walked -/
theorem for_read {is : List Nat} {ib : Ss} {g : TG} {Z B H : Hp} {ι : List (Addr × Addr)} {ω : PVL.Store} {ρ : PVL.Env} {σ : St} {D : Ends} (S : Sim G Z B H ι ω ρ σ)
    (hg : ∀ (Z B H : Hp) (ι : List (Addr × Addr)) (ω : PVL.Store) (ρ : PVL.Env) (σ : St) (v : V) (x : PV) (ρ' : PVL.Env) (Q : St → Hp → Prop), Sim G Z B H ι ω ρ σ → RV G Z ι v x → assignT ρ is x = some ρ' → (∀ σ', Sim G Z B H ι ω ρ' σ' → wipe σ' is = wipe σ is → Q σ' H) → g v σ H Q)
    {xs : List PV} {J : L2.It} (w : Walk G (PB B) Z ι H J xs) (h : FP G W (forL (exs ib) is xs ρ ω) Z B H ι D) :
    ∃ Wv : Nat → Nat → St → Hp → Prop, (∃ m, Wv 0 m σ H) ∧ ∀ i m σ H, Wv i m σ H →
      (J.stop i H ∧ D.nx σ H) ∨ (J.go i H ∧ ∃ N : St → Hp → Prop, (∀ σ' H', N σ' H' → ∃ m', m' < m ∧ Wv (i + 1) m' σ' H') ∧ ∀ x H', J.yld i H x H' → g x σ H' fun σ2 H2 => tSs G W ib { D with nx := N, ct := N, bk := D.nx } σ2 H2) := by
  refine ⟨fun i m σ' H' => m = xs.length - i ∧ i ≤ xs.length ∧ ∃ Z' ι' ω' ρ', Ext Z Z' (PB B) ι ι' H H' ∧ Sim G Z' B H' ι' ω' ρ' σ' ∧ FP G W (forL (exs ib) is (xs.drop i) ρ' ω') Z' B H' ι' D,
    ⟨xs.length, by simp, Nat.zero_le _, Z, ι, ω, ρ, Ext.refl, S, h⟩, ?_⟩
  rintro i m σ1 H1 ⟨rfl, hi, Z1, ι1, ω1, ρ1, E1, S1, h1⟩
  obtain ⟨ws, wg⟩ := w Z1 ι1 H1 E1 S1.zH
  by_cases hlt : i < xs.length
  · obtain ⟨x, hx⟩ : ∃ x, xs[i]? = some x := ⟨xs[i], List.getElem?_eq_getElem hlt⟩
    have hd : xs.drop i = x :: xs.drop (i + 1) := by
      rw [List.drop_eq_getElem_cons hlt]
      rw [List.getElem?_eq_getElem hlt] at hx
      cases hx; rfl
    obtain ⟨w1, w2⟩ := wg i x hx
    refine .inr ⟨w1, fun σ' H' => ∃ Z' ι' ω' ρ', Ext Z Z' (PB B) ι ι' H H' ∧ Sim G Z' B H' ι' ω' ρ' σ' ∧ FP G W (forL (exs ib) is (xs.drop (i + 1)) ρ' ω') Z' B H' ι' D, fun σ' H' q => ⟨xs.length - (i + 1), by omega, rfl, hlt, q⟩, fun v H2 y => ?_⟩
    obtain ⟨Z2, E2, S2, o2, _⟩ := (w2 v H2 y).fin S1 (.inr rfl)
    have r2 : RV G Z2 ι1 v x := by
      have em : (mk x .fz).2 = .fz := by unfold mk; cases isC x <;> rfl
      have o2 : OkV G Z2 B H2 ι1 ω1 ρ1 σ1 v x (mk x .fz).2 := o2
      rw [em] at o2; exact o2
    rw [hd] at h1
    unfold forL at h1
    cases ea : assignT ρ1 is x with
    | none => rw [ea] at h1; exact h1.elim
    | some ρ2 =>
      rw [ea] at h1
      refine hg Z2 B H2 ι1 ω1 ρ1 σ1 v x ρ2 _ S2 r2 ea fun σ2 S3 _ => ?_
      refine ⟨Z2, B, ι1, ω1, ρ2, S3, ?_⟩
      have E12 := E1.trans E2.pb
      have h1 : FP G W (match exs ib ρ2 ω1 with
        | .nx ρ ω => forL (exs ib) is (xs.drop (i + 1)) ρ ω
        | .ct ρ ω => forL (exs ib) is (xs.drop (i + 1)) ρ ω
        | .bk ρ ω => .nx ρ ω
        | r => r) Z1 B H1 ι1 D := h1
      cases e : exs ib ρ2 ω1 with
      | nx ρ3 ω3 => rw [e] at h1; exact fun H3 Z3 ι3 σ3 E3 S3 => ⟨Z3, ι3, ω3, ρ3, E12.trans E3, S3, h1.on (E2.pb.trans E3)⟩
      | ct ρ3 ω3 => rw [e] at h1; exact fun H3 Z3 ι3 σ3 E3 S3 => ⟨Z3, ι3, ω3, ρ3, E12.trans E3, S3, h1.on (E2.pb.trans E3)⟩
      | bk ρ3 ω3 => rw [e] at h1; exact fun H3 Z3 ι3 σ3 E3 S3 => h1 H3 Z3 ι3 σ3 (E2.pb.trans E3) S3
      | rt r ω3 => rw [e] at h1; exact fun v H3 Z3 ι3 E3 => h1 v H3 Z3 ι3 (E2.pb.trans E3)
      | exc c ys ρ3 ω3 => rw [e] at h1; exact fun cls d H3 Z3 ι3 σ3 E3 => h1 cls d H3 Z3 ι3 σ3 (E2.pb.trans E3)
      | bad => rw [e] at h1; exact h1.elim
  · have ei : i = xs.length := by omega
    subst ei
    refine .inl ⟨ws _ (Nat.le_refl _), ?_⟩
    rw [List.drop_length] at h1
    exact h1 H1 Z1 ι1 σ1 Ext.refl S1
theorem sp_for {tg iter : Expr} {body : List Stmt} {it : PVL.It} {is : List Nat} {ib : Ss} {pos : Pos} (hp : PassesOwn (model X.prog X.w) X.A X.env X.xe) (hc : X.calm = true) (hi : PI X tg iter (tI G W true it)) (hg : TgOk X G tg is) (hb : PSs X body (tSs G W ib))
    (hs : ∀ x, foldedSetIterable iter X.env x = pure x) : PS X (.For tg iter body [] pos) (fun D σ H => ∃ Z B ι ω ρ, Sim G Z B H ι ω ρ σ ∧ FP G W ((evI true it ρ ω).to ρ fun xs ω => forL (exs ib) is xs ρ ω) Z B H ι D) := by
  obtain ⟨g, g1, g2⟩ := hg
  refine PS.imp (ps_for hp hc hi g1 hb hs) fun D σ H h => ?_
  obtain ⟨Z, B, ι, ω, ρ, S, h⟩ := h
  refine ⟨Z, B, ι, ω, ρ, S, h.to.mono (fun xs ω1 h1 J H1 Z1 ι1 E1 S1 w => ?_) fun _ _ _ q => q⟩
  exact for_read S1 g2 w (h1.on E1.pb)

/-! ### what is walked -/
theorem RV.st {Z H : Hp} {ι : List (Addr × Addr)} (s : Sub Z H) {v : V} {x : PV} (h : RV G Z ι v x) (hc : isC x = true) : ∃ a u, v = .ref a ∧ Z a ≠ none ∧ Rd H a u ∧ RO G Z ι u x := by
  cases h with
  | lst h r => exact ⟨_, _, rfl, by rcases h with h | ⟨o, h⟩ <;> rw [h] <;> simp, s.rdl h, .lst r⟩
  | dK h r => exact ⟨_, _, rfl, by rw [h]; simp, (s _ _ h).rd, .dK r⟩
  | dT h r e => exact ⟨_, _, rfl, by rw [h]; simp, (s _ _ h).rd, .dT r e⟩
  | _ => cases hc
/-- a container that stands while it is walked -/
theorem OkV.st {Z B H : Hp} {ι : List (Addr × Addr)} {ω : PVL.Store} {ρ : PVL.Env} {σ : St} (S : Sim G Z B H ι ω ρ σ) {v : V} {x : PV} {m : Md} {safe : Bool} (o : OkV G Z B H ι ω ρ σ v x m) (hm : (safe && m == .lv) = false) (hc : isC x = true) :
    ∃ Z', Ext Z Z' (PO B ρ σ) ι ι H H ∧ Sim G Z' B H ι ω ρ σ ∧ ∃ a u, v = .ref a ∧ (Z' a ≠ none ∨ (if safe = true then PB B else PO B ρ σ) a) ∧ Rd H a u ∧ RO G Z' ι u x := by
  have base : ∀ {a : Addr}, B a ≠ none → (if safe = true then PB B else PO B ρ σ) a := fun h => by
    cases safe
    · exact .inl h
    · exact h
  cases m with
  | own =>
    obtain ⟨Z', E, S', _, r⟩ := o.settle S
    obtain ⟨a, u, e, h1, h2, h3⟩ := (r (.inl rfl)).st S'.zH hc
    exact ⟨Z', E, S', a, u, e, .inl h1, h2, h3⟩
  | fz =>
    obtain ⟨a, u, e, h1, h2, h3⟩ := RV.st S.zH o hc
    exact ⟨Z, Ext.refl, S, a, u, e, .inl h1, h2, h3⟩
  | br =>
    rcases o with h | ⟨a, u, rfl, h2, h3⟩
    · obtain ⟨a, u, e, h1, h2, h3⟩ := RV.st S.zH h hc
      exact ⟨Z, Ext.refl, S, a, u, e, .inl h1, h2, h3⟩
    · exact ⟨Z, Ext.refl, S, a, u, rfl, .inr (base (by rw [h2]; simp)), (S.bH a u h2).rd, h3⟩
  | lv =>
    cases safe with
    | true => cases hm
    | false =>
      obtain ⟨i, a, h1, h2, rfl⟩ := o
      obtain ⟨v, e1, b, u, rfl, e3, e4⟩ := S.sl i x .own h1
      rw [h2] at e1; cases e1
      exact ⟨Z, Ext.refl, S, a, u, rfl, .inr (.inr ⟨i, x, h1, h2⟩), .inl e3, e4⟩
end PVS

set_option maxHeartbeats 1000000
/-! PVS: what is walked, form by form; dicts. -/
namespace PVS
open PySem L2 TL PVL
variable {X : Cx} {G : GS} {W : WX}
theorem FP.uncalm {f : PVL.F} {b : Bool} {Z B H : Hp} {ι : List (Addr × Addr)} {D : Ends} (h : FP G W (f.calm b) Z B H ι D) : FP G W f Z B H ι D ∧ (b = true → ∀ c xs ρ ω, f ≠ .exc c xs ρ ω) := by
  cases f with
  | exc c xs ρ ω =>
    cases b with
    | true => exact h.elim
    | false => exact ⟨h, fun z => by cases z⟩
  | _ => exact ⟨h, fun _ _ _ _ _ z => by cases z⟩
theorem sp_forN {tg iter : Expr} {body : List Stmt} {it : PVL.It} {is : List Nat} {ib : Ss} {pos : Pos} (hp : PassesOwn (model X.prog X.w) X.A X.env X.xe) (hc : X.calm = true) (hi : PI X tg iter (tI G W true it)) (hg : TgOk X G tg is) (hb : PSs X body (tSs G W ib))
    (hs : ∀ x, foldedSetIterable iter X.env x = pure x) : PS X (.For tg iter body [] pos) (tS G W (.for_ is it ib)) := by
  refine PS.imp (sp_for hp hc hi hg hb hs) fun D σ H h => ?_
  obtain ⟨Z, B, ι, ω, ρ, S, h⟩ := h
  unfold ex at h
  exact ⟨Z, B, ι, ω, ρ, S, h.uncalm.1⟩
theorem si_val {tg e : Expr} {ie : E} {safe : Bool} (he : PE X e (tE G W ie)) : PI X tg e (fun σ H R => ∃ Z B ι ω ρ, Sim G Z B H ι ω ρ σ ∧ (∀ x m ω', ev ie ρ ω = .ok (x, m) ω' → ∀ kvs, x ≠ .dic kvs) ∧
    RP (evI safe (.val ie) ρ ω) (fun xs ω' => ∀ J H' Z' ι', Ext Z Z' (PO B ρ σ) ι ι' H H' → Sim G Z' B H' ι' ω' ρ σ → Walk G (if safe = true then PB B else PO B ρ σ) Z' ι' H' J xs → R J H') (QX G W Z B H ι ρ σ)) := by
  refine PI.imp (PI.or (pi_list he) (PI.or (pi_tup he) (pi_str he))) fun σ H R h => ?_
  obtain ⟨Z, B, ι, ω, ρ, S, nd, h⟩ := h
  unfold evI at h
  have h := h.bind
  cases er : ev ie ρ ω with
  | bad => rw [er] at h; exact h.elim
  | exc c xs ω' =>
    rw [er] at h
    exact .inl ⟨Z, B, ι, ω, ρ, S, by rw [er]; exact h⟩
  | ok r ω1 =>
    obtain ⟨x, m⟩ := r
    rw [er] at h
    have h0 : RP (if (safe && m == .lv || isD x && !isVar ie) = true then PVL.R.bad else match itemsOf x with | some xs => PVL.R.ok xs ω1 | none => .bad) _ _ := h
    clear h
    split at h0
    · exact h0.elim
    · rename_i hm
      have hm2 : (safe && m == .lv) = false := by
        cases q : (safe && m == .lv) with
        | false => rfl
        | true => rw [q] at hm; simp at hm
      have h := h0
      clear h0
      cases x <;> try exact h.elim
      · rename_i s
        refine .inr (.inr ⟨Z, B, ι, ω, ρ, S, ?_⟩)
        rw [er]
        intro v H1 Z1 ι1 E1 S1 o1 _
        obtain ⟨Z2, E2, S2, l2, _⟩ := o1.settle S1
        obtain ⟨rfl, hs⟩ := (l2.rh S2).str
        exact ⟨_, rfl, h _ H1 Z1 ι1 E1 S1 (walk_str hs)⟩
      · rename_i xs
        refine .inr (.inl ⟨Z, B, ι, ω, ρ, S, ?_⟩)
        rw [er]
        intro v H1 Z1 ι1 E1 S1 o1 _
        obtain ⟨Z2, E2, S2, l2, _⟩ := o1.settle S1
        obtain ⟨a, vs, rfl, hz, r⟩ : ∃ a vs, v = .ref a ∧ Z2 a = some (.tup vs) ∧ RVs G Z2 ι1 vs xs := by
          have := Lv.rv S2 l2 rfl
          cases this with
          | tup hz r => exact ⟨_, _, rfl, hz, r⟩
        exact ⟨a, rfl, ⟨vs, SqT.of (S2.zH.tup hz)⟩, h _ H1 Z2 ι1 (E1.trans E2) S2 (walk_tup hz r)⟩
      · rename_i xs
        refine .inl ⟨Z, B, ι, ω, ρ, S, ?_⟩
        rw [er]
        intro v H1 Z1 ι1 E1 S1 o1 _
        obtain ⟨Z2, E2, S2, a, u, rfl, st, hr, ro⟩ := o1.st S1 hm2 rfl
        cases ro with
        | lst r => exact ⟨a, rfl, ⟨_, .inl hr⟩, h _ H1 Z2 ι1 (E1.trans E2) S2 (walk_list st hr r)⟩
      · rename_i kvs
        exact absurd rfl (nd _ _ _ er kvs)
/-- over a value that is no name's -/
theorem si_valE {tg e : Expr} {ie : E} {safe : Bool} (he : PE X e (tE G W ie)) (hv : isVar ie = false) : PI X tg e (tI G W safe (.val ie)) := by
  refine PI.imp (si_val (safe := safe) he) fun σ H R h => ?_
  obtain ⟨Z, B, ι, ω, ρ, S, h⟩ := h
  refine ⟨Z, B, ι, ω, ρ, S, fun x m ω' q kvs z => ?_, h⟩
  subst z
  unfold evI at h
  rw [q] at h
  have h : RP (if (safe && m == .lv || isD (.dic kvs) && !isVar ie) = true then PVL.R.bad else _) _ _ := h
  rw [hv, if_pos (by simp [isD])] at h
  exact h
theorem small_of {i : Int} (h : small i = true) : -(2 ^ 62) ≤ i ∧ i < 2 ^ 62 := by unfold small at h; simpa using h
theorem si_rng1 {tg a : Expr} {ia : E} {p pos : Pos} {safe : Bool} (hg : Gl X "range") (hm : X.mg "range" = none) (ha : PE X a (tE G W ia)) (hs : starEach [a] X.env = [(false, eval a X.env)]) : PI X tg (.Call (.Name "range" p) [a] [] pos) (tI G W safe (.rng1 ia)) := by
  refine PI.imp (pi_range1 hg hm (pa_cons ha pa_nil hs) hs) fun σ H R h => ?_
  obtain ⟨Z, B, ι, ω, ρ, S, h⟩ := h
  unfold evI at h
  refine tE.next S h.bind fun x ω1 h1 v H1 Z1 ι1 E1 S1 l1 r1 p1 => ?_
  obtain ⟨y, m⟩ := x
  cases y <;> try exact h1.elim
  rename_i j
  have h1 : RP (if small j = true then PVL.R.ok (PVL.upTo 0 j.toNat) ω1 else .bad) _ _ := h1
  split at h1
  · rename_i hj
    rw [(l1.rh S1).int]
    exact ⟨j, rfl, (small_of hj).1, (small_of hj).2, h1 _ H1 Z1 ι1 E1 S1 walk_range⟩
  · exact h1.elim
theorem si_rng2 {tg a b : Expr} {ia ib : E} {p pos : Pos} {safe : Bool} (hg : Gl X "range") (hm : X.mg "range" = none) (ha : PE X a (tE G W ia)) (hb : PE X b (tE G W ib)) (hs : starEach [a, b] X.env = [(false, eval a X.env), (false, eval b X.env)]) (hs2 : starEach [b] X.env = [(false, eval b X.env)]) : PI X tg (.Call (.Name "range" p) [a, b] [] pos) (tI G W safe (.rng2 ia ib)) := by
  refine PI.imp (pi_range2 hg hm (pa_cons ha (pa_cons hb pa_nil hs2) (by rw [hs, hs2])) hs hs2) fun σ H R h => ?_
  obtain ⟨Z, B, ι, ω, ρ, S, h⟩ := h
  unfold evI at h
  refine tE.next S h.bind fun x ω1 h1 v H1 Z1 ι1 E1 S1 l1 r1 p1 => ?_
  refine tE.next S1 (h1.bind.mono (fun _ _ q => q) fun _ _ _ q => q.on E1) fun y ω2 h2 u H2 Z2 ι2 E2 S2 l2 r2 p2 => ?_
  obtain ⟨x, m⟩ := x
  obtain ⟨y, m2⟩ := y
  cases x <;> try exact h2.elim
  cases y <;> try exact h2.elim
  rename_i i j
  have h2 : RP (if (small i && small j) = true then PVL.R.ok (PVL.upTo i (j - i).toNat) ω2 else .bad) _ _ := h2
  split at h2
  · rename_i hj
    rw [Bool.and_eq_true] at hj
    rw [(l1.rh S1).int, (l2.rh S2).int]
    exact ⟨i, j, rfl, ⟨(small_of hj.1).1, (small_of hj.1).2, (small_of hj.2).1, (small_of hj.2).2⟩, h2 _ H2 Z2 ι2 (E1.trans E2) S2 walk_range⟩
  · exact h2.elim
theorem si_rngD {tg a b c : Expr} {ia ib : E} {p pos : Pos} {safe : Bool} (hg : Gl X "range") (hm : X.mg "range" = none) (ha : PE X a (tE G W ia)) (hb : PE X b (tE G W ib)) (hc : PE X c (tE G W (.neg (.con (.int 1))))) (hs : starEach [a, b, c] X.env = (false, eval a X.env) :: starEach [b, c] X.env) (hs2 : starEach [b, c] X.env = (false, eval b X.env) :: starEach [c] X.env) (hs3 : starEach [c] X.env = (false, eval c X.env) :: starEach [] X.env)
    (hpl : (backTo pos (starEach [b, c] X.env)).any (·.1) = false) : PI X tg (.Call (.Name "range" p) [a, b, c] [] pos) (tI G W safe (.rngD ia ib)) := by
  refine PI.imp (pi_range3 hg hm (pa_cons ha (pa_cons hb (pa_cons hc pa_nil hs3) hs2) hs) hs hpl) fun σ H R h => ?_
  obtain ⟨Z, B, ι, ω, ρ, S, h⟩ := h
  unfold evI at h
  refine tE.next S h.bind fun x ω1 h1 v H1 Z1 ι1 E1 S1 l1 r1 p1 => ?_
  refine tE.next S1 (h1.bind.mono (fun _ _ q => q) fun _ _ _ q => q.on E1) fun y ω2 h2 u H2 Z2 ι2 E2 S2 l2 r2 p2 => ?_
  refine tE.next (k := fun r ω' => r = (.int (-1), .fz) ∧ ω' = ω2) S2 (by unfold ev ev; exact ⟨rfl, rfl⟩) fun z ω3 h3 w H3 Z3 ι3 E3 S3 l3 r3 p3 => ?_
  obtain ⟨rfl, rfl⟩ := h3
  obtain ⟨x, m⟩ := x
  obtain ⟨y, m2⟩ := y
  cases x <;> try exact h2.elim
  cases y <;> try exact h2.elim
  rename_i i j
  have h2 : RP (if (small i && small j) = true then PVL.R.ok (downTo i (i - j).toNat) ω3 else .bad) _ _ := h2
  split at h2
  · rename_i hj
    rw [Bool.and_eq_true] at hj
    rw [(l1.rh S1).int, (l2.rh S2).int, (l3.rh S3).int]
    exact ⟨i, j, -1, (i - j).toNat, rfl, RgC.neg (small_of hj.1).1 (small_of hj.1).2 (small_of hj.2).1 (small_of hj.2).2, h2 _ H3 Z3 ι3 ((E1.trans E2).trans E3) S3 walk_down⟩
  · exact h2.elim
theorem si_enum {e : Expr} {ie : E} {p pos tpos : Pos} {elts : List Expr} {kk : Nat} {safe : Bool} (hg : Gl X "enumerate") (hm : X.mg "enumerate" = none) (he : PE X e (tE G W ie)) (hs : starEach [e] X.env = [(false, eval e X.env)]) : PI X (.Tuple elts kk tpos) (.Call (.Name "enumerate" p) [e] [] pos) (tI G W safe (.enum ie)) := by
  refine PI.imp (pi_enum hg hm (pa_cons he pa_nil hs) hs) fun σ H R h => ?_
  obtain ⟨Z, B, ι, ω, ρ, S, h⟩ := h
  unfold evI at h
  refine ⟨Z, B, ι, ω, ρ, S, h.bind.mono (fun x ω1 h1 v H1 Z1 ι1 E1 S1 o1 p1 => ?_) fun _ _ _ q => q⟩
  obtain ⟨x, m⟩ := x
  have h1 : RP (if (safe && m == .lv) = true then PVL.R.bad else match x with | .lst xs => PVL.R.ok (xs.zipIdx.map fun p => PV.tup [.int (p.2 : Nat), p.1]) ω1 | _ => .bad) _ _ := h1
  split at h1
  · exact h1.elim
  · rename_i hm
    cases x <;> try exact h1.elim
    obtain ⟨Z2, E2, S2, a, u, rfl, st, hr, ro⟩ := o1.st S1 (by simpa using hm) rfl
    cases ro with
    | lst r => exact ⟨a, _, rfl, .inl hr, h1 _ H1 Z2 ι1 (E1.trans E2) S2 (walk_enum st hr r)⟩
theorem si_rev {tg e : Expr} {ie : E} {p pos : Pos} {safe : Bool} (hg : Gl X "reversed") (hm : X.mg "reversed" = none) (he : PE X e (tE G W ie)) (hs : starEach [e] X.env = [(false, eval e X.env)]) : PI X tg (.Call (.Name "reversed" p) [e] [] pos) (tI G W safe (.rev ie)) := by
  refine PI.imp (pi_reversed hg hm (pa_cons he pa_nil hs) hs) fun σ H R h => ?_
  obtain ⟨Z, B, ι, ω, ρ, S, h⟩ := h
  unfold evI at h
  refine ⟨Z, B, ι, ω, ρ, S, h.bind.mono (fun x ω1 h1 v H1 Z1 ι1 E1 S1 o1 p1 => ?_) fun _ _ _ q => q⟩
  obtain ⟨x, m⟩ := x
  have h1 : RP (if (safe && m == .lv) = true then PVL.R.bad else match x with | .lst xs => PVL.R.ok xs.reverse ω1 | _ => .bad) _ _ := h1
  split at h1
  · exact h1.elim
  · rename_i hm
    cases x <;> try exact h1.elim
    obtain ⟨Z2, E2, S2, a, u, rfl, st, hr, ro⟩ := o1.st S1 (by simpa using hm) rfl
    cases ro with
    | lst r => exact ⟨a, _, rfl, .inl hr, h1 _ H1 Z2 ι1 (E1.trans E2) S2 (walk_rev st hr r)⟩
/-! ### dicts -/
/-- what is seen of the heap is as it was -/
theorem Sim.swap {Z B H H' : Hp} {ι : List (Addr × Addr)} {ω : PVL.Store} {ρ : PVL.Env} {σ : St} (S : Sim G Z B H ι ω ρ σ) (zH : Sub Z H') (bH : Sub B H') (e : ∀ k a, owA G H ι ω ρ σ k a → H' a = H a) : Sim G Z B H' ι ω ρ σ := by
  have oc : ∀ {k a}, owA G H' ι ω ρ σ k a ↔ owA G H ι ω ρ σ k a := owA_congr fun n b dx h => e (.ins n) b ⟨dx, h⟩
  refine ⟨zH, bH, S.iL, fun n r en => ?_, fun i x m h => ?_, S.len, fun k k' a h h' => S.inj k k' a (oc.mp h) (oc.mp h'), fun k a h => S.zno k a (oc.mp h), S.zb⟩
  · obtain ⟨b, dx, fs, h1, h2, h3, h4⟩ := S.ob n r en
    refine ⟨b, dx, fs, h1, by rw [e (.ins n) b ⟨dx, h1⟩]; exact h2, by rw [e (.dct n) dx ⟨b, h1⟩]; exact h3, h4.imp (Same.refl _) (List.prefix_refl _) fun j f x nm a o q1 q2 q3 q4 => ?_⟩
    rw [e (.fld n j) a ⟨b, dx, _, fs, nm, r, f, x, h1, h2, q2, en, q1, q3⟩]
    exact q4
  · obtain ⟨v, h1, h2⟩ := S.sl i x m h
    refine ⟨v, h1, ?_⟩
    cases m with
    | own =>
      obtain ⟨a, o, rfl, h3, h4⟩ := h2
      exact ⟨a, o, rfl, by rw [e (.slot i) a ⟨⟨x, h⟩, h1⟩]; exact h3, h4⟩
    | fz => exact h2
    | br => exact h2
    | lv => exact h2
theorem Sub.lock {Z H : Hp} (s : Sub Z H) {d : Addr} {u : HO} {od : Obj} (hd : H d = some u) (mu : Mut (some u)) : Sub Z (upd H d (.frz od u)) := fun a w e => by
  by_cases ha : a = d
  · subst ha
    rcases s a w e with q | ⟨_, o, q⟩
    · rw [hd] at q; cases q
      exact .inr ⟨mu, od, upd_same⟩
    · rw [hd] at q; cases q; exact mu.elim
  · rcases s a w e with q | ⟨m, o, q⟩
    · exact .inl (by rw [upd_ne ha]; exact q)
    · exact .inr ⟨m, o, by rw [upd_ne ha]; exact q⟩
theorem Sub.unlock {Z H : Hp} (s : Sub Z H) {d : Addr} {u : HO} {od : Obj} (hd : H d = some (.frz od u)) (hz : ∀ w, Z d = some w → w = u) : Sub Z (upd H d u) := fun a w e => by
  by_cases ha : a = d
  · subst ha
    rw [hz w e]
    exact .inl upd_same
  · rcases s a w e with q | ⟨m, o, q⟩
    · exact .inl (by rw [upd_ne ha]; exact q)
    · exact .inr ⟨m, o, by rw [upd_ne ha]; exact q⟩
/-- the statement within the lock -/
theorem FP.lock {Z B H : Hp} {ι : List (Addr × Addr)} {ω : PVL.Store} {ρ : PVL.Env} {σ : St} (S : Sim G Z B H ι ω ρ σ) {d : Addr} {u : HO} {od : Obj} {D : Ends} (hd : H d = some u) (mu : Mut (some u)) (st : Z d ≠ none ∨ PB B d) {f : PVL.F} (hx : ∀ c xs ρ ω, f ≠ .exc c xs ρ ω) (h : FP G W f Z B H ι D) :
    FP G W f Z B (upd H d (.frz od u)) ι ⟨fun σ' H' => H' d = some (.frz od u) ∧ D.nx σ' (upd H' d u), fun v H' => H' d = some (.frz od u) ∧ D.rt v (upd H' d u), fun σ' H' => H' d = some (.frz od u) ∧ D.bk σ' (upd H' d u), fun σ' H' => H' d = some (.frz od u) ∧ D.ct σ' (upd H' d u)⟩ := by
  have z1 : ∀ w, Z d = some w → w = u := fun w e => by
    rcases S.zH d w e with q | ⟨_, o, q⟩
    · rw [hd] at q; cases q; rfl
    · rw [hd] at q; cases q; exact mu.elim
  have b1 : ∀ w, B d = some w → w = u := fun w e => by
    rcases S.bH d w e with q | ⟨_, o, q⟩
    · rw [hd] at q; cases q; rfl
    · rw [hd] at q; cases q; exact mu.elim
  -- what is known behind
  have beh : ∀ {H' Z' : Hp} {ι' : List (Addr × Addr)} {ω' : PVL.Store} {ρ' : PVL.Env} {σ' : St}, Ext Z Z' (PB B) ι ι' (upd H d (.frz od u)) H' → Sim G Z' B H' ι' ω' ρ' σ' →
      H' d = some (.frz od u) ∧ Ext Z Z' (PB B) ι ι' H (upd H' d u) ∧ Sim G Z' B (upd H' d u) ι' ω' ρ' σ' := fun {H' Z' ι' ω' ρ' σ'} E S' => by
    have hd' : H' d = some (.frz od u) := by rw [E.k d st]; exact upd_same
    have z2 : ∀ w, Z' d = some w → w = u := fun w e => by
      rcases st with q | q
      · cases e2 : Z d with
        | none => exact absurd e2 q
        | some w2 =>
          have := E.z d w2 e2
          rw [e] at this; cases this
          exact z1 _ e2
      · cases e2 : B d with
        | none => exact absurd e2 q
        | some w2 =>
          have := S'.zb d w2 e2
          rw [e] at this; cases this
    have own : ∀ k a, owA G H' ι' ω' ρ' σ' k a → upd H' d u a = H' a := fun k a q => upd_ne fun z => by
      subst z
      obtain ⟨n1, n2⟩ := S'.zno k a q
      rcases st with q | q
      · cases e2 : Z a with
        | none => exact absurd e2 q
        | some w2 => rw [E.z a w2 e2] at n1; cases n1
      · exact q n2
    refine ⟨hd', ⟨E.z, E.i, fun a ha => ?_⟩, S'.swap (Sub.unlock S'.zH hd' z2) (Sub.unlock S'.bH hd' b1) own⟩
    by_cases e : a = d
    · subst e; rw [upd_same, hd]
    · rw [upd_ne e, E.k a ha, upd_ne e]
  cases f with
  | nx ρ' ω' => exact fun H' Z' ι' σ' E S' => let ⟨q1, q2, q3⟩ := beh E S'; ⟨q1, h _ Z' ι' σ' q2 q3⟩
  | bk ρ' ω' => exact fun H' Z' ι' σ' E S' => let ⟨q1, q2, q3⟩ := beh E S'; ⟨q1, h _ Z' ι' σ' q2 q3⟩
  | ct ρ' ω' => exact fun H' Z' ι' σ' E S' => let ⟨q1, q2, q3⟩ := beh E S'; ⟨q1, h _ Z' ι' σ' q2 q3⟩
  | rt r ω' =>
    intro v H' Z' ι' E S' o
    obtain ⟨q1, q2, q3⟩ := beh E S'
    refine ⟨q1, h v _ Z' ι' q2 q3 ?_⟩
    obtain ⟨x, m⟩ := r
    cases m with
    | own =>
      obtain ⟨a, w, rfl, h1, h2, h3, h4, h5⟩ := o
      have ha : a ≠ d := fun z => by
        subst z
        rcases st with q | q
        · cases e2 : Z a with
          | none => exact absurd e2 q
          | some w2 => rw [E.z a w2 e2] at h3; cases h3
        · exact q h4
      refine ⟨a, w, rfl, by rw [upd_ne ha]; exact h1, h2, h3, h4, fun k q => h5 k ?_⟩
      exact (owA_congr fun n b dx e => by
        have hb : b ≠ d := fun z => by
          subst z
          obtain ⟨n1, n2⟩ := S'.zno (.ins n) b ⟨dx, e⟩
          rcases st with q | q
          · cases e2 : Z b with
            | none => exact absurd e2 q
            | some w2 => rw [E.z b w2 e2] at n1; cases n1
          · exact q n2
        exact upd_ne hb).mp q
    | fz => exact o
    | br => exact o
    | lv => exact o
  | exc c xs ρ' ω' => exact absurd rfl (hx c xs ρ' ω')
  | bad => exact h
theorem Sim.lock {Z B H : Hp} {ι : List (Addr × Addr)} {ω : PVL.Store} {ρ : PVL.Env} {σ : St} (S : Sim G Z B H ι ω ρ σ) {d : Addr} {u : HO} {od : Obj} (hd : H d = some u) (mu : Mut (some u)) (st : Z d ≠ none ∨ PB B d) : Sim G Z B (upd H d (.frz od u)) ι ω ρ σ :=
  S.swap (Sub.lock S.zH hd mu) (Sub.lock S.bH hd mu) fun k a q => upd_ne fun z => by
    subst z
    obtain ⟨n1, n2⟩ := S.zno k a q
    rcases st with q | q
    · exact q n1
    · exact q n2
/-- a dict's walk: over its keys, its values, its pairs -/
structure DWalk (G : GS) (J : Addr → Obj → List (Key × V) → L2.It) (f : List (PV × PV) → List PV) : Prop where
  run : ∀ {P : Addr → Prop} {Z H : Hp} {ι : List (Addr × Addr)} {a : Addr} {o : Obj} {kvs : List (Key × V)} {ps : List (PV × PV)}, (Z a ≠ none ∨ P a) → H a = some (.frz o (.dK kvs)) → RK G Z ι kvs ps → Walk G P Z ι H (J a o kvs) (f ps)
/-- for over a name's dict -/
theorem dict_for {tg iter : Expr} {body : List Stmt} {is : List Nat} {ib : Ss} {pos : Pos} {wi : TI} {J : Addr → Obj → List (Key × V) → L2.It} {f : List (PV × PV) → List PV} {i : Nat} (hp : PassesOwn (model X.prog X.w) X.A X.env X.xe) (hc : X.calm = true) (hi : PI X tg iter wi)
    (hw : ∀ (σ : St) (H : Hp) (R : L2.It → Hp → Prop) (a : Addr) (o : Obj) (kvs : List (Key × V)), σ[i]? = some (some (.ref a)) → H a = some (.frz o (.dK kvs)) → R (J a o kvs) H → wi σ H R) (dw : DWalk G J f) (hg : TgOk X G tg is) (hb : PSs X body (tSs G W ib))
    (hs : ∀ x, foldedSetIterable iter X.env x = pure x) : PS X (.For tg iter body [] pos) (fun D σ H => ∃ Z B ι ω ρ kvs m, Sim G Z B H ι ω ρ σ ∧ getV ρ i = some (.dic kvs, m) ∧ m ≠ .own ∧ kvs.all (fun p => flatKey p.1) = true ∧
      FP G W (forL (exs ib) is (f kvs) ρ ω) Z B H ι D ∧ ∀ c xs ρ' ω', forL (exs ib) is (f kvs) ρ ω ≠ .exc c xs ρ' ω') := by
  obtain ⟨g, g1, g2⟩ := hg
  refine PS.imp (PS.or (ps_lock (ps_for hp hc hi g1 hb hs)) (ps_for hp hc hi g1 hb hs)) fun D σ H h => ?_
  obtain ⟨Z, B, ι, ω, ρ, kvs, m, S, e, hm, hf, h, hx⟩ := h
  obtain ⟨v, e1, e2⟩ := S.sl i _ m (getV_some.mp e)
  have ok : OkV G Z B H ι ω ρ σ v (.dic kvs) m := by
    cases m with
    | own => exact absurd rfl hm
    | fz => exact e2
    | br => exact e2
    | lv => exact e2.elim
  have hlv : (true && m == .lv) = false := by
    cases m <;> first | rfl | exact e2.elim
  obtain ⟨Z2, E2, S2, a, u, rfl, st, hr, ro⟩ := ok.st S hlv rfl
  have st : Z2 a ≠ none ∨ PB B a := st
  have h := h.on E2.pb
  cases ro with
  | @dK ks _ r =>
    rcases hr with hr | ⟨o, hr⟩
    · refine .inl ⟨a, _, hr, trivial, fun od => ?_⟩
      have S3 := S2.lock (od := od) hr trivial st
      refine hw σ _ _ a od ks e1 upd_same ?_
      exact for_read S3 g2 (dw.run st upd_same r) (FP.lock S2 hr trivial st hx h)
    · refine .inr (hw σ _ _ a o ks e1 hr ?_)
      exact for_read S2 g2 (dw.run st hr r) h
  | @dT ks _ r ne =>
    exfalso
    have := r.tups
    cases r with
    | nil => exact ne rfl
    | cons r hk t =>
      simp [flatKey] at hf
theorem sp_forV {tg : Expr} {x : Str} {body : List Stmt} {is : List Nat} {ib : Ss} {p pos : Pos} {i : Nat} (hp : PassesOwn (model X.prog X.w) X.A X.env X.xe) (hc : X.calm = true) (hN : X.N[i]? = some x) (hv : Vis X.env.scope x) (hd : (x == ("__debug__" : Str)) = false) (hcd : (x == ("__classdict__" : Str)) = false)
    (hg : TgOk X G tg is) (hb : PSs X body (tSs G W ib)) : PS X (.For tg (.Name x p) body [] pos) (tS G W (.for_ is (.val (.var i)) ib)) := by
  have nd : DWalk G Itk (fun ps => ps.map (·.1)) := ⟨fun h1 h2 h3 => walk_keys h1 h2 h3⟩
  have P1 := dict_for (W := W) (i := i) hp hc (pi_keys (tg := tg) (pe_var (pos := p) hN hv hd hcd)) (fun σ H R a o kvs h1 h2 h3 => ⟨.ref a, h1, a, o, rfl, .inl ⟨kvs, h2, h3⟩⟩) nd hg hb (pos := pos) (fun _ => rfl)
  obtain ⟨g, g1, g2⟩ := hg
  have P2 := ps_for (pos := pos) hp hc (si_val (tg := tg) (safe := true) (se_var (G := G) (W := W) (pos := p) hN hv hd hcd)) g1 hb (fun _ => rfl)
  refine PS.imp (PS.or P1 P2) fun D σ H h => ?_
  obtain ⟨Z, B, ι, ω, ρ, S, h⟩ := h
  unfold ex at h
  obtain ⟨h, hx⟩ := h.uncalm
  have ee : ∀ v, getV ρ i = some v → ev (.var i) ρ ω = .ok (v.1, if v.2 = .own then .lv else v.2) ω := fun v e => by unfold ev; rw [e]
  cases e : getV ρ i with
  | none =>
    have : evI true (.val (.var i)) ρ ω = .bad := by unfold evI ev; rw [e]; rfl
    rw [this] at h; exact h.elim
  | some r =>
    obtain ⟨y, m⟩ := r
    by_cases hdic : ∃ kvs, y = .dic kvs
    · obtain ⟨kvs, rfl⟩ := hdic
      have hl : lockI (.val (.var i)) ρ = true := by show (match getV ρ i with | some (.dic _, _) => true | _ => false) = true; rw [e]
      have hx := hx hl
      have he : evI true (.val (.var i)) ρ ω = if (true && (if m = .own then Md.lv else m) == .lv || isD (.dic kvs) && !isVar (.var i)) = true then .bad else match itemsOf (.dic kvs) with | some xs => .ok xs ω | none => .bad := by
        unfold evI; rw [ee _ e]; rfl
      rw [he] at h hx
      by_cases hm : m = .own
      · subst hm; exact h.elim
      · rw [if_neg hm] at h hx
        have hlv : m ≠ .lv := fun z => by
          subst z
          exact h.elim
        have hlv' : (true && m == .lv || isD (.dic kvs) && !isVar (.var i)) = false := by cases m <;> first | rfl | exact absurd rfl hlv
        rw [hlv', if_neg Bool.false_ne_true] at h hx
        by_cases hf : kvs.all (fun p => flatKey p.1) = true
        · have e2 : itemsOf (.dic kvs) = some (kvs.map (·.1)) := if_pos hf
          rw [e2] at h hx
          exact .inl ⟨Z, B, ι, ω, ρ, kvs, m, S, e, hm, hf, h, hx⟩
        · have e2 : itemsOf (.dic kvs) = none := if_neg hf
          rw [e2] at h
          exact h.elim
    · refine .inr ⟨Z, B, ι, ω, ρ, S, fun x m2 ω' q kvs z => ?_, h.to.mono (fun xs ω1 h1 J H1 Z1 ι1 E1 S1 w => ?_) fun _ _ _ q => q⟩
      · rw [ee _ e] at q
        cases q
        exact hdic ⟨kvs, z⟩
      · exact for_read S1 g2 w (h1.on E1.pb)
end PVS

set_option maxHeartbeats 1000000
/-! PVS: slices, built-ins, isinstance. -/
namespace PVS
open PySem L2 TL PVL
section
variable {X : Cx} {G : GS} {W : WX}
variable (G W) in
/-- a slice's end -/
def tP (lo : E) : TO := fun σ H Q => ∃ Z B ι ω ρ, Sim G Z B H ι ω ρ σ ∧
  RP (ev lo ρ ω) (fun r ω' => ∃ o, optI r.1 = some o ∧ ∀ H' Z' ι', Ext Z Z' (PO B ρ σ) ι ι' H H' → Sim G Z' B H' ι' ω' ρ σ → Q o H') (QX G W Z B H ι ρ σ)
theorem spo_none : L2.PO X none (tP G W (.con .non)) := by
  refine ⟨fun pins s σ H Q I h => po_none.run pins s σ H Q I ?_⟩
  obtain ⟨Z, B, ι, ω, ρ, S, h⟩ := h
  unfold ev at h
  obtain ⟨o, e, h⟩ := (show ∃ o, optI .non = some o ∧ _ from h)
  cases e
  exact h H Z ι Ext.refl S
theorem spo_some {e : Expr} {ie : E} (he : PE X e (tE G W ie)) : L2.PO X (some e) (tP G W ie) := by
  refine ⟨fun pins s σ H Q I h => ?_⟩
  obtain ⟨Z, B, ι, ω, ρ, S, h⟩ := h
  rw [evalPart_some]
  refine thn (he.run pins s σ H (fun x H1 => ∃ o, (match x with | .non => o = none | .int i => o = some i | _ => False) ∧ Q o H1) I ?_) fun u s1 ⟨x, H1, I1, r1, o, e1, q1⟩ => ?_
  · refine ⟨Z, B, ι, ω, ρ, S, h.mono (fun r ω1 h1 v H1 Z1 ι1 E1 S1 o1 p1 => ?_) fun _ _ _ q => q⟩
    obtain ⟨o, e, k⟩ := h1
    obtain ⟨Z2, E2, S2, l2, r2⟩ := o1.settle S1
    obtain ⟨x, m⟩ := r
    refine ⟨o, ?_, k H1 Z2 ι1 (E1.trans E2) S2⟩
    cases x <;> simp only [optI, reduceCtorEq, Option.some.injEq] at e
    · subst e; rw [(l2.rh S2).non]
    · subst e; rw [(l2.rh S2).int]
  · cases x with
    | non =>
      subst e1
      cases u <;> first | exact ⟨none, H1, I1, .none, q1⟩ | cases r1
    | int i =>
      subst e1
      obtain ⟨t, rfl⟩ := r1
      exact ⟨some i, H1, I1, .int i t, q1⟩
    | _ => exact e1.elim
theorem se_slc {e : Expr} {lo hi : Option Expr} {ie il ih : E} {p2 pos : Pos} (hK : G.K = X.K) (he : PE X e (tE G W ie)) (hl : L2.PO X lo (tP G W il)) (hh : L2.PO X hi (tP G W ih)) : PE X (.Subscript e (.Slice lo hi none p2) pos) (tE G W (.slc ie il ih)) := by
  refine PE.imp (pe_slice (sl_all (G := G) hK.symm) he hl hh) fun σ H Q h => ?_
  obtain ⟨Z, B, ι, ω, ρ, S, h⟩ := h
  unfold ev at h
  refine tE.next S h.bind fun x ω1 h1 v H1 Z1 ι1 E1 S1 l1 _ p1 => ?_
  refine ⟨Z1, B, ι1, ω1, ρ, S1, h1.bind.mono (fun y ω2 h2 => ?_) fun _ _ _ q => q.on E1⟩
  cases el : optI y.1 with
  | none =>
    rw [el] at h2
    exact h2.elim
  | some o =>
    rw [el] at h2
    have h2 : RP ((ev ih ρ ω2).bind fun h ω => liftO (slcV x.1 y.1 h.1) .own ω) _ _ := h2
    refine ⟨o, rfl, fun H2 Z2 ι2 E2 S2 => ?_⟩
    refine ⟨Z2, B, ι2, ω2, ρ, S2, h2.bind.mono (fun z ω3 h3 => ?_) fun _ _ _ q => q.on (E1.trans E2)⟩
    unfold liftO slcV at h3
    rw [el] at h3
    cases eh : optI z.1 with
    | none => simp only [eh] at h3; exact h3.elim
    | some o2 =>
      refine ⟨o2, rfl, fun H3 Z3 ι3 E3 S3 => ?_⟩
      simp only [eh, Option.bind_some] at h3
      split at h3
      · rename_i w ew
        refine ⟨Z3, ι3, x.1, w, S3.zH, ((l1.on E2).on E3).rh S3, ew, fun u H4 n => ?_⟩
        obtain ⟨Z4, E4, S4, o4, s4⟩ := n.fin S3 (by decide)
        exact h3 u H4 Z4 ι3 (((E1.trans E2).trans E3).trans E4) S4 o4 (.no rfl)
      · exact h3.elim

/-! ### built-ins -/
inductive RHs (G : GS) (Z H : Hp) (ι : List (Addr × Addr)) : List V → List PV → Prop
  | nil : RHs G Z H ι [] []
  | cons {v : V} {x : PV} {vs : List V} {xs : List PV} : RH G Z H ι v x → RHs G Z H ι vs xs → RHs G Z H ι (v :: vs) (x :: xs)
def rF (G : GS) (g : List PV → Option PV) (m : Md) : List V → Hp → VK → Prop := fun vs H Q => ∃ Z ι xs z, Sub Z H ∧ RHs G Z H ι vs xs ∧ g xs = some z ∧ ∀ w H', Nw G Z H ι m z w H' → Q w H'
theorem RHs.one {Z H : Hp} {ι : List (Addr × Addr)} {vs : List V} {x : PV} (h : RHs G Z H ι vs [x]) : ∃ v, vs = [v] ∧ RH G Z H ι v x := by
  cases h with
  | cons r t => cases t; exact ⟨_, rfl, r⟩
theorem RHs.two {Z H : Hp} {ι : List (Addr × Addr)} {vs : List V} {x y : PV} (h : RHs G Z H ι vs [x, y]) : ∃ v w, vs = [v, w] ∧ RH G Z H ι v x ∧ RH G Z H ι w y := by
  cases h with
  | cons r t =>
    cases t with
    | cons r2 t => cases t; exact ⟨_, _, rfl, r, r2⟩
theorem CallR.imp {f : Value} {r r' : List V → Hp → VK → Prop} (h : CallR X f r) (i : ∀ vs H Q, r' vs H Q → r vs H Q) : CallR X f r' := fun pins s σ H xs us Q I rv q => h pins s σ H xs us Q I rv (i _ _ _ q)
theorem CallR.or {f : Value} {r r' : List V → Hp → VK → Prop} (h : CallR X f r) (h' : CallR X f r') : CallR X f (fun vs H Q => r vs H Q ∨ r' vs H Q) := fun pins s σ H xs us Q I rv q => q.elim (h pins s σ H xs us Q I rv) (h' pins s σ H xs us Q I rv)
theorem bf1_read {f : BF} {ie : E} {σ : St} {H : Hp} {Q : VK} (h : tE G W (.bf1 f ie) σ H Q) : tCB (rF G (bfV f) .own) (tCons (tE G W ie) tNil) σ H Q := by
  obtain ⟨Z, B, ι, ω, ρ, S, h⟩ := h
  unfold ev at h
  refine tE.next S h.bind fun x ω1 h1 v H1 Z1 ι1 E1 S1 l1 _ p1 => ?_
  unfold liftO at h1
  cases e : bfV f [x.1] with
  | none => rw [e] at h1; exact h1.elim
  | some z =>
    rw [e] at h1
    refine ⟨Z1, ι1, [x.1], z, S1.zH, .cons (l1.rh S1) .nil, e, fun w H3 n => ?_⟩
    obtain ⟨Z3, E3, S3, o3, s3⟩ := n.fin S1 (by decide)
    exact h1 w H3 Z3 ι1 (E1.trans E3) S3 o3 (.no rfl)
theorem bf2_read {f : BF} {ia ib : E} {σ : St} {H : Hp} {Q : VK} (h : tE G W (.bf2 f ia ib) σ H Q) : tCB (rF G (bfV f) .own) (tCons (tE G W ia) (tCons (tE G W ib) tNil)) σ H Q := by
  obtain ⟨Z, B, ι, ω, ρ, S, h⟩ := h
  unfold ev at h
  refine tE.next S h.bind fun x ω1 h1 v H1 Z1 ι1 E1 S1 l1 _ p1 => ?_
  refine tE.next S1 (h1.bind.mono (fun _ _ q => q) fun _ _ _ q => q.on E1) fun y ω2 h2 u H2 Z2 ι2 E2 S2 l2 _ p2 => ?_
  unfold liftO at h2
  cases e : bfV f [x.1, y.1] with
  | none => rw [e] at h2; exact h2.elim
  | some z =>
    rw [e] at h2
    refine ⟨Z2, ι2, [x.1, y.1], z, S2.zH, .cons ((l1.on E2).rh S2) (.cons (l2.rh S2) .nil), e, fun w H3 n => ?_⟩
    obtain ⟨Z3, E3, S3, o3, s3⟩ := n.fin S2 (by decide)
    exact h2 w H3 Z3 ι2 ((E1.trans E2).trans E3) S3 o3 (.no rfl)
theorem se_bf1B {f : BF} {x : Str} {id : String} {e : Expr} {ie : E} {p pos : Pos} (hc : CallR X (.builtin id) (rF G (bfV f) .own)) (hg : Gl X x) (hm : X.mg x = none) (hv : bootBuiltins x = some (.builtin id)) (he : PE X e (tE G W ie)) (hn : x ≠ "__name__") (hdb : (x == ("__debug__" : Str)) = false)
    (hs : starEach [e] X.env = [(false, eval e X.env)]) : PE X (.Call (.Name x p) [e] [] pos) (tE G W (.bf1 f ie)) :=
  PE.imp (pe_callB hc hg hm hv (pa_cons he pa_nil hs) hn hdb hs rfl) fun _ _ _ h => bf1_read h
theorem se_bf1T {f : BF} {x : Str} {T : String} {e : Expr} {ie : E} {p pos : Pos} (hc : CallR X (.type T) (rF G (bfV f) .own)) (hg : Gl X x) (hm : X.mg x = none) (hv : bootBuiltins x = some (.type T)) (he : PE X e (tE G W ie)) (hn : x ≠ "__name__") (hdb : (x == ("__debug__" : Str)) = false)
    (hs : starEach [e] X.env = [(false, eval e X.env)]) : PE X (.Call (.Name x p) [e] [] pos) (tE G W (.bf1 f ie)) :=
  PE.imp (pe_callTy hc hg hm hv (pa_cons he pa_nil hs) hn hdb hs rfl) fun _ _ _ h => bf1_read h
theorem se_bf2B {f : BF} {x : Str} {id : String} {a b : Expr} {ia ib : E} {p pos : Pos} (hc : CallR X (.builtin id) (rF G (bfV f) .own)) (hg : Gl X x) (hm : X.mg x = none) (hv : bootBuiltins x = some (.builtin id)) (ha : PE X a (tE G W ia)) (hb : PE X b (tE G W ib)) (hn : x ≠ "__name__") (hdb : (x == ("__debug__" : Str)) = false)
    (hs : starEach [a, b] X.env = (false, eval a X.env) :: starEach [b] X.env) (hs2 : starEach [b] X.env = [(false, eval b X.env)]) : PE X (.Call (.Name x p) [a, b] [] pos) (tE G W (.bf2 f ia ib)) :=
  PE.imp (pe_callB hc hg hm hv (pa_cons ha (pa_cons hb pa_nil hs2) hs) hn hdb hs (by rw [hs2]; rfl)) fun _ _ _ h => bf2_read h

theorem b_len (hK : G.K = X.K) : CallR X (.builtin "len") (rF G (bfV .len) .own) := by
  have lD : CallR X (.builtin "len") (fun xs H Q => ∃ a kvs, xs = [V.ref a] ∧ Rd H a (.dK kvs) ∧ Q (.int kvs.length) H) := by
    intro pins s σ H xs us Q I r h
    obtain ⟨a, kvs, rfl, hd, q⟩ := h
    obtain ⟨u, rfl, rx⟩ := vals1 r
    cases rx
    exact d_len I hd fun t s' I' => ⟨.int kvs.length, H, I', ⟨_, rfl⟩, q⟩
  have lT : CallR X (.builtin "len") (fun xs H Q => ∃ a kvs, xs = [V.ref a] ∧ Rd H a (.dT kvs) ∧ Q (.int ((kvs.length : Nat) : Int)) H) := by
    intro pins s σ H xs us Q I r h
    obtain ⟨p, kvs, rfl, hp, q⟩ := h
    obtain ⟨u, rfl, rx⟩ := vals1 r
    obtain rfl : u = .ref p := rx
    obtain ⟨z, hd, ys, rel, dd⟩ := dt_rd I.hok hp
    have hl : kvs.length = ys.length := Paired.length rel
    refine PySem.call_len_dictH hd dd (by rw [← hl]; rw [sizeLine_eq] at z; omega) ?_
    rw [← hl]
    exact ⟨.int ((kvs.length : Nat) : Int), H, I.tok _, ⟨_, rfl⟩, q⟩
  refine CallR.imp (CallR.or call_len (CallR.or lD lT)) fun vs H Q h => ?_
  obtain ⟨Z, ι, xs, z, sz, r, e, k⟩ := h
  match xs, e, r with
  | [.str s], e, r =>
    cases e
    obtain ⟨v, rfl, r1⟩ := r.one
    obtain ⟨rfl, h1⟩ := r1.str
    exact .inl ⟨_, s.length, rfl, ⟨by rw [mkS_len, ← line_eq]; exact h1.1, (mkS_len s).symm⟩, k _ _ (.val (.int _) rfl)⟩
  | [.lst ys], e, r =>
    cases e
    obtain ⟨v, rfl, r1⟩ := r.one
    obtain ⟨a, ws, rfl, h1, r⟩ := r1
    exact .inl ⟨_, ys.length, rfl, .inl ⟨ws, .inl h1, r.len.symm⟩, k _ _ (.val (.int _) rfl)⟩
  | [.tup ys], e, r =>
    cases e
    obtain ⟨v, rfl, r1⟩ := r.one
    obtain ⟨a, ws, rfl, h1, r⟩ := r1.tup sz
    exact .inl ⟨_, ys.length, rfl, .inr ⟨ws, SqT.of h1, r.len.symm⟩, k _ _ (.val (.int _) rfl)⟩
  | [.dic ps], e, r =>
    cases e
    obtain ⟨v, rfl, r1⟩ := r.one
    obtain ⟨a, rfl, ⟨kvs, h1, r2⟩ | ⟨kvs, h1, r2, ne⟩⟩ := r1
    · refine .inr (.inl ⟨a, kvs, rfl, h1, ?_⟩)
      rw [r2.len]
      exact k _ _ (.val (.int _) rfl)
    · refine .inr (.inr ⟨a, kvs, rfl, h1, ?_⟩)
      rw [r2.len]
      exact k _ _ (.val (.int _) rfl)
theorem b_int : CallR X (.type "int") (rF G (bfV .int) .own) := by
  refine CallR.imp call_int1 fun vs H Q h => ?_
  obtain ⟨Z, ι, xs, z, sz, r, e, k⟩ := h
  match xs, e, r with
  | [.int i], e, r =>
    cases e
    obtain ⟨v, rfl, r1⟩ := r.one
    rw [r1.int]
    exact .inl ⟨i, rfl, k _ _ (.val (.int _) rfl)⟩
  | [.bl b], e, r =>
    cases e
    obtain ⟨v, rfl, r1⟩ := r.one
    rw [r1.bl]
    exact .inr ⟨b, rfl, k _ _ (.val (.int _) rfl)⟩
theorem b_abs : CallR X (.builtin "abs") (rF G (bfV .abs) .own) := by
  refine CallR.imp call_abs fun vs H Q h => ?_
  obtain ⟨Z, ι, xs, z, sz, r, e, k⟩ := h
  match xs, e, r with
  | [.int i], e, r =>
    cases e
    obtain ⟨v, rfl, r1⟩ := r.one
    rw [r1.int]
    exact ⟨i, rfl, k _ _ (.val (.int _) rfl)⟩
theorem foldMax_mem : ∀ (l : List Int) (n : Int), l.foldl Max.max n = n ∨ l.foldl Max.max n ∈ l
  | [], n => .inl rfl
  | m :: l, n => by
    rcases foldMax_mem l (Max.max n m) with h | h
    · rw [List.foldl_cons, h]
      rcases Int.le_total n m with q | q
      · rw [Int.max_eq_right q]; exact .inr (List.mem_cons_self ..)
      · rw [Int.max_eq_left q]; exact .inl rfl
    · exact .inr (List.mem_cons_of_mem _ h)
theorem foldMax_le : ∀ (l : List Int) (n : Int), n ≤ l.foldl Max.max n ∧ ∀ y ∈ l, y ≤ l.foldl Max.max n
  | [], n => ⟨Int.le_refl _, fun _ h => by cases h⟩
  | m :: l, n => by
    obtain ⟨h1, h2⟩ := foldMax_le l (Max.max n m)
    refine ⟨Int.le_trans (Int.le_max_left n m) h1, fun y hy => ?_⟩
    rcases List.mem_cons.mp hy with rfl | hy
    · exact Int.le_trans (Int.le_max_right n y) h1
    · exact h2 y hy
theorem foldMin_mem : ∀ (l : List Int) (n : Int), l.foldl Min.min n = n ∨ l.foldl Min.min n ∈ l
  | [], n => .inl rfl
  | m :: l, n => by
    rcases foldMin_mem l (Min.min n m) with h | h
    · rw [List.foldl_cons, h]
      rcases Int.le_total n m with q | q
      · rw [Int.min_eq_left q]; exact .inl rfl
      · rw [Int.min_eq_right q]; exact .inr (List.mem_cons_self ..)
    · exact .inr (List.mem_cons_of_mem _ h)
theorem foldMin_le : ∀ (l : List Int) (n : Int), l.foldl Min.min n ≤ n ∧ ∀ y ∈ l, l.foldl Min.min n ≤ y
  | [], n => ⟨Int.le_refl _, fun _ h => by cases h⟩
  | m :: l, n => by
    obtain ⟨h1, h2⟩ := foldMin_le l (Min.min n m)
    refine ⟨Int.le_trans h1 (Int.min_le_left n m), fun y hy => ?_⟩
    rcases List.mem_cons.mp hy with rfl | hy
    · exact Int.le_trans h1 (Int.min_le_right n y)
    · exact h2 y hy
theorem b_max (hK : G.K = X.K) (hc : X.calm = true) : CallR X (.builtin "max") (rF G (bfV .max) .own) := by
  refine CallR.imp (CallR.or (call_max2 hc) (cr_max hc)) fun vs H Q h => ?_
  obtain ⟨Z, ι, xs, z, sz, r, e, k⟩ := h
  match xs, e, r with
  | [.int i, .int j], e, r =>
    cases e
    obtain ⟨v, w, rfl, r1, r2⟩ := r.two
    rw [r1.int, r2.int]
    exact .inl ⟨i, j, rfl, k _ _ (.val (.int _) rfl)⟩
  | [.lst ys], e, r =>
    obtain ⟨v, rfl, r1⟩ := r.one
    obtain ⟨a, ws, rfl, h1, r2⟩ := r1
    have e : (PVL.intsV ys).bind maxI = some z := e
    cases ei : PVL.intsV ys with
    | none => rw [ei] at e; cases e
    | some ns =>
      rw [ei] at e
      have e3 : maxI ns = some z := e
      obtain ⟨rfl, rfl⟩ := r2.intsV ei
      cases ns with
      | nil => cases e3
      | cons n ns =>
        cases e3
        refine .inr ⟨a, n :: ns, rfl, .inl h1, by simp, fun m hm hx => ?_⟩
        have e2 : m = ns.foldl Max.max n := by
          have q1 := foldMax_le ns n
          have q2 := foldMax_mem ns n
          apply Int.le_antisymm
          · rcases List.mem_cons.mp hm with rfl | hm
            · exact q1.1
            · exact q1.2 m hm
          · rcases q2 with q | q
            · rw [q]; exact hx n (List.mem_cons_self ..)
            · exact hx _ (List.mem_cons_of_mem _ q)
        rw [e2]
        exact k _ _ (.val (.int _) rfl)
theorem b_min (hK : G.K = X.K) (hc : X.calm = true) : CallR X (.builtin "min") (rF G (bfV .min) .own) := by
  refine CallR.imp (CallR.or (call_min2 hc) (cr_min hc)) fun vs H Q h => ?_
  obtain ⟨Z, ι, xs, z, sz, r, e, k⟩ := h
  match xs, e, r with
  | [.int i, .int j], e, r =>
    cases e
    obtain ⟨v, w, rfl, r1, r2⟩ := r.two
    rw [r1.int, r2.int]
    exact .inl ⟨i, j, rfl, k _ _ (.val (.int _) rfl)⟩
  | [.lst ys], e, r =>
    obtain ⟨v, rfl, r1⟩ := r.one
    obtain ⟨a, ws, rfl, h1, r2⟩ := r1
    have e : (PVL.intsV ys).bind minI = some z := e
    cases ei : PVL.intsV ys with
    | none => rw [ei] at e; cases e
    | some ns =>
      rw [ei] at e
      have e3 : minI ns = some z := e
      obtain ⟨rfl, rfl⟩ := r2.intsV ei
      cases ns with
      | nil => cases e3
      | cons n ns =>
        cases e3
        refine .inr ⟨a, n :: ns, rfl, .inl h1, by simp, fun m hm hx => ?_⟩
        have e2 : m = ns.foldl Min.min n := by
          have q1 := foldMin_le ns n
          have q2 := foldMin_mem ns n
          apply Int.le_antisymm
          · rcases q2 with q | q
            · rw [q]; exact hx n (List.mem_cons_self ..)
            · exact hx _ (List.mem_cons_of_mem _ q)
          · rcases List.mem_cons.mp hm with rfl | hm
            · exact q1.1
            · exact q1.2 m hm
        rw [e2]
        exact k _ _ (.val (.int _) rfl)
theorem b_sum (hK : G.K = X.K) (hc : X.calm = true) : CallR X (.builtin "sum") (rF G (bfV .sum) .own) := by
  refine CallR.imp (cr_sum hc) fun vs H Q h => ?_
  obtain ⟨Z, ι, xs, z, sz, r, e, k⟩ := h
  match xs, e, r with
  | [.lst ys], e, r =>
    obtain ⟨v, rfl, r1⟩ := r.one
    obtain ⟨a, ws, rfl, h1, r2⟩ := r1
    have e : (PVL.intsV ys).map (fun ns => PV.int ns.sum) = some z := e
    cases ei : PVL.intsV ys with
    | none => rw [ei] at e; cases e
    | some ns =>
      rw [ei] at e
      cases e
      obtain ⟨rfl, rfl⟩ := r2.intsV ei
      exact ⟨a, ns, rfl, .inl h1, k _ _ (.val (.int _) rfl)⟩
theorem b_all (hK : G.K = X.K) (hc : X.calm = true) : CallR X (.builtin "all") (rF G (bfV .all) .own) := by
  refine CallR.imp (cr_all hc) fun vs H Q h => ?_
  obtain ⟨Z, ι, xs, z, sz, r, e, k⟩ := h
  match xs, e, r with
  | [.lst ys], e, r =>
    obtain ⟨v, rfl, r1⟩ := r.one
    obtain ⟨a, ws, rfl, h1, r2⟩ := r1
    have e : (PVL.boolsV ys).map (fun ns => PV.bl (ns.all id)) = some z := e
    cases ei : PVL.boolsV ys with
    | none => rw [ei] at e; cases e
    | some ns =>
      rw [ei] at e
      cases e
      obtain ⟨rfl, rfl⟩ := r2.boolsV ei
      exact ⟨a, ns, rfl, .inl h1, k _ _ (.val (.bl _) rfl)⟩
theorem b_any (hK : G.K = X.K) (hc : X.calm = true) : CallR X (.builtin "any") (rF G (bfV .any) .own) := by
  refine CallR.imp (cr_any hc) fun vs H Q h => ?_
  obtain ⟨Z, ι, xs, z, sz, r, e, k⟩ := h
  match xs, e, r with
  | [.lst ys], e, r =>
    obtain ⟨v, rfl, r1⟩ := r.one
    obtain ⟨a, ws, rfl, h1, r2⟩ := r1
    have e : (PVL.boolsV ys).map (fun ns => PV.bl (ns.any id)) = some z := e
    cases ei : PVL.boolsV ys with
    | none => rw [ei] at e; cases e
    | some ns =>
      rw [ei] at e
      cases e
      obtain ⟨rfl, rfl⟩ := r2.boolsV ei
      exact ⟨a, ns, rfl, .inl h1, k _ _ (.val (.bl _) rfl)⟩

/-! ### isinstance -/
/-- the type's name -/
def tyN : PV → Option String
  | .non => some "NoneType"
  | .bl _ => some "bool"
  | .int _ => some "int"
  | .str _ => some "str"
  | .tup _ => some "tuple"
  | .lst _ => some "list"
  | .dic kvs => if kvs.all (fun p => flatKey p.1) then some "dict" else none
  | _ => none
theorem RH.tyx {Z H : Hp} {ι : List (Addr × Addr)} (sz : Sub Z H) {K : PySem.W.Frag} {v : V} {x : PV} {n : String} (h : RH G Z H ι v x) (e : tyN x = some n) : TyX K H v (.type n) := by
  cases x <;> simp only [tyN, reduceCtorEq, Option.some.injEq] at e
  · subst e; rw [h.non]; exact .base .non
  · subst e; rw [h.bl]; exact .base (.bl _)
  · subst e; rw [h.int]; exact .base (.int _)
  · subst e; rw [h.str.1]; exact .base (.str _)
  · subst e
    obtain ⟨a, vs, rfl, h1, _⟩ := h.tup sz
    exact .base (.tup h1)
  · subst e
    obtain ⟨a, vs, rfl, h1 | ⟨o, h1⟩, _⟩ := h
    · exact .base (.lst h1)
    · exact .base (.frz h1)
  · split at e
    · rename_i hf
      cases e
      obtain ⟨a, rfl, ⟨kvs, h1 | ⟨o, h1⟩, r⟩ | ⟨kvs, h1, r, ne⟩⟩ := h
      · exact .base (.dK h1)
      · exact .fDict h1
      · exfalso
        cases r with
        | nil => exact ne rfl
        | cons _ _ _ => simp [flatKey] at hf
    · cases e
/-- a built-in type's name -/
def Ty.nm : Ty → Option String
  | .int => some "int"
  | .bool => some "bool"
  | .str => some "str"
  | .list => some "list"
  | .tuple => some "tuple"
  | .dict => some "dict"
  | _ => none
theorem kit_all {K : PySem.W.Frag} {ω : PVL.Store} {x : PV} {t : Ty} {n m : String} {b : Bool} (hx : tyN x = some n) (ht : Ty.nm t = some m) (e : isTy ω x t = some b) : PySem.W.kitOne K (.type n) (.type m) = some b := by
  cases t <;> simp only [Ty.nm, reduceCtorEq, Option.some.injEq] at ht <;> subst ht <;>
  cases x <;> simp only [tyN, reduceCtorEq, Option.some.injEq] at hx <;> first
    | (subst hx; simp only [isTy, Option.some.injEq] at e; subst e; exact kit_ty (by decide +kernel))
    | (split at hx
       · rename_i hf
         cases hx
         simp only [isTy, hf, if_true, Option.some.injEq] at e; subst e; exact kit_ty (by decide +kernel)
       · cases hx)
theorem isTy_nm {ω : PVL.Store} {x : PV} {t : Ty} {m : String} {b : Bool} (ht : Ty.nm t = some m) (e : isTy ω x t = some b) : (∃ n, tyN x = some n) := by
  cases x <;> first | exact ⟨_, rfl⟩ | skip
  · simp only [isTy] at e
    split at e
    · rename_i hf; exact ⟨_, if_pos hf⟩
    · cases e
  all_goals (cases t <;> simp [Ty.nm] at ht <;> simp [isTy] at e)
/-- isinstance(a, T), T a built-in type -/
theorem se_inst1 {a : Expr} {x T : Str} {ia : E} {t : Ty} {m : String} {p pt pos : Pos} (hK : G.K = X.K) (hg : Gl X x) (hm : X.mg x = none) (hv : bootBuiltins x = some (.builtin "isinstance")) (hn : x ≠ "__name__") (hdb : (x == ("__debug__" : Str)) = false) (ha : PE X a (tE G W ia))
    (hgT : Gl X T) (hmT : X.mg T = none) (hvT : bootBuiltins T = some (.type m)) (hnT : T ≠ "__name__") (hdT : (T == ("__debug__" : Str)) = false) (ht : Ty.nm t = some m)
    (hs : starEach [a, .Name T pt] X.env = (false, eval a X.env) :: starEach [.Name T pt] X.env) : PE X (.Call (.Name x p) [a, .Name T pt] [] pos) (tE G W (.inst ia [t])) := by
  refine PE.imp (pe_callB call_isi hg hm hv (pa_cons ha (pa_cons (pe_bltn (v := .ty m) hgT hmT hvT rfl hnT hdT) pa_nil rfl) hs) hn hdb hs rfl) fun σ H Q h => ?_
  obtain ⟨Z, B, ι, ω, ρ, S, h⟩ := h
  unfold ev at h
  refine tE.next S h.bind fun y ω1 h1 v H1 Z1 ι1 E1 S1 l1 _ p1 => ?_
  unfold liftB at h1
  cases e : isTy ω1 y.1 t with
  | none => simp only [List.foldr, Option.bind_some, e, Option.map_none] at h1; exact h1.elim
  | some b =>
    simp only [List.foldr, Option.bind_some, e, Option.map_some, Bool.or_false] at h1
    obtain ⟨n, en⟩ := isTy_nm ht e
    exact ⟨v, .ty m, .type n, .type m, b, rfl, .ty m, (l1.rh S1).tyx S1.zH en, kit_all en ht e, h1 _ H1 Z1 ι1 E1 S1 (RV.bl b) (.no rfl)⟩
end
end PVS

set_option maxHeartbeats 1000000
/-! PVS: tuple targets, two names at once, augmented names. -/
namespace PVS
open PySem L2 TL PVL
section
variable {X : Cx} {G : GS} {W : WX}
theorem assignT_tup {ρ ρ' : PVL.Env} {is : List Nat} {x : PV} (hl : 2 ≤ is.length) (e : assignT ρ is x = some ρ') : isC x = false := by
  unfold assignT at e
  split at e
  · simp at hl
  · rfl
  · cases e
theorem sp_setT {tg e : Expr} {is : List Nat} {ie : E} {pos : Pos} (he : PE X e (tE G W ie)) (hg : TgOk X G tg is) (hl : 2 ≤ is.length) (hs : swapsWithSole [tg] e pos.line X.env = pure false) (hw : swappedStores [tg] e X.env = pure none)
    (h1 : (assignEach [tg] X.env).map (·.2) = [assign tg X.env]) : PS X (.Assign [tg] e pos) (tS G W (.setT is ie)) := by
  obtain ⟨g, g1, g2⟩ := hg
  refine PS.imp (ps_asg he g1 hs hw h1) fun D σ H h => ?_
  obtain ⟨Z, B, ι, ω, ρ, S, h⟩ := h
  unfold ex at h
  refine tE.next S h.to fun x ω1 h1 v H1 Z1 ι1 E1 S1 l1 _ p1 => ?_
  cases ea : assignT ρ is x.1 with
  | none => rw [ea] at h1; exact h1.elim
  | some ρ' =>
    rw [ea] at h1
    exact g2 Z1 B H1 ι1 ω1 ρ σ v x.1 ρ' _ S1 (l1.rv S1 (assignT_tup hl ea)) ea fun σ' S' _ => h1 H1 Z1 ι1 σ' E1.pb S'
theorem sp_par {i j : Nat} {x y : Str} {a b : Expr} {ia ib : E} {px py pt pos : Pos} {kt k2 pt2} (hc : X.calm = true) (hN : X.N.Nodup) (hi : X.N[i]? = some x) (hj : X.N[j]? = some y) (hij : i ≠ j)
    (hx : X.env.scope.names.lookup x = some .local) (hy : X.env.scope.names.lookup y = some .local) (ha : PE X a (tE G W ia)) (hb : PE X b (tE G W ib)) (hs1 : starEach [a, b] X.env = (false, eval a X.env) :: starEach [b] X.env) (hs2 : starEach [b] X.env = [(false, eval b X.env)])
    (hw : swappedStores [.Tuple [.Name x px, .Name y py] kt pt] (.Tuple [a, b] k2 pt2) X.env = pure (some [x, y]))
    (hs : swapsWithSole [.Tuple [.Name x px, .Name y py] kt pt] (.Tuple [a, b] k2 pt2) pos.line X.env = pure false) :
    PS X (.Assign [.Tuple [.Name x px, .Name y py] kt pt] (.Tuple [a, b] k2 pt2) pos) (tS G W (.par i j ia ib)) := by
  refine PS.imp (ps_par hc hN hi hj hij hx hy (pa_cons ha (pa_cons hb pa_nil hs2) hs1) hw hs) fun D σ H h => ?_
  obtain ⟨Z, B, ι, ω, ρ, S, h⟩ := h
  unfold ex at h
  refine ⟨Z, B, ι, ω, ρ, S, h.to.mono (fun u ω1 h1 v H1 Z1 ι1 E1 S1 o1 p1 => ?_) fun _ _ _ q => q⟩
  cases hk : keeps u with
  | false => rw [hk] at h1; exact h1.elim
  | true =>
    rw [hk, if_pos rfl] at h1
    obtain ⟨Z2, E2, S2, r2⟩ := o1.keep S1 hk
    have h1 := (h1.on (E1.trans E2).pb).to (ρ := ρ) (σ := σ)
    refine ⟨Z2, B, ι1, ω1, ρ, S2, h1.mono (fun u2 ω3 h3 w H3 Z3 ι3 E3 S3 o3 p3 => ?_) fun _ _ _ q => q⟩
    cases hk2 : keeps u2 with
    | false => rw [hk2] at h3; exact h3.elim
    | true =>
      rw [hk2, if_pos rfl] at h3
      obtain ⟨Z4, E4, S4, r4⟩ := o3.keep S3 hk2
      exact ⟨v, w, rfl, h3 H3 Z4 ι3 _ (E3.trans E4).pb ((S4.setS' ((r2.mono E3.z E3.i).mono E4.z E4.i)).setS' r4)⟩
/-! ### name op= e -/
def ipA (G : GS) (g : PV → PV → Option PV) : TIp := fun v u H Q => ∃ Z ι x y z, Sub Z H ∧ RH G Z H ι v x ∧ RH G Z H ι u y ∧ g x y = some z ∧ ∀ w, RV G Z ι w z → Q w H
theorem ia_add : PIp X .Add (ipA G (augV .add)) := by
  intro pins s σ H v u vv uu Q I rv ru h
  obtain ⟨Z, ι, x, y, z, sz, hx, hy, hg, k⟩ := h
  cases x <;> cases y <;> simp only [augV, reduceCtorEq, Option.some.injEq] at hg
  · subst hg
    exact ip_add pins s σ H v u vv uu Q I rv ru ⟨_, _, hx.int, hy.int, k _ (.int _)⟩
  · split at hg
    · rename_i a b hl
      cases hg
      obtain ⟨rfl, h1⟩ := hx.str
      obtain ⟨rfl, h2⟩ := hy.str
      exact in_addS pins s σ H _ _ vv uu Q I rv ru ⟨_, _, rfl, rfl, by rw [mkS_len, mkS_len, ← line_eq]; exact hl, by rw [mkS_app]; exact k _ (.str _ (h1.app h2 hl))⟩
    · cases hg
theorem ia_sub : PIp X .Sub (ipA G (augV .sub)) := by
  intro pins s σ H v u vv uu Q I rv ru h
  obtain ⟨Z, ι, x, y, z, sz, hx, hy, hg, k⟩ := h
  cases x <;> cases y <;> simp only [augV, reduceCtorEq, Option.some.injEq] at hg
  subst hg
  exact ip_sub pins s σ H v u vv uu Q I rv ru ⟨_, _, hx.int, hy.int, k _ (.int _)⟩
theorem aug_flat {op : BOp} {x y z : PV} (e : augV op x y = some z) : isC x = false := by
  cases op <;> cases x <;> first | rfl | (simp [augV] at e)
theorem sp_aug {i : Nat} {x : Str} {e : Expr} {ie : E} {op : Operator} {bop : BOp} {pos' pos : Pos} (hN : X.N.Nodup) (hi : X.N[i]? = some x) (hx : Loc X.env.scope x) (he : PE X e (tE G W ie)) (ho : PIp X op (ipA G (augV bop))) (hf : X.fn x = true ∨ X.env.scope.names.lookup x = some .local) :
    PS X (.AugAssign (.Name x pos') op e pos) (tS G W (.aug i bop ie)) := by
  refine PS.imp (ps_aug hN hi hx he ho hf) fun D σ H h => ?_
  obtain ⟨Z, B, ι, ω, ρ, S, h⟩ := h
  unfold ex at h
  cases eg : getV ρ i with
  | none => rw [eg] at h; exact h.elim
  | some r =>
    obtain ⟨y, m⟩ := r
    rw [eg] at h
    obtain ⟨v, e1, e2⟩ := S.sl i y m (getV_some.mp eg)
    have l0 : Lv G Z B H ι ρ σ v y := by
      cases m with
      | own =>
        obtain ⟨a, o, rfl, h2, h3⟩ := e2
        exact .inr ⟨i, a, getV_some.mp eg, e1, rfl⟩
      | fz => exact .inl (.inl e2)
      | br => exact .inl e2
      | lv => exact e2.elim
    refine ⟨v, e1, ?_⟩
    refine tE.next S h.to fun u ω1 h1 w H1 Z1 ι1 E1 S1 l1 _ p1 => ?_
    cases ez : augV bop y u.1 with
    | none => rw [ez] at h1; exact h1.elim
    | some z =>
      rw [ez] at h1
      exact ⟨Z1, ι1, y, u.1, z, S1.zH, (l0.on E1).rh S1, l1.rh S1, ez, fun t r => h1 H1 Z1 ι1 _ E1.pb (S1.setS' r)⟩
end
end PVS

set_option maxHeartbeats 1000000
/-! PVS: a def as a whole; the law's end. -/
namespace PVS
open PySem PySem.Spec PyProof.Rows L2 TL PVL
/-- a look at a def's names: N its local names, gs the global ones that it reads -/
def nmC (N gs : List Str) (sc : Scope) : Bool :=
  N.all (fun x => (decide (sc.names.lookup x = some .local) || decide (sc.names.lookup x = some .cell)) && !(x == ("__debug__" : Str)) && !(x == ("__classdict__" : Str))) &&
  gs.all (fun x => decide (sc.names.lookup x = some .globalImplicit) && !(x == ("__debug__" : Str)) && !decide (x = "__name__"))
theorem swap_ok {x y : Str} {px py pt pt2 : Pos} {kt k2 : Nat} {a b : Expr} {env : PySem.Env} (hb : env.blockKind = .function) (hx : env.kindOf x = some .local) (hy : env.kindOf y = some .local) (hxy : (x == y) = false) (hl : (py.line == px.line) = true)
   (hst : ([a, b].any fun | .Starred .. => true | _ => false) = false) (hf : [a, b].all (foldedForSure 8) = false) (hca : [a, b].all (constantsAlone 8) = false) :
   swappedStores [.Tuple [.Name x px, .Name y py] kt pt] (.Tuple [a, b] k2 pt2) env = pure (some [x, y]) := by
  have hyx : (y == x) = false := by
    cases h : (y == x) with
    | false => rfl
    | true => rw [eq_of_beq h] at hxy; simp at hxy
  have he : [x, y].eraseDups = [x, y] := by simp [List.eraseDups_cons, hxy, hyx]
  unfold swappedStores
  simp only [List.length_cons, List.length_nil, hb]
  simp only [hst, hf, hca, hx, hy, List.filterMap_cons, List.head?_cons, Option.map_some, Expr.pos, Option.getD_some, hl, beq_self_eq_true, Bool.and_self, if_true, List.filterMap_nil, he]
  refine (if_neg (by decide)).trans ((if_neg fun z => ?_).trans ((if_neg (by simp)).trans rfl))
  exact absurd (z.symm.trans hst) (by simp)
/-- within a body -/
structure Bd (G : GS) (W : WX) (N gs : List Str) (k : Nat) (X : Cx) : Prop where
  K : G.K = X.K
  u : X.A.units + 64 < cLine
  p : PassesOwn (model X.prog X.w) X.A X.env X.xe
  c : X.calm = true
  t : Takes X W
  r : Room k X.A
  eN : X.N = N
  sk : X.env.scope.kind = .function
  nd : N.Nodup
  loc : ∀ x ∈ N, Loc X.env.scope x ∧ (x == ("__debug__" : Str)) = false ∧ (x == ("__classdict__" : Str)) = false
  fn : ∀ x, X.fn x = true
  gl : ∀ x ∈ gs, Gl X x ∧ (x == ("__debug__" : Str)) = false ∧ x ≠ "__name__"
section
variable {G : GS} {W : WX} {N gs : List Str} {k : Nat} {X : Cx}
theorem Bd.nd' (h : Bd G W N gs k X) : X.N.Nodup := h.eN ▸ h.nd
theorem Bd.at (h : Bd G W N gs k X) {i : Nat} {x : Str} (e : N[i]? = some x) : X.N[i]? = some x := by rw [h.eN]; exact e
theorem Bd.loc' (h : Bd G W N gs k X) {i : Nat} {x : Str} (e : N[i]? = some x) : Loc X.env.scope x := (h.loc x (List.mem_of_getElem? e)).1
theorem Bd.vis (h : Bd G W N gs k X) {i : Nat} {x : Str} (e : N[i]? = some x) : Vis X.env.scope x := (h.loc' e).elim .inl fun z => .inr (.inl z)
theorem Bd.v (h : Bd G W N gs k X) {i : Nat} {x : Str} {pos : Pos} (e : N[i]? = some x) : PE X (.Name x pos) (tE G W (.var i)) :=
  se_var (h.at e) (h.vis e) (h.loc x (List.mem_of_getElem? e)).2.1 (h.loc x (List.mem_of_getElem? e)).2.2
theorem Bd.set (h : Bd G W N gs k X) {i : Nat} {x : Str} {e : Expr} {ie : E} {pos pos' : Pos} (ei : N[i]? = some x) (he : PE X e (tE G W ie)) (hs : swapsWith e (some (.Name x pos')) pos.line X.env = pure false) : PS X (.Assign [.Name x pos'] e pos) (tS G W (.set i ie)) :=
  sp_set h.nd' (h.at ei) (h.loc' ei) he hs (.inl (h.fn x))
theorem Bd.aug (h : Bd G W N gs k X) {i : Nat} {x : Str} {e : Expr} {ie : E} {op : Operator} {bop : BOp} {pos' pos : Pos} (ei : N[i]? = some x) (he : PE X e (tE G W ie)) (ho : PIp X op (ipA G (augV bop))) : PS X (.AugAssign (.Name x pos') op e pos) (tS G W (.aug i bop ie)) :=
  sp_aug h.nd' (h.at ei) (h.loc' ei) he ho (.inl (h.fn x))
theorem Bd.retV (h : Bd G W N gs k X) {i : Nat} {x : Str} {p pos : Pos} (e : N[i]? = some x) : PS X (.Return (some (.Name x p)) pos) (tS G W (.retV i)) :=
  sp_retV (h.at e) (h.vis e) (h.loc x (List.mem_of_getElem? e)).2.1 (h.loc x (List.mem_of_getElem? e)).2.2
theorem Bd.tg (h : Bd G W N gs k X) {i : Nat} {x : Str} {pos : Pos} (e : N[i]? = some x) : TgOk X G (.Name x pos) [i] := tg_name h.nd' (h.at e) (h.loc' e) (.inl (h.fn x))
theorem Bd.tgs (h : Bd G W N gs k X) {i : Nat} {x : Str} {pos : Pos} {es : List Expr} {is : List Nat} (e : N[i]? = some x) (t : TgsOk X G es is) (hs : (assignEach (.Name x pos :: es) X.env).map (·.2) = assign (.Name x pos) X.env :: (assignEach es X.env).map (·.2)) : TgsOk X G (.Name x pos :: es) (i :: is) :=
  tgs_cons h.nd' (h.at e) (h.loc' e) (.inl (h.fn x)) t hs
theorem Bd.tgt (h : Bd G W N gs k X) {es : List Expr} {is : List Nat} {j : Nat} {pos : Pos} (t : TgsOk X G es is) (hl : 2 ≤ is.length) (hn : (assignEach es X.env).length = is.length) (hst : (assignEach es X.env).findIdx? (·.1) = none) : TgOk X G (.Tuple es j pos) is := tg_tup h.c t hl hn hst
theorem Bd.par (h : Bd G W N gs k X) {i j : Nat} {x y : Str} {a b : Expr} {ia ib : E} {px py pt pos : Pos} {kt k2 pt2} (hi : N[i]? = some x) (hj : N[j]? = some y) (hij : i ≠ j) (hx : X.env.scope.names.lookup x = some .local) (hy : X.env.scope.names.lookup y = some .local)
    (ha : PE X a (tE G W ia)) (hb : PE X b (tE G W ib)) (hs1 : starEach [a, b] X.env = (false, eval a X.env) :: starEach [b] X.env) (hs2 : starEach [b] X.env = [(false, eval b X.env)]) (hxy : (x == y) = false) (hl : (py.line == px.line) = true)
    (hst : ([a, b].any fun | .Starred .. => true | _ => false) = false) (hf : [a, b].all (foldedForSure 8) = false) (hca : [a, b].all (constantsAlone 8) = false) :
    PS X (.Assign [.Tuple [.Name x px, .Name y py] kt pt] (.Tuple [a, b] k2 pt2) pos) (tS G W (.par i j ia ib)) :=
  sp_par h.c h.nd' (h.at hi) (h.at hj) hij hx hy ha hb hs1 hs2 (swap_ok (by unfold PySem.Env.blockKind; rw [h.sk]; rfl) hx hy hxy hl hst hf hca) rfl
theorem Bd.whl (h : Bd G W N gs k X) {c : Expr} {body : List Stmt} {ic : T} {ib : Ss} {pos : Pos} (hc : PT X c (tT G W ic)) (hb : PSs X body (tSs G W ib)) : PS X (.While c body [] pos) (tS G W (.whl ic ib)) := sp_while h.p hc hb
theorem Bd.for_ (h : Bd G W N gs k X) {tg iter : Expr} {body : List Stmt} {it : PVL.It} {is : List Nat} {ib : Ss} {pos : Pos} (hi : PI X tg iter (tI G W true it)) (hg : TgOk X G tg is) (hb : PSs X body (tSs G W ib)) (hs : ∀ x, foldedSetIterable iter X.env x = pure x) : PS X (.For tg iter body [] pos) (tS G W (.for_ is it ib)) :=
  sp_forN h.p h.c hi hg hb hs
theorem Bd.forV (h : Bd G W N gs k X) {i : Nat} {x : Str} {tg : Expr} {body : List Stmt} {is : List Nat} {ib : Ss} {p pos : Pos} (e : N[i]? = some x) (hg : TgOk X G tg is) (hb : PSs X body (tSs G W ib)) : PS X (.For tg (.Name x p) body [] pos) (tS G W (.for_ is (.val (.var i)) ib)) :=
  sp_forV h.p h.c (h.at e) (h.vis e) (h.loc x (List.mem_of_getElem? e)).2.1 (h.loc x (List.mem_of_getElem? e)).2.2 hg hb
theorem Bd.g (h : Bd G W N gs k X) {j : Nat} {x : Str} (e : gs[j]? = some x) : Gl X x := (h.gl x (List.mem_of_getElem? e)).1
theorem Bd.gd (h : Bd G W N gs k X) {j : Nat} {x : Str} (e : gs[j]? = some x) : (x == ("__debug__" : Str)) = false := (h.gl x (List.mem_of_getElem? e)).2.1
theorem Bd.gn (h : Bd G W N gs k X) {j : Nat} {x : Str} (e : gs[j]? = some x) : x ≠ "__name__" := (h.gl x (List.mem_of_getElem? e)).2.2
theorem Bd.bf1 (h : Bd G W N gs k X) {j : Nat} {f : BF} {x : Str} {id : String} {e : Expr} {ie : E} {p pos : Pos} (ej : gs[j]? = some x) (hc : CallR X (.builtin id) (rF G (bfV f) .own)) (hm : X.mg x = none) (hv : bootBuiltins x = some (.builtin id)) (he : PE X e (tE G W ie))
    (hs : starEach [e] X.env = [(false, eval e X.env)]) : PE X (.Call (.Name x p) [e] [] pos) (tE G W (.bf1 f ie)) := se_bf1B hc (h.g ej) hm hv he (h.gn ej) (h.gd ej) hs
theorem Bd.bt1 (h : Bd G W N gs k X) {j : Nat} {f : BF} {x : Str} {T : String} {e : Expr} {ie : E} {p pos : Pos} (ej : gs[j]? = some x) (hc : CallR X (.type T) (rF G (bfV f) .own)) (hm : X.mg x = none) (hv : bootBuiltins x = some (.type T)) (he : PE X e (tE G W ie))
    (hs : starEach [e] X.env = [(false, eval e X.env)]) : PE X (.Call (.Name x p) [e] [] pos) (tE G W (.bf1 f ie)) := se_bf1T hc (h.g ej) hm hv he (h.gn ej) (h.gd ej) hs
theorem Bd.bf2 (h : Bd G W N gs k X) {j : Nat} {f : BF} {x : Str} {id : String} {a b : Expr} {ia ib : E} {p pos : Pos} (ej : gs[j]? = some x) (hc : CallR X (.builtin id) (rF G (bfV f) .own)) (hm : X.mg x = none) (hv : bootBuiltins x = some (.builtin id)) (ha : PE X a (tE G W ia)) (hb : PE X b (tE G W ib))
    (hs : starEach [a, b] X.env = (false, eval a X.env) :: starEach [b] X.env) (hs2 : starEach [b] X.env = [(false, eval b X.env)]) : PE X (.Call (.Name x p) [a, b] [] pos) (tE G W (.bf2 f ia ib)) := se_bf2B hc (h.g ej) hm hv ha hb (h.gn ej) (h.gd ej) hs hs2
theorem Bd.ins1 (h : Bd G W N gs k X) {j j2 : Nat} {a : Expr} {x T : Str} {ia : E} {t : Ty} {m : String} {p pt pos : Pos} (ej : gs[j]? = some x) (hm : X.mg x = none) (hv : bootBuiltins x = some (.builtin "isinstance")) (ha : PE X a (tE G W ia))
    (e2 : gs[j2]? = some T) (hmT : X.mg T = none) (hvT : bootBuiltins T = some (.type m)) (ht : Ty.nm t = some m)
    (hs : starEach [a, .Name T pt] X.env = (false, eval a X.env) :: starEach [.Name T pt] X.env) : PE X (.Call (.Name x p) [a, .Name T pt] [] pos) (tE G W (.inst ia [t])) :=
  se_inst1 h.K (h.g ej) hm hv (h.gn ej) (h.gd ej) ha (h.g e2) hmT hvT (h.gn e2) (h.gd e2) ht hs
/-- a def that may be called by its name -/
structure Cal (G : GS) (P : Program) (w : World) (K : PySem.W.Frag) (mg : Str → Option Value) (base : Heap) (k : Nat) (x : Str) (D : Fn) : Prop where
  ex : ∃ (f : Addr) (fd : FuncData) (ps : List Str), FnOk P w K mg base (L2.CX P w) k f fd ps (spOf G D) ∧ mg x = some (.ref f) ∧ PySem.W.keepIn K (.ref f) = true ∧ Binds K fd ps []
theorem Bd.call (h : Bd G W N gs k X) {j kf : Nat} {D : Fn} {e : Expr} {es : List Expr} {ies : Es} {x : Str} {p pos : Pos} (c : Cal G X.prog X.w X.K X.mg X.base kf x D) (hk : kf ≤ k) (ej : gs[j]? = some x) (ha : PA X (e :: es) (tA G W ies))
    (he : starEach (e :: es) X.env = (false, eval e X.env) :: starEach es X.env) (hpl : (backTo pos (starEach es X.env)).any (·.1) = false) : PE X (.Call (.Name x p) (e :: es) [] pos) (tE G W (.call D ies)) := by
  obtain ⟨f, fd, ps, F, hm, kp, b⟩ := c.ex
  exact se_call h.t F (h.r.mono hk) (h.g ej) hm kp b ha (h.gd ej) he hpl
end

theorem small_es {es : Es} (h : Nat.ble (esLen es) 1000 = true) : esLen es ≤ sizeLine := Nat.le_trans (Nat.le_of_ble_eq_true h) (by decide)
def okB (s : Txt) : Bool := decide (s.length ≤ 1000) && s.all fun c => decide (c < 0x110000)
theorem okB_ok {s : Txt} (h : okB s = true) : okT s := by
  unfold okB at h
  rw [Bool.and_eq_true, decide_eq_true_eq, List.all_eq_true] at h
  exact ⟨Nat.le_trans h.1 (by decide), fun c hc => of_decide_eq_true (h.2 c hc)⟩
theorem se_str {G : GS} {W : WX} {X : Cx} {x : Str} {s : Txt} {j : Nat} {pos : Pos} (e : x = mkS s ∧ okB s = true) : PE X (.Constant (.str x) j pos) (tE G W (.con (.str s))) :=
  se_con (v := .str x) pe_str fun Z ι => by rw [e.1]; exact .str _ (okB_ok e.2)
theorem se_int {G : GS} {W : WX} {X : Cx} {i : Int} {j : Nat} {pos : Pos} : PE X (.Constant (.int i) j pos) (tE G W (.con (.int i))) := se_con pe_int fun _ _ => .int _
theorem se_bl {G : GS} {W : WX} {X : Cx} {b : Bool} {j : Nat} {pos : Pos} : PE X (.Constant (.bool b) j pos) (tE G W (.con (.bl b))) := se_con pe_bl fun _ _ => .bl _
theorem se_non {G : GS} {W : WX} {X : Cx} {j : Nat} {pos : Pos} : PE X (.Constant .none j pos) (tE G W (.con .non)) := se_con pe_non fun _ _ => .non

/-! ### a def keeps its promise -/
theorem Ags.len {G : GS} {Z B H : Hp} {ι : List (Addr × Addr)} {ρ : PVL.Env} {σ : L2.St} {vs : List V} {xs : List VM} (h : Ags G Z B H ι ρ σ vs xs) : vs.length = xs.length := by
  induction h with
  | nil => rfl
  | cons _ _ _ _ ih => exact congrArg (· + 1) ih
theorem Ags.get {G : GS} {Z B H : Hp} {ι : List (Addr × Addr)} {vs : List V} {xs : List VM} (h : Ags G Z B H ι [] [] vs xs) : ∀ {i : Nat} {x : PV} {m : Md}, xs[i]? = some (x, m) → ∃ v, vs[i]? = some v ∧ m ≠ .own ∧ SR G Z B H ι v x m := by
  induction h with
  | nil => intro i x m e; simp at e
  | @cons v y m' vs xs h1 h2 h3 _ ih =>
    intro i x m e
    cases i with
    | zero =>
      simp only [List.getElem?_cons_zero, Option.some.injEq, Prod.mk.injEq] at e
      obtain ⟨rfl, rfl⟩ := e
      refine ⟨v, rfl, ?_, ?_⟩
      · rcases h1 with z | z <;> rw [z] <;> decide
      · rcases h1 with z | z
        · subst z; exact h3 rfl
        · subst z
          rcases h2 with z | ⟨i, a, z, _⟩
          · exact z
          · simp at z
    | succ i => exact ih e
/-- a def's names at its entry -/
theorem Sim.enter {G : GS} {Z B H : Hp} {ι : List (Addr × Addr)} {ω : PVL.Store} {vs : List V} {xs : List VM} (S : Sim G Z B H ι ω [] []) (ag : Ags G Z B H ι [] [] vs xs) (n m : Nat) (hn : n = m) : Sim G Z B H ι ω (xs.map some ++ List.replicate n none) (vs.map some ++ List.replicate m none) := by
  subst hn
  have lt : ∀ {i : Nat} {x : PV} {q : Md}, (xs.map some ++ List.replicate n none)[i]? = some (some (x, q)) → xs[i]? = some (x, q) := fun {i x q} e => by
    by_cases hi : i < xs.length
    · rw [List.getElem?_append_left (by simpa using hi), List.getElem?_map] at e
      cases h : xs[i]? with
      | none => rw [h] at e; cases e
      | some y => rw [h] at e; simpa using e
    · rw [List.getElem?_append_right (by simpa using hi)] at e
      rw [List.getElem?_replicate] at e
      split at e <;> cases e
  have oc : ∀ {k a}, owA G H ι ω (xs.map some ++ List.replicate n none) (vs.map some ++ List.replicate n none) k a → owA G H ι ω [] [] k a := by
    intro k a h
    cases k with
    | slot i =>
      obtain ⟨⟨x, e⟩, _⟩ := h
      obtain ⟨v, _, z, _⟩ := ag.get (lt e)
      exact absurd rfl z
    | ins n => exact h
    | dct n => exact h
    | fld n j => exact h
  refine ⟨S.zH, S.bH, S.iL, S.ob, fun i x q e => ?_, by simp only [List.length_append, List.length_map, List.length_replicate]; rw [ag.len], fun k k' a h h' => S.inj k k' a (oc h) (oc h'), fun k a h => S.zno k a (oc h), S.zb⟩
  obtain ⟨v, e1, _, e2⟩ := ag.get (lt e)
  refine ⟨v, ?_, e2⟩
  have hi : i < vs.length := (List.getElem?_eq_some_iff.mp e1).1
  rw [List.getElem?_append_left (by simpa using hi), List.getElem?_map, e1]
  rfl
theorem den_len {np n : Nat} {b : Ss} {xs : List VM} {ω : PVL.Store} {k : VM → PVL.Store → Prop} {x : Nat → List PV → PVL.Store → Prop} (h : RP (den np n b xs ω) k x) : xs.length = np := by
  unfold den at h
  split at h
  · assumption
  · exact h.elim
theorem fn_sim {P : Program} {w : World} {K : PySem.W.Frag} {mg : Str → Option Value} {base : Heap} {G : GS} {x qual : Str} {params : Arguments} {body : List Stmt} {scope : Scope} {f : Addr} {fd : FuncData} {N ps gs : List Str} {k np nn : Nat} {ib : Ss}
    (F : FunD K x qual params body scope [] [] f fd) (S : FnScope N ps scope) (hK : G.K = K) (hn : nmC N gs scope = true) (hnp : ps.length = np) (hnn : N.length = nn)
    (b : ∀ (X : Cx) (W : WX), Bd G W N gs k X → X.prog = P → X.w = w → X.K = K → X.mg = mg → X.base = base → X.env.scope = scope → PSs X body (tSs G W ib)) : FnOk P w K mg base (L2.CX P w) (k + 1) f fd ps (spOf G (den np nn ib)) := by
  refine F.ok S (fun vs H Q E h => ?_) fun cdv A outer s H vs Q E hr h => ?_
  · obtain ⟨Z, B, ι, ω, xs, S, ag, h⟩ := h
    rw [ag.len, den_len h, hnp]
  · unfold nmC at hn
    rw [Bool.and_eq_true, List.all_eq_true, List.all_eq_true] at hn
    refine ⟨tSs G (fun cls d _ H' => E cls d H') ib, b _ (fun cls d _ H' => E cls d H') ⟨hK, (show (A.deeper (envOfC qual scope s.heap.objs.size f cdv)).units + 64 < cLine by have := hr.un; omega), passes_of rfl, rfl, takes_of rfl rfl rfl rfl, hr, rfl, S.kind, S.nd, fun y hy => ?_, fun _ => rfl, fun y hy => ?_⟩ rfl rfl rfl rfl rfl rfl, ?_⟩
    · have z := hn.1 y hy
      simp only [Bool.and_eq_true, Bool.or_eq_true, decide_eq_true_eq, Bool.not_eq_true'] at z
      exact ⟨z.1.1, z.1.2, z.2⟩
    · have z := hn.2 y hy
      simp only [Bool.and_eq_true, decide_eq_true_eq, Bool.not_eq_true', decide_eq_false_iff_not] at z
      exact ⟨z.1.1, z.1.2, z.2⟩
    · obtain ⟨Z, B, ι, ω, xs, S, ag, h⟩ := h
      have hl := den_len h
      unfold den at h
      rw [if_pos hl] at h
      refine ⟨Z, B, ι, ω, _, S.enter ag (nn - np) (N.length - vs.length) (by rw [ag.len, hl, hnn]), ?_⟩
      cases e : exs ib (xs.map some ++ List.replicate (nn - np) none) ω with
      | nx ρ' ω' => rw [e] at h; exact fun H' Z' ι' σ' E' S' => h .non H' Z' ι' E' S'.drop RV.non
      | rt r ω' => rw [e] at h; exact fun v H' Z' ι' E' S' o' => h v H' Z' ι' E' S' o'
      | exc c xs ρ' ω' => rw [e] at h; exact fun cls d H' Z' ι' σ' E' S' => h cls d H' Z' ι' E' S'.drop
      | bk ρ' ω' => rw [e] at h; exact h.elim
      | ct ρ' ω' => rw [e] at h; exact h.elim
      | bad => rw [e] at h; exact h.elim
end PVS


set_option maxHeartbeats 1000000
/-! PVS: the law's end. -/
namespace PVS
open PySem PySem.Spec PyProof.Rows L2 TL PVL
/-- the law's def answers True at every script -/
def LawOk (D : Fn) (n : Nat) : Prop := ∀ ns : List Int, ns.length ≤ n → (∀ z ∈ ns, Builtin.Int.intBits z ≤ 1048576) → ∃ ω, D [(.lst (ns.map .int), .fz)] [] = .ok (.bl true, .fz) ω
/-- no list stands in the written part -/
def noL (K : PySem.W.Frag) : Bool := K.all fun q => match q.2.cls with
  | .type c => !decide (c = "list")
  | _ => true
theorem noL_ok {K : PySem.W.Frag} (h : noL K = true) {a : Addr} {o : Obj} (e : K.lookup a = some o) : o.cls ≠ .type "list" := fun z => by
  have q := List.all_eq_true.mp h (a, o) (He.lookup_mem e)
  rw [z] at q
  simp at q
theorem rvs_ints {G : GS} {Z : Hp} {ι : List (Addr × Addr)} : ∀ ns : List Int, RVs G Z ι (ns.map V.int) (ns.map PV.int)
  | [] => .nil
  | n :: ns => .cons (.int n) (rvs_ints ns)
theorem law_sp {G : GS} {D : Fn} {K : PySem.W.Frag} {H : Hp} {a : Addr} {ns : List Int} {ω : PVL.Store} (h : D [(.lst (ns.map .int), .fz)] [] = .ok (.bl true, .fz) ω) (hO : Only H) (hS : SqL K H a (ns.map V.int)) (hK : noL K = true) :
    spOf G D [.ref a] H (fun v _ => v = .bl true) fun _ _ _ => False := by
  have hr : ∃ o, H a = some (.frz o (.lst (ns.map V.int))) := by
    rcases hS with (q | q) | ⟨o, its, n, q, c, _⟩
    · rcases hO a with z | ⟨o, xs, z⟩
      · rw [q] at z; cases z
      · rw [q] at z; cases z
    · exact q
    · exact absurd c (noL_ok hK q)
  obtain ⟨o, ha⟩ := hr
  refine ⟨H, fun _ => none, [], [], [(.lst (ns.map .int), .fz)], ⟨fun b u e => .inl e, fun b u e => (by cases e), rfl, fun n r e => (by simp at e), fun i x m e => (by simp at e), rfl, fun k k' b h _ => ?_, fun k b h => ?_, fun b u e => (by cases e)⟩, .cons (.inl rfl) (.inl (.inl (.lst (.inr ⟨o, ha⟩) (rvs_ints ns)))) (fun _ => .lst (.inr ⟨o, ha⟩) (rvs_ints ns)) .nil, ?_⟩
  · exfalso
    cases k with
    | slot i => obtain ⟨⟨x, e⟩, _⟩ := h; simp at e
    | ins n => obtain ⟨dx, e⟩ := h; simp at e
    | dct n => obtain ⟨dx, e⟩ := h; simp at e
    | fld n j => obtain ⟨b, dx, C, fs, nm, r, f, x, e, _⟩ := h; simp at e
  · exfalso
    cases k with
    | slot i => obtain ⟨⟨x, e⟩, _⟩ := h; simp at e
    | ins n => obtain ⟨dx, e⟩ := h; simp at e
    | dct n => obtain ⟨dx, e⟩ := h; simp at e
    | fld n j => obtain ⟨b, dx, C, fs, nm, r, f, x, e, _⟩ := h; simp at e
  · rw [h]
    exact fun v H' Z' ι' E' S' o' => (RH.of S'.zH o').bl
theorem cx_none {P : Program} {w : World} {H : Hp} {s : Shared} {e : Value} {s' : Shared} (h : L2.CX P w [] H s (fun _ _ _ => False) e s') : False := by
  obtain ⟨_, _, _, _, _, _, _, _, _, _, _, _, z⟩ := h
  exact z.elim
theorem walk_pv {l : PySem.W.OpenLaw} {n k : Nat} {q : Program} {loose : List Str} {XP : (Str → Option Value) → Heap → Prop} {YP : World → Heap → Prop} {d : DefRec} {x : Str}
    (hn : l.most = some n) (hn2 : n ≤ sizeLine) (hdf : d.params.defaults = []) (hr : Room k callerA)
    (F : ∀ (w : World) (mg : Str → Option Value) (fa : Addr) (h : Heap), YP w h → h.Ns mainGlobals mg → mg d.name = some (.ref fa) →
      ∃ (K : PySem.W.Frag) (fd : FuncData) (G : GS) (D : Fn), K.In h ∧ noL K = true ∧ (∀ (s : Shared) (u : Value), BindsTo s fd ⟨[u], []⟩ [(x, u)]) ∧ LawOk D n ∧
        ∀ base : Heap, K.In base → base.Ns mainGlobals mg → FnOk l.prog w K mg base (L2.CX l.prog w) k fa fd [x] (spOf G D)) :
    PySem.W.WalkO q loose XP YP l.row.toRowW d [] (fun f vs => PySem.call f vs) := by
  refine Att.attach_callB hn hdf fun w s₀ s₁ mg mb fa o pm cd doc a vs ns Gr Y ho hd hcd hmg hobj hints hlen hbits hg => ?_
  obtain ⟨K, fd, G, D, KX, nl, hb, hlaw, hF⟩ := F w mg fa _ Y Gr.T.g hmg
  obtain ⟨ω, hD⟩ := hlaw ns hlen hbits
  exact law_call KX Gr.T.g Gr.T.b Gr.T.builtins Gr.T.nolimit hg hobj hints (Nat.le_trans hlen hn2) hr hF hb (fun H hO hS => law_sp hD hO hS nl) fun H e s' h => cx_none h
/-- the head's hook: facts, defs, no list -/
abbrev hookP (n : Nat) (fa : List He.Fa) (fn : List He.DefD) : PySem.W.Hook := He.hookX n fa fn [] [] noL
def obsP (n : Nat) (fa : List He.Fa) (fn : List He.DefD) (s : PySem.W.SharedT) : He.AlX := He.obsX n fa fn [] [] noL (HandSHeadRun.getT s)
theorem obsP_eq (n : Nat) (fa : List He.Fa) (fn : List He.DefD) (s : PySem.W.SharedT) : obsP n fa fn s = (hookP n fa fn).obs s.abs := He.obsX_eq (HandSHeadRun.getT_eq s)
end PVS

/-! PVL: reckoning with what a def means (core Lean). -/
namespace PVL
/-! ### loops -/
theorem whlN_mono {c : Env → Store → R Bool} {f : Env → Store → F} : ∀ (n : Nat) (ρ : Env) (ω : Store), whlN c f n ρ ω ≠ .bad → whlN c f (n + 1) ρ ω = whlN c f n ρ ω
  | 0, ρ, ω, h => absurd rfl h
  | n + 1, ρ, ω, h => by
    have e1 : whlN c f (n + 1 + 1) ρ ω = (c ρ ω).to ρ fun b ω => if b then (match f ρ ω with
      | .nx ρ ω => whlN c f (n + 1) ρ ω
      | .ct ρ ω => whlN c f (n + 1) ρ ω
      | .bk ρ ω => .nx ρ ω
      | r => r) else .nx ρ ω := rfl
    have e2 : whlN c f (n + 1) ρ ω = (c ρ ω).to ρ fun b ω => if b then (match f ρ ω with
      | .nx ρ ω => whlN c f n ρ ω
      | .ct ρ ω => whlN c f n ρ ω
      | .bk ρ ω => .nx ρ ω
      | r => r) else .nx ρ ω := rfl
    rw [e2] at h
    rw [e1, e2]
    cases ec : c ρ ω with
    | bad => rfl
    | exc c xs ω => rfl
    | ok b ω1 =>
      cases b with
      | false => rfl
      | true =>
        rw [ec] at h
        show (match f ρ ω1 with
          | .nx ρ ω => whlN c f (n + 1) ρ ω
          | .ct ρ ω => whlN c f (n + 1) ρ ω
          | .bk ρ ω => F.nx ρ ω
          | r => r) = (match f ρ ω1 with
          | .nx ρ ω => whlN c f n ρ ω
          | .ct ρ ω => whlN c f n ρ ω
          | .bk ρ ω => F.nx ρ ω
          | r => r)
        have h : (match f ρ ω1 with
          | .nx ρ ω => whlN c f n ρ ω
          | .ct ρ ω => whlN c f n ρ ω
          | .bk ρ ω => F.nx ρ ω
          | r => r) ≠ .bad := h
        cases ef : f ρ ω1 with
        | nx ρ2 ω2 => rw [ef] at h; exact whlN_mono n ρ2 ω2 h
        | ct ρ2 ω2 => rw [ef] at h; exact whlN_mono n ρ2 ω2 h
        | _ => rfl
theorem whlN_le {c : Env → Store → R Bool} {f : Env → Store → F} {n m : Nat} {ρ : Env} {ω : Store} (h : whlN c f n ρ ω ≠ .bad) (hm : n ≤ m) : whlN c f m ρ ω = whlN c f n ρ ω := by
  induction hm with
  | refl => rfl
  | step _ ih => rw [whlN_mono _ _ _ (by rw [ih]; exact h), ih]
theorem whl_of {c : Env → Store → R Bool} {f : Env → Store → F} {n : Nat} {ρ : Env} {ω : Store} (h : whlN c f n ρ ω ≠ .bad) : whl c f ρ ω = whlN c f n ρ ω := by
  have hx : ∃ n, whlN c f n ρ ω ≠ .bad := ⟨n, h⟩
  unfold whl
  rw [dif_pos hx]
  have h2 := Classical.choose_spec hx
  rcases Nat.le_total n (Classical.choose hx) with q | q
  · exact whlN_le h q
  · exact (whlN_le h2 q).symm
theorem whl_eq (c : Env → Store → R Bool) (f : Env → Store → F) (ρ : Env) (ω : Store) : whl c f ρ ω = (c ρ ω).to ρ fun b ω => if b then (match f ρ ω with
      | .nx ρ ω => whl c f ρ ω
      | .ct ρ ω => whl c f ρ ω
      | .bk ρ ω => .nx ρ ω
      | r => r) else .nx ρ ω := by
  have e2 : ∀ n ρ ω, whlN c f (n + 1) ρ ω = (c ρ ω).to ρ fun b ω => if b then (match f ρ ω with
      | .nx ρ ω => whlN c f n ρ ω
      | .ct ρ ω => whlN c f n ρ ω
      | .bk ρ ω => .nx ρ ω
      | r => r) else .nx ρ ω := fun n ρ ω => rfl
  have nb : ∀ ρ ω, (∀ n, whlN c f n ρ ω = .bad) → whl c f ρ ω = .bad := fun ρ ω h => by
    unfold whl
    rw [dif_neg]
    rintro ⟨n, hn⟩
    exact hn (h n)
  have key : ∀ ρ2 ω2, (∃ n, whlN c f n ρ2 ω2 ≠ .bad) ∨ whl c f ρ2 ω2 = .bad := fun ρ2 ω2 => by
    by_cases h : ∃ n, whlN c f n ρ2 ω2 ≠ .bad
    · exact .inl h
    · refine .inr (nb ρ2 ω2 fun n => ?_)
      by_cases h2 : whlN c f n ρ2 ω2 = .bad
      · exact h2
      · exact absurd ⟨n, h2⟩ h
  cases ec : c ρ ω with
  | bad =>
    refine nb ρ ω fun n => ?_
    cases n with
    | zero => rfl
    | succ n => rw [e2, ec]; rfl
  | exc d xs ω1 => rw [whl_of (n := 1) (by rw [e2, ec]; simp [R.to]), e2, ec]; rfl
  | ok b ω1 =>
    cases b with
    | false => rw [whl_of (n := 1) (by rw [e2, ec]; simp [R.to]), e2, ec]; rfl
    | true =>
      show whl c f ρ ω = (match f ρ ω1 with
        | .nx ρ ω => whl c f ρ ω
        | .ct ρ ω => whl c f ρ ω
        | .bk ρ ω => .nx ρ ω
        | r => r)
      have e3 : ∀ n, whlN c f (n + 1) ρ ω = (match f ρ ω1 with
        | .nx ρ ω => whlN c f n ρ ω
        | .ct ρ ω => whlN c f n ρ ω
        | .bk ρ ω => .nx ρ ω
        | r => r) := fun n => by rw [e2, ec]; rfl
      cases ef : f ρ ω1 with
      | nx ρ2 ω2 =>
        rw [ef] at e3
        rcases key ρ2 ω2 with ⟨n, hn⟩ | hb
        · rw [whl_of (n := n + 1) (by rw [e3]; exact hn), e3]; exact (whl_of hn).symm
        · show whl c f ρ ω = whl c f ρ2 ω2
          rw [hb]
          refine nb ρ ω fun n => ?_
          cases n with
          | zero => rfl
          | succ n =>
            rw [e3]
            show whlN c f n ρ2 ω2 = .bad
            by_cases h2 : whlN c f n ρ2 ω2 = .bad
            · exact h2
            · rw [← whl_of h2]; exact hb
      | ct ρ2 ω2 =>
        rw [ef] at e3
        rcases key ρ2 ω2 with ⟨n, hn⟩ | hb
        · rw [whl_of (n := n + 1) (by rw [e3]; exact hn), e3]; exact (whl_of hn).symm
        · show whl c f ρ ω = whl c f ρ2 ω2
          rw [hb]
          refine nb ρ ω fun n => ?_
          cases n with
          | zero => rfl
          | succ n =>
            rw [e3]
            show whlN c f n ρ2 ω2 = .bad
            by_cases h2 : whlN c f n ρ2 ω2 = .bad
            · exact h2
            · rw [← whl_of h2]; exact hb
      | bk ρ2 ω2 => rw [whl_of (n := 1) (by rw [e3, ef]; simp), e3, ef]
      | rt v ω2 => rw [whl_of (n := 1) (by rw [e3, ef]; simp), e3, ef]
      | exc d xs ρ2 ω2 => rw [whl_of (n := 1) (by rw [e3, ef]; simp), e3, ef]
      | bad =>
        refine nb ρ ω fun n => ?_
        cases n with
        | zero => rfl
        | succ n => rw [e3, ef]
/-! ### parts of a suite -/
def Ss.take : Nat → Ss → Ss
  | 0, _ => .nil
  | _, .nil => .nil
  | n + 1, .cons s r => .cons s (Ss.take n r)
def Ss.drop : Nat → Ss → Ss
  | 0, s => s
  | _, .nil => .nil
  | n + 1, .cons _ r => Ss.drop n r
theorem F.seq_seq (f : F) (k l : Env → Store → F) : (f.seq k).seq l = f.seq fun ρ ω => (k ρ ω).seq l := by cases f <;> rfl
theorem F.seq_nx (f : F) : f.seq (fun ρ ω => .nx ρ ω) = f := by cases f <;> rfl
theorem exs_split : ∀ (n : Nat) (s : Ss) (ρ : Env) (ω : Store), exs s ρ ω = (exs (s.take n) ρ ω).seq (exs (s.drop n))
  | 0, s, ρ, ω => by simp [Ss.take, Ss.drop, exs, F.seq]
  | n + 1, .nil, ρ, ω => by simp [Ss.take, Ss.drop, exs, F.seq]
  | n + 1, .cons s r, ρ, ω => by
    simp only [Ss.take, Ss.drop, exs]
    rw [F.seq_seq]
    congr 1
    funext ρ ω
    exact exs_split n r ρ ω
theorem exs_step {n : Nat} {s : Ss} {ρ ρ' : Env} {ω ω' : Store} (h : exs (s.take n) ρ ω = .nx ρ' ω') : exs s ρ ω = exs (s.drop n) ρ' ω' := by rw [exs_split n s, h]; rfl
theorem Ss.drop_drop : ∀ (n m : Nat) (s : Ss), Ss.drop m (Ss.drop n s) = Ss.drop (n + m) s
  | 0, m, s => by rw [Nat.zero_add]; rfl
  | n + 1, 0, s => by cases s <;> rfl
  | n + 1, m + 1, .nil => by rw [Nat.add_right_comm]; rfl
  | n + 1, m + 1, .cons s r => by rw [show n + 1 + (m + 1) = (n + (m + 1)) + 1 by omega]; exact Ss.drop_drop n (m + 1) r
/-! ### numbers -/
theorem log2_lt {n k : Nat} (h : n < 2 ^ k) (hk : 0 < k) : n.log2 < k := by
  by_cases h0 : n = 0
  · subst h0; simpa using hk
  · exact (Nat.log2_lt h0).mpr h
theorem mulOk_of {i j : Int} (hi : i.natAbs < 2 ^ 400000) (hj : j.natAbs < 2 ^ 400000) : mulOk i j = true := by
  unfold mulOk
  have h1 := log2_lt hi (by decide)
  have h2 := log2_lt hj (by decide)
  exact decide_eq_true (by omega)
theorem mulOk_small {i j : Int} {k : Nat} (hk : k ≤ 400000) (hi : i.natAbs < 2 ^ k) (hj : j.natAbs < 2 ^ k) : mulOk i j = true := by
  have q : (2 : Nat) ^ k ≤ 2 ^ 400000 := Nat.pow_le_pow_right (by decide) hk
  exact mulOk_of (Nat.lt_of_lt_of_le hi q) (Nat.lt_of_lt_of_le hj q)
theorem binV_mul {i j : Int} {k : Nat} (hk : k ≤ 400000) (hi : i.natAbs < 2 ^ k) (hj : j.natAbs < 2 ^ k) : binV .mul (.int i) (.int j) = some (.int (i * j)) := by
  show (if mulOk i j then _ else _) = _
  rw [mulOk_small hk hi hj, if_pos rfl]
theorem binV_fdiv {i j : Int} (h0 : 0 < j) (hj : j.natAbs < 2 ^ 9000) : binV .fdiv (.int i) (.int j) = some (.int (i / j)) := by
  show (if 0 < j ∧ j.natAbs.log2 < 9000 then _ else _) = _
  rw [if_pos ⟨h0, log2_lt hj (by decide)⟩]
theorem binV_mod {i j : Int} (h0 : 0 < j) : binV .mod (.int i) (.int j) = some (.int (i % j)) := by
  show (if 0 < j then _ else _) = _
  rw [if_pos h0]
theorem ixAt_nat {n k : Nat} (h : k < n) : ixAt n (k : Int) = some k := by
  unfold ixAt
  rw [if_pos (by omega), if_pos (by omega)]
  simp
end PVL

set_option maxHeartbeats 0
namespace LW
open PySem PySem.Spec PyProof.Rows L2 TL PVL PVS
/-! the text -/
def topS (i : Nat) : Stmt := PySem.Challenge.pw_lackword_k81_shares.main.body.getD i (.Pass ⟨0, 0, 0, 0⟩)
/-! ### _law_pair -/
abbrev s__law_pair : Stmt := topS 8
abbrev n__law_pair : List Str := ["_law_cell", "_law_most", "_law_times"]
abbrev g__law_pair : List Str := []
theorem sc__law_pair : FnScope n__law_pair ["_law_cell"] (defScope s__law_pair) := ⟨rfl, rfl, rfl, by decide +kernel, rfl, by decide +kernel, by decide +kernel⟩
theorem nm__law_pair : nmC n__law_pair g__law_pair (defScope s__law_pair) = true := by decide +kernel
noncomputable def i__law_pair : Ss := (.cons (.set 1 (.idx (.lst (.cons (.con (.int 12)) (.cons (.con (.int 1000)) (.cons (.bin .pow (.con (.int 10)) (.con (.int 40))) .nil)))) (.bin .mod (.var 0) (.con (.int 3))))) (.cons (.set 2 (.idx (.lst (.cons (.con (.int 1)) (.cons (.con (.int 1)) (.cons (.con (.int 6)) (.cons (.bin .pow (.con (.int 10)) (.con (.int 12))) .nil))))) (.bin .mod (.bin .fdiv (.var 0) (.con (.int 3))) (.con (.int 4))))) (.cons (.ret (.tup (.cons (.bin .mul (.bin .mod (.bin .fdiv (.var 0) (.con (.int 12))) (.var 1)) (.var 2)) (.cons (.bin .mul (.bin .add (.con (.int 1)) (.bin .mod (.bin .fdiv (.bin .fdiv (.var 0) (.con (.int 12))) (.var 1)) (.var 1))) (.var 2)) .nil)))) .nil)))
noncomputable def D__law_pair : Fn := den 1 3 i__law_pair
theorem b__law_pair {X : Cx} {G : GS} {W : WX} (h : Bd G W n__law_pair g__law_pair 0 X) (hsc : X.env.scope = defScope s__law_pair) : PSs X (defBody s__law_pair) (tSs G W i__law_pair) :=
  (ss_cons (h.set (i := 1) rfl (se_idx h.u (se_lst (sk_cons se_int (sk_cons se_int (sk_cons (se_bin o_pow se_int se_int) sk_nil rfl) rfl) rfl) (small_es rfl)) (se_bin o_mod (h.v (i := 0) rfl) se_int) fun _ _ => rfl) rfl) (ss_cons (h.set (i := 2) rfl (se_idx h.u (se_lst (sk_cons se_int (sk_cons se_int (sk_cons se_int (sk_cons (se_bin o_pow se_int se_int) sk_nil rfl) rfl) rfl) rfl) (small_es rfl)) (se_bin o_mod (se_bin o_fdiv (h.v (i := 0) rfl) se_int) se_int) fun _ _ => rfl) rfl) (ss_cons (sp_ret (se_tup (sk_cons (se_bin o_mul (se_bin o_mod (se_bin o_fdiv (h.v (i := 0) rfl) se_int) (h.v (i := 1) rfl)) (h.v (i := 2) rfl)) (sk_cons (se_bin o_mul (se_bin o_add se_int (se_bin o_mod (se_bin o_fdiv (se_bin o_fdiv (h.v (i := 0) rfl) se_int) (h.v (i := 1) rfl)) (h.v (i := 1) rfl))) (h.v (i := 2) rfl)) sk_nil rfl) rfl) (small_es rfl))) ss_nil)))
theorem f__law_pair {P : Program} {w : World} {K : PySem.W.Frag} {mg : Str → Option Value} {base : Heap} {G : GS} {f : Addr} {fd : FuncData} (F : FunD K "_law_pair" "_law_pair" (defArgs s__law_pair) (defBody s__law_pair) (defScope s__law_pair) [] [] f fd) (hK : G.K = K) : FnOk P w K mg base (L2.CX P w) 1 f fd ["_law_cell"] (spOf G D__law_pair) :=
  fn_sim F sc__law_pair hK nm__law_pair rfl rfl fun X W h e1 e2 e3 e4 e5 hsc => by subst e1 e2 e3 e4 e5; exact b__law_pair h hsc 
/-! ### _law_left -/
abbrev s__law_left : Stmt := topS 9
abbrev n__law_left : List Str := ["_law_cell"]
abbrev g__law_left : List Str := []
theorem sc__law_left : FnScope n__law_left ["_law_cell"] (defScope s__law_left) := ⟨rfl, rfl, rfl, by decide +kernel, rfl, by decide +kernel, by decide +kernel⟩
theorem nm__law_left : nmC n__law_left g__law_left (defScope s__law_left) = true := by decide +kernel
noncomputable def i__law_left : Ss := (.cons (.ret (.bin .fdiv (.bin .fdiv (.bin .fdiv (.var 0) (.con (.int 12))) (.bin .pow (.con (.int 10)) (.con (.int 40)))) (.bin .pow (.con (.int 10)) (.con (.int 40))))) .nil)
noncomputable def D__law_left : Fn := den 1 1 i__law_left
theorem b__law_left {X : Cx} {G : GS} {W : WX} (h : Bd G W n__law_left g__law_left 0 X) (hsc : X.env.scope = defScope s__law_left) : PSs X (defBody s__law_left) (tSs G W i__law_left) :=
  (ss_cons (sp_ret (se_bin o_fdiv (se_bin o_fdiv (se_bin o_fdiv (h.v (i := 0) rfl) se_int) (se_bin o_pow se_int se_int)) (se_bin o_pow se_int se_int))) ss_nil)
theorem f__law_left {P : Program} {w : World} {K : PySem.W.Frag} {mg : Str → Option Value} {base : Heap} {G : GS} {f : Addr} {fd : FuncData} (F : FunD K "_law_left" "_law_left" (defArgs s__law_left) (defBody s__law_left) (defScope s__law_left) [] [] f fd) (hK : G.K = K) : FnOk P w K mg base (L2.CX P w) 1 f fd ["_law_cell"] (spOf G D__law_left) :=
  fn_sim F sc__law_left hK nm__law_left rfl rfl fun X W h e1 e2 e3 e4 e5 hsc => by subst e1 e2 e3 e4 e5; exact b__law_left h hsc 
/-! ### fraction -/
abbrev s_fraction : Stmt := topS 1
abbrev n_fraction : List Str := ["top", "bottom", "one", "other"]
abbrev g_fraction : List Str := []
theorem sc_fraction : FnScope n_fraction ["top", "bottom"] (defScope s_fraction) := ⟨rfl, rfl, rfl, by decide +kernel, rfl, by decide +kernel, by decide +kernel⟩
theorem nm_fraction : nmC n_fraction g_fraction (defScope s_fraction) = true := by decide +kernel
noncomputable def t0_fraction : T := (.val (.cmp .ne (.var 3) (.con (.int 0))))
noncomputable def w1_fraction : Ss := (.cons (.frz [3] (.par 2 3 (.var 3) (.bin .mod (.var 2) (.var 3)))) .nil)
noncomputable def i_fraction : Ss := (.cons (.frz [0] (.set 2 (.var 0))) (.cons (.frz [1] (.set 3 (.var 1))) (.cons (.whl t0_fraction w1_fraction) (.cons (.ret (.tup (.cons (.bin .fdiv (.var 0) (.var 2)) (.cons (.bin .fdiv (.var 1) (.var 2)) .nil)))) .nil))))
noncomputable def D_fraction : Fn := den 2 4 i_fraction
theorem b_fraction {X : Cx} {G : GS} {W : WX} (h : Bd G W n_fraction g_fraction 0 X) (hsc : X.env.scope = defScope s_fraction) : PSs X (defBody s_fraction) (tSs G W i_fraction) :=
  (ss_cons (sp_frz (is := [0]) (h.set (i := 2) rfl (h.v (i := 0) rfl) rfl)) (ss_cons (sp_frz (is := [1]) (h.set (i := 3) rfl (h.v (i := 1) rfl) rfl)) (ss_cons (h.whl (st_cmp (o_ne h.K h.u) (h.v (i := 3) rfl) se_int rfl) (ss_cons (sp_frz (is := [3]) (h.par (i := 2) (j := 3) rfl rfl (by decide) (by rw [hsc]; decide +kernel) (by rw [hsc]; decide +kernel) (h.v (i := 3) rfl) (se_bin o_mod (h.v (i := 2) rfl) (h.v (i := 3) rfl)) rfl rfl (by decide +kernel) rfl rfl rfl rfl)) ss_nil)) (ss_cons (sp_ret (se_tup (sk_cons (se_bin o_fdiv (h.v (i := 0) rfl) (h.v (i := 2) rfl)) (sk_cons (se_bin o_fdiv (h.v (i := 1) rfl) (h.v (i := 2) rfl)) sk_nil rfl) rfl) (small_es rfl))) ss_nil))))
theorem f_fraction {P : Program} {w : World} {K : PySem.W.Frag} {mg : Str → Option Value} {base : Heap} {G : GS} {f : Addr} {fd : FuncData} (F : FunD K "fraction" "fraction" (defArgs s_fraction) (defBody s_fraction) (defScope s_fraction) [] [] f fd) (hK : G.K = K) : FnOk P w K mg base (L2.CX P w) 1 f fd ["top", "bottom"] (spOf G D_fraction) :=
  fn_sim F sc_fraction hK nm_fraction rfl rfl fun X W h e1 e2 e3 e4 e5 hsc => by subst e1 e2 e3 e4 e5; exact b_fraction h hsc 
/-! ### _law_whole -/
abbrev s__law_whole : Stmt := topS 5
abbrev n__law_whole : List Str := ["_law_thing"]
abbrev g__law_whole : List Str := ["isinstance", "bool", "int"]
theorem sc__law_whole : FnScope n__law_whole ["_law_thing"] (defScope s__law_whole) := ⟨rfl, rfl, rfl, by decide +kernel, rfl, by decide +kernel, by decide +kernel⟩
theorem nm__law_whole : nmC n__law_whole g__law_whole (defScope s__law_whole) = true := by decide +kernel
noncomputable def i__law_whole : Ss := (.cons (.ret (.andV (.inst (.var 0) [.int]) (.notV (.val (.inst (.var 0) [.bool]))))) .nil)
noncomputable def D__law_whole : Fn := den 1 1 i__law_whole
theorem b__law_whole {X : Cx} {G : GS} {W : WX} (h : Bd G W n__law_whole g__law_whole 0 X) (hsc : X.env.scope = defScope s__law_whole) (m_isinstance : X.mg "isinstance" = none) (m_bool : X.mg "bool" = none) (m_int : X.mg "int" = none) : PSs X (defBody s__law_whole) (tSs G W i__law_whole) :=
  (ss_cons (sp_ret (se_and (h.ins1 (j := 0) (j2 := 2) rfl m_isinstance PyProof.Rows.boot_isinstance (h.v (i := 0) rfl) rfl m_int Pv.boot_int rfl rfl) (L2.pe_one (se_notV (h.ins1 (j := 0) (j2 := 1) rfl m_isinstance PyProof.Rows.boot_isinstance (h.v (i := 0) rfl) rfl m_bool Pv.boot_bool rfl rfl))))) ss_nil)
theorem f__law_whole {P : Program} {w : World} {K : PySem.W.Frag} {mg : Str → Option Value} {base : Heap} {G : GS} {f : Addr} {fd : FuncData} (F : FunD K "_law_whole" "_law_whole" (defArgs s__law_whole) (defBody s__law_whole) (defScope s__law_whole) [] [] f fd) (hK : G.K = K) (m_isinstance : mg "isinstance" = none) (m_bool : mg "bool" = none) (m_int : mg "int" = none) : FnOk P w K mg base (L2.CX P w) 1 f fd ["_law_thing"] (spOf G D__law_whole) :=
  fn_sim F sc__law_whole hK nm__law_whole rfl rfl fun X W h e1 e2 e3 e4 e5 hsc => by subst e1 e2 e3 e4 e5; exact b__law_whole h hsc m_isinstance m_bool m_int
/-! ### _law_divides -/
abbrev s__law_divides : Stmt := topS 6
abbrev n__law_divides : List Str := ["_law_one", "_law_other"]
abbrev g__law_divides : List Str := []
theorem sc__law_divides : FnScope n__law_divides ["_law_one", "_law_other"] (defScope s__law_divides) := ⟨rfl, rfl, rfl, by decide +kernel, rfl, by decide +kernel, by decide +kernel⟩
theorem nm__law_divides : nmC n__law_divides g__law_divides (defScope s__law_divides) = true := by decide +kernel
noncomputable def t0__law_divides : T := (.val (.cmp .gt (.var 1) (.con (.int 0))))
noncomputable def w1__law_divides : Ss := (.cons (.frz [1] (.par 0 1 (.var 1) (.bin .mod (.var 0) (.var 1)))) .nil)
noncomputable def i__law_divides : Ss := (.cons (.whl t0__law_divides w1__law_divides) (.cons (.retV 0) .nil))
noncomputable def D__law_divides : Fn := den 2 2 i__law_divides
theorem b__law_divides {X : Cx} {G : GS} {W : WX} (h : Bd G W n__law_divides g__law_divides 0 X) (hsc : X.env.scope = defScope s__law_divides) : PSs X (defBody s__law_divides) (tSs G W i__law_divides) :=
  (ss_cons (h.whl (st_cmp o_gt (h.v (i := 1) rfl) se_int rfl) (ss_cons (sp_frz (is := [1]) (h.par (i := 0) (j := 1) rfl rfl (by decide) (by rw [hsc]; decide +kernel) (by rw [hsc]; decide +kernel) (h.v (i := 1) rfl) (se_bin o_mod (h.v (i := 0) rfl) (h.v (i := 1) rfl)) rfl rfl (by decide +kernel) rfl rfl rfl rfl)) ss_nil)) (ss_cons (h.retV (i := 0) rfl) ss_nil))
theorem f__law_divides {P : Program} {w : World} {K : PySem.W.Frag} {mg : Str → Option Value} {base : Heap} {G : GS} {f : Addr} {fd : FuncData} (F : FunD K "_law_divides" "_law_divides" (defArgs s__law_divides) (defBody s__law_divides) (defScope s__law_divides) [] [] f fd) (hK : G.K = K) : FnOk P w K mg base (L2.CX P w) 1 f fd ["_law_one", "_law_other"] (spOf G D__law_divides) :=
  fn_sim F sc__law_divides hK nm__law_divides rfl rfl fun X W h e1 e2 e3 e4 e5 hsc => by subst e1 e2 e3 e4 e5; exact b__law_divides h hsc 
/-! ### _law_right -/
abbrev s__law_right : Stmt := topS 7
abbrev n__law_right : List Str := ["_law_found", "_law_top", "_law_bottom"]
abbrev g__law_right : List Str := ["_law_whole", "len", "isinstance", "tuple", "_law_divides"]
theorem sc__law_right : FnScope n__law_right ["_law_found", "_law_top", "_law_bottom"] (defScope s__law_right) := ⟨rfl, rfl, rfl, by decide +kernel, rfl, by decide +kernel, by decide +kernel⟩
theorem nm__law_right : nmC n__law_right g__law_right (defScope s__law_right) = true := by decide +kernel
noncomputable def i__law_right : Ss := (.cons (.ifs (.or (.not (.val (.inst (.var 0) [.tuple]))) (.or (.val (.cmp .ne (.bf1 .len (.var 0)) (.con (.int 2)))) (.or (.not (.val (.call D__law_whole (.cons (.idx (.var 0) (.con (.int 0))) .nil)))) (.not (.val (.call D__law_whole (.cons (.idx (.var 0) (.con (.int 1))) .nil))))))) (.cons (.ret (.con (.bl false))) .nil) .nil) (.cons (.ifs (.or (.val (.cmp .lt (.idx (.var 0) (.con (.int 1))) (.con (.int 1)))) (.or (.val (.cmp .lt (.idx (.var 0) (.con (.int 0))) (.con (.int 0)))) (.val (.cmp .ne (.call D__law_divides (.cons (.idx (.var 0) (.con (.int 0))) (.cons (.idx (.var 0) (.con (.int 1))) .nil))) (.con (.int 1)))))) (.cons (.ret (.con (.bl false))) .nil) .nil) (.cons (.ret (.cmp .eq (.bin .mul (.idx (.var 0) (.con (.int 0))) (.var 2)) (.bin .mul (.idx (.var 0) (.con (.int 1))) (.var 1)))) .nil)))
noncomputable def D__law_right : Fn := den 3 3 i__law_right
theorem b__law_right {X : Cx} {G : GS} {W : WX} (h : Bd G W n__law_right g__law_right 1 X) (hsc : X.env.scope = defScope s__law_right) (m_len : X.mg "len" = none) (m_isinstance : X.mg "isinstance" = none) (m_tuple : X.mg "tuple" = none) (c__law_whole : Cal G X.prog X.w X.K X.mg X.base 1 "_law_whole" D__law_whole) (c__law_divides : Cal G X.prog X.w X.K X.mg X.base 1 "_law_divides" D__law_divides) : PSs X (defBody s__law_right) (tSs G W i__law_right) :=
  (ss_cons (sp_if (L2.PW.pt (sw_or (st_not (st_val (h.ins1 (j := 2) (j2 := 3) rfl m_isinstance PyProof.Rows.boot_isinstance (h.v (i := 0) rfl) rfl m_tuple Pv.boot_tuple rfl rfl) fun _ => rfl)) (sw_or (st_cmp (o_ne h.K h.u) (h.bf1 (j := 1) rfl (b_len h.K) m_len boot_len (h.v (i := 0) rfl) rfl) se_int rfl) (sw_or (st_not (st_val (h.call (j := 0) c__law_whole (by decide) rfl (sa_cons (se_idx h.u (h.v (i := 0) rfl) se_int fun _ _ => rfl) sa_nil rfl) rfl rfl) fun _ => rfl)) (sw_or1 (st_not (st_val (h.call (j := 0) c__law_whole (by decide) rfl (sa_cons (se_idx h.u (h.v (i := 0) rfl) se_int fun _ _ => rfl) sa_nil rfl) rfl rfl) fun _ => rfl))))))) (ss_cons (sp_ret se_bl) ss_nil) ss_nil) (ss_cons (sp_if (L2.PW.pt (sw_or (st_cmp o_lt (se_idx h.u (h.v (i := 0) rfl) se_int fun _ _ => rfl) se_int rfl) (sw_or (st_cmp o_lt (se_idx h.u (h.v (i := 0) rfl) se_int fun _ _ => rfl) se_int rfl) (sw_or1 (st_cmp (o_ne h.K h.u) (h.call (j := 4) c__law_divides (by decide) rfl (sa_cons (se_idx h.u (h.v (i := 0) rfl) se_int fun _ _ => rfl) (sa_cons (se_idx h.u (h.v (i := 0) rfl) se_int fun _ _ => rfl) sa_nil rfl) rfl) rfl rfl) se_int rfl))))) (ss_cons (sp_ret se_bl) ss_nil) ss_nil) (ss_cons (sp_ret (se_cmp (o_eq h.K h.u) (se_bin o_mul (se_idx h.u (h.v (i := 0) rfl) se_int fun _ _ => rfl) (h.v (i := 2) rfl)) (se_bin o_mul (se_idx h.u (h.v (i := 0) rfl) se_int fun _ _ => rfl) (h.v (i := 1) rfl)) rfl)) ss_nil)))
theorem f__law_right {P : Program} {w : World} {K : PySem.W.Frag} {mg : Str → Option Value} {base : Heap} {G : GS} {f : Addr} {fd : FuncData} (F : FunD K "_law_right" "_law_right" (defArgs s__law_right) (defBody s__law_right) (defScope s__law_right) [] [] f fd) (hK : G.K = K) (m_len : mg "len" = none) (m_isinstance : mg "isinstance" = none) (m_tuple : mg "tuple" = none) (c__law_whole : Cal G P w K mg base 1 "_law_whole" D__law_whole) (c__law_divides : Cal G P w K mg base 1 "_law_divides" D__law_divides) : FnOk P w K mg base (L2.CX P w) 2 f fd ["_law_found", "_law_top", "_law_bottom"] (spOf G D__law_right) :=
  fn_sim F sc__law_right hK nm__law_right rfl rfl fun X W h e1 e2 e3 e4 e5 hsc => by subst e1 e2 e3 e4 e5; exact b__law_right h hsc m_len m_isinstance m_tuple c__law_whole c__law_divides
/-! ### plus -/
abbrev s_plus : Stmt := topS 2
abbrev n_plus : List Str := ["one", "other"]
abbrev g_plus : List Str := ["fraction"]
theorem sc_plus : FnScope n_plus ["one", "other"] (defScope s_plus) := ⟨rfl, rfl, rfl, by decide +kernel, rfl, by decide +kernel, by decide +kernel⟩
theorem nm_plus : nmC n_plus g_plus (defScope s_plus) = true := by decide +kernel
noncomputable def i_plus : Ss := (.cons (.ret (.call D_fraction (.cons (.bin .add (.bin .mul (.idx (.var 0) (.con (.int 0))) (.idx (.var 1) (.con (.int 1)))) (.bin .mul (.idx (.var 1) (.con (.int 0))) (.idx (.var 0) (.con (.int 1))))) (.cons (.bin .mul (.idx (.var 0) (.con (.int 1))) (.idx (.var 1) (.con (.int 1)))) .nil)))) .nil)
noncomputable def D_plus : Fn := den 2 2 i_plus
theorem b_plus {X : Cx} {G : GS} {W : WX} (h : Bd G W n_plus g_plus 1 X) (hsc : X.env.scope = defScope s_plus) (c_fraction : Cal G X.prog X.w X.K X.mg X.base 1 "fraction" D_fraction) : PSs X (defBody s_plus) (tSs G W i_plus) :=
  (ss_cons (sp_ret (h.call (j := 0) c_fraction (by decide) rfl (sa_cons (se_bin o_add (se_bin o_mul (se_idx h.u (h.v (i := 0) rfl) se_int fun _ _ => rfl) (se_idx h.u (h.v (i := 1) rfl) se_int fun _ _ => rfl)) (se_bin o_mul (se_idx h.u (h.v (i := 1) rfl) se_int fun _ _ => rfl) (se_idx h.u (h.v (i := 0) rfl) se_int fun _ _ => rfl))) (sa_cons (se_bin o_mul (se_idx h.u (h.v (i := 0) rfl) se_int fun _ _ => rfl) (se_idx h.u (h.v (i := 1) rfl) se_int fun _ _ => rfl)) sa_nil rfl) rfl) rfl rfl)) ss_nil)
theorem f_plus {P : Program} {w : World} {K : PySem.W.Frag} {mg : Str → Option Value} {base : Heap} {G : GS} {f : Addr} {fd : FuncData} (F : FunD K "plus" "plus" (defArgs s_plus) (defBody s_plus) (defScope s_plus) [] [] f fd) (hK : G.K = K) (c_fraction : Cal G P w K mg base 1 "fraction" D_fraction) : FnOk P w K mg base (L2.CX P w) 2 f fd ["one", "other"] (spOf G D_plus) :=
  fn_sim F sc_plus hK nm_plus rfl rfl fun X W h e1 e2 e3 e4 e5 hsc => by subst e1 e2 e3 e4 e5; exact b_plus h hsc c_fraction
/-! ### below -/
abbrev s_below : Stmt := topS 3
abbrev n_below : List Str := ["one", "other"]
abbrev g_below : List Str := []
theorem sc_below : FnScope n_below ["one", "other"] (defScope s_below) := ⟨rfl, rfl, rfl, by decide +kernel, rfl, by decide +kernel, by decide +kernel⟩
theorem nm_below : nmC n_below g_below (defScope s_below) = true := by decide +kernel
noncomputable def i_below : Ss := (.cons (.ret (.cmp .lt (.bin .mul (.idx (.var 0) (.con (.int 0))) (.idx (.var 1) (.con (.int 1)))) (.bin .mul (.idx (.var 1) (.con (.int 0))) (.idx (.var 0) (.con (.int 1)))))) .nil)
noncomputable def D_below : Fn := den 2 2 i_below
theorem b_below {X : Cx} {G : GS} {W : WX} (h : Bd G W n_below g_below 0 X) (hsc : X.env.scope = defScope s_below) : PSs X (defBody s_below) (tSs G W i_below) :=
  (ss_cons (sp_ret (se_cmp o_lt (se_bin o_mul (se_idx h.u (h.v (i := 0) rfl) se_int fun _ _ => rfl) (se_idx h.u (h.v (i := 1) rfl) se_int fun _ _ => rfl)) (se_bin o_mul (se_idx h.u (h.v (i := 1) rfl) se_int fun _ _ => rfl) (se_idx h.u (h.v (i := 0) rfl) se_int fun _ _ => rfl)) rfl)) ss_nil)
theorem f_below {P : Program} {w : World} {K : PySem.W.Frag} {mg : Str → Option Value} {base : Heap} {G : GS} {f : Addr} {fd : FuncData} (F : FunD K "below" "below" (defArgs s_below) (defBody s_below) (defScope s_below) [] [] f fd) (hK : G.K = K) : FnOk P w K mg base (L2.CX P w) 1 f fd ["one", "other"] (spOf G D_below) :=
  fn_sim F sc_below hK nm_below rfl rfl fun X W h e1 e2 e3 e4 e5 hsc => by subst e1 e2 e3 e4 e5; exact b_below h hsc 
/-! ### law -/
abbrev s_law : Stmt := topS 10
abbrev n_law : List Str := ["_law_script", "_law_k", "_law_cell", "_law_top", "_law_bottom", "_law_other", "_law_under", "_law_one", "_law_two", "_law_found"]
abbrev g_law : List Str := ["enumerate", "_law_pair", "_law_left", "int", "fraction", "_law_right", "plus", "below", "isinstance", "bool"]
theorem sc_law : FnScope n_law ["_law_script"] (defScope s_law) := ⟨rfl, rfl, rfl, by decide +kernel, rfl, by decide +kernel, by decide +kernel⟩
theorem nm_law : nmC n_law g_law (defScope s_law) = true := by decide +kernel
noncomputable def w0_law : Ss := (.cons (.setT [3, 4] (.call D__law_pair (.cons (.var 2) .nil))) (.cons (.setT [5, 6] (.call D__law_pair (.cons (.idx (.lst (.cons (.call D__law_left (.cons (.var 2) .nil)) (.cons (.bin .add (.bin .fdiv (.var 2) (.con (.int 7))) (.var 1)) .nil))) (.bf1 .int (.cmp .eq (.bin .mod (.bin .fdiv (.var 2) (.con (.int 12))) (.con (.int 2))) (.con (.int 0))))) .nil))) (.cons (.ifs (.val (.cmp .eq (.bin .mod (.bin .fdiv (.var 2) (.con (.int 24))) (.con (.int 5))) (.con (.int 3)))) (.cons (.par 5 6 (.bin .mul (.con (.int 3)) (.var 3)) (.bin .mul (.con (.int 3)) (.var 4))) .nil) .nil) (.cons (.set 7 (.call D_fraction (.cons (.var 3) (.cons (.var 4) .nil)))) (.cons (.set 8 (.call D_fraction (.cons (.var 5) (.cons (.var 6) .nil)))) (.cons (.ifs (.or (.not (.val (.call D__law_right (.cons (.var 7) (.cons (.var 3) (.cons (.var 4) .nil)))))) (.not (.val (.call D__law_right (.cons (.var 8) (.cons (.var 5) (.cons (.var 6) .nil))))))) (.cons (.ret (.con (.bl false))) .nil) .nil) (.cons (.ifs (.not (.val (.call D__law_right (.cons (.call D_plus (.cons (.var 7) (.cons (.var 8) .nil))) (.cons (.bin .add (.bin .mul (.var 3) (.var 6)) (.bin .mul (.var 5) (.var 4))) (.cons (.bin .mul (.var 4) (.var 6)) .nil)))))) (.cons (.ret (.con (.bl false))) .nil) .nil) (.cons (.set 9 (.lst (.cons (.call D_below (.cons (.var 7) (.cons (.var 8) .nil))) (.cons (.call D_below (.cons (.var 8) (.cons (.var 7) .nil))) (.cons (.call D_below (.cons (.var 7) (.cons (.var 7) .nil))) .nil))))) (.cons (.ifs (.val (.cmp .ne (.var 9) (.lst (.cons (.cmp .lt (.bin .mul (.var 3) (.var 6)) (.bin .mul (.var 5) (.var 4))) (.cons (.cmp .lt (.bin .mul (.var 5) (.var 4)) (.bin .mul (.var 3) (.var 6))) (.cons (.con (.bl false)) .nil)))))) (.cons (.ret (.con (.bl false))) .nil) .nil) (.cons (.ifs (.or (.not (.val (.inst (.idx (.var 9) (.con (.int 0))) [.bool]))) (.or (.not (.val (.inst (.idx (.var 9) (.con (.int 1))) [.bool]))) (.val (.cmp .ne (.call D_plus (.cons (.var 7) (.cons (.var 8) .nil))) (.call D_plus (.cons (.var 8) (.cons (.var 7) .nil))))))) (.cons (.ret (.con (.bl false))) .nil) .nil) .nil))))))))))
noncomputable def i_law : Ss := (.cons (.for_ [1, 2] (.enum (.bin .add (.slc (.var 0) (.con .non) (.con (.int 30))) (.lst (.cons (.con (.int 2731)) .nil)))) w0_law) (.cons (.ret (.andV (.cmp .eq (.call D_fraction (.cons (.con (.int 0)) (.cons (.con (.int 7)) .nil))) (.tup (.cons (.con (.int 0)) (.cons (.con (.int 1)) .nil)))) (.cmp .eq (.call D_plus (.cons (.tup (.cons (.con (.int 0)) (.cons (.con (.int 1)) .nil))) (.cons (.tup (.cons (.con (.int 1)) (.cons (.con (.int 4)) .nil))) .nil))) (.tup (.cons (.con (.int 1)) (.cons (.con (.int 4)) .nil)))))) .nil))
noncomputable def D_law : Fn := den 1 10 i_law
theorem b_law {X : Cx} {G : GS} {W : WX} (h : Bd G W n_law g_law 2 X) (hsc : X.env.scope = defScope s_law) (m_enumerate : X.mg "enumerate" = none) (m_int : X.mg "int" = none) (m_isinstance : X.mg "isinstance" = none) (m_bool : X.mg "bool" = none) (c__law_pair : Cal G X.prog X.w X.K X.mg X.base 1 "_law_pair" D__law_pair) (c__law_left : Cal G X.prog X.w X.K X.mg X.base 1 "_law_left" D__law_left) (c_fraction : Cal G X.prog X.w X.K X.mg X.base 1 "fraction" D_fraction) (c__law_right : Cal G X.prog X.w X.K X.mg X.base 2 "_law_right" D__law_right) (c_plus : Cal G X.prog X.w X.K X.mg X.base 2 "plus" D_plus) (c_below : Cal G X.prog X.w X.K X.mg X.base 1 "below" D_below) : PSs X (defBody s_law) (tSs G W i_law) :=
  (ss_cons (h.for_ (si_enum (h.g (j := 0) rfl) m_enumerate (se_bin o_add (se_slc h.K (h.v (i := 0) rfl) spo_none (spo_some se_int)) (se_lst (sk_cons se_int sk_nil rfl) (small_es rfl))) rfl) (h.tgt (h.tgs rfl (h.tgs rfl tgs_nil rfl) rfl) (by decide) rfl rfl) (ss_cons (sp_setT (h.call (j := 1) c__law_pair (by decide) rfl (sa_cons (h.v (i := 2) rfl) sa_nil rfl) rfl rfl) (h.tgt (h.tgs rfl (h.tgs rfl tgs_nil rfl) rfl) (by decide) rfl rfl) (by decide) rfl rfl rfl) (ss_cons (sp_setT (h.call (j := 1) c__law_pair (by decide) rfl (sa_cons (se_idx h.u (se_lst (sk_cons (h.call (j := 2) c__law_left (by decide) rfl (sa_cons (h.v (i := 2) rfl) sa_nil rfl) rfl rfl) (sk_cons (se_bin o_add (se_bin o_fdiv (h.v (i := 2) rfl) se_int) (h.v (i := 1) rfl)) sk_nil rfl) rfl) (small_es rfl)) (h.bt1 (j := 3) rfl b_int m_int Pv.boot_int (se_cmp (o_eq h.K h.u) (se_bin o_mod (se_bin o_fdiv (h.v (i := 2) rfl) se_int) se_int) se_int rfl) rfl) fun _ _ => rfl) sa_nil rfl) rfl rfl) (h.tgt (h.tgs rfl (h.tgs rfl tgs_nil rfl) rfl) (by decide) rfl rfl) (by decide) rfl rfl rfl) (ss_cons (sp_if (st_cmp (o_eq h.K h.u) (se_bin o_mod (se_bin o_fdiv (h.v (i := 2) rfl) se_int) se_int) se_int rfl) (ss_cons (h.par (i := 5) (j := 6) rfl rfl (by decide) (by rw [hsc]; decide +kernel) (by rw [hsc]; decide +kernel) (se_bin o_mul se_int (h.v (i := 3) rfl)) (se_bin o_mul se_int (h.v (i := 4) rfl)) rfl rfl (by decide +kernel) rfl rfl rfl rfl) ss_nil) ss_nil) (ss_cons (h.set (i := 7) rfl (h.call (j := 4) c_fraction (by decide) rfl (sa_cons (h.v (i := 3) rfl) (sa_cons (h.v (i := 4) rfl) sa_nil rfl) rfl) rfl rfl) rfl) (ss_cons (h.set (i := 8) rfl (h.call (j := 4) c_fraction (by decide) rfl (sa_cons (h.v (i := 5) rfl) (sa_cons (h.v (i := 6) rfl) sa_nil rfl) rfl) rfl rfl) rfl) (ss_cons (sp_if (L2.PW.pt (sw_or (st_not (st_val (h.call (j := 5) c__law_right (by decide) rfl (sa_cons (h.v (i := 7) rfl) (sa_cons (h.v (i := 3) rfl) (sa_cons (h.v (i := 4) rfl) sa_nil rfl) rfl) rfl) rfl rfl) fun _ => rfl)) (sw_or1 (st_not (st_val (h.call (j := 5) c__law_right (by decide) rfl (sa_cons (h.v (i := 8) rfl) (sa_cons (h.v (i := 5) rfl) (sa_cons (h.v (i := 6) rfl) sa_nil rfl) rfl) rfl) rfl rfl) fun _ => rfl))))) (ss_cons (sp_ret se_bl) ss_nil) ss_nil) (ss_cons (sp_if (st_not (st_val (h.call (j := 5) c__law_right (by decide) rfl (sa_cons (h.call (j := 6) c_plus (by decide) rfl (sa_cons (h.v (i := 7) rfl) (sa_cons (h.v (i := 8) rfl) sa_nil rfl) rfl) rfl rfl) (sa_cons (se_bin o_add (se_bin o_mul (h.v (i := 3) rfl) (h.v (i := 6) rfl)) (se_bin o_mul (h.v (i := 5) rfl) (h.v (i := 4) rfl))) (sa_cons (se_bin o_mul (h.v (i := 4) rfl) (h.v (i := 6) rfl)) sa_nil rfl) rfl) rfl) rfl rfl) fun _ => rfl)) (ss_cons (sp_ret se_bl) ss_nil) ss_nil) (ss_cons (h.set (i := 9) rfl (se_lst (sk_cons (h.call (j := 7) c_below (by decide) rfl (sa_cons (h.v (i := 7) rfl) (sa_cons (h.v (i := 8) rfl) sa_nil rfl) rfl) rfl rfl) (sk_cons (h.call (j := 7) c_below (by decide) rfl (sa_cons (h.v (i := 8) rfl) (sa_cons (h.v (i := 7) rfl) sa_nil rfl) rfl) rfl rfl) (sk_cons (h.call (j := 7) c_below (by decide) rfl (sa_cons (h.v (i := 7) rfl) (sa_cons (h.v (i := 7) rfl) sa_nil rfl) rfl) rfl rfl) sk_nil rfl) rfl) rfl) (small_es rfl)) rfl) (ss_cons (sp_if (st_cmp (o_ne h.K h.u) (h.v (i := 9) rfl) (se_lst (sk_cons (se_cmp o_lt (se_bin o_mul (h.v (i := 3) rfl) (h.v (i := 6) rfl)) (se_bin o_mul (h.v (i := 5) rfl) (h.v (i := 4) rfl)) rfl) (sk_cons (se_cmp o_lt (se_bin o_mul (h.v (i := 5) rfl) (h.v (i := 4) rfl)) (se_bin o_mul (h.v (i := 3) rfl) (h.v (i := 6) rfl)) rfl) (sk_cons se_bl sk_nil rfl) rfl) rfl) (small_es rfl)) rfl) (ss_cons (sp_ret se_bl) ss_nil) ss_nil) (ss_cons (sp_if (L2.PW.pt (sw_or (st_not (st_val (h.ins1 (j := 8) (j2 := 9) rfl m_isinstance PyProof.Rows.boot_isinstance (se_idx h.u (h.v (i := 9) rfl) se_int fun _ _ => rfl) rfl m_bool Pv.boot_bool rfl rfl) fun _ => rfl)) (sw_or (st_not (st_val (h.ins1 (j := 8) (j2 := 9) rfl m_isinstance PyProof.Rows.boot_isinstance (se_idx h.u (h.v (i := 9) rfl) se_int fun _ _ => rfl) rfl m_bool Pv.boot_bool rfl rfl) fun _ => rfl)) (sw_or1 (st_cmp (o_ne h.K h.u) (h.call (j := 6) c_plus (by decide) rfl (sa_cons (h.v (i := 7) rfl) (sa_cons (h.v (i := 8) rfl) sa_nil rfl) rfl) rfl rfl) (h.call (j := 6) c_plus (by decide) rfl (sa_cons (h.v (i := 8) rfl) (sa_cons (h.v (i := 7) rfl) sa_nil rfl) rfl) rfl rfl) rfl))))) (ss_cons (sp_ret se_bl) ss_nil) ss_nil) ss_nil)))))))))) fun _ => rfl) (ss_cons (sp_ret (se_and (se_cmp (o_eq h.K h.u) (h.call (j := 4) c_fraction (by decide) rfl (sa_cons se_int (sa_cons se_int sa_nil rfl) rfl) rfl rfl) (se_tup (sk_cons se_int (sk_cons se_int sk_nil rfl) rfl) (small_es rfl)) rfl) (L2.pe_one (se_cmp (o_eq h.K h.u) (h.call (j := 6) c_plus (by decide) rfl (sa_cons (se_tup (sk_cons se_int (sk_cons se_int sk_nil rfl) rfl) (small_es rfl)) (sa_cons (se_tup (sk_cons se_int (sk_cons se_int sk_nil rfl) rfl) (small_es rfl)) sa_nil rfl) rfl) rfl rfl) (se_tup (sk_cons se_int (sk_cons se_int sk_nil rfl) rfl) (small_es rfl)) rfl)))) ss_nil))
theorem f_law {P : Program} {w : World} {K : PySem.W.Frag} {mg : Str → Option Value} {base : Heap} {G : GS} {f : Addr} {fd : FuncData} (F : FunD K "law" "law" (defArgs s_law) (defBody s_law) (defScope s_law) [] [] f fd) (hK : G.K = K) (m_enumerate : mg "enumerate" = none) (m_int : mg "int" = none) (m_isinstance : mg "isinstance" = none) (m_bool : mg "bool" = none) (c__law_pair : Cal G P w K mg base 1 "_law_pair" D__law_pair) (c__law_left : Cal G P w K mg base 1 "_law_left" D__law_left) (c_fraction : Cal G P w K mg base 1 "fraction" D_fraction) (c__law_right : Cal G P w K mg base 2 "_law_right" D__law_right) (c_plus : Cal G P w K mg base 2 "plus" D_plus) (c_below : Cal G P w K mg base 1 "below" D_below) : FnOk P w K mg base (L2.CX P w) 3 f fd ["_law_script"] (spOf G D_law) :=
  fn_sim F sc_law hK nm_law rfl rfl fun X W h e1 e2 e3 e4 e5 hsc => by subst e1 e2 e3 e4 e5; exact b_law h hsc m_enumerate m_int m_isinstance m_bool c__law_pair c__law_left c_fraction c__law_right c_plus c_below
/-! ### the head -/
def d__law_pair : He.DefD := ⟨("_law_pair", none), "_law_pair", "_law_pair", defArgs s__law_pair, defBody s__law_pair, defScope s__law_pair, [], []⟩
def d__law_left : He.DefD := ⟨("_law_left", none), "_law_left", "_law_left", defArgs s__law_left, defBody s__law_left, defScope s__law_left, [], []⟩
def d_fraction : He.DefD := ⟨("fraction", none), "fraction", "fraction", defArgs s_fraction, defBody s_fraction, defScope s_fraction, [], []⟩
def d__law_whole : He.DefD := ⟨("_law_whole", none), "_law_whole", "_law_whole", defArgs s__law_whole, defBody s__law_whole, defScope s__law_whole, [], []⟩
def d__law_divides : He.DefD := ⟨("_law_divides", none), "_law_divides", "_law_divides", defArgs s__law_divides, defBody s__law_divides, defScope s__law_divides, [], []⟩
def d__law_right : He.DefD := ⟨("_law_right", none), "_law_right", "_law_right", defArgs s__law_right, defBody s__law_right, defScope s__law_right, [], []⟩
def d_plus : He.DefD := ⟨("plus", none), "plus", "plus", defArgs s_plus, defBody s_plus, defScope s_plus, [], []⟩
def d_below : He.DefD := ⟨("below", none), "below", "below", defArgs s_below, defBody s_below, defScope s_below, [], []⟩
def d_law : He.DefD := ⟨("law", none), "law", "law", defArgs s_law, defBody s_law, defScope s_law, [], []⟩
def fns : List He.DefD := [d__law_pair, d__law_left, d_fraction, d__law_whole, d__law_divides, d__law_right, d_plus, d_below, d_law]
def fas : List He.Fa := [.glo "_law_pair", .glo "_law_left", .glo "fraction", .glo "_law_whole", .glo "_law_divides", .glo "_law_right", .glo "plus", .glo "below", .glo "law", .free "isinstance", .free "bool", .free "int", .free "len", .free "tuple", .free "enumerate"]
abbrev R : PySem.W.OpenRow := PySem.W.OpenLaw.row PySem.Challenge.rw_lackword_k81_shares
abbrev hk : PySem.W.Hook := hookP 4 fas fns
def ob (s : PySem.W.SharedT) : He.AlX := obsP 4 fas fns s
theorem ob_eq (s : PySem.W.SharedT) : ob s = hk.obs s.abs := obsP_eq 4 fas fns s
def loose : List Str := ["fraction", "plus", "below", "_law_whole", "_law_divides", "_law_right", "_law_pair", "_law_left"]
theorem run (w : World) : HandSHeadRun.RunEq R (PySem.W.view R.prog [10]) hk ob 4000 loose w := by
  intro os
  kernel_rfl
def GK (K : PySem.W.Frag) : GS := { K := K, cl := fun _ => 0, fnm := fun n => ⟨#[n]⟩, xcl := fun _ => 0, xfs := fun _ => [], inj := fun f g e => by simpa using e }
theorem facts (hlaw : LawOk D_law 63) {P : Program} {w : World} {K : PySem.W.Frag} {h : Heap} {mg : Str → Option Value} {f : Addr} (X : K.In h) (G : h.Ns mainGlobals mg) (hfa : mg ("law" : Str) = some (.ref f)) (c : He.SaysD fas fns K) :
    ∃ fd : FuncData, (∀ (s : Shared) (v : Value), BindsTo s fd ⟨[v], []⟩ [("_law_script", v)]) ∧ ∀ base : Heap, K.In base → base.Ns mainGlobals mg → FnOk P w K mg base (L2.CX P w) 3 f fd ["_law_script"] (spOf (GK K) D_law) := by
  obtain ⟨fd__law_pair, F__law_pair⟩ := c.def_ 0 (d := d__law_pair) rfl
  have e__law_pair := He.glo_ok X G (c.fact 0 (f := .glo "_law_pair") rfl)
  obtain ⟨fd__law_left, F__law_left⟩ := c.def_ 1 (d := d__law_left) rfl
  have e__law_left := He.glo_ok X G (c.fact 1 (f := .glo "_law_left") rfl)
  obtain ⟨fd_fraction, F_fraction⟩ := c.def_ 2 (d := d_fraction) rfl
  have e_fraction := He.glo_ok X G (c.fact 2 (f := .glo "fraction") rfl)
  obtain ⟨fd__law_whole, F__law_whole⟩ := c.def_ 3 (d := d__law_whole) rfl
  have e__law_whole := He.glo_ok X G (c.fact 3 (f := .glo "_law_whole") rfl)
  obtain ⟨fd__law_divides, F__law_divides⟩ := c.def_ 4 (d := d__law_divides) rfl
  have e__law_divides := He.glo_ok X G (c.fact 4 (f := .glo "_law_divides") rfl)
  obtain ⟨fd__law_right, F__law_right⟩ := c.def_ 5 (d := d__law_right) rfl
  have e__law_right := He.glo_ok X G (c.fact 5 (f := .glo "_law_right") rfl)
  obtain ⟨fd_plus, F_plus⟩ := c.def_ 6 (d := d_plus) rfl
  have e_plus := He.glo_ok X G (c.fact 6 (f := .glo "plus") rfl)
  obtain ⟨fd_below, F_below⟩ := c.def_ 7 (d := d_below) rfl
  have e_below := He.glo_ok X G (c.fact 7 (f := .glo "below") rfl)
  obtain ⟨fd_law, F_law⟩ := c.def_ 8 (d := d_law) rfl
  have e_law := He.glo_ok X G (c.fact 8 (f := .glo "law") rfl)
  have m_isinstance := He.free_ok X G (c.fact 9 (f := .free "isinstance") rfl)
  have m_bool := He.free_ok X G (c.fact 10 (f := .free "bool") rfl)
  have m_int := He.free_ok X G (c.fact 11 (f := .free "int") rfl)
  have m_len := He.free_ok X G (c.fact 12 (f := .free "len") rfl)
  have m_tuple := He.free_ok X G (c.fact 13 (f := .free "tuple") rfl)
  have m_enumerate := He.free_ok X G (c.fact 14 (f := .free "enumerate") rfl)
  cases hfa.symm.trans e_law
  refine ⟨fd_law, fun s v => FunD.bindsA (ps := ["_law_script"]) F_law (fun _ _ _ _ _ _ us hl => match us, hl with | [_], _ => rfl) s [v] rfl, fun base _ _ => ?_⟩
  have c__law_pair : Cal (GK K) P w K mg base 1 "_law_pair" D__law_pair := ⟨_, fd__law_pair, ["_law_cell"], f__law_pair (P := P) (w := w) (base := base) (G := GK K) F__law_pair rfl , e__law_pair, F__law_pair.kp, FunD.bindsN F__law_pair fun _ _ _ _ _ _ us hl => match us, hl with | [_], _ => rfl⟩
  have c__law_left : Cal (GK K) P w K mg base 1 "_law_left" D__law_left := ⟨_, fd__law_left, ["_law_cell"], f__law_left (P := P) (w := w) (base := base) (G := GK K) F__law_left rfl , e__law_left, F__law_left.kp, FunD.bindsN F__law_left fun _ _ _ _ _ _ us hl => match us, hl with | [_], _ => rfl⟩
  have c_fraction : Cal (GK K) P w K mg base 1 "fraction" D_fraction := ⟨_, fd_fraction, ["top", "bottom"], f_fraction (P := P) (w := w) (base := base) (G := GK K) F_fraction rfl , e_fraction, F_fraction.kp, FunD.bindsN F_fraction fun _ _ _ _ _ _ us hl => match us, hl with | [_, _], _ => rfl⟩
  have c__law_whole : Cal (GK K) P w K mg base 1 "_law_whole" D__law_whole := ⟨_, fd__law_whole, ["_law_thing"], f__law_whole (P := P) (w := w) (base := base) (G := GK K) F__law_whole rfl m_isinstance m_bool m_int, e__law_whole, F__law_whole.kp, FunD.bindsN F__law_whole fun _ _ _ _ _ _ us hl => match us, hl with | [_], _ => rfl⟩
  have c__law_divides : Cal (GK K) P w K mg base 1 "_law_divides" D__law_divides := ⟨_, fd__law_divides, ["_law_one", "_law_other"], f__law_divides (P := P) (w := w) (base := base) (G := GK K) F__law_divides rfl , e__law_divides, F__law_divides.kp, FunD.bindsN F__law_divides fun _ _ _ _ _ _ us hl => match us, hl with | [_, _], _ => rfl⟩
  have c__law_right : Cal (GK K) P w K mg base 2 "_law_right" D__law_right := ⟨_, fd__law_right, ["_law_found", "_law_top", "_law_bottom"], f__law_right (P := P) (w := w) (base := base) (G := GK K) F__law_right rfl m_len m_isinstance m_tuple c__law_whole c__law_divides, e__law_right, F__law_right.kp, FunD.bindsN F__law_right fun _ _ _ _ _ _ us hl => match us, hl with | [_, _, _], _ => rfl⟩
  have c_plus : Cal (GK K) P w K mg base 2 "plus" D_plus := ⟨_, fd_plus, ["one", "other"], f_plus (P := P) (w := w) (base := base) (G := GK K) F_plus rfl c_fraction, e_plus, F_plus.kp, FunD.bindsN F_plus fun _ _ _ _ _ _ us hl => match us, hl with | [_, _], _ => rfl⟩
  have c_below : Cal (GK K) P w K mg base 1 "below" D_below := ⟨_, fd_below, ["one", "other"], f_below (P := P) (w := w) (base := base) (G := GK K) F_below rfl , e_below, F_below.kp, FunD.bindsN F_below fun _ _ _ _ _ _ us hl => match us, hl with | [_, _], _ => rfl⟩
  exact f_law (P := P) (w := w) (base := base) (G := GK K) F_law rfl m_enumerate m_int m_isinstance m_bool c__law_pair c__law_left c_fraction c__law_right c_plus c_below
end LW

namespace LW
open PVL
theorem pow40 : binV .pow (.int 10) (.int 40) = some (.int 10000000000000000000000000000000000000000) := rfl
theorem pow12 : binV .pow (.int 10) (.int 12) = some (.int 1000000000000) := rfl
/-- the most, the times -/
def most (c : Int) : Int := if c % 3 = 0 then 12 else if c % 3 = 1 then 1000 else 10000000000000000000000000000000000000000
def times (c : Int) : Int := if c / 3 % 4 = 2 then 6 else if c / 3 % 4 = 3 then 1000000000000 else 1
theorem most_ix (c : Int) : idxV (.lst [.int 12, .int 1000, .int 10000000000000000000000000000000000000000]) (.int (c % 3)) = some (.int (most c)) := by
  have h0 : 0 ≤ c % 3 := Int.emod_nonneg _ (by decide)
  have h1 : c % 3 < 3 := Int.emod_lt_of_pos _ (by decide)
  unfold most
  have : c % 3 = 0 ∨ c % 3 = 1 ∨ c % 3 = 2 := by omega
  rcases this with h | h | h <;> rw [h] <;> rfl
theorem times_ix (c : Int) : idxV (.lst [.int 1, .int 1, .int 6, .int 1000000000000]) (.int (c / 3 % 4)) = some (.int (times c)) := by
  have h0 : 0 ≤ c / 3 % 4 := Int.emod_nonneg _ (by decide)
  have h1 : c / 3 % 4 < 4 := Int.emod_lt_of_pos _ (by decide)
  unfold times
  have : c / 3 % 4 = 0 ∨ c / 3 % 4 = 1 ∨ c / 3 % 4 = 2 ∨ c / 3 % 4 = 3 := by omega
  rcases this with h | h | h | h <;> rw [h] <;> rfl
theorem most_pos (c : Int) : 12 ≤ most c ∧ most c ≤ 10000000000000000000000000000000000000000 := by
  unfold most; split
  · decide
  · split <;> decide
theorem times_pos (c : Int) : 1 ≤ times c ∧ times c ≤ 1000000000000 := by
  unfold times; split
  · decide
  · split <;> decide
def top (c : Int) : Int := c / 12 % most c * times c
def bot (c : Int) : Int := (1 + c / 12 / most c % most c) * times c
theorem ev_bin' {op : BOp} {a b : E} {ρ : Env} {ω : Store} {x y : PV} {p q : Md} {z : PV} (ha : ev a ρ ω = .ok (x, p) ω) (hb : ev b ρ ω = .ok (y, q) ω) (e : binV op x y = some z) : ev (.bin op a b) ρ ω = .ok (mk z .own) ω := by
  unfold ev; rw [ha]; show (ev b ρ ω).bind _ = _; rw [hb]; show liftO (binV op x y) .own ω = _; rw [e]; rfl
theorem pair_ok (c : Int) (m : Md) (ω : Store) : D__law_pair [(.int c, m)] ω = .ok (.tup [.int (top c), .int (bot c)], .fz) ω := by
  have p1 := (most_pos c).1
  have p2 := (most_pos c).2
  have q1 := (times_pos c).1
  have q2 := (times_pos c).2
  have a1 : 0 ≤ c / 12 % most c := Int.emod_nonneg _ (by omega)
  have a2 : c / 12 % most c < most c := Int.emod_lt_of_pos _ (by omega)
  have b1 : 0 ≤ c / 12 / most c % most c := Int.emod_nonneg _ (by omega)
  have b2 : c / 12 / most c % most c < most c := Int.emod_lt_of_pos _ (by omega)
  have m1 : binV .mul (.int (c / 12 % most c)) (.int (times c)) = some (.int (top c)) := binV_mul (k := 200) (by decide) (by omega) (by omega)
  have m2 : binV .mul (.int (1 + c / 12 / most c % most c)) (.int (times c)) = some (.int (bot c)) := binV_mul (k := 200) (by decide) (by omega) (by omega)
  have f1 : binV .fdiv (.int c) (.int 3) = some (.int (c / 3)) := binV_fdiv (by decide) (by omega)
  have f2 : binV .fdiv (.int c) (.int 12) = some (.int (c / 12)) := binV_fdiv (by decide) (by omega)
  have f3 : binV .fdiv (.int (c / 12)) (.int (most c)) = some (.int (c / 12 / most c)) := binV_fdiv (by omega) (by omega)
  have g1 : binV .mod (.int c) (.int 3) = some (.int (c % 3)) := binV_mod (by decide)
  have g2 : binV .mod (.int (c / 3)) (.int 4) = some (.int (c / 3 % 4)) := binV_mod (by decide)
  have g3 : binV .mod (.int (c / 12)) (.int (most c)) = some (.int (c / 12 % most c)) := binV_mod (by omega)
  have g4 : binV .mod (.int (c / 12 / most c)) (.int (most c)) = some (.int (c / 12 / most c % most c)) := binV_mod (by omega)
  have s1 : binV .add (.int 1) (.int (c / 12 / most c % most c)) = some (.int (1 + c / 12 / most c % most c)) := rfl
  simp [D__law_pair, i__law_pair, den, exs, ex, ev, evK, R.bind, R.to, F.seq, getV, setV, liftO, mk, isC, keeps, pow40, pow12, f1, f2, f3, g1, g2, g3, g4, m1, m2, s1, most_ix, times_ix]
theorem left_ok (c : Int) (ω : Store) : D__law_left [(.int c, .fz)] ω = .ok (.int (c / 12 / 10000000000000000000000000000000000000000 / 10000000000000000000000000000000000000000), .fz) ω := by
  have f1 : ∀ c, binV .fdiv (.int c) (.int 12) = some (.int (c / 12)) := fun c => binV_fdiv (by decide) (by omega)
  have f2 : ∀ c, binV .fdiv (.int c) (.int 10000000000000000000000000000000000000000) = some (.int (c / 10000000000000000000000000000000000000000)) := fun c => binV_fdiv (by decide) (by omega)
  simp [D__law_left, i__law_left, den, exs, ex, ev, R.bind, R.to, F.seq, getV, liftO, mk, isC, keeps, pow40, f1, f2]
/-! ### fraction -/
theorem frac_loop (x y : Option VM) (ω : Store) : ∀ (b a : Nat), whl (evT t0_fraction) (exs w1_fraction) [x, y, some (.int (a : Int), .fz), some (.int (b : Int), .fz)] ω = .nx [x, y, some (.int ((Nat.gcd b a : Nat) : Int), .fz), some (.int 0, .fz)] ω := by
  intro b
  induction b using Nat.strongRecOn with
  | ind b ih =>
    intro a
    rw [whl_eq]
    by_cases hb : b = 0
    · subst hb
      have hc : evT t0_fraction [x, y, some (.int (a : Int), .fz), some (.int 0, .fz)] ω = .ok false ω := by
        simp [t0_fraction, evT, ev, R.bind, R.to, getV, liftB, cmpV, eqOk, deep, eqv, truthy]
      rw [show (((0 : Nat) : Nat) : Int) = 0 from rfl, hc]
      simp [R.to]
    · have hm : binV .mod (.int (a : Int)) (.int (b : Int)) = some (.int ((a % b : Nat) : Int)) := binV_mod (by omega)
      have h1 : ((b : Int) == 0) = false := by simpa using hb
      have hc : evT t0_fraction [x, y, some (.int (a : Int), .fz), some (.int (b : Int), .fz)] ω = .ok true ω := by
        simp [t0_fraction, evT, ev, R.bind, R.to, getV, liftB, cmpV, eqOk, deep, eqv, truthy, h1]
      have hf : exs w1_fraction [x, y, some (.int (a : Int), .fz), some (.int (b : Int), .fz)] ω = .nx [x, y, some (.int (b : Int), .fz), some (.int ((a % b : Nat) : Int), .fz)] ω := by
        simp [w1_fraction, exs, ex, freeze, ev, R.bind, R.to, F.seq, getV, setV, liftO, mk, isC, keeps, hm]
      rw [hc]
      simp only [R.to, if_true, hf]
      rw [ih (a % b) (Nat.mod_lt _ (by omega)) b, ← Nat.gcd_rec b a]
theorem frac_ok (a b : Nat) (hb : 0 < b) (h9 : b < 2 ^ 8000) (ω : Store) : D_fraction [(.int (a : Int), .fz), (.int (b : Int), .fz)] ω = .ok (.tup [.int ((a / Nat.gcd b a : Nat) : Int), .int ((b / Nat.gcd b a : Nat) : Int)], .fz) ω := by
  have hg : 0 < Nat.gcd b a := Nat.gcd_pos_of_pos_left _ hb
  have hgl : Nat.gcd b a ≤ b := Nat.gcd_le_left _ hb
  have l := fun x y => frac_loop x y ω b a
  have f1 : binV .fdiv (.int (a : Int)) (.int ((Nat.gcd b a : Nat) : Int)) = some (.int ((a / Nat.gcd b a : Nat) : Int)) := binV_fdiv (by omega) (by omega)
  have f2 : binV .fdiv (.int (b : Int)) (.int ((Nat.gcd b a : Nat) : Int)) = some (.int ((b / Nat.gcd b a : Nat) : Int)) := binV_fdiv (by omega) (by omega)
  simp [D_fraction, i_fraction, den, exs, ex, freeze, ev, evK, R.bind, R.to, F.seq, getV, setV, liftO, mk, isC, keeps, l, f1, f2]
/-! ### the law's own looks -/
theorem div_loop (ω : Store) : ∀ (b a : Nat), whl (evT t0__law_divides) (exs w1__law_divides) [some (.int (a : Int), .fz), some (.int (b : Int), .fz)] ω = .nx [some (.int ((Nat.gcd b a : Nat) : Int), .fz), some (.int 0, .fz)] ω := by
  intro b
  induction b using Nat.strongRecOn with
  | ind b ih =>
    intro a
    rw [whl_eq]
    by_cases hb : b = 0
    · subst hb
      have hc : evT t0__law_divides [some (.int (a : Int), .fz), some (.int 0, .fz)] ω = .ok false ω := by
        simp [t0__law_divides, evT, ev, R.bind, R.to, getV, liftB, cmpV, eqOk, deep, eqv, truthy]
      rw [show (((0 : Nat) : Nat) : Int) = 0 from rfl, hc]
      simp [R.to]
    · have hm : binV .mod (.int (a : Int)) (.int (b : Int)) = some (.int ((a % b : Nat) : Int)) := binV_mod (by omega)
      have h1 : 0 < b := by omega
      have hc : evT t0__law_divides [some (.int (a : Int), .fz), some (.int (b : Int), .fz)] ω = .ok true ω := by
        simp [t0__law_divides, evT, ev, R.bind, R.to, getV, liftB, cmpV, eqOk, deep, eqv, truthy, h1]
      have hf : exs w1__law_divides [some (.int (a : Int), .fz), some (.int (b : Int), .fz)] ω = .nx [some (.int (b : Int), .fz), some (.int ((a % b : Nat) : Int), .fz)] ω := by
        simp [w1__law_divides, exs, ex, freeze, ev, R.bind, R.to, F.seq, getV, setV, liftO, mk, isC, keeps, hm]
      rw [hc]
      simp only [R.to, if_true, hf]
      rw [ih (a % b) (Nat.mod_lt _ (by omega)) b, ← Nat.gcd_rec b a]
theorem div_ok (a b : Nat) (ω : Store) : D__law_divides [(.int (a : Int), .fz), (.int (b : Int), .fz)] ω = .ok (.int ((Nat.gcd b a : Nat) : Int), .fz) ω := by
  have l := div_loop ω b a
  simp [D__law_divides, i__law_divides, den, exs, ex, F.seq, getV, isC, keeps, l]
theorem whole_ok (i : Int) (ω : Store) : D__law_whole [(.int i, .fz)] ω = .ok (.bl true, .fz) ω := by
  simp [D__law_whole, i__law_whole, den, exs, ex, ev, evT, R.bind, R.to, F.seq, getV, liftB, isTy, keeps, isC, truthy]
theorem right_ok (x y t b : Nat) (hy : 0 < y) (hg : Nat.gcd y x = 1) (he : x * b = y * t) (h1 : x < 2 ^ 8000) (h2 : y < 2 ^ 8000) (h3 : t < 2 ^ 8000) (h4 : b < 2 ^ 8000) (ω : Store) :
    D__law_right [(.tup [.int (x : Int), .int (y : Int)], .fz), (.int (t : Int), .fz), (.int (b : Int), .fz)] ω = .ok (.bl true, .fz) ω := by
  have m1 : binV .mul (.int (x : Int)) (.int (b : Int)) = some (.int ((x * b : Nat) : Int)) := binV_mul (k := 8000) (by decide) (by omega) (by omega)
  have m2 : binV .mul (.int (y : Int)) (.int (t : Int)) = some (.int ((x * b : Nat) : Int)) := by rw [he]; exact binV_mul (k := 8000) (by decide) (by omega) (by omega)
  have d := div_ok x y ω
  rw [hg] at d
  have i0 : ∀ a b : PV, idxV (.tup [a, b]) (.int 0) = some a := fun _ _ => rfl
  have i1 : ∀ a b : PV, idxV (.tup [a, b]) (.int 1) = some b := fun _ _ => rfl
  have c1 : ¬ (y : Int) < 1 := by omega
  have c2 : ¬ (x : Int) < 0 := by omega
  simp [D__law_right, i__law_right, den, exs, ex, ev, evT, evA, R.bind, R.to, F.seq, getV, liftB, liftO, mk, isTy, keeps, isC, truthy, cmpV, eqOk, deep, eqv, bfV, told, Md.give, i0, i1, whole_ok, d, m1, m2, c1, c2]
theorem plus_ok (x0 y0 x1 y1 : Nat) (h0 : 0 < y0) (h1 : 0 < y1) (hx0 : x0 < 2 ^ 2000) (hy0 : y0 < 2 ^ 2000) (hx1 : x1 < 2 ^ 2000) (hy1 : y1 < 2 ^ 2000) (ω : Store) :
    D_plus [(.tup [.int (x0 : Int), .int (y0 : Int)], .fz), (.tup [.int (x1 : Int), .int (y1 : Int)], .fz)] ω = .ok (.tup [.int (((x0 * y1 + x1 * y0) / Nat.gcd (y0 * y1) (x0 * y1 + x1 * y0) : Nat) : Int), .int (((y0 * y1) / Nat.gcd (y0 * y1) (x0 * y1 + x1 * y0) : Nat) : Int)], .fz) ω := by
  have m1 : binV .mul (.int (x0 : Int)) (.int (y1 : Int)) = some (.int ((x0 * y1 : Nat) : Int)) := binV_mul (k := 8000) (by decide) (by omega) (by omega)
  have m2 : binV .mul (.int (x1 : Int)) (.int (y0 : Int)) = some (.int ((x1 * y0 : Nat) : Int)) := binV_mul (k := 8000) (by decide) (by omega) (by omega)
  have m3 : binV .mul (.int (y0 : Int)) (.int (y1 : Int)) = some (.int ((y0 * y1 : Nat) : Int)) := binV_mul (k := 8000) (by decide) (by omega) (by omega)
  have s1 : binV .add (.int ((x0 * y1 : Nat) : Int)) (.int ((x1 * y0 : Nat) : Int)) = some (.int ((x0 * y1 + x1 * y0 : Nat) : Int)) := rfl
  have i0 : ∀ a b : PV, idxV (.tup [a, b]) (.int 0) = some a := fun _ _ => rfl
  have i1 : ∀ a b : PV, idxV (.tup [a, b]) (.int 1) = some b := fun _ _ => rfl
  have hb : y0 * y1 < 2 ^ 8000 := Nat.lt_of_lt_of_le (Nat.mul_lt_mul'' hy0 hy1) (by rw [← Nat.pow_add]; exact Nat.pow_le_pow_right (by decide) (by decide))
  have fr := frac_ok (x0 * y1 + x1 * y0) (y0 * y1) (Nat.mul_pos h0 h1) hb ω
  generalize hS : x0 * y1 + x1 * y0 = S at *
  generalize hA : x0 * y1 = A at *
  generalize hB : x1 * y0 = B at *
  generalize hC : y0 * y1 = C at *
  generalize hP : S / C.gcd S = p at *
  generalize hQ : C / C.gcd S = q at *
  simp [D_plus, i_plus, den, exs, ex, ev, evA, R.bind, R.to, F.seq, getV, liftO, mk, isC, keeps, told, Md.give, i0, i1, m1, m2, m3, s1, fr]
theorem below_ok (x0 y0 x1 y1 : Nat) (hx0 : x0 < 2 ^ 2000) (hy0 : y0 < 2 ^ 2000) (hx1 : x1 < 2 ^ 2000) (hy1 : y1 < 2 ^ 2000) (ω : Store) :
    D_below [(.tup [.int (x0 : Int), .int (y0 : Int)], .fz), (.tup [.int (x1 : Int), .int (y1 : Int)], .fz)] ω = .ok (.bl (decide (x0 * y1 < x1 * y0)), .fz) ω := by
  have m1 : binV .mul (.int (x0 : Int)) (.int (y1 : Int)) = some (.int ((x0 * y1 : Nat) : Int)) := binV_mul (k := 8000) (by decide) (by omega) (by omega)
  have m2 : binV .mul (.int (x1 : Int)) (.int (y0 : Int)) = some (.int ((x1 * y0 : Nat) : Int)) := binV_mul (k := 8000) (by decide) (by omega) (by omega)
  have i0 : ∀ a b : PV, idxV (.tup [a, b]) (.int 0) = some a := fun _ _ => rfl
  have i1 : ∀ a b : PV, idxV (.tup [a, b]) (.int 1) = some b := fun _ _ => rfl
  generalize hA : x0 * y1 = A at *
  generalize hB : x1 * y0 = B at *
  simp [D_below, i_below, den, exs, ex, ev, R.bind, R.to, F.seq, getV, liftB, liftO, mk, isC, keeps, cmpV, i0, i1, m1, m2]
/-! ### the law -/
theorem div_lt {a b n : Nat} (h : a < n) : a / b < n := Nat.lt_of_le_of_lt (Nat.div_le_self a b) h
theorem nat_of {i : Int} (h : 0 ≤ i) : ∃ n : Nat, i = (n : Int) := ⟨i.toNat, by omega⟩
theorem pair_nat (c : Int) : ∃ a b : Nat, (∀ ω, D__law_pair [(.int c, .fz)] ω = .ok (.tup [.int (a : Int), .int (b : Int)], .fz) ω) ∧ 0 < b ∧ a < 2 ^ 180 ∧ b < 2 ^ 180 := by
  have p1 := (most_pos c).1
  have p2 := (most_pos c).2
  have q1 := (times_pos c).1
  have q2 := (times_pos c).2
  have a1 : 0 ≤ c / 12 % most c := Int.emod_nonneg _ (by omega)
  have a2 : c / 12 % most c < most c := Int.emod_lt_of_pos _ (by omega)
  have b1 : 0 ≤ c / 12 / most c % most c := Int.emod_nonneg _ (by omega)
  have b2 : c / 12 / most c % most c < most c := Int.emod_lt_of_pos _ (by omega)
  have e := fun ω => pair_ok c .fz ω
  unfold top bot at e
  obtain ⟨u, hu⟩ := nat_of a1
  obtain ⟨v, hv⟩ := nat_of b1
  obtain ⟨t, ht⟩ := nat_of (show 0 ≤ times c by omega)
  rw [hu, hv, ht] at e
  have k1 : u < 10000000000000000000000000000000000000000 := by omega
  have k2 : v < 10000000000000000000000000000000000000000 := by omega
  have k3 : t < 1000000000001 := by omega
  have k4 : 0 < t := by omega
  have l1 : u * t < 10000000000000000000000000000000000000000 * 1000000000001 := Nat.mul_lt_mul'' k1 k3
  have l2 : (1 + v) * t < 10000000000000000000000000000000000000001 * 1000000000001 := Nat.mul_lt_mul'' (by omega) k3
  refine ⟨u * t, (1 + v) * t, fun ω => ?_, Nat.mul_pos (by omega) k4, by omega, by omega⟩
  rw [e ω]
  rw [show ((u * t : Nat) : Int) = (u : Int) * (t : Int) by exact Int.natCast_mul _ _, show (((1 + v) * t : Nat) : Int) = (1 + (v : Int)) * (t : Int) by rw [Int.natCast_mul]; rfl]
theorem cop {a b : Nat} (hb : 0 < b) : Nat.gcd (b / Nat.gcd b a) (a / Nat.gcd b a) = 1 := by
  have hg : 0 < Nat.gcd b a := Nat.gcd_pos_of_pos_left _ hb
  exact Nat.coprime_div_gcd_div_gcd hg
/-- a fraction: what it is -/
theorem frac_is {a b : Nat} (hb : 0 < b) : 0 < b / Nat.gcd b a ∧ a / Nat.gcd b a * b = b / Nat.gcd b a * a := by
  have hg : 0 < Nat.gcd b a := Nat.gcd_pos_of_pos_left _ hb
  obtain ⟨x, hx⟩ := Nat.gcd_dvd_left b a
  obtain ⟨y, hy⟩ := Nat.gcd_dvd_right b a
  generalize Nat.gcd b a = g at *
  subst hx hy
  rw [Nat.mul_div_cancel_left _ hg, Nat.mul_div_cancel_left _ hg]
  refine ⟨Nat.pos_of_mul_pos_left hb, ?_⟩
  rw [Nat.mul_left_comm, Nat.mul_comm y x, Nat.mul_left_comm]
end LW

set_option exponentiation.threshold 10000
namespace LW
open PVL
theorem first (s0 o3 o4 o5 o6 o7 o8 o9 : Option VM) (k : Nat) (c : Int) (ω : Store) : ∃ a b p q : Nat, 0 < b ∧ 0 < q ∧ a < 2 ^ 190 ∧ b < 2 ^ 190 ∧ p < 2 ^ 190 ∧ q < 2 ^ 190 ∧
    exs (w0_law.take 3) [s0, some (.int (k : Int), .fz), some (.int c, .fz), o3, o4, o5, o6, o7, o8, o9] ω = .nx [s0, some (.int (k : Int), .fz), some (.int c, .fz), some (.int (a : Int), .fz), some (.int (b : Int), .fz), some (.int (p : Int), .fz), some (.int (q : Int), .fz), o7, o8, o9] ω := by
  obtain ⟨a, b, e1, hb, ha2, hb2⟩ := pair_nat c
  obtain ⟨p, q, e2, hq, hp2, hq2⟩ := pair_nat (if c / 12 % 2 = 0 then c / 7 + (k : Int) else c / 12 / 10000000000000000000000000000000000000000 / 10000000000000000000000000000000000000000)
  have f1 : binV .fdiv (.int c) (.int 7) = some (.int (c / 7)) := binV_fdiv (by decide) (by omega)
  have f2 : binV .fdiv (.int c) (.int 12) = some (.int (c / 12)) := binV_fdiv (by decide) (by omega)
  have f3 : binV .fdiv (.int c) (.int 24) = some (.int (c / 24)) := binV_fdiv (by decide) (by omega)
  have g1 : binV .mod (.int (c / 12)) (.int 2) = some (.int (c / 12 % 2)) := binV_mod (by decide)
  have g2 : binV .mod (.int (c / 24)) (.int 5) = some (.int (c / 24 % 5)) := binV_mod (by decide)
  have s1 : binV .add (.int (c / 7)) (.int (k : Int)) = some (.int (c / 7 + (k : Int))) := rfl
  have i0 : ∀ a b : PV, idxV (.lst [a, b]) (.int 0) = some a := fun _ _ => rfl
  have i1 : ∀ a b : PV, idxV (.lst [a, b]) (.int 1) = some b := fun _ _ => rfl
  have m1 : binV .mul (.int 3) (.int (a : Int)) = some (.int ((3 * a : Nat) : Int)) := by rw [binV_mul (k := 8000) (by decide) (by omega) (by omega), Int.natCast_mul]; rfl
  have m2 : binV .mul (.int 3) (.int (b : Int)) = some (.int ((3 * b : Nat) : Int)) := by rw [binV_mul (k := 8000) (by decide) (by omega) (by omega), Int.natCast_mul]; rfl
  by_cases h3 : c / 24 % 5 = 3
  · refine ⟨a, b, 3 * a, 3 * b, hb, by omega, by omega, by omega, by omega, by omega, ?_⟩
    generalize 3 * a = a3 at *
    generalize 3 * b = b3 at *
    by_cases h2 : c / 12 % 2 = 0
    · rw [if_pos h2] at e2
      simp [w0_law, Ss.take, exs, ex, ev, evT, evA, evK, R.bind, R.to, F.seq, getV, setV, liftB, liftO, mk, isC, keeps, cmpV, eqOk, deep, eqv, truthy, bfV, told, Md.give, assignT, i0, i1, f1, f2, f3, g1, g2, s1, m1, m2, e1, e2, left_ok, h2, h3]
    · rw [if_neg h2] at e2
      have h2' : (c / 12 % 2 == 0) = false := by simpa using h2
      simp [w0_law, Ss.take, exs, ex, ev, evT, evA, evK, R.bind, R.to, F.seq, getV, setV, liftB, liftO, mk, isC, keeps, cmpV, eqOk, deep, eqv, truthy, bfV, told, Md.give, assignT, i0, i1, f1, f2, f3, g1, g2, s1, m1, m2, e1, e2, left_ok, h2', h3]
  · refine ⟨a, b, p, q, hb, by omega, by omega, by omega, by omega, by omega, ?_⟩
    have h3' : (c / 24 % 5 == 3) = false := by simpa using h3
    by_cases h2 : c / 12 % 2 = 0
    · rw [if_pos h2] at e2
      simp [w0_law, Ss.take, exs, ex, ev, evT, evA, evK, R.bind, R.to, F.seq, getV, setV, liftB, liftO, mk, isC, keeps, cmpV, eqOk, deep, eqv, truthy, bfV, told, Md.give, assignT, i0, i1, f1, f2, f3, g1, g2, s1, m1, m2, e1, e2, left_ok, h2, h3']
    · rw [if_neg h2] at e2
      have h2' : (c / 12 % 2 == 0) = false := by simpa using h2
      simp [w0_law, Ss.take, exs, ex, ev, evT, evA, evK, R.bind, R.to, F.seq, getV, setV, liftB, liftO, mk, isC, keeps, cmpV, eqOk, deep, eqv, truthy, bfV, told, Md.give, assignT, i0, i1, f1, f2, f3, g1, g2, s1, m1, m2, e1, e2, left_ok, h2', h3']
theorem mul2 {a b : Nat} (ha : a < 2 ^ 190) (hb : b < 2 ^ 190) : a * b < 2 ^ 380 := Nat.lt_of_lt_of_le (Nat.mul_lt_mul'' ha hb) (by rw [← Nat.pow_add]; exact Nat.le_refl _)
theorem second (s0 K C o7 o8 o9 : Option VM) (a b p q : Nat) (hb : 0 < b) (hq : 0 < q) (ha2 : a < 2 ^ 190) (hb2 : b < 2 ^ 190) (hp2 : p < 2 ^ 190) (hq2 : q < 2 ^ 190) (ω : Store) : ∃ r7 r8 r9,
    exs (w0_law.drop 3) [s0, K, C, some (.int (a : Int), .fz), some (.int (b : Int), .fz), some (.int (p : Int), .fz), some (.int (q : Int), .fz), o7, o8, o9] ω = .nx [s0, K, C, some (.int (a : Int), .fz), some (.int (b : Int), .fz), some (.int (p : Int), .fz), some (.int (q : Int), .fz), r7, r8, r9] ω := by
  obtain ⟨n1, e1⟩ := frac_is (a := a) hb
  obtain ⟨n2, e2⟩ := frac_is (a := p) hq
  have l1 := div_lt (b := Nat.gcd b a) ha2
  have l2 := div_lt (b := Nat.gcd b a) hb2
  have l3 := div_lt (b := Nat.gcd q p) hp2
  have l4 := div_lt (b := Nat.gcd q p) hq2
  have c1 := cop (a := a) hb
  have c2 := cop (a := p) hq
  have f1 := frac_ok a b hb (by omega) ω
  have f2 := frac_ok p q hq (by omega) ω
  generalize a / Nat.gcd b a = x0 at *
  generalize b / Nat.gcd b a = y0 at *
  generalize p / Nat.gcd q p = x1 at *
  generalize q / Nat.gcd q p = y1 at *
  have r1 := right_ok x0 y0 a b n1 c1 e1 (by omega) (by omega) (by omega) (by omega) ω
  have r2 := right_ok x1 y1 p q n2 c2 e2 (by omega) (by omega) (by omega) (by omega) ω
  have pl := plus_ok x0 y0 x1 y1 n1 n2 (by omega) (by omega) (by omega) (by omega) ω
  have pl2 := plus_ok x1 y1 x0 y0 n2 n1 (by omega) (by omega) (by omega) (by omega) ω
  rw [Nat.add_comm (x1 * y0), Nat.mul_comm y1 y0] at pl2
  have b1 := below_ok x0 y0 x1 y1 (by omega) (by omega) (by omega) (by omega) ω
  have b2 := below_ok x1 y1 x0 y0 (by omega) (by omega) (by omega) (by omega) ω
  have b3 := below_ok x0 y0 x0 y0 (by omega) (by omega) (by omega) (by omega) ω
  -- the sum
  have k1 := mul2 ha2 hq2
  have k2 := mul2 hp2 hb2
  have k3 := mul2 hb2 hq2
  have k4 := mul2 l1 l4
  have k5 := mul2 l3 l2
  have k6 := mul2 l2 l4
  have hpos : 0 < y0 * y1 := Nat.mul_pos n1 n2
  obtain ⟨n3, e3⟩ := frac_is (a := x0 * y1 + x1 * y0) hpos
  have c3 := cop (a := x0 * y1 + x1 * y0) hpos
  have l5 := div_lt (b := Nat.gcd (y0 * y1) (x0 * y1 + x1 * y0)) (show x0 * y1 + x1 * y0 < 2 ^ 400 by omega)
  have l6 := div_lt (b := Nat.gcd (y0 * y1) (x0 * y1 + x1 * y0)) (show y0 * y1 < 2 ^ 400 by omega)
  have cross : (x0 * y1 + x1 * y0) * (b * q) = (y0 * y1) * (a * q + p * b) := by
    have t1 : x0 * y1 * (b * q) = y0 * y1 * (a * q) := by
      rw [show x0 * y1 * (b * q) = (x0 * b) * (y1 * q) by ac_rfl, e1]; ac_rfl
    have t2 : x1 * y0 * (b * q) = y0 * y1 * (p * b) := by
      rw [show x1 * y0 * (b * q) = (x1 * q) * (y0 * b) by ac_rfl, e2]; ac_rfl
    rw [Nat.add_mul, Nat.mul_add, t1, t2]
  generalize (x0 * y1 + x1 * y0) / Nat.gcd (y0 * y1) (x0 * y1 + x1 * y0) = u at *
  generalize y0 * y1 / Nat.gcd (y0 * y1) (x0 * y1 + x1 * y0) = v at *
  have e4 : u * (b * q) = v * (a * q + p * b) := by
    apply Nat.eq_of_mul_eq_mul_right hpos
    rw [show u * (b * q) * (y0 * y1) = (u * (y0 * y1)) * (b * q) by ac_rfl, e3, Nat.mul_assoc, cross]
    ac_rfl
  have r3 := right_ok u v (a * q + p * b) (b * q) n3 c3 e4 (by omega) (by omega) (by omega) (by omega) ω
  -- which is less
  have d1 : decide (x0 * y1 < x1 * y0) = decide (a * q < p * b) := by
    have t : (a * q) * (y0 * y1) = (x0 * y1) * (b * q) := by rw [show a * q * (y0 * y1) = (y0 * a) * (q * y1) by ac_rfl, ← e1]; ac_rfl
    have t2 : (p * b) * (y0 * y1) = (x1 * y0) * (b * q) := by rw [show p * b * (y0 * y1) = (y1 * p) * (b * y0) by ac_rfl, ← e2]; ac_rfl
    have hbq : 0 < b * q := Nat.mul_pos hb hq
    refine decide_eq_decide.mpr ⟨fun h => ?_, fun h => ?_⟩
    · have := Nat.mul_lt_mul_of_pos_right h hbq
      rw [← t, ← t2] at this
      exact Nat.lt_of_mul_lt_mul_right this
    · have := Nat.mul_lt_mul_of_pos_right h hpos
      rw [t, t2] at this
      exact Nat.lt_of_mul_lt_mul_right this
  have d2 : decide (x1 * y0 < x0 * y1) = decide (p * b < a * q) := by
    have t : (a * q) * (y0 * y1) = (x0 * y1) * (b * q) := by rw [show a * q * (y0 * y1) = (y0 * a) * (q * y1) by ac_rfl, ← e1]; ac_rfl
    have t2 : (p * b) * (y0 * y1) = (x1 * y0) * (b * q) := by rw [show p * b * (y0 * y1) = (y1 * p) * (b * y0) by ac_rfl, ← e2]; ac_rfl
    have hbq : 0 < b * q := Nat.mul_pos hb hq
    refine decide_eq_decide.mpr ⟨fun h => ?_, fun h => ?_⟩
    · have := Nat.mul_lt_mul_of_pos_right h hbq
      rw [← t, ← t2] at this
      exact Nat.lt_of_mul_lt_mul_right this
    · have := Nat.mul_lt_mul_of_pos_right h hpos
      rw [t, t2] at this
      exact Nat.lt_of_mul_lt_mul_right this
  have d3 : decide (x0 * y0 < x0 * y0) = false := decide_eq_false (Nat.lt_irrefl _)
  rw [d1] at b1
  rw [d2] at b2
  rw [d3] at b3
  have m1 : binV .mul (.int (a : Int)) (.int (q : Int)) = some (.int ((a * q : Nat) : Int)) := by rw [binV_mul (k := 8000) (by decide) (by omega) (by omega), Int.natCast_mul]
  have m2 : binV .mul (.int (p : Int)) (.int (b : Int)) = some (.int ((p * b : Nat) : Int)) := by rw [binV_mul (k := 8000) (by decide) (by omega) (by omega), Int.natCast_mul]
  have m3 : binV .mul (.int (b : Int)) (.int (q : Int)) = some (.int ((b * q : Nat) : Int)) := by rw [binV_mul (k := 8000) (by decide) (by omega) (by omega), Int.natCast_mul]
  have s1 : binV .add (.int ((a * q : Nat) : Int)) (.int ((p * b : Nat) : Int)) = some (.int ((a * q + p * b : Nat) : Int)) := by rw [Int.natCast_add]; rfl
  generalize a * q + p * b = S at *
  generalize a * q = A at *
  generalize p * b = B at *
  generalize b * q = D at *
  have i0 : ∀ a b c : PV, idxV (.lst [a, b, c]) (.int 0) = some a := fun _ _ _ => rfl
  have i1 : ∀ a b c : PV, idxV (.lst [a, b, c]) (.int 1) = some b := fun _ _ _ => rfl
  refine ⟨some (.tup [.int (x0 : Int), .int (y0 : Int)], .fz), some (.tup [.int (x1 : Int), .int (y1 : Int)], .fz), some (.lst [.bl (decide (A < B)), .bl (decide (B < A)), .bl false], .own), ?_⟩
  simp [w0_law, Ss.drop, exs, ex, ev, evT, evA, evK, R.bind, R.to, F.seq, getV, setV, liftB, liftO, mk, isC, isTy, keeps, cmpV, eqOk, deep, deeps, eqv, eqvs, truthy, told, Md.give, i0, i1, f1, f2, r1, r2, r3, pl, pl2, b1, b2, b3, m1, m2, m3, s1]
theorem loop (ω : Store) (s0 : Option VM) : ∀ (xs : List (Int × Nat)) (ρ : Env), ρ.length = 10 → ρ[0]? = some s0 → ∃ ρ', forL (exs w0_law) [1, 2] (xs.map fun p => .tup [.int (p.2 : Int), .int p.1]) ρ ω = .nx ρ' ω
  | [], ρ, _, _ => ⟨ρ, rfl⟩
  | (c, k) :: xs, ρ, hl, h0 => by
    match ρ, hl with
    | [o0, o1, o2, o3, o4, o5, o6, o7, o8, o9], _ =>
      obtain ⟨a, b, p, q, hb, hq, ha2, hb2, hp2, hq2, e⟩ := first o0 o3 o4 o5 o6 o7 o8 o9 k c ω
      obtain ⟨r7, r8, r9, e2⟩ := second o0 (some (.int (k : Int), .fz)) (some (.int c, .fz)) o7 o8 o9 a b p q hb hq ha2 hb2 hp2 hq2 ω
      have e3 := (exs_step e).trans e2
      obtain ⟨ρ', e4⟩ := loop ω s0 xs _ rfl (show ([o0, some (.int (k : Int), .fz), some (.int c, .fz), some (.int (a : Int), .fz), some (.int (b : Int), .fz), some (.int (p : Int), .fz), some (.int (q : Int), .fz), r7, r8, r9] : Env)[0]? = some s0 from h0)
      refine ⟨ρ', ?_⟩
      rw [List.map_cons]
      show forL _ _ (_ :: _) _ _ = _
      unfold forL
      simp only [assignT, List.length_cons, List.length_nil, if_true, List.zip_cons_cons, List.zip_nil_right, List.foldl_cons, List.foldl_nil, setV, List.set_cons_succ, List.set_cons_zero, e3]
      exact e4
theorem holds : PVS.LawOk D_law 63 := fun ns hl hb => by
  have fr0 := frac_ok 0 7 (by decide) (by decide) []
  have pl := plus_ok 0 1 1 4 (by decide) (by decide) (by decide) (by decide) (by decide) (by decide) []
  rw [show Nat.gcd 7 0 = 7 from rfl] at fr0
  rw [show Nat.gcd (1 * 4) (0 * 4 + 1 * 1) = 1 from rfl] at pl
  simp at fr0 pl
  refine ⟨[], ?_⟩
  have es : slcV (.lst (ns.map .int)) .non (.int 30) = some (.lst ((ns.take 30).map .int)) := by
    simp [slcV, slcX, optI, cut, clip]
  have ea : binV .add (.lst ((ns.take 30).map .int)) (.lst [.int 2731]) = some (.lst ((ns.take 30 ++ [2731]).map .int)) := by
    unfold binV
    simp [line]
    omega
  have em : ((ns.take 30 ++ [2731]).map PV.int).zipIdx.map (fun (p : PV × Nat) => PV.tup [.int (p.2 : Nat), p.1]) = ((ns.take 30 ++ [2731]).zipIdx.map fun (p : Int × Nat) => .tup [.int (p.2 : Int), .int p.1]) := by
    rw [List.zipIdx_map, List.map_map]
    rfl
  obtain ⟨ρ', e⟩ := loop [] (some (.lst (ns.map .int), .fz)) (ns.take 30 ++ [2731]).zipIdx [some (.lst (ns.map .int), .fz), none, none, none, none, none, none, none, none, none] rfl rfl
  rw [← em] at e
  generalize (ns.take 30 ++ [2731]).map PV.int = ys at *
  rw [List.map_take] at es ea
  simp [D_law, i_law, den, exs, ex, ev, evT, evA, evK, evI, R.bind, R.to, F.seq, F.calm, getV, setV, liftB, liftO, mk, isC, keeps, cmpV, eqOk, deep, deeps, eqv, eqvs, truthy, told, Md.give, optI, es, ea, e, lockI, fr0, pl]
end LW

set_option maxHeartbeats 1000000
open PySem PySem.W PySem.Calls PyProof.Rows
set_option maxHeartbeats 0 in
theorem PySem.Challenge.cw_lackword_k81_shares_holds : PySem.Challenge.rw_lackword_k81_shares.Holds := by
  w_on; o_law
  refine HandSHeadRun.head_any (r := OpenLaw.row PySem.Challenge.rw_lackword_k81_shares) (q := view (OpenLaw.row PySem.Challenge.rw_lackword_k81_shares).prog [10]) (H := LW.hk) (ob := LW.ob) (M := 4000) (loose := LW.loose) (d := HandSHeadRun.topDef (OpenLaw.row PySem.Challenge.rw_lackword_k81_shares).prog 10) (kwd := []) LW.ob_eq
    (by kernel_rfl) (fun s => by kernel_rfl) LW.run (by kernel_rfl) (by kernel_rfl) (by kernel_rfl) (by rfl) (by first | assumption | decide +kernel) (by decide +kernel) ⟨rfl, rfl, rfl, rfl, rfl, by decide +kernel⟩ ?hw ?hc
  case hw => w_witness2
  case hc =>
    refine PVS.walk_pv (l := PySem.Challenge.rw_lackword_k81_shares) (n := 63) (k := 3) (x := "_law_script") rfl (by decide) (by kernel_rfl) ⟨rfl, by decide, by decide⟩ ?F
    intro w mg fa h Y G hmg0
    obtain ⟨K, KX, c⟩ := Y
    have hmg : mg ("law" : PySem.Str) = some (.ref fa) := by
      have e : (HandSHeadRun.topDef (OpenLaw.row PySem.Challenge.rw_lackword_k81_shares).prog 10).name = ("law" : PySem.Str) := by kernel_rfl
      rw [← e]
      exact hmg0
    obtain ⟨fd, hb, hF⟩ := LW.facts LW.holds (P := (PySem.Challenge.rw_lackword_k81_shares).prog) (w := w) KX G hmg c.t.d
    exact ⟨K, fd, LW.GK K, LW.D_law, KX, c.more, hb, LW.holds, hF⟩
