import PyProof.Rows.All
import Wide.All
import OpenK.AllK
import Wide.FinOn
import HandS.Lambda
import HandS.HeadHook4
import HandS.ForMost
import HandS.Zip
import HandS.IsInst
import HandS.Style
import HandS.Exc
import HandS.WordsExc
import HandS.Defaults
import HandS.HeadHook1
import HandS.SortInts
import HandS.Small
import HandS.NoneIn
import HandS.Conv
import KE.KDflt
import KE.KOpsOwn
import HandS.Call
import HandS.NamedTupSort
import HandS.FStr
import HandS.ClsMeth
import KE.GoesMore
import HandS.Star
import HandS.Dict
import HandS.SetFor
import HandS.Strs
import HandS.SortKw
import KE.DataMinMax
import HandS.ListItems
import HandS.Iter
import PyProof.ListRange
import PyProof.Rows.Range3
import HandS.More
import HandS.ExcInit
import HandS.ExcField
import PyProof.ExcBaseAll.LookupError
import PyProof.ExcBaseAll.IndexError
import KE.KTryMore
import HandS.HotCalls
import HandS.Head0
import HandS.Head1
import HandS.Head2
import HandS.HeadEnd
import HandS.HeadHook2
import HandS.HeadNt
import HandS.MakeKw
import HandS.HeadWalk
import PySem.Challenge.RW_onlyholes_k20_counts_of_rows
/-! OhD: pure values, a small position-free AST and its evaluator. -/
namespace Oh
abbrev Tx := List Nat
/-- pure values -/
inductive D where
  | non | bl (b : Bool) | int (i : Int) | str (s : Tx)
  | lst (xs : List D) | tup (xs : List D)
  | dct (kvs : List (D × D))
  | ins (c : Nat) (fs : List (Nat × D))
  | fn (f : Nat) | cls (c : Nat) | ty (t : Nat)
  | scr (ns : List Int)
/-- lines: no list or text is longer -/
abbrev line : Nat := 16777216
inductive Op where | add | sub | mul | fdiv | mod | pow
inductive Cmp where | eq | ne | lt | le | gt | ge | isin | notin | is | isnot
inductive Bi where | len | all | any | int | list | tuple | isi | repr | max | min | sorted
inductive Me where | join | split
/-- where a parameter's value comes from: a positional argument, a keyword's -/
inductive Src where | pos (i : Nat) | kw (i : Nat)
  deriving DecidableEq
/-- the names of the classes, of the attributes -/
def clsStr : Nat → PySem.Str
  | 0 => "HoleError"
  | 1 => "Missing"
  | 2 => "InvalidHole"
  | 3 => "InvalidPlace"
  | 4 => "InvalidRow"
  | 5 => "InvalidText"
  | 6 => "InvalidLetters"
  | 7 => "InvalidNumber"
  | 8 => "InvalidName"
  | 9 => "InvalidPiece"
  | 10 => "InvalidCommand"
  | 11 => "InvalidPage"
  | 12 => "InvalidLimit"
  | 13 => "DuplicateName"
  | 14 => "Ring"
  | 15 => "InUse"
  | 16 => "Full"
  | 17 => "TooMany"
  | 18 => "UnknownName"
  | 19 => "UnknownHole"
  | 20 => "NothingLeft"
  | 21 => "Mask"
  | 22 => "Row"
  | 23 => "Paper"
  | 24 => "Within"
  | 25 => "Parted"
  | 26 => "Alike"
  | 27 => "Lot"
  | 28 => "Open"
  | 29 => "Piece"
  | 30 => "RowPiece"
  | 31 => "JoinPiece"
  | 32 => "EitherPiece"
  | 33 => "TimesPiece"
  | 34 => "MirrorPiece"
  | 35 => "FillPiece"
  | 36 => "Bench"
  | 37 => "Desk"
  | _ => ""
def atStr : Nat → PySem.Str
  | 0 => "__init__"
  | 1 => "code"
  | 2 => "at"
  | 3 => "given"
  | 4 => "name"
  | 5 => "line"
  | 6 => "users"
  | 7 => "limit"
  | 8 => "most"
  | 9 => "subject"
  | 10 => "hole"
  | 11 => "WORD"
  | 12 => "own_places"
  | 13 => "check"
  | 14 => "read"
  | 15 => "places"
  | 16 => "holes"
  | 17 => "count"
  | 18 => "__len__"
  | 19 => "__iter__"
  | 20 => "__contains__"
  | 21 => "__getitem__"
  | 22 => "__eq__"
  | 23 => "written"
  | 24 => "__str__"
  | 25 => "__repr__"
  | 26 => "mirrored"
  | 27 => "plain"
  | 28 => "without"
  | 29 => "put"
  | 30 => "__add__"
  | 31 => "__mul__"
  | 32 => "KIND"
  | 33 => "TITLE"
  | 34 => "own_one"
  | 35 => "own_other"
  | 36 => "one"
  | 37 => "other"
  | 38 => "holds"
  | 39 => "told"
  | 40 => "own_putting"
  | 41 => "putting"
  | 42 => "own_text"
  | 43 => "text"
  | 44 => "own_there"
  | 45 => "own_back"
  | 46 => "there"
  | 47 => "back"
  | 48 => "MOST"
  | 49 => "own_rows"
  | 50 => "rows"
  | 51 => "tells"
  | 52 => "least"
  | 53 => "first_text"
  | 54 => "is_within"
  | 55 => "relation"
  | 56 => "__or__"
  | 57 => "fill"
  | 58 => "own_size"
  | 59 => "size"
  | 60 => "SORTS"
  | 61 => "parts"
  | 62 => "names"
  | 63 => "renamed"
  | 64 => "lot"
  | 65 => "named"
  | 66 => "combined"
  | 67 => "entries"
  | 68 => "past"
  | 69 => "future"
  | 70 => "own_limit"
  | 71 => "own_busy"
  | 72 => "relations"
  | 73 => "many"
  | 74 => "set_limit"
  | 75 => "busy"
  | 76 => "computed"
  | 77 => "need_known"
  | 78 => "piece"
  | 79 => "used_by"
  | 80 => "order"
  | 81 => "set_piece"
  | 82 => "drop"
  | 83 => "rename"
  | 84 => "do"
  | 85 => "apply"
  | 86 => "settle"
  | 87 => "undo"
  | 88 => "redo"
  | 89 => "turn"
  | 90 => "history"
  | 91 => "kept"
  | 92 => "twin"
  | 93 => "own_bench"
  | 94 => "lines"
  | 95 => "__bool__"
  | 96 => "__call__"
  | 97 => "bench"
  | 98 => "log"
  | 99 => "say"
  | 100 => "answer"
  | 101 => "turned"
  | 102 => "telling"
  | _ => ""
/-- a class and those above it -/
def above : Nat → List Nat
  | 0 => [0]
  | 1 => [1]
  | 2 => [2, 0]
  | 3 => [3, 0]
  | 4 => [4, 0]
  | 5 => [5, 0]
  | 6 => [6, 0]
  | 7 => [7, 0]
  | 8 => [8, 0]
  | 9 => [9, 0]
  | 10 => [10, 0]
  | 11 => [11, 0]
  | 12 => [12, 0]
  | 13 => [13, 0]
  | 14 => [14, 0]
  | 15 => [15, 0]
  | 16 => [16, 0]
  | 17 => [17, 0]
  | 18 => [18, 1]
  | 19 => [19, 1]
  | 20 => [20]
  | 21 => [21]
  | 22 => [22, 21]
  | 23 => [23]
  | 24 => [24, 23]
  | 25 => [25, 23]
  | 26 => [26, 23]
  | 27 => [27]
  | 28 => [28, 23]
  | 29 => [29]
  | 30 => [30, 29]
  | 31 => [31, 29]
  | 32 => [32, 29]
  | 33 => [33, 29]
  | 34 => [34, 29]
  | 35 => [35, 29]
  | 36 => [36]
  | 37 => [37]
  | _ => []
/-- the attributes that its instances have -/
def fieldsOf : Nat → List Nat
  | 0 => []
  | 1 => []
  | 2 => [1, 2]
  | 3 => [1, 2]
  | 4 => [1, 3]
  | 5 => [1, 3]
  | 6 => [1, 3]
  | 7 => [1, 3]
  | 8 => [1, 4]
  | 9 => [1, 3]
  | 10 => [1, 2]
  | 11 => [1, 5]
  | 12 => [1, 3]
  | 13 => [1, 4]
  | 14 => [1, 4]
  | 15 => [1, 4, 6]
  | 16 => [1, 7]
  | 17 => [1, 8, 9]
  | 18 => [1, 4]
  | 19 => [1, 10]
  | 20 => [1]
  | 21 => [12]
  | 22 => [12]
  | 23 => [34, 35]
  | 24 => [34, 35, 40]
  | 25 => [34, 35, 42]
  | 26 => [34, 35, 44, 45]
  | 27 => [49]
  | 28 => [34, 35, 58]
  | 29 => [61]
  | 30 => [61]
  | 31 => [61]
  | 32 => [61]
  | 33 => [61]
  | 34 => [61]
  | 35 => [61]
  | 36 => [67, 68, 69, 70, 71, 72, 73]
  | 37 => [93, 94]
  | _ => []
abbrev manyCls : Nat := 38
abbrev manyAt : Nat := 103
/-- the number of a method of a class among the defs, of a constant among the globals -/
def mnum (c m : Nat) : Nat := 1000 + 200 * c + m
mutual
/-- expressions; a local by its slot, a def by its number -/
inductive E where
  | never
  | non | bl (b : Bool) | int (i : Int) | str (s : Tx)
  | loc (i : Nat)
  | glb (g : Nat)
  | ty (k : Nat)
  | bin (op : Op) (a b : E)
  | neg (a : E)
  | cmp (op : Cmp) (a b : E)
  | cmp2 (op op' : Cmp) (a b c : E)
  | and (l : List E) | or (l : List E) | not (a : E)
  | ite (c a b : E)
  | lst (l : List E) | tup (l : List E)
  | idx (a i : E)
  | slc (a : E) (lo hi : Option E)
  | rev (a : E)
  | call (f : Nat) (l : List E)
  | callk (f : Nat) (l : List E) (ks : List E) (src : List Src)
  | bi (b : Bi) (l : List E)
  | me (m : Me) (a b : E)
  | lidx (a b : E)
  | lc (elt : E) (ts : List Nat) (it : I) (ifs : List E)
  | cls (c : Nat)
  | fld (a : E) (f : Nat) | con (a : E) (f : Nat)
  | mcall (a : E) (m : Nat) (l ks : List E) (src : List Src)
  | make (c : Nat) (l ks : List E) (src : List Src)
  | cm (c m : Nat) (l ks : List E) (src : List Src)
  | dcall (i : Nat) (l : List E)
  | fstr (l : List E)
  | obin (op : Op) (a b : E)
  | dct0 | dct1 (k v : E)
  | star2 (a b : E)
  | sset (a : E) | mind (a : E)
  | cat (a b : E)
  | why (q : PySem.Str) (a : E)
  | litems (a : E) | mint (a : E) | dct2 (k v k2 v2 : E)
  | whys (q : PySem.Str) (a : E) (es : List E) | whysd (q : PySem.Str) (es : List E)
  | lrng (l : List E) | bor (a : E) | frc (a : E) | srt (a : E)
  | mkc (a : E) | wls (l : List E) | wat (a : E) (k : Nat)
  | ogi (a i : E) | dnew (a : E) | dne (a b : E)
  | lams (q : PySem.Str) (es : List E) | lamadd (q : PySem.Str) (a : E) (es : List E)
/-- what is walked -/
inductive I where
  | ex (e : E)
  | rng (l : List E)
  | zip (l : List E)
  | enum (l : List E)
end
/-- statements -/
inductive S where
  | never
  | expr (e : E)
  | set (i : Nat) (e : E)
  | setc (i : Nat) (e : E)
  | setd (i : Nat)
  | setdn (i : Nat) (e : E)
  | tsd (i j : Nat) (e : E)
  | tset (is : List Nat) (e : E)
  | par (i j : Nat) (a b : E)
  | par3 (i j k : Nat) (a b c : E)
  | parl (i j : Nat) (a : E)
  | sub (i : Nat) (k v : E)
  | app (i : Nat) (e : E)
  | ext (i : Nat) (e : E)
  | fset (i f : Nat) (e : E)
  | frz (i : Nat)
  | ret (e : E)
  | retc (e : E)
  | retl (i : Nat)
  | ite (c : E) (a b : List S)
  | for_ (ts : List Nat) (it : I) (b : List S)
  | while_ (c : E) (b : List S)
  | tri (b : List S)
  | raise (c : Nat) (l : List E)
  | setl (i : Nat) (q : PySem.Str) (es : List E) | addl (i : Nat) (q : PySem.Str) (es : List E)
  | appx (o e : E) | clrx (o : E) | insx (i : Nat) (k v : E) | popd (i : Nat) (k : E)
  | tsw (is : List Nat) (es : List E)
  | brk | cont | pass
/-- values of a frame: pure ones, and mutable cells -/
inductive W where
  | p (d : D) | c (n : Nat)
/-- what stands in a cell -/
inductive C where
  | dead | lst (xs : List D) | dct (kvs : List (D × D)) | ins (c : Nat) (fs : List (Nat × D))
  | tab (q : PySem.Str)
  | lams (es : List E)
  | wl (ws : List W)
abbrev M := List C
abbrev Env := List (Option W)
/-- how a statement ends -/
inductive Fl where
  | nx (s : Env) | rt (w : W) | bk (s : Env) | ct (s : Env) | xc (x : D) (s : Env) | rc (xs : List D) | rl (n : Nat)
inductive Res (α : Type) where
  | ok (a : α) (m : M) | exc (x : D) (m : M) | bad
namespace Res
def bind {α β : Type} (r : Res α) (f : α → M → Res β) : Res β := match r with
  | .ok a m => f a m
  | .exc x m => .exc x m
  | .bad => .bad
@[simp] theorem bind_ok {α β : Type} (a : α) (m : M) (f : α → M → Res β) : (Res.ok a m).bind f = f a m := rfl
@[simp] theorem bind_exc {α β : Type} (a : D) (m : M) (f : α → M → Res β) : (Res.exc a m).bind f = .exc a m := rfl
@[simp] theorem bind_bad {α β : Type} (f : α → M → Res β) : (Res.bad).bind f = .bad := rfl
/-- in a statement: an error leaves it with the names as they stand -/
def bindS {α : Type} (r : Res α) (s : Env) (f : α → M → Res Fl) : Res Fl := match r with
  | .ok a m => f a m
  | .exc x m => .ok (.xc x s) m
  | .bad => .bad
@[simp] theorem bindS_ok {α : Type} (a : α) (m : M) (s : Env) (f : α → M → Res Fl) : (Res.ok a m).bindS s f = f a m := rfl
@[simp] theorem bindS_exc {α : Type} (a : D) (m : M) (s : Env) (f : α → M → Res Fl) : (Res.exc a m : Res α).bindS s f = .ok (.xc a s) m := rfl
@[simp] theorem bindS_bad {α : Type} (s : Env) (f : α → M → Res Fl) : (Res.bad : Res α).bindS s f = .bad := rfl
/-- what holds of a result -/
def Ok {α : Type} (r : Res α) (Q : α → M → Prop) : Prop := match r with
  | .ok a m => Q a m
  | _ => False
@[simp] theorem ok_ok {α : Type} (a : α) (m : M) (Q : α → M → Prop) : (Res.ok a m).Ok Q = Q a m := rfl
end Res
/-- a def: how many slots, how many parameters, the defaults of the last ones, its body -/
structure Fd where
  slots : Nat
  ps : Nat
  dfl : List D
  body : List S
  /-- the calls with keywords: how many values, the keywords, where each parameter's value comes from -/
  kbs : List (Nat × List PySem.Str × List Src) := []
def Fd.kb (fd : Fd) (l : List (Nat × List PySem.Str × List Src)) : Fd := { fd with kbs := l }
def Fd.fill (fd : Fd) (ws : List W) : List W := ws ++ (fd.dfl.drop (fd.dfl.length - (fd.ps - ws.length))).map .p

/-! ### operations -/
mutual
/-- Python's == on plain data -/
def eqv : D → D → Bool
  | .non, .non => true
  | .bl a, .bl b => a == b
  | .bl a, .int j => (if a then (1 : Int) else 0) == j
  | .int i, .bl b => i == (if b then (1 : Int) else 0)
  | .int i, .int j => i == j
  | .str a, .str b => a == b
  | .lst a, .lst b => eqvs a b
  | .tup a, .tup b => eqvs a b
  | _, _ => false
def eqvs : List D → List D → Bool
  | [], [] => true
  | x :: xs, y :: ys => eqv x y && eqvs xs ys
  | _, _ => false
end
mutual
/-- plain data of at most this depth -/
def plain : Nat → D → Bool
  | _, .non => true
  | _, .bl _ => true
  | _, .int _ => true
  | _, .str _ => true
  | 0, _ => false
  | n + 1, .lst xs => plains n xs
  | n + 1, .tup xs => plains n xs
  | _, _ => false
def plains : Nat → List D → Bool
  | _, [] => true
  | n, x :: xs => plain n x && plains n xs
end
abbrev deep : Nat := 60
/-- flat: none, a bool, an int, a text -/
def flat : D → Bool
  | .non => true
  | .bl _ => true
  | .int _ => true
  | .str _ => true
  | _ => false
def sIx (n d : Nat) : Option Int → Nat
  | none => d
  | some v => if v < 0 then (v + n).toNat else min v.toNat n
def cut {α : Type} (xs : List α) (lo hi : Option Int) : List α := (xs.drop (sIx xs.length 0 lo)).take (sIx xs.length xs.length hi - sIx xs.length 0 lo)
def ixN (n : Nat) (i : Int) : Option Nat := if 0 ≤ i then (if i < n then some i.toNat else none) else if -(n : Int) ≤ i then some (i + n).toNat else none
def atI {α : Type} (xs : List α) (i : Int) : Option α := (ixN xs.length i).bind fun j => xs[j]?
def mulOk (i j : Int) : Bool := (decide (-(2 ^ 64) < i) && decide (i < 2 ^ 64)) || (decide (-(2 ^ 64) < j) && decide (j < 2 ^ 64))
def opD : Op → D → D → Option D
  | .add, .int i, .int j => some (.int (i + j))
  | .add, .str a, .str b => if a.length + b.length ≤ line then some (.str (a ++ b)) else none
  | .add, .lst a, .lst b => if a.length + b.length ≤ line then some (.lst (a ++ b)) else none
  | .sub, .int i, .int j => some (.int (i - j))
  | .mul, .int i, .int j => if mulOk i j then some (.int (i * j)) else none
  | .mul, .str a, .int k => if decide (0 ≤ k) && decide (k < 1000) && decide (a.length * k.toNat ≤ line) then some (.str (List.replicate k.toNat a).flatten) else none
  | .mul, .lst a, .int k => if decide (0 ≤ k) && decide (k < 1000) && decide (a.length * k.toNat ≤ line) then some (.lst (List.replicate k.toNat a).flatten) else none
  | .fdiv, .int i, .int j => if decide (0 < j) && decide (j < 1073741824) then some (.int (i / j)) else none
  | .mod, .int i, .int j => if 0 < j then some (.int (i % j)) else none
  | .pow, .int i, .int j => if decide (0 ≤ j) && decide (j ≤ 1000) && decide (i.natAbs < 1000) then some (.int (i ^ j.toNat)) else none
  | _, _, _ => none
/-- a dict's value; with one put in -/
def isK (k : Tx) : D → Bool
  | .str a => decide (a = k)
  | _ => false
def look (k : Tx) (kvs : List (D × D)) : Option D := (kvs.find? fun q => isK k q.1).map (·.2)
def putD (k : Tx) (v : D) (kvs : List (D × D)) : List (D × D) := if kvs.any fun q => isK k q.1 then kvs.map fun q => if isK k q.1 then (q.1, v) else q else kvs ++ [(.str k, v)]
def inD (x : D) (xs : List D) : Option Bool := if flat x && xs.all flat then some (xs.any fun y => eqv y x) else none
def ltT (a b : Tx) : Bool := decide (a < b)
def isNon : D → Bool
  | .non => true
  | _ => false
def cmpD : Cmp → D → D → Option Bool
  | .eq, a, b => if plain deep a && plain deep b then some (eqv a b) else none
  | .ne, a, b => if plain deep a && plain deep b then some (!eqv a b) else none
  | .lt, .int i, .int j => some (decide (i < j))
  | .le, .int i, .int j => some (decide (i ≤ j))
  | .gt, .int i, .int j => some (decide (j < i))
  | .ge, .int i, .int j => some (decide (j ≤ i))
  | .lt, .str i, .str j => some (decide (i < j))
  | .isin, .str [c], .str s => some (decide (c ∈ s))
  | .notin, .str [c], .str s => some (!decide (c ∈ s))
  | .isin, x, .lst xs => inD x xs
  | .isin, x, .tup xs => inD x xs
  | .notin, x, .lst xs => (inD x xs).map (!·)
  | .notin, x, .tup xs => (inD x xs).map (!·)
  | .isin, .str x, .dct kvs => some (look x kvs).isSome
  | .notin, .str x, .dct kvs => some (!(look x kvs).isSome)
  | .is, a, .non => some (isNon a)
  | .isnot, a, .non => some (!isNon a)
  | _, _, _ => none
def bools : List D → Option (List Bool)
  | [] => some []
  | .bl b :: r => (bools r).map (b :: ·)
  | _ :: _ => none
def texts : List D → Option (List Tx)
  | [] => some []
  | .str b :: r => (texts r).map (b :: ·)
  | _ :: _ => none
/-- the built-in types by number: 0 int, 1 str, 2 bool, 3 list, 4 tuple, 5 dict -/
def isiD : D → Nat → Option Bool
  | .non, k => if k ≤ 5 then some false else none
  | .bl _, k => if k ≤ 5 then some (k == 2 || k == 0) else none
  | .int _, k => if k ≤ 5 then some (k == 0) else none
  | .str _, k => if k ≤ 5 then some (k == 1) else none
  | .lst _, k => if k ≤ 5 then some (k == 3) else none
  | .tup _, k => if k ≤ 5 then some (k == 4) else none
  | .dct _, k => if k ≤ 5 then some (k == 5) else none
  | .ins _ _, k => if k ≤ 5 then some false else none
  | _, _ => none
def isiT (d : D) : List D → Option Bool
  | [] => some false
  | .ty k :: r => match isiD d k, isiT d r with
    | some b, some c => some (b || c)
    | _, _ => none
  | _ :: _ => none
def intsD : List D → Option (List Int)
  | [] => some []
  | .int b :: r => (intsD r).map (b :: ·)
  | _ :: _ => none
/-- in order -/
def insI (x : Int) : List Int → List Int
  | [] => [x]
  | y :: r => if x ≤ y then x :: y :: r else y :: insI x r
def sortI : List Int → List Int
  | [] => []
  | x :: r => insI x (sortI r)
/-- texts in order -/
def insT (x : Tx) : List Tx → List Tx
  | [] => [x]
  | y :: r => if y < x then y :: insT x r else x :: y :: r
def sortT : List Tx → List Tx
  | [] => []
  | x :: r => insT x (sortT r)
/-- ints, or fewer than 64 texts -/
def sortD (xs : List D) : Option D := match intsD xs with
  | some ns => some (.lst ((sortI ns).map .int))
  | none => match texts xs with
    | some ts => if ts.length < 64 then some (.lst ((sortT ts).map .str)) else none
    | none => none
/-- ints in order, each once -/
def insU (x : Int) : List Int → List Int
  | [] => [x]
  | y :: r => if x < y then x :: y :: r else if x = y then y :: r else y :: insU x r
def setI : List Int → List Int
  | [] => []
  | x :: r => insU x (setI r)
/-- sorted(set(xs)), fewer than 64 -/
def ssetD (d : D) : Option D := match d with
  | .lst xs => match intsD xs with
    | some ns => if ns.length < 64 then some (.lst ((setI ns).map .int)) else none
    | none => none
  | _ => none
/-- list + list -/
def catD (x y : D) : Option D := match x, y with
  | .lst a, .lst b => if a.length + b.length ≤ line then some (.lst (a ++ b)) else none
  | _, _ => none
/-- the least of some -/
def minL (x : Int) : List Int → Int
  | [] => x
  | y :: r => minL (if y < x then y else x) r
/-- min(xs, default=None) -/
def mindD (d : D) : Option D := match d with
  | .lst xs => match intsD xs with
    | some [] => some .non
    | some (x :: r) => some (.int (minL x r))
    | none => none
  | _ => none
/-- list(d.items()) -/
def litemsD (d : D) : Option D := match d with
  | .dct kvs => some (.lst (kvs.map fun q => D.tup [q.1, q.2]))
  | _ => none
/-- pairs of a text and a value -/
def pairsD : List D → Option (List (D × D))
  | [] => some []
  | .tup [.str k, v] :: r => (pairsD r).map ((.str k, v) :: ·)
  | _ :: _ => none
def mergeD : List (D × D) → List (D × D) → List (D × D)
  | acc, [] => acc
  | acc, (.str k, v) :: r => mergeD (putD k v acc) r
  | acc, _ :: r => mergeD acc r
/-- dict(pairs) -/
def dnewD (d : D) : Option D := match d with
  | .lst xs => match pairsD xs with
    | some kvs => some (.dct (mergeD [] kvs))
    | none => none
  | _ => none
/-- a dict's keys and values, by Python's == -/
def eqKvs (a b : List (D × D)) : Bool := decide (a.length = b.length) && a.all fun q => match q.1 with
  | .str k => match look k b with
    | some v => eqv q.2 v
    | none => false
  | _ => false
def isTxt : D → Bool
  | .str _ => true
  | _ => false
/-- d != e, of two dicts whose values are flat -/
def dneD (x y : D) : Option D := match x, y with
  | .dct a, .dct b => if (a.all fun q => flat q.2) && (b.all fun q => flat q.2) then some (.bl (!eqKvs a b)) else none
  | _, _ => none
/-- the least text -/
def minT (x : Tx) : List Tx → Tx
  | [] => x
  | y :: r => minT (if y < x then y else x) r
def mintD (d : D) : Option D := match d with
  | .lst xs => match texts xs with
    | some (x :: r) => some (.str (minT x r))
    | _ => none
  | _ => none
/-- sorted(xs), a new list -/
def sortLD (d : D) : Option D := match d with
  | .lst xs => sortD xs
  | _ => none
/-- how many items a range has; the list of them -/
def rngN (a b c : Int) : Nat := if a < b then ((b - a - 1) / c + 1).toNat else 0
def rngL (a b c : Int) : List D := (List.range (rngN a b c)).map fun (i : Nat) => D.int (a + i * c)
def lrngD (ds : List D) : Option D := match ds with
  | [.int a, .int b, .int c] => if decide (-(2 ^ 60) ≤ a) && decide (a < 2 ^ 60) && decide (-(2 ^ 60) ≤ b) && decide (b < 2 ^ 60) && decide (0 < c) && decide (c < 1073741824) && decide (rngN a b c ≤ line) then some (.lst (rngL a b c)) else none
  | _ => none
def maxI : List Int → Option Int
  | [] => none
  | x :: r => some (r.foldl (fun a b => if a ≤ b then b else a) x)
def minI : List Int → Option Int
  | [] => none
  | x :: r => some (r.foldl (fun a b => if b ≤ a then b else a) x)
def biD : Bi → List D → Option D
  | .len, [.lst xs] => some (.int xs.length)
  | .len, [.tup xs] => some (.int xs.length)
  | .len, [.str xs] => if xs.length ≤ line then some (.int xs.length) else none
  | .all, [.lst xs] => (bools xs).map fun bs => .bl (bs.all id)
  | .any, [.lst xs] => (bools xs).map fun bs => .bl (bs.any id)
  | .int, [.int i] => some (.int i)
  | .list, [.lst xs] => some (.lst xs)
  | .list, [.tup xs] => some (.lst xs)
  | .list, [.dct kvs] => some (.lst (kvs.map (·.1)))
  | .tuple, [.lst xs] => some (.tup xs)
  | .tuple, [.tup xs] => some (.tup xs)
  | .isi, [x, .ty k] => (isiD x k).map .bl
  | .isi, [x, .tup cs] => if (isiD x 0).isSome && !cs.isEmpty then (isiT x cs).map .bl else none
  | .max, [.int i, .int j] => some (.int (if j > i then j else i))
  | .min, [.int i, .int j] => some (.int (if j < i then j else i))
  | .sorted, [.lst xs] => sortD xs
  | _, _ => none
def joinL (s : Tx) : List Tx → Tx
  | [] => []
  | [x] => x
  | x :: y :: r => x ++ s ++ joinL s (y :: r)
/-- text.split(c) of one sign -/
def splitC (c : Nat) : Tx → Tx → List Tx
  | acc, [] => [acc]
  | acc, x :: r => if x = c then acc :: splitC c [] r else splitC c (acc ++ [x]) r
def splitD (s : Tx) : D → Option D
  | .str [c] => if decide (s.length + 2 ≤ line) && decide (c < 256) then some (.lst ((splitC c [] s).map .str)) else none
  | _ => none
def meD : Me → Tx → D → Option D
  | .join, s, .lst xs => match texts xs with
    | some ts => if (joinL s ts).length + s.length ≤ line then some (.str (joinL s ts)) else none
    | none => none
  | .split, s, a => splitD s a
  | _, _, _ => none
/-- what a walk over a value yields -/
def items : D → Option (List D)
  | .lst xs => some xs
  | .tup xs => some xs
  | .str s => some (s.map fun c => .str [c])
  | _ => none
def ofO {α : Type} (o : Option α) (m : M) : Res α := match o with
  | some a => .ok a m
  | none => .bad
@[simp] theorem ofO_some {α : Type} (a : α) (m : M) : ofO (some a) m = .ok a m := rfl
@[simp] theorem ofO_none {α : Type} (m : M) : (ofO (none : Option α) m) = .bad := rfl
/-- a frame's value as a pure one; a list in a cell is looked at as it stands -/
def asD (w : W) (m : M) : Option D := match w with
  | .p d => some d
  | .c n => match m[n]? with
    | some (.lst xs) => some (.lst xs)
    | some (.dct xs) => some (.dct xs)
    | _ => none
/-- pure alone -/
def purely (w : W) : Option D := match w with
  | .p d => some d
  | .c _ => none
/-- a list comprehension's walk -/
def lcGo (f : D → M → Res (Option D)) : List D → M → Res (List D)
  | [], m => .ok [] m
  | x :: xs, m => (f x m).bind fun o m1 => (lcGo f xs m1).bind fun r m2 => .ok (match o with | some y => y :: r | none => r) m2
def forGo (f : D → Env → M → Res Fl) : List D → Env → M → Res Fl
  | [], s, m => .ok (.nx s) m
  | x :: xs, s, m => (f x s m).bind fun fl m1 => match fl with
    | .nx s1 => forGo f xs s1 m1
    | .ct s1 => forGo f xs s1 m1
    | .bk s1 => .ok (.nx s1) m1
    | fl => .ok fl m1
/-- a target: one slot, or a tuple to several -/
def setT : List Nat → D → Env → Option Env
  | [i], d, s => some (s.set i (some (.p d)))
  | ts, .tup xs, s => if xs.length = ts.length then some ((ts.zip xs).foldl (fun s q => s.set q.1 (some (.p q.2))) s) else none
  | ts, .lst xs, s => if xs.length = ts.length then some ((ts.zip xs).foldl (fun s q => s.set q.1 (some (.p q.2))) s) else none
  | _, _, _ => none
def truthB : D → Option Bool
  | .bl b => some b
  | _ => none

/-! ### the evaluator: Fn tells what a def does -/
abbrev Fns := Nat → List W → M → Res W
def toDs : List W → M → Option (List D)
  | [], _ => some []
  | w :: r, m => (asD w m).bind fun d => (toDs r m).map (d :: ·)
def toPs : List W → Option (List D)
  | [] => some []
  | w :: r => (purely w).bind fun d => (toPs r).map (d :: ·)
def toI (d : D) : Option Int := match d with
  | .int i => some i
  | _ => none
def idxD (x y : D) : Option D := match x, y with
  | .lst xs, .int k => atI xs k
  | .tup xs, .int k => atI xs k
  | .str xs, .int k => if xs.length ≤ line then (atI xs k).map fun c => .str [c] else none
  | .dct kvs, .str k => look k kvs
  | _, _ => none
/-- where a flat value stands first -/
def findD (x : D) : List D → Option Nat
  | [] => none
  | y :: r => if eqv y x then some 0 else (findD x r).map (· + 1)
def lidxD (x y : D) : Option D := match x with
  | .lst xs => if flat y && xs.all flat then (findD y xs).map fun (j : Nat) => D.int j else none
  | _ => none
/-- a list as it stands -/
def lstOf (w : W) (m : M) : Option (List D) := match asD w m with
  | some (.lst xs) => some xs
  | _ => none
def slcD (x : D) (lo hi : Option Int) : Option D := match x with
  | .lst xs => some (.lst (cut xs lo hi))
  | .str xs => if xs.length ≤ line then some (.str (cut xs lo hi)) else none
  | .scr xs => some (.lst ((cut xs lo hi).map .int))
  | _ => none
def revD (x : D) : Option D := match x with
  | .lst xs => some (.lst xs.reverse)
  | _ => none
/-- an operation on one value, on two, on several; a test -/
def op1 (f : D → Option D) (w : W) (m : M) : Res W := match asD w m with
  | some x => match f x with
    | some z => .ok (.p z) m
    | none => .bad
  | none => .bad
def op2 (f : D → D → Option D) (w1 w2 : W) (m : M) : Res W := match asD w1 m, asD w2 m with
  | some x, some y => match f x y with
    | some z => .ok (.p z) m
    | none => .bad
  | _, _ => .bad
def opn (f : List D → Option D) (ws : List W) (m : M) : Res W := match toDs ws m with
  | some xs => match f xs with
    | some z => .ok (.p z) m
    | none => .bad
  | none => .bad
def test (w : W) (m : M) : Res Bool := match w with
  | .p (.bl b) => .ok b m
  | _ => .bad
def int1 (w : W) (m : M) : Res Int := match w with
  | .p (.int i) => .ok i m
  | _ => .bad
def str1 (w : W) (m : M) : Res Tx := match w with
  | .p (.str i) => .ok i m
  | _ => .bad
def cmpB (op : Cmp) (x y : D) : Option D := (cmpD op x y).map .bl
def negD (x : D) : Option D := (toI x).map fun i => .int (-i)
def rngI (lo hi : Int) : Option (List D) := if decide (-(2 ^ 60) ≤ lo) && decide (lo < 2 ^ 60) && decide (-(2 ^ 60) ≤ hi) && decide (hi < 2 ^ 60) then some ((List.range (hi - lo).toNat).map fun (i : Nat) => D.int (lo + i)) else none
def zipD : D → D → Option (List D)
  | .lst xs, .lst ys => some ((xs.zip ys).map fun q => D.tup [q.1, q.2])
  | .tup xs, .tup ys => some ((xs.zip ys).map fun q => D.tup [q.1, q.2])
  | _, _ => none
/-- a walk over a pure value; over two -/
def itm (w : W) (m : M) : Res (List D) := match w with
  | .p d => ofO (items d) m
  | .c _ => .bad
def rngW (ws : List W) (m : M) : Res (List D) := match ws with
  | [.p (.int j)] => ofO (rngI 0 j) m
  | [.p (.int i), .p (.int j)] => ofO (rngI i j) m
  | _ => .bad
def zipW (ws : List W) (m : M) : Res (List D) := match ws with
  | [.p d, .p d'] => ofO (zipD d d') m
  | _ => .bad
def enumW (ws : List W) (m : M) : Res (List D) := match ws with
  | [.p (.lst xs)] => .ok (xs.zipIdx.map fun q => D.tup [.int q.2, q.1]) m
  | [.p (.tup xs)] => .ok (xs.zipIdx.map fun q => D.tup [.int q.2, q.1]) m
  | _ => .bad
def pures (ws : List W) (f : List D → D) (m : M) : Res W := match toPs ws with
  | some ds => if ds.length ≤ line then .ok (.p (f ds)) m else .bad
  | none => .bad
/-- one turn of a list comprehension -/
def lcEnd (w : W) (m : M) : Res (Option D) := match w with
  | .p d => .ok (some d) m
  | .c _ => .bad
/-- an error in a comprehension: not served yet -/
def noX {α : Type} (r : Res α) : Res α := match r with
  | .exc _ _ => .bad
  | r => r
@[simp] theorem noX_ok {α : Type} (a : α) (m : M) : noX (.ok a m : Res α) = .ok a m := rfl
@[simp] theorem noX_bad {α : Type} : noX (.bad : Res α) = .bad := rfl
/-- one turn of the evaluator in a comprehension -/
def lcTurn (ts : List Nat) (rt : Env → M → Res Bool) (re : Env → M → Res W) (s : Env) (x : D) (m : M) : Res (Option D) :=
  (ofO (setT ts x s) m).bind fun s1 m => (rt s1 m).bind fun b m => match b with | true => (re s1 m).bind lcEnd | false => .ok none m
def lcList (ds : List D) (m : M) : Res W := if ds.length ≤ line then .ok (.p (.lst ds)) m else .bad
def srcGet {α : Type} (us zs : List α) : Src → Option α
  | .pos i => us[i]?
  | .kw i => zs[i]?
def bindK {α : Type} (us zs : List α) (src : List Src) : List α := src.filterMap (srcGet us zs)
/-- the values of a call: by place alone, or by keywords too -/
def bindA {α : Type} (us zs : List α) (src : List Src) : List α := match src with
  | [] => us
  | _ => bindK us zs src
/-- an instance's class and attributes, pure or in a cell -/
def insW (w : W) (m : M) : Option (Nat × List (Nat × D)) := match w with
  | .p (.ins c fs) => some (c, fs)
  | .c n => match m[n]? with
    | some (.ins c fs) => some (c, fs)
    | _ => none
  | _ => none
def fldR (f : Nat) (w : W) (m : M) : Res W := match insW w m with
  | some (c, fs) => if (fieldsOf c).contains f then (match fs.lookup f with
    | some d => .ok (.p d) m
    | none => .bad) else .bad
  | none => .bad
/-- the class of an instance that has no attribute of that name of its own -/
def clsR (f : Nat) (w : W) (m : M) : Res Nat := match insW w m with
  | some (c, fs) => match fs.lookup f with
    | none => .ok c m
    | some _ => .bad
  | none => .bad
/-- a method stands there; a classmethod -/
def isFn : Option D → Bool
  | some (.fn 0) => true
  | _ => false
def isDef : Option D → Bool
  | some (.fn _) => true
  | _ => false
def isCm : Option D → Bool
  | some (.fn 1) => true
  | _ => false
def isXc : Option D → Bool
  | some (.fn 2) => true
  | _ => false
def conR (o : Option D) (m : M) : Res W := match o with
  | some (.fn _) => .bad
  | some d => .ok (.p d) m
  | none => .bad
/-- an instance was made in cell k -/
def madeR (k : Nat) (w : W) (m : M) : Res W := match w with
  | .p .non => match m[k]? with
    | some (.ins c fs) => .ok (.p (.ins c fs)) (m.take k)
    | _ => .bad
  | _ => .bad
def putN (f : Nat) (d : D) : List (Nat × D) → List (Nat × D)
  | [] => [(f, d)]
  | (g, x) :: r => if g = f then (g, d) :: r else (g, x) :: putN f d r
def fldCell (f : Nat) (o v : W) (m : M) : Res Unit := match o, v with
  | .c n, .p d => match m[n]? with
    | some (.ins c fs) => if decide (fs.length < 900) && (fieldsOf c).contains f then .ok () (m.set n (.ins c (putN f d fs))) else .bad
    | _ => .bad
  | _, _ => .bad
/-- an instance of a class is made -/
def mkW (Fn : Fns) (c : Nat) (ws zs : List W) (src : List Src) (m : M) : Res W := (Fn (mnum c 0) (bindA (.c m.length :: ws) zs src) (m ++ [.ins c []])).bind fun w m2 => madeR m.length w m2
/-- a class that may be made -/
def isMk (G : Nat → Option D) (w : W) : Option Nat := match w with
  | .p (.cls c) => if isFn (G (mnum c 0)) then some c else none
  | _ => none
/-- == and != by an own __eq__: whose, and of what -/
def eqArgs (c : Nat) (w1 w2 : W) : Nat × List W := match w2 with
  | .p (.ins c2 _) => if decide (c2 ≠ c) && (above c2).contains c then (c2, [w2, w1]) else (c, [w1, w2])
  | _ => (c, [w1, w2])
def boolOnly (neg : Bool) (w : W) (m : M) : Res W := match w with
  | .p (.bl b) => .ok (.p (.bl (b != neg))) m
  | _ => .bad
/-- what may stand behind an own == -/
def eqR (G : Nat → Option D) : Option D → Bool
  | some (.ins c2 _) => isFn (G (mnum c2 0))
  | some d => (isiD d 0).isSome
  | none => false
def eqW (G : Nat → Option D) (Fn : Fns) (neg : Bool) (c : Nat) (w1 w2 : W) (m : M) : Res W :=
  if isFn (G (mnum c 0)) && isFn (G (mnum (eqArgs c w1 w2).1 22)) && eqR G (asD w2 m) then noX ((Fn (mnum (eqArgs c w1 w2).1 22) (eqArgs c w1 w2).2 m).bind (boolOnly neg)) else .bad
def cmpW (G : Nat → Option D) (Fn : Fns) (op : Cmp) (w1 w2 : W) (m : M) : Res W := match op, w1 with
  | .eq, .p (.ins c _) => eqW G Fn false c w1 w2 m
  | .ne, .p (.ins c _) => eqW G Fn true c w1 w2 m
  | _, _ => op2 (cmpB op) w1 w2 m
def natOnly (w : W) (m : M) : Res W := match w with
  | .p (.int i) => if decide (0 ≤ i) && decide (i < 2 ^ 60) then .ok w m else .bad
  | _ => .bad
def strOnly (w : W) (m : M) : Res W := match w with
  | .p (.str _) => .ok w m
  | _ => .bad
/-- repr(x) by an own __repr__ -/
def isiW (G : Nat → Option D) (d : D) (k : Nat) (m : M) : Res W := match d with
  | .ins c _ => if isFn (G (mnum c 0)) && isFn (G (mnum k 0)) then .ok (.p (.bl ((above c).contains k))) m else .bad
  | d => if (isiD d 0).isSome && isFn (G (mnum k 0)) then .ok (.p (.bl false)) m else .bad
def biW (G : Nat → Option D) (Fn : Fns) (b : Bi) (ws : List W) (m : M) : Res W := match b, ws with
  | .isi, [w, .p (.cls k)] => match asD w m with
    | some d => isiW G d k m
    | none => .bad
  | .len, [.p (.ins c fs)] => if isFn (G (mnum c 18)) then noX ((Fn (mnum c 18) ws m).bind natOnly) else .bad
  | .repr, [.p (.ins c fs)] => if isFn (G (mnum c 25)) then noX ((Fn (mnum c 25) ws m).bind strOnly) else .bad
  | _, _ => opn (biD b) ws m
/-- + and * by an own __add__, __mul__ -/
def opNum : Op → Nat
  | .add => 30
  | _ => 31
def opMay : Op → Bool
  | .add => true
  | .mul => true
  | _ => false
/-- what may stand behind it: an instance, or a built-in value -/
def opRgt (G : Nat → Option D) (op : Op) : Option D → Bool
  | some (.ins c2 _) => isFn (G (mnum c2 0)) && isFn (G (mnum c2 (opNum op)))
  | some d => (isiD d 0).isSome
  | none => false
def opW (G : Nat → Option D) (Fn : Fns) (op : Op) (w1 w2 : W) (m : M) : Res W := match w1 with
  | .p (.ins c _) => if isFn (G (mnum c 0)) && isFn (G (mnum c (opNum op))) && opMay op && opRgt G op (asD w2 m) then Fn (mnum c (opNum op)) [w1, w2] m else .bad
  | _ => .bad
/-- {k: v} -/
def dct1R (w1 w2 : W) (m : M) : Res W := match w1, w2 with
  | .p (.str k), .p d => .ok (.p (.dct [(.str k, d)])) m
  | _, _ => .bad
/-- {k: v, k2: v2} -/
def dct2R (w1 w2 w3 w4 : W) (m : M) : Res W := match w1, w2, w3, w4 with
  | .p (.str k), .p d, .p (.str k2), .p d2 => .ok (.p (.dct (putD k2 d2 [(.str k, d)]))) m
  | _, _, _, _ => .bad
/-- what *x tells -/
def starW (w : W) : Option (List D) := match w with
  | .p (.lst xs) => some xs
  | .p (.tup xs) => some xs
  | _ => none
/-- an int as a text -/
def intTx (i : Int) : Tx := (toString i).toList.map Char.toNat
/-- a part of an f-string -/
def fpart (acc : Tx) (w : W) : Option Tx := match w with
  | .p (.str s) => if decide (s.length ≤ line) && decide ((acc ++ s).length ≤ line) then some (acc ++ s) else none
  | .p (.int i) => if decide (i.natAbs.log2 < 1920) && decide ((acc ++ intTx i).length ≤ line) then some (acc ++ intTx i) else none
  | _ => none
/-! ### errors -/
/-- the text that an error's code is -/
def codeT : Nat → Tx
  | 2 => [73, 110, 118, 97, 108, 105, 100, 72, 111, 108, 101]
  | 3 => [73, 110, 118, 97, 108, 105, 100, 80, 108, 97, 99, 101]
  | 4 => [73, 110, 118, 97, 108, 105, 100, 82, 111, 119]
  | 5 => [73, 110, 118, 97, 108, 105, 100, 84, 101, 120, 116]
  | 6 => [73, 110, 118, 97, 108, 105, 100, 76, 101, 116, 116, 101, 114, 115]
  | 7 => [73, 110, 118, 97, 108, 105, 100, 78, 117, 109, 98, 101, 114]
  | 8 => [73, 110, 118, 97, 108, 105, 100, 78, 97, 109, 101]
  | 9 => [73, 110, 118, 97, 108, 105, 100, 80, 105, 101, 99, 101]
  | 10 => [73, 110, 118, 97, 108, 105, 100, 67, 111, 109, 109, 97, 110, 100]
  | 11 => [73, 110, 118, 97, 108, 105, 100, 80, 97, 103, 101]
  | 12 => [73, 110, 118, 97, 108, 105, 100, 76, 105, 109, 105, 116]
  | 13 => [68, 117, 112, 108, 105, 99, 97, 116, 101, 78, 97, 109, 101]
  | 14 => [82, 105, 110, 103]
  | 15 => [73, 110, 85, 115, 101]
  | 16 => [70, 117, 108, 108]
  | 17 => [84, 111, 111, 77, 97, 110, 121]
  | 18 => [85, 110, 107, 110, 111, 119, 110, 78, 97, 109, 101]
  | 19 => [85, 110, 107, 110, 111, 119, 110, 72, 111, 108, 101]
  | 20 => [78, 111, 116, 104, 105, 110, 103, 76, 101, 102, 116]
  | _ => []
/-- what an error's __init__ lays: a text, or a parameter -/
inductive XV where | cst (s : Tx) | par (i : Nat)
def xFd : Nat → Option Fd
  | 2 => some ⟨2, 2, [], [], []⟩
  | 3 => some ⟨2, 2, [], [], []⟩
  | 4 => some ⟨2, 2, [], [], []⟩
  | 5 => some ⟨2, 2, [], [], []⟩
  | 6 => some ⟨2, 2, [], [], []⟩
  | 7 => some ⟨2, 2, [], [], []⟩
  | 8 => some ⟨2, 2, [], [], []⟩
  | 9 => some ⟨2, 2, [], [], []⟩
  | 10 => some ⟨2, 2, [], [], []⟩
  | 11 => some ⟨2, 2, [], [], []⟩
  | 12 => some ⟨2, 2, [], [], []⟩
  | 13 => some ⟨2, 2, [], [], []⟩
  | 14 => some ⟨2, 2, [], [], []⟩
  | 15 => some ⟨3, 3, [], [], []⟩
  | 16 => some ⟨2, 2, [], [], []⟩
  | 17 => some ⟨3, 3, [.str [112, 108, 97, 99, 101, 115]], [], []⟩
  | 18 => some ⟨2, 2, [], [], []⟩
  | 19 => some ⟨2, 2, [], [], []⟩
  | 20 => some ⟨1, 1, [], [], []⟩
  | _ => none
def xAs : Nat → List (Nat × XV)
  | 2 => [(1, .cst (codeT 2)), (2, .par 0)]
  | 3 => [(1, .cst (codeT 3)), (2, .par 0)]
  | 4 => [(1, .cst (codeT 4)), (3, .par 0)]
  | 5 => [(1, .cst (codeT 5)), (3, .par 0)]
  | 6 => [(1, .cst (codeT 6)), (3, .par 0)]
  | 7 => [(1, .cst (codeT 7)), (3, .par 0)]
  | 8 => [(1, .cst (codeT 8)), (4, .par 0)]
  | 9 => [(1, .cst (codeT 9)), (3, .par 0)]
  | 10 => [(1, .cst (codeT 10)), (2, .par 0)]
  | 11 => [(1, .cst (codeT 11)), (5, .par 0)]
  | 12 => [(1, .cst (codeT 12)), (3, .par 0)]
  | 13 => [(1, .cst (codeT 13)), (4, .par 0)]
  | 14 => [(1, .cst (codeT 14)), (4, .par 0)]
  | 15 => [(1, .cst (codeT 15)), (4, .par 0), (6, .par 1)]
  | 16 => [(1, .cst (codeT 16)), (7, .par 0)]
  | 17 => [(1, .cst (codeT 17)), (8, .par 0), (9, .par 1)]
  | 18 => [(1, .cst (codeT 18)), (4, .par 0)]
  | 19 => [(1, .cst (codeT 19)), (10, .par 0)]
  | 20 => [(1, .cst (codeT 20))]
  | _ => []
def kvD (ds : List D) (q : Nat × XV) : Nat × D := match q.2 with
  | .cst s => (q.1, .str s)
  | .par i => (q.1, (ds[i]?).getD .non)
/-- an error is made of pure values -/
def xMake (c : Nat) (ds : List D) : D := .ins c ((xAs c).map (kvD ds)).reverse
def fillD (fd : Fd) (ds : List D) : List D := ds ++ fd.dfl.drop (fd.dfl.length - (fd.ps - (ds.length + 1)))
def raiseW (G : Nat → Option D) (c : Nat) (ws : List W) (s : Env) (m : M) : Res Fl := match toPs ws, xFd c with
  | some ds, some fd => if isXc (G (mnum c 0)) && decide ((fillD fd ds).length + 1 = fd.ps) then .ok (.xc (xMake c (fillD fd ds)) s) m else .bad
  | _, _ => .bad
/-- the attributes that a law reads of an error, by its code -/
def fldRows : List (List Nat × List Nat) := [([2, 3, 10], [2]), ([4, 5, 6, 7, 9, 12], [3]), ([8, 13, 14, 18], [4]), ([15], [4, 6]), ([17], [8, 9]), ([16], [7]), ([11], [5]), ([19], [10])]
def fldsOf : List (List Nat × List Nat) → Tx → List Nat
  | [], _ => []
  | (cs, fs) :: r, t => if cs.any (fun c => codeT c == t) then fs else fldsOf r t
def fldAll (c : Nat) (fs : List (Nat × D)) : List Nat → Option (List D)
  | [] => some []
  | f :: r => if (fieldsOf c).contains f then (fs.lookup f).bind fun d => (fldAll c fs r).map (d :: ·) else none
/-- what _law_why makes of an error -/
def whyX (G : Nat → Option D) (x : D) : Option D := match x with
  | .ins c fs => if isXc (G (mnum c 0)) then (match fs.lookup 1 with
    | some (.str t) => (fldAll c fs (fldsOf fldRows t)).map fun ds => .tup [.str t, .tup ds]
    | _ => none) else none
  | _ => none
def toldT : Tx := [116, 111, 108, 100]
def whyEnd (G : Nat → Option D) (k : Nat) (r : Res W) : Res W := match r with
  | .ok (.p d) m => .ok (.p (.tup [.str toldT, d])) (m.take k)
  | .exc x m => match whyX G x with
    | some d => .ok (.p d) (m.take k)
    | none => .bad
  | _ => .bad
/-- the table of the law's own lambdas -/
def tabOk (q : PySem.Str) (m : M) : Res Unit := match (m[0]? : Option C) with
  | some (.tab q') => if q' = q then .ok () m else .bad
  | _ => .bad
/-- a def is left: cells that it made are frozen or dropped -/
def leave (k : Nat) (w : W) (m : M) : Res W := match w with
  | .p d => .ok (.p d) (m.take k)
  | .c n => if n < k then .ok (.c n) (m.take k) else match m[n]? with
    | some (.lst xs) => .ok (.p (.lst xs)) (m.take k)
    | some (.dct xs) => .ok (.p (.dct xs)) (m.take k)
    | _ => .bad
/-- cells as they stand, looked at; a question that tells a plain value and changes nothing -/
def wlOf (w : W) (m : M) : Option (List W) := match w with
  | .c n => match m[n]? with
    | some (.wl ws) => some ws
    | _ => none
  | _ => none
def snapW (m : M) (w : W) : Option W := match wlOf w m with
  | some ws => (toDs ws m).map fun ds => .p (.lst ds)
  | none => (asD w m).map .p
/-- a new cell; a new list of what may lie in cells; what stands in it -/
def newW (w : W) (m : M) : Res W := match w with
  | .p (.lst xs) => .ok (.c m.length) (m ++ [.lst xs])
  | .p (.dct xs) => .ok (.c m.length) (m ++ [.dct xs])
  | _ => .bad
def newWl (ws : List W) (m : M) : Res W := if ws.length ≤ line then .ok (.c m.length) (m ++ [.wl ws]) else .bad
def watR (k : Nat) (w : W) (m : M) : Res W := match wlOf w m with
  | some ws => match ws[k]? with
    | some w2 => .ok w2 m
    | none => .bad
  | none => .bad
def lamsW (w : W) (m : M) : Res (List E) := match w with
  | .c n => match m[n]? with
    | some (.lams es) => .ok es m
    | _ => .bad
  | _ => .bad
def newLams (es : List E) (m : M) : Res W := .ok (.c m.length) (m ++ [.lams es])
/-- x[i] by an own __getitem__ -/
def ogiW (G : Nat → Option D) (Fn : Fns) (w1 w2 : W) (m : M) : Res W := match w1 with
  | .p (.ins c _) => if isFn (G (mnum c 0)) && isFn (G (mnum c 21)) then Fn (mnum c 21) [w1, w2] m else .bad
  | _ => .bad
def snap (s : Env) (m : M) : Env := s.map fun o => o.bind (snapW m)
def borR (r : Res W) (m : M) : Res W := match r with
  | .ok (.p d) _ => if flat d then .ok (.p d) m else .bad
  | _ => .bad
/-- just these lambdas lie there -/
noncomputable def lamsAt (w : W) (es : List E) (m : M) : Res Unit := match w with
  | .c n => match m[n]? with
    | some (.lams es2) => by classical exact if es2 = es then .ok () m else .bad
    | _ => .bad
  | _ => .bad
section
variable (G : Nat → Option D) (Fn : Fns)
mutual
noncomputable def ev : E → Env → M → Res W
  | .never, _, _ => .bad
  | .non, _, m => .ok (.p .non) m
  | .bl b, _, m => .ok (.p (.bl b)) m
  | .int i, _, m => .ok (.p (.int i)) m
  | .str x, _, m => .ok (.p (.str x)) m
  | .loc i, s, m => match s[i]? with
    | some (some w) => .ok w m
    | _ => .bad
  | .glb g, _, m => match G g with
    | some d => .ok (.p d) m
    | none => .bad
  | .ty k, _, m => .ok (.p (.ty k)) m
  | .bin op a b, s, m => (ev a s m).bind fun w1 m1 => (ev b s m1).bind fun w2 m2 => op2 (opD op) w1 w2 m2
  | .neg a, s, m => (ev a s m).bind fun w m1 => op1 negD w m1
  | .cmp op a b, s, m => (ev a s m).bind fun w1 m1 => (ev b s m1).bind fun w2 m2 => cmpW G Fn op w1 w2 m2
  | .cmp2 op op' a b c, s, m => (ev a s m).bind fun w1 m1 => (ev b s m1).bind fun w2 m2 => (op2 (cmpB op) w1 w2 m2).bind fun t m3 => (test t m3).bind fun z m4 => match z with
    | false => .ok (.p (.bl false)) m4
    | true => (ev c s m4).bind fun w3 m5 => op2 (cmpB op') w2 w3 m5
  | .and l, s, m => evAnd l s m
  | .or l, s, m => evOr l s m
  | .not a, s, m => (ev a s m).bind fun w m1 => (test w m1).bind fun b m2 => .ok (.p (.bl (!b))) m2
  | .ite c a b, s, m => (ev c s m).bind fun w m1 => (test w m1).bind fun t m2 => match t with
    | true => ev a s m2
    | false => ev b s m2
  | .lst l, s, m => (evs l s m).bind fun ws m1 => pures ws .lst m1
  | .tup l, s, m => (evs l s m).bind fun ws m1 => pures ws .tup m1
  | .idx a i, s, m => (ev a s m).bind fun w1 m1 => (ev i s m1).bind fun w2 m2 => op2 idxD w1 w2 m2
  | .slc a lo hi, s, m => (ev a s m).bind fun w m1 => (evo lo s m1).bind fun l m2 => (evo hi s m2).bind fun h m3 => op1 (fun x => slcD x l h) w m3
  | .rev a, s, m => (ev a s m).bind fun w m1 => op1 revD w m1
  | .call f l, s, m => (evs l s m).bind fun ws m1 => Fn f ws m1
  | .callk f l ks src, s, m => (evs l s m).bind fun ws m1 => (evs ks s m1).bind fun zs m2 => Fn f (bindK ws zs src) m2
  | .bi b l, s, m => (evs l s m).bind fun ws m1 => biW G Fn b ws m1
  | .me f a b, s, m => (ev a s m).bind fun w1 m1 => (str1 w1 m1).bind fun t m2 => (ev b s m2).bind fun w2 m3 => op1 (meD f t) w2 m3
  | .lidx a b, s, m => (ev a s m).bind fun w1 m1 => (ofO (lstOf w1 m1) m1).bind fun _ m2 => (ev b s m2).bind fun w2 m3 => op2 lidxD w1 w2 m3
  | .lc e ts it ifs, s, m => (evI it s m).bind fun xs m1 => (noX (lcGo (lcTurn ts (fun s m => tests ifs s m) (fun s m => ev e s m) s) xs m1)).bind lcList
  | .cls c, _, m => .ok (.p (.cls c)) m
  | .fld a f, s, m => (ev a s m).bind fun w m1 => fldR f w m1
  | .con a f, s, m => (ev a s m).bind fun w m1 => (clsR f w m1).bind fun c m2 => conR (G (mnum c f)) m2
  | .mcall a f l ks src, s, m => (ev a s m).bind fun w m1 => (clsR f w m1).bind fun c m2 => if isFn (G (mnum c f)) then ((evs l s m2).bind fun ws m3 => (evs ks s m3).bind fun zs m4 => Fn (mnum c f) (bindA (w :: ws) zs src) m4) else .bad
  | .make c l ks src, s, m => (evs l s m).bind fun ws m1 => (evs ks s m1).bind fun zs m2 => mkW Fn c ws zs src m2
  | .cm c f l ks src, s, m => if isCm (G (mnum c f)) then ((evs l s m).bind fun ws m1 => (evs ks s m1).bind fun zs m2 => Fn (mnum c f) (bindA (.p (.cls c) :: ws) zs src) m2) else .bad
  | .dcall i l, s, m => match s[i]? with
    | some (some w) => match isMk G w with
      | some c => (evs l s m).bind fun ws m1 => mkW Fn c ws [] [] m1
      | none => .bad
    | _ => .bad
  | .fstr l, s, m => evF l [] s m
  | .obin op a b, s, m => (ev a s m).bind fun w1 m1 => (ev b s m1).bind fun w2 m2 => opW G Fn op w1 w2 m2
  | .dct0, _, m => .ok (.p (.dct [])) m
  | .dct1 k v, s, m => noX ((ev k s m).bind fun w1 m1 => (ev v s m1).bind fun w2 m2 => dct1R w1 w2 m2)
  | .dct2 k v k2 v2, s, m => noX ((ev k s m).bind fun w1 m1 => (ev v s m1).bind fun w2 m2 => (ev k2 s m2).bind fun w3 m3 => (ev v2 s m3).bind fun w4 m4 => dct2R w1 w2 w3 w4 m4)
  | .litems a, s, m => (ev a s m).bind fun w m1 => op1 litemsD w m1
  | .mint a, s, m => (ev a s m).bind fun w m1 => op1 mintD w m1
  | .cat a b, s, m => (ev a s m).bind fun w1 m1 => (ev b s m1).bind fun w2 m2 => op2 catD w1 w2 m2
  | .why q a, s, m => (tabOk q m).bind fun _ m1 => whyEnd G m.length (ev a s m1)
  | .whys q a es, s, m => (ev a s m).bind fun w m1 => (lamsAt w es m1).bind fun _ m2 => (tabOk q m2).bind fun _ m3 => (evWs es s m3).bind lcList
  | .whysd q es, s, m => (tabOk q m).bind fun _ m1 => (evWs es s m1).bind lcList
  | .mkc a, s, m => (ev a s m).bind newW
  | .wls l, s, m => (evs l s m).bind newWl
  | .wat a k, s, m => (ev a s m).bind (watR k)
  | .ogi a i, s, m => (ev a s m).bind fun w1 m1 => (ev i s m1).bind fun w2 m2 => ogiW G Fn w1 w2 m2
  | .dnew a, s, m => (ev a s m).bind fun w m1 => op1 dnewD w m1
  | .dne a b, s, m => (ev a s m).bind fun w1 m1 => (ev b s m1).bind fun w2 m2 => op2 dneD w1 w2 m2
  | .lams q es, s, m => (tabOk q m).bind fun _ m1 => newLams es m1
  | .lamadd q a es, s, m => (ev a s m).bind fun w m1 => (lamsW w m1).bind fun es0 m2 => (tabOk q m2).bind fun _ m3 => newLams (es0 ++ es) m3
  | .lrng l, s, m => (evs l s m).bind fun ws m1 => opn lrngD ws m1
  | .srt a, s, m => (ev a s m).bind fun w m1 => op1 sortLD w m1
  | .bor a, s, m => borR (ev a (snap s m) []) m
  | .frc a, s, m => (ev a s m).bind fun w m1 => leave m.length w m1
  | .sset a, s, m => (ev a s m).bind fun w m1 => op1 ssetD w m1
  | .mind a, s, m => (ev a s m).bind fun w m1 => op1 mindD w m1
  | .star2 a b, s, m => (ev a s m).bind fun w1 m1 => (ofO (starW w1) m1).bind fun xs m2 => (ev b s m2).bind fun w2 m3 => (ofO (starW w2) m3).bind fun ys m4 => lcList (xs ++ ys) m4
noncomputable def evWs : List E → Env → M → Res (List D)
  | [], _, m => .ok [] m
  | e :: r, s, m => (whyEnd G m.length (ev e s m)).bind fun w m1 => (ofO (purely w) m1).bind fun d m2 => (evWs r s m2).bind fun ds m3 => .ok (d :: ds) m3
noncomputable def evF : List E → Tx → Env → M → Res W
  | [], acc, _, m => .ok (.p (.str acc)) m
  | e :: r, acc, s, m => (ev e s m).bind fun w m1 => (ofO (fpart acc w) m1).bind fun t m2 => evF r t s m2
noncomputable def evs : List E → Env → M → Res (List W)
  | [], _, m => .ok [] m
  | e :: r, s, m => (ev e s m).bind fun w m1 => (evs r s m1).bind fun ws m2 => .ok (w :: ws) m2
noncomputable def evo : Option E → Env → M → Res (Option Int)
  | none, _, m => .ok none m
  | some e, s, m => (ev e s m).bind fun w m1 => (int1 w m1).bind fun i m2 => .ok (some i) m2
noncomputable def evAnd : List E → Env → M → Res W
  | [], _, _ => .bad
  | [e], s, m => ev e s m
  | e :: e2 :: r, s, m => (ev e s m).bind fun w m1 => (test w m1).bind fun b m2 => match b with
    | true => evAnd (e2 :: r) s m2
    | false => .ok (.p (.bl false)) m2
noncomputable def evOr : List E → Env → M → Res W
  | [], _, _ => .bad
  | [e], s, m => ev e s m
  | e :: e2 :: r, s, m => (ev e s m).bind fun w m1 => (test w m1).bind fun b m2 => match b with
    | true => .ok (.p (.bl true)) m2
    | false => evOr (e2 :: r) s m2
noncomputable def tests : List E → Env → M → Res Bool
  | [], _, m => .ok true m
  | e :: r, s, m => (ev e s m).bind fun w m1 => (test w m1).bind fun b m2 => match b with
    | true => tests r s m2
    | false => .ok false m2
noncomputable def evI : I → Env → M → Res (List D)
  | .ex e, s, m => (ev e s m).bind itm
  | .rng l, s, m => (evs l s m).bind rngW
  | .zip l, s, m => (evs l s m).bind zipW
  | .enum l, s, m => (evs l s m).bind enumW
end
def whileGo (c : Env → M → Res Bool) (b : Env → M → Res Fl) : Nat → Env → M → Res Fl
  | 0, _, _ => .bad
  | k + 1, s, m => (c s m).bindS s fun t m1 => match t with
    | false => .ok (.nx s) m1
    | true => (b s m1).bind fun fl m2 => match fl with
      | .nx s1 => whileGo c b k s1 m2
      | .ct s1 => whileGo c b k s1 m2
      | .bk s1 => .ok (.nx s1) m2
      | fl => .ok fl m2
/-- a new cell for a list or dict that was just made -/
def newCell (i : Nat) (w : W) (s : Env) (m : M) : Res Fl := match w with
  | .p (.lst xs) => .ok (.nx (s.set i (some (.c m.length)))) (m ++ [.lst xs])
  | .p (.dct xs) => .ok (.nx (s.set i (some (.c m.length)))) (m ++ [.dct xs])
  | _ => .bad
/-- a list that was just made is handed back as a cell -/
def retCell (w : W) (m : M) : Res Fl := match w with
  | .p (.lst xs) => .ok (.rc xs) m
  | _ => .bad
/-- x[k] = v, x.append(v), of a list in a cell -/
def subCell (o k v : W) (m : M) : Res Unit := match o, k, v with
  | .c n, .p (.int i), .p d => match m[n]? with
    | some (.lst xs) => match ixN xs.length i with
      | some j => .ok () (m.set n (.lst (xs.set j d)))
      | none => .bad
    | _ => .bad
  | .c n, .p (.str k), .p d => match m[n]? with
    | some (.dct kvs) => if kvs.length < line then .ok () (m.set n (.dct (putD k d kvs))) else .bad
    | _ => .bad
  | _, _, _ => .bad
/-- a list in a cell -/
def isCell (o : W) (m : M) : Res Unit := match o with
  | .c n => match m[n]? with
    | some (.lst _) => .ok () m
    | _ => .bad
  | _ => .bad
/-- x.clear(), x.insert(k, v), d.pop(k) -/
def clrCell (o : W) (m : M) : Res Unit := match o with
  | .c n => match m[n]? with
    | some (.lst _) => .ok () (m.set n (.lst []))
    | _ => .bad
  | _ => .bad
def insCell (o k v : W) (m : M) : Res Unit := match o, k, v with
  | .c n, .p (.int i), .p d => match m[n]? with
    | some (.lst xs) => if decide (0 ≤ i) && decide (i ≤ xs.length) && decide (xs.length < line) then .ok () (m.set n (.lst (xs.take i.toNat ++ d :: xs.drop i.toNat))) else .bad
    | _ => .bad
  | _, _, _ => .bad
def isDct (o : W) (m : M) : Res Unit := match o with
  | .c n => match m[n]? with
    | some (.dct _) => .ok () m
    | _ => .bad
  | _ => .bad
def popCell (o k : W) (m : M) : Res Unit := match o, k with
  | .c n, .p (.str k) => match m[n]? with
    | some (.dct kvs) => if (look k kvs).isSome then .ok () (m.set n (.dct (kvs.filter fun q => !isK k q.1))) else .bad
    | _ => .bad
  | _, _ => .bad
/-- several slots are set -/
def setWs : List Nat → List W → Env → Option Env
  | [], [], s => some s
  | i :: is, w :: ws, s => setWs is ws (s.set i (some w))
  | _, _, _ => none
def appCell (o v : W) (m : M) : Res Unit := match o, v with
  | .c n, .p d => match m[n]? with
    | some (.lst xs) => if xs.length < line then .ok () (m.set n (.lst (xs ++ [d]))) else .bad
    | _ => .bad
  | _, _ => .bad
/-- x.extend(ys) -/
def extCell (o v : W) (m : M) : Res Unit := match o, v with
  | .c n, .p (.lst ys) => match m[n]? with
    | some (.lst xs) => if xs.length + ys.length ≤ line then .ok () (m.set n (.lst (xs ++ ys))) else .bad
    | _ => .bad
  | _, _ => .bad
/-- the cell in a slot is frozen -/
def frzCell (i : Nat) (s : Env) (m : M) : Res Fl := match s[i]? with
  | some (some (.c n)) => match m[n]? with
    | some (.lst xs) => .ok (.nx (s.set i (some (.p (.lst xs))))) (m.set n .dead)
    | _ => .bad
  | _ => .bad
/-- a try whose body raises nothing -/
def noXS (r : Res Fl) : Res Fl := match r with
  | .ok (.xc _ _) _ => .bad
  | r => r
def pureW (w : W) : Option D := match w with
  | .p d => some d
  | .c _ => none
/-- a list of lambdas is laid; one with more of them -/
def setLams (i : Nat) (es : List E) (s : Env) (m : M) : Res Fl := .ok (.nx (s.set i (some (.c m.length)))) (m ++ [.lams es])
def lamsOf (o : Option (Option W)) (m : M) : Option (List E) := match o with
  | some (some (.c n)) => match m[n]? with
    | some (.lams es) => some es
    | _ => none
  | _ => none
/-- a list in a cell is handed back as it is -/
def retlR (o : Option (Option W)) (m : M) : Res Fl := match o with
  | some (some (.c n)) => match m[n]? with
    | some (.lst _) => .ok (.rl n) m
    | _ => .bad
  | _ => .bad
section
variable (K : Nat)
mutual
noncomputable def ex : S → Env → M → Res Fl
  | .never, _, _ => .bad
  | .expr e, s, m => (ev G Fn e s m).bindS s fun _ m1 => .ok (.nx s) m1
  | .set i e, s, m => (ev G Fn e s m).bindS s fun w m1 => .ok (.nx (s.set i (some w))) m1
  | .setc i e, s, m => (ev G Fn e s m).bindS s fun w m1 => newCell i w s m1
  | .setd i, s, m => newCell i (.p (.dct [])) s m
  | .setdn i e, s, m => (ev G Fn e s m).bindS s fun w m1 => (op1 dnewD w m1).bindS s fun w2 m2 => newCell i w2 s m2
  | .tsd i j e, s, m => (ev G Fn e s m).bindS s fun w m1 => newCell j (.p (.dct [])) (s.set i (some w)) m1
  | .tset is e, s, m => (ev G Fn e s m).bindS s fun w m1 => (ofO (pureW w) m1).bindS s fun d m2 => (ofO (setT is d s) m2).bindS s fun s1 m3 => .ok (.nx s1) m3
  | .par i j a b, s, m => (ev G Fn a s m).bindS s fun w m1 => (ev G Fn b s m1).bindS s fun w2 m2 => .ok (.nx ((s.set i (some w)).set j (some w2))) m2
  | .par3 i j k a b c, s, m => (ev G Fn a s m).bindS s fun w m1 => (ev G Fn b s m1).bindS s fun w2 m2 => (ev G Fn c s m2).bindS s fun w3 m3 => .ok (.nx (((s.set i (some w)).set j (some w2)).set k (some w3))) m3
  | .parl i j a, s, m => (ev G Fn a s m).bindS s fun w m1 => newCell j (.p (.lst [])) (s.set i (some w)) m1
  | .sub i k v, s, m => (ev G Fn v s m).bindS s fun v m1 => (ev G Fn (.loc i) s m1).bindS s fun o m2 => (ev G Fn k s m2).bindS s fun k m3 => (subCell o k v m3).bindS s fun _ m4 => .ok (.nx s) m4
  | .app i e, s, m => (ev G Fn (.loc i) s m).bindS s fun o m1 => (isCell o m1).bindS s fun _ m1 => (ev G Fn e s m1).bindS s fun v m2 => (appCell o v m2).bindS s fun _ m3 => .ok (.nx s) m3
  | .appx o e, s, m => (ev G Fn o s m).bindS s fun o m1 => (isCell o m1).bindS s fun _ m1 => (ev G Fn e s m1).bindS s fun v m2 => (appCell o v m2).bindS s fun _ m3 => .ok (.nx s) m3
  | .clrx o, s, m => (ev G Fn o s m).bindS s fun o m1 => (clrCell o m1).bindS s fun _ m2 => .ok (.nx s) m2
  | .insx i k v, s, m => (ev G Fn (.loc i) s m).bindS s fun o m1 => (isCell o m1).bindS s fun _ m1 => (ev G Fn k s m1).bindS s fun k m2 => (ev G Fn v s m2).bindS s fun v m3 => (insCell o k v m3).bindS s fun _ m4 => .ok (.nx s) m4
  | .popd i k, s, m => (ev G Fn (.loc i) s m).bindS s fun o m1 => (isDct o m1).bindS s fun _ m1 => (ev G Fn k s m1).bindS s fun k m2 => (popCell o k m2).bindS s fun _ m3 => .ok (.nx s) m3
  | .tsw is es, s, m => (evs G Fn es s m).bindS s fun ws m1 => (ofO (setWs is ws s) m1).bindS s fun s1 m2 => .ok (.nx s1) m2
  | .ext i e, s, m => (ev G Fn (.loc i) s m).bindS s fun o m1 => (isCell o m1).bindS s fun _ m1 => (ev G Fn e s m1).bindS s fun v m2 => (extCell o v m2).bindS s fun _ m3 => .ok (.nx s) m3
  | .fset i f e, s, m => (ev G Fn e s m).bindS s fun v m1 => (ev G Fn (.loc i) s m1).bindS s fun o m2 => (fldCell f o v m2).bindS s fun _ m3 => .ok (.nx s) m3
  | .frz i, s, m => frzCell i s m
  | .ret e, s, m => (ev G Fn e s m).bindS s fun w m1 => .ok (.rt w) m1
  | .retc e, s, m => (ev G Fn e s m).bindS s fun w m1 => retCell w m1
  | .retl i, s, m => retlR s[i]? m
  | .ite c a b, s, m => (ev G Fn c s m).bindS s fun w m1 => (test w m1).bindS s fun t m2 => match t with
    | true => exs a s m2
    | false => exs b s m2
  | .for_ ts it b, s, m => (evI G Fn it s m).bindS s fun xs m1 => forGo (fun x s m => (ofO (setT ts x s) m).bindS s fun s1 m => exs b s1 m) xs s m1
  | .while_ c b, s, m => whileGo (fun s m => (ev G Fn c s m).bind test) (fun s m => exs b s m) K s m
  | .tri b, s, m => noXS (exs b s m)
  | .raise c l, s, m => (evs G Fn l s m).bindS s fun ws m1 => raiseW G c ws s m1
  | .setl i q es, s, m => (tabOk q m).bindS s fun _ m1 => setLams i es s m1
  | .addl i q es, s, m => (ofO (lamsOf s[i]? m) m).bindS s fun es0 m1 => (tabOk q m1).bindS s fun _ m2 => setLams i (es0 ++ es) s m2
  | .brk, s, m => .ok (.bk s) m
  | .cont, s, m => .ok (.ct s) m
  | .pass, s, m => .ok (.nx s) m
noncomputable def exs : List S → Env → M → Res Fl
  | [], s, m => .ok (.nx s) m
  | a :: r, s, m => (ex a s m).bind fun fl m1 => match fl with
    | .nx s1 => exs r s1 m1
    | fl => .ok fl m1
end
def finish (k : Nat) (r : Res Fl) : Res W := match r with
  | .ok (.nx _) m => leave k (.p .non) m
  | .ok (.rt w) m => leave k w m
  | .ok (.rc xs) m => .ok (.c k) (m.take k ++ [.lst xs])
  | .ok (.rl n) m => if k ≤ n then (match m[n]? with
    | some (.lst xs) => .ok (.c k) (m.take k ++ [.lst xs])
    | _ => .bad) else .bad
  | .ok (.xc x _) m => .exc x (m.take k)
  | _ => .bad
noncomputable def runFd (fd : Fd) (ws : List W) (m : M) : Res W :=
  if (fd.fill ws).length = fd.ps then finish m.length (exs G Fn K fd.body ((fd.fill ws).map some ++ List.replicate (fd.slots - fd.ps) none) m) else .bad
end
end
/-- what the defs of a table do, called so deep -/
noncomputable def run (G : Nat → Option D) (T : Nat → Option Fd) (K : Nat) : Nat → Fns
  | 0 => fun _ _ _ => .bad
  | n + 1 => fun f ws m => match T f with
    | some fd => runFd G (run G T K n) K fd ws m
    | none => .bad
/-- what a program's table holds -/
structure Gx where
  G : Nat → Option D
  T : Nat → Option Fd
  gname : Nat → PySem.Str
  fname : Nat → PySem.Str
  K : Nat
  /-- the name of the lambdas of the def that makes them -/
  lq : Option PySem.Str := none
  /-- the law has _law_whys -/
  ws : Bool := false
end Oh

set_option Elab.async false
set_option linter.all false
set_option maxRecDepth 100000
set_option maxHeartbeats 2000000
set_option autoImplicit false
/-! OhR: how pure values lie in the abstract heap -/
namespace Oh
open PySem L2
abbrev mkS (s : Tx) : Str := ⟨s.toArray⟩
/-- its signs are signs -/
def okT (s : Tx) : Prop := ∀ c ∈ s, c < 1114112
def tyName : Nat → String
  | 0 => "int" | 1 => "str" | 2 => "bool" | 3 => "list" | 4 => "tuple" | _ => "dict"
/-- a class whose instances are plain -/
structure ClsOk (K : PySem.W.Frag) (c : Nat) : Prop where
  cls : Cls K (He.ga K (clsStr c))
  noat : ∀ f ∈ fieldsOf c, NoAttr K (He.ga K (clsStr c)) (atStr f)
  ha : PySem.W.findIn K (.ref (He.ga K (clsStr c))) "__class__" = some (some (.builtin "object.__class__"))
  hn : PySem.W.specialIn K (.builtin "object.__class__") "__get__" = some (some (.builtin "getset_descriptor.__get__"))
  htk : PySem.W.takesIn K (.builtin "object.__class__") = some true
  hm : PySem.W.mroIn K (He.ga K (clsStr c)) (.type "object") = some true
  kit : ∀ k, k ≤ 5 → PySem.W.kitOne K (.ref (He.ga K (clsStr c))) (.type (tyName k)) = some false
/-- .. told by a Bool -/
def clsB (K : PySem.W.Frag) (c : Nat) : Bool :=
  PySem.W.plainGet K (He.ga K (clsStr c)) Str.empty && (PySem.W.hasDictIn K (He.ga K (clsStr c)) && (PySem.W.plainOver K (He.ga K (clsStr c)) && (He.eqO (PySem.W.findIn K (.ref (He.ga K (clsStr c))) "__setattr__") (some (some (.builtin "object.__setattr__"))) &&
  ((fieldsOf c).all (fun f => He.eqO (PySem.W.findIn K (.ref (He.ga K (clsStr c))) (atStr f)) (some none)) && (He.eqO (PySem.W.findIn K (.ref (He.ga K (clsStr c))) "__class__") (some (some (.builtin "object.__class__"))) &&
  (He.eqO (PySem.W.specialIn K (.builtin "object.__class__") "__get__") (some (some (.builtin "getset_descriptor.__get__"))) && (decide (PySem.W.takesIn K (.builtin "object.__class__") = some true) && (decide (PySem.W.mroIn K (He.ga K (clsStr c)) (.type "object") = some true) &&
  [0, 1, 2, 3, 4, 5].all (fun k => decide (PySem.W.kitOne K (.ref (He.ga K (clsStr c))) (.type (tyName k)) = some false))))))))))
theorem clsB_ok {K : PySem.W.Frag} {c : Nat} (h : clsB K c = true) : ClsOk K c := by
  unfold clsB at h
  simp only [Bool.and_eq_true, List.all_eq_true, decide_eq_true_eq] at h
  obtain ⟨h1, h2, h3, h4, h5, h6, h7, h8, h9, h10⟩ := h
  refine ⟨⟨h1, h2, h3, He.eqO_ok h4⟩, fun f hf => He.eqO_ok (h5 f hf), He.eqO_ok h6, He.eqO_ok h7, h8, h9, fun k hk => h10 k ?_⟩
  have : k = 0 ∨ k = 1 ∨ k = 2 ∨ k = 3 ∨ k = 4 ∨ k = 5 := by omega
  rcases this with rfl | rfl | rfl | rfl | rfl | rfl <;> simp
/-- a tuple that was made, or one that stood there from the start, of flat things -/
def TupAt (K : PySem.W.Frag) (L : List Addr) (H : Hp) (a : Addr) (vs : List V) (ds : List D) : Prop := (a ∉ L ∧ H a = some (.tup vs)) ∨ ((∀ H' : Hp, SqT K H' a vs) ∧ ds.all flat = true)
theorem TupAt.sq {K : PySem.W.Frag} {L : List Addr} {H : Hp} {a : Addr} {vs : List V} {ds : List D} (h : TupAt K L H a vs ds) : SqT K H a vs := h.elim (fun q => SqT.of q.2) fun q => q.1 H
theorem TupAt.k {K : PySem.W.Frag} {a : Addr} {vs : List V} (h : ∀ H' : Hp, SqT K H' a vs) : ∃ o, K.lookup a = some o ∧ o.cls = .type "tuple" := by
  rcases h (fun _ => none) with (h | ⟨_, h⟩) | ⟨o, its, n, h1, h2, _⟩
  · cases h
  · cases h
  · exact ⟨o, h1, h2⟩
mutual
/-- v lies in H as d; its objects are none of L (those may change) -/
inductive Rep (K : PySem.W.Frag) (L : List Addr) (H : Hp) : V → D → Prop
  | non : Rep K L H .non .non
  | bl (b : Bool) : Rep K L H (.bl b) (.bl b)
  | int (i : Int) : Rep K L H (.int i) (.int i)
  | str (s : Tx) : okT s → Rep K L H (.str (mkS s)) (.str s)
  | lst {a : Addr} {vs : List V} {ds : List D} : a ∉ L → H a = some (.lst vs) → Reps K L H vs ds → Rep K L H (.ref a) (.lst ds)
  | tup {a : Addr} {vs : List V} {ds : List D} : TupAt K L H a vs ds → Reps K L H vs ds → Rep K L H (.ref a) (.tup ds)
  | ty (k : Nat) : k ≤ 5 → Rep K L H (.ty (tyName k)) (.ty k)
  | ins {a dx : Addr} {c : Nat} {kvs : List (Str × V)} {fs : List (Nat × D)} : ClsOk K c → a ∉ L → H a = some (.ins (He.ga K (clsStr c)) dx kvs) → FReps K L H kvs fs → Rep K L H (.ref a) (.ins c fs)
  | cls (c : Nat) : Rep K L H (.ref (He.ga K (clsStr c))) (.cls c)
  | dct {a : Addr} {kvs : List (Key × V)} {ds : List (D × D)} : a ∉ L → H a = some (.dK kvs) → KReps K L H kvs ds → Rep K L H (.ref a) (.dct ds)
  | scr {a : Addr} {ns : List Int} : (a ∉ L ∧ Rd H a (.lst (ns.map V.int))) ∨ (∀ H' : Hp, SqL K H' a (ns.map V.int)) → Rep K L H (.ref a) (.scr ns)
inductive Reps (K : PySem.W.Frag) (L : List Addr) (H : Hp) : List V → List D → Prop
  | nil : Reps K L H [] []
  | cons {v : V} {vs : List V} {d : D} {ds : List D} : Rep K L H v d → Reps K L H vs ds → Reps K L H (v :: vs) (d :: ds)
inductive FReps (K : PySem.W.Frag) (L : List Addr) (H : Hp) : List (Str × V) → List (Nat × D) → Prop
  | nil : FReps K L H [] []
  | cons {f : Nat} {v : V} {vs : List (Str × V)} {d : D} {ds : List (Nat × D)} : f < manyAt → Rep K L H v d → FReps K L H vs ds → FReps K L H ((atStr f, v) :: vs) ((f, d) :: ds)
inductive KReps (K : PySem.W.Frag) (L : List Addr) (H : Hp) : List (Key × V) → List (D × D) → Prop
  | nil : KReps K L H [] []
  | cons {k : Tx} {v : V} {vs : List (Key × V)} {d : D} {ds : List (D × D)} : okT k → Rep K L H v d → KReps K L H vs ds → KReps K L H ((.inr (mkS k), v) :: vs) ((.str k, d) :: ds)
end
/-- what was pure stays -/
def Ext (L : List Addr) (H : Hp) (L' : List Addr) (H' : Hp) : Prop := ∀ a o, H a = some o → a ∉ L → H' a = some o ∧ a ∉ L'
theorem Ext.refl (L : List Addr) (H : Hp) : Ext L H L H := fun _ _ h n => ⟨h, n⟩
theorem Ext.trans {L L1 L2 : List Addr} {H H1 H2 : Hp} (x : Ext L H L1 H1) (y : Ext L1 H1 L2 H2) : Ext L H L2 H2 := fun a o h n => let ⟨h1, n1⟩ := x a o h n; y a o h1 n1
section
variable {K : PySem.W.Frag} {L L' : List Addr} {H H' : Hp}
mutual
theorem Rep.ext (x : Ext L H L' H') : ∀ {v : V} {d : D}, Rep K L H v d → Rep K L' H' v d
  | _, _, .non => .non
  | _, _, .bl b => .bl b
  | _, _, .int i => .int i
  | _, _, .str s h => .str s h
  | _, _, .lst n h r => .lst (x _ _ h n).2 (x _ _ h n).1 (Reps.ext x r)
  | _, _, .tup (.inl ⟨n, h⟩) r => .tup (.inl ⟨(x _ _ h n).2, (x _ _ h n).1⟩) (Reps.ext x r)
  | _, _, .tup (.inr h) r => .tup (.inr h) (Reps.ext x r)
  | _, _, .ty k h => .ty k h
  | _, _, .ins o n h r => .ins o (x _ _ h n).2 (x _ _ h n).1 (FReps.ext x r)
  | _, _, .cls c => .cls c
  | _, _, .dct n h r => .dct (x _ _ h n).2 (x _ _ h n).1 (KReps.ext x r)
  | _, _, .scr (.inl ⟨n, .inl h⟩) => .scr (.inl ⟨(x _ _ h n).2, .inl (x _ _ h n).1⟩)
  | _, _, .scr (.inl ⟨n, .inr ⟨o, h⟩⟩) => .scr (.inl ⟨(x _ _ h n).2, .inr ⟨o, (x _ _ h n).1⟩⟩)
  | _, _, .scr (.inr h) => .scr (.inr h)
theorem Reps.ext (x : Ext L H L' H') : ∀ {vs : List V} {ds : List D}, Reps K L H vs ds → Reps K L' H' vs ds
  | _, _, .nil => .nil
  | _, _, .cons r t => .cons (Rep.ext x r) (Reps.ext x t)
theorem FReps.ext (x : Ext L H L' H') : ∀ {vs : List (Str × V)} {ds : List (Nat × D)}, FReps K L H vs ds → FReps K L' H' vs ds
  | _, _, .nil => .nil
  | _, _, .cons h r t => .cons h (Rep.ext x r) (FReps.ext x t)
theorem KReps.ext (x : Ext L H L' H') : ∀ {vs : List (Key × V)} {ds : List (D × D)}, KReps K L H vs ds → KReps K L' H' vs ds
  | _, _, .nil => .nil
  | _, _, .cons h r t => .cons h (Rep.ext x r) (KReps.ext x t)
end
theorem mkS_inj {a b : Tx} : mkS a = mkS b ↔ a = b := ⟨fun h => by simpa [mkS] using h, fun h => by rw [h]⟩
theorem KReps.length : ∀ {vs : List (Key × V)} {ds : List (D × D)}, KReps K L H vs ds → vs.length = ds.length
  | _, _, .nil => rfl
  | _, _, .cons _ _ t => congrArg (· + 1) (KReps.length t)
theorem isK_key {k a : Tx} : isK k (.str a) = decide ((Sum.inr (mkS a) : Key) = .inr (mkS k)) := by
  unfold isK
  simp only [Sum.inr.injEq, mkS_inj]
theorem KReps.look {k : Tx} : ∀ {vs : List (Key × V)} {ds : List (D × D)}, KReps K L H vs ds → (Oh.look k ds = none ∧ valV vs (.inr (mkS k)) = none) ∨ ∃ d v, Oh.look k ds = some d ∧ valV vs (.inr (mkS k)) = some v ∧ Rep K L H v d
  | _, _, .nil => .inl ⟨rfl, rfl⟩
  | _, _, .cons (k := a) (v := v) (d := d) h r t => by
    by_cases e : a = k
    · subst e
      exact .inr ⟨d, v, by simp [Oh.look, isK], valV_pos rfl, r⟩
    · have e1 : isK k (.str a) = false := by simp [isK, e]
      have e2 : ¬ ((Sum.inr (mkS a) : Key) = .inr (mkS k)) := fun q => e (mkS_inj.mp (Sum.inr.inj q))
      have := KReps.look (k := k) t
      rw [valV_neg (p := ((Sum.inr (mkS a) : Key), v)) e2]
      have e3 : ∀ rr, Oh.look k ((.str a, d) :: rr) = Oh.look k rr := fun rr => by simp only [Oh.look, List.find?_cons, e1]
      rw [e3]
      exact this
theorem KReps.any {k : Tx} : ∀ {vs : List (Key × V)} {ds : List (D × D)}, KReps K L H vs ds → (vs.any fun kv => decide (kv.1 = (Sum.inr (mkS k) : Key))) = ds.any fun q => isK k q.1
  | _, _, .nil => rfl
  | _, _, .cons h r t => by
    simp only [List.any_cons, KReps.any t, isK_key]
theorem KReps.mapPut {k : Tx} {v : V} {d : D} (r : Rep K L H v d) : ∀ {vs : List (Key × V)} {ds : List (D × D)}, KReps K L H vs ds →
    KReps K L H (vs.map fun kv => if kv.1 = (Sum.inr (mkS k) : Key) then (kv.1, v) else kv) (ds.map fun q => if isK k q.1 then (q.1, d) else q)
  | _, _, .nil => .nil
  | _, _, .cons (k := a) h q t => by
    simp only [List.map_cons]
    have ih := KReps.mapPut (k := k) r t
    by_cases e : a = k
    · subst e
      rw [if_pos rfl, if_pos (by simp [isK])]
      exact .cons h r ih
    · rw [if_neg (fun z => e (mkS_inj.mp (Sum.inr.inj z))), if_neg (by simp [isK, e])]
      exact .cons h q ih
theorem KReps.append : ∀ {vs ws : List (Key × V)} {ds es : List (D × D)}, KReps K L H vs ds → KReps K L H ws es → KReps K L H (vs ++ ws) (ds ++ es)
  | _, _, _, _, .nil, s => s
  | _, _, _, _, .cons h r t, s => .cons h r (KReps.append t s)
theorem KReps.put {k : Tx} {v : V} {d : D} (hk : okT k) (r : Rep K L H v d) {vs : List (Key × V)} {ds : List (D × D)} (t : KReps K L H vs ds) : KReps K L H (putK vs (.inr (mkS k)) v) (putD k d ds) := by
  unfold putK putD
  rw [t.any]
  cases q : ds.any fun q => isK k q.1 with
  | true => exact t.mapPut r
  | false => exact t.append (.cons hk r .nil)
theorem atStr_inj : ∀ i, i < manyAt → ∀ j, j < manyAt → atStr i = atStr j → i = j := by decide +kernel
theorem FReps.get {f : Nat} (hf : f < manyAt) : ∀ {vs : List (Str × V)} {ds : List (Nat × D)}, FReps K L H vs ds → (ds.lookup f = none ∧ vs.lookup (atStr f) = none) ∨ ∃ d v, ds.lookup f = some d ∧ vs.lookup (atStr f) = some v ∧ Rep K L H v d
  | _, _, .nil => .inl ⟨rfl, rfl⟩
  | _, _, .cons (f := g) h r t => by
    by_cases e : f = g
    · subst e
      exact .inr ⟨_, _, by simp, by simp, r⟩
    · have e1 : (f == g) = false := by simpa using e
      have e2 : (atStr f == atStr g) = false := by
        rw [Bool.eq_false_iff]
        intro q
        exact e (atStr_inj f hf g h (beq_iff_eq.mp q))
      simp only [List.lookup, e1, e2]
      exact FReps.get hf t
theorem FReps.put {f : Nat} {v : V} {d : D} (hf : f < manyAt) (r : Rep K L H v d) : ∀ {vs : List (Str × V)} {ds : List (Nat × D)}, FReps K L H vs ds → FReps K L H (putF (atStr f) v vs) (putN f d ds)
  | _, _, .nil => .cons hf r .nil
  | _, _, .cons (f := g) h q t => by
    unfold putF putN
    by_cases e : g = f
    · subst e
      rw [if_pos rfl, if_pos rfl]
      exact .cons h r t
    · rw [if_neg e, if_neg fun q => e (atStr_inj g h f hf q)]
      exact .cons h q (FReps.put hf r t)
theorem FReps.length : ∀ {vs : List (Str × V)} {ds : List (Nat × D)}, FReps K L H vs ds → vs.length = ds.length
  | _, _, .nil => rfl
  | _, _, .cons _ _ t => congrArg (· + 1) (FReps.length t)
theorem Reps.length : ∀ {vs : List V} {ds : List D}, Reps K L H vs ds → vs.length = ds.length
  | _, _, .nil => rfl
  | _, _, .cons _ t => congrArg (· + 1) (Reps.length t)
theorem Reps.append : ∀ {vs ws : List V} {ds es : List D}, Reps K L H vs ds → Reps K L H ws es → Reps K L H (vs ++ ws) (ds ++ es)
  | _, _, _, _, .nil, s => s
  | _, _, _, _, .cons r t, s => .cons r (Reps.append t s)
theorem Reps.get : ∀ {vs : List V} {ds : List D} {i : Nat} {d : D}, Reps K L H vs ds → ds[i]? = some d → ∃ v, vs[i]? = some v ∧ Rep K L H v d
  | _, _, _, _, .nil, e => by simp at e
  | _, _, 0, _, .cons r _, e => by simp at e; subst e; exact ⟨_, rfl, r⟩
  | _, _, i + 1, d, .cons _ t, e => by
    obtain ⟨u, h1, h2⟩ := Reps.get (i := i) (d := d) t (by simpa using e)
    exact ⟨u, by simpa using h1, h2⟩
theorem Reps.get' : ∀ {vs : List V} {ds : List D} {i : Nat} {v : V}, Reps K L H vs ds → vs[i]? = some v → ∃ d, ds[i]? = some d ∧ Rep K L H v d
  | _, _, _, _, .nil, e => by simp at e
  | _, _, 0, _, .cons r _, e => by simp at e; subst e; exact ⟨_, rfl, r⟩
  | _, _, i + 1, d, .cons _ t, e => by
    obtain ⟨u, h1, h2⟩ := Reps.get' (i := i) (v := d) t (by simpa using e)
    exact ⟨u, by simpa using h1, h2⟩
theorem Reps.take : ∀ {vs : List V} {ds : List D} (n : Nat), Reps K L H vs ds → Reps K L H (vs.take n) (ds.take n)
  | _, _, 0, _ => .nil
  | _, _, _ + 1, .nil => .nil
  | _, _, n + 1, .cons r t => .cons r (Reps.take n t)
theorem Reps.drop : ∀ {vs : List V} {ds : List D} (n : Nat), Reps K L H vs ds → Reps K L H (vs.drop n) (ds.drop n)
  | _, _, 0, r => r
  | _, _, _ + 1, .nil => .nil
  | _, _, n + 1, .cons _ t => Reps.drop n t
theorem Reps.set {v : V} {d : D} (r : Rep K L H v d) : ∀ {vs : List V} {ds : List D} (n : Nat), Reps K L H vs ds → Reps K L H (vs.set n v) (ds.set n d)
  | _, _, _, .nil => .nil
  | _, _, 0, .cons _ t => .cons r t
  | _, _, n + 1, .cons q t => .cons q (Reps.set r n t)
theorem Reps.reverse {vs : List V} {ds : List D} (r : Reps K L H vs ds) : Reps K L H vs.reverse ds.reverse := by
  induction vs generalizing ds with
  | nil => cases r; exact .nil
  | cons v vs ih =>
    cases r with
    | cons r t => simp only [List.reverse_cons]; exact (ih t).append (.cons r .nil)
theorem Reps.rep {vs : List V} {ds : List D} (r : Reps K L H vs ds) : ∀ k : Nat, Reps K L H (List.replicate k vs).flatten (List.replicate k ds).flatten
  | 0 => .nil
  | k + 1 => by simp only [List.replicate_succ, List.flatten_cons]; exact r.append (Reps.rep r k)
theorem Reps.ints : ∀ (ns : List Int), Reps K L H (ns.map V.int) (ns.map D.int)
  | [] => .nil
  | n :: ns => .cons (.int n) (Reps.ints ns)
theorem Reps.strs : ∀ (ns : List Tx), (∀ s ∈ ns, okT s) → Reps K L H (ns.map fun s => V.str (mkS s)) (ns.map D.str)
  | [], _ => .nil
  | n :: ns, h => .cons (.str n (h n List.mem_cons_self)) (Reps.strs ns fun s q => h s (List.mem_cons_of_mem _ q))
theorem Reps.okTs : ∀ {vs : List V} {ns : List Tx}, Reps K L H vs (ns.map D.str) → ∀ s ∈ ns, okT s
  | _, [], _, _, h => by cases h
  | _, n :: ns, .cons r t, s, h => (List.mem_cons.mp h).elim (fun e => e ▸ (by cases r; assumption)) (Reps.okTs t s)
theorem Reps.bools : ∀ {vs : List V} {ds : List D} {bs : List Bool}, Reps K L H vs ds → bools ds = some bs → vs = bs.map V.bl
  | _, _, _, .nil, e => by cases e; rfl
  | _, _, bs, .cons (d := d) r t, e => by
    cases r <;> simp only [Oh.bools, reduceCtorEq] at e
    rw [Option.map_eq_some_iff] at e
    obtain ⟨b2, e, rfl⟩ := e
    rw [Reps.bools t e]; rfl
theorem Reps.texts : ∀ {vs : List V} {ds : List D} {ts : List Tx}, Reps K L H vs ds → texts ds = some ts → vs = ts.map fun s => V.str (mkS s)
  | _, _, _, .nil, e => by cases e; rfl
  | _, _, bs, .cons (d := d) r t, e => by
    cases r <;> simp only [Oh.texts, reduceCtorEq] at e
    rw [Option.map_eq_some_iff] at e
    obtain ⟨b2, e, rfl⟩ := e
    rw [Reps.texts t e]; rfl
theorem texts_eq : ∀ {ds : List D} {ts : List Tx}, Oh.texts ds = some ts → ds = ts.map D.str
  | [], _, e => by cases e; rfl
  | d :: ds, ts, e => by
    cases d <;> simp only [Oh.texts, reduceCtorEq] at e
    rw [Option.map_eq_some_iff] at e
    obtain ⟨b2, e, rfl⟩ := e
    rw [texts_eq e]; rfl
end
/-! ### cells: c where they lie; g objects that nobody but one loop holds -/
structure Rh where
  c : List Addr
  g : List Addr
def lv : List Addr → M → List Addr
  | _ :: r, .dead :: m => lv r m
  | a :: r, _ :: m => a :: lv r m
  | _, _ => []
theorem lv_sub : ∀ {ρ : List Addr} {m : M} {a : Addr}, a ∈ lv ρ m → a ∈ ρ
  | [], _, _, h => by cases h
  | b :: r, [], a, h => by cases h
  | b :: r, .dead :: m, a, h => List.mem_cons_of_mem _ (lv_sub (ρ := r) (m := m) h)
  | b :: r, .lst _ :: m, a, h => (List.mem_cons.mp h).elim (fun e => e ▸ List.mem_cons_self) fun h => List.mem_cons_of_mem _ (lv_sub h)
  | b :: r, .dct _ :: m, a, h => (List.mem_cons.mp h).elim (fun e => e ▸ List.mem_cons_self) fun h => List.mem_cons_of_mem _ (lv_sub h)
  | b :: r, .ins _ _ :: m, a, h => (List.mem_cons.mp h).elim (fun e => e ▸ List.mem_cons_self) fun h => List.mem_cons_of_mem _ (lv_sub h)
  | b :: r, .tab _ :: m, a, h => (List.mem_cons.mp h).elim (fun e => e ▸ List.mem_cons_self) fun h => List.mem_cons_of_mem _ (lv_sub h)
  | b :: r, .lams _ :: m, a, h => (List.mem_cons.mp h).elim (fun e => e ▸ List.mem_cons_self) fun h => List.mem_cons_of_mem _ (lv_sub h)
  | b :: r, .wl _ :: m, a, h => (List.mem_cons.mp h).elim (fun e => e ▸ List.mem_cons_self) fun h => List.mem_cons_of_mem _ (lv_sub h)
def liveL (c : C) : Bool := match c with | .dead => false | _ => true
theorem lv_get : ∀ {ρ : List Addr} {m : M} {a : Addr}, a ∈ lv ρ m ↔ ∃ (n : Nat) (c : C), ρ[n]? = some a ∧ m[n]? = some c ∧ liveL c = true
  | [], m, a => by simp [lv]
  | b :: r, [], a => by simp [lv]
  | b :: r, c :: m, a => by
    have ih := @lv_get r m a
    have shift : (∃ (n : Nat) (c' : C), (b :: r)[n]? = some a ∧ (c :: m)[n]? = some c' ∧ liveL c' = true) ↔ (b = a ∧ liveL c = true) ∨ ∃ (n : Nat) (c' : C), r[n]? = some a ∧ m[n]? = some c' ∧ liveL c' = true := by
      constructor
      · rintro ⟨n, c', h1, h2, h3⟩
        cases n with
        | zero => simp at h1 h2; subst h2; exact .inl ⟨h1, h3⟩
        | succ n => simp at h1 h2; exact .inr ⟨n, c', h1, h2, h3⟩
      · rintro (⟨h1, h2⟩ | ⟨n, c', h1, h2, h3⟩)
        · exact ⟨0, c, by simpa using h1, by simp, h2⟩
        · exact ⟨n + 1, c', by simpa using h1, by simpa using h2, h3⟩
    rw [shift, ← ih]
    cases c <;> simp [lv, liveL, eq_comm]
def lives (ρ : Rh) (m : M) : List Addr := ρ.g ++ lv ρ.c m
/-- where the law's code keeps the code objects of its lambdas -/
def tabP (K : PySem.W.Frag) : Addr := (He.cT K ("law", none)).2
/-- the table there: its code objects bear the name q -/
def TabIs (L : List Addr) (H : Hp) (a : Addr) (q : Str) : Prop := ∃ ps : Array Value, H a = some (.tbl ps) ∧ TriplesOk ps.toList ∧ ∀ (pos : Pos) (cv : Value), codeAmong pos ps.toList = some cv → ∃ c : Addr, cv = .ref c ∧ c ∉ L ∧ H c = some (LamX.CodeO c q)
theorem TabIs.ext {L L' : List Addr} {H H' : Hp} {a : Addr} {q : Str} (x : Ext L H L' H') (k : ∀ u, H a = some u → H' a = some u) (t : TabIs L H a q) : TabIs L' H' a q := by
  obtain ⟨ps, h1, h2, h3⟩ := t
  refine ⟨ps, k _ h1, h2, fun pos cv hc => ?_⟩
  obtain ⟨c, e, n, z⟩ := h3 pos cv hc
  exact ⟨c, e, (x c _ z n).2, (x c _ z n).1⟩
/-! ### lambdas -/
/-- a function object, known -/
def LamO (f : Addr) (fd : FuncData) : HO := .ext fun h => h.get? f = some { cls := .type "function", data := .func fd }
theorem lamO_ok {P : Program} {w : World} {H : Hp} {h : Heap} {f : Addr} {fd : FuncData} (e : h.get? f = some { cls := .type "function", data := .func fd }) : ObjOk P w H h f (LamO f fd) :=
  ⟨e, ⟨_, e⟩, fun h1 h2 e1 k => k _ e1⟩
def DflT (H : Hp) (dV : Value) : List (Str × Int) → Prop
  | [] => dV = .none
  | (_, n) :: _ => ∃ t, dV = .ref t ∧ H t = some (.tup [.int n])
/-- the lambda at f -/
structure LamFd (cells : List (Str × Addr)) (q : Str) (params : Arguments) (body : Expr) (scope : Scope) (bs : List (Str × Int)) (H : Hp) (f c' : Addr) (fd : FuncData) : Prop where
  fo : H f = some (LamO f fd)
  co : H c' = some (LamX.CodeO c' q)
  is : ∃ dV doc pm ctv, fd = PySem.W.kdv_fn "<lambda>" q params (.expr body) scope (cloFrom cells scope.names []) dV doc pm (.ref c') ctv ∧ DflT H dV bs
/-- what is known of the law's frame and of the forms of its lambdas -/
class Lcl where
  cl : List (Str × Addr)
  q : Str
  ok : E → Arguments → Expr → Scope → List (Str × Int) → Prop
variable [Lcl]
/-- how lambdas lie -/
def LRep (L : List Addr) (H : Hp) (v : V) (e : E) : Prop := ∃ (f c' : Addr) (fd : FuncData) (params : Arguments) (body : Expr) (scope : Scope) (bs : List (Str × Int)), v = .ref f ∧ LamFd Lcl.cl Lcl.q params body scope bs H f c' fd ∧ (f ∉ L ∧ c' ∉ L ∧ ∀ t, fd.defaults = .ref t → t ∉ L) ∧ Lcl.ok e params body scope bs
theorem LRep.ext {L L' : List Addr} {H H' : Hp} {v : V} {e : E} (x : Ext L H L' H') (h : LRep L H v e) : LRep L' H' v e := by
  obtain ⟨f, c', fd, params, body, scope, bs, rfl, ⟨h1, h2, dV, doc, pm, ctv, h3, h4⟩, ⟨n1, n2, n3⟩, ok⟩ := h
  refine ⟨f, c', fd, params, body, scope, bs, rfl, ⟨(x f _ h1 n1).1, (x c' _ h2 n2).1, dV, doc, pm, ctv, h3, ?_⟩, ⟨(x f _ h1 n1).2, (x c' _ h2 n2).2, fun t ht => ?_⟩, ok⟩
  · cases bs with
    | nil => exact h4
    | cons b r =>
      obtain ⟨t, e, ht⟩ := h4
      exact ⟨t, e, (x t _ ht (n3 t (by rw [h3]; exact e))).1⟩
  · cases bs with
    | nil =>
      have : dV = .none := h4
      rw [h3] at ht
      rw [show (PySem.W.kdv_fn "<lambda>" Lcl.q params (FuncBody.expr body) scope (cloFrom Lcl.cl scope.names []) dV doc pm (Value.ref c') ctv).defaults = dV from rfl, this] at ht
      cases ht
    | cons b r =>
      obtain ⟨t2, e, ht2⟩ := h4
      have e2 : t2 = t := by
        rw [h3] at ht
        rw [show (PySem.W.kdv_fn "<lambda>" Lcl.q params (FuncBody.expr body) scope (cloFrom Lcl.cl scope.names []) dV doc pm (Value.ref c') ctv).defaults = dV from rfl, e] at ht
        cases ht
        rfl
      subst e2
      exact (x t2 _ ht2 (n3 t2 ht)).2
def LReps (L : List Addr) (H : Hp) : List V → List E → Prop
  | [], [] => True
  | v :: vs, e :: es => LRep L H v e ∧ LReps L H vs es
  | _, _ => False
theorem LReps.ext {L L' : List Addr} {H H' : Hp} (x : Ext L H L' H') : ∀ {vs : List V} {es : List E}, LReps L H vs es → LReps L' H' vs es
  | [], [], h => h
  | _ :: _, _ :: _, ⟨h1, h2⟩ => ⟨h1.ext x, LReps.ext x h2⟩
  | [], _ :: _, h => h.elim
  | _ :: _, [], h => h.elim
theorem LReps.append {L : List Addr} {H : Hp} : ∀ {vs ws : List V} {es fs : List E}, LReps L H vs es → LReps L H ws fs → LReps L H (vs ++ ws) (es ++ fs)
  | [], _, [], _, _, h => h
  | _ :: _, _, _ :: _, _, ⟨h1, h2⟩, h => ⟨h1, LReps.append h2 h⟩
  | [], _, _ :: _, _, h, _ => h.elim
  | _ :: _, _, [], _, h, _ => h.elim
theorem LReps.len {L : List Addr} {H : Hp} : ∀ {vs : List V} {es : List E}, LReps L H vs es → vs.length = es.length
  | [], [], _ => rfl
  | _ :: _, _ :: _, ⟨_, h2⟩ => congrArg (· + 1) (LReps.len h2)
  | [], _ :: _, h => h.elim
  | _ :: _, [], h => h.elim
theorem LReps.get {L : List Addr} {H : Hp} : ∀ {vs : List V} {es : List E}, LReps L H vs es → ∀ {i : Nat} {v : V}, vs[i]? = some v → ∃ e, es[i]? = some e ∧ LRep L H v e
  | [], [], _, i, v, h => by simp at h
  | v :: vs, e :: es, ⟨h1, h2⟩, 0, w, h => by simp at h; subst h; exact ⟨e, rfl, h1⟩
  | v :: vs, e :: es, ⟨h1, h2⟩, i + 1, w, h => LReps.get h2 (i := i) (by simpa using h)
  | [], _ :: _, h, _, _, _ => h.elim
  | _ :: _, [], h, _, _, _ => h.elim
theorem pre_get {ρ ρ' : List Addr} (h : ρ <+: ρ') {n : Nat} {a : Addr} (e : ρ[n]? = some a) : ρ'[n]? = some a := by
  obtain ⟨t, rfl⟩ := h
  rw [List.getElem?_append_left (List.getElem?_eq_some_iff.mp e).1]; exact e
def RepW (K : PySem.W.Frag) (ρ : Rh) (L : List Addr) (H : Hp) (v : V) : W → Prop
  | .p d => Rep K L H v d
  | .c n => ∃ a, ρ.c[n]? = some a ∧ v = .ref a
inductive RepWs (K : PySem.W.Frag) (ρ : Rh) (L : List Addr) (H : Hp) : List V → List W → Prop
  | nil : RepWs K ρ L H [] []
  | cons {v : V} {vs : List V} {w : W} {ws : List W} : RepW K ρ L H v w → RepWs K ρ L H vs ws → RepWs K ρ L H (v :: vs) (w :: ws)
theorem RepWs.ext {K : PySem.W.Frag} {ρ : Rh} {L L' : List Addr} {H H' : Hp} (x : Ext L H L' H') : ∀ {vs : List V} {ws : List W}, RepWs K ρ L H vs ws → RepWs K ρ L' H' vs ws
  | _, _, .nil => .nil
  | _, _, .cons (w := .p _) r t => .cons (w := .p _) (Rep.ext x r) (RepWs.ext x t)
  | _, _, .cons (w := .c _) r t => .cons (w := .c _) r (RepWs.ext x t)
theorem RepWs.pre {K : PySem.W.Frag} {R R' : Rh} {L : List Addr} {H : Hp} (p : R.c <+: R'.c) : ∀ {vs : List V} {ws : List W}, RepWs K R L H vs ws → RepWs K R' L H vs ws
  | _, _, .nil => .nil
  | _, _, .cons (w := .p _) r t => .cons (w := .p _) r (RepWs.pre p t)
  | _, _, .cons (w := .c _) ⟨a, h, e⟩ t => .cons (w := .c _) ⟨a, pre_get p h, e⟩ (RepWs.pre p t)
theorem RepWs.get {K : PySem.W.Frag} {ρ : Rh} {L : List Addr} {H : Hp} : ∀ {vs : List V} {ws : List W} {i : Nat} {w : W}, RepWs K ρ L H vs ws → ws[i]? = some w → ∃ v, vs[i]? = some v ∧ RepW K ρ L H v w
  | _, _, _, _, .nil, h => by simp at h
  | _, _, 0, _, .cons r _, h => by simp at h; subst h; exact ⟨_, rfl, r⟩
  | _, _, i + 1, _, .cons _ t, h => RepWs.get (i := i) t (by simpa using h)
/-- R: the cells that were made before it -/
def CRep (K : PySem.W.Frag) (R : List Addr) (L : List Addr) (H : Hp) (a : Addr) : C → Prop
  | .dead => ∃ o, H a = some o
  | .lst ds => ∃ vs, H a = some (.lst vs) ∧ Reps K L H vs ds
  | .ins c fs => ClsOk K c ∧ ∃ dx kvs, H a = some (.ins (He.ga K (clsStr c)) dx kvs) ∧ FReps K L H kvs fs
  | .dct ds => ∃ vs, H a = some (.dK vs) ∧ KReps K L H vs ds
  | .tab q => a = tabP K ∧ TabIs L H a q
  | .lams es => ∃ vs, H a = some (.lst vs) ∧ LReps L H vs es
  | .wl ws => ∃ vs, H a = some (.lst vs) ∧ RepWs K ⟨R, []⟩ L H vs ws
theorem CRep.tracked {K : PySem.W.Frag} {R L : List Addr} {H : Hp} {a : Addr} : ∀ {c : C}, CRep K R L H a c → ∃ o, H a = some o
  | .dead, h => h
  | .lst _, ⟨_, h, _⟩ => ⟨_, h⟩
  | .ins _ _, ⟨_, _, _, h, _⟩ => ⟨_, h⟩
  | .dct _, ⟨_, h, _⟩ => ⟨_, h⟩
  | .tab _, ⟨_, _, h, _⟩ => ⟨_, h⟩
  | .lams _, ⟨_, h, _⟩ => ⟨_, h⟩
  | .wl _, ⟨_, h, _⟩ => ⟨_, h⟩
structure Rel (K : PySem.W.Frag) (ρ : Rh) (m : M) (H : Hp) : Prop where
  len : ρ.c.length = m.length
  nd : ρ.c.Nodup
  cell : ∀ (n : Nat) (a : Addr) (c : C), ρ.c[n]? = some a → m[n]? = some c → CRep K (ρ.c.take n) (lives ρ m) H a c
  prv : ∀ a ∈ ρ.g, a ∉ ρ.c ∧ ∃ o, H a = some o
theorem Rel.tracked {K : PySem.W.Frag} {ρ : Rh} {m : M} {H : Hp} (r : Rel K ρ m H) {a : Addr} (h : a ∈ ρ.c) : ∃ o, H a = some o := by
  obtain ⟨n, hn, e⟩ := List.getElem_of_mem h
  have h1 : ρ.c[n]? = some a := by rw [List.getElem?_eq_getElem hn, e]
  have h2 : m[n]? = some (m[n]'(by rw [← r.len]; exact hn)) := List.getElem?_eq_getElem _
  exact (r.cell n a _ h1 h2).tracked
theorem Rel.fresh {K : PySem.W.Frag} {ρ : Rh} {m : M} {H : Hp} (r : Rel K ρ m H) {a : Addr} (h : H a = none) : a ∉ ρ.c := fun q => by
  obtain ⟨o, e⟩ := r.tracked q
  rw [h] at e; cases e
theorem Rel.freshG {K : PySem.W.Frag} {ρ : Rh} {m : M} {H : Hp} (r : Rel K ρ m H) {a : Addr} (h : H a = none) : a ∉ ρ.g := fun q => by
  obtain ⟨_, o, e⟩ := r.prv a q
  rw [h] at e; cases e
structure Later (ρ : Rh) (m : M) (H : Hp) (ρ' : Rh) (m' : M) (H' : Hp) : Prop where
  pre : ρ.c <+: ρ'.c
  grd : ρ'.g = ρ.g
  ext : Ext (lives ρ m) H (lives ρ' m') H'
  prv : ∀ a ∈ ρ.g, H' a = H a
theorem Later.refl (ρ : Rh) (m : M) (H : Hp) : Later ρ m H ρ m H := ⟨List.prefix_rfl, rfl, Ext.refl _ _, fun _ _ => rfl⟩
theorem Later.trans {ρ ρ1 ρ2 : Rh} {m m1 m2 : M} {H H1 H2 : Hp} (x : Later ρ m H ρ1 m1 H1) (y : Later ρ1 m1 H1 ρ2 m2 H2) : Later ρ m H ρ2 m2 H2 :=
  ⟨x.pre.trans y.pre, y.grd.trans x.grd, x.ext.trans y.ext, fun a h => (y.prv a (by rw [x.grd]; exact h)).trans (x.prv a h)⟩
theorem RepW.later {K : PySem.W.Frag} {ρ ρ' : Rh} {m m' : M} {H H' : Hp} {v : V} {w : W} (r : RepW K ρ (lives ρ m) H v w) (x : Later ρ m H ρ' m' H') : RepW K ρ' (lives ρ' m') H' v w := by
  cases w with
  | p d => exact Rep.ext x.ext r
  | c n => obtain ⟨a, h, e⟩ := r; exact ⟨a, pre_get x.pre h, e⟩
theorem RepWs.later {K : PySem.W.Frag} {ρ ρ' : Rh} {m m' : M} {H H' : Hp} (x : Later ρ m H ρ' m' H') : ∀ {vs : List V} {ws : List W}, RepWs K ρ (lives ρ m) H vs ws → RepWs K ρ' (lives ρ' m') H' vs ws
  | _, _, .nil => .nil
  | _, _, .cons r t => .cons (r.later x) (RepWs.later x t)
theorem RepWs.length {K : PySem.W.Frag} {ρ : Rh} {L : List Addr} {H : Hp} : ∀ {vs : List V} {ws : List W}, RepWs K ρ L H vs ws → vs.length = ws.length
  | _, _, .nil => rfl
  | _, _, .cons _ t => congrArg (· + 1) (RepWs.length t)
theorem RepWs.append {K : PySem.W.Frag} {ρ : Rh} {L : List Addr} {H : Hp} : ∀ {vs vs' : List V} {ws ws' : List W}, RepWs K ρ L H vs ws → RepWs K ρ L H vs' ws' → RepWs K ρ L H (vs ++ vs') (ws ++ ws')
  | _, _, _, _, .nil, s => s
  | _, _, _, _, .cons r t, s => .cons r (RepWs.append t s)
structure REnv (K : PySem.W.Frag) (ρ : Rh) (L : List Addr) (H : Hp) (σ : St) (s : Env) : Prop where
  len : σ.length = s.length
  get : ∀ (i : Nat) (w : W), s[i]? = some (some w) → ∃ v, σ[i]? = some (some v) ∧ RepW K ρ L H v w
theorem REnv.later {K : PySem.W.Frag} {ρ ρ' : Rh} {m m' : M} {H H' : Hp} {σ : St} {s : Env} (r : REnv K ρ (lives ρ m) H σ s) (x : Later ρ m H ρ' m' H') : REnv K ρ' (lives ρ' m') H' σ s :=
  ⟨r.len, fun i w e => let ⟨v, h, q⟩ := r.get i w e; ⟨v, h, q.later x⟩⟩
theorem REnv.set {K : PySem.W.Frag} {ρ : Rh} {L : List Addr} {H : Hp} {σ : St} {s : Env} (r : REnv K ρ L H σ s) {v : V} {w : W} (q : RepW K ρ L H v w) (i : Nat) : REnv K ρ L H (σ.set i (some v)) (s.set i (some w)) := by
  refine ⟨by simp [r.len], fun j u e => ?_⟩
  by_cases h : i = j
  · subst h
    by_cases hl : i < s.length
    · rw [List.getElem?_set_self hl] at e
      cases e
      exact ⟨v, by rw [List.getElem?_set_self (by rw [r.len]; exact hl)], q⟩
    · rw [List.getElem?_eq_none (by simpa using hl)] at e; cases e
  · rw [List.getElem?_set_ne h] at e ⊢
    exact r.get j u e
end Oh

set_option Elab.async false
set_option linter.all false
set_option maxRecDepth 100000
set_option maxHeartbeats 2000000
set_option autoImplicit false
/-! OhT: readings by the evaluator -/
namespace Oh
open PySem L2
variable [Lcl]
structure Both (K : PySem.W.Frag) (ρ : Rh) (σ : St) (s : Env) (m : M) (H : Hp) : Prop where
  env : REnv K ρ (lives ρ m) H σ s
  rel : Rel K ρ m H
theorem Both.later {K : PySem.W.Frag} {ρ ρ' : Rh} {σ : St} {s : Env} {m m' : M} {H H' : Hp} (b : Both K ρ σ s m H) (l : Later ρ m H ρ' m' H') (r : Rel K ρ' m' H') : Both K ρ' σ s m' H' := ⟨b.env.later l, r⟩
/-- how an exception lies -/
def XRep (K : PySem.W.Frag) (L : List Addr) (H : Hp) (cls : Value) (d : Option Addr) (x : D) : Prop := ∃ c fs dx kvs, x = .ins c fs ∧ cls = .ref (He.ga K (clsStr c)) ∧ d = some dx ∧ dx ∉ L ∧ H dx = some (.xd kvs) ∧ FReps K L H kvs fs
theorem XRep.ext {K : PySem.W.Frag} {L L' : List Addr} {H H' : Hp} {cls : Value} {d : Option Addr} {x : D} (h : XRep K L H cls d x) (e : Ext L H L' H') : XRep K L' H' cls d x := by
  obtain ⟨c, fs, dx, kvs, h1, h2, h3, h4, h5, h6⟩ := h
  exact ⟨c, fs, dx, kvs, h1, h2, h3, (e dx _ h5 h4).2, (e dx _ h5 h4).1, h6.ext e⟩
/-- what is wished of an exception -/
def Wish (K : PySem.W.Frag) (W : WX) (ρ : Rh) (m : M) (H : Hp) (σ : St) (x : D) (m' : M) : Prop :=
  ∀ cls d ρ' H', Later ρ m H ρ' m' H' → Rel K ρ' m' H' → XRep K (lives ρ' m') H' cls d x → W cls d σ H'
theorem Wish.later {K : PySem.W.Frag} {W : WX} {ρ ρ1 : Rh} {m m1 m' : M} {H H1 : Hp} {σ : St} {x : D} (w : Wish K W ρ m H σ x m') (l : Later ρ m H ρ1 m1 H1) : Wish K W ρ1 m1 H1 σ x m' := fun cls d ρ' H' l' r q => w cls d ρ' H' (l.trans l') r q
def Aft {α : Type} (ω : D → M → Prop) (r : Res α) (Q : α → M → Prop) : Prop := match r with
  | .ok a m => Q a m
  | .exc x m => ω x m
  | .bad => False
theorem Aft.bind {α β : Type} {ω : D → M → Prop} {r : Res α} {f : α → M → Res β} {Q : β → M → Prop} (h : Aft ω (r.bind f) Q) : Aft ω r fun a m => Aft ω (f a m) Q := by
  cases r <;> exact h
theorem Aft.mono {α : Type} {ω ω' : D → M → Prop} {r : Res α} {Q Q' : α → M → Prop} (h : Aft ω r Q) (hw : ∀ x m, ω x m → ω' x m) (hQ : ∀ a m, Q a m → Q' a m) : Aft ω' r Q' := by
  cases r with
  | ok a m => exact hQ a m h
  | exc x m => exact hw x m h
  | bad => exact h
/-- a reading by the evaluator's r; R: how its answers lie -/
def tG {α β : Type} (K : PySem.W.Frag) (W : WX) (R : Rh → M → Hp → β → α → Prop) (r : Env → M → Res α) : St → Hp → (β → Hp → Prop) → Prop := fun σ H Q =>
  ∃ ρ s m, Both K ρ σ s m H ∧ Aft (Wish K W ρ m H σ) (r s m) fun a m' => ∀ b ρ' H', Later ρ m H ρ' m' H' → Rel K ρ' m' H' → R ρ' m' H' b a → Q b H'
abbrev rW (K : PySem.W.Frag) (ρ : Rh) (m : M) (H : Hp) (v : V) (w : W) : Prop := RepW K ρ (lives ρ m) H v w
abbrev rWs (K : PySem.W.Frag) (ρ : Rh) (m : M) (H : Hp) (v : List V) (w : List W) : Prop := RepWs K ρ (lives ρ m) H v w
abbrev rB {α : Type} (_ : Rh) (_ : M) (_ : Hp) (v w : α) : Prop := v = w
abbrev tE (K : PySem.W.Frag) (W : WX) (r : Env → M → Res Oh.W) : TE := tG K W (rW K) r
abbrev tAr (K : PySem.W.Frag) (W : WX) (r : Env → M → Res (List Oh.W)) : TA := tG K W (rWs K) r
abbrev tTe (K : PySem.W.Frag) (W : WX) (r : Env → M → Res Bool) : TT := tG K W rB r
section
variable {α β γ : Type} {K : PySem.W.Frag} {W : WX} {R : Rh → M → Hp → β → α → Prop} {ρ : Rh} {σ : St} {s : Env} {m : M} {H : Hp}
/-- one step, then the rest -/
theorem seq {r : Env → M → Res α} {f : α → M → Res γ} {Kf : γ → M → Prop} {Q : β → Hp → Prop} (B : Both K ρ σ s m H) (h : Aft (Wish K W ρ m H σ) ((r s m).bind f) Kf)
    (k : ∀ a m1 b ρ1 H1, Later ρ m H ρ1 m1 H1 → Both K ρ1 σ s m1 H1 → R ρ1 m1 H1 b a → Aft (Wish K W ρ1 m1 H1 σ) (f a m1) Kf → Q b H1) : tG K W R r σ H Q := by
  refine ⟨ρ, s, m, B, h.bind.mono (fun _ _ z => z) fun a m1 h1 b ρ1 H1 l r1 p => ?_⟩
  exact k a m1 b ρ1 H1 l (B.later l r1) p (h1.mono (fun x m' w => w.later l) fun _ _ z => z)
/-- the last step -/
theorem last {r : Env → M → Res α} {Kf : α → M → Prop} {Q : β → Hp → Prop} (B : Both K ρ σ s m H) (h : Aft (Wish K W ρ m H σ) (r s m) Kf)
    (k : ∀ a m1 b ρ1 H1, Later ρ m H ρ1 m1 H1 → Rel K ρ1 m1 H1 → R ρ1 m1 H1 b a → Kf a m1 → Q b H1) : tG K W R r σ H Q :=
  ⟨ρ, s, m, B, h.mono (fun _ _ z => z) fun a m1 h1 b ρ1 H1 l r1 p => k a m1 b ρ1 H1 l r1 p h1⟩
end
/-! ### new objects -/
section
variable {K : PySem.W.Frag} {ρ : Rh} {m : M} {H : Hp} {p : Addr} {o : HO}
theorem ext_upd {L : List Addr} (hp : H p = none) : Ext L H L (upd H p o) := fun a u h n => ⟨by rw [upd_ne (ne_of_none h hp)]; exact h, n⟩
theorem later_upd (r : Rel K ρ m H) (hp : H p = none) : Later ρ m H ρ m (upd H p o) := ⟨List.prefix_rfl, rfl, ext_upd hp, fun a h => by
  obtain ⟨_, u, e⟩ := r.prv a h
  rw [upd_ne (ne_of_none e hp)]⟩
theorem CRep.ext {R L L' : List Addr} {H' : Hp} {a : Addr} (x : Ext L H L' H') (k : ∀ u, H a = some u → H' a = some u) : ∀ {c : C}, CRep K R L H a c → CRep K R L' H' a c
  | .dead, ⟨u, h⟩ => ⟨u, k u h⟩
  | .lst _, ⟨vs, h, r⟩ => ⟨vs, k _ h, Reps.ext x r⟩
  | .ins _ _, ⟨o, dx, vs, h, r⟩ => ⟨o, dx, vs, k _ h, FReps.ext x r⟩
  | .dct _, ⟨vs, h, r⟩ => ⟨vs, k _ h, KReps.ext x r⟩
  | .tab _, ⟨e, h⟩ => ⟨e, h.ext x k⟩
  | .lams _, ⟨vs, h, r⟩ => ⟨vs, k _ h, r.ext x⟩
  | .wl _, ⟨vs, h, r⟩ => ⟨vs, k _ h, r.ext x⟩
theorem Rel.upd (r : Rel K ρ m H) (hp : H p = none) : Rel K ρ m (upd H p o) :=
  ⟨r.len, r.nd, fun n a c h1 h2 => (r.cell n a c h1 h2).ext (ext_upd hp) fun u h => by rw [upd_ne (ne_of_none h hp)]; exact h, fun a h => ⟨(r.prv a h).1, by
    obtain ⟨_, u, e⟩ := r.prv a h
    exact ⟨u, by rw [upd_ne (ne_of_none e hp)]; exact e⟩⟩⟩
theorem Rel.notLive (r : Rel K ρ m H) (hp : H p = none) : p ∉ lives ρ m := fun h => (List.mem_append.mp h).elim (r.freshG hp) fun h => r.fresh hp (lv_sub h)
end
/-! ### what is seen: pure, or a list in a cell -/
inductive See (K : PySem.W.Frag) (L : List Addr) (H : Hp) : V → D → Prop
  | rep {v : V} {d : D} : Rep K L H v d → See K L H v d
  | cell {a : Addr} {vs : List V} {ds : List D} : H a = some (.lst vs) → Reps K L H vs ds → See K L H (.ref a) (.lst ds)
  | celld {a : Addr} {vs : List (Key × V)} {ds : List (D × D)} : H a = some (.dK vs) → KReps K L H vs ds → See K L H (.ref a) (.dct ds)
section
variable {K : PySem.W.Frag} {L : List Addr} {H : Hp} {v : V}
theorem see_of {ρ : Rh} {m : M} {w : W} {d : D} (r : RepW K ρ (lives ρ m) H v w) (l : Rel K ρ m H) (h : asD w m = some d) : See K (lives ρ m) H v d := by
  cases w with
  | p x => cases h; exact .rep r
  | c n =>
    obtain ⟨a, e, rfl⟩ := r
    cases q : m[n]? with
    | none => simp only [asD, q] at h; cases h
    | some c =>
      have z := l.cell n a c e q
      simp only [asD, q] at h
      cases c with
      | dead => cases h
      | lst xs =>
        cases h
        obtain ⟨vs, h1, h2⟩ := z
        exact .cell h1 h2
      | dct xs =>
        cases h
        obtain ⟨vs, h1, h2⟩ := z
        exact .celld h1 h2
      | ins c xs => cases h
      | tab q => cases h
      | lams _ => cases h
      | wl _ => cases h
theorem See.lst {ds : List D} (s : See K L H v (.lst ds)) : ∃ a vs, v = .ref a ∧ H a = some (.lst vs) ∧ Reps K L H vs ds := by
  cases s with
  | rep r => cases r with | lst n h r => exact ⟨_, _, rfl, h, r⟩
  | cell h r => exact ⟨_, _, rfl, h, r⟩
theorem See.dct {ds : List (D × D)} (s : See K L H v (.dct ds)) : ∃ a vs, v = .ref a ∧ H a = some (.dK vs) ∧ KReps K L H vs ds := by
  cases s with
  | rep r => cases r with | dct n h r => exact ⟨_, _, rfl, h, r⟩
  | celld h r => exact ⟨_, _, rfl, h, r⟩
theorem See.tup {ds : List D} (s : See K L H v (.tup ds)) : ∃ a vs, v = .ref a ∧ TupAt K L H a vs ds ∧ Reps K L H vs ds := by
  cases s with
  | rep r => cases r with | tup h r => exact ⟨_, _, rfl, h, r⟩
theorem See.int {i : Int} (s : See K L H v (.int i)) : v = .int i := by
  cases s with
  | rep r => cases r; rfl
theorem See.bl {i : Bool} (s : See K L H v (.bl i)) : v = .bl i := by
  cases s with
  | rep r => cases r; rfl
theorem See.str {i : Tx} (s : See K L H v (.str i)) : v = .str (mkS i) ∧ okT i := by
  cases s with
  | rep r => cases r with | str _ h => exact ⟨rfl, h⟩
theorem See.non (s : See K L H v .non) : v = .non := by
  cases s with
  | rep r => cases r; rfl
end
theorem pe_m {X : Cx} {e : Expr} {t t' : TE} (h : PE X e t) (k : ∀ σ H Q, t' σ H Q → t σ H Q) : PE X e t' := ⟨fun pins s σ H Q I q => h.run pins s σ H Q I (k σ H Q q)⟩
theorem pt_m {X : Cx} {e : Expr} {t t' : TT} (h : PT X e t) (k : ∀ σ H Q, t' σ H Q → t σ H Q) : PT X e t' := ⟨fun pins s σ H Q I q => h.run pins s σ H Q I (k σ H Q q)⟩
theorem pa_m {X : Cx} {e : List Expr} {t t' : TA} (h : PA X e t) (k : ∀ σ H Q, t' σ H Q → t σ H Q) : PA X e t' := ⟨fun pos pins s σ H Q I q => h.run pos pins s σ H Q I (k σ H Q q)⟩
theorem ps_m {X : Cx} {e : Stmt} {t t' : TS} (h : PS X e t) (k : ∀ D σ H, t' D σ H → t D σ H) : PS X e t' := ⟨fun pins s σ H D I q => h.run pins s σ H D I (k D σ H q)⟩
theorem pss_m {X : Cx} {e : List Stmt} {t t' : TS} (h : PSs X e t) (k : ∀ D σ H, t' D σ H → t D σ H) : PSs X e t' := ⟨fun pins s σ H D I q => h.run pins s σ H D I (k D σ H q)⟩
theorem pi_m {X : Cx} {tg e : Expr} {t t' : TI} (h : PI X tg e t) (k : ∀ σ H Q, t' σ H Q → t σ H Q) : PI X tg e t' := ⟨fun pins s σ H Q I q => h.run pins s σ H Q I (k σ H Q q)⟩
theorem pg_m {X : Cx} {tg : Expr} {t t' : TG} (h : PG X tg t) (k : ∀ v σ H Q, t' v σ H Q → t v σ H Q) : PG X tg t' := ⟨fun pins s σ H v u Q I r q => h.run pins s σ H v u Q I r (k v σ H Q q)⟩

section
variable {X : Cx} {W : WX}
/-! ### small things -/
theorem s_const {e : Expr} {v : V} {d : D} (h : PE X e (tC v)) (r : ∀ L H, Rep X.K L H v d) : PE X e (tE X.K W fun _ m => .ok (.p d) m) :=
  pe_m h fun σ H Q ⟨ρ, s, m, B, k⟩ => k v ρ H (Later.refl ..) B.rel (r _ _)
theorem s_never {e : Expr} : PE X e (tE X.K W fun _ _ => .bad) := ⟨fun _ _ _ _ _ _ ⟨_, _, _, _, k⟩ => k.elim⟩
def getL (i : Nat) (s : Env) (m : M) : Res Oh.W := match s[i]? with
  | some (some w) => .ok w m
  | _ => .bad
theorem s_loc {e : Expr} {i : Nat} (h : PE X e (tVar i)) : PE X e (tE X.K W (getL i)) := pe_m h fun σ H Q ⟨ρ, s, m, B, k⟩ => by
  unfold getL at k
  cases e : s[i]? with
  | none => rw [e] at k; exact k.elim
  | some o =>
    cases o with
    | none => rw [e] at k; exact k.elim
    | some w =>
      rw [e] at k
      obtain ⟨v, hv, r⟩ := B.env.get i w e
      exact ⟨v, hv, k v ρ H (Later.refl ..) B.rel r⟩
/-! ### one operation -/
theorem op1_ok {f : D → Option D} {w : Oh.W} {m : M} {ω : D → M → Prop} {Kf : Oh.W → M → Prop} (h : Aft ω (op1 f w m) Kf) : ∃ x z, asD w m = some x ∧ f x = some z ∧ Kf (.p z) m := by
  unfold op1 at h
  cases e1 : asD w m with
  | none => rw [e1] at h; exact h.elim
  | some x =>
    rw [e1] at h
    cases e3 : f x with
    | none => simp only [e3] at h; exact h.elim
    | some z => simp only [e3] at h; exact ⟨x, z, rfl, e3, h⟩
theorem op2_ok {f : D → D → Option D} {w1 w2 : Oh.W} {m : M} {ω : D → M → Prop} {Kf : Oh.W → M → Prop} (h : Aft ω (op2 f w1 w2 m) Kf) : ∃ x y z, asD w1 m = some x ∧ asD w2 m = some y ∧ f x y = some z ∧ Kf (.p z) m := by
  unfold op2 at h
  cases e1 : asD w1 m with
  | none => rw [e1] at h; exact h.elim
  | some x =>
    cases e2 : asD w2 m with
    | none => rw [e1, e2] at h; exact h.elim
    | some y =>
      rw [e1, e2] at h
      cases e3 : f x y with
      | none => simp only [e3] at h; exact h.elim
      | some z => simp only [e3] at h; exact ⟨x, y, z, rfl, rfl, e3, h⟩
theorem test_ok {w : Oh.W} {m : M} {ω : D → M → Prop} {Kf : Bool → M → Prop} (h : Aft ω (test w m) Kf) : ∃ b, w = .p (.bl b) ∧ Kf b m := by
  unfold test at h
  split at h
  · exact ⟨_, rfl, h⟩
  · exact h.elim
theorem int1_ok {w : Oh.W} {m : M} {ω : D → M → Prop} {Kf : Int → M → Prop} (h : Aft ω (int1 w m) Kf) : ∃ b, w = .p (.int b) ∧ Kf b m := by
  unfold int1 at h
  split at h
  · exact ⟨_, rfl, h⟩
  · exact h.elim
theorem ofO_ok {α : Type} {o : Option α} {m : M} {ω : D → M → Prop} {Kf : α → M → Prop} (h : Aft ω (ofO o m) Kf) : ∃ b, o = some b ∧ Kf b m := by
  cases o with
  | none => exact h.elim
  | some a => exact ⟨a, rfl, h⟩
/-- how a two-place operation answers -/
def R2Ok (X : Cx) (r : R2) (f : D → D → Option D) : Prop := ∀ (ρ : Rh) (m : M) (H : Hp) (x y : V) (a b z : D) (Q : VK), Rel X.K ρ m H → See X.K (lives ρ m) H x a → See X.K (lives ρ m) H y b → f a b = some z →
  (∀ v H', Later ρ m H ρ m H' → Rel X.K ρ m H' → Rep X.K (lives ρ m) H' v z → Q v H') → r x y H Q
theorem s_op2 {e a b : Expr} {r : R2} {ra rb : Env → M → Res Oh.W} {f : D → D → Option D} (h : PE X e (tOp r (tE X.K W ra) (tE X.K W rb))) (ok : R2Ok X r f) :
    PE X e (tE X.K W fun s m => (ra s m).bind fun w1 m1 => (rb s m1).bind fun w2 m2 => op2 f w1 w2 m2) := pe_m h fun σ H Q ⟨ρ, s, m, B, k⟩ => by
  refine seq B k fun w1 m1 x ρ1 H1 l1 B1 r1 k1 => ?_
  refine seq B1 k1 fun w2 m2 y ρ2 H2 l2 B2 r2 k2 => ?_
  obtain ⟨a, b, z, e1, e2, e3, k3⟩ := op2_ok k2
  exact ok ρ2 m2 H2 x y a b z Q B2.rel (see_of (r1.later l2) B2.rel e1) (see_of r2 B2.rel e2) e3 fun v H' l3 r3 p3 => k3 v ρ2 H' ((l1.trans l2).trans l3) r3 p3
end
end Oh

set_option Elab.async false
set_option linter.all false
set_option maxRecDepth 100000
set_option maxHeartbeats 2000000
set_option autoImplicit false
/-! OhU: operations -/
namespace Oh
open PySem L2
variable [Lcl]
theorem line_le {n : Nat} (h : n ≤ line) : n ≤ sizeLine := by rw [sizeLine_eq]; exact h
theorem line_lt {n : Nat} (h : n < line) : n < sizeLine := by rw [sizeLine_eq]; exact h
theorem mkS_len (s : Tx) : (mkS s).length = s.length := by simp [Str.length, mkS]
theorem mkS_app (a b : Tx) : mkS a ++ mkS b = mkS (a ++ b) := TL.ext_tl (by rw [TL.tl_append])
theorem okT.app {a b : Tx} (x : okT a) (y : okT b) : okT (a ++ b) := fun c h => (List.mem_append.mp h).elim (x c) (y c)
section
variable {X : Cx}
/-- a new list, a new tuple -/
theorem fin_lst {K : PySem.W.Frag} {ρ : Rh} {m : M} {H : Hp} {vs : List V} {ds : List D} {Q : VK} (r : Rel K ρ m H) (rs : Reps K (lives ρ m) H vs ds)
    (k : ∀ v H', Later ρ m H ρ m H' → Rel K ρ m H' → Rep K (lives ρ m) H' v (.lst ds) → Q v H') : ∀ p, H p = none → Q (.ref p) (upd H p (.lst vs)) := fun p hp =>
  k _ _ (later_upd r hp) (r.upd hp) (.lst (r.notLive hp) upd_same (rs.ext (ext_upd hp)))
theorem fin_tup {K : PySem.W.Frag} {ρ : Rh} {m : M} {H : Hp} {vs : List V} {ds : List D} {Q : VK} (r : Rel K ρ m H) (rs : Reps K (lives ρ m) H vs ds)
    (k : ∀ v H', Later ρ m H ρ m H' → Rel K ρ m H' → Rep K (lives ρ m) H' v (.tup ds) → Q v H') : ∀ p, H p = none → Q (.ref p) (upd H p (.tup vs)) := fun p hp =>
  k _ _ (later_upd r hp) (r.upd hp) (.tup (.inl ⟨r.notLive hp, upd_same⟩) (rs.ext (ext_upd hp)))
/-! ### + - * // % ** -/
def rAdd3 : R2 := fun x y H Q => rI0 (fun i j => .int (i + j)) x y H Q ∨ ((∃ i j, x = .str i ∧ y = .str j ∧ i.length + j.length ≤ sizeLine ∧ Q (.str (i ++ j)) H) ∨ rCat x y H Q)
theorem op_add3 : OpR X (binaryOp .Add) rAdd3 := op_add.or (op_add_str.or op_cat)
theorem ok_add : R2Ok X rAdd3 (opD .add) := fun ρ m H x y a b z Q r sx sy e k => by
  unfold opD at e
  split at e <;> simp_all only [reduceCtorEq]
  · cases e; obtain rfl := sx.int; obtain rfl := sy.int
    exact .inl ⟨_, _, rfl, rfl, k _ H (Later.refl ..) r (.int _)⟩
  · split at e
    · cases e
      obtain ⟨rfl, o1⟩ := sx.str; obtain ⟨rfl, o2⟩ := sy.str
      refine .inr (.inl ⟨_, _, rfl, rfl, by rw [mkS_len, mkS_len]; exact line_le (by assumption), ?_⟩)
      rw [mkS_app]
      exact k _ H (Later.refl ..) r (.str _ (o1.app o2))
    · cases e
  · split at e
    · cases e
      obtain ⟨p, vs, rfl, h1, q1⟩ := sx.lst; obtain ⟨p2, vs2, rfl, h2, q2⟩ := sy.lst
      exact .inr (.inr ⟨_, _, _, _, rfl, rfl, h1, h2, by rw [q1.length, q2.length]; exact line_le (by assumption), fin_lst r (q1.append q2) k⟩)
    · cases e
theorem ok_sub : R2Ok X (rI0 fun i j => .int (i - j)) (opD .sub) := fun ρ m H x y a b z Q r sx sy e k => by
  unfold opD at e
  split at e <;> simp_all only [reduceCtorEq]
  cases e; obtain rfl := sx.int; obtain rfl := sy.int
  exact ⟨_, _, rfl, rfl, k _ H (Later.refl ..) r (.int _)⟩
def rRepS : R2 := fun x y H Q => ∃ z k, x = .str z ∧ y = .int k ∧ 0 ≤ k ∧ k < 1000 ∧ z.length * k.toNat ≤ sizeLine ∧ Q (.str (Txt.mul z k)) H
theorem op_repS : OpR X (binaryOp .Mult) rRepS := by
  intro pins s σ H x y v u Q I rx ry h
  obtain ⟨z, k, rfl, rfl, h0, h1, h2, q⟩ := h
  obtain ⟨t, rfl⟩ := rx
  obtain ⟨t2, rfl⟩ := ry
  refine PySem.SB.mul ⟨?_, ?_, ?_⟩ fun t' tk => ⟨.str (Txt.mul z k), H, I.tok _, ⟨_, rfl⟩, q⟩
  · simp; omega
  · intro _ _ hgt
    have : (z.length : Int) * k ≤ 16777216 := by
      have := sizeLine_eq
      have e : ((z.length * k.toNat : Nat) : Int) = (z.length : Int) * k := by rw [Int.natCast_mul, Int.toNat_of_nonneg h0]
      omega
    have hk : 0 < k := by omega
    have : (z.length : Int) ≤ (2 ^ 63 - 1) / k := (Int.le_ediv_iff_mul_le hk).mpr (by omega)
    omega
  · intro _ _
    unfold PySem.Builtin.Str.tooLong
    simpa using h2
theorem mul_mk (a : Tx) {k : Int} (h : 0 ≤ k) : Txt.mul (mkS a) k = mkS (List.replicate k.toNat a).flatten := by
  have fold : ∀ (n : Nat) (acc : Array Nat), ((List.replicate n a.toArray).foldl (· ++ ·) acc).toList = acc.toList ++ (List.replicate n a).flatten := fun n => by
    induction n with
    | zero => intro acc; simp
    | succ n ih =>
      intro acc
      rw [List.replicate_succ, List.foldl_cons, ih, List.replicate_succ, List.flatten_cons]
      simp
  unfold Txt.mul
  split
  · have : k = 0 := by omega
    subst this
    rfl
  · split
    · rename_i h1 h2
      simp only [Bool.or_eq_true, beq_iff_eq] at h2
      rcases h2 with rfl | h2
      · simp
      · have : a = [] := by
          rw [mkS_len] at h2
          exact List.length_eq_zero_iff.mp h2
        subst this
        congr 1
        congr 1
        simp
    · congr 1
      rw [← Array.toList_inj, fold]
      simp
def rMul3 : R2 := fun x y H Q => rI CMul (fun i j => .int (i * j)) x y H Q ∨ (rRep x y H Q ∨ rRepS x y H Q)
theorem op_mul3 : OpR X (binaryOp .Mult) rMul3 := op_mul.or (op_rep.or op_repS)
theorem ok_mul : R2Ok X rMul3 (opD .mul) := fun ρ m H x y a b z Q r sx sy e k => by
  unfold opD at e
  split at e <;> simp_all only [reduceCtorEq]
  · split at e
    · cases e; obtain rfl := sx.int; obtain rfl := sy.int
      rename_i h
      refine .inl ⟨_, _, rfl, rfl, ?_, k _ H (Later.refl ..) r (.int _)⟩
      simpa [mulOk, CMul] using h
    · cases e
  · split at e
    · cases e
      rename_i h
      simp only [Bool.and_eq_true, decide_eq_true_eq] at h
      obtain ⟨⟨h0, h1⟩, h2⟩ := h
      obtain ⟨rfl, o⟩ := sx.str; obtain rfl := sy.int
      refine .inr (.inr ⟨_, _, rfl, rfl, h0, h1, by rw [mkS_len]; exact line_le h2, ?_⟩)
      rw [mul_mk _ h0]
      refine k _ H (Later.refl ..) r (.str _ ?_)
      intro c hc
      simp only [List.mem_flatten, List.mem_replicate] at hc
      obtain ⟨l, ⟨_, rfl⟩, hc⟩ := hc
      exact o c hc
    · cases e
  · split at e
    · cases e
      rename_i h
      simp only [Bool.and_eq_true, decide_eq_true_eq] at h
      obtain ⟨⟨h0, h1⟩, h2⟩ := h
      obtain ⟨p, vs, rfl, e1, q1⟩ := sx.lst; obtain rfl := sy.int
      exact .inr (.inl ⟨_, _, _, rfl, rfl, e1, by omega, by omega, by rw [q1.length]; exact line_le h2, fin_lst r (q1.rep _) k⟩)
    · cases e
theorem ok_fdiv : R2Ok X (rI CDiv fun i j => .int (i / j)) (opD .fdiv) := fun ρ m H x y a b z Q r sx sy e k => by
  unfold opD at e
  split at e <;> simp_all only [reduceCtorEq]
  split at e
  · cases e; obtain rfl := sx.int; obtain rfl := sy.int
    rename_i h
    exact ⟨_, _, rfl, rfl, by simpa [CDiv] using h, k _ H (Later.refl ..) r (.int _)⟩
  · cases e
theorem ok_mod : R2Ok X (rI (fun _ j => 0 < j) fun i j => .int (i % j)) (opD .mod) := fun ρ m H x y a b z Q r sx sy e k => by
  unfold opD at e
  split at e <;> simp_all only [reduceCtorEq]
  split at e
  · cases e; obtain rfl := sx.int; obtain rfl := sy.int
    exact ⟨_, _, rfl, rfl, by assumption, k _ H (Later.refl ..) r (.int _)⟩
  · cases e
theorem ok_pow : R2Ok X (rI CPow fun i j => .int (i ^ j.toNat)) (opD .pow) := fun ρ m H x y a b z Q r sx sy e k => by
  unfold opD at e
  split at e <;> simp_all only [reduceCtorEq]
  split at e
  · cases e; obtain rfl := sx.int; obtain rfl := sy.int
    rename_i h
    simp only [Bool.and_eq_true, decide_eq_true_eq] at h
    exact ⟨_, _, rfl, rfl, ⟨h.1.1, by omega, by have := h.2; omega⟩, k _ H (Later.refl ..) r (.int _)⟩
  · cases e
def opA : Op → Operator
  | .add => .Add | .sub => .Sub | .mul => .Mult | .fdiv => .FloorDiv | .mod => .Mod | .pow => .Pow
def rA : Op → R2
  | .add => rAdd3 | .sub => rI0 fun i j => .int (i - j) | .mul => rMul3 | .fdiv => rI CDiv fun i j => .int (i / j) | .mod => rI (fun _ j => 0 < j) fun i j => .int (i % j) | .pow => rI CPow fun i j => .int (i ^ j.toNat)
theorem opA_ok : ∀ o : Op, OpR X (binaryOp (opA o)) (rA o)
  | .add => op_add3 | .sub => op_sub | .mul => op_mul3 | .fdiv => op_fdiv | .mod => op_mod | .pow => op_pow
theorem rA_ok : ∀ o : Op, R2Ok X (rA o) (opD o)
  | .add => ok_add | .sub => ok_sub | .mul => ok_mul | .fdiv => ok_fdiv | .mod => ok_mod | .pow => ok_pow
end
/-! ### == on plain data -/
mutual
def toPy : D → PyData
  | .bl b => .bool b
  | .int i => .int i
  | .str s => .str (mkS s)
  | .lst xs => .list (toPys xs)
  | .tup xs => .tuple (toPys xs)
  | _ => .none
def toPys : List D → List PyData
  | [] => []
  | x :: xs => toPy x :: toPys xs
end
theorem beq_mkS (a b : Tx) : (mkS a == mkS b) = (a == b) := by
  rw [Bool.eq_iff_iff, beq_iff_eq, beq_iff_eq]
  constructor
  · intro h
    have := congrArg (fun s : Str => s.cps.toList) h
    simpa [mkS] using this
  · rintro rfl; rfl
mutual
theorem eqv_py : ∀ (n : Nat) (a b : D), plain n a = true → plain n b = true → PyData.eqv (toPy a) (toPy b) = eqv a b := fun n a b ha hb => by
  cases n with
  | zero => cases a <;> simp [plain] at ha <;> cases b <;> simp [plain] at hb <;> simp [toPy, PyData.eqv, eqv, beq_mkS]
  | succ n =>
    cases a <;> simp only [plain, reduceCtorEq] at ha <;> cases b <;> simp only [plain, reduceCtorEq] at hb <;> simp only [toPy, PyData.eqv, eqv, beq_mkS]
    · exact eqvs_py n _ _ ha hb
    · exact eqvs_py n _ _ ha hb
theorem eqvs_py : ∀ (n : Nat) (a b : List D), plains n a = true → plains n b = true → PyData.eqvAll (toPys a) (toPys b) = eqvs a b
  | _, [], [], _, _ => by simp [toPys, PyData.eqvAll, eqvs]
  | _, [], _ :: _, _, _ => by simp [toPys, PyData.eqvAll, eqvs]
  | _, _ :: _, [], _, _ => by simp [toPys, PyData.eqvAll, eqvs]
  | n, a :: as, b :: bs, ha, hb => by
    simp only [plains, Bool.and_eq_true] at ha hb
    simp only [toPys, PyData.eqvAll, eqvs]
    rw [eqv_py n a b ha.1 hb.1, eqvs_py n as bs ha.2 hb.2]
end

mutual
theorem lay_py : ∀ {K : PySem.W.Frag} {L : List Addr} {H : Hp} (n : Nat) {v : V} {d : D}, Rep K L H v d → plain n d = true → (toPy d).canLay0 = true ∧ (toPy d).depth ≤ n ∧ Dp K H v (toPy d)
  | _, _, _, n, _, _, .non, _ => by simp [toPy, PyData.canLay0, PyData.depth]; exact .non
  | _, _, _, n, _, _, .bl b, _ => by simp [toPy, PyData.canLay0, PyData.depth]; exact .bl b
  | _, _, _, n, _, _, .int i, _ => by simp [toPy, PyData.canLay0, PyData.depth]; exact .int i
  | _, _, _, n, _, _, .str s h, _ => by
    refine ⟨?_, ?_, ?_⟩
    · simp only [toPy, PyData.canLay0, PyData.strOk, mkS]
      rw [Array.all_eq_true_iff_forall_mem]
      intro c hc
      exact decide_eq_true (h c (by simpa using hc))
    · simp [toPy, PyData.depth]
    · simp only [toPy]; exact .str _
  | _, _, _, 0, _, _, .lst a h r, e => by simp [plain] at e
  | _, _, _, 0, _, _, .tup h r, e => by simp [plain] at e
  | _, _, _, n + 1, _, _, .lst a h r, e => by
    obtain ⟨h1, h2, h3⟩ := lays_py n r (by simpa [plain] using e)
    simp only [toPy, PyData.canLay0, PyData.depth]
    exact ⟨h1, by omega, .lst (SqL.of h) h3⟩
  | _, _, _, n + 1, _, _, .tup h r, e => by
    obtain ⟨h1, h2, h3⟩ := lays_py n r (by simpa [plain] using e)
    simp only [toPy, PyData.canLay0, PyData.depth]
    exact ⟨h1, by omega, .tup h.sq h3⟩
  | _, _, _, 0, _, _, .ty k h, e => by simp [plain] at e
  | _, _, _, n + 1, _, _, .ty k h, e => by simp [plain] at e
  | _, _, _, 0, _, _, .ins o n' h r, e => by simp [plain] at e
  | _, _, _, n + 1, _, _, .ins o n' h r, e => by simp [plain] at e
  | _, _, _, 0, _, _, .cls c, e => by simp [plain] at e
  | _, _, _, 0, _, _, .dct o n' r, e => by simp [plain] at e
  | _, _, _, n + 1, _, _, .dct o n' r, e => by simp [plain] at e
  | _, _, _, n + 1, _, _, .cls c, e => by simp [plain] at e
  | _, _, _, 0, _, _, .scr h, e => by simp [plain] at e
  | _, _, _, n + 1, _, _, .scr h, e => by simp [plain] at e
theorem lays_py : ∀ {K : PySem.W.Frag} {L : List Addr} {H : Hp} (n : Nat) {v : List V} {d : List D}, Reps K L H v d → plains n d = true → PyData.canLayAll0 (toPys d) = true ∧ PyData.depthAll (toPys d) ≤ n ∧ DpAll K H v (toPys d)
  | _, _, _, n, _, _, .nil, _ => by simp [toPys, PyData.canLayAll0, PyData.depthAll]; exact .nil
  | _, _, _, n, _, _, .cons r t, e => by
    simp only [plains, Bool.and_eq_true] at e
    obtain ⟨h1, h2, h3⟩ := lay_py n r e.1
    obtain ⟨k1, k2, k3⟩ := lays_py n t e.2
    simp only [toPys, PyData.canLayAll0, PyData.depthAll, Bool.and_eq_true]
    exact ⟨⟨h1, k1⟩, by omega, .cons h3 k3⟩
end
theorem See.py {K : PySem.W.Frag} {L : List Addr} {H : Hp} {v : V} {d : D} (s : See K L H v d) (e : plain deep d = true) : SeqAt.shaped (toPy d) = true ∧ Dp K H v (toPy d) := by
  have fin : (toPy d).canLay0 = true ∧ (toPy d).depth ≤ deep ∧ Dp K H v (toPy d) → SeqAt.shaped (toPy d) = true ∧ Dp K H v (toPy d) := fun ⟨h1, h2, h3⟩ =>
    ⟨by unfold SeqAt.shaped; rw [h1, Bool.true_and]; exact decide_eq_true (Nat.le_trans h2 (by decide)), h3⟩
  cases s with
  | rep r => exact fin (lay_py deep r e)
  | cell h r =>
    obtain ⟨h1, h2, h3⟩ := lays_py 59 r (by simpa [plain] using e)
    refine fin ?_
    simp only [toPy, PyData.canLay0, PyData.depth]
    exact ⟨h1, by show _ ≤ 60; omega, .lst (SqL.of h) h3⟩
  | celld h r => simp [plain, deep] at e
section
variable {X : Cx}
/-! ### comparisons -/
theorem ok_eq : R2Ok X (rEqD X.K) (cmpB .eq) := fun ρ m H x y a b z Q r sx sy e k => by
  unfold cmpB cmpD at e
  simp only [] at e
  split at e
  · rename_i h
    rw [Bool.and_eq_true] at h
    cases e
    obtain ⟨p1, p2⟩ := sx.py h.1
    obtain ⟨q1, q2⟩ := sy.py h.2
    refine ⟨_, _, p2, q2, p1, q1, ?_⟩
    rw [eqv_py deep a b h.1 h.2]
    exact k _ H (Later.refl ..) r (.bl _)
  · cases e
theorem ok_ne : R2Ok X (rNeD X.K) (cmpB .ne) := fun ρ m H x y a b z Q r sx sy e k => by
  unfold cmpB cmpD at e
  simp only [] at e
  split at e
  · rename_i h
    rw [Bool.and_eq_true] at h
    cases e
    obtain ⟨p1, p2⟩ := sx.py h.1
    obtain ⟨q1, q2⟩ := sy.py h.2
    refine ⟨_, _, p2, q2, p1, q1, ?_⟩
    rw [eqv_py deep a b h.1 h.2]
    exact k _ H (Later.refl ..) r (.bl _)
  · cases e
def rLt3 : R2 := fun x y H Q => rI0 (fun i j => .bl (decide (i < j))) x y H Q ∨ (∃ i j, x = .str i ∧ y = .str j ∧ Q (.bl (decide (i.cps.toList < j.cps.toList))) H)
theorem ok_lt : R2Ok X rLt3 (cmpB .lt) := fun ρ m H x y a b z Q r sx sy e k => by
  unfold cmpB cmpD at e
  split at e <;> simp_all only [reduceCtorEq, Option.map_some, Option.map_none]
  · cases e; obtain rfl := sx.int; obtain rfl := sy.int
    exact .inl ⟨_, _, rfl, rfl, k _ H (Later.refl ..) r (.bl _)⟩
  · cases e
    obtain ⟨rfl, _⟩ := sx.str; obtain ⟨rfl, _⟩ := sy.str
    exact .inr ⟨_, _, rfl, rfl, k _ H (Later.refl ..) r (.bl _)⟩
theorem ok_le : R2Ok X (rI0 fun i j => .bl (decide (i ≤ j))) (cmpB .le) := fun ρ m H x y a b z Q r sx sy e k => by
  unfold cmpB cmpD at e
  split at e <;> simp_all only [reduceCtorEq, Option.map_some, Option.map_none]
  cases e; obtain rfl := sx.int; obtain rfl := sy.int
  exact ⟨_, _, rfl, rfl, k _ H (Later.refl ..) r (.bl _)⟩
theorem ok_gt : R2Ok X (rI0 fun i j => .bl (decide (j < i))) (cmpB .gt) := fun ρ m H x y a b z Q r sx sy e k => by
  unfold cmpB cmpD at e
  split at e <;> simp_all only [reduceCtorEq, Option.map_some, Option.map_none]
  cases e; obtain rfl := sx.int; obtain rfl := sy.int
  exact ⟨_, _, rfl, rfl, k _ H (Later.refl ..) r (.bl _)⟩
theorem ok_ge : R2Ok X (rI0 fun i j => .bl (decide (j ≤ i))) (cmpB .ge) := fun ρ m H x y a b z Q r sx sy e k => by
  unfold cmpB cmpD at e
  split at e <;> simp_all only [reduceCtorEq, Option.map_some, Option.map_none]
  cases e; obtain rfl := sx.int; obtain rfl := sy.int
  exact ⟨_, _, rfl, rfl, k _ H (Later.refl ..) r (.bl _)⟩
theorem non_iff {K : PySem.W.Frag} {L : List Addr} {H : Hp} {v : V} {d : D} (s : See K L H v d) : decide (v = .non) = isNon d := by
  cases s with
  | rep r => cases r <;> simp [isNon]
  | cell h r => simp [isNon]
  | celld h r => simp [isNon]
theorem ok_is : R2Ok X (fun x y H Q => y = .non ∧ Q (.bl (decide (x = .non))) H) (cmpB .is) := fun ρ m H x y a b z Q r sx sy e k => by
  unfold cmpB cmpD at e
  split at e <;> simp_all only [reduceCtorEq, Option.map_some, Option.map_none]
  obtain rfl := sy.non
  cases e
  refine ⟨rfl, ?_⟩
  rw [non_iff sx]
  exact k _ H (Later.refl ..) r (.bl _)
theorem ok_isnot : R2Ok X (fun x y H Q => y = .non ∧ Q (.bl (!decide (x = .non))) H) (cmpB .isnot) := fun ρ m H x y a b z Q r sx sy e k => by
  unfold cmpB cmpD at e
  split at e <;> simp_all only [reduceCtorEq, Option.map_some, Option.map_none]
  obtain rfl := sy.non
  cases e
  refine ⟨rfl, ?_⟩
  rw [non_iff sx]
  exact k _ H (Later.refl ..) r (.bl _)
theorem flat_V {K : PySem.W.Frag} {L : List Addr} {H : Hp} {v : V} {d : D} (s : Rep K L H v d) (f : flat d = true) : flatV v = true := by
  cases s <;> first | rfl | (simp [flat] at f)
theorem flats_V {K : PySem.W.Frag} {L : List Addr} {H : Hp} : ∀ {v : List V} {d : List D}, Reps K L H v d → d.all flat = true → v.all flatV = true
  | _, _, .nil, _ => rfl
  | _, _, .cons r t, f => by
    simp only [List.all_cons, Bool.and_eq_true] at f ⊢
    exact ⟨flat_V r f.1, flats_V t f.2⟩
theorem eqV_eqv {K : PySem.W.Frag} {L : List Addr} {H : Hp} {x y : V} {a b : D} (s : Rep K L H x a) (t : Rep K L H y b) (f : flat a = true) (g : flat b = true) : eqV x y = eqv a b := by
  cases s <;> first | (simp [flat] at f; done) | (cases t <;> first | (simp [flat] at g; done) | (simp [eqV, eqv, beq_mkS]; done) | (simp only [eqV, eqv]; done) | skip)
  all_goals (simp only [eqV, eqv]; try (rw [beq_mkS]))
theorem inV_inD {K : PySem.W.Frag} {L : List Addr} {H : Hp} {x : V} {a : D} (s : Rep K L H x a) (f : flat a = true) : ∀ {v : List V} {d : List D}, Reps K L H v d → d.all flat = true → inV x v = d.any fun y => eqv y a
  | _, _, .nil, _ => rfl
  | _, _, .cons r t, g => by
    simp only [List.all_cons, Bool.and_eq_true] at g
    have ih := inV_inD s f t g.2
    simp only [inV, List.any_cons] at ih ⊢
    rw [eqV_eqv r s g.1 f, ih]
theorem flat_rep {K : PySem.W.Frag} {L : List Addr} {H : Hp} {v : V} {d : D} (s : See K L H v d) (f : flat d = true) : Rep K L H v d := by
  cases s with
  | rep r => exact r
  | cell h r => simp [flat] at f
  | celld h r => simp [flat] at f
def rDIn (neg : Bool) : R2 := fun x y H Q => ∃ a o, y = .ref a ∧ DGet H a x o ∧ Q (.bl (if neg then !o.isSome else o.isSome)) H
theorem op_dIn (hu : X.A.units + 1 < cLine) : OpR X (compareOp .In) (rDIn false) := by
  intro pins s σ H x y v u Q I rx ry h
  obtain ⟨a, o, rfl, g, q⟩ := h
  obtain rfl : u = Value.ref a := ry
  exact d_in hu I g rx fun s3 I3 => ⟨.bl o.isSome, H, I3, rfl, q⟩
theorem op_dNotIn (hu : X.A.units + 1 < cLine) : OpR X (compareOp .NotIn) (rDIn true) := by
  intro pins s σ H x y v u Q I rx ry h
  obtain ⟨a, o, rfl, g, q⟩ := h
  obtain rfl : u = Value.ref a := ry
  exact d_notIn hu I g rx fun s3 I3 => ⟨.bl (!o.isSome), H, I3, rfl, q⟩
def rIn3 : R2 := fun x y H Q => (∃ (c : Nat) (z : Str), x = .str ⟨#[c]⟩ ∧ y = .str z ∧ Q (.bl (decide (c ∈ z.cps.toList))) H) ∨ (rIn X.K false x y H Q ∨ rDIn false x y H Q)
theorem look_get {K : PySem.W.Frag} {L : List Addr} {H : Hp} {a : Addr} {k : Tx} {vs : List (Key × V)} {ds : List (D × D)} (e : H a = some (.dK vs)) (r : KReps K L H vs ds) : ∃ o, DGet H a (.str (mkS k)) o ∧ o.isSome = (Oh.look k ds).isSome ∧ ∀ d, Oh.look k ds = some d → ∃ v, o = some v ∧ Rep K L H v d := by
  refine ⟨_, DGet.k (k := .inr (mkS k)) e, ?_⟩
  rcases r.look (k := k) with ⟨h1, h2⟩ | ⟨d, v, h1, h2, h3⟩
  · rw [h1, h2]; exact ⟨rfl, fun d q => by cases q⟩
  · rw [h1, h2]; exact ⟨rfl, fun d' q => by cases q; exact ⟨v, rfl, h3⟩⟩
theorem ok_in : R2Ok X (rIn3 (X := X)) (cmpB .isin) := fun ρ m H x y a b z Q r sx sy e k => by
  have seq : ∀ (xs : List D), (inD a xs).map D.bl = some z → (∃ p vs, y = .ref p ∧ (SqL X.K H p vs ∨ SqT X.K H p vs) ∧ Reps X.K (lives ρ m) H vs xs) → rIn3 (X := X) x y H Q := fun xs e ⟨p, vs, ey, hp, rs⟩ => by
    unfold inD at e
    split at e
    · rename_i h
      rw [Bool.and_eq_true] at h
      cases e
      refine .inr (.inl ⟨p, vs, ey, hp, flat_V (flat_rep sx h.1) h.1, flats_V rs h.2, ?_⟩)
      simp only [Bool.false_eq_true, if_false]
      rw [inV_inD (flat_rep sx h.1) h.1 rs h.2]
      exact k _ H (Later.refl ..) r (.bl _)
    · cases e
  unfold cmpB cmpD at e
  split at e <;> simp_all only [reduceCtorEq, Option.map_none]
  · cases e
    obtain ⟨rfl, _⟩ := sx.str; obtain ⟨rfl, _⟩ := sy.str
    exact .inl ⟨_, _, rfl, rfl, k _ H (Later.refl ..) r (.bl _)⟩
  · obtain ⟨p, vs, e1, e2, e3⟩ := sy.lst
    exact seq _ (by assumption) ⟨p, vs, e1, .inl (SqL.of e2), e3⟩
  · obtain ⟨p, vs, e1, e2, e3⟩ := sy.tup
    exact seq _ (by assumption) ⟨p, vs, e1, .inr e2.sq, e3⟩
  · cases e
    obtain ⟨rfl, _⟩ := sx.str
    obtain ⟨p, vs, rfl, e2, e3⟩ := sy.dct
    obtain ⟨o, g, q, _⟩ := look_get e2 e3
    refine .inr (.inr ⟨p, o, rfl, g, ?_⟩)
    simp only [Bool.false_eq_true, if_false, q]
    exact k _ H (Later.refl ..) r (.bl _)
end
end Oh

set_option Elab.async false
set_option linter.all false
set_option autoImplicit false
/-! OhDs: ints in order, each once; the least -/
namespace Oh
theorem insU_mem {x y : Int} : ∀ {l : List Int}, y ∈ insU x l ↔ y = x ∨ y ∈ l
  | [] => by simp [insU]
  | z :: l => by
    unfold insU
    split
    · simp
    · split
      · rename_i h; subst h; simp
      · rw [List.mem_cons, insU_mem (l := l), List.mem_cons]
        constructor
        · rintro (h | h | h)
          · exact .inr (.inl h)
          · exact .inl h
          · exact .inr (.inr h)
        · rintro (h | h | h)
          · exact .inr (.inl h)
          · exact .inl h
          · exact .inr (.inr h)
theorem insU_pw (x : Int) : ∀ {l : List Int}, l.Pairwise (· < ·) → (insU x l).Pairwise (· < ·)
  | [], _ => by simp [insU]
  | z :: l, h => by
    rw [List.pairwise_cons] at h
    unfold insU
    split
    · rename_i hx
      rw [List.pairwise_cons, List.pairwise_cons]
      exact ⟨fun a ha => by
        rcases List.mem_cons.mp ha with rfl | ha
        · exact hx
        · exact Int.lt_trans hx (h.1 a ha), h⟩
    · split
      · exact List.pairwise_cons.mpr h
      · rename_i h1 h2
        rw [List.pairwise_cons]
        refine ⟨fun a ha => ?_, insU_pw x h.2⟩
        rcases insU_mem.mp ha with rfl | ha
        · omega
        · exact h.1 a ha
theorem setI_mem {y : Int} : ∀ {l : List Int}, y ∈ setI l ↔ y ∈ l
  | [] => by simp [setI]
  | x :: l => by unfold setI; rw [insU_mem, setI_mem (l := l), List.mem_cons]
theorem setI_pw : ∀ l : List Int, (setI l).Pairwise (· < ·)
  | [] => .nil
  | x :: l => insU_pw x (setI_pw l)
theorem rise_eq : ∀ {a b : List Int}, a.Pairwise (· < ·) → b.Pairwise (· < ·) → (∀ x, x ∈ a ↔ x ∈ b) → a = b
  | [], [], _, _, _ => rfl
  | [], y :: b, _, _, h => by have := (h y).mpr (by simp); cases this
  | x :: a, [], _, _, h => by have := (h x).mp (by simp); cases this
  | x :: a, y :: b, ha, hb, h => by
    rw [List.pairwise_cons] at ha hb
    have e : x = y := by
      rcases List.mem_cons.mp ((h x).mp List.mem_cons_self) with e | e
      · exact e
      · rcases List.mem_cons.mp ((h y).mpr List.mem_cons_self) with e2 | e2
        · exact e2.symm
        · have := hb.1 x e; have := ha.1 y e2; omega
    subst e
    congr 1
    refine rise_eq ha.2 hb.2 fun z => ⟨fun hz => ?_, fun hz => ?_⟩
    · rcases List.mem_cons.mp ((h z).mp (List.mem_cons_of_mem _ hz)) with e | e
      · subst e; exact absurd (ha.1 z hz) (Int.lt_irrefl _)
      · exact e
    · rcases List.mem_cons.mp ((h z).mpr (List.mem_cons_of_mem _ hz)) with e | e
      · subst e; exact absurd (hb.1 z hz) (Int.lt_irrefl _)
      · exact e
theorem minL_ok : ∀ (r : List Int) (x : Int), (minL x r ∈ x :: r) ∧ ∀ y ∈ x :: r, minL x r ≤ y
  | [], x => by simp [minL]
  | z :: r, x => by
    unfold minL
    have hd : (if z < x then z else x) ≤ z ∧ (if z < x then z else x) ≤ x := by split <;> omega
    have he : (if z < x then z else x) = z ∨ (if z < x then z else x) = x := by split <;> simp
    generalize (if z < x then z else x) = d at hd he
    obtain ⟨h1, h2⟩ := minL_ok r d
    have h3 := h2 d List.mem_cons_self
    constructor
    · rcases List.mem_cons.mp h1 with e | e
      · rw [e]; rcases he with rfl | rfl <;> simp
      · simp [e]
    · intro y hy
      rcases List.mem_cons.mp hy with rfl | hy
      · omega
      · rcases List.mem_cons.mp hy with rfl | hy
        · omega
        · exact h2 y (List.mem_cons_of_mem _ hy)
theorem insT_perm (x : Tx) : ∀ l : List Tx, (insT x l).Perm (x :: l)
  | [] => List.Perm.refl _
  | y :: r => by
    unfold insT
    split
    · exact (List.Perm.cons y (insT_perm x r)).trans (List.Perm.swap x y r)
    · exact List.Perm.refl _
theorem sortT_perm : ∀ l : List Tx, (sortT l).Perm l
  | [] => List.Perm.refl _
  | x :: r => (insT_perm x _).trans (List.Perm.cons x (sortT_perm r))
theorem insT_pw (x : Tx) : ∀ {l : List Tx}, l.Pairwise (fun a b => ¬ b < a) → (insT x l).Pairwise (fun a b => ¬ b < a)
  | [], _ => by unfold insT; simp
  | y :: r, h => by
    rw [List.pairwise_cons] at h
    unfold insT
    split
    · rename_i hlt
      rw [List.pairwise_cons]
      refine ⟨fun z hz => ?_, insT_pw x h.2⟩
      rcases List.mem_cons.mp ((insT_perm x r).mem_iff.mp hz) with rfl | hz
      · exact fun q => List.lt_irrefl _ (List.lt_trans q hlt)
      · exact h.1 z hz
    · rename_i hnl
      rw [List.pairwise_cons, List.pairwise_cons]
      refine ⟨fun z hz => ?_, h⟩
      rcases List.mem_cons.mp hz with rfl | hz
      · exact hnl
      · intro q
        have h1 : y ≤ z := h.1 z hz
        have h2 : x ≤ y := hnl
        exact (List.le_trans h2 h1) q
theorem sortT_pw : ∀ l, (sortT l).Pairwise (fun a b => ¬ b < a)
  | [] => .nil
  | x :: r => insT_pw x (sortT_pw r)
end Oh

set_option Elab.async false
set_option linter.all false
set_option maxRecDepth 100000
set_option maxHeartbeats 2000000
set_option autoImplicit false
/-! OhV: not in, built-ins, methods, items, slices -/
namespace Oh
open PySem L2
variable [Lcl]
section
variable {X : Cx}
def rNotIn3 (X : Cx) : R2 := fun x y H Q => (∃ (c : Nat) (z : Str), x = .str ⟨#[c]⟩ ∧ y = .str z ∧ Q (.bl (!decide (c ∈ z.cps.toList))) H) ∨ (rIn X.K true x y H Q ∨ rDIn true x y H Q)
theorem ok_notin : R2Ok X (rNotIn3 X) (cmpB .notin) := fun ρ m H x y a b z Q r sx sy e k => by
  have seq : ∀ (xs : List D), ((inD a xs).map (!·)).map D.bl = some z → (∃ p vs, y = .ref p ∧ (SqL X.K H p vs ∨ SqT X.K H p vs) ∧ Reps X.K (lives ρ m) H vs xs) → rNotIn3 X x y H Q := fun xs e ⟨p, vs, ey, hp, rs⟩ => by
    unfold inD at e
    split at e
    · rename_i h
      rw [Bool.and_eq_true] at h
      cases e
      refine .inr (.inl ⟨p, vs, ey, hp, flat_V (flat_rep sx h.1) h.1, flats_V rs h.2, ?_⟩)
      simp only [if_true]
      rw [inV_inD (flat_rep sx h.1) h.1 rs h.2]
      exact k _ H (Later.refl ..) r (.bl _)
    · cases e
  unfold cmpB cmpD at e
  split at e <;> simp_all only [reduceCtorEq, Option.map_none]
  · cases e
    obtain ⟨rfl, _⟩ := sx.str; obtain ⟨rfl, _⟩ := sy.str
    exact .inl ⟨_, _, rfl, rfl, k _ H (Later.refl ..) r (.bl _)⟩
  · obtain ⟨p, vs, e1, e2, e3⟩ := sy.lst
    exact seq _ (by assumption) ⟨p, vs, e1, .inl (SqL.of e2), e3⟩
  · obtain ⟨p, vs, e1, e2, e3⟩ := sy.tup
    exact seq _ (by assumption) ⟨p, vs, e1, .inr e2.sq, e3⟩
  · cases e
    obtain ⟨rfl, _⟩ := sx.str
    obtain ⟨p, vs, rfl, e2, e3⟩ := sy.dct
    obtain ⟨o, g, q, _⟩ := look_get e2 e3
    refine .inr (.inr ⟨p, o, rfl, g, ?_⟩)
    simp only [if_true, q]
    exact k _ H (Later.refl ..) r (.bl _)
def opC : Cmp → CmpOp
  | .eq => .Eq | .ne => .NotEq | .lt => .Lt | .le => .LtE | .gt => .Gt | .ge => .GtE | .isin => .In | .notin => .NotIn | .is => .Is | .isnot => .IsNot
def rC (X : Cx) : Cmp → R2
  | .eq => rEqD X.K | .ne => rNeD X.K | .lt => rLt3 | .le => rI0 fun i j => .bl (decide (i ≤ j)) | .gt => rI0 fun i j => .bl (decide (j < i)) | .ge => rI0 fun i j => .bl (decide (j ≤ i))
  | .isin => rIn3 (X := X) | .notin => rNotIn3 X | .is => fun x y H Q => y = .non ∧ Q (.bl (decide (x = .non))) H | .isnot => fun x y H Q => y = .non ∧ Q (.bl (!decide (x = .non))) H
theorem opC_ok (hu : X.A.units + 64 < cLine) : ∀ o : Cmp, OpR X (compareOp (opC o)) (rC X o)
  | .eq => op_eqD hu | .ne => op_neD hu | .lt => op_lt.or op_lt_str | .le => op_le | .gt => op_gt | .ge => op_ge | .isin => op_in_sign.or (op_in_seq.or (op_dIn (by omega))) | .notin => op_notIn_sign.or (op_notIn_seq.or (op_dNotIn (by omega))) | .is => op_isN | .isnot => op_notN
theorem rC_ok : ∀ o : Cmp, R2Ok X (rC X o) (cmpB o)
  | .eq => ok_eq | .ne => ok_ne | .lt => ok_lt | .le => ok_le | .gt => ok_gt | .ge => ok_ge | .isin => ok_in | .notin => ok_notin | .is => ok_is | .isnot => ok_isnot
/-! ### items -/
theorem at_rep {K : PySem.W.Frag} {L : List Addr} {H : Hp} {vs : List V} {ds : List D} {i : Int} {d : D} (r : Reps K L H vs ds) (h : Oh.atI ds i = some d) : ∃ v, L2.atI vs i = some v ∧ Rep K L H v d := by
  unfold Oh.atI at h
  unfold L2.atI
  have e : L2.ixN vs.length i = Oh.ixN ds.length i := by rw [r.length]; rfl
  rw [e]
  cases q : Oh.ixN ds.length i with
  | none => rw [q] at h; cases h
  | some j => rw [q] at h; exact r.get h
def rIxDG : R2 := fun x y H Q => ∃ a v, x = .ref a ∧ DGet H a y (some v) ∧ Q v H
theorem ix_dict (hu : X.A.units + 1 < cLine) : IxR X rIxDG := by
  intro value slice pins s σ H x y v u Q I rx ry h hs
  obtain ⟨a, z, rfl, g, q⟩ := h
  obtain rfl : v = Value.ref a := rx
  exact PyProof.Rows.tail_any (dict_typeIs I g) PySem.F.slot_dict_getitem.lookup (d_getItem hu I g ry fun w' s3 I3 rw' => ⟨z, H, I3, rw', q⟩) hs
def rIxA (X : Cx) : R2 := fun x y H Q => rIx X.K x y H Q ∨ rIxDG x y H Q
theorem ok_idx : R2Ok X (rIxA X) idxD := fun ρ m H x y a b z Q r sx sy e k => by
  unfold idxD at e
  split at e
  · obtain rfl := sy.int
    obtain ⟨p, vs, rfl, h, rs⟩ := sx.lst
    obtain ⟨v, e1, e2⟩ := at_rep rs e
    exact .inl (.inl ⟨_, _, _, v, rfl, rfl, SqL.of h, e1, k v H (Later.refl ..) r e2⟩)
  · obtain rfl := sy.int
    obtain ⟨p, vs, rfl, h, rs⟩ := sx.tup
    obtain ⟨v, e1, e2⟩ := at_rep rs e
    exact .inl (.inr (.inl ⟨_, _, _, v, rfl, rfl, h.sq, e1, k v H (Later.refl ..) r e2⟩))
  · split at e
    · obtain rfl := sy.int
      obtain ⟨rfl, o⟩ := sx.str
      rename_i xs kk hl
      rw [Option.map_eq_some_iff] at e
      obtain ⟨c, e1, rfl⟩ := e
      refine .inl (.inr (.inr ⟨_, _, c, rfl, rfl, by rw [mkS_len]; exact line_le hl, e1, k _ H (Later.refl ..) r (.str [c] ?_)⟩))
      intro c' hc
      rw [List.mem_singleton] at hc
      subst hc
      refine o _ ?_
      unfold Oh.atI at e1
      cases q : Oh.ixN xs.length kk with
      | none => rw [q] at e1; cases e1
      | some j => rw [q] at e1; exact List.mem_of_getElem? e1
    · cases e
  · obtain ⟨p, vs, rfl, e2, e3⟩ := sx.dct
    obtain ⟨rfl, _⟩ := sy.str
    obtain ⟨o, g, _, q⟩ := look_get e2 e3
    obtain ⟨v, rfl, rv⟩ := q z e
    exact .inr ⟨p, v, rfl, g, k v H (Later.refl ..) r rv⟩
  · cases e
/-! ### slices -/
def SlOk (X : Cx) (r : V → Option Int → Option Int → Hp → VK → Prop) : Prop := ∀ (ρ : Rh) (m : M) (H : Hp) (x : V) (a z : D) (lo hi : Option Int) (Q : VK), Rel X.K ρ m H → See X.K (lives ρ m) H x a → slcD a lo hi = some z →
  (∀ v H', Later ρ m H ρ m H' → Rel X.K ρ m H' → Rep X.K (lives ρ m) H' v z → Q v H') → r x lo hi H Q
def rSl3 (X : Cx) : V → Option Int → Option Int → Hp → VK → Prop := fun x lo hi H Q => rSlL X.K x lo hi H Q ∨ rSlS x lo hi H Q
theorem sl3 : SlR X (rSl3 X) := sl_list.or sl_str
theorem cut_rep {K : PySem.W.Frag} {L : List Addr} {H : Hp} {vs : List V} {ds : List D} (r : Reps K L H vs ds) (lo hi : Option Int) : Reps K L H (cutV vs lo hi) (cut ds lo hi) := by
  unfold cutV cut
  have e : ∀ n d o, HT.sIx n d o = Oh.sIx n d o := fun n d o => by cases o <;> rfl
  simp only [e, r.length]
  exact (r.drop _).take _
theorem cut_map {α β : Type} (f : α → β) (xs : List α) (lo hi : Option Int) : cut (xs.map f) lo hi = (cut xs lo hi).map f := by
  unfold cut; simp only [List.length_map, List.map_take, List.map_drop]
theorem cut_mem {α : Type} {xs : List α} {lo hi : Option Int} {c : α} (h : c ∈ cut xs lo hi) : c ∈ xs := by
  unfold cut at h
  exact List.mem_of_mem_drop (List.mem_of_mem_take h)
theorem sl_ok : SlOk X (rSl3 X) := fun ρ m H x a z lo hi Q r sx e k => by
  unfold slcD at e
  split at e
  · cases e
    obtain ⟨p, vs, rfl, h, rs⟩ := sx.lst
    exact .inl ⟨p, vs, rfl, SqL.of h, fin_lst r (cut_rep rs lo hi) k⟩
  · split at e
    · cases e
      obtain ⟨rfl, o⟩ := sx.str
      rename_i xs hl
      refine .inr ⟨_, rfl, by rw [mkS_len]; exact line_le hl, ?_⟩
      have e : ∀ n d o, HT.sIx n d o = Oh.sIx n d o := fun n d o => by cases o <;> rfl
      have e2 : cutS (mkS xs) lo hi = mkS (cut xs lo hi) := by
        unfold cutS cut mkS
        simp only [e, Str.length, List.size_toArray]
      rw [e2]
      exact k _ H (Later.refl ..) r (.str _ fun c hc => o c (cut_mem hc))
    · cases e
  · cases e
    rename_i ns
    cases sx with
    | rep q =>
      cases q with
      | @scr a _ h =>
        refine .inl ⟨a, ns.map V.int, rfl, ?_, ?_⟩
        · rcases h with ⟨_, h⟩ | h
          · exact .inl h
          · exact h H
        · have rs : Reps X.K (lives ρ m) H (cutV (ns.map V.int) lo hi) (cut (ns.map D.int) lo hi) := cut_rep (Reps.ints ns) lo hi
          rw [cut_map] at rs
          exact fin_lst r rs k
  · cases e
/-! ### built-ins -/
def biName : Bi → Str
  | .len => "len" | .all => "all" | .any => "any" | .int => "int" | .list => "list" | .tuple => "tuple" | .isi => "isinstance" | .repr => "repr" | .max => "max" | .min => "min" | .sorted => "sorted"
def rBi (X : Cx) : Bi → List V → Hp → VK → Prop
  | .len => fun xs H Q => ∃ x n, xs = [x] ∧ LenV X.K x H n ∧ Q (.int n) H
  | .all => rAll X.K
  | .any => rAny X.K
  | .int => fun xs H Q => (∃ i, xs = [.int i] ∧ Q (.int i) H) ∨ ∃ k, xs = [.bl k] ∧ Q (.int (if k then 1 else 0)) H
  | .list => fun xs H Q => (∃ p ys, xs = [.ref p] ∧ (SqL X.K H p ys ∨ SqT X.K H p ys) ∧ ∀ l, H l = none → Q (.ref l) (upd H l (.lst ys))) ∨ rListD xs H Q
  | .tuple => fun xs H Q => ∃ p ys, xs = [.ref p] ∧ ((SqL X.K H p ys ∧ ∀ l, H l = none → Q (.ref l) (upd H l (.tup ys))) ∨ (SqT X.K H p ys ∧ Q (.ref p) H))
  | .isi => fun xs H Q => rIsi X.K xs H Q ∨ rIsiT X.K xs H Q
  | .repr => fun _ _ _ => False
  | .max => fun xs H Q => ∃ i j, xs = [.int i, .int j] ∧ Q (.int (if j > i then j else i)) H
  | .min => fun xs H Q => ∃ i j, xs = [.int i, .int j] ∧ Q (.int (if j < i then j else i)) H
  | .sorted => fun xs H Q => rSortedI X.K xs H Q ∨ rSortedS X.K xs H Q
theorem pe_bi (hc : X.calm = true) {p pos : Pos} {e : Expr} {es : List Expr} {t : TA} (ha : PA X (e :: es) t) (he : starEach (e :: es) X.env = (false, eval e X.env) :: starEach es X.env) (hpl : (backTo pos (starEach es X.env)).any (·.1) = false) :
    ∀ b : Bi, Gl X (biName b) → X.mg (biName b) = none → PE X (.Call (.Name (biName b) p) (e :: es) [] pos) (tCB (rBi X b) t)
  | .len, g, h => pe_callB call_len g h PySem.boot_len ha (by decide) (by decide) he hpl
  | .all, g, h => pe_callB (cr_all hc) g h PyProof.Rows.boot_all ha (by decide) (by decide) he hpl
  | .any, g, h => pe_callB (cr_any hc) g h PyProof.Rows.boot_any ha (by decide) (by decide) he hpl
  | .int, g, h => pe_callTy call_int1 g h PyProof.Rows.boot_int ha (by decide) (by decide) he hpl
  | .list, g, h => pe_callTy (call_list_of.or (call_list_dK hc)) g h PyProof.Rows.boot_list ha (by decide) (by decide) he hpl
  | .tuple, g, h => pe_callTy call_tuple_of g h PyProof.Rows.boot_tuple ha (by decide) (by decide) he hpl
  | .isi, g, h => pe_callB (call_isi.or call_isiT) g h PyProof.Rows.boot_isinstance ha (by decide) (by decide) he hpl
  | .max, g, h => pe_callB (call_max2 hc) g h PyProof.Rows.boot_max ha (by decide) (by decide) he hpl
  | .min, g, h => pe_callB (call_min2 hc) g h PyProof.Rows.boot_min ha (by decide) (by decide) he hpl
  | .sorted, g, h => pe_callB (cr_sortedI.or cr_sortedS) g h PyProof.Rows.boot_sorted ha (by decide) (by decide) he hpl
  | .repr, g, h => pe_callB (fun _ _ _ _ _ _ _ _ _ h => h.elim) g h PyProof.Rows.Boot.«repr» ha (by decide) (by decide) he hpl
/-- what is seen of several values -/
inductive Sees (K : PySem.W.Frag) (L : List Addr) (H : Hp) : List V → List D → Prop
  | nil : Sees K L H [] []
  | cons {v : V} {vs : List V} {d : D} {ds : List D} : See K L H v d → Sees K L H vs ds → Sees K L H (v :: vs) (d :: ds)
theorem sees_of {K : PySem.W.Frag} {ρ : Rh} {m : M} {H : Hp} (l : Rel K ρ m H) : ∀ {vs : List V} {ws : List Oh.W} {ds : List D}, RepWs K ρ (lives ρ m) H vs ws → toDs ws m = some ds → Sees K (lives ρ m) H vs ds
  | _, _, _, .nil, e => by cases e; exact .nil
  | _, _, ds, .cons (w := w) r t, e => by
    simp only [toDs, Option.bind_eq_some_iff, Option.map_eq_some_iff] at e
    obtain ⟨d, e1, ds', e2, rfl⟩ := e
    exact .cons (see_of r l e1) (sees_of l t e2)
def RnOk (X : Cx) (r : List V → Hp → VK → Prop) (f : List D → Option D) : Prop := ∀ (ρ : Rh) (m : M) (H : Hp) (xs : List V) (as : List D) (z : D) (Q : VK), Rel X.K ρ m H → Sees X.K (lives ρ m) H xs as → f as = some z →
  (∀ v H', Later ρ m H ρ m H' → Rel X.K ρ m H' → Rep X.K (lives ρ m) H' v z → Q v H') → r xs H Q
theorem opn_ok {f : List D → Option D} {ws : List Oh.W} {m : M} {ω : D → M → Prop} {Kf : Oh.W → M → Prop} (h : Aft ω (opn f ws m) Kf) : ∃ xs z, toDs ws m = some xs ∧ f xs = some z ∧ Kf (.p z) m := by
  unfold opn at h
  cases e1 : toDs ws m with
  | none => rw [e1] at h; exact h.elim
  | some x =>
    rw [e1] at h
    cases e3 : f x with
    | none => simp only [e3] at h; exact h.elim
    | some z => simp only [e3] at h; exact ⟨x, z, rfl, e3, h⟩
theorem s_opn {W : WX} {e : Expr} {r : List V → Hp → VK → Prop} {ra : Env → M → Res (List Oh.W)} {f : List D → Option D} (h : PE X e (tCB r (tAr X.K W ra))) (ok : RnOk X r f) :
    PE X e (tE X.K W fun s m => (ra s m).bind fun ws m1 => opn f ws m1) := pe_m h fun σ H Q ⟨ρ, s, m, B, k⟩ => by
  refine seq B k fun ws m1 xs ρ1 H1 l1 B1 r1 k1 => ?_
  obtain ⟨as, z, e1, e2, k2⟩ := opn_ok k1
  exact ok ρ1 m1 H1 xs as z Q B1.rel (sees_of B1.rel r1 e1) e2 fun v H' l3 r3 p3 => k2 v ρ1 H' (l1.trans l3) r3 p3
/-! ### isinstance -/
theorem kit_all : ∀ k, k ≤ 5 → kitB "NoneType" (tyName k) = some false ∧ kitB "bool" (tyName k) = some (k == 2 || k == 0) ∧ kitB "int" (tyName k) = some (k == 0) ∧ kitB "str" (tyName k) = some (k == 1) ∧
    kitB "list" (tyName k) = some (k == 3) ∧ kitB "tuple" (tyName k) = some (k == 4) ∧ kitB "dict" (tyName k) = some (k == 5) := by
  intro k h
  have : k = 0 ∨ k = 1 ∨ k = 2 ∨ k = 3 ∨ k = 4 ∨ k = 5 := by omega
  rcases this with rfl | rfl | rfl | rfl | rfl | rfl <;> decide +kernel
theorem isi_ty {K : PySem.W.Frag} {L : List Addr} {H : Hp} {v : V} {d : D} (s : See K L H v d) (hs : (isiD d 0).isSome = true) : ∃ t : Value, TyX K H v t ∧ ∀ k b, isiD d k = some b → k ≤ 5 ∧ PySem.W.kitOne K t (.type (tyName k)) = some b := by
  have fin : ∀ {k : Nat} {b c : Bool} {a : String}, kitB a (tyName k) = some c → (if k ≤ 5 then some c else none) = some b → k ≤ 5 ∧ PySem.W.kitOne K (.type a) (.type (tyName k)) = some b := fun {k b c a} e h => by
    split at h
    · cases h; exact ⟨by assumption, kit_ty e⟩
    · cases h
  have le : ∀ {k : Nat} {b c : Bool}, (if k ≤ 5 then some c else none) = some b → k ≤ 5 := fun {k b c} h => by
    split at h
    · assumption
    · cases h
  cases s with
  | rep r =>
    cases r with
    | non => exact ⟨_, .base .non, fun k b h => fin (kit_all k (le h)).1 h⟩
    | bl x => exact ⟨_, .base (.bl x), fun k b h => fin (kit_all k (le h)).2.1 h⟩
    | int i => exact ⟨_, .base (.int i), fun k b h => fin (kit_all k (le h)).2.2.1 h⟩
    | str x o => exact ⟨_, .base (.str _), fun k b h => fin (kit_all k (le h)).2.2.2.1 h⟩
    | lst n h r => exact ⟨_, .base (.lst h), fun k b h => fin (kit_all k (le h)).2.2.2.2.1 h⟩
    | tup h r =>
      rcases h with ⟨_, h⟩ | ⟨h, _⟩
      · exact ⟨_, .base (.tup h), fun k b h => fin (kit_all k (le h)).2.2.2.2.2.1 h⟩
      · obtain ⟨o, h1, h2⟩ := TupAt.k h
        exact ⟨_, .kTuple h1 h2, fun k b h => fin (kit_all k (le h)).2.2.2.2.2.1 h⟩
    | ty k h => cases hs
    | scr h => cases hs
    | ins o n h r =>
      refine ⟨_, .base (.ins h o.cls o.ha o.hn o.htk o.hm), fun k b h => ?_⟩
      have h5 := le h
      have : some false = some b := by simpa [isiD, h5] using h
      exact ⟨h5, (o.kit k h5).trans this⟩
    | cls c => cases hs
    | dct n h r => exact ⟨_, .base (.dK h), fun k b h => fin (kit_all k (le h)).2.2.2.2.2.2 h⟩
  | cell h r => exact ⟨_, .base (.lst h), fun k b h => fin (kit_all k (le h)).2.2.2.2.1 h⟩
  | celld h r => exact ⟨_, .base (.dK h), fun k b h => fin (kit_all k (le h)).2.2.2.2.2.2 h⟩
theorem flat_no {d : D} {cs : List D} {b : Bool} (h : (!cs.isEmpty) = true) (hf : cs.all flat = true) (e : isiT d cs = some b) : False := by
  cases cs with
  | nil => cases h
  | cons c cs =>
    simp only [List.all_cons, Bool.and_eq_true] at hf
    have := hf.1
    cases c <;> first | (simp [isiT] at e; done) | (simp [flat] at this)
theorem isi_some {d : D} {k : Nat} {b : Bool} (h : isiD d k = some b) : (isiD d 0).isSome = true := by
  cases d <;> simp_all [isiD]
theorem kitAny_of {K : PySem.W.Frag} {t : Value} {d : D} (hk : ∀ k b, isiD d k = some b → k ≤ 5 ∧ PySem.W.kitOne K t (.type (tyName k)) = some b) {L : List Addr} {H : Hp} :
    ∀ {vs : List V} {cs : List D} {b : Bool}, Reps K L H vs cs → isiT d cs = some b → ∃ us, Paired ClsV vs us ∧ PySem.W.kitAny K t us = some b
  | _, _, _, .nil, e => by cases e; exact ⟨[], .nil, rfl⟩
  | _, _, b, .cons (d := c) r t, e => by
    cases r <;> simp only [isiT, reduceCtorEq] at e
    rename_i k hk5
    cases q : isiD d k with
    | none => rw [q] at e; cases e
    | some b' =>
      rw [q] at e
      cases q2 : isiT d _ with
      | none => rw [q2] at e; cases e
      | some c' =>
        rw [q2] at e
        cases e
        have h1 := (hk k b' q).2
        obtain ⟨us, h2, h3⟩ := kitAny_of hk t q2
        refine ⟨_, .cons (.ty _) h2, kitAny_cons h1 (fun z => ?_) fun z => by rw [z]; rfl⟩
        rw [z]; exact h3
/-! ### ints in order -/
theorem intsD_eq : ∀ {ds : List D} {ns : List Int}, intsD ds = some ns → ds = ns.map D.int
  | [], _, h => by cases h; rfl
  | .int b :: r, ns, h => by
    unfold intsD at h
    rw [Option.map_eq_some_iff] at h
    obtain ⟨ms, h1, rfl⟩ := h
    rw [intsD_eq h1]; rfl
  | .non :: _, _, h => by cases h
  | .bl _ :: _, _, h => by cases h
  | .str _ :: _, _, h => by cases h
  | .lst _ :: _, _, h => by cases h
  | .tup _ :: _, _, h => by cases h
  | .dct _ :: _, _, h => by cases h
  | .ins _ _ :: _, _, h => by cases h
  | .fn _ :: _, _, h => by cases h
  | .cls _ :: _, _, h => by cases h
  | .ty _ :: _, _, h => by cases h
  | .scr _ :: _, _, h => by cases h
theorem Reps.intsV {K : PySem.W.Frag} {L : List Addr} {H : Hp} : ∀ {vs : List V} (ns : List Int), Reps K L H vs (ns.map D.int) → vs = ns.map V.int
  | _, [], .nil => rfl
  | _, n :: ns, .cons r t => by cases r; rw [Reps.intsV ns t]; rfl
theorem insI_perm (x : Int) : ∀ l, (insI x l).Perm (x :: l)
  | [] => .refl _
  | y :: r => by
    unfold insI
    split
    · exact .refl _
    · exact ((insI_perm x r).cons y).trans (.swap x y r)
theorem sortI_perm : ∀ l, (sortI l).Perm l
  | [] => .refl _
  | x :: r => (insI_perm x _).trans ((sortI_perm r).cons x)
theorem insI_pw (x : Int) : ∀ {l : List Int}, l.Pairwise (· ≤ ·) → (insI x l).Pairwise (· ≤ ·)
  | [], _ => by simp [insI]
  | y :: r, h => by
    unfold insI
    rw [List.pairwise_cons] at h
    split
    · rename_i hx
      rw [List.pairwise_cons, List.pairwise_cons]
      refine ⟨fun z hz => ?_, h⟩
      rcases List.mem_cons.mp hz with rfl | hz
      · exact hx
      · exact Int.le_trans hx (h.1 z hz)
    · rename_i hx
      rw [List.pairwise_cons]
      refine ⟨fun z hz => ?_, insI_pw x h.2⟩
      rcases List.mem_cons.mp ((insI_perm x r).mem_iff.mp hz) with rfl | hz
      · omega
      · exact h.1 z hz
theorem sortI_pw : ∀ l, (sortI l).Pairwise (· ≤ ·)
  | [] => .nil
  | x :: r => insI_pw x (sortI_pw r)
theorem sorted_eq : ∀ {a b : List Int}, a.Perm b → a.Pairwise (· ≤ ·) → b.Pairwise (· ≤ ·) → a = b
  | [], b, p, _, _ => (List.Perm.nil_eq p)
  | x :: a, [], p, _, _ => by have := p.length_eq; simp at this
  | x :: a, y :: b, p, h, k => by
    rw [List.pairwise_cons] at h k
    have e : x = y := by
      have h1 : x ∈ y :: b := p.mem_iff.mp List.mem_cons_self
      have h2 : y ∈ x :: a := p.mem_iff.mpr List.mem_cons_self
      rcases List.mem_cons.mp h1 with e | h1
      · exact e
      · rcases List.mem_cons.mp h2 with e | h2
        · exact e.symm
        · exact Int.le_antisymm (h.1 y h2) (k.1 x h1)
    subst e
    rw [sorted_eq (List.Perm.cons_inv p) h.2 k.2]
theorem sortedT_eq : ∀ {a b : List Tx}, a.Perm b → a.Pairwise (fun a b => ¬ b < a) → b.Pairwise (fun a b => ¬ b < a) → a = b
  | [], b, p, _, _ => (List.Perm.nil_eq p)
  | x :: a, [], p, _, _ => by have := p.length_eq; simp at this
  | x :: a, y :: b, p, h, k => by
    rw [List.pairwise_cons] at h k
    have e : x = y := by
      have h1 : x ∈ y :: b := p.mem_iff.mp List.mem_cons_self
      have h2 : y ∈ x :: a := p.mem_iff.mpr List.mem_cons_self
      rcases List.mem_cons.mp h1 with e | h1
      · exact e
      · rcases List.mem_cons.mp h2 with e | h2
        · exact e.symm
        · exact List.le_antisymm (h.1 y h2) (k.1 x h1)
    subst e
    rw [sortedT_eq (List.Perm.cons_inv p) h.2 k.2]
theorem rising_pw : ∀ (l : List Str) (p : Str), PyProof.Rows.risingS p l = true → ((p :: l).map fun y => y.cps.toList).Pairwise (fun a b : Tx => ¬ b < a)
  | [], p, _ => by simp
  | x :: r, p, h => by
    have h : (!PySem.Spec.ltCps x.cps.toList p.cps.toList && PyProof.Rows.risingS x r) = true := h
    rw [Bool.and_eq_true, Bool.not_eq_true', PyProof.Rows.ltCps_eq, decide_eq_false_iff_not] at h
    have ih := rising_pw r x h.2
    rw [List.map_cons, List.pairwise_cons]
    refine ⟨fun z hz => ?_, ih⟩
    rcases List.mem_cons.mp hz with rfl | hz
    · exact h.1
    · rw [List.map_cons, List.pairwise_cons] at ih
      have h2 : x.cps.toList ≤ z := ih.1 z hz
      have h1 : p.cps.toList ≤ x.cps.toList := h.1
      exact List.le_trans h1 h2
theorem sortedS_pw (l : List Str) (h : PyProof.Rows.sortedS l = true) : (l.map fun y => y.cps.toList).Pairwise (fun a b : Tx => ¬ b < a) := by
  cases l with
  | nil => exact .nil
  | cons x r => exact rising_pw r x h
theorem sortedS_eq {ys : List Str} {ts : List Tx} (hp : ys.Perm (ts.map mkS)) (h : PyProof.Rows.sortedS ys = true) : ys = (sortT ts).map mkS := by
  have e1 : (ys.map fun y => y.cps.toList).Perm ts := by
    have := hp.map fun y : Str => y.cps.toList
    rw [List.map_map] at this
    have e : ((fun y : Str => y.cps.toList) ∘ mkS) = id := by funext x; simp [mkS]
    rw [e, List.map_id] at this
    exact this
  have e2 := sortedT_eq (e1.trans (sortT_perm ts).symm) (sortedS_pw ys h) (sortT_pw ts)
  rw [← e2, List.map_map]
  have e : (mkS ∘ fun y : Str => y.cps.toList) = id := by funext x; simp [mkS]
  rw [e, List.map_id]
theorem KReps.keys {K : PySem.W.Frag} {L : List Addr} {H : Hp} : ∀ {vs : List (Key × V)} {ds : List (D × D)}, KReps K L H vs ds → Reps K L H (vs.map fun kv => kV kv.1) (ds.map (·.1))
  | _, _, .nil => .nil
  | _, _, .cons h _ t => .cons (.str _ h) (KReps.keys t)
theorem rbi_ok : ∀ b : Bi, RnOk X (rBi X b) (biD b) := fun b ρ m H xs as z Q r ss e k => by
  unfold biD at e
  split at e
  · cases e
    cases ss with
    | cons s t =>
      cases t
      obtain ⟨p, vs, rfl, h, rs⟩ := s.lst
      exact ⟨_, _, rfl, .inl ⟨_, SqL.of h, rfl⟩, by rw [rs.length]; exact k _ H (Later.refl ..) r (.int _)⟩
  · cases e
    cases ss with
    | cons s t =>
      cases t
      obtain ⟨p, vs, rfl, h, rs⟩ := s.tup
      exact ⟨_, _, rfl, .inr ⟨_, h.sq, rfl⟩, by rw [rs.length]; exact k _ H (Later.refl ..) r (.int _)⟩
  · split at e
    · cases e
      cases ss with
      | cons s t =>
        cases t
        obtain ⟨rfl, o⟩ := s.str
        exact ⟨_, _, rfl, ⟨by rw [mkS_len]; exact line_le (by assumption), rfl⟩, by rw [mkS_len]; exact k _ H (Later.refl ..) r (.int _)⟩
    · cases e
  · rw [Option.map_eq_some_iff] at e
    obtain ⟨bs, e, rfl⟩ := e
    cases ss with
    | cons s t =>
      cases t
      obtain ⟨p, vs, rfl, h, rs⟩ := s.lst
      have ev := rs.bools e
      subst ev
      exact ⟨p, bs, rfl, SqL.of h, k _ H (Later.refl ..) r (.bl _)⟩
  · rw [Option.map_eq_some_iff] at e
    obtain ⟨bs, e, rfl⟩ := e
    cases ss with
    | cons s t =>
      cases t
      obtain ⟨p, vs, rfl, h, rs⟩ := s.lst
      have ev := rs.bools e
      subst ev
      exact ⟨p, bs, rfl, SqL.of h, k _ H (Later.refl ..) r (.bl _)⟩
  · cases e
    cases ss with
    | cons s t =>
      cases t
      obtain rfl := s.int
      exact .inl ⟨_, rfl, k _ H (Later.refl ..) r (.int _)⟩
  · cases e
    cases ss with
    | cons s t =>
      cases t
      obtain ⟨p, vs, rfl, h, rs⟩ := s.lst
      exact .inl ⟨p, vs, rfl, .inl (SqL.of h), fin_lst r rs k⟩
  · cases e
    cases ss with
    | cons s t =>
      cases t
      obtain ⟨p, vs, rfl, h, rs⟩ := s.tup
      exact .inl ⟨p, vs, rfl, .inr h.sq, fin_lst r rs k⟩
  · cases e
    cases ss with
    | cons s t =>
      cases t
      obtain ⟨p, vs, rfl, h, rs⟩ := s.dct
      exact .inr ⟨p, vs, rfl, h, fin_lst r rs.keys k⟩
  · cases e
    cases ss with
    | cons s t =>
      cases t
      obtain ⟨p, vs, rfl, h, rs⟩ := s.lst
      exact ⟨p, vs, rfl, .inl ⟨SqL.of h, fin_tup r rs k⟩⟩
  · cases e
    cases ss with
    | cons s t =>
      cases t
      have s' := s
      obtain ⟨p, vs, rfl, h, rs⟩ := s.tup
      refine ⟨p, vs, rfl, .inr ⟨h.sq, k _ H (Later.refl ..) r ?_⟩⟩
      cases s' with
      | rep q => exact q
  · rw [Option.map_eq_some_iff] at e
    obtain ⟨bs, e, rfl⟩ := e
    cases ss with
    | cons s t =>
      cases t with
      | cons s2 t =>
        cases t
        obtain ⟨ty, h1, h2⟩ := isi_ty s (isi_some e)
        cases s2 with
        | rep q =>
          cases q with
          | ty kk h5 => exact .inl ⟨_, _, ty, _, bs, rfl, .ty _, h1, (h2 _ _ e).2, k _ H (Later.refl ..) r (.bl _)⟩
  · split at e
    · rename_i hs
      rw [Option.map_eq_some_iff] at e
      obtain ⟨bs, e, rfl⟩ := e
      cases ss with
      | cons s t =>
        cases t with
        | cons s2 t =>
          cases t
          rw [Bool.and_eq_true] at hs
          obtain ⟨ty, h1, h2⟩ := isi_ty s hs.1
          obtain ⟨p, vs, rfl, h, rs⟩ := s2.tup
          obtain ⟨us, h3, h4⟩ := kitAny_of h2 rs e
          rcases h with ⟨_, h⟩ | ⟨_, hf⟩
          · exact .inr ⟨_, p, vs, ty, us, bs, rfl, h, h3, h1, h4, k _ H (Later.refl ..) r (.bl _)⟩
          · exact (flat_no hs.2 hf e).elim
    · cases e
  · cases e
    cases ss with
    | cons s t =>
      cases t with
      | cons s2 t =>
        cases t
        obtain rfl := s.int; obtain rfl := s2.int
        exact ⟨_, _, rfl, k _ H (Later.refl ..) r (.int _)⟩
  · cases e
    cases ss with
    | cons s t =>
      cases t with
      | cons s2 t =>
        cases t
        obtain rfl := s.int; obtain rfl := s2.int
        exact ⟨_, _, rfl, k _ H (Later.refl ..) r (.int _)⟩
  · unfold sortD at e
    cases ss with
    | cons s t =>
      cases t
      obtain ⟨p, vs, rfl, h, rs⟩ := s.lst
      split at e
      · rename_i ns en
        cases e
        rw [intsD_eq en] at rs
        rw [rs.intsV] at h
        refine .inl ⟨p, ns, rfl, SqL.of h, fun ns' q hp hw hq => ?_⟩
        have : ns' = sortI ns := sorted_eq (hp.trans (sortI_perm ns).symm) hw (sortI_pw ns)
        subst this
        exact fin_lst r (Reps.ints _) k q hq
      · split at e
        · rename_i ts et
          split at e
          · rename_i hl
            cases e
            have ev := rs.texts et
            rw [texts_eq et] at rs
            have hok := rs.okTs
            rw [ev] at h
            refine .inr ⟨p, ts.map mkS, rfl, SqL.of (by rw [List.map_map]; exact h), by simpa using hl, fun ys q hp hw hq => ?_⟩
            have := sortedS_eq hp hw
            subst this
            rw [List.map_map]
            exact fin_lst r (Reps.strs _ fun s hs => hok s ((sortT_perm ts).mem_iff.mp hs)) k q hq
          · cases e
        · cases e
  · cases e
/-! ### join -/
theorem joinL_eq (s : Tx) : ∀ ts : List Tx, Oh.joinL s ts = TL.joinL s ts
  | [] => rfl
  | [_] => rfl
  | x :: y :: r => by simp only [Oh.joinL, TL.joinL, List.append_assoc, joinL_eq s (y :: r)]
theorem join_mk (s : Tx) (ts : List Tx) : Txt.join (mkS s) (ts.map mkS) = mkS (Oh.joinL s ts) := by
  rw [TL.join_eq]
  refine TL.ext_tl ?_
  rw [TL.tl_join, joinL_eq]
  congr 1
  rw [List.map_map]
  conv => rhs; rw [← List.map_id ts]
  rfl
theorem join_len (s : Tx) : ∀ ts : List Tx, ts ≠ [] → (Oh.joinL s ts).length + s.length = (ts.map List.length).sum + ts.length * s.length
  | [], h => absurd rfl h
  | [x], _ => by simp [Oh.joinL]
  | x :: y :: r, _ => by
    have ih := join_len s (y :: r) (by simp)
    simp only [Oh.joinL, List.length_append, List.map_cons, List.sum_cons, List.length_cons] at ih ⊢
    rw [Nat.add_mul]
    omega
theorem join_okT (s : Tx) (hs : okT s) : ∀ ts : List Tx, (∀ t ∈ ts, okT t) → okT (Oh.joinL s ts)
  | [], _ => fun _ h => by cases h
  | [x], h => h x List.mem_cons_self
  | x :: y :: r, h => by
    simp only [Oh.joinL]
    exact ((h x List.mem_cons_self).app hs).app (join_okT s hs (y :: r) fun t ht => h t (List.mem_cons_of_mem _ ht))
def rJoin (X : Cx) : V → List V → Hp → VK → Prop := fun x xs H Q => ∃ a p, ∃ ys : List Str, x = .str a ∧ xs = [.ref p] ∧ (SqL X.K H p (ys.map V.str) ∨ SqT X.K H p (ys.map V.str)) ∧
      (ys.map (·.length)).sum + ys.length * a.length ≤ 16777216 ∧ Q (.str (Txt.join a ys)) H
theorem str1_ok {w : Oh.W} {m : M} {ω : D → M → Prop} {Kf : Tx → M → Prop} (h : Aft ω (str1 w m) Kf) : ∃ b, w = .p (.str b) ∧ Kf b m := by
  unfold str1 at h
  split at h
  · exact ⟨_, rfl, h⟩
  · exact h.elim
def MeOk (X : Cx) (r : V → List V → Hp → VK → Prop) (f : Tx → D → Option D) : Prop := ∀ (ρ : Rh) (m : M) (H : Hp) (s : Tx) (y : V) (a z : D) (Q : VK), Rel X.K ρ m H → okT s → See X.K (lives ρ m) H y a → f s a = some z →
  (∀ v H', Later ρ m H ρ m H' → Rel X.K ρ m H' → Rep X.K (lives ρ m) H' v z → Q v H') → r (.str (mkS s)) [y] H Q
theorem join_ok : MeOk X (rJoin X) (meD .join) := fun ρ m H s y a z Q r os sy e k => by
  cases a <;> simp only [meD, reduceCtorEq] at e
  rename_i xs
  cases q : texts xs with
  | none => rw [q] at e; cases e
  | some ts =>
    rw [q] at e
    simp only [] at e
    split at e
    · cases e
      obtain ⟨p, vs, rfl, h, rs⟩ := sy.lst
      have ev := rs.texts q
      have eq := texts_eq q
      subst ev eq
      have hm : (ts.map fun s => V.str (mkS s)) = (ts.map mkS).map V.str := by rw [List.map_map]; rfl
      rw [hm] at h
      refine ⟨_, p, ts.map mkS, rfl, rfl, .inl (SqL.of h), ?_, ?_⟩
      · rw [List.map_map, List.length_map, mkS_len]
        have e1 : (List.map ((fun x => x.length) ∘ mkS) ts) = ts.map List.length := List.map_congr_left fun x _ => mkS_len x
        rw [e1]
        by_cases hn : ts = []
        · subst hn; simp
        · rw [← join_len s ts hn]; assumption
      · rw [join_mk]
        exact k _ H (Later.refl ..) r (.str _ (join_okT s os ts (rs.okTs)))
    · cases e
theorem s_me1 {W : WX} {e : Expr} {r : V → List V → Hp → VK → Prop} {f : Tx → D → Option D} {ra rb : Env → M → Res Oh.W} (h : PE X e (tM1 r (tE X.K W ra) (tE X.K W rb))) (ok : MeOk X r f) :
    PE X e (tE X.K W fun s m => (ra s m).bind fun w1 m1 => (str1 w1 m1).bind fun t m2 => (rb s m2).bind fun w2 m3 => op1 (f t) w2 m3) := pe_m h fun σ H Q ⟨ρ, s, m, B, k⟩ => by
  refine seq B k fun w1 m1 x ρ1 H1 l1 B1 r1 k1 => ?_
  obtain ⟨t, rfl, k2⟩ := str1_ok k1.bind
  cases r1 with
  | str _ ot =>
    refine ⟨⟨_, rfl⟩, seq B1 k2 fun w2 m2 y ρ2 H2 l2 B2 r2 k3 => ?_⟩
    obtain ⟨a, z, e1, e2, k4⟩ := op1_ok k3
    exact ok ρ2 m2 H2 t y a z Q B2.rel ot (see_of r2 B2.rel e1) e2 fun v H' l3 r3 p3 => k4 v ρ2 H' ((l1.trans l2).trans l3) r3 p3
end
end Oh

set_option Elab.async false
set_option linter.all false
set_option maxRecDepth 100000
set_option maxHeartbeats 2000000
set_option autoImplicit false
/-! OhW: arguments, displays, tests -/
namespace Oh
open PySem L2
variable [Lcl]
section
variable {X : Cx} {W : WX}
/-! ### arguments -/
theorem s_nil : PA X [] (tAr X.K W fun _ m => .ok [] m) := pa_m pa_nil fun σ H Q ⟨ρ, s, m, B, k⟩ => k [] ρ H (Later.refl ..) B.rel .nil
theorem s_cons {e : Expr} {es : List Expr} {ra : Env → M → Res Oh.W} {rs : Env → M → Res (List Oh.W)} (ha : PE X e (tE X.K W ra)) (hr : PA X es (tAr X.K W rs)) (hs : starEach (e :: es) X.env = (false, eval e X.env) :: starEach es X.env) :
    PA X (e :: es) (tAr X.K W fun s m => (ra s m).bind fun w m1 => (rs s m1).bind fun ws m2 => .ok (w :: ws) m2) := pa_m (pa_cons ha hr hs) fun σ H Q ⟨ρ, s, m, B, k⟩ => by
  refine seq B k fun w1 m1 x ρ1 H1 l1 B1 r1 k1 => ?_
  refine seq B1 k1 fun ws m2 xs ρ2 H2 l2 B2 r2 k2 => ?_
  exact k2 (x :: xs) ρ2 H2 (l1.trans l2) B2.rel (.cons (r1.later l2) r2)
/-! ### displays -/
theorem toPs_rep {K : PySem.W.Frag} {ρ : Rh} {L : List Addr} {H : Hp} : ∀ {vs : List V} {ws : List Oh.W} {ds : List D}, RepWs K ρ L H vs ws → toPs ws = some ds → Reps K L H vs ds
  | _, _, _, .nil, e => by cases e; exact .nil
  | _, _, ds, .cons (w := w) r t, e => by
    simp only [toPs, Option.bind_eq_some_iff, Option.map_eq_some_iff] at e
    obtain ⟨d, e1, ds', e2, rfl⟩ := e
    cases w with
    | p x => cases e1; exact .cons r (toPs_rep t e2)
    | c n => cases e1
theorem pures_ok {ws : List Oh.W} {f : List D → D} {m : M} {ω : D → M → Prop} {Kf : Oh.W → M → Prop} (h : Aft ω (pures ws f m) Kf) : ∃ ds, toPs ws = some ds ∧ ds.length ≤ line ∧ Kf (.p (f ds)) m := by
  unfold pures at h
  cases e1 : toPs ws with
  | none => rw [e1] at h; exact h.elim
  | some ds =>
    rw [e1] at h
    simp only [] at h
    split at h
    · exact ⟨ds, rfl, by assumption, h⟩
    · exact h.elim
theorem s_tup {es : List Expr} {k0 : Nat} {pos : Pos} {rs : Env → M → Res (List Oh.W)} (h : PA X es (tAr X.K W rs)) : PE X (.Tuple es k0 pos) (tE X.K W fun s m => (rs s m).bind fun ws m1 => pures ws .tup m1) := pe_m (pe_tup h) fun σ H Q ⟨ρ, s, m, B, k⟩ => by
  refine seq B k fun ws m1 xs ρ1 H1 l1 B1 r1 k1 => ?_
  obtain ⟨ds, e1, e2, k2⟩ := pures_ok k1
  have rs := toPs_rep r1 e1
  exact ⟨by rw [rs.length]; exact line_le e2, fin_tup B1.rel rs fun v H' l r q => k2 v ρ1 H' (l1.trans l) r q⟩
/-- a reading of what makes a new list -/
def tN (K : PySem.W.Frag) (W : WX) (r : Env → M → Res Oh.W) : TE := fun σ H Q =>
  ∃ ρ s m, Both K ρ σ s m H ∧ Aft (Wish K W ρ m H σ) (r s m) fun w m' => ∃ ds, w = .p (.lst ds) ∧ ∀ p vs ρ' H', Later ρ m H ρ' m' H' → Rel K ρ' m' H' → Reps K (lives ρ' m') H' vs ds → H' p = none → Q (.ref p) (upd H' p (.lst vs))
theorem tN_E {e : Expr} {r : Env → M → Res Oh.W} (h : PE X e (tN X.K W r)) (hr : ∀ s m w m', r s m = .ok w m' → ∃ ds, w = .p (.lst ds)) : PE X e (tE X.K W r) := pe_m h fun σ H Q ⟨ρ, s, m, B, k⟩ => by
  refine ⟨ρ, s, m, B, ?_⟩
  cases q : r s m with
  | bad => rw [q] at k; exact k
  | exc x m' => rw [q] at k; exact k
  | ok w m' =>
    rw [q] at k
    obtain ⟨ds, rfl⟩ := hr s m w m' q
    exact ⟨ds, rfl, fun p vs ρ' H' l rr rs hp => k _ ρ' _ (l.trans (later_upd rr hp)) (rr.upd hp) (.lst (rr.notLive hp) upd_same (rs.ext (ext_upd hp)))⟩
theorem s_lstN {es : List Expr} {pos : Pos} {rs : Env → M → Res (List Oh.W)} (h : PA X es (tAr X.K W rs)) : PE X (.List es pos) (tN X.K W fun s m => (rs s m).bind fun ws m1 => pures ws .lst m1) := pe_m (pe_lst h) fun σ H Q ⟨ρ, s, m, B, k⟩ => by
  refine seq B k fun ws m1 xs ρ1 H1 l1 B1 r1 k1 => ?_
  obtain ⟨ds, e1, e2, ds', e3, k2⟩ := pures_ok k1
  cases e3
  have rs := toPs_rep r1 e1
  exact ⟨by rw [rs.length]; exact line_le e2, fun p hp => k2 p xs ρ1 H1 l1 B1.rel rs hp⟩
theorem pures_lst {ws : List Oh.W} {m m' : M} {w : Oh.W} (h : pures ws .lst m = .ok w m') : ∃ ds, w = .p (.lst ds) := by
  unfold pures at h
  split at h
  · split at h
    · cases h; exact ⟨_, rfl⟩
    · cases h
  · cases h
theorem s_lst {es : List Expr} {pos : Pos} {rs : Env → M → Res (List Oh.W)} (h : PA X es (tAr X.K W rs)) : PE X (.List es pos) (tE X.K W fun s m => (rs s m).bind fun ws m1 => pures ws .lst m1) :=
  tN_E (s_lstN h) fun s m w m' q => by
    cases e : rs s m with
    | bad => rw [e] at q; cases q
    | exc x m => rw [e] at q; cases q
    | ok a m1 => rw [e] at q; exact pures_lst q
/-! ### and, or, not, if else -/
theorem s_and {a b : Expr} {rest : List Expr} {pos : Pos} {ra rb : Env → M → Res Oh.W} (ha : PE X a (tE X.K W ra)) (hb : PE X (.BoolOp .And (b :: rest) pos) (tE X.K W rb)) :
    PE X (.BoolOp .And (a :: b :: rest) pos) (tE X.K W fun s m => (ra s m).bind fun w m1 => (test w m1).bind fun b m2 => match b with | true => rb s m2 | false => .ok (.p (.bl false)) m2) := pe_m (pe_and ha hb) fun σ H Q ⟨ρ, s, m, B, k⟩ => by
  refine seq B k fun w m1 x ρ1 H1 l1 B1 r1 k1 => ?_
  obtain ⟨c, rfl, k2⟩ := test_ok k1.bind
  cases r1
  refine ⟨c, rfl, ?_⟩
  cases c with
  | true => exact last B1 k2 fun a m2 v ρ2 H2 l2 r2 p2 k3 => k3 v ρ2 H2 (l1.trans l2) r2 p2
  | false => exact k2 _ ρ1 H1 l1 B1.rel (.bl _)
theorem s_or {a b : Expr} {rest : List Expr} {pos : Pos} {ra rb : Env → M → Res Oh.W} (ha : PE X a (tE X.K W ra)) (hb : PE X (.BoolOp .Or (b :: rest) pos) (tE X.K W rb)) :
    PE X (.BoolOp .Or (a :: b :: rest) pos) (tE X.K W fun s m => (ra s m).bind fun w m1 => (test w m1).bind fun b m2 => match b with | true => .ok (.p (.bl true)) m2 | false => rb s m2) := pe_m (pe_or ha hb) fun σ H Q ⟨ρ, s, m, B, k⟩ => by
  refine seq B k fun w m1 x ρ1 H1 l1 B1 r1 k1 => ?_
  obtain ⟨c, rfl, k2⟩ := test_ok k1.bind
  cases r1
  refine ⟨c, rfl, ?_⟩
  cases c with
  | false => exact last B1 k2 fun a m2 v ρ2 H2 l2 r2 p2 k3 => k3 v ρ2 H2 (l1.trans l2) r2 p2
  | true => exact k2 _ ρ1 H1 l1 B1.rel (.bl _)
theorem s_not {a : Expr} {pos : Pos} {ra : Env → M → Res Oh.W} (ha : PE X a (tE X.K W ra)) : PE X (.UnaryOp .Not a pos) (tE X.K W fun s m => (ra s m).bind fun w m1 => (test w m1).bind fun b m2 => .ok (.p (.bl (!b))) m2) := pe_m (pe_not ha) fun σ H Q ⟨ρ, s, m, B, k⟩ => by
  refine seq B k fun w m1 x ρ1 H1 l1 B1 r1 k1 => ?_
  obtain ⟨c, rfl, k2⟩ := test_ok k1.bind
  cases r1
  exact ⟨c, rfl, k2 _ ρ1 H1 l1 B1.rel (.bl _)⟩
theorem s_neg {a : Expr} {pos : Pos} {ra : Env → M → Res Oh.W} (ha : PE X a (tE X.K W ra)) : PE X (.UnaryOp .USub a pos) (tE X.K W fun s m => (ra s m).bind fun w m1 => op1 negD w m1) := pe_m (pe_un un_neg ha) fun σ H Q ⟨ρ, s, m, B, k⟩ => by
  refine seq B k fun w m1 x ρ1 H1 l1 B1 r1 k1 => ?_
  obtain ⟨d, z, e1, e2, k2⟩ := op1_ok k1
  have sx := see_of r1 B1.rel e1
  unfold negD toI at e2
  split at e2
  · cases e2
    obtain rfl := sx.int
    exact ⟨_, rfl, k2 _ ρ1 H1 l1 B1.rel (.int _)⟩
  · cases e2
theorem s_ite {c a b : Expr} {pos : Pos} {rc : Env → M → Res Bool} {ra rb : Env → M → Res Oh.W} (hc : PT X c (tTe X.K W rc)) (ha : PE X a (tE X.K W ra)) (hb : PE X b (tE X.K W rb)) :
    PE X (.IfExp c a b pos) (tE X.K W fun s m => (rc s m).bind fun t m2 => match t with | true => ra s m2 | false => rb s m2) := pe_m (pe_ifExp hc ha hb) fun σ H Q ⟨ρ, s, m, B, k⟩ => by
  refine seq B k fun t m1 x ρ1 H1 l1 B1 r1 k1 => ?_
  obtain rfl := r1
  cases x with
  | true => exact last B1 k1 fun a m2 v ρ2 H2 l2 r2 p2 k3 => k3 v ρ2 H2 (l1.trans l2) r2 p2
  | false => exact last B1 k1 fun a m2 v ρ2 H2 l2 r2 p2 k3 => k3 v ρ2 H2 (l1.trans l2) r2 p2
/-! ### tests -/
theorem s_val {e : Expr} {ra : Env → M → Res Oh.W} (h : PE X e (tE X.K W ra)) (he : ∀ whole, isTrue e X.env whole = (do let v ← whole; standAt e.pos; holding [v] (truthy v))) : PT X e (tTe X.K W fun s m => (ra s m).bind test) := pt_m (pt_val h he) fun σ H Q ⟨ρ, s, m, B, k⟩ => by
  refine seq B k fun w m1 x ρ1 H1 l1 B1 r1 k1 => ?_
  obtain ⟨c, rfl, k2⟩ := test_ok k1
  cases r1
  exact ⟨c, rfl, k2 _ ρ1 H1 l1 B1.rel rfl⟩
theorem s_tcmp {e : Expr} {r : R2} {ra rb : Env → M → Res Oh.W} {f : D → D → Option D} (h : PT X e (tTest (tOp r (tE X.K W ra) (tE X.K W rb)))) (ok : R2Ok X r f) :
    PT X e (tTe X.K W fun s m => ((ra s m).bind fun w1 m1 => (rb s m1).bind fun w2 m2 => op2 f w1 w2 m2).bind test) := pt_m h fun σ H Q ⟨ρ, s, m, B, k⟩ => by
  have k := k.bind
  refine seq B k fun w1 m1 x ρ1 H1 l1 B1 r1 k1 => ?_
  refine seq B1 k1 fun w2 m2 y ρ2 H2 l2 B2 r2 k2 => ?_
  obtain ⟨a, b, z, e1, e2, e3, k3⟩ := op2_ok k2
  obtain ⟨c, ec, k4⟩ := test_ok k3
  cases ec
  refine ok ρ2 m2 H2 x y a b _ _ B2.rel (see_of (r1.later l2) B2.rel e1) (see_of r2 B2.rel e2) e3 fun v H' l3 r3 p3 => ?_
  cases p3
  exact ⟨c, rfl, k4 _ ρ2 H' ((l1.trans l2).trans l3) r3 rfl⟩
theorem s_tnot {a : Expr} {pos : Pos} {rc : Env → M → Res Bool} (h : PT X a (tTe X.K W rc)) : PT X (.UnaryOp .Not a pos) (tTe X.K W fun s m => (rc s m).bind fun b m1 => .ok (!b) m1) := pt_m (pt_not h) fun σ H Q ⟨ρ, s, m, B, k⟩ => by
  refine seq B k fun t m1 x ρ1 H1 l1 B1 r1 k1 => ?_
  obtain rfl := r1
  exact k1 _ ρ1 H1 l1 B1.rel rfl
theorem s_tand {a b : Expr} {rest : List Expr} {pos : Pos} {ra rb : Env → M → Res Bool} (ha : PT X a (tTe X.K W ra)) (hb : PW X (.BoolOp .And (b :: rest) pos) (tTe X.K W rb)) :
    PW X (.BoolOp .And (a :: b :: rest) pos) (tTe X.K W fun s m => (ra s m).bind fun b m1 => match b with | true => rb s m1 | false => .ok false m1) := by
  have h := pw_and ha hb
  refine ⟨fun wh pins s0 σ H Q I q => h.run wh pins s0 σ H Q I ?_⟩
  obtain ⟨ρ, s, m, B, k⟩ := q
  refine seq B k fun t m1 x ρ1 H1 l1 B1 r1 k1 => ?_
  obtain rfl := r1
  cases x with
  | true => exact last B1 k1 fun a m2 v ρ2 H2 l2 r2 p2 k3 => k3 v ρ2 H2 (l1.trans l2) r2 p2
  | false => exact k1 _ ρ1 H1 l1 B1.rel rfl
theorem s_tor {a b : Expr} {rest : List Expr} {pos : Pos} {ra rb : Env → M → Res Bool} (ha : PT X a (tTe X.K W ra)) (hb : PW X (.BoolOp .Or (b :: rest) pos) (tTe X.K W rb)) :
    PW X (.BoolOp .Or (a :: b :: rest) pos) (tTe X.K W fun s m => (ra s m).bind fun b m1 => match b with | true => .ok true m1 | false => rb s m1) := by
  have h := pw_or ha hb
  refine ⟨fun wh pins s0 σ H Q I q => h.run wh pins s0 σ H Q I ?_⟩
  obtain ⟨ρ, s, m, B, k⟩ := q
  refine seq B k fun t m1 x ρ1 H1 l1 B1 r1 k1 => ?_
  obtain rfl := r1
  cases x with
  | false => exact last B1 k1 fun a m2 v ρ2 H2 l2 r2 p2 k3 => k3 v ρ2 H2 (l1.trans l2) r2 p2
  | true => exact k1 _ ρ1 H1 l1 B1.rel rfl
/-! ### chains -/
theorem s_chain {e : Expr} {r r' : R2} {ra rb rc : Env → M → Res Oh.W} {f g : D → D → Option D} (h : PE X e (tChain r r' (tE X.K W ra) (tE X.K W rb) (tE X.K W rc))) (ok : R2Ok X r f) (ok' : R2Ok X r' g) :
    PE X e (tE X.K W fun s m => (ra s m).bind fun w1 m1 => (rb s m1).bind fun w2 m2 => (op2 f w1 w2 m2).bind fun t m3 => (test t m3).bind fun z m4 => match z with | false => .ok (.p (.bl false)) m4 | true => (rc s m4).bind fun w3 m5 => op2 g w2 w3 m5) := pe_m h fun σ H Q ⟨ρ, s, m, B, k⟩ => by
  refine seq B k fun w1 m1 x ρ1 H1 l1 B1 r1 k1 => ?_
  refine seq B1 k1 fun w2 m2 y ρ2 H2 l2 B2 r2 k2 => ?_
  obtain ⟨a, b, z, e1, e2, e3, k3⟩ := op2_ok k2.bind
  obtain ⟨c, ec, k4⟩ := test_ok k3.bind
  cases ec
  refine ok ρ2 m2 H2 x y a b _ _ B2.rel (see_of (r1.later l2) B2.rel e1) (see_of r2 B2.rel e2) e3 fun v H' l3 r3 p3 => ?_
  cases p3
  refine ⟨c, rfl, ?_⟩
  cases c with
  | false => exact k4 _ ρ2 H' ((l1.trans l2).trans l3) r3 (.bl _)
  | true =>
    have B3 := B2.later l3 r3
    have k4 := k4.mono (ω' := Wish X.K W ρ2 m2 H' σ) (fun x m' w => w.later l3) fun _ _ z => z
    refine seq B3 k4 fun w3 m5 y2 ρ5 H5 l5 B5 r5 k5 => ?_
    obtain ⟨a', b', z', e1', e2', e3', k6⟩ := op2_ok k5
    exact ok' ρ5 m5 H5 y y2 a' b' z' Q B5.rel (see_of ((r2.later l3).later l5) B5.rel e1') (see_of r5 B5.rel e2') e3' fun v H6 l6 r6 p6 => k6 v ρ5 H6 ((((l1.trans l2).trans l3).trans l5).trans l6) r6 p6
end
end Oh

set_option Elab.async false
set_option linter.all false
set_option maxRecDepth 100000
set_option maxHeartbeats 2000000
set_option autoImplicit false
/-! OhX: slices, walks, targets, comprehensions -/
namespace Oh
open PySem L2
variable [Lcl]
section
variable {X : Cx} {W : WX}
/-! ### slices -/
abbrev tOo (K : PySem.W.Frag) (W : WX) (r : Env → M → Res (Option Int)) : TO := tG K W rB r
theorem po_m {e : Option Expr} {t t' : TO} (h : PO X e t) (k : ∀ σ H Q, t' σ H Q → t σ H Q) : PO X e t' := ⟨fun pins s σ H Q I q => h.run pins s σ H Q I (k σ H Q q)⟩
theorem s_ono : PO X none (tOo X.K W fun _ m => .ok none m) := po_m po_none fun σ H Q ⟨ρ, s, m, B, k⟩ => k _ ρ H (Later.refl ..) B.rel rfl
theorem s_osome {e : Expr} {ra : Env → M → Res Oh.W} (h : PE X e (tE X.K W ra)) : PO X (some e) (tOo X.K W fun s m => (ra s m).bind fun w m1 => (int1 w m1).bind fun i m2 => .ok (some i) m2) := po_m (po_some h) fun σ H Q ⟨ρ, s, m, B, k⟩ => by
  refine seq B k fun w m1 x ρ1 H1 l1 B1 r1 k1 => ?_
  obtain ⟨c, rfl, k2⟩ := int1_ok k1.bind
  cases r1
  exact ⟨c, rfl, k2 _ ρ1 H1 l1 B1.rel rfl⟩
theorem s_slc {a : Expr} {lo hi : Option Expr} {p2 pos : Pos} {ra : Env → M → Res Oh.W} {rl rh : Env → M → Res (Option Int)} (ha : PE X a (tE X.K W ra)) (hl : PO X lo (tOo X.K W rl)) (hh : PO X hi (tOo X.K W rh)) :
    PE X (.Subscript a (.Slice lo hi none p2) pos) (tE X.K W fun s m => (ra s m).bind fun w m1 => (rl s m1).bind fun l m2 => (rh s m2).bind fun h m3 => op1 (fun x => slcD x l h) w m3) := pe_m (pe_slice sl3 ha hl hh) fun σ H Q ⟨ρ, s, m, B, k⟩ => by
  refine seq B k fun w m1 x ρ1 H1 l1 B1 r1 k1 => ?_
  refine seq B1 k1 fun l m2 lv ρ2 H2 l2 B2 r2 k2 => ?_
  obtain rfl := r2
  refine seq B2 k2 fun h m3 hv ρ3 H3 l3 B3 r3 k3 => ?_
  obtain rfl := r3
  obtain ⟨d, z, e1, e2, k4⟩ := op1_ok k3
  exact sl_ok ρ3 m3 H3 x d z _ _ Q B3.rel (see_of ((r1.later l2).later l3) B3.rel e1) e2 fun v H' l4 r4 p4 => k4 v ρ3 H' (((l1.trans l2).trans l3).trans l4) r4 p4
theorem s_rev {a : Expr} {k0 : Nat} {p1 p2 p3 pos : Pos} {ra : Env → M → Res Oh.W} (ha : PE X a (tE X.K W ra)) :
    PE X (.Subscript a (.Slice none none (some (.UnaryOp .USub (.Constant (.int 1) k0 p1) p2)) p3) pos) (tE X.K W fun s m => (ra s m).bind fun w m1 => op1 revD w m1) := pe_m (pe_revL ha) fun σ H Q ⟨ρ, s, m, B, k⟩ => by
  refine seq B k fun w m1 x ρ1 H1 l1 B1 r1 k1 => ?_
  obtain ⟨d, z, e1, e2, k2⟩ := op1_ok k1
  have sx := see_of r1 B1.rel e1
  unfold revD at e2
  split at e2
  · cases e2
    obtain ⟨p, vs, rfl, h, rs⟩ := sx.lst
    exact ⟨p, vs, rfl, SqL.of h, fin_lst B1.rel rs.reverse fun v H' l r q => k2 v ρ1 H' (l1.trans l) r q⟩
  · cases e2
/-! ### walks -/
def ItRep (K : PySem.W.Frag) (ρ : Rh) (m : M) (H : Hp) (J : It) (xs : List D) : Prop := ∀ ρ' m' H', Ext (lives ρ m) H (lives ρ' m') H' → Rel K ρ' m' H' → ∀ i : Nat,
  (∀ d, xs[i]? = some d → J.go i H' ∧ ∀ x H'', J.yld i H' x H'' → Later ρ' m' H' ρ' m' H'' ∧ Rel K ρ' m' H'' ∧ Rep K (lives ρ' m') H'' x d) ∧ (xs.length ≤ i → J.stop i H')
abbrev tIt (K : PySem.W.Frag) (W : WX) (r : Env → M → Res (List D)) : TI := tG K W (ItRep K) r
def iAny (K : PySem.W.Frag) (te : TE) : TI := fun σ H R => te σ H fun x H1 => (∃ a, x = .ref a ∧ (∃ xs, SqL K H1 a xs) ∧ R (Itl K a) H1) ∨ (∃ a, x = .ref a ∧ (∃ xs, SqT K H1 a xs) ∧ R (Itt K a) H1) ∨ ∃ z, x = .str z ∧ R (Its z) H1
theorem pi_any {tg e : Expr} {te : TE} (he : PE X e te) : PI X tg e (iAny X.K te) := by
  refine ⟨fun pins s σ H R I h => ?_⟩
  refine thn (he.run pins s σ H _ I h) fun v s1 ⟨x, H1, I1, r1, q1⟩ => ?_
  rcases q1 with ⟨a, rfl, ⟨xs, hq⟩, q⟩ | ⟨a, rfl, ⟨xs, hq⟩, q⟩ | ⟨z, rfl, q⟩
  · cases r1
    obtain ⟨its, rv, p, hz⟩ := I1.list hq
    refine wpAny_pyIter_list p.isList ?_
    refine ⟨s1.heap.objs.size, [s1.heap.objs.size], _, _, H1, rfl, I1.kept (t' := s1.toks) fun b o e => Heap.get?_push_of_some _ e, turn_list a _, ⟨_, Heap.get?_push_size _ rfl, rfl, rfl⟩, fun b hb => ?_, q⟩
    have e : b = s1.heap.objs.size := by simpa using hb
    subst e
    exact I1.fpOk (Nat.le_refl _) (I1.hok.fresh (Nat.le_refl _))
  · cases r1
    obtain ⟨its, rv, p, hz⟩ := I1.tuple hq
    refine wpAny_pyIter_tuple (show s1.heap.IsTuple a its.toArray from p) ?_
    refine ⟨s1.heap.objs.size, [s1.heap.objs.size], _, _, H1, rfl, I1.kept (t' := s1.toks) fun b o e => Heap.get?_push_of_some _ e, turn_tuple a _, ⟨_, Heap.get?_push_size _ rfl, rfl, rfl⟩, fun b hb => ?_, q⟩
    have e : b = s1.heap.objs.size := by simpa using hb
    subst e
    exact I1.fpOk (Nat.le_refl _) (I1.hok.fresh (Nat.le_refl _))
  · obtain ⟨t, rfl⟩ := r1
    cases ha : z.cps.all (· < 128)
    · exact wpAny_pyIter_wide ha (pi_one (tk := s1.toks) I1 _ (turn_str _ z t "str_iterator" (.inr rfl)) ⟨_, Heap.get?_push_size _ rfl, rfl, rfl⟩ q)
    · exact wpAny_pyIter_ascii ha (pi_one (tk := s1.toks) I1 _ (turn_str _ z t "str_ascii_iterator" (.inl rfl)) ⟨_, Heap.get?_push_size _ rfl, rfl, rfl⟩ q)
theorem itm_ok {w : Oh.W} {m : M} {ω : D → M → Prop} {Kf : List D → M → Prop} (h : Aft ω (itm w m) Kf) : ∃ d xs, w = .p d ∧ items d = some xs ∧ Kf xs m := by
  cases w with
  | p d => obtain ⟨xs, e, k⟩ := ofO_ok h; exact ⟨d, xs, rfl, e, k⟩
  | c n => exact h.elim
theorem it_lst {K : PySem.W.Frag} {ρ : Rh} {m : M} {H : Hp} {a : Addr} {vs : List V} {ds : List D} (n : a ∉ lives ρ m) (h : H a = some (.lst vs)) (rs : Reps K (lives ρ m) H vs ds) : ItRep K ρ m H (Itl K a) ds := fun ρ' m' H' l r i => by
  obtain ⟨h', n'⟩ := l a _ h n
  refine ⟨fun d e => ?_, fun hl => ⟨vs, SqL.of h', by rw [rs.length]; exact hl⟩⟩
  obtain ⟨v, e1, e2⟩ := rs.get e
  refine ⟨⟨vs, v, SqL.of h', e1⟩, fun x H'' ⟨eq, hy⟩ => ?_⟩
  subst eq
  have := hy vs (SqL.of h')
  rw [e1] at this; cases this
  exact ⟨Later.refl .., r, e2.ext l⟩
theorem it_tup {K : PySem.W.Frag} {ρ : Rh} {m : M} {H : Hp} {a : Addr} {vs : List V} {ds : List D} (h : TupAt K (lives ρ m) H a vs ds) (rs : Reps K (lives ρ m) H vs ds) : ItRep K ρ m H (Itt K a) ds := fun ρ' m' H' l r i => by
  have h' : SqT K H' a vs := h.elim (fun q => SqT.of (l a _ q.2 q.1).1) fun q => q.1 H'
  refine ⟨fun d e => ?_, fun hl => ⟨vs, h', by rw [rs.length]; exact hl⟩⟩
  obtain ⟨v, e1, e2⟩ := rs.get e
  refine ⟨⟨vs, v, h', e1⟩, fun x H'' ⟨eq, hy⟩ => ?_⟩
  subst eq
  have := hy vs (h')
  rw [e1] at this; cases this
  exact ⟨Later.refl .., r, e2.ext l⟩
theorem it_str {K : PySem.W.Frag} {ρ : Rh} {m : M} {H : Hp} {s : Tx} (o : okT s) : ItRep K ρ m H (Its (mkS s)) (s.map fun c => .str [c]) := fun ρ' m' H' l r i => by
  refine ⟨fun d e => ?_, fun hl => by simpa [Its, mkS] using hl⟩
  rw [List.getElem?_map, Option.map_eq_some_iff] at e
  obtain ⟨c, e, rfl⟩ := e
  refine ⟨by simpa [Its, mkS] using (List.getElem?_eq_some_iff.mp e).1, fun x H'' ⟨eq, c', e', ex⟩ => ?_⟩
  subst eq
  have e2 : (mkS s).cps[i]? = some c := by simpa [mkS] using e
  rw [e2] at e'; cases e'
  subst ex
  exact ⟨Later.refl .., r, .str [c] fun c' hc => by rw [List.mem_singleton] at hc; subst hc; exact o _ (List.mem_of_getElem? e)⟩
theorem it_rng {K : PySem.W.Frag} {ρ : Rh} {m : M} {H : Hp} (lo : Int) (n : Nat) : ItRep K ρ m H (Itr lo n) ((List.range n).map fun (i : Nat) => D.int (lo + i)) := fun ρ' m' H' l r i => by
  refine ⟨fun d e => ?_, fun hl => by simpa [Itr] using hl⟩
  rw [List.getElem?_map, Option.map_eq_some_iff] at e
  obtain ⟨c, e, rfl⟩ := e
  obtain ⟨h1, h2⟩ := List.getElem?_eq_some_iff.mp e
  simp only [List.length_range] at h1
  simp only [List.getElem_range] at h2
  subst h2
  exact ⟨h1, fun x H'' ⟨eq, ex⟩ => by subst eq; subst ex; exact ⟨Later.refl .., r, .int _⟩⟩
theorem s_iex {tg e : Expr} {ra : Env → M → Res Oh.W} (h : PE X e (tE X.K W ra)) : PI X tg e (tIt X.K W fun s m => (ra s m).bind itm) := pi_m (pi_any h) fun σ H Q ⟨ρ, s, m, B, k⟩ => by
  refine seq B k fun w m1 x ρ1 H1 l1 B1 r1 k1 => ?_
  obtain ⟨d, xs, rfl, e, k2⟩ := itm_ok k1
  have fin : ∀ J, ItRep X.K ρ1 m1 H1 J xs → Q J H1 := fun J h => k2 J ρ1 H1 l1 B1.rel h
  cases r1 <;> simp only [items, reduceCtorEq, Option.some.injEq] at e
  · subst e; exact .inr (.inr ⟨_, rfl, fin _ (it_str (by assumption))⟩)
  · subst e; exact .inl ⟨_, rfl, ⟨_, SqL.of (by assumption)⟩, fin _ (it_lst (by assumption) (by assumption) (by assumption))⟩
  · subst e; exact .inr (.inl ⟨_, rfl, ⟨_, TupAt.sq (by assumption)⟩, fin _ (it_tup (by assumption) (by assumption))⟩)
theorem rngI_ok {lo hi : Int} {xs : List D} (h : rngI lo hi = some xs) : -(2 ^ 62) ≤ lo ∧ lo < 2 ^ 62 ∧ -(2 ^ 62) ≤ hi ∧ hi < 2 ^ 62 ∧ xs = (List.range (hi - lo).toNat).map fun (i : Nat) => D.int (lo + i) := by
  unfold rngI at h
  split at h
  · rename_i q
    simp only [Bool.and_eq_true, decide_eq_true_eq] at q
    cases h
    exact ⟨by omega, by omega, by omega, by omega, rfl⟩
  · cases h
theorem s_rng1 {tg a : Expr} {p pos : Pos} {rs : Env → M → Res (List Oh.W)} (hg : Gl X "range") (hm : X.mg "range" = none) (h : PA X [a] (tAr X.K W rs)) (hs : starEach [a] X.env = [(false, eval a X.env)]) (hl : ∀ s m ws m', rs s m = .ok ws m' → ws.length = 1) :
    PI X tg (.Call (.Name "range" p) [a] [] pos) (tIt X.K W fun s m => (rs s m).bind rngW) := pi_m (pi_range1 hg hm h hs) fun σ H Q ⟨ρ, s, m, B, k⟩ => by
  refine ⟨ρ, s, m, B, ?_⟩
  have k0 := k.bind
  cases q : rs s m with
  | bad => rw [q] at k0; exact k0
  | exc x m' => rw [q] at k0; exact k0
  | ok ws m1 =>
    have hl1 := hl s m ws m1 q
    rw [q] at k0
    have k0 : Aft (Wish X.K W ρ m H σ) (rngW ws m1) _ := k0
    intro vs ρ1 H1 l1 r1 p1
    unfold rngW at k0
    split at k0
    · obtain ⟨xs, e, k2⟩ := ofO_ok k0
      obtain ⟨b1, b2, b3, b4, rfl⟩ := rngI_ok e
      cases p1 with
      | cons p1 t =>
        cases t
        cases p1
        refine ⟨_, rfl, b3, b4, k2 _ ρ1 H1 l1 r1 ?_⟩
        have := it_rng (K := X.K) (ρ := ρ1) (m := m1) (H := H1) 0 (Int.toNat ‹Int›)
        simpa using this
    · simp at hl1
    · exact k0.elim
theorem s_rng2 {tg a b : Expr} {p pos : Pos} {rs : Env → M → Res (List Oh.W)} (hg : Gl X "range") (hm : X.mg "range" = none) (h : PA X [a, b] (tAr X.K W rs)) (hs : starEach [a, b] X.env = [(false, eval a X.env), (false, eval b X.env)]) (hs2 : starEach [b] X.env = [(false, eval b X.env)]) (hl : ∀ s m ws m', rs s m = .ok ws m' → ws.length = 2) :
    PI X tg (.Call (.Name "range" p) [a, b] [] pos) (tIt X.K W fun s m => (rs s m).bind rngW) := pi_m (pi_range2 hg hm h hs hs2) fun σ H Q ⟨ρ, s, m, B, k⟩ => by
  refine ⟨ρ, s, m, B, ?_⟩
  have k0 := k.bind
  cases q : rs s m with
  | bad => rw [q] at k0; exact k0
  | exc x m' => rw [q] at k0; exact k0
  | ok ws m1 =>
    have hl1 := hl s m ws m1 q
    rw [q] at k0
    have k0 : Aft (Wish X.K W ρ m H σ) (rngW ws m1) _ := k0
    intro vs ρ1 H1 l1 r1 p1
    unfold rngW at k0
    split at k0
    · simp at hl1
    · obtain ⟨xs, e, k2⟩ := ofO_ok k0
      obtain ⟨b1, b2, b3, b4, rfl⟩ := rngI_ok e
      cases p1 with
      | cons p1 t =>
        cases t with
        | cons p2 t =>
          cases t
          cases p1; cases p2
          exact ⟨_, _, rfl, ⟨b1, b2, b3, b4⟩, k2 _ ρ1 H1 l1 r1 (it_rng _ _)⟩
    · exact k0.elim
theorem it_zipL {K : PySem.W.Frag} {ρ : Rh} {m : M} {H : Hp} {a b : Addr} {vs ws : List V} {ds es : List D} (n : a ∉ lives ρ m) (h : H a = some (.lst vs)) (rs : Reps K (lives ρ m) H vs ds) (n2 : b ∉ lives ρ m) (h2 : H b = some (.lst ws)) (rs2 : Reps K (lives ρ m) H ws es) :
    ItRep K ρ m H (Itz K a b) ((ds.zip es).map fun q => D.tup [q.1, q.2]) := fun ρ' m' H' l r i => by
  obtain ⟨h', n'⟩ := l a _ h n
  obtain ⟨h2', n2'⟩ := l b _ h2 n2
  refine ⟨fun d e => ?_, fun hl => ⟨vs, ws, SqL.of h', SqL.of h2', ?_⟩⟩
  · rw [List.getElem?_map, Option.map_eq_some_iff] at e
    obtain ⟨⟨x, y⟩, e, rfl⟩ := e
    rw [List.getElem?_zip_eq_some] at e
    obtain ⟨v, e1, e2⟩ := rs.get e.1
    obtain ⟨w, f1, f2⟩ := rs2.get e.2
    refine ⟨⟨vs, ws, v, w, SqL.of h', SqL.of h2', e1, f1⟩, fun z H'' ⟨T, x', y', ez, hT, eH, hx, hy⟩ => ?_⟩
    have q1 := hx vs (SqL.of h'); rw [e1] at q1; cases q1
    have q2 := hy ws (SqL.of h2'); rw [f1] at q2; cases q2
    subst ez; subst eH
    exact ⟨later_upd r hT, r.upd hT, .tup (.inl ⟨r.notLive hT, upd_same⟩) (.cons ((e2.ext l).ext (ext_upd hT)) (.cons ((f2.ext l).ext (ext_upd hT)) .nil))⟩
  · simp only [List.length_map, List.length_zip] at hl
    rw [rs.length, rs2.length]
    omega
theorem it_zipT {K : PySem.W.Frag} {ρ : Rh} {m : M} {H : Hp} {a b : Addr} {vs ws : List V} {ds es : List D} (h : TupAt K (lives ρ m) H a vs ds) (rs : Reps K (lives ρ m) H vs ds) (h2 : TupAt K (lives ρ m) H b ws es) (rs2 : Reps K (lives ρ m) H ws es) :
    ItRep K ρ m H (RZ.ItzT K a b) ((ds.zip es).map fun q => D.tup [q.1, q.2]) := fun ρ' m' H' l r i => by
  have h' : SqT K H' a vs := h.elim (fun q => SqT.of (l a _ q.2 q.1).1) fun q => q.1 H'
  have h2' : SqT K H' b ws := h2.elim (fun q => SqT.of (l b _ q.2 q.1).1) fun q => q.1 H'
  refine ⟨fun d e => ?_, fun hl => ⟨vs, ws, h', h2', ?_⟩⟩
  · rw [List.getElem?_map, Option.map_eq_some_iff] at e
    obtain ⟨⟨x, y⟩, e, rfl⟩ := e
    rw [List.getElem?_zip_eq_some] at e
    obtain ⟨v, e1, e2⟩ := rs.get e.1
    obtain ⟨w, f1, f2⟩ := rs2.get e.2
    refine ⟨⟨vs, ws, v, w, h', h2', e1, f1⟩, fun z H'' ⟨T, x', y', ez, hT, eH, hx, hy⟩ => ?_⟩
    have q1 := hx vs (h'); rw [e1] at q1; cases q1
    have q2 := hy ws (h2'); rw [f1] at q2; cases q2
    subst ez; subst eH
    exact ⟨later_upd r hT, r.upd hT, .tup (.inl ⟨r.notLive hT, upd_same⟩) (.cons ((e2.ext l).ext (ext_upd hT)) (.cons ((f2.ext l).ext (ext_upd hT)) .nil))⟩
  · simp only [List.length_map, List.length_zip] at hl
    rw [rs.length, rs2.length]
    omega
theorem s_zip {a b : Expr} {elts : List Expr} {kk : Nat} {tpos p pos : Pos} {rs : Env → M → Res (List Oh.W)} (hg : Gl X "zip") (hm : X.mg "zip" = none) (h : PA X [a, b] (tAr X.K W rs)) (hs : starEach [a, b] X.env = (false, eval a X.env) :: starEach [b] X.env) (hpl : (backTo pos (starEach [b] X.env)).any (·.1) = false) :
    PI X (.Tuple elts kk tpos) (.Call (.Name "zip" p) [a, b] [] pos) (tIt X.K W fun s m => (rs s m).bind zipW) := pi_m (RZ.pi_zipA hg hm h hs hpl) fun σ H Q ⟨ρ, s, m, B, k⟩ => by
  refine seq B k fun ws m1 vs ρ1 H1 l1 B1 r1 k1 => ?_
  unfold zipW at k1
  split at k1
  · obtain ⟨xs, e, k2⟩ := ofO_ok k1
    cases r1 with
    | cons p1 t =>
      cases t with
      | cons p2 t =>
        cases t
        unfold zipD at e
        split at e
        · cases e
          cases p1 with | lst n h r =>
          cases p2 with | lst n2 h2 r2 =>
          exact ⟨_, _, _, _, rfl, .inl ⟨SqL.of h, SqL.of h2, k2 _ ρ1 H1 l1 B1.rel (it_zipL n h r n2 h2 r2)⟩⟩
        · cases e
          cases p1 with | tup h r =>
          cases p2 with | tup h2 r2 =>
          exact ⟨_, _, _, _, rfl, .inr ⟨h.sq, h2.sq, k2 _ ρ1 H1 l1 B1.rel (it_zipT h r h2 r2)⟩⟩
        · cases e
  · exact k1.elim
end
end Oh

set_option Elab.async false
set_option linter.all false
set_option maxRecDepth 100000
set_option maxHeartbeats 2000000
set_option autoImplicit false
/-! OhY: targets, comprehensions -/
namespace Oh
open PySem L2
variable [Lcl]
/-! ### targets -/
def gAll : List Nat → TGs
  | [] => gNil
  | i :: r => gCons (gName i) (gAll r)
/-- a tuple or a list is unpacked -/
def gTL (K : PySem.W.Frag) (n : Nat) (t : TGs) : TG := fun v σ H Q => gTup K n t v σ H Q ∨ gUnl K n t v σ H Q
theorem pg_tl {X : Cx} {es : List Expr} {k n : Nat} {pos : Pos} {t : TGs} (h1 : PG X (.Tuple es k pos) (gTup X.K n t)) (h2 : PG X (.Tuple es k pos) (gUnl X.K n t)) : PG X (.Tuple es k pos) (gTL X.K n t) := ⟨fun pins s σ H v u Q I r h => h.elim (h1.run pins s σ H v u Q I r) (h2.run pins s σ H v u Q I r)⟩
def gOf (K : PySem.W.Frag) : List Nat → TG
  | [i] => gName i
  | ts => gTL K ts.length (gAll ts)
/-- related but for some slots -/
structure REx (K : PySem.W.Frag) (ρ : Rh) (L : List Addr) (H : Hp) (ts : List Nat) (σ : St) (s : Env) : Prop where
  len : σ.length = s.length
  get : ∀ (i : Nat) (w : W), i ∉ ts → s[i]? = some (some w) → ∃ v, σ[i]? = some (some v) ∧ RepW K ρ L H v w
section
variable {K : PySem.W.Frag} {ρ : Rh} {L : List Addr} {H : Hp} {σ : St} {s : Env}
theorem REnv.x (r : REnv K ρ L H σ s) (ts : List Nat) : REx K ρ L H ts σ s := ⟨r.len, fun i w _ e => r.get i w e⟩
theorem REx.full (r : REx K ρ L H [] σ s) : REnv K ρ L H σ s := ⟨r.len, fun i w e => r.get i w (by simp) e⟩
theorem REx.wipe {ts : List Nat} (r : REx K ρ L H ts σ s) : REx K ρ L H ts (wipe σ ts) s := ⟨by rw [wipe_length]; exact r.len, fun i w h e => by rw [wipe_out h]; exact r.get i w h e⟩
theorem REx.set {i : Nat} {ts : List Nat} (r : REx K ρ L H (i :: ts) σ s) {v : V} {w : W} (q : RepW K ρ L H v w) : REx K ρ L H ts (σ.set i (some v)) (s.set i (some w)) := by
  refine ⟨by simp [r.len], fun j u hj e => ?_⟩
  by_cases h : i = j
  · subst h
    by_cases hl : i < s.length
    · rw [List.getElem?_set_self hl] at e
      cases e
      exact ⟨v, by rw [List.getElem?_set_self (by rw [r.len]; exact hl)], q⟩
    · rw [List.getElem?_eq_none (by simpa using hl)] at e; cases e
  · rw [List.getElem?_set_ne h] at e ⊢
    exact r.get j u (by simp only [List.mem_cons, not_or]; exact ⟨fun q => h q.symm, hj⟩) e
theorem wipe_set {i : Nat} {v : Option V} : ∀ {ts : List Nat}, i ∈ ts → wipe (σ.set i v) ts = wipe σ ts := fun {ts} h => by
  refine List.ext_getElem? fun j => ?_
  by_cases hj : j ∈ ts
  · have z : ∀ (σ : St) (ts : List Nat), j ∈ ts → (wipe σ ts)[j]? = if j < σ.length then some none else none := by
      intro σ ts
      induction ts generalizing σ with
      | nil => intro h; cases h
      | cons t ts ih =>
        intro h
        unfold wipe
        by_cases e : t = j
        · subst e
          by_cases hl : t < σ.length
          · rw [List.getElem?_set_self (by rw [wipe_length]; exact hl), if_pos hl]
          · rw [if_neg hl, List.getElem?_eq_none (by rw [List.length_set, wipe_length]; omega)]
        · rw [List.getElem?_set_ne e]
          exact ih σ ((List.mem_cons.mp h).resolve_left fun q => e q.symm)
    rw [z _ _ hj, z _ _ hj, List.length_set]
  · rw [wipe_out hj, wipe_out hj, List.getElem?_set_ne (fun e : i = j => hj (by rw [← e]; exact h))]
theorem wipe_at {j : Nat} : ∀ (σ : St) (ts : List Nat), j ∈ ts → (wipe σ ts)[j]? = if j < σ.length then some none else none := by
  intro σ ts
  induction ts generalizing σ with
  | nil => intro h; cases h
  | cons t ts ih =>
    intro h
    unfold wipe
    by_cases e : t = j
    · subst e
      by_cases hl : t < σ.length
      · rw [List.getElem?_set_self (by rw [wipe_length]; exact hl), if_pos hl]
      · rw [if_neg hl, List.getElem?_eq_none (by rw [List.length_set, wipe_length]; omega)]
    · rw [List.getElem?_set_ne e]
      exact ih σ ((List.mem_cons.mp h).resolve_left fun q => e q.symm)
theorem wipe_wipe {ts : List Nat} : wipe (wipe σ ts) ts = wipe σ ts := by
  refine List.ext_getElem? fun j => ?_
  by_cases hj : j ∈ ts
  · rw [wipe_at _ _ hj, wipe_at _ _ hj, wipe_length]
  · rw [wipe_out hj]
theorem gAll_ok {ts0 : List Nat} : ∀ {ts : List Nat} {vs : List V} {ds : List D} {σ : St} {s : Env} {Q : St → Hp → Prop}, (∀ x ∈ ts, x ∈ ts0) → ts.length = ds.length → Reps K L H vs ds → REx K ρ L H ts σ s →
    (∀ σ2, REnv K ρ L H σ2 ((ts.zip ds).foldl (fun s q => s.set q.1 (some (.p q.2))) s) → wipe σ2 ts0 = wipe σ ts0 → Q σ2 H) → gAll ts vs σ H Q := by
  intro ts
  induction ts with
  | nil =>
    intro vs ds σ s Q _ hl rs r k
    cases rs with
    | nil => exact ⟨rfl, k σ r.full rfl⟩
    | cons _ _ => simp at hl
  | cons i ts ih =>
    intro vs ds σ s Q hs hl rs r k
    cases rs with
    | nil => simp at hl
    | @cons v vs d ds r1 rs =>
      refine ⟨_, _, rfl, ?_⟩
      show gAll ts _ (σ.set i (some v)) H _
      refine ih (fun x hx => hs x (List.mem_cons_of_mem _ hx)) (by simpa using hl) rs (r.set (w := .p d) r1) fun σ2 h2 hw => k σ2 h2 ?_
      rw [hw, wipe_set (hs i List.mem_cons_self)]
theorem g_ok {ts : List Nat} {x : V} {d : D} {s1 : Env} {Q : St → Hp → Prop} (e : setT ts d s = some s1) (r : REx K ρ L H ts σ s) (q : Rep K L H x d)
    (k : ∀ σ2, REnv K ρ L H σ2 s1 → wipe σ2 ts = wipe σ ts → Q σ2 H) : gOf K ts x σ H Q := by
  have multi : ∀ {ts : List Nat}, (∀ i, ts ≠ [i]) → (match d with | .tup xs => if xs.length = ts.length then some ((ts.zip xs).foldl (fun s q => s.set q.1 (some (.p q.2))) s) else none | .lst xs => if xs.length = ts.length then some ((ts.zip xs).foldl (fun s q => s.set q.1 (some (.p q.2))) s) else none | _ => none) = some s1 → REx K ρ L H ts σ s →
      (∀ σ2, REnv K ρ L H σ2 s1 → wipe σ2 ts = wipe σ ts → Q σ2 H) → gTL K ts.length (gAll ts) x σ H Q := fun {ts} hn e r k => by
    cases q with
    | tup h rs =>
      simp only [] at e
      split at e
      · rename_i hl
        simp only [Option.some.injEq] at e
        subst e
        exact .inl ⟨_, _, rfl, TupAt.sq h, by rw [rs.length, hl], gAll_ok (fun _ h => h) hl.symm rs r k⟩
      · cases e
    | lst n h rs =>
      simp only [] at e
      split at e
      · rename_i hl
        simp only [Option.some.injEq] at e
        subst e
        exact .inr ⟨_, _, rfl, SqL.of h, by rw [rs.length, hl], gAll_ok (fun _ h => h) hl.symm rs r k⟩
      · cases e
    | non => cases e
    | bl _ => cases e
    | int _ => cases e
    | str _ _ => cases e
    | ty _ _ => cases e
    | ins _ _ _ _ => cases e
    | cls _ => cases e
    | dct _ _ _ => cases e
    | scr _ => cases e
  unfold setT at e
  match ts, e, r, k with
  | [], e, r, k => exact multi (by simp) (by cases d <;> simpa using e) r k
  | [i], e, r, k =>
    cases e
    exact k _ (r.set (w := .p d) q).full (wipe_set (by simp))
  | i :: j :: ts, e, r, k => exact multi (by simp) (by cases d <;> simpa using e) r k
end
section
variable {X : Cx} {W : WX}
/-- while a comprehension runs its list is nobody else's -/
theorem both_prv {K : PySem.W.Frag} {ρ : Rh} {m : M} {H : Hp} {p : Addr} {o : HO} (r : Rel K ρ m H) (hp : H p = none) : Ext (lives ρ m) H (lives ⟨ρ.c, p :: ρ.g⟩ m) (upd H p o) ∧ Rel K ⟨ρ.c, p :: ρ.g⟩ m (upd H p o) := by
  have ex : Ext (lives ρ m) H (lives ⟨ρ.c, p :: ρ.g⟩ m) (upd H p o) := fun a u h n => by
    have ne : a ≠ p := ne_of_none h hp
    refine ⟨by rw [upd_ne ne]; exact h, fun q => ?_⟩
    rcases List.mem_cons.mp (show a ∈ p :: (ρ.g ++ lv ρ.c m) from q) with z | z
    · exact ne z
    · exact n z
  refine ⟨ex, ⟨r.len, r.nd, fun n a c h1 h2 => (r.cell n a c h1 h2).ext ex fun u h => by rw [upd_ne (ne_of_none h hp)]; exact h, fun a h => ?_⟩⟩
  rcases List.mem_cons.mp h with z | z
  · subst z; exact ⟨r.fresh hp, _, upd_same⟩
  · obtain ⟨h1, u, e⟩ := r.prv a z
    exact ⟨h1, u, by rw [upd_ne (ne_of_none e hp)]; exact e⟩
/-- its list grows -/
theorem grow_prv {K : PySem.W.Frag} {ρ : Rh} {m : M} {H : Hp} {p : Addr} {o : HO} (r : Rel K ρ m H) (hp : p ∈ ρ.g) : Ext (lives ρ m) H (lives ρ m) (upd H p o) ∧ Rel K ρ m (upd H p o) := by
  have ex : Ext (lives ρ m) H (lives ρ m) (upd H p o) := fun a u h n => ⟨by rw [upd_ne (fun z : a = p => n (by rw [z]; exact List.mem_append_left _ hp))]; exact h, n⟩
  refine ⟨ex, ⟨r.len, r.nd, fun n a c h1 h2 => (r.cell n a c h1 h2).ext ex fun u h => by rw [upd_ne (fun z : a = p => (r.prv p hp).1 (by rw [← z]; exact List.mem_of_getElem? h1))]; exact h, fun a h => ?_⟩⟩
  obtain ⟨h1, u, e⟩ := r.prv a h
  by_cases z : a = p
  · subst z; exact ⟨h1, _, upd_same⟩
  · exact ⟨h1, u, by rw [upd_ne z]; exact e⟩
theorem lcEnd_ok {w : Oh.W} {m : M} {ω : D → M → Prop} {Kf : Option D → M → Prop} (h : Aft ω (lcEnd w m) Kf) : ∃ d, w = .p d ∧ Kf (some d) m := by
  cases w with
  | p d => exact ⟨d, rfl, h⟩
  | c n => exact h.elim
theorem lcList_ok {ds : List D} {m : M} {ω : D → M → Prop} {Kf : Oh.W → M → Prop} (h : Aft ω (lcList ds m) Kf) : ds.length ≤ line ∧ Kf (.p (.lst ds)) m := by
  unfold lcList at h
  split at h
  · exact ⟨by assumption, h⟩
  · exact h.elim
/-- the wish without exceptions -/
abbrev W0 : WX := fun _ _ _ _ => False
theorem RepW.ext' {K : PySem.W.Frag} {ρ ρ' : Rh} {L L' : List Addr} {H H' : Hp} {v : V} {w : Oh.W} (r : RepW K ρ L H v w) (p : ρ.c <+: ρ'.c) (x : Ext L H L' H') : RepW K ρ' L' H' v w := by
  cases w with
  | p d => exact Rep.ext x r
  | c n => obtain ⟨a, h, e⟩ := r; exact ⟨a, pre_get p h, e⟩
theorem REnv.ext' {K : PySem.W.Frag} {ρ ρ' : Rh} {L L' : List Addr} {H H' : Hp} {σ : St} {s : Env} (r : REnv K ρ L H σ s) (p : ρ.c <+: ρ'.c) (x : Ext L H L' H') : REnv K ρ' L' H' σ s :=
  ⟨r.len, fun i w e => let ⟨v, h, q⟩ := r.get i w e; ⟨v, h, q.ext' p x⟩⟩
/-- the state of a comprehension: from (ρ1, m1, H1), its list at D -/
structure LcAt (K : PySem.W.Frag) (ρ1 : Rh) (m1 : M) (H1 : Hp) (D : Addr) (ρ' : Rh) (m' : M) (H' : Hp) : Prop where
  pre : ρ1.c <+: ρ'.c
  grd : ρ'.g = D :: ρ1.g
  ext : Ext (lives ρ1 m1) H1 (lives ρ' m') H'
  prv : ∀ a ∈ ρ1.g, H' a = H1 a
  rel : Rel K ρ' m' H'
theorem LcAt.later {K : PySem.W.Frag} {ρ1 ρ' ρ2 : Rh} {m1 m' m2 : M} {H1 H' H2 : Hp} {D : Addr} (a : LcAt K ρ1 m1 H1 D ρ' m' H') (l : Later ρ' m' H' ρ2 m2 H2) (r : Rel K ρ2 m2 H2) : LcAt K ρ1 m1 H1 D ρ2 m2 H2 :=
  ⟨a.pre.trans l.pre, l.grd.trans a.grd, a.ext.trans l.ext, fun b hb => (l.prv b (by rw [a.grd]; exact List.mem_cons_of_mem _ hb)).trans (a.prv b hb), r⟩
theorem LcAt.grow {K : PySem.W.Frag} {ρ1 ρ' : Rh} {m1 m' : M} {H1 H' : Hp} {D : Addr} {o : HO} (a : LcAt K ρ1 m1 H1 D ρ' m' H') (hD : D ∉ ρ1.g) : LcAt K ρ1 m1 H1 D ρ' m' (upd H' D o) := by
  have hm : D ∈ ρ'.g := by rw [a.grd]; exact List.mem_cons_self
  obtain ⟨e, r⟩ := grow_prv (o := o) a.rel hm
  exact ⟨a.pre, a.grd, a.ext.trans e, fun b hb => by rw [upd_ne (fun z : b = D => hD (by rw [← z]; exact hb))]; exact a.prv b hb, r⟩
def er (H : Hp) (D : Addr) : Hp := fun a => if a = D then none else H a
theorem er_ne {H : Hp} {D a : Addr} (h : a ≠ D) : er H D a = H a := by unfold er; rw [if_neg h]
theorem er_upd {H : Hp} {D : Addr} {o : HO} (h : H D = some o) : upd (er H D) D o = H := by
  funext a
  unfold upd er
  by_cases e : a = D
  · subst e; rw [if_pos rfl, h]
  · rw [if_neg e, if_neg e]
/-- it ends -/
theorem LcAt.done {K : PySem.W.Frag} {ρ1 ρ' : Rh} {m1 m' : M} {H1 H' : Hp} {D : Addr} (a : LcAt K ρ1 m1 H1 D ρ' m' H') (hD : D ∉ ρ1.g) : Later ρ1 m1 H1 ⟨ρ'.c, ρ1.g⟩ m' (er H' D) ∧ Rel K ⟨ρ'.c, ρ1.g⟩ m' (er H' D) ∧ Ext (lives ρ' m') H' (lives ⟨ρ'.c, ρ1.g⟩ m') (er H' D) := by
  have hm : D ∈ ρ'.g := by rw [a.grd]; exact List.mem_cons_self
  have ex : Ext (lives ρ' m') H' (lives ⟨ρ'.c, ρ1.g⟩ m') (er H' D) := fun b u h n => by
    have ne : b ≠ D := fun z => n (by rw [z]; exact List.mem_append_left _ hm)
    refine ⟨by rw [er_ne ne]; exact h, fun q => n ?_⟩
    rcases List.mem_append.mp q with z | z
    · exact List.mem_append_left _ (by rw [a.grd]; exact List.mem_cons_of_mem _ z)
    · exact List.mem_append_right _ z
  refine ⟨⟨a.pre, rfl, a.ext.trans ex, fun b hb => ?_⟩, ⟨a.rel.len, a.rel.nd, fun n b c h1 h2 => (a.rel.cell n b c h1 h2).ext ex fun u h => ?_, fun b hb => ?_⟩, ex⟩
  · rw [er_ne (fun z : b = D => hD (by rw [← z]; exact hb))]; exact a.prv b hb
  · rw [er_ne (fun z : b = D => (a.rel.prv D hm).1 (by rw [← z]; exact List.mem_of_getElem? h1))]; exact h
  · obtain ⟨h1, u, e⟩ := a.rel.prv b (by rw [a.grd]; exact List.mem_cons_of_mem _ hb)
    exact ⟨h1, u, by rw [er_ne (fun z : b = D => hD (by rw [← z]; exact hb))]; exact e⟩
theorem bind_ok' {α β : Type} {r : Res α} {f : α → M → Res β} {b : β} {m : M} (h : r.bind f = .ok b m) : ∃ a m1, r = .ok a m1 ∧ f a m1 = .ok b m := by
  cases r with
  | ok a m1 => exact ⟨a, m1, rfl, h⟩
  | exc x m1 => cases h
  | bad => cases h
theorem lcTurn_ok {ts : List Nat} {rt : Env → M → Res Bool} {re : Env → M → Res Oh.W} {s : Env} {x : D} {m m2 : M} {o : Option D} (h : lcTurn ts rt re s x m = .ok o m2) :
    ∃ s1, setT ts x s = some s1 ∧ ∃ b m3, rt s1 m = .ok b m3 ∧ ((b = true ∧ ∃ d, re s1 m3 = .ok (.p d) m2 ∧ o = some d) ∨ (b = false ∧ o = none ∧ m2 = m3)) := by
  unfold lcTurn at h
  obtain ⟨s1, m1, h1, h2⟩ := bind_ok' h
  cases e : setT ts x s with
  | none => rw [e] at h1; cases h1
  | some s1' =>
    rw [e] at h1
    cases h1
    obtain ⟨b, m3, h3, h4⟩ := bind_ok' h2
    refine ⟨s1, rfl, b, m3, h3, ?_⟩
    cases b with
    | true =>
      obtain ⟨w, m4, h5, h6⟩ := bind_ok' h4
      cases w with
      | p d => cases h6; exact .inl ⟨rfl, d, h5, rfl⟩
      | c n => cases h6
    | false => cases h4; exact .inr ⟨rfl, rfl, rfl⟩
theorem lcN_tt {ts : List Nat} {ri : Env → M → Res (List D)} {rt : Env → M → Res Bool} {re : Env → M → Res Oh.W} {σ : St} {H : Hp} {Q : VK}
    (h : tN X.K W (fun s m => (ri s m).bind fun xs m1 => (noX (lcGo (lcTurn ts rt re s) xs m1)).bind lcList) σ H Q) : tLc (tIt X.K W ri) (gOf X.K ts) (tTe X.K W0 rt) (tE X.K W0 re) ts σ H Q := by
  obtain ⟨ρ, s, m, B, k⟩ := h
  refine seq B k fun xs m1 J ρ1 H1 l1 B1 r1 k1 => ?_
  intro D hD
  have hDg := B1.rel.freshG hD
  cases q : lcGo (lcTurn ts rt re s) xs m1 with
  | bad => rw [q] at k1; exact k1.elim
  | exc x m' => rw [q] at k1; exact k1.elim
  | ok dsAll mEnd =>
    rw [q] at k1
    obtain ⟨hlen, ds', eds, kk⟩ := lcList_ok k1
    cases eds
    obtain ⟨ex0, rel0⟩ := both_prv (o := .lst []) B1.rel hD
    have at0 : LcAt X.K ρ1 m1 H1 D ⟨ρ1.c, D :: ρ1.g⟩ m1 (upd H1 D (.lst [])) := ⟨List.prefix_rfl, rfl, ex0, fun b hb => upd_ne (fun z : b = D => hDg (by rw [← z]; exact hb)), rel0⟩
    let Inv : Nat → Hp → Prop := fun i H' => ∃ ρ' m' acc ds dr, i ≤ xs.length ∧ LcAt X.K ρ1 m1 H1 D ρ' m' H' ∧ H' D = some (.lst acc) ∧ Reps X.K (lives ρ' m') H' acc ds ∧ lcGo (lcTurn ts rt re s) (xs.drop i) m' = .ok dr mEnd ∧ ds ++ dr = dsAll
    refine ⟨fun i k H' => k = xs.length - i ∧ Inv i H', ⟨xs.length, by simp, ⟨ρ1.c, D :: ρ1.g⟩, m1, [], [], dsAll, Nat.zero_le _, at0, upd_same, .nil, by simpa using q, by simp⟩, ?_⟩
    rintro i k H' ⟨rfl, ρ', m', acc, ds, dr, hi, at1, hDa, rs, hgo, happ⟩
    obtain ⟨hit, hstop⟩ := r1 ρ' m' H' at1.ext at1.rel i
    by_cases hlt : i < xs.length
    · have hx : xs[i]? = some xs[i] := List.getElem?_eq_getElem hlt
      obtain ⟨hg, hy⟩ := hit _ hx
      rw [List.drop_eq_getElem_cons hlt] at hgo
      obtain ⟨o, m2, h1, h2⟩ := bind_ok' hgo
      obtain ⟨r, m3, h3, h4⟩ := bind_ok' h2
      cases h4
      obtain ⟨s1, hs1, b, m4, hb, hcase⟩ := lcTurn_ok h1
      refine .inr ⟨hg, Inv (i + 1), fun Hn hn => ⟨xs.length - (i + 1), by omega, rfl, hn⟩, fun x H2 hyl => ?_⟩
      obtain ⟨l2, rel2, rep2⟩ := hy x H2 hyl
      have at2 := at1.later l2 rel2
      have renv : REnv X.K ρ' (lives ρ' m') H2 σ s := B1.env.ext' at2.pre at2.ext
      refine g_ok hs1 (renv.x ts).wipe rep2 fun σ2 renv2 hw => ⟨by rw [hw, wipe_wipe], ⟨ρ', s1, m', ⟨renv2, rel2⟩, ?_⟩⟩
      rw [hb]
      intro b' ρ3 H3 l3 rel3 eb
      obtain rfl := eb
      have at3 := at2.later l3 rel3
      have hm : D ∈ ρ'.g := by rw [at1.grd]; exact List.mem_cons_self
      have hD3 : H3 D = some (.lst acc) := by rw [l3.prv D hm, l2.prv D hm]; exact hDa
      rcases hcase with ⟨rfl, d, hre, rfl⟩ | ⟨rfl, rfl, rfl⟩
      · rw [if_pos rfl]
        refine ⟨ρ3, s1, m4, ⟨renv2.later l3, rel3⟩, ?_⟩
        rw [hre]
        intro y ρ4 H4 l4 rel4 rep4
        have at4 := at3.later l4 rel4
        have hm3 : D ∈ ρ3.g := by rw [at3.grd]; exact List.mem_cons_self
        have hD4 : H4 D = some (.lst acc) := by rw [l4.prv D hm3]; exact hD3
        refine ⟨acc, hD4, ?_, ρ4, m2, acc ++ [y], ds ++ [d], r, by omega, at4.grow hDg, upd_same, ?_, h3, by simpa using happ⟩
        · have e1 := rs.length
          have e2 := congrArg List.length happ
          simp only [List.length_append, List.length_cons] at e2
          refine line_lt ?_
          show acc.length < 16777216
          have : dsAll.length ≤ 16777216 := hlen
          omega
        · have rs4 : Reps X.K (lives ρ4 m2) H4 acc ds := ((rs.ext l2.ext).ext l3.ext).ext l4.ext
          have hm4 : D ∈ ρ4.g := by rw [at4.grd]; exact List.mem_cons_self
          exact (rs4.append (.cons rep4 .nil)).ext (grow_prv at4.rel hm4).1
      · rw [if_neg (by simp)]
        exact ⟨ρ3, _, acc, ds, r, by omega, at3, hD3, (rs.ext l2.ext).ext l3.ext, h3, by simpa using happ⟩
    · have hi' : i = xs.length := by omega
      subst hi'
      refine .inl ⟨hstop (Nat.le_refl _), ?_⟩
      rw [List.drop_length] at hgo
      cases hgo
      rw [List.append_nil] at happ
      subst happ
      obtain ⟨l, rl, ex⟩ := at1.done hDg
      have := kk D acc ⟨ρ'.c, ρ1.g⟩ (er H' D) (l1.trans l) rl (rs.ext ex) (by unfold er; rw [if_pos rfl])
      rw [er_upd hDa] at this
      exact this
theorem lcList_lst {ds : List D} {m m' : M} {w : Oh.W} (h : lcList ds m = .ok w m') : ∃ ds, w = .p (.lst ds) := by
  unfold lcList at h
  split at h
  · cases h; exact ⟨_, rfl⟩
  · cases h
theorem s_lcN {e : Expr} {ts : List Nat} {ri : Env → M → Res (List D)} {rt : Env → M → Res Bool} {re : Env → M → Res Oh.W}
    (hc : PE X e (tLc (tIt X.K W ri) (gOf X.K ts) (tTe X.K W0 rt) (tE X.K W0 re) ts)) :
    PE X e (tN X.K W fun s m => (ri s m).bind fun xs m1 => (noX (lcGo (lcTurn ts rt re s) xs m1)).bind lcList) := pe_m hc fun _ _ _ h => lcN_tt h
theorem s_lc {e : Expr} {ts : List Nat} {ri : Env → M → Res (List D)} {rt : Env → M → Res Bool} {re : Env → M → Res Oh.W}
    (hc : PE X e (tLc (tIt X.K W ri) (gOf X.K ts) (tTe X.K W0 rt) (tE X.K W0 re) ts)) :
    PE X e (tE X.K W fun s m => (ri s m).bind fun xs m1 => (noX (lcGo (lcTurn ts rt re s) xs m1)).bind lcList) := tN_E (s_lcN hc) fun s m w m' q => by
  obtain ⟨_, _, _, h2⟩ := bind_ok' q
  obtain ⟨_, _, _, h4⟩ := bind_ok' h2
  exact lcList_lst h4
end
end Oh

set_option Elab.async false
set_option linter.all false
set_option maxRecDepth 100000
set_option maxHeartbeats 2000000
set_option autoImplicit false
/-! OhZ: statements -/
namespace Oh
open PySem L2
variable [Lcl]
def FlOk (K : PySem.W.Frag) (W : WX) (ρ : Rh) (m : M) (H : Hp) (D : Ends) (fl : Fl) (m' : M) : Prop := match fl with
  | .nx s' => ∀ σ' ρ' H', Later ρ m H ρ' m' H' → Both K ρ' σ' s' m' H' → D.nx σ' H'
  | .bk s' => ∀ σ' ρ' H', Later ρ m H ρ' m' H' → Both K ρ' σ' s' m' H' → D.bk σ' H'
  | .ct s' => ∀ σ' ρ' H', Later ρ m H ρ' m' H' → Both K ρ' σ' s' m' H' → D.ct σ' H'
  | .rt w => ∀ v ρ' H', Later ρ m H ρ' m' H' → Rel K ρ' m' H' → RepW K ρ' (lives ρ' m') H' v w → D.rt v H'
  | .xc x s' => ∀ cls d σ' ρ' H', Later ρ m H ρ' m' H' → Both K ρ' σ' s' m' H' → XRep K (lives ρ' m') H' cls d x → W cls d σ' H'
  | .rc xs => ∀ p vs ρ' H', Later ρ m H ρ' m' H' → Rel K ρ' m' H' → Reps K (lives ρ' m') H' vs xs → H' p = none → D.rt (.ref p) (upd H' p (.lst vs))
  | .rl n => ∀ v ρ' H', Later ρ m H ρ' m' H' → Rel K ρ' m' H' → RepW K ρ' (lives ρ' m') H' v (.c n) → D.rt v H'
def AftS (K : PySem.W.Frag) (W : WX) (ρ : Rh) (m : M) (H : Hp) (D : Ends) (r : Res Fl) : Prop := match r with
  | .ok fl m' => FlOk K W ρ m H D fl m'
  | _ => False
def tS (K : PySem.W.Frag) (W : WX) (r : Env → M → Res Fl) : TS := fun D σ H => ∃ ρ s m, Both K ρ σ s m H ∧ AftS K W ρ m H D (r s m)
section
variable {K : PySem.W.Frag} {W : WX} {ρ : Rh} {σ : St} {s : Env} {m : M} {H : Hp} {D : Ends}
theorem FlOk.later {ρ1 : Rh} {m1 m' : M} {H1 : Hp} {fl : Fl} (h : FlOk K W ρ m H D fl m') (l : Later ρ m H ρ1 m1 H1) : FlOk K W ρ1 m1 H1 D fl m' := by
  cases fl with
  | nx s => exact fun σ' ρ' H' l' B => h σ' ρ' H' (l.trans l') B
  | bk s => exact fun σ' ρ' H' l' B => h σ' ρ' H' (l.trans l') B
  | ct s => exact fun σ' ρ' H' l' B => h σ' ρ' H' (l.trans l') B
  | rt w => exact fun v ρ' H' l' r q => h v ρ' H' (l.trans l') r q
  | xc x s => exact fun c d σ' ρ' H' l' B q => h c d σ' ρ' H' (l.trans l') B q
  | rc xs => exact fun p vs ρ' H' l' r q e => h p vs ρ' H' (l.trans l') r q e
  | rl n => exact fun v ρ' H' l' r q => h v ρ' H' (l.trans l') r q
theorem AftS.later {ρ1 : Rh} {m1 : M} {H1 : Hp} {r : Res Fl} (h : AftS K W ρ m H D r) (l : Later ρ m H ρ1 m1 H1) : AftS K W ρ1 m1 H1 D r := by
  cases r with
  | ok fl m' => exact FlOk.later h l
  | exc x m' => exact h
  | bad => exact h
/-- an expression in a statement -/
theorem seqS {α β : Type} {R : Rh → M → Hp → β → α → Prop} {r : Env → M → Res α} {f : α → M → Res Fl} {Q : β → Hp → Prop} (B : Both K ρ σ s m H) (h : AftS K W ρ m H D ((r s m).bindS s f))
    (k : ∀ a m1 b ρ1 H1, Later ρ m H ρ1 m1 H1 → Both K ρ1 σ s m1 H1 → R ρ1 m1 H1 b a → AftS K W ρ1 m1 H1 D (f a m1) → Q b H1) : tG K W R r σ H Q := by
  refine ⟨ρ, s, m, B, ?_⟩
  cases q : r s m with
  | bad => rw [q] at h; exact h
  | exc x m' => rw [q] at h; exact fun cls d ρ' H' l rr xr => h cls d σ ρ' H' l (B.later l rr) xr
  | ok a m1 => rw [q] at h; exact fun b ρ1 H1 l r1 p => k a m1 b ρ1 H1 l (B.later l r1) p (AftS.later h l)
theorem seqN {r : Env → M → Res Oh.W} {f : Oh.W → M → Res Fl} {Q : VK} (B : Both K ρ σ s m H) (h : AftS K W ρ m H D ((r s m).bindS s f)) (hr : ∀ w m', r s m = .ok w m' → ∃ ds, w = .p (.lst ds))
    (k : ∀ ds m1 p vs ρ1 H1, Later ρ m H ρ1 m1 H1 → Both K ρ1 σ s m1 H1 → Reps K (lives ρ1 m1) H1 vs ds → H1 p = none → AftS K W ρ1 m1 H1 D (f (.p (.lst ds)) m1) → Q (.ref p) (upd H1 p (.lst vs))) : tN K W r σ H Q := by
  refine ⟨ρ, s, m, B, ?_⟩
  cases q : r s m with
  | bad => rw [q] at h; exact h
  | exc x m' => rw [q] at h; exact fun cls d ρ' H' l rr xr => h cls d σ ρ' H' l (B.later l rr) xr
  | ok a m1 =>
    rw [q] at h
    obtain ⟨ds, rfl⟩ := hr a m1 q
    exact ⟨ds, rfl, fun p vs ρ1 H1 l r1 rs hp => k ds m1 p vs ρ1 H1 l (B.later l r1) rs hp (AftS.later h l)⟩
theorem ofO_S {α : Type} {o : Option α} {f : α → M → Res Fl} (h : AftS K W ρ m H D ((ofO o m).bindS s f)) : ∃ a, o = some a ∧ AftS K W ρ m H D (f a m) := by
  cases o with
  | none => exact h.elim
  | some a => exact ⟨a, rfl, h⟩
theorem test_S {w : Oh.W} {f : Bool → M → Res Fl} (h : AftS K W ρ m H D ((test w m).bindS s f)) : ∃ b, w = .p (.bl b) ∧ AftS K W ρ m H D (f b m) := by
  unfold test at h
  split at h
  · exact ⟨_, rfl, h⟩
  · exact h.elim
end
section
variable {X : Cx} {W : WX}
theorem s_snever {st : Stmt} : PS X st (tS X.K W fun _ _ => .bad) := ⟨fun _ _ _ _ _ _ ⟨_, _, _, _, k⟩ => k.elim⟩
theorem s_expr {e : Expr} {pos : Pos} {ra : Env → M → Res Oh.W} (h : PE X e (tE X.K W ra)) (hs : swapsWith e none pos.line X.env = pure false) : PS X (.Expr e pos) (tS X.K W fun s m => (ra s m).bindS s fun _ m1 => .ok (.nx s) m1) :=
  ps_m (ps_expr h hs) fun D σ H ⟨ρ, s, m, B, k⟩ => seqS B k fun w m1 x ρ1 H1 l1 B1 r1 k1 => k1 σ ρ1 H1 (Later.refl ..) B1
theorem s_set {x : Str} {i : Nat} {e : Expr} {pos pos' : Pos} {ra : Env → M → Res Oh.W} (h : PS X (.Assign [.Name x pos'] e pos) (tAsg (tE X.K W ra) (gName i))) : PS X (.Assign [.Name x pos'] e pos) (tS X.K W fun s m => (ra s m).bindS s fun w m1 => .ok (.nx (s.set i (some w))) m1) :=
  ps_m h fun D σ H ⟨ρ, s, m, B, k⟩ => seqS B k fun w m1 x ρ1 H1 l1 B1 r1 k1 => k1 _ ρ1 H1 (Later.refl ..) ⟨B1.env.set r1 i, B1.rel⟩
theorem s_ret {e : Expr} {pos : Pos} {ra : Env → M → Res Oh.W} (h : PE X e (tE X.K W ra)) : PS X (.Return (some e) pos) (tS X.K W fun s m => (ra s m).bindS s fun w m1 => .ok (.rt w) m1) :=
  ps_m (ps_ret h) fun D σ H ⟨ρ, s, m, B, k⟩ => seqS B k fun w m1 x ρ1 H1 l1 B1 r1 k1 => k1 x ρ1 H1 (Later.refl ..) B1.rel r1
theorem s_retc {e : Expr} {pos : Pos} {ra : Env → M → Res Oh.W} (h : PE X e (tN X.K W ra)) (hr : ∀ s m w m', ra s m = .ok w m' → ∃ ds, w = .p (.lst ds)) : PS X (.Return (some e) pos) (tS X.K W fun s m => (ra s m).bindS s fun w m1 => retCell w m1) :=
  ps_m (ps_ret h) fun D σ H ⟨ρ, s, m, B, k⟩ => seqN B k (hr s m) fun ds m1 p vs ρ1 H1 l1 B1 rs hp k1 => k1 p vs ρ1 H1 (Later.refl ..) B1.rel rs hp
theorem s_retl {e : Expr} {pos : Pos} {i : Nat} {ra : Env → M → Res Oh.W} (h : PE X e (tE X.K W ra)) (hra : ∀ s m n, s[i]? = some (some (.c n)) → ra s m = .ok (.c n) m) : PS X (.Return (some e) pos) (tS X.K W fun s m => retlR s[i]? m) :=
  ps_m (ps_ret h) fun D σ H ⟨ρ, s, m, B, k⟩ => by
    refine ⟨ρ, s, m, B, ?_⟩
    change AftS _ _ _ _ _ _ (retlR s[i]? m) at k
    unfold retlR at k
    split at k
    · rename_i n hs
      split at k
      · rw [hra s m n hs]
        exact k
      · exact k.elim
    · exact k.elim
theorem s_pass {pos : Pos} : PS X (.Pass pos) (tS X.K W fun s m => .ok (.nx s) m) := ps_m ps_pass fun D σ H ⟨ρ, s, m, B, k⟩ => k σ ρ H (Later.refl ..) B
theorem s_brk {pos : Pos} : PS X (.Break pos) (tS X.K W fun s m => .ok (.bk s) m) := ps_m ps_break fun D σ H ⟨ρ, s, m, B, k⟩ => k σ ρ H (Later.refl ..) B
theorem s_cont {pos : Pos} : PS X (.Continue pos) (tS X.K W fun s m => .ok (.ct s) m) := ps_m ps_continue fun D σ H ⟨ρ, s, m, B, k⟩ => k σ ρ H (Later.refl ..) B
theorem s_par {st : Stmt} {i j : Nat} {rs : Env → M → Res (List Oh.W)} {ra rb : Env → M → Res Oh.W} (h : PS X st (tPar i j (tAr X.K W rs))) (he : ∀ s m, rs s m = (ra s m).bind fun w m1 => (rb s m1).bind fun w2 m2 => .ok [w, w2] m2) :
    PS X st (tS X.K W fun s m => (ra s m).bindS s fun w m1 => (rb s m1).bindS s fun w2 m2 => .ok (.nx ((s.set i (some w)).set j (some w2))) m2) := ps_m h fun D σ H ⟨ρ, s, m, B, k⟩ => by
  have k : AftS X.K W ρ m H D ((rs s m).bindS s fun ws m2 => match ws with | [w, w2] => .ok (.nx ((s.set i (some w)).set j (some w2))) m2 | _ => .bad) := by
    rw [he]
    simp only [] at k
    cases q : ra s m with
    | bad => rw [q] at k; exact k
    | exc x m' => rw [q] at k; exact k
    | ok w m1 =>
      rw [q] at k
      simp only [Res.bindS_ok, Res.bind_ok] at k ⊢
      cases q2 : rb s m1 with
      | bad => rw [q2] at k; exact k
      | exc x m' => rw [q2] at k; exact k
      | ok w2 m2 => rw [q2] at k; exact k
  refine seqS B k fun ws m1 xs ρ1 H1 l1 B1 r1 k1 => ?_
  cases r1 with
  | nil => exact k1.elim
  | @cons v vs w ws r1 t =>
    cases t with
    | nil => exact k1.elim
    | @cons v2 vs w2 ws r2 t =>
      cases t with
      | cons _ _ => exact k1.elim
      | nil => exact ⟨_, _, rfl, k1 _ ρ1 H1 (Later.refl ..) ⟨(B1.env.set r1 i).set r2 j, B1.rel⟩⟩
theorem s_par3 {st : Stmt} {i j l : Nat} {rs : Env → M → Res (List Oh.W)} {ra rb rc : Env → M → Res Oh.W} (h : PS X st (tPar3 i j l (tAr X.K W rs))) (he : ∀ s m, rs s m = (ra s m).bind fun w m1 => (rb s m1).bind fun w2 m2 => (rc s m2).bind fun w3 m3 => .ok [w, w2, w3] m3) :
    PS X st (tS X.K W fun s m => (ra s m).bindS s fun w m1 => (rb s m1).bindS s fun w2 m2 => (rc s m2).bindS s fun w3 m3 => .ok (.nx (((s.set i (some w)).set j (some w2)).set l (some w3))) m3) := ps_m h fun D σ H ⟨ρ, s, m, B, k⟩ => by
  have k : AftS X.K W ρ m H D ((rs s m).bindS s fun ws m2 => match ws with | [w, w2, w3] => .ok (.nx (((s.set i (some w)).set j (some w2)).set l (some w3))) m2 | _ => .bad) := by
    rw [he]
    simp only [] at k
    cases q : ra s m with
    | bad => rw [q] at k; exact k
    | exc x m' => rw [q] at k; exact k
    | ok w m1 =>
      rw [q] at k
      simp only [Res.bindS_ok, Res.bind_ok] at k ⊢
      cases q2 : rb s m1 with
      | bad => rw [q2] at k; exact k
      | exc x m' => rw [q2] at k; exact k
      | ok w2 m2 =>
        rw [q2] at k
        simp only [Res.bindS_ok, Res.bind_ok] at k ⊢
        cases q3 : rc s m2 with
        | bad => rw [q3] at k; exact k
        | exc x m' => rw [q3] at k; exact k
        | ok w3 m3 => rw [q3] at k; exact k
  refine seqS B k fun ws m1 xs ρ1 H1 l1 B1 r1 k1 => ?_
  cases r1 with
  | nil => exact k1.elim
  | @cons v vs w ws r1 t =>
    cases t with
    | nil => exact k1.elim
    | @cons v2 vs w2 ws r2 t =>
      cases t with
      | nil => exact k1.elim
      | @cons v3 vs w3 ws r3 t =>
        cases t with
        | nil => exact ⟨v, v2, v3, rfl, k1 _ ρ1 H1 (Later.refl ..) ⟨((B1.env.set r1 i).set r2 j).set r3 l, B1.rel⟩⟩
        | cons _ _ => exact k1.elim
theorem s_if {c : Expr} {a b : List Stmt} {pos : Pos} {rc : Env → M → Res Bool} {ra rb : Env → M → Res Fl} (hc : PT X c (tTe X.K W rc)) (ha : PSs X a (tS X.K W ra)) (hb : PSs X b (tS X.K W rb)) :
    PS X (.If c a b pos) (tS X.K W fun s m => (rc s m).bindS s fun t m2 => match t with | true => ra s m2 | false => rb s m2) := ps_m (ps_if hc ha hb) fun D σ H ⟨ρ, s, m, B, k⟩ => by
  refine seqS B k fun t m1 x ρ1 H1 l1 B1 r1 k1 => ?_
  obtain rfl := r1
  cases x with
  | true => exact ⟨ρ1, s, m1, B1, k1⟩
  | false => exact ⟨ρ1, s, m1, B1, k1⟩
theorem s_snil : PSs X [] (tS X.K W fun s m => .ok (.nx s) m) := pss_m pss_nil fun D σ H ⟨ρ, s, m, B, k⟩ => k σ ρ H (Later.refl ..) B
theorem s_scons {st : Stmt} {rest : List Stmt} {ra rb : Env → M → Res Fl} (ha : PS X st (tS X.K W ra)) (hb : PSs X rest (tS X.K W rb)) :
    PSs X (st :: rest) (tS X.K W fun s m => (ra s m).bind fun fl m1 => match fl with | .nx s1 => rb s1 m1 | fl => .ok fl m1) := pss_m (pss_cons ha hb) fun D σ H ⟨ρ, s, m, B, k⟩ => by
  refine ⟨ρ, s, m, B, ?_⟩
  simp only [] at k
  cases q : ra s m with
  | bad => rw [q] at k; exact k
  | exc x m' => rw [q] at k; exact k
  | ok fl m1 =>
    rw [q] at k
    cases fl with
    | nx s1 => exact fun σ' ρ' H' l B' => ⟨ρ', s1, m1, B', AftS.later k l⟩
    | bk s => exact k
    | ct s => exact k
    | rt w => exact k
    | xc x s => exact k
    | rc xs => exact k
    | rl n => exact k
/-! ### loops -/
theorem s_for {st : Stmt} {ts : List Nat} {ri : Env → M → Res (List D)} {rb : Env → M → Res Fl} (h : PS X st (tFor (tIt X.K W ri) (gOf X.K ts) (tS X.K W rb))) :
    PS X st (tS X.K W fun s m => (ri s m).bindS s fun xs m1 => forGo (fun x s m => (ofO (setT ts x s) m).bindS s fun s1 m => rb s1 m) xs s m1) := ps_m h fun D σ H ⟨ρ, s, m, B, k⟩ => by
  refine seqS B k fun xs m1 J ρ1 H1 l1 B1 r1 k1 => ?_
  let Inv : Nat → St → Hp → Prop := fun i σ' H' => ∃ ρ' s' m', i ≤ xs.length ∧ Later ρ1 m1 H1 ρ' m' H' ∧ Both X.K ρ' σ' s' m' H' ∧ AftS X.K W ρ' m' H' D (forGo (fun x s m => (ofO (setT ts x s) m).bindS s fun s1 m => rb s1 m) (xs.drop i) s' m')
  refine ⟨fun i k σ' H' => k = xs.length - i ∧ Inv i σ' H', ⟨xs.length, by simp, ρ1, s, m1, Nat.zero_le _, Later.refl .., B1, by simpa using k1⟩, ?_⟩
  rintro i k σ' H' ⟨rfl, ρ', s', m', hi, l', B', k'⟩
  obtain ⟨hit, hstop⟩ := r1 ρ' m' H' l'.ext B'.rel i
  by_cases hlt : i < xs.length
  · have hx : xs[i]? = some xs[i] := List.getElem?_eq_getElem hlt
    obtain ⟨hg, hy⟩ := hit _ hx
    rw [List.drop_eq_getElem_cons hlt] at k'
    refine .inr ⟨hg, Inv (i + 1), fun σn Hn hn => ⟨xs.length - (i + 1), by omega, rfl, hn⟩, fun x H2 hyl => ?_⟩
    obtain ⟨l2, rel2, rep2⟩ := hy x H2 hyl
    have B2 := B'.later l2 rel2
    unfold forGo at k'
    cases e : setT ts xs[i] s' with
    | none => rw [e] at k'; exact k'.elim
    | some s1 =>
      rw [e] at k'
      simp only [ofO_some, Res.bindS_ok] at k'
      refine g_ok e (B2.env.x ts) rep2 fun σ2 renv2 _ => ⟨ρ', s1, m', ⟨renv2, rel2⟩, ?_⟩
      have k' := AftS.later k' l2
      cases q : rb s1 m' with
      | bad => rw [q] at k'; exact k'
      | exc x m' => rw [q] at k'; exact k'
      | ok fl m2 =>
        rw [q] at k'
        cases fl with
        | nx s2 => exact fun σ3 ρ3 H3 l3 B3 => ⟨ρ3, s2, m2, by omega, (l'.trans l2).trans l3, B3, AftS.later k' l3⟩
        | ct s2 => exact fun σ3 ρ3 H3 l3 B3 => ⟨ρ3, s2, m2, by omega, (l'.trans l2).trans l3, B3, AftS.later k' l3⟩
        | bk s2 => exact k'
        | rt w => exact k'
        | xc x s => exact k'
        | rc xs => exact k'
        | rl n => exact k'
  · have hi' : i = xs.length := by omega
    subst hi'
    rw [List.drop_length] at k'
    exact .inl ⟨hstop (Nat.le_refl _), k' σ' ρ' H' (Later.refl ..) B'⟩
theorem s_while {st : Stmt} {rc : Env → M → Res Bool} {rb : Env → M → Res Fl} (N : Nat) (h : PS X st (tWhile (tTe X.K W rc) (tS X.K W rb))) :
    PS X st (tS X.K W fun s m => whileGo rc rb N s m) := ps_m h fun D σ H ⟨ρ, s, m, B, k⟩ => by
  refine ⟨fun n σ' H' => ∃ ρ' s' m', Both X.K ρ' σ' s' m' H' ∧ AftS X.K W ρ' m' H' D (whileGo rc rb n s' m'), ⟨N, ρ, s, m, B, k⟩, ?_⟩
  rintro n σ' H' ⟨ρ', s', m', B', k'⟩
  cases n with
  | zero => exact k'.elim
  | succ n =>
    unfold whileGo at k'
    refine seqS B' k' fun t m1 x ρ1 H1 l1 B1 r1 k1 => ?_
    obtain rfl := r1
    cases x with
    | false => exact k1 σ' ρ1 H1 (Later.refl ..) B1
    | true =>
      refine ⟨fun σn Hn => ∃ ρ' s' m', Both X.K ρ' σn s' m' Hn ∧ AftS X.K W ρ' m' Hn D (whileGo rc rb n s' m'), fun σn Hn hn => ⟨n, Nat.lt_succ_self _, hn⟩, ρ1, s', m1, B1, ?_⟩
      simp only [] at k1
      cases q : rb s' m1 with
      | bad => rw [q] at k1; exact k1
      | exc x m' => rw [q] at k1; exact k1
      | ok fl m2 =>
        rw [q] at k1
        cases fl with
        | nx s2 => exact fun σ3 ρ3 H3 l3 B3 => ⟨ρ3, s2, m2, B3, AftS.later k1 l3⟩
        | ct s2 => exact fun σ3 ρ3 H3 l3 B3 => ⟨ρ3, s2, m2, B3, AftS.later k1 l3⟩
        | bk s2 => exact k1
        | rt w => exact k1
        | xc x s => exact k1
        | rc xs => exact k1
        | rl n => exact k1
/-! ### cells -/
theorem lv_app {c : List Addr} {m : M} {p : Addr} {x : C} (hl : c.length = m.length) {a : Addr} (h : a ∈ lv (c ++ [p]) (m ++ [x])) : a ∈ lv c m ∨ a = p := by
  obtain ⟨n, y, h1, h2, h3⟩ := lv_get.mp h
  by_cases hn : n < c.length
  · rw [List.getElem?_append_left hn] at h1
    rw [List.getElem?_append_left (by omega)] at h2
    exact .inl (lv_get.mpr ⟨n, y, h1, h2, h3⟩)
  · rw [List.getElem?_append_right (by omega)] at h1
    have : n - c.length = 0 := by
      by_cases z : n - c.length = 0
      · exact z
      · rw [List.getElem?_eq_none (by simp; omega)] at h1; cases h1
    rw [this] at h1
    simp at h1
    exact .inr h1.symm
/-- a new cell -/
theorem new_cellC {K : PySem.W.Frag} {ρ : Rh} {m : M} {H : Hp} {p : Addr} {o : HO} {cc : C} (r : Rel K ρ m H) (hp : H p = none) (rep : ∀ L' H', Ext (lives ρ m) H L' H' → H' p = some o → CRep K ρ.c L' H' p cc) :
    Later ρ m H ⟨ρ.c ++ [p], ρ.g⟩ (m ++ [cc]) (upd H p o) ∧ Rel K ⟨ρ.c ++ [p], ρ.g⟩ (m ++ [cc]) (upd H p o) := by
  have ex : Ext (lives ρ m) H (lives ⟨ρ.c ++ [p], ρ.g⟩ (m ++ [cc])) (upd H p o) := fun a u h n => by
    have ne : a ≠ p := ne_of_none h hp
    refine ⟨by rw [upd_ne ne]; exact h, fun q => ?_⟩
    rcases List.mem_append.mp q with z | z
    · exact n (List.mem_append_left _ z)
    · rcases lv_app r.len z with z | z
      · exact n (List.mem_append_right _ z)
      · exact ne z
  refine ⟨⟨List.prefix_append _ _, rfl, ex, fun a h => ?_⟩, ⟨by simp [r.len], ?_, fun n a c h1 h2 => ?_, fun a h => ?_⟩⟩
  · obtain ⟨_, u, e⟩ := r.prv a h
    rw [upd_ne (ne_of_none e hp)]
  · rw [List.nodup_append]
    refine ⟨r.nd, by simp, fun a ha b hb e => ?_⟩
    rw [List.mem_singleton] at hb
    subst hb; subst e
    exact r.fresh hp ha
  · by_cases hn : n < ρ.c.length
    · rw [List.getElem?_append_left hn] at h1
      rw [List.getElem?_append_left (by rw [← r.len]; exact hn)] at h2
      rw [show (ρ.c ++ [p]).take n = ρ.c.take n from List.take_append_of_le_length (Nat.le_of_lt hn)]
      exact (r.cell n a c h1 h2).ext ex fun u h => by rw [upd_ne (ne_of_none h hp)]; exact h
    · have hnn : n = ρ.c.length := by
        have := (List.getElem?_eq_some_iff.mp h1).1
        simp at this
        omega
      subst hnn
      rw [List.getElem?_append_right (Nat.le_refl _)] at h1
      rw [r.len, List.getElem?_append_right (Nat.le_refl _)] at h2
      simp at h1 h2
      subst h1; subst h2
      rw [show (ρ.c ++ [p]).take ρ.c.length = ρ.c from by simp]
      exact rep _ _ ex upd_same
  · obtain ⟨h1, u, e⟩ := r.prv a h
    refine ⟨fun q => ?_, u, by rw [upd_ne (ne_of_none e hp)]; exact e⟩
    rcases List.mem_append.mp q with z | z
    · exact h1 z
    · rw [List.mem_singleton] at z; subst z; rw [hp] at e; cases e
theorem new_cell {K : PySem.W.Frag} {ρ : Rh} {m : M} {H : Hp} {p : Addr} {vs : List V} {ds : List D} (r : Rel K ρ m H) (hp : H p = none) (rs : Reps K (lives ρ m) H vs ds) :
    Later ρ m H ⟨ρ.c ++ [p], ρ.g⟩ (m ++ [.lst ds]) (upd H p (.lst vs)) ∧ Rel K ⟨ρ.c ++ [p], ρ.g⟩ (m ++ [.lst ds]) (upd H p (.lst vs)) :=
  new_cellC r hp fun _ _ x h => ⟨vs, h, rs.ext x⟩
theorem s_setc {st : Stmt} {i : Nat} {ra : Env → M → Res Oh.W} (h : PS X st (tAsg (tN X.K W ra) (gName i))) (hr : ∀ s m w m', ra s m = .ok w m' → ∃ ds, w = .p (.lst ds)) : PS X st (tS X.K W fun s m => (ra s m).bindS s fun w m1 => newCell i w s m1) :=
  ps_m h fun D σ H ⟨ρ, s, m, B, k⟩ => seqN B k (hr s m) fun ds m1 p vs ρ1 H1 l1 B1 rs hp k1 => by
    obtain ⟨l2, r2⟩ := new_cell B1.rel hp rs
    refine k1 _ _ _ l2 ⟨(B1.env.later l2).set (w := .c m1.length) ⟨p, ?_, rfl⟩ i, r2⟩
    show (ρ1.c ++ [p])[m1.length]? = some p
    rw [← B1.rel.len, List.getElem?_append_right (Nat.le_refl _)]
    simp
/-- a cell is written -/
theorem put_cellC {K : PySem.W.Frag} {ρ : Rh} {m : M} {H : Hp} {n : Nat} {p : Addr} {o : HO} {c0 cc : C} (r : Rel K ρ m H) (hp : ρ.c[n]? = some p) (hm : m[n]? = some c0) (h0 : liveL c0 = true) (h9 : liveL cc = true) (rep : ∀ L' H', Ext (lives ρ m) H L' H' → H' p = some o → CRep K (ρ.c.take n) L' H' p cc) :
    Later ρ m H ρ (m.set n cc) (upd H p o) ∧ Rel K ρ (m.set n cc) (upd H p o) := by
  have hlt : n < m.length := (List.getElem?_eq_some_iff.mp hm).1
  have same : ∀ a, a ∈ lives ρ (m.set n cc) ↔ a ∈ lives ρ m := fun a => by
    unfold lives
    rw [List.mem_append, List.mem_append, lv_get, lv_get]
    refine or_congr Iff.rfl ⟨fun ⟨j, c, h1, h2, h3⟩ => ?_, fun ⟨j, c, h1, h2, h3⟩ => ?_⟩
    · by_cases e : n = j
      · subst e; exact ⟨n, c0, h1, hm, h0⟩
      · rw [List.getElem?_set_ne e] at h2; exact ⟨j, c, h1, h2, h3⟩
    · by_cases e : n = j
      · subst e; exact ⟨n, cc, h1, List.getElem?_set_self hlt, h9⟩
      · exact ⟨j, c, h1, by rw [List.getElem?_set_ne e]; exact h2, h3⟩
  have live : p ∈ lives ρ m := List.mem_append_right _ (lv_get.mpr ⟨n, c0, hp, hm, h0⟩)
  have ex : Ext (lives ρ m) H (lives ρ (m.set n cc)) (upd H p o) := fun a u h nl => ⟨by rw [upd_ne (fun z : a = p => nl (by rw [z]; exact live))]; exact h, fun q => nl ((same a).mp q)⟩
  have npg : ∀ a ∈ ρ.g, a ≠ p := fun a h z => (r.prv a h).1 (by rw [z]; exact List.mem_of_getElem? hp)
  refine ⟨⟨List.prefix_rfl, rfl, ex, fun a h => upd_ne (npg a h)⟩, ⟨by simp [r.len], r.nd, fun j a c h1 h2 => ?_, fun a h => ?_⟩⟩
  · by_cases e : n = j
    · subst e
      rw [hp] at h1; cases h1
      rw [List.getElem?_set_self hlt] at h2; cases h2
      exact rep _ _ ex upd_same
    · rw [List.getElem?_set_ne e] at h2
      refine (r.cell j a c h1 h2).ext ex fun u h => ?_
      rw [upd_ne (fun z : a = p => e ?_)]
      · exact h
      · rw [z] at h1
        obtain ⟨l1, e1⟩ := List.getElem?_eq_some_iff.mp hp
        obtain ⟨l2, e2⟩ := List.getElem?_eq_some_iff.mp h1
        exact (List.getElem_inj r.nd).mp (e1.trans e2.symm)
  · obtain ⟨h1, u, e⟩ := r.prv a h
    exact ⟨h1, u, by rw [upd_ne (npg a h)]; exact e⟩
theorem put_cell {K : PySem.W.Frag} {ρ : Rh} {m : M} {H : Hp} {n : Nat} {p : Addr} {xs ds : List D} {vs : List V} (r : Rel K ρ m H) (hp : ρ.c[n]? = some p) (hm : m[n]? = some (.lst xs)) (rs : Reps K (lives ρ m) H vs ds) :
    Later ρ m H ρ (m.set n (.lst ds)) (upd H p (.lst vs)) ∧ Rel K ρ (m.set n (.lst ds)) (upd H p (.lst vs)) :=
  put_cellC r hp hm rfl rfl fun _ _ x h => ⟨vs, h, rs.ext x⟩
def rSetA : V → V → V → Hp → (Hp → Prop) → Prop := fun o i v H Q => rSetL o i v H Q ∨ rSetD o i v H Q
theorem set_any2 (hu : X.A.units + 1 < cLine) : PSet X rSetA := fun pins s σ H o i v ov iv u Q I ro ri rv h => h.elim (set_list pins s σ H o i v ov iv u Q I ro ri rv) (set_dict hu pins s σ H o i v ov iv u Q I ro ri rv)
/-- x = {} -/
theorem s_setd {st : Stmt} {i : Nat} (h : PS X st (tAsg tDNewK (gName i))) : PS X st (tS X.K W fun s m => newCell i (.p (.dct [])) s m) :=
  ps_m h fun D σ H ⟨ρ, s, m, B, k⟩ => fun p hp => by
    obtain ⟨l2, r2⟩ := new_cellC (cc := .dct []) (o := .dK []) B.rel hp fun _ _ _ h => ⟨[], h, .nil⟩
    refine k _ _ _ l2 ⟨(B.env.later l2).set (w := .c m.length) ⟨p, ?_, rfl⟩ i, r2⟩
    show (ρ.c ++ [p])[m.length]? = some p
    rw [← B.rel.len, List.getElem?_append_right (Nat.le_refl _)]
    simp
theorem s_sub {st : Stmt} {rv ro rk : Env → M → Res Oh.W} (h : PS X st (tAsg (tE X.K W rv) (gSub (tE X.K W ro) (tE X.K W rk) rSetA))) :
    PS X st (tS X.K W fun s m => (rv s m).bindS s fun v m1 => (ro s m1).bindS s fun o m2 => (rk s m2).bindS s fun k m3 => (subCell o k v m3).bindS s fun _ m4 => .ok (.nx s) m4) := ps_m h fun D σ H ⟨ρ, s, m, B, k⟩ => by
  refine seqS B k fun v m1 x ρ1 H1 l1 B1 r1 k1 => ?_
  refine seqS B1 k1 fun o m2 y ρ2 H2 l2 B2 r2 k2 => ?_
  refine seqS B2 k2 fun kk m3 z ρ3 H3 l3 B3 r3 k3 => ?_
  unfold subCell at k3
  split at k3
  · rename_i n i d
    cases q : m3[n]? with
    | none => simp only [q] at k3; exact k3.elim
    | some c =>
      simp only [q] at k3
      cases c with
      | lst xs =>
        simp only [] at k3
        cases q2 : Oh.ixN xs.length i with
        | none => simp only [q2] at k3; exact k3.elim
        | some j =>
          simp only [q2] at k3
          obtain ⟨p, e1, rfl⟩ := r2
          have e1 := pre_get l3.pre e1
          obtain ⟨vs, hv, rs⟩ := B3.rel.cell n p _ e1 q
          cases r3
          have rx := ((r1.later l2).later l3)
          obtain ⟨l4, r4⟩ := put_cell B3.rel e1 q (rs.set rx j)
          exact .inl ⟨p, vs, i, j, rfl, rfl, hv, by rw [rs.length]; exact q2, k3 σ ρ3 _ l4 (B3.later l4 r4)⟩
      | dead => exact k3.elim
      | dct _ => exact k3.elim
      | ins _ _ => exact k3.elim
      | tab _ => exact k3.elim
      | lams _ => exact k3.elim
      | wl _ => exact k3.elim
  · rename_i n i d
    cases q : m3[n]? with
    | none => simp only [q] at k3; exact k3.elim
    | some c =>
      simp only [q] at k3
      cases c with
      | dct xs =>
        simp only [] at k3
        split at k3
        · rename_i hlen
          obtain ⟨p, e1, rfl⟩ := r2
          have e1 := pre_get l3.pre e1
          obtain ⟨vs, hv, rs⟩ := B3.rel.cell n p _ e1 q
          cases r3 with
          | str _ ok =>
            have rx := ((r1.later l2).later l3)
            obtain ⟨l4, r4⟩ := put_cellC (cc := .dct (putD i d xs)) (o := .dK (putK vs (.inr (mkS i)) x)) B3.rel e1 q rfl rfl fun _ _ y h => ⟨_, h, (rs.put ok rx).ext y⟩
            exact .inr ⟨p, _, rfl, DPut.k (k := .inr (mkS i)) hv (by rw [rs.length]; exact line_lt hlen), k3 σ ρ3 _ l4 (B3.later l4 r4)⟩
        · exact k3.elim
      | dead => exact k3.elim
      | lst _ => exact k3.elim
      | ins _ _ => exact k3.elim
      | tab _ => exact k3.elim
      | lams _ => exact k3.elim
      | wl _ => exact k3.elim
  · exact k3.elim
theorem s_app {st : Stmt} {ro re : Env → M → Res Oh.W} (h : PS X st (tDrop (tBM X.K "list" rAppend (tE X.K W ro) (tCons (tE X.K W re) tNil)))) :
    PS X st (tS X.K W fun s m => (ro s m).bindS s fun o m1 => (isCell o m1).bindS s fun _ m1 => (re s m1).bindS s fun v m2 => (appCell o v m2).bindS s fun _ m3 => .ok (.nx s) m3) := ps_m h fun D σ H ⟨ρ, s, m, B, k⟩ => by
  refine seqS B k fun o m1 y ρ1 H1 l1 B1 r1 k1 => ?_
  unfold isCell at k1
  split at k1
  · rename_i n
    cases q : m1[n]? with
    | none => simp only [q] at k1; exact k1.elim
    | some c =>
      simp only [q] at k1
      cases c with
      | lst xs =>
        simp only [Res.bindS_ok] at k1
        obtain ⟨p, e1, rfl⟩ := r1
        obtain ⟨vs, hv, rs⟩ := B1.rel.cell n p _ e1 q
        refine ⟨.inl ⟨rfl, vs, SqL.of hv⟩, seqS B1 k1 fun v m2 x ρ2 H2 l2 B2 r2 k2 => ?_⟩
        unfold appCell at k2
        split at k2
        · rename_i n' d e2
          cases e2
          cases q2 : m2[n]? with
          | none => simp only [q2] at k2; exact k2.elim
          | some c2 =>
            simp only [q2] at k2
            cases c2 with
            | lst ys =>
              simp only [] at k2
              split at k2
              · rename_i hl
                have e2 := pre_get l2.pre e1
                obtain ⟨vs2, hv2, rs2⟩ := B2.rel.cell n p _ e2 q2
                obtain ⟨l3, r3⟩ := put_cell B2.rel e2 q2 (rs2.append (.cons r2 .nil))
                exact ⟨p, vs2, x, rfl, rfl, hv2, by rw [rs2.length]; exact line_lt hl, k2 σ ρ2 _ l3 (B2.later l3 r3)⟩
              · exact k2.elim
            | dead => exact k2.elim
            | dct _ => exact k2.elim
            | ins _ _ => exact k2.elim
            | tab _ => exact k2.elim
            | lams _ => exact k2.elim
            | wl _ => exact k2.elim
        · exact k2.elim
      | dead => exact k1.elim
      | dct _ => exact k1.elim
      | ins _ _ => exact k1.elim
      | tab _ => exact k1.elim
      | lams _ => exact k1.elim
      | wl _ => exact k1.elim
  · exact k1.elim
theorem s_ext {st : Stmt} {ro re : Env → M → Res Oh.W} (h : PS X st (tDrop (tBM X.K "list" rExtend (tE X.K W ro) (tCons (tE X.K W re) tNil)))) :
    PS X st (tS X.K W fun s m => (ro s m).bindS s fun o m1 => (isCell o m1).bindS s fun _ m1 => (re s m1).bindS s fun v m2 => (extCell o v m2).bindS s fun _ m3 => .ok (.nx s) m3) := ps_m h fun D σ H ⟨ρ, s, m, B, k⟩ => by
  refine seqS B k fun o m1 y ρ1 H1 l1 B1 r1 k1 => ?_
  unfold isCell at k1
  split at k1
  · rename_i n
    cases q : m1[n]? with
    | none => simp only [q] at k1; exact k1.elim
    | some c =>
      simp only [q] at k1
      cases c with
      | lst xs =>
        simp only [Res.bindS_ok] at k1
        obtain ⟨p, e1, rfl⟩ := r1
        obtain ⟨vs, hv, rs⟩ := B1.rel.cell n p _ e1 q
        refine ⟨.inl ⟨rfl, vs, SqL.of hv⟩, seqS B1 k1 fun v m2 x ρ2 H2 l2 B2 r2 k2 => ?_⟩
        unfold extCell at k2
        split at k2
        · rename_i n' zs e2
          cases e2
          cases q2 : m2[n]? with
          | none => simp only [q2] at k2; exact k2.elim
          | some c2 =>
            simp only [q2] at k2
            cases c2 with
            | lst ys =>
              simp only [] at k2
              split at k2
              · rename_i hl
                have e2 := pre_get l2.pre e1
                obtain ⟨vs2, hv2, rs2⟩ := B2.rel.cell n p _ e2 q2
                cases r2 with
                | @lst b us _ nb hb rb =>
                  obtain ⟨l3, r3⟩ := put_cell B2.rel e2 q2 (rs2.append rb)
                  exact ⟨p, b, vs2, us, rfl, rfl, hv2, hb, by rw [rs2.length, rb.length]; exact line_le hl, k2 σ ρ2 _ l3 (B2.later l3 r3)⟩
              · exact k2.elim
            | dead => exact k2.elim
            | dct _ => exact k2.elim
            | ins _ _ => exact k2.elim
            | tab _ => exact k2.elim
            | lams _ => exact k2.elim
            | wl _ => exact k2.elim
        · exact k2.elim
      | dead => exact k1.elim
      | dct _ => exact k1.elim
      | ins _ _ => exact k1.elim
      | tab _ => exact k1.elim
      | lams _ => exact k1.elim
      | wl _ => exact k1.elim
  · exact k1.elim
end
end Oh

set_option Elab.async false
set_option linter.all false
set_option maxRecDepth 100000
set_option maxHeartbeats 2000000
set_option autoImplicit false
/-! OhM: calls; the checker -/
namespace Oh
open PySem L2
variable [Lcl]
/-! ### a def is left -/
theorem trunc {K : PySem.W.Frag} {ρ ρ' : Rh} {m m' : M} {H H' : Hp} (r0 : Rel K ρ m H) (l : Later ρ m H ρ' m' H') (r : Rel K ρ' m' H') :
    Later ρ m H ρ (m'.take m.length) H' ∧ Rel K ρ (m'.take m.length) H' ∧ Ext (lives ρ' m') H' (lives ρ (m'.take m.length)) H' := by
  obtain ⟨t, ht⟩ := l.pre
  have hle : m.length ≤ m'.length := by
    have := r.len
    rw [← ht, List.length_append, r0.len] at this
    omega
  have sub : ∀ a, a ∈ lives ρ (m'.take m.length) → a ∈ lives ρ' m' := fun a h => by
    rcases List.mem_append.mp h with z | z
    · exact List.mem_append_left _ (by rw [l.grd]; exact z)
    · obtain ⟨n, c, h1, h2, h3⟩ := lv_get.mp z
      have hn : n < m.length := by
        have := (List.getElem?_eq_some_iff.mp h1).1
        rw [r0.len] at this; exact this
      rw [List.getElem?_take_of_lt hn] at h2
      exact List.mem_append_right _ (lv_get.mpr ⟨n, c, pre_get l.pre h1, h2, h3⟩)
  have ex : Ext (lives ρ' m') H' (lives ρ (m'.take m.length)) H' := fun a o h n => ⟨h, fun q => n (sub a q)⟩
  refine ⟨⟨List.prefix_rfl, rfl, l.ext.trans ex, l.prv⟩, ⟨by rw [List.length_take, r0.len]; omega, r0.nd, fun n a c h1 h2 => ?_, fun a h => ?_⟩, ex⟩
  · have hn : n < m.length := by
      have := (List.getElem?_eq_some_iff.mp h1).1
      rw [r0.len] at this; exact this
    rw [List.getElem?_take_of_lt hn] at h2
    have e := r.cell n a c (pre_get l.pre h1) h2
    rw [← ht, List.take_append_of_le_length (by rw [r0.len]; exact Nat.le_of_lt hn)] at e
    exact e.ext ex fun u h => h
  · obtain ⟨h1, u, e⟩ := r.prv a (by rw [l.grd]; exact h)
    exact ⟨fun q => h1 (by rw [← ht]; exact List.mem_append_left _ q), u, e⟩
/-- what a def promises: the evaluator's answer -/
def spD (K : PySem.W.Frag) (fn : List Oh.W → M → Res Oh.W) (n : Nat) : Sp := fun vs H Q E => vs.length = n ∧ ∃ ρ m ws, Rel K ρ m H ∧ RepWs K ρ (lives ρ m) H vs ws ∧
  Aft (fun x m' => ∀ cls d ρ' H', Later ρ m H ρ' m' H' → Rel K ρ' m' H' → XRep K (lives ρ' m') H' cls d x → E cls d H') (fn ws m) fun w m' => ∀ v ρ' H', Later ρ m H ρ' m' H' → Rel K ρ' m' H' → RepW K ρ' (lives ρ' m') H' v w → Q v H'
theorem renv_start {K : PySem.W.Frag} {ρ : Rh} {L : List Addr} {H : Hp} {vs : List V} {ws : List Oh.W} (r : RepWs K ρ L H vs ws) (k : Nat) : REnv K ρ L H (vs.map some ++ List.replicate k none) (ws.map some ++ List.replicate k none) := by
  refine ⟨by simp [r.length], fun i w e => ?_⟩
  have hi : i < ws.length := by
    by_cases h : i < ws.length
    · exact h
    · rw [List.getElem?_append_right (by simpa using h), List.getElem?_replicate] at e
      split at e <;> cases e
  rw [List.getElem?_append_left (by simpa using hi), List.getElem?_map] at e
  cases q : ws[i]? with
  | none => rw [q] at e; cases e
  | some w' =>
    rw [q] at e
    cases e
    have get : ∀ {vs : List V} {ws : List Oh.W} {i : Nat}, RepWs K ρ L H vs ws → ws[i]? = some w → ∃ v, vs[i]? = some v ∧ RepW K ρ L H v w := by
      intro vs ws i r
      induction r generalizing i with
      | nil => intro h; cases h
      | cons r t ih =>
        cases i with
        | zero => intro h; cases h; exact ⟨_, rfl, r⟩
        | succ i => intro h; exact ih h
    obtain ⟨v, h1, h2⟩ := get r q
    exact ⟨v, by rw [List.getElem?_append_left (by rw [List.length_map, r.length]; exact hi), List.getElem?_map, h1]; rfl, h2⟩
/-- what lies behind a value that is handed out, cells that were made since left behind -/
theorem leave_rep {K : PySem.W.Frag} {ρ ρ' : Rh} {m m' : M} {H H' : Hp} {v : V} {w : Oh.W} {P : Oh.W → M → Prop} {ω : D → M → Prop} (rel : Rel K ρ m H) (l : Later ρ m H ρ' m' H') (r : Rel K ρ' m' H') (q : RepW K ρ' (lives ρ' m') H' v w) (h : Aft ω (leave m.length w m') P) :
    ∃ w2 m2, P w2 m2 ∧ Later ρ m H ρ m2 H' ∧ Rel K ρ m2 H' ∧ RepW K ρ (lives ρ m2) H' v w2 := by
  obtain ⟨l', r', ex⟩ := trunc rel l r
  unfold leave at h
  cases w with
  | p d => exact ⟨_, _, h, l', r', Rep.ext ex q⟩
  | c n =>
    obtain ⟨a, e, rfl⟩ := q
    simp only [] at h
    split at h
    · rename_i hn
      refine ⟨_, _, h, l', r', a, ?_, rfl⟩
      obtain ⟨t, ht⟩ := l.pre
      rw [← ht, List.getElem?_append_left (by rw [rel.len]; exact hn)] at e
      exact e
    · rename_i hn
      have out : a ∉ lives ρ (m'.take m.length) := fun z => by
        rcases List.mem_append.mp z with z | z
        · exact (r.prv a (by rw [l.grd]; exact z)).1 (List.mem_of_getElem? e)
        · have ha := lv_sub z
          obtain ⟨t, ht⟩ := l.pre
          have nd := r.nd
          rw [← ht, List.nodup_append] at nd
          rw [← ht, List.getElem?_append_right (by rw [rel.len]; omega)] at e
          exact nd.2.2 a ha a (List.mem_of_getElem? e) rfl
      cases q2 : m'[n]? with
      | none => simp only [q2] at h; exact h.elim
      | some c =>
        simp only [q2] at h
        cases c with
        | lst xs =>
          obtain ⟨vs, h1, h2⟩ := r.cell n a _ e q2
          exact ⟨_, _, h, l', r', .lst out h1 (h2.ext ex)⟩
        | dct xs =>
          obtain ⟨vs, h1, h2⟩ := r.cell n a _ e q2
          exact ⟨_, _, h, l', r', .dct out h1 (h2.ext ex)⟩
        | dead => exact h.elim
        | ins _ _ => exact h.elim
        | tab _ => exact h.elim
        | lams _ => exact h.elim
        | wl _ => exact h.elim
/-- an own list is handed out as a cell of the caller's -/
theorem keep_cell {K : PySem.W.Frag} {ρ ρ' : Rh} {m m' : M} {H H' : Hp} {n : Nat} {a : Addr} {xs : List D} (rel : Rel K ρ m H) (l : Later ρ m H ρ' m' H') (r : Rel K ρ' m' H') (e : ρ'.c[n]? = some a) (hn : m.length ≤ n) (q : m'[n]? = some (.lst xs)) :
    Later ρ m H ⟨ρ.c ++ [a], ρ.g⟩ (m'.take m.length ++ [.lst xs]) H' ∧ Rel K ⟨ρ.c ++ [a], ρ.g⟩ (m'.take m.length ++ [.lst xs]) H' := by
  obtain ⟨t, ht⟩ := l.pre
  have hlen : m.length ≤ m'.length := by have := (List.getElem?_eq_some_iff.mp q).1; omega
  have tl : (m'.take m.length).length = m.length := by rw [List.length_take]; omega
  have rl := rel.len
  have at_ : ∀ j b, (ρ.c ++ [a])[j]? = some b → (j < m.length ∧ ρ'.c[j]? = some b) ∨ (j = m.length ∧ b = a) := fun j b z => by
    by_cases hj : j < m.length
    · rw [List.getElem?_append_left (by omega)] at z
      exact .inl ⟨hj, by rw [← ht, List.getElem?_append_left (by omega)]; exact z⟩
    · rw [List.getElem?_append_right (by omega)] at z
      have hj2 := (List.getElem?_eq_some_iff.mp z).1
      simp only [List.length_singleton] at hj2
      have e0 : j - ρ.c.length = 0 := by omega
      rw [e0] at z
      exact .inr ⟨by omega, (Option.some.inj z).symm⟩
  have mt : ∀ j c, j < m.length → (m'.take m.length ++ [C.lst xs])[j]? = some c → m'[j]? = some c := fun j c hj z => by
    rw [List.getElem?_append_left (by omega), List.getElem?_take, if_pos hj] at z
    exact z
  have mk : ∀ c, (m'.take m.length ++ [C.lst xs])[m.length]? = some c → c = .lst xs := fun c z => by
    rw [List.getElem?_append_right (by omega), tl, Nat.sub_self] at z
    exact (Option.some.inj z).symm
  have sub : ∀ b, b ∈ lives ⟨ρ.c ++ [a], ρ.g⟩ (m'.take m.length ++ [.lst xs]) → b ∈ lives ρ' m' := fun b z => by
    rcases List.mem_append.mp z with z | z
    · exact List.mem_append_left _ (by rw [l.grd]; exact z)
    · obtain ⟨j, c, h1, h2, h3⟩ := lv_get.mp z
      refine List.mem_append_right _ (lv_get.mpr ?_)
      rcases at_ j b h1 with ⟨hj, z⟩ | ⟨rfl, rfl⟩
      · exact ⟨j, c, z, mt j c hj h2, h3⟩
      · exact ⟨n, _, e, q, rfl⟩
  have ex : Ext (lives ρ' m') H' (lives ⟨ρ.c ++ [a], ρ.g⟩ (m'.take m.length ++ [.lst xs])) H' := fun b o z1 z2 => ⟨z1, fun z => z2 (sub b z)⟩
  refine ⟨⟨List.prefix_append _ _, rfl, fun b o z1 z2 => ⟨(l.ext b o z1 z2).1, fun z => (l.ext b o z1 z2).2 (sub b z)⟩, l.prv⟩, ⟨by simp only [List.length_append, List.length_singleton]; omega, ?_, fun j b c z1 z2 => ?_, fun b hb => ?_⟩⟩
  · have nd := r.nd
    rw [← ht, List.nodup_append] at nd
    rw [List.nodup_append]
    refine ⟨nd.1, by simp, fun x hx y hy => ?_⟩
    rw [List.mem_singleton.mp hy]
    rw [← ht, List.getElem?_append_right (by omega)] at e
    exact nd.2.2 x hx a (List.mem_of_getElem? e)
  · rcases at_ j b z1 with ⟨hj, z⟩ | ⟨rfl, rfl⟩
    · have e1 := r.cell j b c z (mt j c hj z2)
      rw [← ht, List.take_append_of_le_length (by rw [rl]; exact Nat.le_of_lt hj)] at e1
      show CRep K ((ρ.c ++ [a]).take j) _ _ _ _
      rw [List.take_append_of_le_length (by rw [rl]; exact Nat.le_of_lt hj)]
      exact e1.ext ex fun _ z => z
    · rw [mk c z2]
      obtain ⟨vs, h1, h2⟩ := r.cell n b _ e q
      exact ⟨vs, h1, h2.ext ex⟩
  · have := r.prv b (by rw [l.grd]; exact hb)
    refine ⟨fun z => ?_, this.2⟩
    rcases List.mem_append.mp z with z | z
    · exact this.1 (by rw [← ht]; exact List.mem_append_left _ z)
    · rw [List.mem_singleton.mp z] at this
      exact this.1 (List.mem_of_getElem? e)
theorem leave_ok {K : PySem.W.Frag} {W : WX} {E : XK} {ρ : Rh} {m : M} {H : Hp} {Q : VK} {r : Res Fl} {σ : St} {s : Env} (rel : Rel K ρ m H)
    (hW : ∀ c d σ H, E c d H → W c d σ H)
    (h : Aft (fun x m' => ∀ cls d ρ' H', Later ρ m H ρ' m' H' → Rel K ρ' m' H' → XRep K (lives ρ' m') H' cls d x → E cls d H') (finish m.length r) fun w m' => ∀ v ρ' H', Later ρ m H ρ' m' H' → Rel K ρ' m' H' → RepW K ρ' (lives ρ' m') H' v w → Q v H') :
    AftS K W ρ m H { nx := fun _ H' => Q .non H', rt := Q } r := by
  cases r with
  | bad => exact h
  | exc x m' => exact h
  | ok fl m' =>
    cases fl with
    | nx s =>
      intro σ' ρ' H' l B
      obtain ⟨l', r', ex⟩ := trunc rel l B.rel
      exact h .non ρ H' l' r' .non
    | bk s => exact h.elim
    | ct s => exact h.elim
    | xc x s =>
      intro cls d σ' ρ' H' l B xr
      obtain ⟨l', r', ex⟩ := trunc rel l B.rel
      exact hW cls d σ' H' (h cls d ρ H' l' r' (xr.ext ex))
    | rc xs =>
        intro p vs ρ' H' l r rs hp
        obtain ⟨l', r', ex⟩ := trunc rel l r
        obtain ⟨l2, r2⟩ := new_cell r' hp (rs.ext ex)
        refine h (.ref p) _ _ (l'.trans l2) r2 ⟨p, ?_, rfl⟩
        show (ρ.c ++ [p])[m.length]? = some p
        rw [← rel.len, List.getElem?_append_right (Nat.le_refl _)]
        simp
    | rt w =>
        intro v ρ' H' l r q
        obtain ⟨w2, m2, hP, l2, r2, q2⟩ := leave_rep rel l r q h
        exact hP v ρ H' l2 r2 q2
    | rl n =>
        intro v ρ' H' l r q
        obtain ⟨a, e, rfl⟩ := q
        unfold finish at h
        simp only [] at h
        split at h
        · rename_i hn
          cases q2 : m'[n]? with
          | none => simp only [q2] at h; exact h.elim
          | some c =>
            simp only [q2] at h
            cases c with
            | lst xs =>
              obtain ⟨l2, r2⟩ := keep_cell rel l r e hn q2
              refine h _ _ _ l2 r2 ⟨a, ?_, rfl⟩
              show (ρ.c ++ [a])[m.length]? = some a
              rw [← rel.len, List.getElem?_append_right (Nat.le_refl _)]
              simp
            | _ => exact h.elim
        · exact h.elim
theorem fill_full (fd : Fd) {ws : List Oh.W} (h : ws.length = fd.ps) : fd.fill ws = ws := by
  unfold Fd.fill
  rw [h, Nat.sub_self, Nat.sub_zero, List.drop_length]
  simp
section
variable {X : Cx} {W : WX}
/-! ### calls -/
/-- a call with keywords -/
def KbOk (K : PySem.W.Frag) (dat : FuncData) (ps : List Str) (fd : Fd) (q : Nat × List Str × List Src) : Prop := ∃ g gV, KBn K dat ps q.1 q.2.1 g gV ∧
  ∀ ρ L H (vs : List V) (ws : List Oh.W) (zs : List V) (xs : List Oh.W), vs.length = q.1 → zs.length = q.2.1.length → RepWs K ρ L H vs ws → RepWs K ρ L H zs xs → RepWs K ρ L H (gV vs zs) (fd.fill (bindK ws xs q.2.2)) ∧ (gV vs zs).length = fd.ps
/-- a def f of the table as it stands under its name -/
structure Fnf (X : Cx) (n : Nat) (fn : List Oh.W → M → Res Oh.W) (loc : Addr → Prop) (fd : Fd) : Prop where
  ex : ∃ (a : Addr) (dat : FuncData) (ps : List Str), loc a ∧ PySem.W.keepIn X.K (.ref a) = true ∧ ps.length = fd.ps ∧
    FnOk X.prog X.w X.K X.mg X.base (L2.CX X.prog X.w) n a dat ps (spD X.K fn fd.ps) ∧
    (∀ k, k ≤ fd.dfl.length → ∃ dvs ds, Binds X.K dat ps ds ∧ Vals dvs ds ∧ ∀ L H, Reps X.K L H dvs (fd.dfl.drop k)) ∧
    ∀ q ∈ fd.kbs, KbOk X.K dat ps fd q
/-- what is asked of the table about a number -/
structure FnAt (X : Cx) (n : Nat) (fn : List Oh.W → M → Res Oh.W) (loc : Addr → Prop) (fd : Fd) : Prop where
  at_ : Fnf X n fn loc fd
  fit : ∀ ws m, (fd.fill ws).length ≠ fd.ps → fn ws m = .bad
  fill : ∀ ws m, fn ws m = .bad ∨ fn ws m = fn (fd.fill ws) m
theorem repW_p {K : PySem.W.Frag} {ρ : Rh} {L : List Addr} {H : Hp} : ∀ {vs : List V} {ds : List D}, Reps K L H vs ds → RepWs K ρ L H vs (ds.map .p)
  | _, _, .nil => .nil
  | _, _, .cons r t => .cons r (repW_p t)
/-- what is wanted behind a call -/
abbrev Got (K : PySem.W.Frag) (ρ : Rh) (m : M) (H : Hp) (Q : VK) (w : Oh.W) (m' : M) : Prop := ∀ v ρ' H', Later ρ m H ρ' m' H' → Rel K ρ' m' H' → RepW K ρ' (lives ρ' m') H' v w → Q v H'
/-- calling fv with n values and the keywords ks does what r says -/
def CallAsP (X : Cx) (W : WX) (A : Around) (pins : List (Addr × Obj)) (fv : Value) (n : Nat) (ks : List Str) (r : List Oh.W → List Oh.W → M → Res Oh.W) : Prop :=
  ∀ (s : Shared) (σ : St) (H : Hp) (Q : VK) (ρ : Rh) (m : M) (vs zs : List V) (us xs : List Value) (ws ys : List Oh.W), Inv X pins σ H s → Vals vs us → Vals zs xs → Rel X.K ρ m H →
    RepWs X.K ρ (lives ρ m) H vs ws → RepWs X.K ρ (lives ρ m) H zs ys → ws.length = n → ys.length = ks.length → Aft (Wish X.K W ρ m H σ) (r ws ys m) (Got X.K ρ m H Q) →
    codeAny (model X.prog X.w) A (.call fv ⟨us, ks.zip xs⟩) (wants (EP X pins σ Q) X.xe) s
def CallAs (X : Cx) (W : WX) (A : Around) (fv : Value) (n : Nat) (ks : List Str) (r : List Oh.W → List Oh.W → M → Res Oh.W) : Prop := ∀ pins, CallAsP X W A pins fv n ks r
/-- somewhere below the running body, with room -/
structure Near (X : Cx) (n : Nat) (A : Around) : Prop where
  room : Room n A
  fr : A.frames = X.A.frames
theorem Near.in1 {n : Nat} {A : Around} (s : Near X (n + 1) A) : Near X n A.in1 := ⟨s.room.in1, s.fr⟩
theorem Near.mono {n m : Nat} {A : Around} (s : Near X n A) (h : m ≤ n) : Near X m A := ⟨s.room.mono h, s.fr⟩
theorem Near.make {n : Nat} {A : Around} (s : Near X (n + 1) A) (C : Addr) (us : List Value) (kw : List (Str × Value)) : Near X n (A.under (.builtin "type.__call__" ⟨.ref C :: us, kw⟩)) :=
  ⟨s.room.make C us kw, by first | exact s.fr | (simpa [Around.under, Code.envs, Code.isFrame, pushEnvs] using s.fr)⟩
theorem Near.env {n : Nat} {A : Around} {pins : List (Addr × Obj)} {σ : St} {H : Hp} {s : Shared} (z : Near X n A) (I : Inv X pins σ H s) : Env0 X.prog X.w X.K X.mg X.base A X.stack s H :=
  let e := I.env0
  ⟨z.fr.trans e.frames, e.mod, e.bs, e.bsz, e.funs, e.frf, e.hok, e.bare⟩
/-- a def's run -/
theorem run_sp {n : Nat} {fn : List Oh.W → M → Res Oh.W} {N : Nat} {A : Around} {a : Addr} {dat : FuncData} {ps : List Str} (tk : Takes X W) (F : FnOk X.prog X.w X.K X.mg X.base (L2.CX X.prog X.w) n a dat ps (spD X.K fn N)) (z : Near X n A)
    {pins : List (Addr × Obj)} {s : Shared} {σ : St} {H : Hp} {Q : VK} {args : Args} {us : List Value} {vs : List V} (I : Inv X pins σ H s) (hb : BindsTo s dat args (ps.zip us)) (r : Vals vs us) (h : spD X.K fn N vs H Q (WE W σ)) :
    codeAny (model X.prog X.w) A (.call (.ref a) args) (wants (EP X pins σ Q) X.xe) s := by
  refine codeAny_mono (F.run A X.stack s H args us vs Q (WE W σ) z.room (z.env I) hb r h) fun r s' hq => ?_
  cases r with
  | error e => exact passAt tk σ pins H s e s' I hq
  | ok fl =>
    cases fl with
    | ret u => exact I.after hq
    | next => exact False.elim hq
    | brk => exact False.elim hq
    | cont => exact False.elim hq
theorem fn_callAs {n k : Nat} {fn : List Oh.W → M → Res Oh.W} {loc : Addr → Prop} {fd : Fd} {A : Around} (tk : Takes X W) (F : FnAt X n fn loc fd) (z : Near X n A) : ∃ a, loc a ∧ PySem.W.keepIn X.K (.ref a) = true ∧ CallAs X W A (.ref a) k [] (fun ws _ m => fn ws m) := by
  obtain ⟨a, dat, ps, g1, g2, g3, g4, g5, g6⟩ := F.at_.ex
  refine ⟨a, g1, g2, fun pins s σ H Q ρ m vs zs us xs ws ys I rv rz rel pw py hk hks h => ?_⟩
  simp only [] at h
  by_cases hfit : (fd.fill ws).length = fd.ps
  · obtain ⟨dvs, ds, b1, b2, b3⟩ := g5 (fd.dfl.length - (fd.ps - ws.length)) (Nat.sub_le _ _)
    have reps : RepWs X.K ρ (lives ρ m) H (vs ++ dvs) (fd.fill ws) := by
      unfold Fd.fill
      exact pw.append (repW_p (b3 _ _))
    have hl : (us ++ ds).length = ps.length := by rw [← (rv.append b2).length, reps.length, hfit, g3]
    have e0 : (([] : List Str).zip xs) = [] := rfl
    rw [e0]
    refine run_sp tk g4 z I (b1 s us I.kIn hl) (rv.append b2) ⟨by rw [reps.length]; exact hfit, ρ, m, _, rel, reps, ?_⟩
    rcases F.fill ws m with e | e
    · rw [e] at h; exact h.elim
    · rw [e] at h
      exact h
  · rw [F.fit _ _ hfit] at h; exact h.elim
theorem fn_callAsK {n k : Nat} {fn : List Oh.W → M → Res Oh.W} {loc : Addr → Prop} {fd : Fd} {A : Around} {ks : List Str} {src : List Src} (tk : Takes X W) (F : FnAt X n fn loc fd) (z : Near X n A) (hq : (k, ks, src) ∈ fd.kbs) :
    ∃ a, loc a ∧ PySem.W.keepIn X.K (.ref a) = true ∧ CallAs X W A (.ref a) k ks (fun ws zs m => fn (bindK ws zs src) m) := by
  obtain ⟨a, dat, ps, g1, g2, g3, g4, g5, g6⟩ := F.at_.ex
  obtain ⟨g, gV, b1, b2⟩ := g6 _ hq
  refine ⟨a, g1, g2, fun pins s σ H Q ρ m vs zs us xs ws ys I rv rz rel pw py hk hks h => ?_⟩
  simp only [] at h
  have e1 : vs.length = k := pw.length.trans hk
  have e2 : zs.length = ks.length := py.length.trans hks
  obtain ⟨h1, h2⟩ := b2 ρ _ H vs ws zs ys e1 e2 pw py
  refine run_sp tk g4 z I (b1.to s us xs I.kIn (rv.length.symm.trans e1) (rz.length.symm.trans e2)) (b1.rel rv rz) ⟨h2, ρ, m, _, rel, h1, ?_⟩
  rcases F.fill (bindK ws ys src) m with e | e
  · rw [e] at h; exact h.elim
  · rw [e] at h
    exact h
/-- .. either way -/
def kwFit (fd : Fd) (k : Nat) (ks : List Str) (src : List Src) : Bool := match src with
  | [] => decide (ks = [])
  | _ => decide ((k, ks, src) ∈ fd.kbs)
theorem fn_call {n k : Nat} {fn : List Oh.W → M → Res Oh.W} {loc : Addr → Prop} {fd : Fd} {A : Around} {ks : List Str} {src : List Src} (tk : Takes X W) (F : FnAt X n fn loc fd) (z : Near X n A) (hq : kwFit fd k ks src = true) :
    ∃ a, loc a ∧ PySem.W.keepIn X.K (.ref a) = true ∧ CallAs X W A (.ref a) k ks (fun ws zs m => fn (bindA ws zs src) m) := by
  cases src with
  | nil =>
    obtain rfl : ks = [] := of_decide_eq_true hq
    exact fn_callAs tk F z
  | cons q r => exact fn_callAsK tk F z (of_decide_eq_true hq)
/-! ### the written arguments -/
def kwNames (kws : List Keyword) : List Str := kws.filterMap (·.arg)
theorem kw_all {kws : List Keyword} {env : PySem.Env} {pos : Pos} (h : kws.all (·.arg.isSome) = true) : (backToKw pos (keywordEach kws env)).all (·.1.isSome) = true ∧ (backToKw pos (keywordEach kws env)).filterMap (·.1) = kwNames kws ∧ (backToKw pos (keywordEach kws env)).any (·.1.isNone) = false := by
  induction kws with
  | nil => exact ⟨rfl, rfl, rfl⟩
  | cons k kws ih =>
    simp only [List.all_cons, Bool.and_eq_true] at h
    obtain ⟨i1, i2, i3⟩ := ih h.2
    unfold backToKw at *
    obtain ⟨a, v, p⟩ := k
    cases a with
    | none => cases h.1
    | some x =>
      refine ⟨?_, ?_, ?_⟩
      · simp only [keywordEach, List.map_cons, List.all_cons, Option.isSome_some, Bool.true_and]; exact i1
      · show x :: List.filterMap _ _ = x :: List.filterMap _ _; exact congrArg (x :: ·) i2
      · simp only [keywordEach, List.map_cons, List.any_cons, Option.isNone_some, Bool.false_or]; exact i3
theorem s_knil : PK X [] (tAr X.K W fun _ m => .ok [] m) := ⟨fun pos pins st σ H Q I ⟨ρ, s, m, B, k⟩ => pk_nil.run pos pins st σ H Q I (k [] ρ H (Later.refl ..) B.rel .nil)⟩
theorem s_kcons {e : Expr} {nm : Option Str} {kpos : Pos} {kws : List Keyword} {ra : Env → M → Res Oh.W} {rs : Env → M → Res (List Oh.W)} (ha : PE X e (tE X.K W ra)) (hr : PK X kws (tAr X.K W rs)) :
    PK X (⟨nm, e, kpos⟩ :: kws) (tAr X.K W fun s m => (ra s m).bind fun w m1 => (rs s m1).bind fun ws m2 => .ok (w :: ws) m2) := ⟨fun pos pins st σ H Q I ⟨ρ, s, m, B, k⟩ => (pk_cons ha hr).run pos pins st σ H Q I <| by
  refine seq B k fun w1 m1 x ρ1 H1 l1 B1 r1 k1 => ?_
  refine seq B1 k1 fun ws m2 xs ρ2 H2 l2 B2 r2 k2 => ?_
  exact k2 (x :: xs) ρ2 H2 (l1.trans l2) B2.rel (.cons (r1.later l2) r2)⟩
/-- the written arguments of a call and what is known of them -/
structure Argus (X : Cx) (W : WX) (es : List Expr) (kws : List Keyword) (rs rk : Env → M → Res (List Oh.W)) : Prop where
  pa : PA X es (tAr X.K W rs)
  pk : PK X kws (tAr X.K W rk)
  all : kws.all (·.arg.isSome) = true
  len : ∀ s m ws m', rs s m = .ok ws m' → ws.length = es.length
  lenk : ∀ s m ws m', rk s m = .ok ws m' → ws.length = (kwNames kws).length
  nil : es = [] → ∀ s m, rs s m = .ok [] m
  star : ∀ e es', es = e :: es' → starEach (e :: es') X.env = (false, eval e X.env) :: starEach es' X.env
  plain : ∀ pos, (backTo pos (starEach es X.env)).any (·.1) = false
theorem args_call {P : Heap → Prop} {fv : Value} {first : List Value} {firstV : List V} {fw : List Oh.W} {es : List Expr} {kws : List Keyword} {pos : Pos} {rs rk : Env → M → Res (List Oh.W)} {r : List Oh.W → List Oh.W → M → Res Oh.W}
    {pins : List (Addr × Obj)} {σ : St} (hk : ∀ h, P h → ∃ k, (k = Keeper.frame ∨ k = Keeper.machine ∨ k = Keeper.boundFrame) ∧ PySem.W.Looks (model X.prog X.w) h (keeperOf fv) k) (hP : ∀ H s, Inv X pins σ H s → P s.heap)
    (C : CallAsP X W X.A pins fv (fw.length + es.length) (kwNames kws) r) (Z : Argus X W es kws rs rk) {s : Shared} {H : Hp} {Q : VK} {ρ : Rh} {st : Env} {m : M} (I : Inv X pins σ H s) (B : Both X.K ρ σ st m H) (rf : Vals firstV first) (pf : RepWs X.K ρ (lives ρ m) H firstV fw)
    (h : Aft (Wish X.K W ρ m H σ) ((rs st m).bind fun ws m1 => (rk st m1).bind fun zs m2 => r (fw ++ ws) zs m2) (Got X.K ρ m H Q)) :
    wpAny (model X.prog X.w) X.A (callWith pos fv first (backTo pos (starEach es X.env)) (backToKw pos (keywordEach kws X.env))) (EP X pins σ Q) X.xe s := by
  obtain ⟨k1, k2, k3⟩ := kw_all (env := X.env) (pos := pos) Z.all
  have hpl : ((backTo pos (starEach es X.env)).any (·.1) || (backToKw pos (keywordEach kws X.env)).any (·.1.isNone)) = false := by rw [Z.plain, k3]; rfl
  -- behind the values: the keywords' values and the call
  have rest : ∀ {s1 : Shared} {H1 : Hp} {vs : List V} {us : List Value} {ρ1 : Rh} {m1 : M} {ws : List Oh.W}, Inv X pins σ H1 s1 → Vals vs us → Later ρ m H ρ1 m1 H1 → Both X.K ρ1 σ st m1 H1 → RepWs X.K ρ1 (lives ρ1 m1) H1 vs ws → ws.length = es.length →
      Aft (Wish X.K W ρ1 m1 H1 σ) ((rk st m1).bind fun zs m2 => r (fw ++ ws) zs m2) (Got X.K ρ m H Q) →
      wpAny (model X.prog X.w) X.A (evalAll ((backToKw pos (keywordEach kws X.env)).map (·.2))) (fun ks s2 => P s2.heap ∧ wpAny (model X.prog X.w) X.A (call fv (first ++ us) (((backToKw pos (keywordEach kws X.env)).filterMap (·.1)).zip ks)) (EP X pins σ Q) X.xe s2) X.xe s1 := by
    intro s1 H1 vs us ρ1 m1 ws I1 rv l1 B1 pw hl h1
    have t : tAr X.K W rk σ H1 fun zs H2 => ∃ ρ2 m2 ys, Later ρ1 m1 H1 ρ2 m2 H2 ∧ Rel X.K ρ2 m2 H2 ∧ RepWs X.K ρ2 (lives ρ2 m2) H2 zs ys ∧ ys.length = (kwNames kws).length ∧ Aft (Wish X.K W ρ2 m2 H2 σ) (r (fw ++ ws) ys m2) (Got X.K ρ m H Q) := by
      refine ⟨ρ1, st, m1, B1, ?_⟩
      have h2 := h1.bind
      cases q : rk st m1 with
      | bad => rw [q] at h2; exact h2
      | exc x m' => rw [q] at h2; exact h2
      | ok ys m2 =>
        rw [q] at h2
        exact fun zs ρ2 H2 l2 r2 p2 => ⟨ρ2, m2, ys, l2, r2, p2, Z.lenk _ _ _ _ q, Aft.mono h2 (fun x m' w => w.later l2) fun _ _ z => z⟩
    refine thn (Z.pk.run pos pins s1 σ H1 _ I1 t) fun xs s2 ⟨zs, H2, I2, rz, ρ2, m2, ys, l2, r2, p2, hly, h2⟩ => ⟨hP _ _ I2, ?_⟩
    rw [k2]
    refine wpAny_call (C s2 σ H2 Q ρ2 m2 (firstV ++ vs) zs (first ++ us) xs (fw ++ ws) ys I2 (rf.append rv) rz r2 (((pf.later l1).append pw).later l2) p2 (by rw [List.length_append, hl]) hly ?_)
    exact h2.mono (fun _ _ z => z) fun w m' g v ρ' H' l r' q => g v ρ' H' ((l1.trans l2).trans l) r' q
  refine PySem.W.callWith_of hpl hk ?_
  cases es with
  | nil =>
    rw [Z.nil rfl] at h
    exact PyProof.Rows.evalArgs_kw2_nil k1 (rest (us := []) (vs := []) (ws := []) I .nil (Later.refl ..) B .nil rfl h)
  | cons e es =>
    refine PyProof.Rows.evalArgs_kw2 k1 ?_ (Z.star e es rfl)
    have t : tAr X.K W rs σ H fun vs H1 => ∃ ρ1 m1 ws, Later ρ m H ρ1 m1 H1 ∧ Rel X.K ρ1 m1 H1 ∧ RepWs X.K ρ1 (lives ρ1 m1) H1 vs ws ∧ ws.length = (e :: es).length ∧ Aft (Wish X.K W ρ1 m1 H1 σ) ((rk st m1).bind fun zs m2 => r (fw ++ ws) zs m2) (Got X.K ρ m H Q) := by
      refine ⟨ρ, st, m, B, ?_⟩
      have h2 := h.bind
      cases q : rs st m with
      | bad => rw [q] at h2; exact h2
      | exc x m' => rw [q] at h2; exact h2
      | ok ws m1 =>
        rw [q] at h2
        exact fun vs ρ1 H1 l1 r1 p1 => ⟨ρ1, m1, ws, l1, r1, p1, Z.len _ _ _ _ q, Aft.mono h2 (fun x m' w => w.later l1) fun _ _ z => z⟩
    exact thn (Z.pa.run pos pins s σ H _ I t) fun us s1 ⟨vs, H1, I1, rv, ρ1, m1, ws, l1, r1, p1, hl, h1⟩ => rest I1 rv l1 (B.later l1 r1) p1 hl h1
/-- a callee of the written part -/
theorem args_callK {fv : Value} {first : List Value} {firstV : List V} {fw : List Oh.W} {es : List Expr} {kws : List Keyword} {pos : Pos} {rs rk : Env → M → Res (List Oh.W)} {r : List Oh.W → List Oh.W → M → Res Oh.W}
    {pins : List (Addr × Obj)} {σ : St} (hk : PySem.W.keepIn X.K fv = true)
    (C : CallAs X W X.A fv (fw.length + es.length) (kwNames kws) r) (Z : Argus X W es kws rs rk) {s : Shared} {H : Hp} {Q : VK} {ρ : Rh} {st : Env} {m : M} (I : Inv X pins σ H s) (B : Both X.K ρ σ st m H) (rf : Vals firstV first) (pf : RepWs X.K ρ (lives ρ m) H firstV fw)
    (h : Aft (Wish X.K W ρ m H σ) ((rs st m).bind fun ws m1 => (rk st m1).bind fun zs m2 => r (fw ++ ws) zs m2) (Got X.K ρ m H Q)) :
    wpAny (model X.prog X.w) X.A (callWith pos fv first (backTo pos (starEach es X.env)) (backToKw pos (keywordEach kws X.env))) (EP X pins σ Q) X.xe s :=
  args_call (P := fun h => X.K.In h) (PySem.W.keeps_K hk) (fun _ _ I => I.kIn) (C pins) Z I B rf pf h
/-- a name of the module is called -/
theorem s_callG {nm : Str} {fv : Value} {es : List Expr} {kws : List Keyword} {p pos : Pos} {rs rk : Env → M → Res (List Oh.W)} {r : List Oh.W → List Oh.W → M → Res Oh.W} (hk : PySem.W.keepIn X.K fv = true) (hg : Gl X nm) (hm : X.mg nm = some fv) (hdb : (nm == ("__debug__" : Str)) = false)
    (C : CallAs X W X.A fv es.length (kwNames kws) r) (Z : Argus X W es kws rs rk) : PE X (.Call (.Name nm p) es kws pos) (tE X.K W fun s m => (rs s m).bind fun ws m1 => (rk s m1).bind fun zs m2 => r ws zs m2) :=
  ⟨fun pins s σ H Q I ⟨ρ, st, m, B, k⟩ => wpAny_Call_Name_kw (ld_glob I hg hm (args_callK (firstV := []) (fw := []) (first := []) hk (by simpa using C) Z I B .nil .nil k) hdb)⟩
/-! ### a cell is frozen -/
theorem frz_ok {K : PySem.W.Frag} {ρ : Rh} {σ : St} {s : Env} {m : M} {H : Hp} {i n : Nat} {xs : List D} (B : Both K ρ σ s m H) (hs : s[i]? = some (some (.c n))) (hm : m[n]? = some (.lst xs)) :
    Later ρ m H ρ (m.set n .dead) H ∧ Both K ρ σ (s.set i (some (.p (.lst xs)))) (m.set n .dead) H := by
  have hlt : n < m.length := (List.getElem?_eq_some_iff.mp hm).1
  have sub : ∀ a, a ∈ lives ρ (m.set n .dead) → a ∈ lives ρ m := fun a h => by
    rcases List.mem_append.mp h with z | z
    · exact List.mem_append_left _ z
    · obtain ⟨j, c, h1, h2, h3⟩ := lv_get.mp z
      by_cases e : n = j
      · subst e; rw [List.getElem?_set_self hlt] at h2; cases h2; cases h3
      · rw [List.getElem?_set_ne e] at h2; exact List.mem_append_right _ (lv_get.mpr ⟨j, c, h1, h2, h3⟩)
  have ex : Ext (lives ρ m) H (lives ρ (m.set n .dead)) H := fun a o h nl => ⟨h, fun q => nl (sub a q)⟩
  have l : Later ρ m H ρ (m.set n .dead) H := ⟨List.prefix_rfl, rfl, ex, fun _ _ => rfl⟩
  have rel : Rel K ρ (m.set n .dead) H := ⟨by simp [B.rel.len], B.rel.nd, fun j a c h1 h2 => by
    by_cases e : n = j
    · subst e
      rw [List.getElem?_set_self hlt] at h2; cases h2
      exact B.rel.tracked (List.mem_of_getElem? h1)
    · rw [List.getElem?_set_ne e] at h2
      exact (B.rel.cell j a c h1 h2).ext ex fun u h => h, B.rel.prv⟩
  refine ⟨l, ⟨⟨by simpa using B.env.len, fun j w e => ?_⟩, rel⟩⟩
  obtain ⟨v, hv, a, ha, rfl⟩ := B.env.get i _ hs
  by_cases hij : i = j
  · subst hij
    rw [List.getElem?_set_self (List.getElem?_eq_some_iff.mp hs).1] at e
    cases e
    obtain ⟨vs, h1, h2⟩ := B.rel.cell n a _ ha hm
    refine ⟨_, hv, .lst (fun z => ?_) h1 (h2.ext ex)⟩
    rcases List.mem_append.mp z with z | z
    · exact (B.rel.prv a z).1 (List.mem_of_getElem? ha)
    · obtain ⟨j, c, k1, k2, k3⟩ := lv_get.mp z
      obtain ⟨q1, e1⟩ := List.getElem?_eq_some_iff.mp ha
      obtain ⟨q2, e2⟩ := List.getElem?_eq_some_iff.mp k1
      have : n = j := (List.getElem_inj B.rel.nd).mp (e1.trans e2.symm)
      subst this
      rw [List.getElem?_set_self hlt] at k2; cases k2; cases k3
  · rw [List.getElem?_set_ne hij] at e
    obtain ⟨v', h1, h2⟩ := B.env.get j w e
    exact ⟨v', h1, h2.later l⟩
theorem s_frz {sts : List Stmt} {i : Nat} {rb : Env → M → Res Fl} (h : PSs X sts (tS X.K W rb)) : PSs X sts (tS X.K W fun s m => (frzCell i s m).bind fun fl m1 => match fl with | .nx s1 => rb s1 m1 | fl => .ok fl m1) := pss_m h fun D σ H ⟨ρ, s, m, B, k⟩ => by
  unfold frzCell at k
  simp only [] at k
  split at k
  · rename_i n hs
    cases q : m[n]? with
    | none => simp only [q] at k; exact k.elim
    | some c =>
      simp only [q] at k
      cases c with
      | lst xs =>
        obtain ⟨l, B'⟩ := frz_ok B hs q
        exact ⟨ρ, _, _, B', AftS.later k l⟩
      | dead => exact k.elim
      | dct _ => exact k.elim
      | ins _ _ => exact k.elim
      | tab _ => exact k.elim
      | lams _ => exact k.elim
      | wl _ => exact k.elim
  · exact k.elim
end
end Oh

set_option Elab.async false
set_option linter.all false
set_option maxRecDepth 100000
set_option maxHeartbeats 2000000
set_option autoImplicit false
/-! OhI: instances -/
namespace Oh
open PySem L2
variable [Lcl]
theorem meth_eval {o : Expr} {m : Str} {apos pos : Pos} {es : List Expr} {kws : List Keyword} {env : PySem.Env} (hb : attributeBase o m env (eval o env) = eval o env)
    (hf : methodCallForm (es.length + kws.length) (backTo pos (starEach es env)) (backToKw pos (keywordEach kws env)) = true) (hl : (apos.endLine == pos.line) = true) : eval (.Call (.Attribute o m apos) es kws pos) env = (do
      let ov ← eval o env
      standAt apos.atName
      let (f, first) ← holding [ov] (getMethod ov m (do return (← importBound o env).getD true))
      callWith pos f first (backTo pos (starEach es env)) (backToKw pos (keywordEach kws env))) := by
  show (do
    let ov ← attributeBase o m env (eval o env)
    standAt apos.atName
    methodCall o m apos pos env ov (es.length + kws.length) (backTo pos (starEach es env)) (backToKw pos (keywordEach kws env))) = _
  rw [hb]
  unfold methodCall calleeOf methodCallPos
  rw [hf, hl]
  rfl
section
variable {X : Cx} {W : WX}
theorem ins_see {K : PySem.W.Frag} {ρ : Rh} {m : M} {H : Hp} {x : V} {w : Oh.W} {c : Nat} {fs : List (Nat × D)} (r : RepW K ρ (lives ρ m) H x w) (l : Rel K ρ m H) (h : insW w m = some (c, fs)) :
    ∃ a dx kvs, x = .ref a ∧ H a = some (.ins (He.ga K (clsStr c)) dx kvs) ∧ ClsOk K c ∧ FReps K (lives ρ m) H kvs fs := by
  cases w with
  | p d =>
    cases d <;> try (cases h; done)
    cases h
    cases r with
    | ins o n h r => exact ⟨_, _, _, rfl, h, o, r⟩
  | c n =>
    obtain ⟨a, e, rfl⟩ := r
    unfold insW at h
    cases q : m[n]? with
    | none => simp only [q] at h; cases h
    | some y =>
      simp only [q] at h
      cases y <;> try (cases h; done)
      cases h
      obtain ⟨o, dx, kvs, h1, h2⟩ := l.cell n a _ e q
      exact ⟨a, dx, kvs, rfl, h1, o, h2⟩
theorem s_fld {e : Expr} {f : Nat} {pos : Pos} {ra : Env → M → Res Oh.W} (hf : f < manyAt) (h : PE X e (tE X.K W ra)) (hb : attributeBase e (atStr f) X.env (eval e X.env) = eval e X.env) :
    PE X (.Attribute e (atStr f) pos) (tE X.K W fun s m => (ra s m).bind fun w m1 => fldR f w m1) := pe_m (pe_fld h hb) fun σ H Q ⟨ρ, s, m, B, k⟩ => by
  refine seq B k fun w m1 x ρ1 H1 l1 B1 r1 k1 => ?_
  unfold fldR at k1
  cases q : insW w m1 with
  | none => rw [q] at k1; exact k1.elim
  | some cf =>
    obtain ⟨c, fs⟩ := cf
    rw [q] at k1
    simp only [] at k1
    split at k1
    · rename_i hc
      obtain ⟨a, dx, kvs, ex, hH, ok, fr⟩ := ins_see r1 B1.rel q
      rcases fr.get hf with ⟨h1, h2⟩ | ⟨d, v, h1, h2, h3⟩
      · rw [h1] at k1; exact k1.elim
      · rw [h1] at k1
        exact ⟨a, _, dx, kvs, v, ex, hH, ok.cls, ok.noat f (by simpa using hc), h2, k1 v ρ1 H1 l1 B1.rel h3⟩
    · exact k1.elim
/-- a class's constant -/
def ConAt (K : PySem.W.Frag) (c f : Nat) (d : D) : Prop := ∃ v u, Con K (He.ga K (clsStr c)) (atStr f) v u ∧ ∀ L H, Rep K L H v d
theorem s_con {e : Expr} {f : Nat} {pos : Pos} {ra : Env → M → Res Oh.W} {G : Nat → Option D} (hf : f < manyAt) (hG : ∀ c d, G (mnum c f) = some d → isDef (some d) = false → ConAt X.K c f d) (h : PE X e (tE X.K W ra)) (hb : attributeBase e (atStr f) X.env (eval e X.env) = eval e X.env) :
    PE X (.Attribute e (atStr f) pos) (tE X.K W fun s m => (ra s m).bind fun w m1 => (clsR f w m1).bind fun c m2 => conR (G (mnum c f)) m2) := pe_m (pe_con h hb) fun σ H Q ⟨ρ, s, m, B, k⟩ => by
  refine seq B k fun w m1 x ρ1 H1 l1 B1 r1 k1 => ?_
  unfold clsR at k1
  cases q : insW w m1 with
  | none => rw [q] at k1; exact k1.elim
  | some cf =>
    obtain ⟨c, fs⟩ := cf
    rw [q] at k1
    simp only [] at k1
    obtain ⟨a, dx, kvs, ex, hH, ok, fr⟩ := ins_see r1 B1.rel q
    rcases fr.get hf with ⟨h1, h2⟩ | ⟨d, v, h1, h2, h3⟩
    · rw [h1] at k1
      simp only [Res.bind_ok] at k1
      cases q2 : G (mnum c f) with
      | none => rw [q2] at k1; exact k1.elim
      | some d =>
        rw [q2] at k1
        by_cases hn : isDef (some d) = true
        · cases d <;> first | (cases hn; done) | exact k1.elim
        · have ec : conR (some d) m1 = .ok (.p d) m1 := by
            cases d <;> first | rfl | exact absurd rfl hn
          rw [ec] at k1
          have k2 := k1
          obtain ⟨v, u, hc, hr⟩ := hG c d q2 (by simpa using hn)
          exact ⟨a, _, dx, kvs, v, u, ex, hH, ok.cls, hc, h2, k2 v ρ1 H1 l1 B1.rel (hr _ _)⟩
    · rw [h1] at k1; exact k1.elim
/-! ### methods, by the class that is found -/
/-- a method of a class lies there -/
def locM (K : PySem.W.Frag) (c f : Nat) (a : Addr) : Prop := Cls K (He.ga K (clsStr c)) ∧ Meth K (He.ga K (clsStr c)) (atStr f) a
theorem s_mcall {n f : Nat} {o : Expr} {es : List Expr} {kws : List Keyword} {apos pos : Pos} {src : List Src} {fn : Nat → List Oh.W → M → Res Oh.W} {G : Nat → Option D} {ra : Env → M → Res Oh.W} {rs rk : Env → M → Res (List Oh.W)} (tk : Takes X W) (z : Near X n X.A) (hf : f < manyAt)
    (hT : ∀ c, isFn (G (mnum c f)) = true → ∃ fd, FnAt X n (fn (mnum c f)) (locM X.K c f) fd ∧ kwFit fd (1 + es.length) (kwNames kws) src = true) (ho : PE X o (tE X.K W ra)) (Z : Argus X W es kws rs rk)
    (hb : attributeBase o (atStr f) X.env (eval o X.env) = eval o X.env) (hform : methodCallForm (es.length + kws.length) (backTo pos (starEach es X.env)) (backToKw pos (keywordEach kws X.env)) = true) (hl : (apos.endLine == pos.line) = true) :
    PE X (.Call (.Attribute o (atStr f) apos) es kws pos) (tE X.K W fun s m => (ra s m).bind fun w m1 => (clsR f w m1).bind fun c m2 => if isFn (G (mnum c f)) then ((rs s m2).bind fun ws m3 => (rk s m3).bind fun zs m4 => fn (mnum c f) (bindA (w :: ws) zs src) m4) else .bad) := by
  refine ⟨fun pins s σ H Q I ⟨ρ, st, m, B, k⟩ => ?_⟩
  have t : tE X.K W ra σ H fun x H1 => ∃ ρ1 m1 w, Later ρ m H ρ1 m1 H1 ∧ Both X.K ρ1 σ st m1 H1 ∧ RepW X.K ρ1 (lives ρ1 m1) H1 x w ∧ Aft (Wish X.K W ρ1 m1 H1 σ) ((clsR f w m1).bind fun c m2 => if isFn (G (mnum c f)) then ((rs st m2).bind fun ws m3 => (rk st m3).bind fun zs m4 => fn (mnum c f) (bindA (w :: ws) zs src) m4) else .bad) (Got X.K ρ m H Q) :=
    seq B k fun w m1 x ρ1 H1 l1 B1 r1 k1 => ⟨ρ1, m1, w, l1, B1, r1, k1⟩
  refine PySem.W.methodCall_KW (thn (ho.run pins s σ H _ I t) fun u s1 ⟨x, H1, I1, rx, ρ1, m1, w, l1, B1, r1, k1⟩ => ?_) (meth_eval hb hform hl)
  unfold clsR at k1
  cases q : insW w m1 with
  | none => rw [q] at k1; exact k1.elim
  | some cf =>
    obtain ⟨c, fs⟩ := cf
    rw [q] at k1
    simp only [] at k1
    obtain ⟨a, dx, kvs, ex, hH, ok, fr⟩ := ins_see r1 B1.rel q
    rcases fr.get hf with ⟨h1, h2⟩ | ⟨d, v, h1, h2, h3⟩
    · rw [h1] at k1
      simp only [Res.bind_ok] at k1
      split at k1
      · rename_i hm
        obtain ⟨fd, F, hkw⟩ := hT c hm
        obtain ⟨b, ⟨lc, lm⟩, kp, C⟩ := fn_call tk F z hkw
        subst ex
        obtain rfl : u = Value.ref a := rx
        refine getmeth_ok I1 hH lc lm h2 ?_
        refine args_callK (first := [.ref a]) (firstV := [.ref a]) (fw := [w]) kp C Z I1 B1 (.cons rfl .nil) (.cons r1 .nil) ?_
        exact k1.mono (fun _ _ z => z) fun w' m' g v ρ' H' l r' q => g v ρ' H' (l1.trans l) r' q
      · exact k1.elim
    · rw [h1] at k1; exact k1.elim
/-! ### a new instance -/
theorem new_cellG {K : PySem.W.Frag} {ρ : Rh} {m : M} {H : Hp} {p : Addr} {o : HO} {y : C} (r : Rel K ρ m H) (hp : H p = none) (hc : CRep K ρ.c (lives ⟨ρ.c ++ [p], ρ.g⟩ (m ++ [y])) (upd H p o) p y) :
    Later ρ m H ⟨ρ.c ++ [p], ρ.g⟩ (m ++ [y]) (upd H p o) ∧ Rel K ⟨ρ.c ++ [p], ρ.g⟩ (m ++ [y]) (upd H p o) := by
  have ex : Ext (lives ρ m) H (lives ⟨ρ.c ++ [p], ρ.g⟩ (m ++ [y])) (upd H p o) := fun a u h n => by
    have ne : a ≠ p := ne_of_none h hp
    refine ⟨by rw [upd_ne ne]; exact h, fun q => ?_⟩
    rcases List.mem_append.mp q with z | z
    · exact n (List.mem_append_left _ z)
    · rcases lv_app r.len z with z | z
      · exact n (List.mem_append_right _ z)
      · exact ne z
  refine ⟨⟨List.prefix_append _ _, rfl, ex, fun a h => ?_⟩, ⟨by simp [r.len], ?_, fun n a c h1 h2 => ?_, fun a h => ?_⟩⟩
  · obtain ⟨_, u, e⟩ := r.prv a h
    rw [upd_ne (ne_of_none e hp)]
  · rw [List.nodup_append]
    refine ⟨r.nd, by simp, fun a ha b hb e => ?_⟩
    rw [List.mem_singleton] at hb
    subst hb; subst e
    exact r.fresh hp ha
  · by_cases hn : n < ρ.c.length
    · rw [List.getElem?_append_left hn] at h1
      rw [List.getElem?_append_left (by rw [← r.len]; exact hn)] at h2
      rw [show (ρ.c ++ [p]).take n = ρ.c.take n from List.take_append_of_le_length (Nat.le_of_lt hn)]
      exact (r.cell n a c h1 h2).ext ex fun u h => by rw [upd_ne (ne_of_none h hp)]; exact h
    · have hnn : n = ρ.c.length := by
        have := (List.getElem?_eq_some_iff.mp h1).1
        simp at this
        omega
      subst hnn
      rw [List.getElem?_append_right (Nat.le_refl _)] at h1
      rw [r.len, List.getElem?_append_right (Nat.le_refl _)] at h2
      simp at h1 h2
      subst h1; subst h2
      rw [show (ρ.c ++ [p]).take ρ.c.length = ρ.c from by simp]
      exact hc
  · obtain ⟨h1, u, e⟩ := r.prv a h
    refine ⟨fun q => ?_, u, by rw [upd_ne (ne_of_none e hp)]; exact e⟩
    rcases List.mem_append.mp q with z | z
    · exact h1 z
    · rw [List.mem_singleton] at z; subst z; rw [hp] at e; cases e
/-- the class may be made -/
structure MkAt (X : Cx) (c : Nat) : Prop where
  mg : X.mg (clsStr c) = some (.ref (He.ga X.K (clsStr c)))
  makes : PySem.W.makesIn X.K (He.ga X.K (clsStr c)) = true
  kp : PySem.W.keepIn X.K (.ref (He.ga X.K (clsStr c))) = true
  ok : ClsOk X.K c
/-- C(..) makes an instance -/
theorem make_callAs {n c k : Nat} {ks : List Str} {src : List Src} {Fn : Fns} {fd : Fd} {A : Around} (tk : Takes X W) (M : MkAt X c) (F : FnAt X n (Fn (mnum c 0)) (locM X.K c 0) fd) (z : Near X (n + 1) A) (hq : kwFit fd (k + 1) ks src = true) :
    CallAs X W A (.ref (He.ga X.K (clsStr c))) k ks (fun ws zs m => mkW Fn c ws zs src m) := by
  intro pins s σ H Q ρ m vs zs us xs ws ys I rv rz rel pw py hk hks h
  simp only [] at h
  have hx : H (s.heap.objs.size + 1) = none := I.hok.fresh (Nat.le_succ _)
  have hdx : H s.heap.objs.size = none := I.hok.fresh (Nat.le_refl _)
  have hne : s.heap.objs.size ≠ s.heap.objs.size + 1 := Nat.ne_of_lt (Nat.lt_succ_self _)
  have I2 := Inv.made (C := He.ga X.K (clsStr c)) I
  have la := later_upd (o := .own (s.heap.objs.size + 1)) rel hdx
  have ra := rel.upd (o := .own (s.heap.objs.size + 1)) hdx
  have hx' : upd H s.heap.objs.size (.own (s.heap.objs.size + 1)) (s.heap.objs.size + 1) = none := by rw [upd_ne (fun e => hne e.symm)]; exact hx
  obtain ⟨lb, rb⟩ := new_cellG (y := .ins c []) (o := .ins (He.ga X.K (clsStr c)) s.heap.objs.size []) ra hx' ⟨M.ok, s.heap.objs.size, [], upd_same, .nil⟩
  have l2 := la.trans lb
  have hself : (ρ.c ++ [s.heap.objs.size + 1])[m.length]? = some (s.heap.objs.size + 1) := by
    rw [← rel.len, List.getElem?_append_right (Nat.le_refl _)]
    simp
  obtain ⟨b, ⟨lc, lm⟩, kp, C⟩ := fn_call (k := k + 1) (A := A.under (.builtin "type.__call__" ⟨.ref (He.ga X.K (clsStr c)) :: us, ks.zip xs⟩)) tk F (z.make _ _ _) hq
  refine make_map (f := b) I.kIn M.makes lm.at_ (beq_iff_eq.mp lm.fn) (codeAny_mono (C pins _ σ _ (fun v H2 => v = .non ∧ Q (.ref (s.heap.objs.size + 1)) H2) ⟨ρ.c ++ [s.heap.objs.size + 1], ρ.g⟩ (m ++ [.ins c []]) (.ref (s.heap.objs.size + 1) :: vs) zs (.ref (s.heap.objs.size + 1) :: us) xs (.c m.length :: ws) ys I2 (.cons rfl rv) rz rb
    (.cons ⟨_, hself, rfl⟩ (pw.later l2)) (py.later l2) (by simp [hk]) hks ?_) fun r s' hq' => ?_)
  · unfold mkW at h
    refine h.bind.mono (fun x m' w => w.later l2) fun w m2 k v ρ2 H2 l3 r2 q2 => ?_
    unfold madeR at k
    split at k
    · cases q2
      refine ⟨rfl, ?_⟩
      cases q3 : m2[m.length]? with
      | none => simp only [q3] at k; exact k.elim
      | some y =>
        simp only [q3] at k
        cases y with
        | ins c' fs =>
          have lf := l2.trans l3
          obtain ⟨lt, rt, ext⟩ := trunc rel lf r2
          have hx2 : ρ2.c[m.length]? = some (s.heap.objs.size + 1) := pre_get l3.pre hself
          obtain ⟨ok, dx', kvs, h1, h2⟩ := r2.cell _ _ _ hx2 q3
          refine k (.ref (s.heap.objs.size + 1)) ρ H2 lt rt (.ins ok (fun z => ?_) h1 (h2.ext ext))
          rcases List.mem_append.mp z with z | z
          · exact rel.freshG hx z
          · exact rel.fresh hx (lv_sub z)
        | _ => exact k.elim
    · exact k.elim
  · cases r with
    | error e => exact hq'
    | ok fl =>
      cases fl with
      | ret u =>
        obtain ⟨v, H', I3, rv, ev, q3⟩ := hq'
        subst ev
        exact ⟨rv, ⟨V.ref (s.heap.objs.size + 1), H', I3, rfl, q3⟩⟩
      | next => exact False.elim hq'
      | brk => exact False.elim hq'
      | cont => exact False.elim hq'
/-- a local's class is called -/
theorem s_dcall {n i : Nat} {x : Str} {p pos : Pos} {es : List Expr} {Fn : Fns} {G : Nat → Option D} {rs : Env → M → Res (List Oh.W)} (tk : Takes X W) (z : Near X (n + 1) X.A) (hN : X.N[i]? = some x) (hv : Vis X.env.scope x) (hdb : (x == ("__debug__" : Str)) = false) (hcd : (x == ("__classdict__" : Str)) = false)
    (hM : ∀ c, isFn (G (mnum c 0)) = true → MkAt X c ∧ ∃ fd, FnAt X n (Fn (mnum c 0)) (locM X.K c 0) fd) (Z : Argus X W es [] rs (fun _ m => .ok [] m)) :
    PE X (.Call (.Name x p) es [] pos) (tE X.K W fun s m => match s[i]? with | some (some w) => (match isMk G w with | some c => (rs s m).bind fun ws m1 => mkW Fn c ws [] [] m1 | none => .bad) | _ => .bad) := by
  refine ⟨fun pins s σ H Q I ⟨ρ, st, m, B, k⟩ => ?_⟩
  simp only [] at k
  cases e : st[i]? with
  | none => rw [e] at k; exact k.elim
  | some o =>
    cases o with
    | none => rw [e] at k; exact k.elim
    | some w =>
      rw [e] at k
      simp only [] at k
      obtain ⟨v, hv', r⟩ := B.env.get i w e
      refine wpAny_Call_Name_kw (thn ((pe_var (pos := p) hN hv hdb hcd).run pins s σ H (fun v' H1 => v' = v ∧ H1 = H) I ⟨v, hv', rfl, rfl⟩) fun u s1 ⟨v', H1, I1, r1, q1⟩ => ?_)
      obtain ⟨rfl, rfl⟩ := q1
      cases hc : isMk G w with
      | none => rw [hc] at k; exact k.elim
      | some c =>
        rw [hc] at k
        simp only [] at k
        unfold isMk at hc
        split at hc
        · split at hc
          · rename_i c' hc'
            cases hc
            obtain ⟨M, fd, F⟩ := hM c hc'
            cases r
            obtain rfl : u = Value.ref (He.ga X.K (clsStr c)) := r1
            exact args_callK (firstV := []) (fw := []) (first := []) (r := fun ws zs m => mkW Fn c ws zs [] m) M.kp (make_callAs tk M F z rfl) Z I1 B .nil .nil k
          · cases hc
        · cases hc
/-! ### name.f = value -/
theorem put_fld {K : PySem.W.Frag} {ρ : Rh} {m : M} {H : Hp} {n c dx : Nat} {p : Addr} {xs ds : List (Nat × D)} {vs : List (Str × V)} (r : Rel K ρ m H) (hp : ρ.c[n]? = some p) (hm : m[n]? = some (.ins c xs)) (ok : ClsOk K c) (rs : FReps K (lives ρ m) H vs ds) :
    Later ρ m H ρ (m.set n (.ins c ds)) (upd H p (.ins (He.ga K (clsStr c)) dx vs)) ∧ Rel K ρ (m.set n (.ins c ds)) (upd H p (.ins (He.ga K (clsStr c)) dx vs)) := by
  have hlt : n < m.length := (List.getElem?_eq_some_iff.mp hm).1
  have same : ∀ a, a ∈ lives ρ (m.set n (.ins c ds)) ↔ a ∈ lives ρ m := fun a => by
    unfold lives
    rw [List.mem_append, List.mem_append, lv_get, lv_get]
    refine or_congr Iff.rfl ⟨fun ⟨j, y, h1, h2, h3⟩ => ?_, fun ⟨j, y, h1, h2, h3⟩ => ?_⟩
    · by_cases e : n = j
      · subst e; exact ⟨n, .ins c xs, h1, hm, rfl⟩
      · rw [List.getElem?_set_ne e] at h2; exact ⟨j, y, h1, h2, h3⟩
    · by_cases e : n = j
      · subst e; exact ⟨n, .ins c ds, h1, List.getElem?_set_self hlt, rfl⟩
      · exact ⟨j, y, h1, by rw [List.getElem?_set_ne e]; exact h2, h3⟩
  have live : p ∈ lives ρ m := List.mem_append_right _ (lv_get.mpr ⟨n, .ins c xs, hp, hm, rfl⟩)
  have ex : Ext (lives ρ m) H (lives ρ (m.set n (.ins c ds))) (upd H p (.ins (He.ga K (clsStr c)) dx vs)) := fun a u h nl => ⟨by rw [upd_ne (fun z : a = p => nl (by rw [z]; exact live))]; exact h, fun q => nl ((same a).mp q)⟩
  have npg : ∀ a ∈ ρ.g, a ≠ p := fun a h z => (r.prv a h).1 (by rw [z]; exact List.mem_of_getElem? hp)
  refine ⟨⟨List.prefix_rfl, rfl, ex, fun a h => upd_ne (npg a h)⟩, ⟨by simp [r.len], r.nd, fun j a y h1 h2 => ?_, fun a h => ?_⟩⟩
  · by_cases e : n = j
    · subst e
      rw [hp] at h1; cases h1
      rw [List.getElem?_set_self hlt] at h2; cases h2
      exact ⟨ok, dx, vs, upd_same, rs.ext ex⟩
    · rw [List.getElem?_set_ne e] at h2
      refine (r.cell j a y h1 h2).ext ex fun u h => ?_
      rw [upd_ne (fun z : a = p => e ?_)]
      · exact h
      · rw [z] at h1
        obtain ⟨l1, e1⟩ := List.getElem?_eq_some_iff.mp hp
        obtain ⟨l2, e2⟩ := List.getElem?_eq_some_iff.mp h1
        exact (List.getElem_inj r.nd).mp (e1.trans e2.symm)
  · obtain ⟨h1, u, e⟩ := r.prv a h
    exact ⟨h1, u, by rw [upd_ne (npg a h)]; exact e⟩
theorem s_fset {st : Stmt} {f : Nat} {rv ro : Env → M → Res Oh.W} (hf : f < manyAt) (h : PS X st (sFld X.K (tE X.K W ro) (tE X.K W rv) (atStr f))) :
    PS X st (tS X.K W fun s m => (rv s m).bindS s fun v m1 => (ro s m1).bindS s fun o m2 => (fldCell f o v m2).bindS s fun _ m3 => .ok (.nx s) m3) := ps_m h fun D σ H ⟨ρ, s, m, B, k⟩ => by
  refine seqS B k fun v m1 x ρ1 H1 l1 B1 r1 k1 => ?_
  refine seqS B1 k1 fun o m2 y ρ2 H2 l2 B2 r2 k2 => ?_
  unfold fldCell at k2
  split at k2
  · rename_i n d
    cases q : m2[n]? with
    | none => simp only [q] at k2; exact k2.elim
    | some z =>
      simp only [q] at k2
      cases z with
      | ins c fs =>
        simp only [] at k2
        split at k2
        · rename_i hc
          rw [Bool.and_eq_true, decide_eq_true_eq] at hc
          obtain ⟨p, e1, rfl⟩ := r2
          obtain ⟨ok, dx, kvs, h1, h2⟩ := B2.rel.cell n p _ e1 q
          have rx := r1.later l2
          obtain ⟨l3, r3⟩ := put_fld (dx := dx) B2.rel e1 q ok (h2.put hf rx)
          exact ⟨p, _, dx, kvs, rfl, h1, ok.cls, ok.noat f (by simpa using hc.2), by rw [h2.length]; omega, k2 σ ρ2 _ l3 (B2.later l3 r3)⟩
        · exact k2.elim
      | dead => exact k2.elim
      | lst _ => exact k2.elim
      | dct _ => exact k2.elim
      | tab _ => exact k2.elim
      | lams _ => exact k2.elim
      | wl _ => exact k2.elim
  · exact k2.elim
/-- a class as a value -/
theorem s_cls {c : Nat} {p : Pos} (hm : X.mg (clsStr c) = some (.ref (He.ga X.K (clsStr c)))) (hg : Gl X (clsStr c)) (hdb : (clsStr c == ("__debug__" : Str)) = false) : PE X (.Name (clsStr c) p) (tE X.K W fun _ m => .ok (.p (.cls c)) m) :=
  s_const (pe_glob hg hm (show RelV (.ref (He.ga X.K (clsStr c))) _ from rfl) hdb) fun _ _ => .cls c
/-- a reading goes on -/
theorem tG_mono {α β : Type} {K : PySem.W.Frag} {R : Rh → M → Hp → β → α → Prop} {r : Env → M → Res α} {σ : St} {H : Hp} {Q Q' : β → Hp → Prop} (h : tG K W R r σ H Q) (k : ∀ b H', Q b H' → Q' b H') : tG K W R r σ H Q' := by
  obtain ⟨ρ, s, m, B, h⟩ := h
  exact ⟨ρ, s, m, B, h.mono (fun _ _ z => z) fun a m' z b ρ' H' l rr q => k b H' (z b ρ' H' l rr q)⟩
end
end Oh

set_option Elab.async false
set_option linter.all false
set_option maxRecDepth 100000
set_option maxHeartbeats 2000000
set_option autoImplicit false
/-! OhA: + and * by an own __add__, __mul__, at the library's level -/
namespace Oh
open PySem L2
section
variable {prog : Program} {w : World} {A : Around} {E : Value → Shared → Prop} {s : Shared} {K : PySem.W.Frag} {x y C C2 f : Addr} {ox oy : Obj} {od od2 : Option Obj} {b tb : Value}
/-- what is said of an attribute that a class has not -/
def msgOf (n nm : Str) : Str := ((s!"type object '{n.toString}' has no attribute '" : String) : Str) ++ nm ++ "'"
def msgOk (K : PySem.W.Frag) (C : Addr) (nm : Str) : Bool := match PySem.W.clsIn K C with
  | some cd => decide (cd.name.cps.foldl (fun k c => k + (Str.utf8Of c).length) 0 ≤ 100) && decide ((msgOf cd.name nm).length ≤ sizeLine)
  | none => false
theorem raise_ae {α : Type} {msg : Str} {Q : α → Shared → Prop} (hh : A.handled = none) (hm : msg.length ≤ sizeLine)
    (h : ∀ h' tk e, (∀ b o, s.heap.get? b = some o → h'.get? b = some o) → (∃ oe, h'.get? e = some oe ∧ oe.cls = .type "AttributeError") → E (.ref e) { s with heap := h', toks := tk }) : wpAny (model prog w) A (raiseErrorStr "AttributeError" msg : Sem α) Q E s := by
  unfold raiseErrorStr newExc newTuple
  refine wpAny_bind (wpAny_mkStr (wpAny_bind (wpAny_bind (wpAny_newObj_type ?_ (by size_fits)))) hm)
  have e0 : ∀ x : List Value, firstArgMember (.type "AttributeError") x = pure Value.none := fun x => by simp only [firstArgMember, attrError_no_first]; rfl
  rw [e0, ownMembersOf_AttributeError]
  refine wpAny_bind (wpAny_pure (wpAny_newObj_type ?_ (by size_fits)))
  unfold raiseNew
  refine wpAny_bind (wpAny_handled ?_); rw [hh]
  first
    | exact wpAny_throw (h _ _ _ (fun b o hb => Heap.get?_push_of_some _ (Heap.get?_push_of_some _ hb)) ⟨_, Heap.get?_push_size _ rfl, rfl⟩)
    | exact wpAny_bind (wpAny_pure (wpAny_throw (h _ _ _ (fun b o hb => Heap.get?_push_of_some _ (Heap.get?_push_of_some _ hb)) ⟨_, Heap.get?_push_size _ rfl, rfl⟩)))
theorem type_no_hook : typeLookup (.type "type") "__getattr__" = pure none := am_miss_of_fast (by decide +kernel)
theorem no_attr {nm : Str} {tk : Tok} {Q : Option Value → Shared → Prop} (X : K.In s.heap) (hr : PySem.W.readsIn K C (.type "type") = true) (h1 : PySem.W.findIn K (.type "type") nm = some none) (h2 : PySem.W.findIn K (.ref C) nm = some none) (hm : msgOk K C nm = true) (hh : A.handled = none)
    (h : ∀ h' tk', (∀ b o, s.heap.get? b = some o → h'.get? b = some o) → Q none { s with heap := h', toks := tk' }) : wpAny (model prog w) A (getAttrBy? (.ref C) (.str nm tk)) Q E s := by
  simp only [PySem.W.readsIn, Bool.and_eq_true, beq_iff_eq] at hr
  obtain ⟨⟨⟨⟨a, b⟩, c'⟩, d⟩, i⟩ := hr
  unfold msgOk at hm
  cases hcd : PySem.W.clsIn K C with
  | none => rw [hcd] at hm; cases hm
  | some cd =>
    rw [hcd] at hm
    simp only [Bool.and_eq_true, decide_eq_true_eq] at hm
    have ht := PySem.W.looks_typeIn (M := model prog w) X b
    have hx2 : (Value.builtin "type.__getattribute__" == Value.builtin "object.__getattribute__") = false := by decide +kernel
    unfold getAttrBy? getAttrBy
    refine wpAny_bind (wpAny_attempt (wpAny_holding (wpAny_bind (ht.here (wpAny_bind ((PySem.W.looks_findIn X c').here ?_))))))
    dsimp only
    rw [hx2, Bool.and_false, if_neg Bool.false_ne_true]
    unfold getAttrByItsOwn hookBefore
    refine wpAny_bind (wpAny_pure (wpAny_bind (wpAny_attempt (wpAny_holding ?_))))
    unfold callGetattribute
    rw [Bool.false_and, if_neg Bool.false_ne_true]
    unfold boundAndCalled
    rw [PySem.W.KF.slot_tga.bind]
    refine wpAny_bind (wpAny_pure ?_)
    show wpAny _ _ (call (.builtin "type.__getattribute__") [.ref C, .str nm tk]) _ _ _
    refine wpAny_call (codeAny_call_builtin PySem.W.KF.slot_tga.plain PySem.W.KF.entry_tga (@PySem.W.check_slot (model prog w) _ _ s "type.__getattribute__" "type" "__getattribute__" (.ref C) [.str nm tk] [] _ (by decide +kernel) (by decide +kernel) (ht.andThen (PySem.W.looks_subIn X i)) (PySem.W.KF.args_tga _ _) ?_))
    unfold Builtin.«type.__getattribute__»
    refine wpAny_bind (wpAny_pure (wpAny_bind ((PySem.W.looks_opaque X a).here (wpAny_bind (ht.here (wpAny_bind ((PySem.W.looks_findIn X h1).here ?_)))))))
    refine wpAny_bind (wpAny_pure ?_)
    refine wpAny_bind ((PySem.W.looks_findIn X h2).here ?_)
    dsimp only
    refine wpAny_bind (wpAny_rule ?_)
    unfold typeNameCut
    refine wpAny_bind (wpAny_bind ((PySem.W.looks_clsIn X hcd).here ?_))
    dsimp only
    rw [if_pos hm.1]
    refine wpAny_pure (raise_ae (A := A.in1) hh hm.2 fun h' tk' e kp ⟨oe, he, hc⟩ => ?_)
    have q := h h' tk' kp
    obtain ⟨hp, g, dr, t, os⟩ := s
    have hT : (⟨h', g, dr, tk', os⟩ : Shared).TypeIs (.ref e) "AttributeError" := ⟨oe, he, hc⟩
    have f1 := sub_AttributeError
    have f2 := type_no_hook
    unfold getattributeRaised hookBehind
    repeat (any_goals (first | assumption | wp_step))
/-- what is seen of a class with an own operator -/
structure OpAt (K : PySem.W.Frag) (C : Addr) (nm : String) (f : Addr) : Prop where
  first : PySem.W.selfFirst K C = true
  fn : PySem.W.findIn K (.ref C) (PySem.dunder nm) = some (some (.ref f))
  isf : PySem.W.isFn K (.ref f) = true
  refl : PySem.W.findIn K (.ref C) (dunderR nm) = some none
  reads : PySem.W.readsIn K C (.type "type") = true
  ty : PySem.W.findIn K (.type "type") (dunderR nm) = some none
  msg : msgOk K C (dunderR nm) = true
variable {nm : String}
theorem OpAt.fills {M : Model} {h : Heap} (o : OpAt K C nm f) (X : K.In h) : PySem.W.Looks M h (fillsNumberSlot (.ref C) nm) true := by
  obtain ⟨cd, rest, hcd, hm⟩ := PySem.W.ksp_first o.first
  exact PySem.W.fills_K X hcd hm o.fn
theorem OpAt.py {M : Model} {h : Heap} (o : OpAt K C nm f) (X : K.In h) : PySem.W.Looks M h (numberSlotInPython (.ref C) nm) true := PySem.W.ksp_inPy X o.fn o.refl (.inl rfl)
theorem refl_no {f2 : Addr} {Q : Bool → Shared → Prop} (X : K.In s.heap) (o : OpAt K C nm f) (o2 : OpAt K C2 nm f2) (hsz : (dunderR nm).length ≤ sizeLine) (hh : A.handled = none)
    (h : ∀ h' tk', (∀ b o, s.heap.get? b = some o → h'.get? b = some o) → Q false { s with heap := h', toks := tk' }) : wpAny (model prog w) A (reflectedDiffers (.ref C) (.ref C2) nm) Q E s := by
  unfold reflectedDiffers
  refine wpAny_bind ((o.py X).here ?_)
  rw [if_neg (by decide)]
  refine wpAny_bind ((o2.py X).here ?_)
  rw [if_neg (by decide)]
  refine wpAny_bind (wpAny_mkStr (wpAny_bind (no_attr X o2.reads o2.ty o2.refl o2.msg hh fun h' tk' kp => wpAny_pure (h h' tk' kp))) hsz)
theorem bin_same {op : Operator} {Q : Value → Shared → Prop} (X : K.In s.heap) (I : PySem.W.InstAt s.heap x ox C od) (o : OpAt K C op.info.2 f) (hb : PySem.W.Looks (model prog w) s.heap (typeOf b) (.ref C))
    (h : wpAny (model prog w) A (call (.ref f) [.ref x, b]) (PySem.W.CmpBack Q) E s) : wpAny (model prog w) A (binaryOp op (.ref x) b) Q E s := by
  have one := PySem.W.ksp_try X I o.fn o.isf h
  unfold binaryOp binaryOp1
  refine wpAny_holding (wpAny_bind (wpAny_bind (I.type.here (wpAny_bind (hb.here (wpAny_bind ((o.fills X).here ?_)))))))
  simp only [BEq.rfl, ↓reduceIte]
  refine wpAny_bind (wpAny_pure ?_); simp only [Bool.and_false, Bool.false_and, Bool.false_eq_true, ↓reduceIte]
  refine wpAny_bind (wpAny_pure ?_); simp only [Bool.false_eq_true, ↓reduceIte]
  refine wpAny_bind (wpAny_mono one (fun r s' ⟨v, e, q⟩ => ?_) fun _ _ e => e)
  subst e
  exact wpAny_pure (wpAny_pure q)
theorem bin_two {f2 : Addr} {op : Operator} {sb : Bool} {Q : Value → Shared → Prop} (X : K.In s.heap) (I : PySem.W.InstAt s.heap x ox C od) (J : PySem.W.InstAt s.heap y oy C2 od2) (hne : C2 ≠ C) (o : OpAt K C op.info.2 f) (o2 : OpAt K C2 op.info.2 f2)
    (hsub : PySem.W.subIn K (.ref C2) (.ref C) = some sb) (hsz : (dunderR op.info.2).length ≤ sizeLine) (hh : A.handled = none)
    (h : ∀ h' tk', (∀ b o, s.heap.get? b = some o → h'.get? b = some o) → wpAny (model prog w) A (call (.ref f) [.ref x, .ref y]) (PySem.W.CmpBack Q) E { s with heap := h', toks := tk' }) : wpAny (model prog w) A (binaryOp op (.ref x) (.ref y)) Q E s := by
  have hn : (Value.ref C == Value.ref C2) = false := by simp; exact fun e => hne e.symm
  rcases hi : op.info with ⟨sym, nm'⟩
  rw [hi] at o o2 hsz
  dsimp only at o o2 hsz
  have try1 : ∀ h' tk', (∀ b o, s.heap.get? b = some o → h'.get? b = some o) → K.In h' ∧ wpAny (model prog w) A (tryMethod (.ref x) (PySem.dunder nm') (.ref y)) (fun r s' => ∃ v, r = some v ∧ Q v s') E { s with heap := h', toks := tk' } := fun h' tk' kp => by
    have X' : K.In h' := X.keeps kp
    have I' : PySem.W.InstAt h' x ox C od := ⟨kp _ _ I.at_, I.cls, I.no, by
      have := I.dict
      revert this
      cases ox.dict <;> cases od <;> first | exact fun q => q | exact fun q => kp _ _ q⟩
    exact ⟨X', PySem.W.ksp_try (s := { s with heap := h', toks := tk' }) X' I' o.fn o.isf (h h' tk' kp)⟩
  obtain ⟨hp, g, d, t, os⟩ := s
  have L1 : PySem.W.Looks (model prog w) hp (typeOf (.ref x)) (.ref C) := I.type
  have L2 : PySem.W.Looks (model prog w) hp (typeOf (.ref y)) (.ref C2) := J.type
  have L3 : PySem.W.Looks (model prog w) hp (fillsNumberSlot (.ref C) nm') true := o.fills X
  have L4 : PySem.W.Looks (model prog w) hp (fillsNumberSlot (.ref C2) nm') true := o2.fills X
  have L5 : PySem.W.Looks (model prog w) hp (isSubtype (.ref C2) (.ref C)) sb := PySem.W.looks_subIn X hsub
  have L6 : PySem.W.Looks (model prog w) hp (numberSlotInPython (.ref C) nm') true := o.py X
  have L7 : PySem.W.Looks (model prog w) hp (numberSlotInPython (.ref C2) nm') true := o2.py X
  simp only [binaryOp, hi]
  refine wpAny_holding (wpAny_bind ?_)
  unfold binaryOp1
  refine wpAny_bind (L1.at (wpAny_bind (L2.at (wpAny_bind (L3.at ?_)))))
  simp only [hn, Bool.false_eq_true, if_false]
  cases sb with
  | false =>
    ksp_lk
    refine wpAny_mono (try1 hp t fun _ _ e => e).2 (fun r s' ⟨v, e, q⟩ => ?_) fun _ _ e => e
    subst e
    ksp_lk
    exact q
  | true =>
    refine wpAny_bind (L4.at ?_)
    simp only [Bool.and_self, if_true]
    refine wpAny_bind (L5.at ?_)
    simp only [if_true]
    refine wpAny_bind (refl_no (s := ⟨hp, g, d, t, os⟩) X o o2 hsz hh fun h' tk' kp => ?_)
    obtain ⟨X', one⟩ := try1 h' tk' kp
    have L6 : PySem.W.Looks (model prog w) h' (numberSlotInPython (.ref C) nm') true := o.py X'
    have L7 : PySem.W.Looks (model prog w) h' (numberSlotInPython (.ref C2) nm') true := o2.py X'
    ksp_lk
    refine wpAny_mono one (fun r s' ⟨v, e, q⟩ => ?_) fun _ _ e => e
    subst e
    ksp_lk
    exact q
theorem bin_int {op : Operator} {fo ro : Option Value} {i : Int} {tk : Tok} {Q : Value → Shared → Prop} (X : K.In s.heap) (I : PySem.W.InstAt s.heap x ox C od) (o : OpAt K C op.info.2 f)
    (h1 : PySem.W.findIn K (.type "int") (PySem.dunder op.info.2) = some fo) (h2 : PySem.W.findIn K (.type "int") (dunderR op.info.2) = some ro) (hsub : PySem.W.subIn K (.type "int") (.ref C) = some false)
    (h : wpAny (model prog w) A (call (.ref f) [.ref x, .int i tk]) (PySem.W.CmpBack Q) E s) : wpAny (model prog w) A (binaryOp op (.ref x) (.int i tk)) Q E s := by
  rcases hi : op.info with ⟨sym, nm'⟩
  rw [hi] at o h1 h2
  dsimp only at o h1 h2
  have one := PySem.W.ksp_try X I o.fn o.isf h
  obtain ⟨hp, g, d, t, os⟩ := s
  have L1 : PySem.W.Looks (model prog w) hp (typeOf (.ref x)) (.ref C) := I.type
  have L2 : PySem.W.Looks (model prog w) hp (typeOf (.int i tk)) (.type "int") := PySem.W.Looks.of_pure rfl
  have L3 : PySem.W.Looks (model prog w) hp (fillsNumberSlot (.ref C) nm') true := o.fills X
  have L4 := PySem.W.ksp_fillsT (M := model prog w) X h1 h2
  have L5 : PySem.W.Looks (model prog w) hp (isSubtype (.type "int") (.ref C)) false := PySem.W.looks_subIn X hsub
  have L6 : PySem.W.Looks (model prog w) hp (numberSlotInPython (.ref C) nm') true := o.py X
  have L7 : PySem.W.Looks (model prog w) hp (numberSlotInPython (.type "int") nm') false := PySem.W.Looks.of_pure rfl
  have L8 : PySem.W.Looks (model prog w) hp (typeLookup (.type "int") (dunderR nm')) ro := PySem.W.looks_findIn X h2
  obtain ⟨right, L4⟩ : ∃ r, PySem.W.Looks (model prog w) hp (fillsNumberSlot (.type "int") nm') r := ⟨_, L4⟩
  have hne : (Value.ref C == Value.type "int") = false := by simp
  simp only [binaryOp, hi]
  refine wpAny_holding (wpAny_bind ?_)
  unfold binaryOp1
  refine wpAny_bind (L1.at (wpAny_bind (L2.at (wpAny_bind (L3.at ?_)))))
  simp only [hne, Bool.false_eq_true, if_false]
  cases right <;> (ksp_lk; refine wpAny_mono one (fun r s' ⟨v, e, q⟩ => ?_) fun _ _ e => e; subst e; ksp_lk; exact q)
/-- the right operand of a built-in type -/
theorem bin_ty {T : String} {op : Operator} {fo ro : Option Value} {u : Value} {Q : Value → Shared → Prop} (X : K.In s.heap) (I : PySem.W.InstAt s.heap x ox C od) (o : OpAt K C op.info.2 f) (ht : PySem.W.Looks (model prog w) s.heap (typeOf u) (.type T))
    (h1 : PySem.W.findIn K (.type T) (PySem.dunder op.info.2) = some fo) (h2 : PySem.W.findIn K (.type T) (dunderR op.info.2) = some ro) (hsub : PySem.W.subIn K (.type T) (.ref C) = some false)
    (h : wpAny (model prog w) A (call (.ref f) [.ref x, u]) (PySem.W.CmpBack Q) E s) : wpAny (model prog w) A (binaryOp op (.ref x) u) Q E s := by
  rcases hi : op.info with ⟨sym, nm'⟩
  rw [hi] at o h1 h2
  dsimp only at o h1 h2
  have one := PySem.W.ksp_try X I o.fn o.isf h
  obtain ⟨hp, g, d, t, os⟩ := s
  have L1 : PySem.W.Looks (model prog w) hp (typeOf (.ref x)) (.ref C) := I.type
  have L2 : PySem.W.Looks (model prog w) hp (typeOf u) (.type T) := ht
  have L3 : PySem.W.Looks (model prog w) hp (fillsNumberSlot (.ref C) nm') true := o.fills X
  have L4 := PySem.W.ksp_fillsT (M := model prog w) X h1 h2
  have L5 : PySem.W.Looks (model prog w) hp (isSubtype (.type T) (.ref C)) false := PySem.W.looks_subIn X hsub
  have L6 : PySem.W.Looks (model prog w) hp (numberSlotInPython (.ref C) nm') true := o.py X
  have L7 : PySem.W.Looks (model prog w) hp (numberSlotInPython (.type T) nm') false := PySem.W.Looks.of_pure rfl
  have L8 : PySem.W.Looks (model prog w) hp (typeLookup (.type T) (dunderR nm')) ro := PySem.W.looks_findIn X h2
  obtain ⟨right, L4⟩ : ∃ r, PySem.W.Looks (model prog w) hp (fillsNumberSlot (.type T) nm') r := ⟨_, L4⟩
  have hne : (Value.ref C == Value.type T) = false := by simp
  simp only [binaryOp, hi]
  refine wpAny_holding (wpAny_bind ?_)
  unfold binaryOp1
  refine wpAny_bind (L1.at (wpAny_bind (L2.at (wpAny_bind (L3.at ?_)))))
  simp only [hne, Bool.false_eq_true, if_false]
  cases right <;> (ksp_lk; refine wpAny_mono one (fun r s' ⟨v, e, q⟩ => ?_) fun _ _ e => e; subst e; ksp_lk; exact q)
end
end Oh

set_option Elab.async false
set_option linter.all false
set_option maxRecDepth 100000
set_option maxHeartbeats 2000000
set_option autoImplicit false
/-! OhJ: operators of own classes -/
namespace Oh
open PySem L2
variable [Lcl]
/-! ### == and != by an own __eq__, at the library's level -/
section
variable {prog : Program} {w : World} {A : Around} {E : Value → Shared → Prop} {s : Shared} {K : PySem.W.Frag} {x y C C2 f : Addr} {ox oy : Obj} {od od2 : Option Obj} {b tb : Value}
theorem try_eq {M : Model} {Q : Option Value → Shared → Prop} (X : K.In s.heap) (I : PySem.W.InstAt s.heap x ox C od) (hs : PySem.W.findIn K (.ref C) "__eq__" = some (some (.ref f))) (hf : PySem.W.isFn K (.ref f) = true)
    (h : wpAny M A (call (.ref f) [.ref x, b]) (fun v s' => ∃ k, v = .bool k ∧ Q (some (.bool k)) s') E s) : wpAny M A (tryCompare (.ref x) "__eq__" b) Q E s := by
  unfold tryCompare
  refine wpAny_bind (PySem.W.ifBound_K X I hs hf (wpAny_mono h (fun v s' hv => ?_) fun _ _ e => e))
  obtain ⟨k, rfl, q⟩ := hv
  exact wpAny_pure q
theorem try_ne {Q : Option Value → Shared → Prop} (hu : A.in1.units < cLine) (X : K.In s.heap) (I : PySem.W.InstAt s.heap x ox C od) (hm : PySem.W.mroIn K C (.type "object") = some true) (hs : PySem.W.findIn K (.ref C) "__eq__" = some (some (.ref f))) (hf : PySem.W.isFn K (.ref f) = true)
    (hn : PySem.W.findIn K (.ref C) "__ne__" = some (some (.builtin "object.__ne__")))
    (h : wpAny (model prog w) A.in1 (call (.ref f) [.ref x, b]) (fun v s' => ∃ k, v = .bool k ∧ Q (some (.bool (!k))) s') E s) : wpAny (model prog w) A (tryCompare (.ref x) "__ne__" b) Q E s := by
  unfold tryCompare
  refine wpAny_bind (NtL.csib (id := "object.__ne__") (I.type.andThen (PySem.W.looks_findIn X hn)) (F.cmp_object.ne.bind _) ?_)
  refine wpAny_call (codeAny_call_builtin F.cmp_object.ne.plain F.cmpEntry_ne (PySem.W.check_slot F.cmpKind_ne F.cmpSplit_ne (I.type.andThen (PySem.W.looks_mroIn X hm)) (F.cmpArgs_ne _ _) ?_))
  unfold Builtin.«object.__ne__»
  refine wpAny_bind (m := slotArgs "__ne__" 1 _) (wpAny_pure ?_)
  refine wpAny_bind (wpAny_cRoomFor hu ?_)
  refine wpAny_bind (PySem.W.ifBound_K X I hs hf (wpAny_mono h (fun v s' hv => ?_) fun _ _ e => e))
  obtain ⟨k, rfl, q⟩ := hv
  refine wpAny_bind (m := truthy (.bool k)) (wpAny_truthy_bool ?_)
  exact wpAny_pure (wpAny_pure q)
theorem rich_left {op : CmpOp} {Q : Value → Shared → Prop} (hu : A.units < cLine) (X : K.In s.heap) (I : PySem.W.InstAt s.heap x ox C od) (hb : PySem.W.Looks (model prog w) s.heap (typeOf b) tb) (hn : tb = .ref C ∨ PySem.W.subIn K tb (.ref C) = some false)
    (h : wpAny (model prog w) A (tryCompare (.ref x) (cmpInfo op).2.1 b) (fun r s' => ∃ v, r = some v ∧ Q v s') E s) : wpAny (model prog w) A (richCompare op (.ref x) b) Q E s := by
  unfold richCompare
  simp only [oneThing_ref]
  refine wpAny_holding (wpAny_bind (wpAny_cRoomFor hu ?_))
  refine wpAny_bind (I.type.here (wpAny_bind (hb.here ?_)))
  have fin : ∀ {t : Sem Value}, wpAny (model prog w) A (do
      if let some v ← tryCompare (.ref x) (cmpInfo op).2.1 b then return v
      t) Q E s := fun {t} => wpAny_bind (wpAny_mono h (fun r s' z => by
        obtain ⟨v, rfl, q⟩ := z
        exact wpAny_pure q) fun _ _ e => e)
  split
  · rename_i q
    have e : PySem.W.subIn K tb (.ref C) = some false := by
      rcases hn with e | e
      · rw [e] at q; simp at q
      · exact e
    refine wpAny_bind ((PySem.W.looks_subIn X e).here ?_)
    simp only [Bool.false_eq_true, if_false]
    exact fin
  · refine wpAny_bind (wpAny_pure ?_)
    simp only [Bool.false_eq_true, if_false]
    exact fin
theorem rich_right {op : CmpOp} {Q : Value → Shared → Prop} (hu : A.units < cLine) (X : K.In s.heap) (I : PySem.W.InstAt s.heap x ox C od) (J : PySem.W.InstAt s.heap y oy C2 od2) (hne : C2 ≠ C) (hn : PySem.W.subIn K (.ref C2) (.ref C) = some true)
    (h : wpAny (model prog w) A (tryCompare (.ref y) (cmpInfo op).2.2 (.ref x)) (fun r s' => ∃ v, r = some v ∧ Q v s') E s) : wpAny (model prog w) A (richCompare op (.ref x) (.ref y)) Q E s := by
  unfold richCompare
  simp only [oneThing_ref]
  refine wpAny_holding (wpAny_bind (wpAny_cRoomFor hu ?_))
  refine wpAny_bind (I.type.here (wpAny_bind (J.type.here ?_)))
  split
  · refine wpAny_bind ((PySem.W.looks_subIn X hn).here ?_)
    simp only [if_true]
    refine wpAny_bind (wpAny_mono h (fun r s' z => ?_) fun _ _ e => e)
    obtain ⟨v, rfl, q⟩ := z
    exact wpAny_bind (wpAny_rule (wpAny_pure q))
  · rename_i q
    exfalso
    apply q
    simp
    exact fun e => hne e.symm
end

/-! ### what is asked of the classes -/
def kinds : List String := ["NoneType", "bool", "int", "str", "list", "tuple", "dict"]
/-- a class with an own + or * -/
structure OpK (K : PySem.W.Frag) (C : Addr) (nm : String) : Prop where
  first : PySem.W.selfFirst K C = true
  refl : PySem.W.findIn K (.ref C) (dunderR nm) = some none
  reads : PySem.W.readsIn K C (.type "type") = true
  msg : msgOk K C (dunderR nm) = true
structure KitAt (K : PySem.W.Frag) (G : Nat → Option D) : Prop where
  sub : ∀ c c2, isFn (G (mnum c 0)) = true → isFn (G (mnum c2 0)) = true → PySem.W.subIn K (.ref (He.ga K (clsStr c2))) (.ref (He.ga K (clsStr c))) = some ((above c2).contains c) ∧
    PySem.W.kitOne K (.ref (He.ga K (clsStr c2))) (.ref (He.ga K (clsStr c))) = some ((above c2).contains c) ∧ (c2 ≠ c → He.ga K (clsStr c2) ≠ He.ga K (clsStr c))
  ty : ∀ c, isFn (G (mnum c 0)) = true → ∀ t ∈ kinds, PySem.W.subIn K (.type t) (.ref (He.ga K (clsStr c))) = some false ∧ PySem.W.kitOne K (.type t) (.ref (He.ga K (clsStr c))) = some false
  ne : ∀ c, isFn (G (mnum c 22)) = true → PySem.W.findIn K (.ref (He.ga K (clsStr c))) "__ne__" = some (some (.builtin "object.__ne__"))
  ops : ∀ c op, opMay op = true → isFn (G (mnum c (opNum op))) = true → OpK K (He.ga K (clsStr c)) (opA op).info.2
  gi : ∀ c f, isFn (G (mnum c 21)) = true → PySem.W.findIn K (.ref (He.ga K (clsStr c))) "__getitem__" = some (some (.ref f)) → PySem.W.fnIn K f = true
/-- a value's type -/
theorem ty_see {K : PySem.W.Frag} {L : List Addr} {H : Hp} {v : V} {d : D} (s : See K L H v d) (hs : (isiD d 0).isSome = true) : ∃ t : Value, TyX K H v t ∧ ((∃ c fs, d = .ins c fs ∧ t = .ref (He.ga K (clsStr c)) ∧ ClsOk K c) ∨ ((∀ c fs, d ≠ .ins c fs) ∧ ∃ n ∈ kinds, t = .type n)) := by
  have no : ∀ {d' : D} {n : String}, n ∈ kinds → (∀ c fs, d' ≠ .ins c fs) → (∃ c fs, d' = .ins c fs ∧ (Value.type n) = .ref (He.ga K (clsStr c)) ∧ ClsOk K c) ∨ ((∀ c fs, d' ≠ .ins c fs) ∧ ∃ m ∈ kinds, (Value.type n) = .type m) := fun h k => .inr ⟨k, _, h, rfl⟩
  cases s with
  | rep r =>
    cases r with
    | non => exact ⟨_, .base .non, no (by decide) (by simp)⟩
    | bl x => exact ⟨_, .base (.bl x), no (by decide) (by simp)⟩
    | int i => exact ⟨_, .base (.int i), no (by decide) (by simp)⟩
    | str x o => exact ⟨_, .base (.str _), no (by decide) (by simp)⟩
    | lst n h r => exact ⟨_, .base (.lst h), no (by decide) (by simp)⟩
    | tup h r =>
      rcases h with ⟨_, h⟩ | ⟨h, _⟩
      · exact ⟨_, .base (.tup h), no (by decide) (by simp)⟩
      · obtain ⟨o, h1, h2⟩ := TupAt.k h
        exact ⟨_, .kTuple h1 h2, no (by decide) (by simp)⟩
    | ty k h => cases hs
    | scr h => cases hs
    | ins o n h r => exact ⟨_, .base (.ins h o.cls o.ha o.hn o.htk o.hm), .inl ⟨_, _, rfl, rfl, o⟩⟩
    | cls c => cases hs
    | dct n h r => exact ⟨_, .base (.dK h), no (by decide) (by simp)⟩
  | cell h r => exact ⟨_, .base (.lst h), no (by decide) (by simp)⟩
  | celld h r => exact ⟨_, .base (.dK h), no (by decide) (by simp)⟩
/-- a two-place operation on a frame's values -/
def R2W (X : Cx) (r : R2) (f : Oh.W → Oh.W → M → Res Oh.W) : Prop := ∀ (ρ : Rh) (m : M) (H : Hp) (x y : V) (w1 w2 : Oh.W) (Q : VK), Rel X.K ρ m H → RepW X.K ρ (lives ρ m) H x w1 → RepW X.K ρ (lives ρ m) H y w2 →
  Aft (fun _ _ => False) (f w1 w2 m) (Got X.K ρ m H Q) → r x y H Q
/-- it raises nothing -/
def NoExc2 (f : Oh.W → Oh.W → M → Res Oh.W) : Prop := ∀ w1 w2 m x m', f w1 w2 m ≠ .exc x m'
theorem Aft.noExc {α : Type} {ω : D → M → Prop} {r : Res α} {Q : α → M → Prop} (h : Aft ω r Q) (n : ∀ x m', r ≠ .exc x m') : Aft (fun _ _ => False) r Q := by
  cases r with
  | ok a m => exact h
  | exc x m => exact absurd rfl (n x m)
  | bad => exact h
theorem noX_no {α : Type} {r : Res α} : ∀ x m', noX r ≠ .exc x m' := fun x m' h => by
  unfold noX at h
  split at h
  · cases h
  · rename_i h2
    exact h2 x m' h
theorem op2_no {f : D → D → Option D} {w1 w2 : Oh.W} {m : M} : ∀ x m', op2 f w1 w2 m ≠ .exc x m' := fun x m' h => by
  unfold op2 at h
  split at h
  · split at h <;> cases h
  · cases h
section
variable {X : Cx} {W : WX}
theorem s_op2W {e : Expr} {r : R2} {ra rb : Env → M → Res Oh.W} {f : Oh.W → Oh.W → M → Res Oh.W} (h : PE X e (tOp r (tE X.K W ra) (tE X.K W rb))) (ok : R2W X r f) (hn : NoExc2 f) :
    PE X e (tE X.K W fun s m => (ra s m).bind fun w1 m1 => (rb s m1).bind fun w2 m2 => f w1 w2 m2) := pe_m h fun σ H Q ⟨ρ, s, m, B, k⟩ => by
  refine seq B k fun w1 m1 x ρ1 H1 l1 B1 r1 k1 => ?_
  refine seq B1 k1 fun w2 m2 y ρ2 H2 l2 B2 r2 k2 => ?_
  exact ok ρ2 m2 H2 x y w1 w2 Q B2.rel (r1.later l2) r2 ((k2.noExc fun x m' => hn _ _ _ x m').mono (fun _ _ z => z) fun w m' g v ρ' H' l r q => g v ρ' H' ((l1.trans l2).trans l) r q)
theorem s_tcmpW {e : Expr} {r : R2} {ra rb : Env → M → Res Oh.W} {f : Oh.W → Oh.W → M → Res Oh.W} (h : PT X e (tTest (tOp r (tE X.K W ra) (tE X.K W rb)))) (ok : R2W X r f) (hn : NoExc2 f) :
    PT X e (tTe X.K W fun s m => ((ra s m).bind fun w1 m1 => (rb s m1).bind fun w2 m2 => f w1 w2 m2).bind test) := pt_m h fun σ H Q ⟨ρ, s, m, B, k⟩ => by
  have k := k.bind
  refine seq B k fun w1 m1 x ρ1 H1 l1 B1 r1 k1 => ?_
  refine seq B1 k1 fun w2 m2 y ρ2 H2 l2 B2 r2 k2 => ?_
  refine ok ρ2 m2 H2 x y w1 w2 _ B2.rel (r1.later l2) r2 ((k2.noExc fun x m' => hn _ _ _ x m').mono (fun _ _ z => z) fun w m' g v ρ' H' l r q => ?_)
  obtain ⟨b, rfl, k3⟩ := test_ok g
  cases q
  exact ⟨b, rfl, k3 _ ρ' H' ((l1.trans l2).trans l) r rfl⟩
theorem R2W.of {r : R2} {f : D → D → Option D} (h : R2Ok X r f) : R2W X r (op2 f) := fun ρ m H x y w1 w2 Q rel r1 r2 k => by
  obtain ⟨a, b, z, e1, e2, e3, k3⟩ := op2_ok k
  exact h ρ m H x y a b z Q rel (see_of r1 rel e1) (see_of r2 rel e2) e3 fun v H' l r q => k3 v ρ H' l r q
theorem takes0 : Takes X W0 := fun u s' ⟨_, _, _, _, _, _, _, _, _, _, _, _, _, _, _, _, w⟩ => w.elim
/-- == and != by an own __eq__ -/
def rOwn (X : Cx) (G : Nat → Option D) (Fn : Fns) (neg : Bool) : R2 := fun x y H Q => ∃ ρ m w1 w2 c fs, w1 = .p (.ins c fs) ∧ Rel X.K ρ m H ∧ RepW X.K ρ (lives ρ m) H x w1 ∧ RepW X.K ρ (lives ρ m) H y w2 ∧ Aft (fun _ _ => False) (eqW G Fn neg c w1 w2 m) (Got X.K ρ m H Q)
theorem op_own {n : Nat} {G : Nat → Option D} {Fn : Fns} (z : Near X (n + 1) X.A) (KT : KitAt X.K G) (hT : ∀ c f, f < manyAt → isFn (G (mnum c f)) = true → ∃ fd, FnAt X n (Fn (mnum c f)) (locM X.K c f) fd) (neg : Bool) :
    OpR X (compareOp (if neg then .NotEq else .Eq)) (rOwn X G Fn neg) := by
  intro pins s σ H x y u v Q I rx ry ⟨ρ, m, w1, w2, c, fs, hw1, rel, r1, r2, k⟩
  unfold eqW at k
  split at k
  · rename_i hc
    simp only [Bool.and_eq_true] at hc
    obtain ⟨⟨hc1, hc3⟩, hc4⟩ := hc
    cases q : asD w2 m with
    | none => rw [q] at hc4; cases hc4
    | some d =>
      rw [q] at hc4
      have hc5 : (isiD d 0).isSome = true := by cases d <;> first | rfl | exact hc4
      have hc6 : ∀ c2 fs2, d = .ins c2 fs2 → isFn (G (mnum c2 0)) = true := fun c2 fs2 e => by subst e; exact hc4
      obtain ⟨t, ty, kd⟩ := ty_see (see_of r2 rel q) hc5
      obtain ⟨P, kx, p, _⟩ := kit_of I ry ty
      have hty := kx.ty (model X.prog X.w) s.heap I.kIn p
      have hins : insW w1 m = some (c, fs) := by rw [hw1]; rfl
      obtain ⟨a, dx, kvs, rfl, hH, ok, fr⟩ := ins_see r1 rel hins
      obtain rfl : u = Value.ref a := rx
      obtain ⟨mA, O, _⟩ := ins_get I.hok hH
      obtain ⟨od, J, _⟩ := O.look
      -- whose __eq__ is called
      have key : ∀ (c' : Nat) (ws : List Oh.W) (vs : List V) (us : List Value) (A : Around), isFn (G (mnum c' 22)) = true → Near X n A → ws.length = 2 → Vals vs us → RepWs X.K ρ (lives ρ m) H vs ws →
          Aft (fun _ _ => False) (noX ((Fn (mnum c' 22) ws m).bind (boolOnly neg))) (Got X.K ρ m H Q) →
          ∃ f, Meth X.K (He.ga X.K (clsStr c')) "__eq__" f ∧ wpAny (model X.prog X.w) A (call (.ref f) us) (fun r s' => ∃ k, r = .bool k ∧ EP X pins σ Q (.bool (k != neg)) s') X.xe s := by
        intro c' ws vs us A hf zA hl rv pw k
        obtain ⟨fd, F⟩ := hT c' 22 (by decide) hf
        obtain ⟨f, ⟨_, lm⟩, kp, C⟩ := fn_callAs (k := 2) (takes0 (X := X)) F zA
        refine ⟨f, lm, ?_⟩
        have C' := C pins s σ H (fun v' H' => ∃ k, v' = .bl k ∧ Q (.bl (k != neg)) H') ρ m vs [] us [] ws [] I rv .nil rel pw .nil hl rfl ?_
        · refine thn (wpAny_call C') fun r s' ⟨v', H', I', rv', k', ev', q'⟩ => ?_
          subst ev'
          cases rv'
          exact ⟨k', rfl, .bl (k' != neg), H', I', rfl, q'⟩
        · simp only []
          cases q2 : Fn (mnum c' 22) ws m with
          | bad => rw [q2] at k; exact k
          | exc x m' => rw [q2] at k; exact k.elim
          | ok w m' =>
            rw [q2] at k
            simp only [Res.bind_ok] at k
            intro v' ρ' H' l r q3
            unfold boolOnly at k
            split at k
            · rename_i b
              cases q3
              exact ⟨b, rfl, k _ ρ' H' l r (.bl _)⟩
            · exact k.elim
      have zA : Near X n X.A := z.mono (Nat.le_succ _)
      have zI : Near X n X.A.in1 := z.in1
      by_cases hsub : ∃ c2 fs2, d = .ins c2 fs2 ∧ c2 ≠ c ∧ (above c2).contains c = true
      · obtain ⟨c2, fs2, rfl, hne, hab⟩ := hsub
        have hw2 : w2 = .p (.ins c2 fs2) := by
          cases w2 with
          | p d' => cases q; rfl
          | c j =>
            unfold asD at q
            simp only [] at q
            split at q <;> cases q
        have ea : eqArgs c w1 w2 = (c2, [w2, w1]) := by
          rw [hw2]
          unfold eqArgs
          simp only []
          rw [if_pos (by simp only [Bool.and_eq_true, decide_eq_true_eq]; exact ⟨hne, hab⟩)]
        rw [ea] at k hc3
        have hins2 : insW w2 m = some (c2, fs2) := by rw [hw2]; rfl
        obtain ⟨a2, dx2, kvs2, rfl, hH2, ok2, fr2⟩ := ins_see r2 rel hins2
        obtain rfl : v = Value.ref a2 := ry
        obtain ⟨mA2, O2, _⟩ := ins_get I.hok hH2
        obtain ⟨od2, J2, _⟩ := O2.look
        have hs := (KT.sub c c2 hc1 (hc6 _ _ rfl))
        rw [hab] at hs
        cases neg with
        | false =>
          obtain ⟨f, lm, hcall⟩ := key c2 [w2, w1] [.ref a2, .ref a] [.ref a2, .ref a] X.A hc3 zA rfl (.cons rfl (.cons rfl .nil)) (.cons r2 (.cons r1 .nil)) k
          refine rich_right (op := .Eq) z.room.units0 I.kIn J J2 (hs.2.2 hne) hs.1 (try_eq I.kIn J2 lm.at_ lm.fn (thn hcall fun r s' ⟨k', e, q'⟩ => ⟨k', e, .bool k', rfl, ?_⟩))
          simpa using q'
        | true =>
          obtain ⟨f, lm, hcall⟩ := key c2 [w2, w1] [.ref a2, .ref a] [.ref a2, .ref a] X.A.in1 hc3 zI rfl (.cons rfl (.cons rfl .nil)) (.cons r2 (.cons r1 .nil)) k
          refine rich_right (op := .NotEq) z.room.units0 I.kIn J J2 (hs.2.2 hne) hs.1 (try_ne z.in1.room.units0 I.kIn J2 ok2.hm lm.at_ lm.fn (KT.ne c2 hc3) (thn hcall fun r s' ⟨k', e, q'⟩ => ⟨k', e, .bool (!k'), rfl, ?_⟩))
          simpa using q'
      · have ea : eqArgs c w1 w2 = (c, [w1, w2]) := by
          unfold eqArgs
          split
          · rename_i c2 fs2
            have hd : d = .ins c2 fs2 := by cases q; rfl
            rw [if_neg fun h => hsub ⟨c2, fs2, hd, by simp only [Bool.and_eq_true, decide_eq_true_eq] at h; exact h.1, by simp only [Bool.and_eq_true, decide_eq_true_eq] at h; exact h.2⟩]
          · rfl
        rw [ea] at k hc3
        have hnf : t = .ref (He.ga X.K (clsStr c)) ∨ PySem.W.subIn X.K t (.ref (He.ga X.K (clsStr c))) = some false := by
          rcases kd with ⟨c2, fs2, rfl, rfl, _⟩ | ⟨_, nm, hnm, rfl⟩
          · by_cases hcc : c2 = c
            · subst hcc; exact .inl rfl
            · right
              have hs := (KT.sub c c2 hc1 (hc6 _ _ rfl)).1
              have hnab : (above c2).contains c = false := by
                rw [Bool.eq_false_iff]
                exact fun h => hsub ⟨c2, fs2, rfl, hcc, h⟩
              rw [hs, hnab]
          · exact .inr (KT.ty c hc1 nm hnm).1
        cases neg with
        | false =>
          obtain ⟨f, lm, hcall⟩ := key c [w1, w2] [.ref a, y] [.ref a, v] X.A hc3 zA rfl (.cons rfl (.cons ry .nil)) (.cons r1 (.cons r2 .nil)) k
          refine rich_left (op := .Eq) z.room.units0 I.kIn J hty hnf (try_eq I.kIn J lm.at_ lm.fn (thn hcall fun r s' ⟨k', e, q'⟩ => ⟨k', e, .bool k', rfl, ?_⟩))
          simpa using q'
        | true =>
          obtain ⟨f, lm, hcall⟩ := key c [w1, w2] [.ref a, y] [.ref a, v] X.A.in1 hc3 zI rfl (.cons rfl (.cons ry .nil)) (.cons r1 (.cons r2 .nil)) k
          refine rich_left (op := .NotEq) z.room.units0 I.kIn J hty hnf (try_ne z.in1.room.units0 I.kIn J ok.hm lm.at_ lm.fn (KT.ne c hc3) (thn hcall fun r s' ⟨k', e, q'⟩ => ⟨k', e, .bool (!k'), rfl, ?_⟩))
          simpa using q'
  · exact k.elim
end
end Oh

set_option Elab.async false
set_option linter.all false
set_option maxRecDepth 100000
set_option maxHeartbeats 2000000
set_option autoImplicit false
/-! OhO: built-ins over own classes, f-strings, split, enumerate, classmethods, try -/
namespace Oh
open PySem L2
variable [Lcl]
section
variable {X : Cx} {W : WX}
/-! ### built-ins -/
def RnW (X : Cx) (r : List V → Hp → VK → Prop) (f : List Oh.W → M → Res Oh.W) : Prop := ∀ (ρ : Rh) (m : M) (H : Hp) (xs : List V) (ws : List Oh.W) (Q : VK), Rel X.K ρ m H → RepWs X.K ρ (lives ρ m) H xs ws →
  Aft (fun _ _ => False) (f ws m) (Got X.K ρ m H Q) → r xs H Q
theorem s_opnW {e : Expr} {r : List V → Hp → VK → Prop} {rs : Env → M → Res (List Oh.W)} {f : List Oh.W → M → Res Oh.W} (h : PE X e (tCB r (tAr X.K W rs))) (ok : RnW X r f) (hn : ∀ ws m x m', f ws m ≠ .exc x m') :
    PE X e (tE X.K W fun s m => (rs s m).bind fun ws m1 => f ws m1) := pe_m h fun σ H Q ⟨ρ, s, m, B, k⟩ => by
  refine seq B k fun ws m1 xs ρ1 H1 l1 B1 r1 k1 => ?_
  exact ok ρ1 m1 H1 xs ws Q B1.rel r1 ((k1.noExc fun x m' => hn _ _ x m').mono (fun _ _ z => z) fun w m' g v ρ' H' l r q => g v ρ' H' (l1.trans l) r q)
theorem RnW.of {r : List V → Hp → VK → Prop} {f : List D → Option D} (h : RnOk X r f) : RnW X r (opn f) := fun ρ m H xs ws Q rel rs k => by
  obtain ⟨as, z, e1, e2, k2⟩ := opn_ok k
  exact h ρ m H xs as z Q rel (sees_of rel rs e1) e2 fun v H' l r q => k2 v ρ H' l r q
theorem opn_no {f : List D → Option D} {ws : List Oh.W} {m : M} : ∀ x m', opn f ws m ≠ .exc x m' := fun x m' h => by
  unfold opn at h
  split at h
  · split at h <;> cases h
  · cases h
/-- repr(x) by an own __repr__ -/
def rRepr (X : Cx) (G : Nat → Option D) (Fn : Fns) : List V → Hp → VK → Prop := fun xs H Q => ∃ ρ m c fs, Rel X.K ρ m H ∧ RepWs X.K ρ (lives ρ m) H xs [.p (.ins c fs)] ∧ isFn (G (mnum c 25)) = true ∧ Aft (fun _ _ => False) (noX ((Fn (mnum c 25) [.p (.ins c fs)] m).bind strOnly)) (Got X.K ρ m H Q)
theorem call_repr {n : Nat} {G : Nat → Option D} {Fn : Fns} (z : Near X (n + 1) X.A) (hT : ∀ c f, f < manyAt → isFn (G (mnum c f)) = true → ∃ fd, FnAt X n (Fn (mnum c f)) (locM X.K c f) fd) : CallR X (.builtin "repr") (rRepr X G Fn) := by
  intro pins s σ H xs us Q I r ⟨ρ, m, c, fs, rel, rp, hc, k⟩
  cases rp with
  | @cons v vs w ws r1 t =>
    cases t
    cases r with
    | @cons _ u _ us ru tu =>
      cases tu
      obtain ⟨a, dx, kvs, rfl, hH, ok, fr⟩ := ins_see (w := .p (.ins c fs)) r1 rel rfl
      obtain rfl : u = Value.ref a := ru
      obtain ⟨mA, O, _⟩ := ins_get I.hok hH
      obtain ⟨od, J, _⟩ := O.look
      obtain ⟨mm, hF⟩ := I.fr
      obtain ⟨fd, F⟩ := hT c 25 (by decide) hc
      obtain ⟨f, ⟨_, lm⟩, kp, C⟩ := fn_callAs (k := 1) (takes0 (X := X)) F z.in1
      refine PySem.W.repr_K z.in1.room.units0 hF I.ok.mod.kin J lm.at_ lm.fn ?_
      refine thn (wpAny_call (C pins s σ H (fun v' H' => ∃ t, v' = .str t ∧ Q (.str t) H') ρ m [.ref a] [] [.ref a] [] [.p (.ins c fs)] [] I (.cons rfl .nil) .nil rel (.cons r1 .nil) .nil rfl rfl ?_)) fun r s' ⟨v', H', I', rv', t, ev, q'⟩ => ?_
      · simp only []
        cases q2 : Fn (mnum c 25) [.p (.ins c fs)] m with
        | bad => rw [q2] at k; exact k
        | exc x m' => rw [q2] at k; exact k.elim
        | ok w m' =>
          rw [q2] at k
          simp only [Res.bind_ok] at k
          intro v' ρ' H' l r q3
          unfold strOnly at k
          split at k
          · rename_i b
            have := k v' ρ' H' l r q3
            cases q3
            exact ⟨_, rfl, this⟩
          · exact k.elim
      · subst ev
        obtain ⟨tk, rfl⟩ := rv'
        exact ⟨.str t, H', I', ⟨tk, rfl⟩, q'⟩
/-- len(x) by an own __len__ -/
def rLenW (X : Cx) (G : Nat → Option D) (Fn : Fns) : List V → Hp → VK → Prop := fun xs H Q => ∃ ρ m c fs, Rel X.K ρ m H ∧ RepWs X.K ρ (lives ρ m) H xs [.p (.ins c fs)] ∧ isFn (G (mnum c 18)) = true ∧ Aft (fun _ _ => False) (noX ((Fn (mnum c 18) [.p (.ins c fs)] m).bind natOnly)) (Got X.K ρ m H Q)
theorem call_lenW {n : Nat} {G : Nat → Option D} {Fn : Fns} (z : Near X (n + 1) X.A) (hT : ∀ c f, f < manyAt → isFn (G (mnum c f)) = true → ∃ fd, FnAt X n (Fn (mnum c f)) (locM X.K c f) fd) : CallR X (.builtin "len") (rLenW X G Fn) := by
  intro pins s σ H xs us Q I r ⟨ρ, m, c, fs, rel, rp, hc, k⟩
  cases rp with
  | @cons v vs w ws r1 t =>
    cases t
    cases r with
    | @cons _ u _ us ru tu =>
      cases tu
      obtain ⟨a, dx, kvs, rfl, hH, ok, fr⟩ := ins_see (w := .p (.ins c fs)) r1 rel rfl
      obtain rfl : u = Value.ref a := ru
      obtain ⟨mA, O, _⟩ := ins_get I.hok hH
      obtain ⟨od, J, _⟩ := O.look
      obtain ⟨mm, hF⟩ := I.fr
      obtain ⟨fd, F⟩ := hT c 18 (by decide) hc
      obtain ⟨f, ⟨_, lm⟩, kp, C⟩ := fn_callAs (k := 1) (takes0 (X := X)) F z.in1
      refine PySem.W.len_K hF I.ok.mod.kin J lm.at_ lm.fn ?_
      refine thn (wpAny_call (C pins s σ H (fun v' H' => ∃ t : Int, v' = .int t ∧ 0 ≤ t ∧ t < 2 ^ 60 ∧ Q (.int t) H') ρ m [.ref a] [] [.ref a] [] [.p (.ins c fs)] [] I (.cons rfl .nil) .nil rel (.cons r1 .nil) .nil rfl rfl ?_)) fun r s' ⟨v', H', I', rv', t, ev, t0, t1, q'⟩ => ?_
      · simp only []
        cases q2 : Fn (mnum c 18) [.p (.ins c fs)] m with
        | bad => rw [q2] at k; exact k
        | exc x m' => rw [q2] at k; exact k.elim
        | ok w m' =>
          rw [q2] at k
          simp only [Res.bind_ok] at k
          intro v' ρ' H' l r q3
          unfold natOnly at k
          split at k
          · rename_i b
            split at k
            · rename_i hb
              simp only [Bool.and_eq_true, decide_eq_true_eq] at hb
              have := k v' ρ' H' l r q3
              cases q3
              exact ⟨_, rfl, hb.1, hb.2, this⟩
            · exact k.elim
          · exact k.elim
      · subst ev
        obtain ⟨tk, rfl⟩ := rv'
        exact ⟨⟨t0, by omega⟩, ⟨.int t, H', I'.tok _, ⟨_, rfl⟩, q'⟩⟩
def rBiW (X : Cx) (G : Nat → Option D) (Fn : Fns) : Bi → List V → Hp → VK → Prop
  | .repr => rRepr X G Fn
  | .len => fun xs H Q => rBi X .len xs H Q ∨ rLenW X G Fn xs H Q
  | b => rBi X b
theorem pe_biW {n : Nat} {G : Nat → Option D} {Fn : Fns} (hc : X.calm = true) (z : Near X (n + 1) X.A) (hT : ∀ c f, f < manyAt → isFn (G (mnum c f)) = true → ∃ fd, FnAt X n (Fn (mnum c f)) (locM X.K c f) fd) {p pos : Pos} {e : Expr} {es : List Expr} {t : TA} (ha : PA X (e :: es) t)
    (he : starEach (e :: es) X.env = (false, eval e X.env) :: starEach es X.env) (hpl : (backTo pos (starEach es X.env)).any (·.1) = false) :
    ∀ b : Bi, Gl X (biName b) → X.mg (biName b) = none → PE X (.Call (.Name (biName b) p) (e :: es) [] pos) (tCB (rBiW X G Fn b) t)
  | .repr, g, h => pe_callB (call_repr z hT) g h PyProof.Rows.boot_repr ha (by decide) (by decide) he hpl
  | .len, g, h => pe_callB (call_len.or (call_lenW z hT)) g h PySem.boot_len ha (by decide) (by decide) he hpl
  | .max, g, h => pe_bi hc ha he hpl .max g h
  | .min, g, h => pe_bi hc ha he hpl .min g h
  | .sorted, g, h => pe_bi hc ha he hpl .sorted g h
  | .all, g, h => pe_bi hc ha he hpl .all g h
  | .any, g, h => pe_bi hc ha he hpl .any g h
  | .int, g, h => pe_bi hc ha he hpl .int g h
  | .list, g, h => pe_bi hc ha he hpl .list g h
  | .tuple, g, h => pe_bi hc ha he hpl .tuple g h
  | .isi, g, h => pe_bi hc ha he hpl .isi g h
theorem isi_own {G : Nat → Option D} (KT : KitAt X.K G) {ρ : Rh} {m : M} {H : Hp} {x y : V} {w : Oh.W} {k : Nat} {Q : VK} (rel : Rel X.K ρ m H) (r1 : RepW X.K ρ (lives ρ m) H x w) (r2 : RepW X.K ρ (lives ρ m) H y (.p (.cls k)))
    (h : Aft (fun _ _ => False) (match asD w m with | some d => isiW G d k m | none => .bad) (Got X.K ρ m H Q)) : rIsi X.K [x, y] H Q := by
  cases q : asD w m with
  | none => rw [q] at h; exact h.elim
  | some d =>
    rw [q] at h
    simp only [] at h
    have sx := see_of r1 rel q
    cases r2
    have hs : (isiD d 0).isSome = true := by
      unfold isiW at h
      split at h
      · rfl
      · split at h
        · rename_i hc
          rw [Bool.and_eq_true] at hc
          exact hc.1
        · exact h.elim
    obtain ⟨t, ty, kd⟩ := ty_see sx hs
    rcases kd with ⟨c, fs, rfl, rfl, _⟩ | ⟨hn, nm, hnm, rfl⟩
    · unfold isiW at h
      simp only [] at h
      split at h
      · rename_i hc
        rw [Bool.and_eq_true] at hc
        exact ⟨x, _, _, _, _, rfl, .own _, ty, (KT.sub k c hc.2 hc.1).2.1, h _ ρ H (Later.refl ..) rel (.bl _)⟩
      · exact h.elim
    · unfold isiW at h
      split at h
      · exact absurd rfl (hn _ _)
      · split at h
        · rename_i hc
          rw [Bool.and_eq_true] at hc
          exact ⟨x, _, _, _, _, rfl, .own _, ty, (KT.ty k hc.2 nm hnm).2, h _ ρ H (Later.refl ..) rel (.bl _)⟩
        · exact h.elim
theorem biW_ok {G : Nat → Option D} {Fn : Fns} (KT : KitAt X.K G) (b : Bi) : RnW X (rBiW X G Fn b) (biW G Fn b) := fun ρ m H xs ws Q rel rs k => by
  unfold biW at k
  split at k
  · rename_i w j
    cases rs with
    | cons r1 t =>
      cases t with
      | cons r2 t =>
        cases t
        exact .inl (isi_own KT rel r1 r2 k)
  · rename_i c fs
    split at k
    · rename_i hc
      exact .inr ⟨ρ, m, c, fs, rel, rs, hc, k⟩
    · exact k.elim
  · rename_i c fs
    split at k
    · rename_i hc
      exact ⟨ρ, m, c, fs, rel, rs, hc, k⟩
    · exact k.elim
  · have := RnW.of (rbi_ok b) ρ m H xs ws Q rel rs k
    cases b <;> first | exact this | exact .inl this | exact this.elim
theorem biW_no {G : Nat → Option D} {Fn : Fns} {b : Bi} {ws : List Oh.W} {m : M} : ∀ x m', biW G Fn b ws m ≠ .exc x m' := fun x m' h => by
  unfold biW at h
  split at h
  · split at h
    · unfold isiW at h
      split at h <;> (split at h <;> cases h)
    · cases h
  · split at h
    · exact noX_no x m' h
    · cases h
  · split at h
    · exact noX_no x m' h
    · cases h
  · exact opn_no x m' h
end
end Oh

set_option Elab.async false
set_option linter.all false
set_option maxRecDepth 100000
set_option maxHeartbeats 2000000
set_option autoImplicit false
/-! OhB: f-strings, split, enumerate, classmethods, try -/
namespace Oh
open PySem L2
variable [Lcl]
section
variable {X : Cx} {W : WX}
/-! ### f-strings -/
def fmtOf (w : Oh.W) : Option Tx := match w with
  | .p (.str s) => if s.length ≤ line then some s else none
  | .p (.int i) => if i.natAbs.log2 < 1920 then some (intTx i) else none
  | _ => none
/-- the parts' judgements, with the evaluator's -/
inductive PF (X : Cx) (W : WX) : List Expr → List (Env → M → Res Oh.W) → List TE → Prop
  | nil : PF X W [] [] []
  | str {x : Str} {s : Tx} {k : Nat} {p : Pos} {es : List Expr} {rs : List (Env → M → Res Oh.W)} {ts : List TE} (hx : x = mkS s) (ho : okT s) (r : PF X W es rs ts) : PF X W (.Constant (.str x) k p :: es) ((fun _ m => .ok (.p (.str s)) m) :: rs) (tC (.str x) :: ts)
  | fmt {e : Expr} {p : Pos} {ra : Env → M → Res Oh.W} {es : List Expr} {rs : List (Env → M → Res Oh.W)} {ts : List TE} (h : PE X e (tE X.K W ra)) (r : PF X W es rs ts) : PF X W (.FormattedValue e (-1) none p :: es) (ra :: rs) (tFmt (tE X.K W ra) :: ts)
theorem PF.pj {es : List Expr} {rs : List (Env → M → Res Oh.W)} {ts : List TE} (h : PF X W es rs ts) : PJ X es ts := by
  induction h with
  | nil => exact .nil
  | str hx ho r ih => exact .cons pe_str ih
  | fmt h r ih => exact .cons (pe_fmt h) ih
def goF : List (Env → M → Res Oh.W) → Tx → Env → M → Res Oh.W
  | [], acc, _, m => .ok (.p (.str acc)) m
  | r :: rs, acc, s, m => (r s m).bind fun w m1 => (ofO (fpart acc w) m1).bind fun t m2 => goF rs t s m2
theorem intTx_eq (i : Int) : ((toString i : String) : Str) = mkS (intTx i) := by
  show Str.ofString (toString i) = _
  rw [Str.ofString_eq_toList]
  rfl
theorem okT_chars (s : String) : okT (s.toList.map Char.toNat) := fun c hc => by
  obtain ⟨d, _, rfl⟩ := List.mem_map.mp hc
  have := d.valid
  unfold Char.toNat
  rcases this with h | h
  · have : d.val.toNat < 55296 := h
    omega
  · have : d.val.toNat < 1114112 := h.2
    omega
theorem go_ok {es : List Expr} {rs : List (Env → M → Res Oh.W)} {ts : List TE} (h : PF X W es rs ts) : ∀ {acc : Tx} {σ : St} {H : Hp} {Q : VK} {ρ : Rh} {s : Env} {m : M}, Both X.K ρ σ s m H → okT acc → acc.length ≤ line →
    Aft (Wish X.K W ρ m H σ) (goF rs acc s m) (Got X.K ρ m H Q) → tJs ts (mkS acc) σ H fun out H1 => Q (.str out) H1 := by
  have part : ∀ {acc : Tx} {σ : St} {Q : VK} {ρ ρ1 : Rh} {s : Env} {m m1 : M} {H H1 : Hp} {w : Oh.W} {x : V} {rs : List (Env → M → Res Oh.W)}, okT acc → Later ρ m H ρ1 m1 H1 → RepW X.K ρ1 (lives ρ1 m1) H1 x w →
      Aft (Wish X.K W ρ1 m1 H1 σ) ((ofO (fpart acc w) m1).bind fun t m2 => goF rs t s m2) (Got X.K ρ m H Q) →
      ∃ t y, fpart acc w = some t ∧ ((w = .p (.str y) ∧ y.length ≤ line) ∨ ∃ i, w = .p (.int i) ∧ i.natAbs.log2 < 1920 ∧ y = intTx i) ∧ t = acc ++ y ∧ t.length ≤ line ∧ okT y ∧ Aft (Wish X.K W ρ1 m1 H1 σ) (goF rs t s m1) (Got X.K ρ1 m1 H1 Q) := by
    intro acc σ Q ρ ρ1 s m m1 H H1 w x rs oa l r k
    obtain ⟨t, ht, k2⟩ := ofO_ok k.bind
    have k3 : Aft (Wish X.K W ρ1 m1 H1 σ) (goF rs t s m1) (Got X.K ρ1 m1 H1 Q) := k2.mono (fun _ _ z => z) fun w m' g v ρ' H' l' r' q => g v ρ' H' (l.trans l') r' q
    have ht' := ht
    unfold fpart at ht
    split at ht
    · split at ht
      · rename_i y hc
        simp only [Bool.and_eq_true, decide_eq_true_eq] at hc
        cases ht
        cases r with
        | str _ oy => exact ⟨_, y, ht', .inl ⟨rfl, hc.1⟩, rfl, hc.2, oy, k3⟩
      · cases ht
    · split at ht
      · rename_i i hc
        simp only [Bool.and_eq_true, decide_eq_true_eq] at hc
        cases ht
        exact ⟨_, _, ht', .inr ⟨i, rfl, hc.1, rfl⟩, rfl, hc.2, okT_chars _, k3⟩
      · cases ht
    · cases ht
  induction h with
  | nil =>
    intro acc σ H Q ρ s m B oa hl k
    exact k (.str (mkS acc)) ρ H (Later.refl ..) B.rel (.str acc oa)
  | @str x y0 _ _ es rs ts hx ho r ih =>
    intro acc σ H Q ρ s m B oa hl k
    subst hx
    obtain ⟨t, y, e1, e2, rfl, e4, oy, k2⟩ := part (w := .p (.str y0)) (x := .str (mkS y0)) oa (Later.refl ρ m H) (.str _ ho) k
    rcases e2 with ⟨e2, hy⟩ | ⟨i, e2, _⟩
    · cases e2
      refine ⟨mkS y0, rfl, ?_, ?_⟩
      · rw [mkS_app, mkS_len]; exact line_le e4
      · rw [mkS_app]
        exact ih B (oa.app oy) e4 k2
    · cases e2
  | @fmt e p ra es rs ts he r ih =>
    intro acc σ H Q ρ s m B oa hl k
    show tFmt (tE X.K W ra) σ H _
    refine seq B k fun w m1 x ρ1 H1 l1 B1 r1 k1 => ?_
    obtain ⟨t, y, e1, e2, rfl, e4, oy, k2⟩ := part oa l1 r1 k1
    have fin : ∃ z : Str, V.str (mkS y) = .str z ∧ (mkS acc ++ z).length ≤ sizeLine ∧ tJs ts (mkS acc ++ z) σ H1 fun out H1 => Q (.str out) H1 := by
      refine ⟨mkS y, rfl, ?_, ?_⟩
      · rw [mkS_app, mkS_len]; exact line_le e4
      · rw [mkS_app]
        exact ih B1 (oa.app oy) e4 k2
    rcases e2 with ⟨rfl, hy⟩ | ⟨i, rfl, hi, rfl⟩
    · cases r1
      exact .inl ⟨_, rfl, by rw [mkS_len]; exact line_le hy, fin⟩
    · cases r1
      refine .inr ⟨i, rfl, hi, ?_⟩
      rw [intTx_eq]
      exact fin
theorem s_fstr {es : List Expr} {rs : List (Env → M → Res Oh.W)} {ts : List TE} {pos : Pos} (h : PF X W es rs ts) (hl : 2 ≤ es.length) : PE X (.JoinedStr es pos) (tE X.K W fun s m => goF rs [] s m) := by
  match es, hl, h with
  | e1 :: e2 :: es, _, h =>
    refine pe_m (pe_joined h.pj) fun σ H Q ⟨ρ, s, m, B, k⟩ => ?_
    exact go_ok h (acc := []) B (fun c hc => by cases hc) (Nat.zero_le _) k
/-! ### text.split(sign) -/
theorem spl_one (c : Nat) : ∀ (acc l : Tx), TL.spl [c] 0 acc l = splitC c acc l
  | acc, [] => rfl
  | acc, x :: r => by
    unfold TL.spl splitC
    have e : TL.pre [c] (x :: r) = decide (x = c) := by
      unfold TL.pre
      by_cases h : x = c
      · subst h; simp
      · simp [h]
    rw [e]
    by_cases h : x = c
    · rw [if_pos (by simpa using h), if_pos h]
      show acc :: TL.spl [c] 0 [] r = _
      rw [spl_one c [] r]
    · rw [if_neg (by simpa using h), if_neg h, spl_one c (acc ++ [x]) r]
theorem split_okT (c : Nat) : ∀ (acc l : Tx), okT acc → okT l → ∀ t ∈ splitC c acc l, okT t
  | acc, [], ha, _, t, h => by
    unfold splitC at h
    rw [List.mem_singleton] at h
    subst h; exact ha
  | acc, x :: r, ha, hl, t, h => by
    have hr : okT r := fun d hd => hl d (List.mem_cons_of_mem _ hd)
    unfold splitC at h
    split at h
    · rcases List.mem_cons.mp h with rfl | h
      · exact ha
      · exact split_okT c [] r (fun d hd => by cases hd) hr t h
    · refine split_okT c (acc ++ [x]) r (ha.app fun d hd => ?_) hr t h
      rw [List.mem_singleton] at hd
      subst hd
      exact hl _ List.mem_cons_self
def rSplit (X : Cx) : V → List V → Hp → VK → Prop := fun x xs H Q => ∃ a b, x = .str a ∧ xs = [.str b] ∧ (b.length == 0) = false ∧ a.length + 2 ≤ sizeLine ∧ rNewStrs (Txt.split a b) H Q
theorem split_ok : MeOk X (rSplit X) (meD .split) := fun ρ m H s y a z Q r os sy e0 k => by
  have e : splitD s a = some z := e0
  clear e0
  unfold splitD at e
  split at e
  · rename_i c
    split at e
    · rename_i hc
      simp only [Bool.and_eq_true, decide_eq_true_eq] at hc
      cases e
      obtain ⟨rfl, oc⟩ := sy.str
      refine ⟨mkS s, mkS [c], rfl, rfl, rfl, by rw [mkS_len]; exact line_le hc.1, fun p hp => ?_⟩
      have e1 : Txt.split (mkS s) (mkS [c]) = (splitC c [] s).map mkS := by
        apply TL.map_tl_inj
        rw [TL.split_spl _ _ (by simp [TL.tl, mkS]) (TL.kind_ok (by simp [mkS, hc.2])), List.map_map]
        have : (TL.tl ∘ mkS) = id := by funext t; rfl
        rw [this, List.map_id]
        exact spl_one c [] s
      rw [e1, List.map_map]
      exact fin_lst r (Reps.strs (splitC c [] s) (split_okT c [] s (fun d hd => by cases hd) os)) k p hp
    · cases e
  · cases e
/-! ### list.index -/
theorem findD_spec {x : D} : ∀ {xs : List D} {j : Nat}, findD x xs = some j → (∃ d, xs[j]? = some d ∧ eqv d x = true) ∧ ∀ m d, m < j → xs[m]? = some d → eqv d x = false
  | [], j, h => by cases h
  | y :: r, j, h => by
    unfold findD at h
    split at h
    · cases h
      exact ⟨⟨y, rfl, by assumption⟩, fun m d hm => by omega⟩
    · rename_i hy
      rw [Option.map_eq_some_iff] at h
      obtain ⟨i, h1, rfl⟩ := h
      obtain ⟨⟨d, h2, h3⟩, h4⟩ := findD_spec h1
      refine ⟨⟨d, by simpa using h2, h3⟩, fun m d hm hd => ?_⟩
      cases m with
      | zero =>
        simp at hd
        subst hd
        exact Bool.eq_false_iff.mpr hy
      | succ m => exact h4 m d (by omega) (by simpa using hd)
theorem lstOf_ok {w : Oh.W} {m : M} {ds : List D} (h : lstOf w m = some ds) : asD w m = some (.lst ds) := by
  unfold lstOf at h
  split at h
  · cases h; assumption
  · cases h
theorem s_lidx {e : Expr} {ra rb : Env → M → Res Oh.W} (h : PE X e (tBM X.K "list" (rIndex X.K) (tE X.K W ra) (tCons (tE X.K W rb) tNil))) :
    PE X e (tE X.K W fun s m => (ra s m).bind fun w1 m1 => (ofO (lstOf w1 m1) m1).bind fun _ m2 => (rb s m2).bind fun w2 m3 => op2 lidxD w1 w2 m3) := pe_m h fun σ H Q ⟨ρ, s, m, B, k⟩ => by
  refine seq B k fun w1 m1 x ρ1 H1 l1 B1 r1 k1 => ?_
  obtain ⟨ds, e1, k1⟩ := ofO_ok k1.bind
  obtain ⟨a, vs, rfl, hv, rs⟩ := (see_of r1 B1.rel (lstOf_ok e1)).lst
  refine ⟨.inl ⟨rfl, vs, SqL.of hv⟩, seq B1 k1 fun w2 m2 y ρ2 H2 l2 B2 r2 k2 => ?_⟩
  obtain ⟨da, db, z, e2, e3, e4, k3⟩ := op2_ok k2
  have sx := see_of (r1.later l2) B2.rel e2
  have sy := see_of r2 B2.rel e3
  unfold lidxD at e4
  split at e4
  · rename_i xs
    split at e4
    · rename_i hf
      rw [Bool.and_eq_true] at hf
      rw [Option.map_eq_some_iff] at e4
      obtain ⟨j, e5, rfl⟩ := e4
      obtain ⟨a', vs', ea, hv', rs'⟩ := sx.lst
      cases ea
      obtain ⟨⟨d, h1, h2⟩, h3⟩ := findD_spec e5
      obtain ⟨v, h4, h5⟩ := rs'.get h1
      have ry := flat_rep sy hf.1
      have fd : ∀ {i : Nat} {d : D}, xs[i]? = some d → flat d = true := fun hd => List.all_eq_true.mp hf.2 _ (List.mem_of_getElem? hd)
      refine ⟨a, vs', y, j, v, rfl, rfl, SqL.of hv', flat_V ry hf.1, flats_V rs' hf.2, h4, ?_, fun i z' hi hz => ?_, k3 _ ρ2 H2 (l1.trans l2) B2.rel (.int _)⟩
      · rw [eqV_eqv h5 ry (fd h1) hf.1]; exact h2
      · obtain ⟨d', q1, q2⟩ := rs'.get' hz
        rw [eqV_eqv q2 ry (fd q1) hf.1]
        exact h3 i d' hi q1
    · cases e4
  · cases e4
/-! ### enumerate(list) -/
theorem it_enum {K : PySem.W.Frag} {ρ : Rh} {m : M} {H : Hp} {a : Addr} {vs : List V} {ds : List D} (n : a ∉ lives ρ m) (h : H a = some (.lst vs)) (rs : Reps K (lives ρ m) H vs ds) : ItRep K ρ m H (Ite K a) (ds.zipIdx.map fun q => D.tup [.int q.2, q.1]) := fun ρ' m' H' l r i => by
  obtain ⟨h', n'⟩ := l a _ h n
  refine ⟨fun d e => ?_, fun hl => ⟨vs, SqL.of h', ?_⟩⟩
  · rw [List.getElem?_map, Option.map_eq_some_iff] at e
    obtain ⟨⟨x, j⟩, e, rfl⟩ := e
    rw [List.getElem?_zipIdx, Option.map_eq_some_iff] at e
    obtain ⟨x', e, e2⟩ := e
    simp only [Prod.mk.injEq, Nat.zero_add] at e2
    obtain ⟨rfl, rfl⟩ := e2
    obtain ⟨v, e1, e2⟩ := rs.get e
    refine ⟨⟨vs, v, SqL.of h', e1⟩, fun z H'' ⟨T, x', ez, hT, eH, hx⟩ => ?_⟩
    have q1 := hx vs (SqL.of h'); rw [e1] at q1; cases q1
    subst ez; subst eH
    exact ⟨later_upd r hT, r.upd hT, .tup (.inl ⟨r.notLive hT, upd_same⟩) (.cons (.int _) (.cons ((e2.ext l).ext (ext_upd hT)) .nil))⟩
  · simp only [List.length_map, List.length_zipIdx] at hl
    rw [rs.length]
    exact hl
/-! ### enumerate(tuple) -/
/-- what enumerate.__new__ leaves, of anything that can be walked -/
def newEnum (o : Obj) (h : Heap) : Heap := (h.push o).push { cls := .type "enumerate", data := .fields #[.none, .bool false, .ref h.objs.size, rawInt 0, .none, .none] }
set_option maxHeartbeats 4000000 in
theorem enum_new {v : Value} {o : Obj} {C : Heap → Prop} (bg : Begins v o C) : Meets (Builtin.«enumerate.__new__» ⟨[.type "enumerate", v], []⟩) fun _ R s => C s.heap ∧ R (.ok (.ret (.ref (s.heap.push o).objs.size))) { s with heap := newEnum o s.heap } := by
  refine .of_wp fun P W0 A0 R0 st ⟨cs, fin⟩ => ?_
  have sub := sub_enumerate
  obtain ⟨hp, gg, dd, tt, oo⟩ := st
  have go : ∀ {A1 : Around} {E1 : Value → Shared → Prop} {Q1 : Value → Shared → Prop}, Q1 (.ref hp.objs.size) ⟨hp.push o, gg, dd, tt, oo⟩ → wpAny (model P W0) A1 (pyIter v) Q1 E1 ⟨hp, gg, dd, tt, oo⟩ := fun z => bg.iter P W0 _ _ ⟨hp, gg, dd, tt, oo⟩ _ cs z
  wp_walk using go
  refine wpAny_stack_any fun _ => wpAny_pure ?_
  split
  · rename_i cc _ _ _ _ _
    cases (cc == Value.type "enumerate") <;> (wp_walk using go; exact ⟨_, rfl, fin⟩)
  · wp_walk using go; exact ⟨_, rfl, fin⟩
/-- an enumerate over the tuple at a: its place -/
def AtT (a e it : Addr) (i : Nat) (h : Heap) : Prop := (∃ old, IsEnum h e it ((i : Nat) : Int) old) ∧ h.IsTupleIter it a i
theorem enum_at0 {h : Heap} {a : Addr} : AtT a (h.objs.size + 1) h.objs.size 0 (newEnum { cls := .type "tuple_iterator", data := .fields #[.ref a, .int 0 0] } h) := by
  have z : (h.push { cls := .type "tuple_iterator", data := .fields #[.ref a, .int 0 0] }).objs.size = h.objs.size + 1 := Heap.size_push ..
  refine ⟨⟨.none, ?_⟩, _, Heap.get?_push_of_some _ (Heap.get?_push_size _ rfl), rfl, rfl⟩
  unfold IsEnum newEnum
  rw [← z]
  exact Heap.get?_push_size _ rfl
/-- nothing is left of a tuple -/
theorem draws_no {P : Program} {W0 : World} {A0 : Around} (hd : A0.handled = none) {it a : Addr} {its : Array Value} {i : Nat} (h : its.size ≤ i) :
    Draws P W0 A0 it [it, a] i (fun _ _ => False) fun j hp => j = i ∧ hp.IsTupleIter it a i ∧ hp.IsTuple a its where
  live := fun _ _ ⟨_, ⟨o, q, _⟩, _⟩ => ⟨o, q⟩
  frame := fun _ _ _ ⟨e, x, y⟩ k => ⟨e, x.at fun o q => k it (by simp) o q, y.at fun o q => k a (by simp) o q⟩
  item := fun _ _ _ _ lt ⟨e, _⟩ _ => absurd e (Nat.ne_of_lt lt)
  done := fun _ _ _ ⟨_, x, y⟩ k => wpAny_nextOf_tuple_end hd x y (by simp; omega) k
def IteT (K : PySem.W.Frag) (a : Addr) : It where
  go := fun i H => ∃ (xs : List V) (x : V), SqT K H a xs ∧ xs[i]? = some x
  yld := fun i H v H' => ∃ T x, v = .ref T ∧ H T = none ∧ H' = upd H T (.tup [.int (i : Nat), x]) ∧ ∀ xs, SqT K H a xs → xs[i]? = some x
  stop := fun i H => ∃ xs : List V, SqT K H a xs ∧ xs.length ≤ i
theorem turn_enumT {P : Program} {w : World} {K : PySem.W.Frag} {elts : List Expr} {kk : Nat} {tpos : Pos} {a e it : Addr} (n1 : e ≠ it) (n2 : a ≠ it) (n3 : e ≠ a) : Turn P w K (.Tuple elts kk tpos) (IteT K a) [e, it] e (AtT a e it) := by
  refine ⟨by simp, fun i h ⟨⟨_, q⟩, o, q2, _, q3⟩ => ?_, fun i h h' ⟨⟨old, q⟩, q2⟩ k => ⟨⟨old, k e (by simp) _ q⟩, q2.at fun o z => k it (by simp) o z⟩, ?_, ?_, fun A i s Q E ⟨⟨_, q⟩, _⟩ k => wpAny_pyIter_enum q k⟩
  · intro b hb
    simp only [List.mem_cons, List.not_mem_nil, or_false] at hb
    rcases hb with rfl | rfl
    · exact ⟨_, q, fun v z => by cases z⟩
    · exact ⟨o, q2, fun v z => by rw [q3] at z; cases z⟩
  · intro X eP eW eK calm i pins s σ H E I fr ⟨old, ti⟩ ⟨xs, x, sq, ex⟩
    subst eP; subst eW; subst eK
    obtain ⟨us, vals, tup, _⟩ := I.tuple sq
    obtain ⟨u, eu, ru⟩ := vals.get ex
    have Wk := WalksT.enumerateD (Draws.tuple (prog := X.prog) (w := X.w) (A := X.A.in1) (I.ok.hd calm) it a n2 us.toArray) e n1 (by simp [n1, n3]) (by simp)
    have lt : i < us.toArray.size := by simpa using (List.getElem?_eq_some_iff.mp eu).1
    refine Wk.item i s _ E lt ⟨old, ti, tup⟩ fun T vs h1 tk ⟨t, y, ey, evs⟩ new tupT mid keep1 => ⟨.ref T, rfl, Wk.go elts kk tpos i T _ _ _ mid fun h2 ⟨old2, ti2, _⟩ keep2 => ?_⟩
    obtain rfl : y = u := by
      rw [show us.toArray[i]? = us[i]? by simp, eu] at ey
      exact (Option.some.inj ey).symm
    subst evs
    have hT : h2.IsTuple T #[.int i t, y] := tupT.at fun o q => keep2 T o (Wk.apart i T h1 mid) q
    have all : ∀ b o, b ∉ [e, it] → s.heap.get? b = some o → h2.get? b = some o := fun b o nb q => keep2 b o nb (keep1 b o nb q)
    have obj : ObjOk X.prog X.w (upd H T (.tup [.int (i : Nat), x])) h2 T (.tup [.int (i : Nat), x]) := ⟨by show 2 ≤ sizeLine; decide, [.int i t, y], .cons ⟨_, rfl⟩ (.cons ru .nil), hT⟩
    have live : ∀ b ∈ [e, it], b < s.heap.objs.size := fun b hb => by
      simp only [List.mem_cons, List.not_mem_nil, or_false] at hb
      rcases hb with rfl | rfl
      · exact Heap.lt_size old.choose_spec
      · exact Heap.lt_size ti.choose_spec.1
    refine ⟨.ref T, upd H T (.tup [.int (i : Nat), x]), I.turnedNew (t' := tk) (ch := [e, it]) all fr new obj, rfl, ⟨T, x, rfl, I.hok.fresh new, rfl, fun ys sy => by rw [I.tuple_inj sy sq]; exact ex⟩, ⟨?_, ti2⟩, fun b hb => ?_⟩
    · obtain ⟨o2, z⟩ := old2
      exact ⟨o2, z⟩
    · rw [upd_ne (Nat.ne_of_lt (Nat.lt_of_lt_of_le (live b hb) new))]
      exact (fr b hb).1
  · intro X eP eW eK calm i pins s σ H E I fr ⟨⟨old, q⟩, ti⟩ ⟨xs, sq, le⟩
    subst eP; subst eW; subst eK
    obtain ⟨us, vals, tup, _⟩ := I.tuple sq
    have hl := vals.length
    obtain ⟨f0, f1, _, f3, f4, f5⟩ := fr it (by simp)
    exact wpAny_pyNext_enum_endD (draws_no (A0 := X.A.in1) (I.ok.hd calm) (its := us.toArray) (by simp; omega)) q ⟨rfl, ti, tup⟩ fun h2 k => ⟨rfl, I.turned (t' := s.toks) k f0 f1 f3 f4 f5⟩
theorem pi_enumT {X : Cx} {x : Expr} {ta : TA} {p pos tpos : Pos} {elts : List Expr} {kk : Nat} (hg : Gl X "enumerate") (hm : X.mg "enumerate" = none) (ha : PA X [x] ta) (hs : starEach [x] X.env = [(false, eval x X.env)]) :
    PI X (.Tuple elts kk tpos) (.Call (.Name "enumerate" p) [x] [] pos) fun σ H R => ta σ H fun vs H1 => ∃ a xs, vs = [.ref a] ∧ SqT X.K H1 a xs ∧ R (IteT X.K a) H1 := ⟨fun pins s σ H R I h => by
  refine PyProof.Rows.Call_ (ld_blt I hg hm PyProof.Rows.boot_enumerate (PyProof.Rows.callWith_type1 (thn (ha.run pos pins s σ H _ I h) ?_) hs rfl))
  rintro us s1 ⟨vs, H1, I1, vals, a, xs, rfl, sq, fin⟩
  cases vals with
  | cons r t =>
    cases t
    cases r
    obtain ⟨its, _, tup, _⟩ := I1.tuple sq
    have lt : a < s1.heap.objs.size := Heap.lt_size tup.choose_spec.1
    refine callType_new F.called_enumerate (by decide) (F.typeCall_enumerate_1 _) (F.newCall_enumerate_1 _) (fun _ => F.args_object_init_2 _ _) F.entry_enumerate_new (enum_new (begins_tuple a its.toArray)) ⟨tup, ?_⟩
    have z : (s1.heap.push { cls := .type "tuple_iterator", data := .fields #[.ref a, .int 0 0] }).objs.size = s1.heap.objs.size + 1 := Heap.size_push ..
    have at0 := enum_at0 (h := s1.heap) (a := a)
    rw [z]
    refine ⟨⟨_, at0.1.choose_spec, rfl⟩, wpAny_pyIter_enum at0.1.choose_spec ?_⟩
    refine ⟨_, [s1.heap.objs.size + 1, s1.heap.objs.size], AtT a (s1.heap.objs.size + 1) s1.heap.objs.size, IteT X.K a, H1, rfl, I1.kept (t' := s1.toks) fun b o q => Heap.get?_push_of_some _ (Heap.get?_push_of_some _ q), turn_enumT (Nat.succ_ne_self _) (Nat.ne_of_lt lt) (Nat.ne_of_gt (Nat.lt_succ_of_lt lt)), at0, fun b hb => ?_, fin⟩
    have le : s1.heap.objs.size ≤ b := by
      simp only [List.mem_cons, List.not_mem_nil, or_false] at hb
      rcases hb with rfl | rfl
      · exact Nat.le_succ _
      · exact Nat.le_refl _
    exact I1.fpOk le (I1.hok.fresh le)⟩
theorem it_enumT {K : PySem.W.Frag} {ρ : Rh} {m : M} {H : Hp} {a : Addr} {vs : List V} {ds : List D} (ht : TupAt K (lives ρ m) H a vs ds) (rs : Reps K (lives ρ m) H vs ds) : ItRep K ρ m H (IteT K a) (ds.zipIdx.map fun q => D.tup [.int q.2, q.1]) := fun ρ' m' H' l r i => by
  have h' : SqT K H' a vs := by
    rcases ht with ⟨n, h⟩ | ⟨h, _⟩
    · exact SqT.of (l a _ h n).1
    · exact h H'
  refine ⟨fun d e => ?_, fun hl => ⟨vs, h', ?_⟩⟩
  · rw [List.getElem?_map, Option.map_eq_some_iff] at e
    obtain ⟨⟨x, j⟩, e, rfl⟩ := e
    rw [List.getElem?_zipIdx, Option.map_eq_some_iff] at e
    obtain ⟨x', e, e2⟩ := e
    simp only [Prod.mk.injEq, Nat.zero_add] at e2
    obtain ⟨rfl, rfl⟩ := e2
    obtain ⟨v, e1, e2⟩ := rs.get e
    refine ⟨⟨vs, v, h', e1⟩, fun z H'' ⟨T, x', ez, hT, eH, hx⟩ => ?_⟩
    have q1 := hx vs h'; rw [e1] at q1; cases q1
    subst ez; subst eH
    exact ⟨later_upd r hT, r.upd hT, .tup (.inl ⟨r.notLive hT, upd_same⟩) (.cons (.int _) (.cons ((e2.ext l).ext (ext_upd hT)) .nil))⟩
  · simp only [List.length_map, List.length_zipIdx] at hl
    rw [rs.length]
    exact hl
theorem s_enum {e : Expr} {elts : List Expr} {kk : Nat} {tpos p pos : Pos} {rs : Env → M → Res (List Oh.W)} (hg : Gl X "enumerate") (hm : X.mg "enumerate" = none) (h : PA X [e] (tAr X.K W rs)) (hs : starEach [e] X.env = [(false, eval e X.env)]) :
    PI X (.Tuple elts kk tpos) (.Call (.Name "enumerate" p) [e] [] pos) (tIt X.K W fun s m => (rs s m).bind enumW) := ⟨fun pins s σ H R I ⟨ρ, st, m, B, k⟩ => by
  cases hq : rs st m with
  | bad => simp only [hq] at k; exact k.elim
  | exc x m1 =>
    simp only [hq] at k
    exact (pi_enum hg hm h hs).run pins s σ H R I ⟨ρ, st, m, B, by rw [hq]; exact k⟩
  | ok ws m1 =>
    simp only [hq, Res.bind_ok] at k
    unfold enumW at k
    split at k
    · refine (pi_enum hg hm h hs).run pins s σ H R I ⟨ρ, st, m, B, ?_⟩
      rw [hq]
      intro vs ρ1 H1 l1 r1 p1
      cases p1 with
      | cons p1 t =>
        cases t
        cases p1 with
        | lst n hh r => exact ⟨_, _, rfl, SqL.of hh, k _ ρ1 H1 l1 r1 (it_enum n hh r)⟩
    · refine (pi_enumT hg hm h hs).run pins s σ H R I ⟨ρ, st, m, B, ?_⟩
      rw [hq]
      intro vs ρ1 H1 l1 r1 p1
      cases p1 with
      | cons p1 t =>
        cases t
        cases p1 with
        | tup hh r => exact ⟨_, _, rfl, hh.sq, k _ ρ1 H1 l1 r1 (it_enumT hh r)⟩
    · exact k.elim⟩
/-! ### classmethods -/
/-- a classmethod of a class lies there -/
def locC (K : PySem.W.Frag) (c f : Nat) (a : Addr) : Prop := ∃ mc p, ClX.CRead K (He.ga K (clsStr c)) mc ∧ ClX.CMet K (He.ga K (clsStr c)) mc (atStr f) p a
theorem s_cm {n c f : Nat} {es : List Expr} {kws : List Keyword} {p1 apos pos : Pos} {src : List Src} {Fn : Fns} {fd : Fd} {rs rk : Env → M → Res (List Oh.W)} (tk : Takes X W) (z : Near X n X.A) (hf : f < manyAt)
    (F : FnAt X n (Fn (mnum c f)) (locC X.K c f) fd) (hkw : kwFit fd (1 + es.length) (kwNames kws) src = true) (hg : Gl X (clsStr c)) (hm : X.mg (clsStr c) = some (.ref (He.ga X.K (clsStr c)))) (hdb : (clsStr c == ("__debug__" : Str)) = false) (Z : Argus X W es kws rs rk)
    (hform : methodCallForm (es.length + kws.length) (backTo pos (starEach es X.env)) (backToKw pos (keywordEach kws X.env)) = true) (hl : (apos.endLine == pos.line) = true) :
    PE X (.Call (.Attribute (.Name (clsStr c) p1) (atStr f) apos) es kws pos) (tE X.K W fun s m => (rs s m).bind fun ws m1 => (rk s m1).bind fun zs m2 => Fn (mnum c f) (bindA (.p (.cls c) :: ws) zs src) m2) := by
  refine ⟨fun pins s σ H Q I ⟨ρ, st, m, B, k⟩ => ?_⟩
  obtain ⟨b, ⟨mc, q, cr, cm⟩, kp, C⟩ := fn_call (k := 1 + es.length) (ks := kwNames kws) tk F z hkw
  refine PySem.W.methodCall_KW (ld_glob I hg hm ?_ hdb) (meth_eval rfl hform hl)
  refine ClX.getmethcm_ok I cr cm fun s1 I1 => ?_
  have C' : CallAsP X W X.A ((s.heap.objs.size, PySem.W.methodObj (.ref b) (.ref (He.ga X.K (clsStr c)))) :: pins) (.ref s.heap.objs.size) es.length (kwNames kws) (fun ws zs m => Fn (mnum c f) (bindA (.p (.cls c) :: ws) zs src) m) := by
    intro s2 σ2 H2 Q2 ρ2 m2 vs zs us xs ws ys I2 rv rz rel pw py hk hks h
    exact PySem.W.method_call (ClX.pin_at I2) (C _ s2 σ2 H2 Q2 ρ2 m2 (.ref (He.ga X.K (clsStr c)) :: vs) zs (.ref (He.ga X.K (clsStr c)) :: us) xs (.p (.cls c) :: ws) ys I2 (.cons rfl rv) rz rel (.cons (.cls c) pw) py (by simp [hk, Nat.add_comm]) hks h)
  refine thn (args_call (P := PySem.W.MethP X.K s.heap.objs.size b (.ref (He.ga X.K (clsStr c)))) (first := []) (firstV := []) (fw := []) (PySem.W.keeps_M cm.fi) (fun H s I => ⟨ClX.pin_at I, I.kIn⟩) (by simpa using C') Z I1 B .nil .nil k) fun _ _ y => ClX.unpinE y
/-! ### a try whose body raises nothing -/
theorem s_tri {body : List Stmt} {h₀ : ExceptHandler} {hs : List ExceptHandler} {pos : Pos} {rb : Env → M → Res Fl} (h : PSs X.nox body (tS X.K W0 rb)) : PS X (.Try body (h₀ :: hs) [] [] pos) (tS X.K W fun s m => noXS (rb s m)) :=
  ps_m (ps_try_thru0 h) fun D σ H ⟨ρ, s, m, B, k⟩ => by
    refine ⟨ρ, s, m, B, ?_⟩
    simp only [] at k
    cases q : rb s m with
    | bad => rw [q] at k; exact k
    | exc x m' => rw [q] at k; exact k
    | ok fl m' =>
      rw [q] at k
      cases fl with
      | xc x s' => exact k.elim
      | nx s' => exact k
      | bk s' => exact k
      | ct s' => exact k
      | rt w => exact k
      | rc xs => exact k
      | rl n => exact k
end
end Oh

set_option Elab.async false
set_option linter.all false
set_option maxRecDepth 100000
set_option maxHeartbeats 2000000
set_option autoImplicit false
/-! OhK: own + and *, dict displays, starred lists -/
namespace Oh
open PySem L2
variable [Lcl]
theorem type_no_radd (K : PySem.W.Frag) : PySem.W.findIn K (.type "type") (dunderR "add") = some none := by kernel_rfl
theorem type_no_rmul (K : PySem.W.Frag) : PySem.W.findIn K (.type "type") (dunderR "mul") = some none := by kernel_rfl
theorem kind_ops (K : PySem.W.Frag) {T : String} (h : T ∈ kinds) {op : Op} (ho : opMay op = true) : ∃ fo ro, PySem.W.findIn K (.type T) (PySem.dunder (opA op).info.2) = some fo ∧ PySem.W.findIn K (.type T) (dunderR (opA op).info.2) = some ro := by
  have z : (PySem.W.findIn K (.type T) (PySem.dunder (opA op).info.2)).isSome = true ∧ (PySem.W.findIn K (.type T) (dunderR (opA op).info.2)).isSome = true := by
    simp only [kinds, List.mem_cons, List.not_mem_nil, or_false] at h
    rcases h with rfl | rfl | rfl | rfl | rfl | rfl | rfl <;> cases op <;> first | (cases ho; done) | exact ⟨by kernel_rfl, by kernel_rfl⟩
  obtain ⟨fo, e1⟩ := Option.isSome_iff_exists.mp z.1
  obtain ⟨ro, e2⟩ := Option.isSome_iff_exists.mp z.2
  exact ⟨fo, ro, e1, e2⟩
theorem op_at {K : PySem.W.Frag} {C f : Addr} : ∀ {op : Op}, opMay op = true → OpK K C (opA op).info.2 → Meth K C (atStr (opNum op)) f → OpAt K C (opA op).info.2 f ∧ (dunderR (opA op).info.2).length ≤ sizeLine
  | .add, _, o, m => ⟨⟨o.first, m.at_, m.fn, o.refl, o.reads, type_no_radd K, o.msg⟩, by decide +kernel⟩
  | .mul, _, o, m => ⟨⟨o.first, m.at_, m.fn, o.refl, o.reads, type_no_rmul K, o.msg⟩, by decide +kernel⟩
  | .sub, h, _, _ => by cases h
  | .fdiv, h, _, _ => by cases h
  | .mod, h, _, _ => by cases h
  | .pow, h, _, _ => by cases h
theorem back_of {X : Cx} {pins : List (Addr × Obj)} {σ : St} {Q : VK} {u : Value} {s' : Shared} (h : EP X pins σ Q u s') : PySem.W.CmpBack (EP X pins σ Q) u s' := by
  obtain ⟨v, H', I, r, q⟩ := h
  unfold PySem.W.CmpBack
  split
  · cases v <;> first | (obtain ⟨t, e⟩ := r; cases e; done) | cases r
  · exact ⟨v, H', I, r, q⟩
section
variable {X : Cx} {W : WX}
theorem s_obin {n : Nat} {G : Nat → Option D} {Fn : Fns} {op : Op} {a b : Expr} {pos : Pos} {ra rb : Env → M → Res Oh.W} (tk : Takes X W) (hcalm : X.calm = true) (z : Near X n X.A) (KT : KitAt X.K G)
    (hT : ∀ c f, f < manyAt → isFn (G (mnum c f)) = true → ∃ fd, FnAt X n (Fn (mnum c f)) (locM X.K c f) fd) (ha : PE X a (tE X.K W ra)) (hb : PE X b (tE X.K W rb)) :
    PE X (.BinOp a (opA op) b pos) (tE X.K W fun s m => (ra s m).bind fun w1 m1 => (rb s m1).bind fun w2 m2 => opW G Fn op w1 w2 m2) := by
  refine ⟨fun pins s σ H Q I ⟨ρ, st, m, B, k⟩ => ?_⟩
  refine wpAny_BinOp (binT (R := fun x y H2 => ∃ ρ2 m2 w1 w2, Later ρ m H ρ2 m2 H2 ∧ Both X.K ρ2 σ st m2 H2 ∧ RepW X.K ρ2 (lives ρ2 m2) H2 x w1 ∧ RepW X.K ρ2 (lives ρ2 m2) H2 y w2 ∧ Aft (Wish X.K W ρ2 m2 H2 σ) (opW G Fn op w1 w2 m2) (Got X.K ρ m H Q)) ha hb I
    (seq B k fun w1 m1 x ρ1 H1 l1 B1 r1 k1 => seq B1 k1 fun w2 m2 y ρ2 H2 l2 B2 r2 k2 => ⟨ρ2, m2, w1, w2, l1.trans l2, B2, r1.later l2, r2, k2⟩) fun v u s2 x y H2 I2 rx ry ⟨ρ2, m2, w1, w2, l, B2, r1, r2, k2⟩ => ?_)
  unfold opW at k2
  split at k2
  · rename_i c fs
    split at k2
    · rename_i hc
      simp only [Bool.and_eq_true] at hc
      obtain ⟨⟨⟨hc1, hc2⟩, hc3⟩, hc4⟩ := hc
      have hop : opNum op < manyAt := by cases op <;> decide
      obtain ⟨fd, F⟩ := hT c (opNum op) hop hc2
      obtain ⟨f, ⟨_, lm⟩, kp, C⟩ := fn_callAs (k := 2) tk F z
      obtain ⟨oa, hsz⟩ := op_at hc3 (KT.ops c op hc3 hc2) lm
      obtain ⟨p, dx, kvs, rfl, hH, ok, fr⟩ := ins_see (w := .p (.ins c fs)) r1 B2.rel rfl
      obtain rfl : v = Value.ref p := rx
      obtain ⟨mA, O, _⟩ := ins_get I2.hok hH
      obtain ⟨od, J, _⟩ := O.look
      have go : ∀ s3, Inv X pins σ H2 s3 → wpAny (model X.prog X.w) X.A (call (.ref f) [.ref p, u]) (PySem.W.CmpBack (EP X pins σ Q)) X.xe s3 := fun s3 I3 =>
        thn (wpAny_call (C pins s3 σ H2 Q ρ2 m2 [.ref p, y] [] [.ref p, u] [] [.p (.ins c fs), w2] [] I3 (.cons rfl (.cons ry .nil)) .nil B2.rel (.cons r1 (.cons r2 .nil)) .nil rfl rfl
          (k2.mono (fun _ _ z => z) fun w' m' g v' ρ' H' l' r' q => g v' ρ' H' (l.trans l') r' q))) fun r s' e => back_of e
      cases q : asD w2 m2 with
      | none => rw [q] at hc4; cases hc4
      | some d =>
        rw [q] at hc4
        by_cases hne : ∃ c2 fs2, d = .ins c2 fs2
        · obtain ⟨c2, fs2, rfl⟩ := hne
          have hw2 : w2 = .p (.ins c2 fs2) := by
            cases w2 with
            | p d' => cases q; rfl
            | c j =>
              unfold asD at q
              simp only [] at q
              split at q <;> cases q
          subst hw2
          simp only [opRgt, Bool.and_eq_true] at hc4
          obtain ⟨p2, dx2, kvs2, rfl, hH2, ok2, fr2⟩ := ins_see (w := .p (.ins c2 fs2)) r2 B2.rel rfl
          obtain rfl : u = Value.ref p2 := ry
          obtain ⟨mA2, O2, _⟩ := ins_get I2.hok hH2
          obtain ⟨od2, J2, _⟩ := O2.look
          by_cases hcc : c2 = c
          · subst hcc
            exact bin_same I2.kIn J oa J2.type (go s2 I2)
          · obtain ⟨fd2, F2⟩ := hT c2 (opNum op) hop hc4.2
            obtain ⟨f2, ⟨_, lm2⟩, _, _⟩ := fn_callAs (k := 2) tk F2 z
            obtain ⟨oa2, _⟩ := op_at hc3 (KT.ops c2 op hc3 hc4.2) lm2
            have hs := KT.sub c c2 hc1 hc4.1
            exact bin_two I2.kIn J J2 (hs.2.2 hcc) oa oa2 hs.1 hsz (I2.ok.hd hcalm) fun h' tk' kp => go _ (I2.kept kp)
        · have hc5 : (isiD d 0).isSome = true := by cases d <;> first | exact hc4 | exact absurd ⟨_, _, rfl⟩ hne
          obtain ⟨t, ty, kd⟩ := ty_see (see_of r2 B2.rel q) hc5
          obtain ⟨P, kx, p', _⟩ := kit_of I2 ry ty
          have hty := kx.ty (model X.prog X.w) s2.heap I2.kIn p'
          rcases kd with ⟨c2, fs2, e, _⟩ | ⟨_, T, hT', rfl⟩
          · exact absurd ⟨c2, fs2, e⟩ hne
          · obtain ⟨fo, ro, e1, e2⟩ := kind_ops X.K hT' hc3
            exact bin_ty I2.kIn J oa hty e1 e2 (KT.ty c hc1 T hT').1 (go s2 I2)
    · exact k2.elim
  · exact k2.elim
theorem s_dct0 {pos : Pos} : PE X (.Dict [] [] pos) (tE X.K W fun _ m => .ok (.p (.dct [])) m) := pe_m pe_dnewK fun σ H Q ⟨ρ, s, m, B, k⟩ p hp => k (.ref p) ρ _ (later_upd B.rel hp) (B.rel.upd hp) (.dct (B.rel.notLive hp) upd_same .nil)
theorem dct1R_ok {w1 w2 w : Oh.W} {m m' : M} (h : dct1R w1 w2 m = .ok w m') : ∃ k d, w1 = .p (.str k) ∧ w2 = .p d ∧ w = .p (.dct [(.str k, d)]) ∧ m' = m := by
  unfold dct1R at h
  split at h
  · cases h; exact ⟨_, _, rfl, rfl, rfl, rfl⟩
  · cases h
theorem noX_aft {α : Type} {ω : D → M → Prop} {r : Res α} {Q : α → M → Prop} (h : Aft ω (noX r) Q) : ∃ a m, r = .ok a m ∧ Q a m := by
  cases r with
  | ok a m => exact ⟨a, m, rfl, h⟩
  | exc x m => exact h.elim
  | bad => exact h.elim
theorem s_dct1 {e : Expr} {rk rv : Env → M → Res Oh.W} (h : PE X e (tDisp [(tE X.K W0 rk, tE X.K W0 rv)])) : PE X e (tE X.K W fun s m => noX ((rk s m).bind fun w1 m1 => (rv s m1).bind fun w2 m2 => dct1R w1 w2 m2)) := pe_m h fun σ H Q ⟨ρ, s, m, B, k⟩ p hp => by
  obtain ⟨w, mE, q, kk⟩ := noX_aft k
  obtain ⟨w1, m1, q1, q⟩ := bind_ok' q
  obtain ⟨w2, m2, q2, q⟩ := bind_ok' q
  obtain ⟨kt, d, rfl, rfl, rfl, rfl⟩ := dct1R_ok q
  have hpg := B.rel.freshG hp
  obtain ⟨ex0, rel0⟩ := both_prv (o := .dK []) B.rel hp
  have at0 : LcAt X.K ρ m H p ⟨ρ.c, p :: ρ.g⟩ m (upd H p (.dK [])) := ⟨List.prefix_rfl, rfl, ex0, fun b hb => upd_ne (fun z : b = p => hpg (by rw [← z]; exact hb)), rel0⟩
  have renv : REnv X.K ⟨ρ.c, p :: ρ.g⟩ (lives ⟨ρ.c, p :: ρ.g⟩ m) (upd H p (.dK [])) σ s := B.env.ext' at0.pre at0.ext
  refine ⟨⟨ρ.c, p :: ρ.g⟩, s, m, ⟨renv, rel0⟩, ?_⟩
  rw [q1]
  intro x ρ1 H1 l1 rel1 rep1
  refine ⟨ρ1, s, m1, ⟨renv.later l1, rel1⟩, ?_⟩
  rw [q2]
  intro y ρ2 H2 l2 rel2 rep2
  have at1 := at0.later l1 rel1
  have at2 := at1.later l2 rel2
  have hm1 : p ∈ ρ1.g := by rw [at1.grd]; exact List.mem_cons_self
  have hm0 : p ∈ (p :: ρ.g) := List.mem_cons_self
  have hp2 : H2 p = some (.dK []) := by rw [l2.prv p hm1, l1.prv p hm0]; exact upd_same
  cases rep1 with
  | str _ okk =>
    refine ⟨hp2, [(.inr (mkS kt), y)], rfl, by simp, ?_⟩
    obtain ⟨l, rl, ex⟩ := at2.done hpg
    have her : er H2 p p = none := by unfold er; rw [if_pos rfl]
    have eu : upd H2 p (.dK (mergeK [] [(.inr (mkS kt), y)])) = upd (er H2 p) p (.dK [((Sum.inr (mkS kt) : Key), y)]) := by
      funext b
      unfold upd er
      by_cases hb : b = p
      · rw [if_pos hb, if_pos hb]; rfl
      · rw [if_neg hb, if_neg hb, if_neg hb]
    rw [eu]
    exact kk (.ref p) ⟨ρ2.c, ρ.g⟩ _ (l.trans (later_upd rl her)) (rl.upd her) (.dct (rl.notLive her) upd_same (.cons okk ((Rep.ext ex rep2).ext (ext_upd her)) .nil))
theorem starW_ok {ρ : Rh} {m : M} {H : Hp} {x : V} {w : Oh.W} {xs : List D} (r : RepW X.K ρ (lives ρ m) H x w) (h : starW w = some xs) : ∃ p vs, x = V.ref p ∧ (SqT X.K H p vs ∨ SqL X.K H p vs) ∧ Reps X.K (lives ρ m) H vs xs := by
  unfold starW at h
  split at h
  · cases h
    cases r with
    | lst n h r => exact ⟨_, _, rfl, .inr (SqL.of h), r⟩
  · cases h
    cases r with
    | tup h r => exact ⟨_, _, rfl, .inl h.sq, r⟩
  · cases h
theorem s_star2 {a b : Expr} {p1 p2 pos : Pos} {ra rb : Env → M → Res Oh.W} (ha : PE X a (tE X.K W ra)) (hb : PE X b (tE X.K W rb)) :
    PE X (.List [.Starred a p1, .Starred b p2] pos) (tE X.K W fun s m => (ra s m).bind fun w1 m1 => (ofO (starW w1) m1).bind fun xs m2 => (rb s m2).bind fun w2 m3 => (ofO (starW w2) m3).bind fun ys m4 => lcList (xs ++ ys) m4) :=
  pe_m (pe_lst (StX.pa_star ha (StX.pa_star hb pa_nil))) fun σ H Q ⟨ρ, s, m, B, k⟩ => by
    refine seq B k fun w1 m1 x ρ1 H1 l1 B1 r1 k1 => ?_
    obtain ⟨xs, e1, k1⟩ := ofO_ok k1.bind
    obtain ⟨p, vs, rfl, hx, rs⟩ := starW_ok r1 e1
    refine ⟨p, vs, rfl, hx, ?_⟩
    refine seq B1 k1 fun w2 m2 y ρ2 H2 l2 B2 r2 k2 => ?_
    obtain ⟨ys, e2, k2⟩ := ofO_ok k2.bind
    obtain ⟨p2, vs2, rfl, hx2, rs2⟩ := starW_ok r2 e2
    refine ⟨p2, vs2, rfl, hx2, ?_⟩
    obtain ⟨hl, k3⟩ := lcList_ok k2
    have rr := (rs.ext l2.ext).append rs2
    show (vs ++ (vs2 ++ [])).length ≤ sizeLine ∧ ∀ l, H2 l = none → Q (V.ref l) (upd H2 l (HO.lst (vs ++ (vs2 ++ []))))
    rw [List.append_nil]
    refine ⟨by rw [rr.length]; exact line_le hl, fun l hl' => ?_⟩
    exact k3 (.ref l) ρ2 _ ((l1.trans l2).trans (later_upd B2.rel hl')) (B2.rel.upd hl') (.lst (B2.rel.notLive hl') upd_same (rr.ext (ext_upd hl')))
end
end Oh

set_option Elab.async false
set_option linter.all false
set_option maxRecDepth 100000
set_option maxHeartbeats 4000000
set_option autoImplicit false
/-! OhH: sorted(set(list of ints)), min(list of ints, default=None) -/
namespace Oh
open PySem L2 PyProof.Rows
variable [Lcl]
/-- a new set -/
abbrev set0 (w : World) : Obj := { cls := .type "set", dict := none, data := .set #[] 0 (.fresh 0 0 (!w.params.followText "set-order")) }
section
variable {P : Program} {w : World} {A : Around} {E : Value → Shared → Prop}
theorem set_fill {hp : Heap} {g : Array GenState} {d : Drawn} {t : Nat} {os : OsState} {l S : Addr} {items : Array Value} (ns : List Int) {Q : Fin → Shared → Prop} (hh : A.handled = none) (hl : hp.IsList l items) (hS : hp.get? S = some (set0 w)) (hne : l ≠ S) (hit : IntsAre items.toList ns) (hb : ns.length + 1 < scanBound)
    (h : ∀ (h' : Heap) (tk c : Nat), SetR w h' S (fun j => decide (j ∈ ns)) c → c ≤ ns.length → (∀ b o, b ≠ S → hp.get? b = some o → h'.get? b = some o) → Q (.done (.ret .none)) ⟨h', g, d, tk, os⟩) :
    wpAny (model P w) A (Builtin.«set.__init__» ⟨[.ref S, .ref l], []⟩) Q E ⟨hp, g, d, t, os⟩ := by
  obtain ⟨ol, hol, hcl, nl, hdl⟩ := hl
  obtain ⟨ocls, odict, odata, oslots⟩ := ol
  simp only at hcl hdl
  subst hcl; subst hdl
  have f1 := F.sub_list_set
  have f2 := F.sub_list_frozenset
  have f3 : (Value.type "list" == Value.type "dict") = false := by decide
  have hT : (⟨hp, g, d, t, os⟩ : Shared).TypeIs (.ref S) "set" := ⟨_, hS, rfl⟩
  unfold Builtin.«set.__init__» noKeywords Builtin.Frozenset.updateFrom
  generalize hPI : pyIter = PI
  wp_walk
  subst hPI
  have hl1 : hp.IsList l items := ⟨_, hol, rfl, nl, rfl⟩
  have hlt : l < hp.objs.size := Heap.lt_size hol
  have hsz : items.size = ns.length := by have := IntsAre.length hit; rwa [Array.length_toList] at this
  have hval : ∀ (i : Nat) (u : Value), items[i]? = some u → ∃ k t, ns[i]? = some k ∧ u = .int k t := fun i v hv => by
    have hi : i < ns.length := hsz ▸ (Array.getElem?_eq_some_iff.mp hv).1
    obtain ⟨t, e⟩ := IntsAre.int_at hit i v (by rw [Array.getElem?_toList]; exact hv)
    exact ⟨ns[i], t, List.getElem?_eq_getElem hi, by rw [e, List.getD_eq_getElem?_getD, List.getElem?_eq_getElem hi]; rfl⟩
  refine wpAny_pyIter_list (s := ⟨hp, g, d, t, os⟩) hl1 (wpAny_bind (wpAny_runValue ?_))
  have nI : ∀ b o, hp.get? b = some o → b ≠ hp.objs.size := fun b o e => Nat.ne_of_lt (Heap.lt_size e)
  refine set_update_ints ((Walks.list (A := A.in1) (by simp [hh]) hp.objs.size l (Nat.ne_of_lt hlt) items).toS) S (by simp only [List.mem_cons, List.not_mem_nil, or_false, not_or]; exact ⟨nI S _ hS, fun e => hne e.symm⟩) ns hsz hb hval (items.size - 0) 0 _ (by omega) (Nat.zero_le _)
    ⟨⟨_, Heap.get?_push_size _ rfl, rfl, rfl⟩, hl1.push _⟩ ⟨0, Nat.le_refl 0, setR_new_at (Heap.get?_push_of_some _ hS)⟩ fun s' c' hm hc' hS' => ?_
  obtain ⟨h', g2, d', tk', os'⟩ := s'
  obtain rfl : g2 = g := hm.gens
  obtain rfl : d' = d := hm.drawn
  obtain rfl : os' = os := hm.os
  refine wpAny_pure (wpAny_pure (h h' tk' c' hS' (hsz ▸ hc') fun b o hbS e => hm.heap b o ?_ (Heap.get?_push_of_some _ e)))
  simp only [List.mem_cons, List.not_mem_nil, or_false, not_or]
  exact ⟨hbS, nI b o e⟩
theorem set_list {s : Shared} {l : Addr} {items : Array Value} (ns : List Int) {Q : Value → Shared → Prop} (hh : A.handled = none) (hl : s.heap.IsList l items) (hit : IntsAre items.toList ns) (hb : ns.length + 1 < scanBound)
    (h : ∀ (hz : Heap) (tz c : Nat), SetR w hz s.heap.objs.size (fun j => decide (j ∈ ns)) c → c ≤ ns.length → (∀ b o, s.heap.get? b = some o → hz.get? b = some o) → Q (.ref s.heap.objs.size) { s with heap := hz, toks := tz }) : wpAny (model P w) A (call (.type "set") [.ref l]) Q E s := by
  have fc := F.called_set
  obtain ⟨c, tl, hmro⟩ := fc.mro
  have q1 := fc.made; have q2 := fc.sub; have q3 := fc.notType; have q4 := fc.canCreate; have q5 := F.typeCall_set_1 (.ref l)
  refine wpAny_call (codeAny_of_tree (M := model P w) ?_); show wpAny _ _ (callAny (.type "set") _) _ _ _
  have qu := Code.quiet_builtin (id := "type.__call__") ⟨.type "set" :: [.ref l], []⟩ (by decide +kernel)
  refine wpAny_pure ⟨qu, codeAny_builtin F.entry_type_call ?_⟩; rw [Around.under_plain (weight_type_call_type "set" [.ref l] []) rfl]
  repeat (any_goals (first | assumption | wp_step)); skip
  have new := code_set_led1 (P := P) (w := w) (A := A.in1) (s := s) (.ref l) (E := E) (Q₁ := fun obj s₁ => obj = .ref s.heap.objs.size ∧ s₁ = { s with heap := s.heap.push (set0 w) }) ⟨rfl, rfl⟩
  refine codeAny_mono new fun r s₁ hr => ?_
  have hS : (s.heap.push (set0 w)).get? s.heap.objs.size = some (set0 w) := Heap.get?_push_size _ rfl
  rcases r with e | fl
  · exact hr
  · cases fl with
    | ret obj =>
      obtain ⟨rfl, rfl⟩ := hr
      have hT : Shared.TypeIs { s with heap := s.heap.push (set0 w) } (.ref s.heap.objs.size) "set" := ⟨_, hS, rfl⟩
      have q6 := fc.init.lookup; have q7 := fc.init.bind (.ref s.heap.objs.size)
      repeat (any_goals (first | assumption | wp_step)); skip
      obtain ⟨ol, hol, hrest⟩ := hl
      have hl1 : (s.heap.push (set0 w)).IsList l items := ⟨ol, Heap.get?_push_of_some _ hol, hrest⟩
      refine codeAny_call_builtin fc.init.plain F.entry_set_init (check_set_init_1 hT (set_fill ns (by simp [hh]) hl1 hS (Nat.ne_of_lt (Heap.lt_size hol)) hit hb fun h' tk c' R' hc' kp => ?_))
      have k2 : ∀ b o, s.heap.get? b = some o → h'.get? b = some o := fun b o e => kp b o (Nat.ne_of_lt (Heap.lt_size e)) (Heap.get?_push_of_some _ e)
      exact wpAny_pure (wpAny_pure (h h' tk c' R' hc' k2))
    | _ => exact hr.elim
theorem min_def {s : Shared} {l : Addr} {items : Array Value} {ns : List Int} {Q : Value → Shared → Prop} (hh : A.handled = none) (hl : s.heap.IsList l items) (hit : IntsAre items.toList ns)
    (h0 : ns = [] → ∀ h' tk, (∀ b o, s.heap.get? b = some o → h'.get? b = some o) → Q .none { s with heap := h', toks := tk })
    (h1 : ∀ m t h' tk, m ∈ ns → (∀ y ∈ ns, m ≤ y) → (∀ b o, s.heap.get? b = some o → h'.get? b = some o) → Q (.int m t) { s with heap := h', toks := tk }) :
    wpAny (model P w) A (call (.builtin "min") [.ref l] [(Str.ofString "default", .none)]) Q E s := by
  have hsz : items.size = ns.length := by have := IntsAre.length hit; rwa [Array.length_toList] at this
  have hv : ∀ (i : Nat) (v : Value), items[i]? = some v → ∃ t, v = .int (ns.getD i 0) t := fun i v hv => IntsAre.int_at hit i v (by rw [Array.getElem?_toList]; exact hv)
  refine call_min_walkD (PySem.W.iter_listW (A := A.in1) hh hl fun s₂ e W st hfp hw hk => ⟨_, _, _, _, _, _, _, s.heap, (fun i j => decide (ns.getD i 0 < ns.getD j 0)), rfl, W, st, hfp, hw, hk, fun hz s' m => ?_, fun hp => ⟨fun i j vi vj s' Q' E' _ hi hj hq => ?_, fun v s' hP m => ?_⟩⟩)
  · obtain ⟨h', tk, rfl, hk'⟩ := PySem.W.moved_old e rfl m
    exact h0 (List.eq_nil_of_length_eq_zero (by omega)) h' tk hk'
  · obtain ⟨t, rfl⟩ := hv i vi hi
    obtain ⟨u, rfl⟩ := hv j vj hj
    exact wpAny_lt_int hq
  · obtain ⟨h', tk, rfl, hk'⟩ := PySem.W.moved_old e rfl m
    obtain ⟨t, rfl⟩ := hv _ v hP
    obtain ⟨b1, b2⟩ := argBest_lt (fun i => ns.getD i 0) (items.size - 1)
    refine h1 _ t h' tk ?_ (fun y hy => ?_) hk'
    · have hlt : argBest (fun i j => decide (ns.getD i 0 < ns.getD j 0)) (items.size - 1) < ns.length := by omega
      rw [List.getD_eq_getElem?_getD, List.getElem?_eq_getElem hlt]
      exact List.getElem_mem hlt
    · obtain ⟨j, hj, rfl⟩ := List.mem_iff_getElem.mp hy
      have := b2 j (by omega)
      simp only [List.getD_eq_getElem?_getD, List.getElem?_eq_getElem hj, Option.getD_some] at this ⊢
      exact this
end
/-! ### as rules -/
section
variable {X : Cx} {W : WX}
def rSetL (K : PySem.W.Frag) (w : World) : List V → Hp → VK → Prop := fun vs H Q => ∃ (a : Addr) (ns : List Int), vs = [V.ref a] ∧ SqL K H a (ns.map V.int) ∧ ns.length < 64 ∧ ∀ p c, c ≤ ns.length → H p = none → Q (.ref p) (upd H p (SetO w p (fun j => decide (j ∈ ns)) c))
theorem cr_setL (hc : X.calm = true) : CallR X (.type "set") (rSetL X.K X.w) := by
  intro pins s σ H vs us Q I r h
  obtain ⟨a, ns, rfl, hs, h64, q⟩ := h
  obtain ⟨its, rv, hl, _⟩ := I.list hs
  rw [Vals.ref1 r]
  refine set_list ns (I.ok.hd hc) hl.isList rv.ints (by unfold scanBound; omega) fun h' tk c R hc' kp => ?_
  exact ⟨.ref s.heap.objs.size, _, I.laid (t' := tk) kp (Nat.le_refl _) (setO_new R), rfl, q _ c hc' (I.hok.fresh (Nat.le_refl _))⟩
def rMinD (K : PySem.W.Frag) : List V → List V → Hp → VK → Prop := fun vs zs H Q => ∃ (a : Addr) (ns : List Int), vs = [V.ref a] ∧ zs = [.non] ∧ SqL K H a (ns.map V.int) ∧ (ns = [] → Q .non H) ∧ ∀ m, m ∈ ns → (∀ y ∈ ns, m ≤ y) → Q (.int m) H
theorem cr_minD (hc : X.calm = true) : CallRK X (.builtin "min") [Str.ofString "default"] (rMinD X.K) := by
  intro pins s σ H vs zs us ws Q I r rz h
  obtain ⟨a, ns, rfl, rfl, hs, q0, q1⟩ := h
  obtain ⟨its, rv, hl, _⟩ := I.list hs
  rw [Vals.ref1 r]
  cases rz with
  | cons r1 r2 =>
    cases r1
    cases r2
    exact min_def (I.ok.hd hc) hl.isList rv.ints (fun e h' tk kp => ⟨.non, H, I.kept kp, rfl, q0 e⟩) fun m t h' tk h1 h2 kp => ⟨.int m, H, I.kept kp, ⟨t, rfl⟩, q1 m h1 h2⟩
/-! ### in the evaluator -/
theorem s_sset {e : Expr} {ra : Env → M → Res Oh.W} (h : PE X e (tCB (rSortedSet X.w) (tCons (tCB (rSetL X.K X.w) (tCons (tE X.K W ra) tNil)) tNil))) : PE X e (tE X.K W fun s m => (ra s m).bind fun w m1 => op1 ssetD w m1) := pe_m h fun σ H Q ⟨ρ, s, m, B, k⟩ => by
  refine seq B k fun w m1 x ρ1 H1 l1 B1 r1 k1 => ?_
  obtain ⟨d, z, e1, e2, k2⟩ := op1_ok k1
  unfold ssetD at e2
  split at e2
  · split at e2
    · rename_i ns en
      split at e2
      · rename_i hlen
        cases e2
        obtain ⟨p, vs, rfl, hp, rs⟩ := (see_of r1 B1.rel e1).lst
        rw [intsD_eq en] at rs
        rw [rs.intsV] at hp
        refine ⟨p, ns, rfl, SqL.of hp, hlen, fun q c hc hq => ?_⟩
        refine ⟨q, _, c, rfl, upd_same, by omega, fun ns' q' pw mem _ hq' => ?_⟩
        have : ns' = setI ns := rise_eq pw (setI_pw ns) fun x => by rw [mem x, setI_mem]; simp
        subst this
        have l2 := later_upd (o := SetO X.w q (fun j => decide (j ∈ ns)) c) B1.rel hq
        have rl2 := B1.rel.upd (o := SetO X.w q (fun j => decide (j ∈ ns)) c) hq
        exact k2 (.ref q') ρ1 _ ((l1.trans l2).trans (later_upd rl2 hq')) (rl2.upd hq') (.lst (rl2.notLive hq') upd_same (Reps.ints _))
      · cases e2
    · cases e2
  · cases e2
theorem s_mind {e : Expr} {ra : Env → M → Res Oh.W} (h : PE X e (tCKw (rMinD X.K) (tCons (tE X.K W ra) tNil) (tCons (tC .non) tNil))) : PE X e (tE X.K W fun s m => (ra s m).bind fun w m1 => op1 mindD w m1) := pe_m h fun σ H Q ⟨ρ, s, m, B, k⟩ => by
  refine seq B k fun w m1 x ρ1 H1 l1 B1 r1 k1 => ?_
  obtain ⟨d, z, e1, e2, k2⟩ := op1_ok k1
  unfold mindD at e2
  split at e2
  · split at e2
    · rename_i en
      cases e2
      obtain ⟨p, vs, rfl, hp, rs⟩ := (see_of r1 B1.rel e1).lst
      rw [intsD_eq en] at rs
      rw [rs.intsV] at hp
      exact ⟨p, [], rfl, rfl, SqL.of hp, fun _ => k2 .non ρ1 H1 l1 B1.rel .non, fun m hm => by cases hm⟩
    · rename_i y r en
      cases e2
      obtain ⟨p, vs, rfl, hp, rs⟩ := (see_of r1 B1.rel e1).lst
      rw [intsD_eq en] at rs
      rw [rs.intsV] at hp
      refine ⟨p, y :: r, rfl, rfl, SqL.of hp, (fun e => by cases e), fun m hm hle => ?_⟩
      obtain ⟨h1, h2⟩ := minL_ok r y
      have : m = minL y r := Int.le_antisymm (hle _ h1) (h2 _ hm)
      subst this
      exact k2 (.int _) ρ1 H1 l1 B1.rel (.int _)
    · cases e2
  · cases e2
theorem s_catN {a b : Expr} {pos : Pos} {ra rb : Env → M → Res Oh.W} (ha : PE X a (tE X.K W ra)) (hb : PE X b (tE X.K W rb)) : PE X (.BinOp a .Add b pos) (tN X.K W fun s m => (ra s m).bind fun w1 m1 => (rb s m1).bind fun w2 m2 => op2 catD w1 w2 m2) := pe_m (pe_op op_cat ha hb) fun σ H Q ⟨ρ, s, m, B, k⟩ => by
  refine seq B k fun w1 m1 x ρ1 H1 l1 B1 r1 k1 => ?_
  refine seq B1 k1 fun w2 m2 y ρ2 H2 l2 B2 r2 k2 => ?_
  obtain ⟨d1, d2, z, e1, e2, e3, ds, e4, k3⟩ := op2_ok k2
  unfold catD at e3
  split at e3
  · split at e3
    · cases e3
      cases e4
      obtain ⟨p, vs, rfl, h1, q1⟩ := (see_of (r1.later l2) B2.rel e1).lst
      obtain ⟨p2, vs2, rfl, h2, q2⟩ := (see_of r2 B2.rel e2).lst
      exact ⟨p, p2, vs, vs2, rfl, rfl, h1, h2, by rw [q1.length, q2.length]; exact line_le (by assumption), fun q hq => k3 q (vs ++ vs2) ρ2 H2 (l1.trans l2) B2.rel (q1.append q2) hq⟩
    · cases e3
  · cases e3
theorem cat_lst {w1 w2 w : Oh.W} {m m' : M} (h : op2 catD w1 w2 m = .ok w m') : ∃ ds, w = .p (.lst ds) := by
  unfold op2 at h
  split at h
  · split at h
    · rename_i z e
      cases h
      unfold catD at e
      split at e
      · split at e
        · cases e; exact ⟨_, rfl⟩
        · cases e
      · cases e
    · cases h
  · cases h
end
end Oh

set_option Elab.async false
set_option linter.all false
set_option maxRecDepth 100000
set_option maxHeartbeats 4000000
set_option autoImplicit false
/-! OhKa: list(d.items()), dict(pairs), the least text, a display of two, a pair with a new dict -/
namespace Oh
open PySem L2 PyProof.Rows
variable [Lcl]
/-- a heap that holds more -/
theorem later_more {K : PySem.W.Frag} {ρ : Rh} {m : M} {H H' : Hp} (r : Rel K ρ m H) (h : ∀ b o, H b = some o → H' b = some o) : Later ρ m H ρ m H' ∧ Rel K ρ m H' := by
  have ex : Ext (lives ρ m) H (lives ρ m) H' := fun a o q n => ⟨h a o q, n⟩
  refine ⟨⟨List.prefix_rfl, rfl, ex, fun a q => ?_⟩, ⟨r.len, r.nd, fun n a c h1 h2 => (r.cell n a c h1 h2).ext ex (h a), fun a q => ?_⟩⟩
  · obtain ⟨_, u, e⟩ := r.prv a q
    rw [e, h a u e]
  · obtain ⟨n, u, e⟩ := r.prv a q
    exact ⟨n, u, h a u e⟩
section
variable {K : PySem.W.Frag} {L : List Addr} {H : Hp}
theorem pair_reps : ∀ {ts : List Addr} {kvs : List (Key × V)} {ds : List (D × D)}, (∀ t ∈ ts, t ∉ L) → Paired (fun (t : Addr) (q : Key × V) => H t = some (.tup [kV q.1, q.2])) ts kvs → KReps K L H kvs ds → Reps K L H (ts.map V.ref) (ds.map fun q => D.tup [q.1, q.2])
  | _, _, _, _, .nil, .nil => .nil
  | _, _, _, hn, .cons h t, .cons ok r rs => .cons (.tup (.inl ⟨hn _ List.mem_cons_self, h⟩) (.cons (.str _ ok) (.cons r .nil))) (pair_reps (fun t h => hn t (List.mem_cons_of_mem _ h)) t rs)
theorem pairsD_cons {x : D} {xs : List D} {kd : List (D × D)} (h : pairsD (x :: xs) = some kd) : ∃ k v kd', x = .tup [.str k, v] ∧ pairsD xs = some kd' ∧ kd = (.str k, v) :: kd' := by
  unfold pairsD at h
  split at h
  · rename_i e
    cases e
  · rename_i k v r e
    cases e
    cases q : pairsD xs with
    | none => rw [q] at h; cases h
    | some kd' => rw [q] at h; cases h; exact ⟨_, _, _, rfl, rfl, rfl⟩
  · cases h
theorem pairs_reps : ∀ {xs : List D} {vs : List V} {kd : List (D × D)}, Reps K L H vs xs → pairsD xs = some kd → ∃ (ps : List Addr) (kvs : List (Key × V)), vs = ps.map V.ref ∧ Paired (fun p (kv : Key × V) => SqT K H p [kV kv.1, kv.2]) ps kvs ∧ KReps K L H kvs kd
  | [], _, _, .nil, h => by cases h; exact ⟨[], [], rfl, .nil, .nil⟩
  | x :: xs, _, _, .cons r t, h => by
    obtain ⟨k, v, kd', rfl, e, rfl⟩ := pairsD_cons h
    obtain ⟨ps, kvs, rfl, hp, hr⟩ := pairs_reps t e
    cases r with
    | tup ht rs =>
      cases rs with
      | cons r1 rs =>
        cases r1 with
        | str _ ok =>
          cases rs with
          | cons r2 rs =>
            cases rs
            exact ⟨_ :: ps, (.inr (mkS k), _) :: kvs, rfl, .cons ht.sq hp, .cons ok r2 hr⟩
theorem KReps.merge : ∀ {kvs : List (Key × V)} {kd : List (D × D)} {acc : List (Key × V)} {ad : List (D × D)}, KReps K L H kvs kd → KReps K L H acc ad → KReps K L H (mergeK acc kvs) (mergeD ad kd)
  | _, _, _, _, .nil, h => h
  | _ :: vs, _ :: ds, acc, ad, .cons (k := k) (v := v) (d := d) ok r t, h => show KReps K L H (mergeK (putK acc (.inr (mkS k)) v) vs) (mergeD (putD k d ad) ds) from KReps.merge t (h.put ok r)
end
theorem tx_tri (a b : Tx) : a < b ∨ a = b ∨ b < a := by
  by_cases h : a < b
  · exact .inl h
  · by_cases h2 : b < a
    · exact .inr (.inr h2)
    · exact .inr (.inl (List.le_antisymm (List.not_lt.mp h2) (List.not_lt.mp h)))
section
variable {P : Program} {w : World} {A : Around} {E : Value → Shared → Prop}
theorem argBest_tx (num : Nat → Tx) : ∀ k, argBest (fun i j => decide (num i < num j)) k ≤ k ∧ ∀ j, j ≤ k → ¬ num j < num (argBest (fun i j => decide (num i < num j)) k)
  | 0 => ⟨Nat.le_refl _, fun j hj => by
    have : j = 0 := by omega
    subst this
    exact List.lt_irrefl _⟩
  | k + 1 => by
    obtain ⟨h1, h2⟩ := argBest_tx num k
    simp only [argBest]
    by_cases hc : num (k + 1) < num (argBest (fun i j => decide (num i < num j)) k)
    · rw [if_pos (by simpa using hc)]
      refine ⟨Nat.le_refl _, fun j hj hlt => ?_⟩
      rcases Nat.lt_or_ge j (k + 1) with h | h
      · exact h2 j (by omega) (List.lt_trans hlt hc)
      · have : j = k + 1 := by omega
        subst this
        exact List.lt_irrefl _ hlt
    · rw [if_neg (by simpa using hc)]
      refine ⟨by omega, fun j hj => ?_⟩
      rcases Nat.lt_or_ge j (k + 1) with h | h
      · exact h2 j (by omega)
      · have : j = k + 1 := by omega
        subst this
        exact hc
theorem min_txt {s : Shared} {l : Addr} {items : Array Value} {ts : List Tx} {Q : Value → Shared → Prop} (hh : A.handled = none) (hl : s.heap.IsList l items) (hv : ∀ (i : Nat) (v : Value), items[i]? = some v → ∃ t, v = .str (mkS (ts.getD i [])) t) (hsz : items.size = ts.length) (hne : 0 < ts.length)
    (h1 : ∀ m t h' tk, m ∈ ts → (∀ y ∈ ts, ¬ y < m) → (∀ b o, s.heap.get? b = some o → h'.get? b = some o) → Q (.str (mkS m) t) { s with heap := h', toks := tk }) :
    wpAny (model P w) A (call (.builtin "min") [.ref l]) Q E s := by
  have hlt : l < s.heap.objs.size := by obtain ⟨_, e, _⟩ := hl; exact Heap.lt_size e
  refine call_min_walk (wpAny_pyIter_list hl ⟨_, _, _, _, _, _, (fun i j => decide (ts.getD i [] < ts.getD j [])), rfl, Walks.list (A := A.in1) hh _ l (Nat.ne_of_lt hlt) items, ⟨⟨_, Heap.get?_push_size _ rfl, rfl, rfl⟩, hl.push _⟩, fun b hb => ?_, by omega, fun i j vi vj s' Q' E' hi hj hq => ?_, fun v h' tk hP hk => ?_⟩)
  · show b < (s.heap.push _).objs.size
    rw [Heap.size_push]
    simp only [List.mem_cons, List.not_mem_nil, or_false] at hb
    rcases hb with rfl | rfl
    · exact Nat.lt_succ_self _
    · exact Nat.lt_succ_of_lt hlt
  · obtain ⟨t, rfl⟩ := hv i vi hi
    obtain ⟨u, rfl⟩ := hv j vj hj
    exact lt_str hq
  · obtain ⟨t, rfl⟩ := hv _ v hP
    obtain ⟨b1, b2⟩ := argBest_tx (fun i => ts.getD i []) (items.size - 1)
    refine h1 _ t h' tk ?_ (fun y hy => ?_) fun b o e => hk b o (fun z => ?_) (Heap.get?_push_of_some _ e)
    · have hlt : argBest (fun i j => decide (ts.getD i [] < ts.getD j [])) (items.size - 1) < ts.length := by omega
      rw [List.getD_eq_getElem?_getD, List.getElem?_eq_getElem hlt]
      exact List.getElem_mem hlt
    · obtain ⟨j, hj, rfl⟩ := List.mem_iff_getElem.mp hy
      have := b2 j (by omega)
      simp only [List.getD_eq_getElem?_getD, List.getElem?_eq_getElem hj, Option.getD_some] at this ⊢
      exact this
    · have hb : b = s.heap.objs.size := by simpa using z
      have hb2 := Heap.lt_size e
      rw [hb] at hb2
      exact Nat.lt_irrefl _ hb2
end
section
variable {X : Cx} {W : WX}
theorem s_litems {e : Expr} {ra : Env → M → Res Oh.W} (h : PE X e (LiI.tListItems (tE X.K W ra))) : PE X e (tE X.K W fun s m => (ra s m).bind fun w m1 => op1 litemsD w m1) := pe_m h fun σ H Q ⟨ρ, s, m, B, k⟩ => by
  refine seq B k fun w m1 x ρ1 H1 l1 B1 r1 k1 => ?_
  obtain ⟨d, z, e1, e2, k2⟩ := op1_ok k1
  unfold litemsD at e2
  split at e2
  · cases e2
    obtain ⟨p, vs, rfl, hp, rs⟩ := (see_of r1 B1.rel e1).dct
    refine ⟨p, vs, rfl, hp, fun H' q ts hk hq ht hn h1 h2 => ?_⟩
    obtain ⟨l2, rl2⟩ := later_more B1.rel hk
    exact k2 (.ref q) ρ1 H' (l1.trans l2) rl2 (.lst (B1.rel.notLive hq) h1 (pair_reps (fun t h => B1.rel.notLive (ht t h)) h2 (rs.ext l2.ext)))
  · cases e2
def rDictP (K : PySem.W.Frag) : List V → Hp → VK → Prop := fun xs H Q => ∃ (a : Addr) (ps : List Addr) (kvs : List (Key × V)), xs = [.ref a] ∧ SqL K H a (ps.map V.ref) ∧ Paired (fun p kv => SqT K H p [kV kv.1, kv.2]) ps kvs ∧
    ∀ p, H p = none → Q (.ref p) (upd H p (.dK (mergeK [] kvs)))
theorem s_setdn {st : Stmt} {i : Nat} {ra : Env → M → Res Oh.W} (h : PS X st (tAsg (tCB (rDictP X.K) (tCons (tE X.K W ra) tNil)) (gName i))) : PS X st (tS X.K W fun s m => (ra s m).bindS s fun w m1 => (op1 dnewD w m1).bindS s fun w2 m2 => newCell i w2 s m2) := ps_m h fun D σ H ⟨ρ, s, m, B, k⟩ => by
  refine seqS B k fun w m1 x ρ1 H1 l1 B1 r1 k1 => ?_
  unfold op1 at k1
  split at k1
  · rename_i d e1
    split at k1
    · rename_i z e2
      unfold dnewD at e2
      split at e2
      · split at e2
        · rename_i kd ep
          cases e2
          obtain ⟨p, vs, rfl, hp, rs⟩ := (see_of r1 B1.rel e1).lst
          obtain ⟨ps, kvs, rfl, hpr, hk⟩ := pairs_reps rs ep
          refine ⟨p, ps, kvs, rfl, SqL.of hp, hpr, fun q hq => ?_⟩
          obtain ⟨l2, r2⟩ := new_cellC (cc := .dct (mergeD [] kd)) (o := .dK (mergeK [] kvs)) B1.rel hq fun _ _ x h => ⟨_, h, KReps.merge (hk.ext x) .nil⟩
          refine k1 _ _ _ l2 ⟨(B1.env.later l2).set (w := .c m1.length) ⟨q, ?_, rfl⟩ i, r2⟩
          show (ρ1.c ++ [q])[m1.length]? = some q
          rw [← B1.rel.len, List.getElem?_append_right (Nat.le_refl _)]
          simp
        · cases e2
      · cases e2
    · exact k1.elim
  · exact k1.elim
theorem s_parl {st : Stmt} {i j : Nat} {ra : Env → M → Res Oh.W} (h : PS X st (tPar i j (tCons (tE X.K W ra) (tCons (tLst tNil) tNil)))) : PS X st (tS X.K W fun s m => (ra s m).bindS s fun w m1 => newCell j (.p (.lst [])) (s.set i (some w)) m1) := ps_m h fun D σ H ⟨ρ, s, m, B, k⟩ => by
  refine seqS B k fun w m1 x ρ1 H1 l1 B1 r1 k1 => ?_
  refine ⟨Nat.zero_le _, fun p hp => ?_⟩
  obtain ⟨l2, r2⟩ := new_cellC (cc := .lst []) (o := .lst []) B1.rel hp fun _ _ _ h => ⟨[], h, .nil⟩
  refine ⟨x, .ref p, rfl, k1 _ _ _ l2 ⟨((B1.env.later l2).set (r1.later l2) i).set (w := .c m1.length) ⟨p, ?_, rfl⟩ j, r2⟩⟩
  show (ρ1.c ++ [p])[m1.length]? = some p
  rw [← B1.rel.len, List.getElem?_append_right (Nat.le_refl _)]
  simp
theorem s_tsd {st : Stmt} {i j : Nat} {ra : Env → M → Res Oh.W} (h : PS X st (tAsg (tTup (tCons (tE X.K W ra) (tCons tDNewK tNil))) (gOf X.K [i, j]))) : PS X st (tS X.K W fun s m => (ra s m).bindS s fun w m1 => newCell j (.p (.dct [])) (s.set i (some w)) m1) := ps_m h fun D σ H ⟨ρ, s, m, B, k⟩ => by
  refine seqS B k fun w m1 x ρ1 H1 l1 B1 r1 k1 => ?_
  intro p hp
  refine ⟨Nat.le_of_ble_eq_true rfl, fun q hq => ?_⟩
  obtain ⟨l2, r2⟩ := new_cellC (cc := .dct []) (o := .dK []) B1.rel hp fun _ _ _ h => ⟨[], h, .nil⟩
  have l3 := later_upd (o := .tup [x, .ref p]) r2 hq
  have r3 := r2.upd (o := .tup [x, .ref p]) hq
  refine .inl ⟨q, [x, .ref p], rfl, SqT.of upd_same, rfl, ?_⟩
  refine ⟨_, _, rfl, ?_⟩
  show gAll [j] _ (σ.set i (some x)) _ _
  refine ⟨_, _, rfl, ?_⟩
  refine ⟨rfl, ?_⟩
  refine k1 _ _ _ (l2.trans l3) ⟨(((B1.env.later l2).later l3).set (r1.later (l2.trans l3)) i).set (w := .c m1.length) ⟨p, ?_, rfl⟩ j, r3⟩
  show (ρ1.c ++ [p])[m1.length]? = some p
  rw [← B1.rel.len, List.getElem?_append_right (Nat.le_refl _)]
  simp
def rMinT (K : PySem.W.Frag) : List V → Hp → VK → Prop := fun vs H Q => ∃ (a : Addr) (ts : List Tx), vs = [V.ref a] ∧ SqL K H a (ts.map fun t => V.str (mkS t)) ∧ 0 < ts.length ∧ ∀ m, m ∈ ts → (∀ y ∈ ts, ¬ y < m) → Q (.str (mkS m)) H
theorem cr_minT (hc : X.calm = true) : CallR X (.builtin "min") (rMinT X.K) := by
  intro pins s σ H vs us Q I r h
  obtain ⟨a, ts, rfl, hs, hne, q1⟩ := h
  obtain ⟨its, rv, hl, _⟩ := I.list hs
  rw [Vals.ref1 r]
  have hz : its.toArray.size = ts.length := by have := rv.length; simpa using this.symm
  refine min_txt (I.ok.hd hc) hl.isList (fun i v hv => ?_) hz hne fun m t h' tk h1 h2 kp => ⟨.str (mkS m), H, I.kept kp, ⟨t, rfl⟩, q1 m h1 h2⟩
  have hi : i < ts.length := by
    rw [← hz]
    exact (Array.getElem?_eq_some_iff.mp hv).1
  obtain ⟨u, e1, e2⟩ := rv.get (i := i) (x := V.str (mkS ts[i])) (by simp [hi])
  have e3 : its[i]? = some v := by simpa using hv
  rw [e3] at e1
  cases e1
  obtain ⟨t, rfl⟩ := e2
  exact ⟨t, by rw [List.getD_eq_getElem?_getD, List.getElem?_eq_getElem hi]; rfl⟩
theorem minT_ok : ∀ (r : List Tx) (x : Tx), minT x r ∈ x :: r ∧ ∀ y ∈ x :: r, ¬ y < minT x r
  | [], x => ⟨List.mem_cons_self, fun y hy => by
    have : y = x := by simpa using hy
    subst this
    exact List.lt_irrefl _⟩
  | z :: r, x => by
    unfold minT
    by_cases h : z < x
    · rw [if_pos h]
      obtain ⟨h1, h2⟩ := minT_ok r z
      refine ⟨List.mem_cons_of_mem _ h1, fun y hy hlt => ?_⟩
      rcases List.mem_cons.mp hy with rfl | hy
      · exact h2 z List.mem_cons_self (List.lt_trans h hlt)
      · exact h2 y hy hlt
    · rw [if_neg h]
      obtain ⟨h1, h2⟩ := minT_ok r x
      refine ⟨?_, fun y hy hlt => ?_⟩
      · rcases List.mem_cons.mp h1 with e | e
        · rw [e]; exact List.mem_cons_self
        · exact List.mem_cons_of_mem _ (List.mem_cons_of_mem _ e)
      · rcases List.mem_cons.mp hy with rfl | hy
        · exact h2 y List.mem_cons_self hlt
        · rcases List.mem_cons.mp hy with rfl | hy
          · -- y < min, not y < x, and not x < min
            have hx := h2 x List.mem_cons_self
            rcases tx_tri x (minT x r) with a | a | a
            · exact hx a
            · rw [← a] at hlt; exact h hlt
            · exact h (List.lt_trans hlt a)
          · exact h2 y (List.mem_cons_of_mem _ hy) hlt
theorem s_mint {e : Expr} {ra : Env → M → Res Oh.W} (h : PE X e (tCB (rMinT X.K) (tCons (tE X.K W ra) tNil))) : PE X e (tE X.K W fun s m => (ra s m).bind fun w m1 => op1 mintD w m1) := pe_m h fun σ H Q ⟨ρ, s, m, B, k⟩ => by
  refine seq B k fun w m1 x ρ1 H1 l1 B1 r1 k1 => ?_
  obtain ⟨d, z, e1, e2, k2⟩ := op1_ok k1
  unfold mintD at e2
  split at e2
  · split at e2
    · rename_i y r et
      cases e2
      obtain ⟨p, vs, rfl, hp, rs⟩ := (see_of r1 B1.rel e1).lst
      have ev := rs.texts et
      rw [texts_eq et] at rs
      have hok := rs.okTs
      rw [ev] at hp
      refine ⟨p, y :: r, rfl, SqL.of hp, by simp, fun m hm hle => ?_⟩
      obtain ⟨h1, h2⟩ := minT_ok r y
      have : m = minT y r := by
        rcases tx_tri m (minT y r) with a | a | a
        · exact absurd a (h2 m hm)
        · exact a
        · exact absurd a (hle _ h1)
      subst this
      exact k2 (.str _) ρ1 H1 l1 B1.rel (.str _ (hok _ h1))
    · cases e2
  · cases e2
theorem dct2R_ok {w1 w2 w3 w4 w : Oh.W} {m m' : M} (h : dct2R w1 w2 w3 w4 m = .ok w m') : ∃ k d k2 d2, w1 = .p (.str k) ∧ w2 = .p d ∧ w3 = .p (.str k2) ∧ w4 = .p d2 ∧ w = .p (.dct (putD k2 d2 [(.str k, d)])) ∧ m' = m := by
  unfold dct2R at h
  split at h
  · cases h; exact ⟨_, _, _, _, rfl, rfl, rfl, rfl, rfl, rfl⟩
  · cases h
theorem s_dct2 {e : Expr} {rk rv rk2 rv2 : Env → M → Res Oh.W} (h : PE X e (tDisp [(tE X.K W0 rk, tE X.K W0 rv), (tE X.K W0 rk2, tE X.K W0 rv2)])) :
    PE X e (tE X.K W fun s m => noX ((rk s m).bind fun w1 m1 => (rv s m1).bind fun w2 m2 => (rk2 s m2).bind fun w3 m3 => (rv2 s m3).bind fun w4 m4 => dct2R w1 w2 w3 w4 m4)) := pe_m h fun σ H Q ⟨ρ, s, m, B, k⟩ p hp => by
  obtain ⟨w, mE, q, kk⟩ := noX_aft k
  obtain ⟨w1, m1, q1, q⟩ := bind_ok' q
  obtain ⟨w2, m2, q2, q⟩ := bind_ok' q
  obtain ⟨w3, m3, q3, q⟩ := bind_ok' q
  obtain ⟨w4, m4, q4, q⟩ := bind_ok' q
  obtain ⟨kt, d, kt2, d2, rfl, rfl, rfl, rfl, rfl, rfl⟩ := dct2R_ok q
  have hpg := B.rel.freshG hp
  obtain ⟨ex0, rel0⟩ := both_prv (o := .dK []) B.rel hp
  have at0 : LcAt X.K ρ m H p ⟨ρ.c, p :: ρ.g⟩ m (upd H p (.dK [])) := ⟨List.prefix_rfl, rfl, ex0, fun b hb => upd_ne (fun z : b = p => hpg (by rw [← z]; exact hb)), rel0⟩
  have renv : REnv X.K ⟨ρ.c, p :: ρ.g⟩ (lives ⟨ρ.c, p :: ρ.g⟩ m) (upd H p (.dK [])) σ s := B.env.ext' at0.pre at0.ext
  refine ⟨⟨ρ.c, p :: ρ.g⟩, s, m, ⟨renv, rel0⟩, ?_⟩
  rw [q1]
  intro x ρ1 H1 l1 rel1 rep1
  refine ⟨ρ1, s, m1, ⟨renv.later l1, rel1⟩, ?_⟩
  rw [q2]
  intro y ρ2 H2 l2 rel2 rep2
  refine ⟨ρ2, s, m2, ⟨(renv.later l1).later l2, rel2⟩, ?_⟩
  rw [q3]
  intro x3 ρ3 H3 l3 rel3 rep3
  refine ⟨ρ3, s, m3, ⟨((renv.later l1).later l2).later l3, rel3⟩, ?_⟩
  rw [q4]
  intro x4 ρ4 H4 l4 rel4 rep4
  have at1 := at0.later l1 rel1
  have at2 := at1.later l2 rel2
  have at3 := at2.later l3 rel3
  have at4 := at3.later l4 rel4
  have hm1 : p ∈ ρ1.g := by rw [at1.grd]; exact List.mem_cons_self
  have hm2 : p ∈ ρ2.g := by rw [at2.grd]; exact List.mem_cons_self
  have hm3 : p ∈ ρ3.g := by rw [at3.grd]; exact List.mem_cons_self
  have hm0 : p ∈ (p :: ρ.g) := List.mem_cons_self
  have hp2 : H4 p = some (.dK []) := by rw [l4.prv p hm3, l3.prv p hm2, l2.prv p hm1, l1.prv p hm0]; exact upd_same
  cases rep1 with
  | str _ okk =>
    cases rep3 with
    | str _ okk2 =>
      refine ⟨hp2, [(.inr (mkS kt), y), (.inr (mkS kt2), x4)], rfl, by simp, ?_⟩
      obtain ⟨l, rl, ex⟩ := at4.done hpg
      have her : er H4 p p = none := by unfold er; rw [if_pos rfl]
      have eu : upd H4 p (.dK (mergeK [] [(.inr (mkS kt), y), (.inr (mkS kt2), x4)])) = upd (er H4 p) p (.dK (putK [((Sum.inr (mkS kt) : Key), y)] (.inr (mkS kt2)) x4)) := by
        funext b
        unfold upd er
        by_cases hb : b = p
        · rw [if_pos hb, if_pos hb]; rfl
        · rw [if_neg hb, if_neg hb, if_neg hb]
      rw [eu]
      have rep2' := Rep.ext ((l3.trans l4).ext) rep2
      exact kk (.ref p) ⟨ρ4.c, ρ.g⟩ _ (l.trans (later_upd rl her)) (rl.upd her) (.dct (rl.notLive her) upd_same (KReps.put okk2 ((Rep.ext ex rep4).ext (ext_upd her)) (.cons okk ((Rep.ext ex rep2').ext (ext_upd her)) .nil)))
end
end Oh

set_option Elab.async false
set_option linter.all false
set_option maxRecDepth 100000
set_option maxHeartbeats 4000000
set_option autoImplicit false
/-! OhBo: list(range(a, b, c)), sorted as a new list; cells that are only looked at; a new cell that is frozen -/
namespace Oh
open PySem PySem.Spec PyProof.Rows L2
variable [Lcl]
/-! ### list(range(a, b, c)) -/
def rgC (i c : Int) (n : Nat) : List V := (List.range n).map fun k => V.int (i + (k : Nat) * c)
theorem rgC_vals {i c : Int} {n : Nat} {acc : Array Value} (h : ItemsOf (fun k v => ∃ t, v = .int (i + k * c) t) acc n) : Vals (rgC i c n) acc.toList := by
  have e : n = acc.toList.length := by rw [Array.length_toList]; exact h.1.symm
  unfold rgC
  rw [e]
  exact vals_of_get acc.toList _ fun j u hj => h.2 j u (Array.getElem?_toList ▸ hj)
def rLrng : List V → Hp → VK → Prop := fun xs H Q => ∃ (i j c : Int) (n : Nat), xs = [.int i, .int j, .int c] ∧ RgC i j c n ∧ n ≤ 2 ^ 24 ∧ ∀ q, H q = none → Q (.ref q) (upd H q (.lst (rgC i c n)))
section
variable {X : Cx} {W : WX}
theorem pe_lrng {p p2 pos pos2 : Pos} {es : List Expr} {ta : TA} (hc : X.calm = true) (hg : Gl X "list") (hm : X.mg "list" = none) (hg2 : Gl X "range") (hm2 : X.mg "range" = none) (ha : PA X es ta)
    {e0 : Expr} {er : List Expr} (hes : es = e0 :: er) (hs : starEach es X.env = (false, eval e0 X.env) :: starEach er X.env) (hpl : (backTo pos2 (starEach er X.env)).any (·.1) = false) :
    PE X (.Call (.Name "list" p) [.Call (.Name "range" p2) es [] pos2] [] pos) (tCB rLrng ta) := by
  subst hes
  refine ⟨fun pins s σ H Q I h => Call_ (ld_blt I hg hm boot_list (callWith_type1 (args_cons (Call_ (ld_blt I hg2 hm2 boot_range (callWith_type1 (thn (ha.run pos2 pins s σ H _ I h) ?_) hs hpl))) rfl) rfl))⟩
  rintro us s1 ⟨vs, H1, I1, r1, i, j, c, n, rfl, ⟨c0, c1, c2, c3⟩, le, q⟩
  match us, r1 with
  | [_, _, _], .cons ⟨t1, e1⟩ (.cons ⟨t2, e2⟩ (.cons ⟨t3, e3⟩ .nil)) =>
    subst e1 e2 e3
    have I2 : Inv X pins σ H1 { s1 with heap := s1.heap.push { cls := .type "range", data := .fields #[.int i t1, .int j t2, .int c t3] } } := I1.kept (t' := s1.toks) fun _ _ e => Heap.get?_push_of_some _ e
    refine call_range_3 c0 (args_nil (call_list_range (I2.ok.hd hc) (IsRange.new ..) c2 c3 le fun h2 tk acc k kp el items => ?_)) (.inl (PyProof.noPylong_small c1))
    have nF := I2.hok.fresh (Nat.le_refl _)
    refine ⟨.ref _, upd H1 _ (.lst (rgC i c n)), I2.laid kp (Nat.le_refl _) ?_, rfl, q _ nF⟩
    refine ⟨?_, acc.toList, k, rgC_vals items, by rw [Array.toArray_toList]; exact el⟩
    unfold rgC
    rw [List.length_map, List.length_range, sizeLine_eq]
    omega
theorem rngN_size {a b c : Int} (hc : 0 < c) : Builtin.Range.rangeSize a b c = rngN a b c := by
  unfold Builtin.Range.rangeSize rngN
  rw [if_pos (show c > 0 from hc)]
  split
  · have : 0 ≤ (b - a - 1) / c := Int.ediv_nonneg (by omega) (by omega)
    omega
  · rfl
theorem rn_lrng : RnOk X rLrng lrngD := fun ρ m H xs as z Q r ss e k => by
  unfold lrngD at e
  split at e
  · rename_i a b c
    split at e
    · rename_i hc
      cases e
      simp only [Bool.and_eq_true, decide_eq_true_eq] at hc
      obtain ⟨⟨⟨⟨⟨⟨h1, h2⟩, h3⟩, h4⟩, h5⟩, h6⟩, h7⟩ := hc
      match xs, ss with
      | [_, _, _], .cons s1 (.cons s2 (.cons s3 .nil)) =>
        obtain rfl := s1.int
        obtain rfl := s2.int
        obtain rfl := s3.int
        refine ⟨a, b, c, rngN a b c, rfl, ⟨by omega, by omega, ?_, rngN_size h5⟩, by unfold line at h7; omega, ?_⟩
        · unfold Builtin.Range.small
          rw [rngN_size h5]
          simp only [Builtin.Range.rangeFitsLong, Bool.and_eq_true, Bool.or_eq_true, decide_eq_true_eq, beq_iff_eq, if_pos h5]
          unfold line at h7
          omega
        · have rs : Reps X.K (lives ρ m) H (rgC a c (rngN a b c)) (rngL a b c) := by
            unfold rgC rngL
            have := Reps.ints (K := X.K) (L := lives ρ m) (H := H) ((List.range (rngN a b c)).map fun (i : Nat) => a + i * c)
            rw [List.map_map, List.map_map] at this
            exact this
          exact fin_lst r rs k
    · cases e
  · cases e
/-! ### sorted as a new list -/
theorem s_srtN {e : Expr} {ra : Env → M → Res Oh.W} (h : PE X e (tCB (fun xs H Q => rSortedI X.K xs H Q ∨ rSortedS X.K xs H Q) (tCons (tE X.K W ra) tNil))) :
    PE X e (tN X.K W fun s m => (ra s m).bind fun w m1 => op1 sortLD w m1) := pe_m h fun σ H Q ⟨ρ, s, m, B, k⟩ => by
  refine seq B k fun w m1 x ρ1 H1 l1 B1 r1 k1 => ?_
  obtain ⟨d, z, e1, e2, ds, e3, k3⟩ := op1_ok k1
  unfold sortLD at e2
  split at e2
  · rename_i xs
    obtain ⟨p, us, rfl, h1, rs⟩ := (see_of r1 B1.rel e1).lst
    unfold sortD at e2
    split at e2
    · rename_i ns en
      cases e2
      cases e3
      rw [intsD_eq en] at rs
      rw [rs.intsV] at h1
      refine .inl ⟨p, ns, rfl, SqL.of h1, fun ns2 q2 hp hw hq => ?_⟩
      rw [sorted_eq (hp.trans (sortI_perm ns).symm) hw (sortI_pw ns)]
      exact k3 q2 _ ρ1 H1 l1 B1.rel (Reps.ints _) hq
    · split at e2
      · rename_i ts et
        split at e2
        · rename_i hl
          cases e2
          cases e3
          have ev := rs.texts et
          rw [texts_eq et] at rs
          have hok := rs.okTs
          rw [ev] at h1
          refine .inr ⟨p, ts.map mkS, rfl, SqL.of (by rw [List.map_map]; exact h1), by simpa using hl, fun ys q2 hp hw hq => ?_⟩
          rw [sortedS_eq hp hw, List.map_map]
          exact k3 q2 _ ρ1 H1 l1 B1.rel (Reps.strs _ fun s hs => hok s ((sortT_perm ts).mem_iff.mp hs)) hq
        · cases e2
      · cases e2
  · cases e2
theorem srt_lst {w w2 : Oh.W} {m m2 : M} (h : op1 sortLD w m = .ok w2 m2) : ∃ ds, w2 = .p (.lst ds) := by
  unfold op1 at h
  split at h
  · split at h
    · rename_i z e
      cases h
      unfold sortLD at e
      split at e
      · unfold sortD at e
        split at e
        · cases e; exact ⟨_, rfl⟩
        · split at e
          · split at e
            · cases e; exact ⟨_, rfl⟩
            · cases e
          · cases e
      · cases e
    · cases h
  · cases h
/-! ### a new cell is frozen -/
theorem s_frc {e : Expr} {ra : Env → M → Res Oh.W} (h : PE X e (tE X.K W ra)) : PE X e (tE X.K W fun s m => (ra s m).bind fun w m1 => leave m.length w m1) := pe_m h fun σ H Q ⟨ρ, s, m, B, k⟩ => by
  refine seq B k fun w m1 v ρ1 H1 l1 B1 r1 k1 => ?_
  obtain ⟨w2, m2, hP, l2, r2, q2⟩ := leave_rep B.rel l1 B1.rel r1 k1
  exact hP v ρ H1 l2 r2 q2
/-! ### cells that are only looked at -/
/-- cells that cannot be looked at as plain values -/
def hard : C → Bool
  | .ins _ _ => true
  | .tab _ => true
  | .lams _ => true
  | _ => false
/- lists of cells are not hard -/
def hardL : List Addr → M → List Addr
  | a :: r, c :: m => if hard c then a :: hardL r m else hardL r m
  | _, _ => []
theorem hardL_get : ∀ {r : List Addr} {m : M} {a : Addr}, a ∈ hardL r m → ∃ (n : Nat) (c : C), r[n]? = some a ∧ m[n]? = some c ∧ hard c = true
  | [], _, _, h => by cases h
  | _ :: _, [], _, h => by cases h
  | b :: r, c :: m, a, h => by
    unfold hardL at h
    have up : a ∈ hardL r m → ∃ (n : Nat) (c' : C), (b :: r)[n]? = some a ∧ (c :: m)[n]? = some c' ∧ hard c' = true := fun h => by
      obtain ⟨n, c2, h1, h2, h3⟩ := hardL_get h
      exact ⟨n + 1, c2, by simpa using h1, by simpa using h2, h3⟩
    split at h
    · rename_i hc
      rcases List.mem_cons.mp h with rfl | h
      · exact ⟨0, c, rfl, rfl, hc⟩
      · exact up h
    · exact up h
theorem up_rel {K : PySem.W.Frag} {ρ : Rh} {m : M} {H H' : Hp} (u : ∀ b o, H b = some o → H' b = some o) (r : Rel K ρ m H) : Later ρ m H ρ m H' ∧ Rel K ρ m H' := by
  have ex : Ext (lives ρ m) H (lives ρ m) H' := fun a o e n => ⟨u a o e, n⟩
  refine ⟨⟨List.prefix_rfl, rfl, ex, fun a ha => ?_⟩, ⟨r.len, r.nd, fun n a c e1 e2 => (r.cell n a c e1 e2).ext ex fun o e => u a o e, fun a ha => ?_⟩⟩
  · obtain ⟨_, o, e⟩ := r.prv a ha
    rw [e, u a o e]
  · obtain ⟨h1, o, e⟩ := r.prv a ha
    exact ⟨h1, o, u a o e⟩
theorem flat_any {K : PySem.W.Frag} {L L' : List Addr} {H H' : Hp} {v : V} {d : D} (h : Rep K L H v d) (hf : flat d = true) : Rep K L' H' v d := by
  cases h with
  | non => exact .non
  | bl b => exact .bl b
  | int i => exact .int i
  | str s ok => exact .str s ok
  | _ => cases hf
theorem toDs_reps {K : PySem.W.Frag} {ρ : Rh} {m : M} {L L' : List Addr} {H H' : Hp} (one : ∀ (v : V) (w : Oh.W) (d : D), RepW K ρ L H v w → asD w m = some d → Rep K L' H' v d) : ∀ {vs : List V} {ws : List Oh.W} {ds : List D}, RepWs K ρ L H vs ws → toDs ws m = some ds → Reps K L' H' vs ds
  | _, _, _, .nil, h => by cases h; exact .nil
  | _, _, _, .cons (w := w) r t, h => by
    unfold toDs at h
    obtain ⟨d, h1, h2⟩ := Option.bind_eq_some_iff.mp h
    obtain ⟨ds, h3, rfl⟩ := Option.map_eq_some_iff.mp h2
    exact .cons (one _ _ _ r h1) (toDs_reps one t h3)
theorem s_bor {e : Expr} {ra : Env → M → Res Oh.W} (h : PE X e (tE X.K W0 ra)) : PE X e (tE X.K W fun s m => borR (ra (snap s m) []) m) := pe_m h fun σ H Q ⟨ρ, s, m, B, k⟩ => by
  have r := B.rel
  have live : ∀ a, a ∈ ρ.g ++ hardL ρ.c m → a ∈ lives ρ m := fun a z => by
    rcases List.mem_append.mp z with z | z
    · exact List.mem_append_left _ z
    · obtain ⟨n, c, h1, h2, h3⟩ := hardL_get z
      exact List.mem_append_right _ (lv_get.mpr ⟨n, c, h1, h2, by cases c <;> first | rfl | cases h3⟩)
  have ex0 : Ext (lives ρ m) H (lives ⟨[], ρ.g ++ hardL ρ.c m⟩ []) H := fun a o z n => ⟨z, fun y => n (live a ((List.mem_append.mp y).elim id fun y => by cases y))⟩
  have out : ∀ n a c, ρ.c[n]? = some a → m[n]? = some c → hard c = false → a ∉ lives ⟨[], ρ.g ++ hardL ρ.c m⟩ [] := fun n a c h1 h2 h3 y => by
    rcases List.mem_append.mp y with y | y
    · rcases List.mem_append.mp y with y | y
      · exact (r.prv a y).1 (List.mem_of_getElem? h1)
      · obtain ⟨n2, c2, e1, e2, e3⟩ := hardL_get y
        have en : n2 = n := (List.getElem?_inj (List.getElem?_eq_some_iff.mp e1).1 r.nd).mp (e1.trans h1.symm)
        subst en
        rw [h2] at e2
        cases e2
        rw [h3] at e3
        cases e3
    · cases y
  refine ⟨⟨[], ρ.g ++ hardL ρ.c m⟩, snap s m, [], ⟨⟨by unfold snap; rw [List.length_map]; exact B.env.len, fun i w hi => ?_⟩, ⟨rfl, by simp, fun n a c h1 => by simp at h1, fun a ha => ⟨by simp, ?_⟩⟩⟩, ?_⟩
  · unfold snap at hi
    rw [List.getElem?_map] at hi
    cases hs : s[i]? with
    | none => rw [hs] at hi; cases hi
    | some o =>
      rw [hs] at hi
      simp only [Option.map_some, Option.some.injEq] at hi
      obtain ⟨w0, rfl, hw⟩ := Option.bind_eq_some_iff.mp hi
      obtain ⟨v, hv, rv⟩ := B.env.get i w0 hs
      refine ⟨v, hv, ?_⟩
      have one : ∀ (v : V) (w : Oh.W) (d : D), RepW X.K ρ (lives ρ m) H v w → asD w m = some d → Rep X.K (lives ⟨[], ρ.g ++ hardL ρ.c m⟩ []) H v d := fun v w0 d rv hd => by
        cases w0 with
        | p d0 => cases hd; exact Rep.ext ex0 rv
        | c n =>
          obtain ⟨a, ea, rfl⟩ := rv
          unfold asD at hd
          simp only [] at hd
          split at hd
          · rename_i xs hm
            cases hd
            obtain ⟨vs, h1, h2⟩ := r.cell n a _ ea hm
            exact .lst (out n a _ ea hm rfl) h1 (h2.ext ex0)
          · rename_i xs hm
            cases hd
            obtain ⟨vs, h1, h2⟩ := r.cell n a _ ea hm
            exact .dct (out n a _ ea hm rfl) h1 (h2.ext ex0)
          · cases hd
      unfold snapW at hw
      split at hw
      · rename_i ws hwl
        obtain ⟨ds, hd, rfl⟩ := Option.map_eq_some_iff.mp hw
        unfold wlOf at hwl
        split at hwl
        · rename_i n
          split at hwl
          · rename_i ws2 hm
            cases hwl
            obtain ⟨a, ea, rfl⟩ := rv
            obtain ⟨vs, h1, h2⟩ := r.cell n a _ ea hm
            exact .lst (out n a _ ea hm rfl) h1 (toDs_reps one (RepWs.pre (R' := ρ) (List.take_prefix _ _) h2) hd)
          · cases hwl
        · cases hwl
      · obtain ⟨d, hd, rfl⟩ := Option.map_eq_some_iff.mp hw
        exact one v w0 d rv hd
  · rcases List.mem_append.mp ha with z | z
    · exact (r.prv a z).2
    · obtain ⟨n, c, h1, h2, _⟩ := hardL_get z
      exact (r.cell n a c h1 h2).tracked
  · change Aft _ (borR (ra (snap s m) []) m) _ at k
    cases q : ra (snap s m) [] with
    | bad => rw [q] at k; exact k.elim
    | exc x m1 => rw [q] at k; exact k.elim
    | ok w m1 =>
      rw [q] at k
      cases w with
      | c n => exact k.elim
      | p d =>
        change Aft _ (if flat d then Res.ok (Oh.W.p d) m else .bad) _ at k
        split at k
        · rename_i hf
          intro v ρ1 H1 l1 r1 rv
          have up : ∀ b o, H b = some o → H1 b = some o := fun b o e => by
            by_cases hb : b ∈ ρ.g ++ hardL ρ.c m
            · exact (l1.prv b hb).trans e
            · exact (l1.ext b o e fun y => hb ((List.mem_append.mp y).elim id fun y => by cases y)).1
          obtain ⟨l2, r2⟩ := up_rel up r
          exact k v ρ H1 l2 r2 (flat_any rv hf)
        · exact k.elim
end
end Oh

set_option Elab.async false
set_option linter.all false
set_option maxRecDepth 100000
set_option maxHeartbeats 4000000
set_option autoImplicit false
/-! OhLs: the parameters and names of lambdas -/
namespace Oh
open PySem L2
variable [Lcl]
/-- the names that a lambda's parameter may have -/
def lamNames : List Str := ["_law_a", "_law_b", "_law_c", "_law_d", "_law_f", "_law_g"]
/-- the parameters of a lambda: none, or one with a number as its default -/
def lamPs : Arguments → Option (List (Str × Int))
  | ⟨[], [], none, [], [], none, []⟩ => some []
  | ⟨[], [⟨d, none, _⟩], none, [], [], none, [.Constant (.int n) _ _]⟩ => if lamNames.contains d then some [(d, n)] else none
  | _ => none
/-- a lambda's own names are its parameters, which the def around it does not have -/
structure LamS2 (N : List Str) (bs : List (Str × Int)) (sc scope : Scope) : Prop where
  kind : scope.kind = .function
  co : scope.isCoroutine = false
  gen : scope.isGenerator = false
  own : ∀ y ∈ scope.names, (y.2 = .local → y.1 ∉ N) ∧ y.2 ≠ .cell
  free : ∀ y ∈ scope.names, y.2 = .free → sc.names.lookup y.1 = some .cell ∨ sc.names.lookup y.1 = some .free
  par : ∀ b ∈ bs, scope.names.lookup b.1 = some .local
  script : ∀ y ∈ scope.names, y.1 = ("_law_script" : Str) → y.2 ≠ .local
def lamS2B (N : List Str) (bs : List (Str × Int)) (sc scope : Scope) : Bool :=
  decide (scope.kind = .function) && !scope.isCoroutine && !scope.isGenerator && (scope.names.all fun y => (!decide (y.2 = .local) || !decide (y.1 ∈ N)) && !decide (y.2 = .cell) && (!decide (y.2 = .free) || decide (sc.names.lookup y.1 = some .cell) || decide (sc.names.lookup y.1 = some .free)) && (!decide (y.1 = ("_law_script" : Str)) || !decide (y.2 = .local))) && bs.all fun b => decide (scope.names.lookup b.1 = some .local)
theorem lamS2_by {N : List Str} {bs : List (Str × Int)} {sc scope : Scope} (h : lamS2B N bs sc scope = true) : LamS2 N bs sc scope := by
  unfold lamS2B at h
  simp only [Bool.and_eq_true, Bool.or_eq_true, Bool.not_eq_true', decide_eq_true_eq, decide_eq_false_iff_not, List.all_eq_true] at h
  obtain ⟨⟨⟨⟨h1, h2⟩, h3⟩, h4⟩, h5⟩ := h
  refine ⟨h1, h2, h3, fun y hy => ⟨fun e => (h4 y hy).1.1.1.elim (fun z => absurd e z) id, (h4 y hy).1.1.2⟩, fun y hy e => ?_, h5, fun y hy e => (h4 y hy).2.elim (fun z => absurd e z) id⟩
  rcases (h4 y hy).1.2 with (z | z) | z
  · exact absurd e z
  · exact .inl z
  · exact .inr z
/-- all that is asked of a lambda's form -/
def lamB (N : List Str) (p : Arguments) (sc scope : Scope) : Bool := match lamPs p with
  | some bs => lamS2B N bs sc scope
  | none => false
theorem lamB_by {N : List Str} {p : Arguments} {sc scope : Scope} (h : lamB N p sc scope = true) : ∃ bs, lamPs p = some bs ∧ LamS2 N bs sc scope := by
  unfold lamB at h
  split at h
  · exact ⟨_, by assumption, lamS2_by h⟩
  · cases h
end Oh

set_option Elab.async false
set_option linter.all false
set_option maxRecDepth 100000
set_option maxHeartbeats 4000000
set_option autoImplicit false
/-! OhWl: new cells as values, lists of cells, x[i] by an own __getitem__, further methods of lists -/
namespace Oh
open PySem PySem.Spec PyProof.Rows L2
variable [Lcl]
section
variable {X : Cx} {W : WX}
theorem last_at {ρ : Rh} {m : M} {p : Addr} (h : ρ.c.length = m.length) : (ρ.c ++ [p])[m.length]? = some p := by
  rw [← h, List.getElem?_append_right (Nat.le_refl _)]
  simp
/-- a new list is a cell -/
theorem s_mkc {e : Expr} {ra : Env → M → Res Oh.W} (h : PE X e (tN X.K W ra)) (hr : ∀ s m w m', ra s m = .ok w m' → ∃ ds, w = .p (.lst ds)) : PE X e (tE X.K W fun s m => (ra s m).bind newW) := pe_m h fun σ H Q ⟨ρ, s, m, B, k⟩ => by
  refine ⟨ρ, s, m, B, ?_⟩
  have hr := hr s m
  have k : Aft (Wish X.K W ρ m H σ) ((ra s m).bind newW) (Got X.K ρ m H Q) := k
  cases q : ra s m with
  | bad => rw [q] at k; exact k
  | exc x m' => rw [q] at k; exact k
  | ok w m' =>
    obtain ⟨ds, rfl⟩ := hr w m' q
    rw [q] at k
    refine ⟨ds, rfl, fun p vs ρ1 H1 l1 r1 rs hp => ?_⟩
    obtain ⟨l2, r2⟩ := new_cell r1 hp rs
    exact k (.ref p) _ _ (l1.trans l2) r2 ⟨p, last_at r1.len, rfl⟩
/-- a new list of what may lie in cells -/
theorem s_wls {es : List Expr} {pos : Pos} {rs : Env → M → Res (List Oh.W)} (h : PA X es (tAr X.K W rs)) : PE X (.List es pos) (tE X.K W fun s m => (rs s m).bind newWl) := pe_m (pe_lst h) fun σ H Q ⟨ρ, s, m, B, k⟩ => by
  refine seq B k fun ws m1 xs ρ1 H1 l1 B1 r1 k1 => ?_
  have r1 : RepWs X.K ρ1 (lives ρ1 m1) H1 xs ws := r1
  unfold newWl at k1
  split at k1
  · rename_i hl
    refine ⟨by rw [r1.length]; exact line_le hl, fun p hp => ?_⟩
    obtain ⟨l2, r2⟩ := new_cellC (cc := .wl ws) (o := .lst xs) B1.rel hp fun _ _ x h => ⟨xs, h, (RepWs.pre (R := ρ1) (R' := ⟨ρ1.c, []⟩) List.prefix_rfl r1).ext x⟩
    exact k1 (.ref p) _ _ (l1.trans l2) r2 ⟨p, last_at B1.rel.len, rfl⟩
  · exact k1.elim
/-- x[k] of such a list, k a number -/
theorem wl_see {ρ : Rh} {m : M} {H : Hp} {v : V} {w : Oh.W} {ws : List Oh.W} (r : RepW X.K ρ (lives ρ m) H v w) (rel : Rel X.K ρ m H) (h : wlOf w m = some ws) : ∃ a vs, v = .ref a ∧ H a = some (.lst vs) ∧ RepWs X.K ρ (lives ρ m) H vs ws := by
  unfold wlOf at h
  split at h
  · split at h
    · rename_i ws2 hm
      cases h
      obtain ⟨a, ea, rfl⟩ := r
      obtain ⟨vs, h1, h2⟩ := rel.cell _ a _ ea hm
      exact ⟨a, vs, rfl, h1, RepWs.pre (R' := ρ) (List.take_prefix _ _) h2⟩
    · cases h
  · cases h
theorem s_wat {a b : Expr} {pos : Pos} {k : Nat} {ra : Env → M → Res Oh.W} (ha : PE X a (tE X.K W ra)) (hb : PE X b (tE X.K W fun _ m => .ok (.p (.int k)) m)) (hs : PlainIx b) : PE X (.Subscript a b pos) (tE X.K W fun s m => (ra s m).bind (watR k)) := by
  refine pe_m (pe_ix ix_seq ha hb hs) fun σ H Q ⟨ρ, s, m, B, kk⟩ => ?_
  refine seq B kk fun w m1 x ρ1 H1 l1 B1 r1 k1 => ?_
  refine ⟨ρ1, s, m1, B1, fun y ρ2 H2 l2 r2 q2 => ?_⟩
  obtain rfl : y = .int k := by cases q2; rfl
  unfold watR at k1
  split at k1
  · rename_i ws hw
    split at k1
    · rename_i w2 hk
      obtain ⟨p, vs, rfl, h1, h2⟩ := wl_see (RepW.later r1 l2) r2 hw
      obtain ⟨v, hv, rv⟩ := h2.get hk
      refine .inl ⟨p, vs, (k : Int), v, rfl, rfl, SqL.of h1, ?_, k1 v ρ2 H2 (l1.trans l2) r2 rv⟩
      exact atI_nat hv
    · exact k1.elim
  · exact k1.elim
/-- x[i] by an own __getitem__ -/
theorem s_ogi {n : Nat} {G : Nat → Option D} {Fn : Fns} {a b : Expr} {pos : Pos} {ra rb : Env → M → Res Oh.W} (tk : Takes X W) (z : Near X (n + 1) X.A) (KT : ∀ c f, isFn (G (mnum c 21)) = true → PySem.W.findIn X.K (.ref (He.ga X.K (clsStr c))) "__getitem__" = some (some (.ref f)) → PySem.W.fnIn X.K f = true)
    (hT : ∀ c f, f < manyAt → isFn (G (mnum c f)) = true → ∃ fd, FnAt X n (Fn (mnum c f)) (locM X.K c f) fd) (ha : PE X a (tE X.K W ra)) (hb : PE X b (tE X.K W rb)) (hs : ∀ o i, subscripted b true o i = runValue (.builtin "lifetime.subscript" ⟨[o, i], []⟩)) :
    PE X (.Subscript a b pos) (tE X.K W fun s m => (ra s m).bind fun w1 m1 => (rb s m1).bind fun w2 m2 => ogiW G Fn w1 w2 m2) := by
  refine ⟨fun pins s σ H Q I ⟨ρ, st, m, B, k⟩ => ?_⟩
  refine Subscript_ (binT (R := fun x y H2 => ∃ ρ2 m2 w1 w2, Later ρ m H ρ2 m2 H2 ∧ Both X.K ρ2 σ st m2 H2 ∧ RepW X.K ρ2 (lives ρ2 m2) H2 x w1 ∧ RepW X.K ρ2 (lives ρ2 m2) H2 y w2 ∧ Aft (Wish X.K W ρ2 m2 H2 σ) (ogiW G Fn w1 w2 m2) (Got X.K ρ m H Q)) ha hb I
    (seq B k fun w1 m1 x ρ1 H1 l1 B1 r1 k1 => seq B1 k1 fun w2 m2 y ρ2 H2 l2 B2 r2 k2 => ⟨ρ2, m2, w1, w2, l1.trans l2, B2, r1.later l2, r2, k2⟩) fun v u s2 x y H2 I2 rx ry ⟨ρ2, m2, w1, w2, l, B2, r1, r2, k2⟩ => ?_)
  unfold ogiW at k2
  split at k2
  · rename_i c fs
    split at k2
    · rename_i hc
      simp only [Bool.and_eq_true] at hc
      obtain ⟨hc1, hc2⟩ := hc
      obtain ⟨fd, F⟩ := hT c 21 (by decide) hc2
      obtain ⟨f, ⟨_, lm⟩, kp, C⟩ := fn_callAs (k := 2) tk F z.in1
      obtain ⟨p, dx, kvs, rfl, hH, ok, fr⟩ := ins_see (w := .p (.ins c fs)) r1 B2.rel rfl
      obtain rfl : v = Value.ref p := rx
      obtain ⟨mA, O, _⟩ := ins_get I2.hok hH
      obtain ⟨od, J, _⟩ := O.look
      obtain ⟨mm, hF⟩ := I2.fr
      refine PySem.W.sub_K hF I2.ok.mod.kin J lm.at_ (KT c f hc2 lm.at_) lm.fn ?_ (hs _ _)
      exact wpAny_call (C pins s2 σ H2 Q ρ2 m2 [.ref p, y] [] [.ref p, u] [] [.p (.ins c fs), w2] [] I2 (.cons rfl (.cons ry .nil)) .nil B2.rel (.cons r1 (.cons r2 .nil)) .nil rfl rfl
          (k2.mono (fun _ _ z => z) fun w' m' g v' ρ' H' l' r' q => g v' ρ' H' (l.trans l') r' q))
    · exact k2.elim
  · exact k2.elim
/-! ### statements -/
theorem s_clrx {st : Stmt} {ro : Env → M → Res Oh.W} (h : PS X st (tDrop (tBM0 X.K "list" rClear (tE X.K W ro)))) :
    PS X st (tS X.K W fun s m => (ro s m).bindS s fun o m1 => (clrCell o m1).bindS s fun _ m2 => .ok (.nx s) m2) := ps_m h fun D σ H ⟨ρ, s, m, B, k⟩ => by
  refine seqS B k fun o m1 y ρ1 H1 l1 B1 r1 k1 => ?_
  unfold clrCell at k1
  split at k1
  · rename_i n
    split at k1
    · rename_i xs q
      simp only [Res.bindS_ok] at k1
      obtain ⟨p, e1, rfl⟩ := r1
      obtain ⟨vs, hv, rs⟩ := B1.rel.cell n p _ e1 q
      obtain ⟨l3, r3⟩ := put_cell (ds := []) (vs := []) B1.rel e1 q .nil
      exact ⟨.inl ⟨rfl, vs, SqL.of hv⟩, p, vs, rfl, rfl, hv, k1 σ ρ1 _ l3 (B1.later l3 r3)⟩
    · exact k1.elim
  · exact k1.elim
def rInsert : V → List V → Hp → VK → Prop := fun x vs H Q => ∃ (l : Addr) (xs : List V) (i : Int) (y : V), x = .ref l ∧ vs = [.int i, y] ∧ H l = some (.lst xs) ∧ xs.length < sizeLine ∧ 0 ≤ i ∧ i < 2 ^ 63 ∧
    Q .non (upd H l (.lst (xs.take i.toNat ++ [y] ++ xs.drop i.toNat)))
theorem s_insx {st : Stmt} {ro rk re : Env → M → Res Oh.W} (h : PS X st (tDrop (tBM X.K "list" rInsert (tE X.K W ro) (tCons (tE X.K W rk) (tCons (tE X.K W re) tNil))))) :
    PS X st (tS X.K W fun s m => (ro s m).bindS s fun o m1 => (isCell o m1).bindS s fun _ m1 => (rk s m1).bindS s fun kk m2 => (re s m2).bindS s fun v m3 => (insCell o kk v m3).bindS s fun _ m4 => .ok (.nx s) m4) := ps_m h fun D σ H ⟨ρ, s, m, B, k⟩ => by
  refine seqS B k fun o m1 y ρ1 H1 l1 B1 r1 k1 => ?_
  unfold isCell at k1
  split at k1
  · rename_i n
    split at k1
    · rename_i xs q
      simp only [Res.bindS_ok] at k1
      obtain ⟨p, e1, rfl⟩ := r1
      obtain ⟨vs, hv, rs⟩ := B1.rel.cell n p _ e1 q
      refine ⟨.inl ⟨rfl, vs, SqL.of hv⟩, seqS B1 k1 fun kw m2 kx ρ2 H2 l2 B2 r2 k2 => seqS B2 k2 fun v m3 x ρ3 H3 l3 B3 r3 k3 => ?_⟩
      unfold insCell at k3
      split at k3
      · rename_i n' i d e2
        cases e2
        split at k3
        · rename_i ys q2
          split at k3
          · rename_i hl
            simp only [Bool.and_eq_true, decide_eq_true_eq] at hl
            obtain ⟨⟨h1, h2⟩, h3⟩ := hl
            obtain rfl : kx = .int i := by cases r2; rfl
            have e2 := pre_get (l2.trans l3).pre e1
            obtain ⟨vs2, hv2, rs2⟩ := B3.rel.cell n p _ e2 q2
            obtain ⟨l4, r4⟩ := put_cell B3.rel e2 q2 (((rs2.take i.toNat).append (.cons r3 .nil)).append (rs2.drop i.toNat))
            refine ⟨p, vs2, i, x, rfl, rfl, hv2, by rw [rs2.length]; exact line_lt h3, h1, ?_, ?_⟩
            · unfold line at h3; omega
            · have ee : ys.take i.toNat ++ [d] ++ ys.drop i.toNat = ys.take i.toNat ++ d :: ys.drop i.toNat := by simp
              rw [ee] at l4 r4
              exact k3 σ ρ3 _ l4 (B3.later l4 r4)
          · exact k3.elim
        · exact k3.elim
      · exact k3.elim
    · exact k1.elim
  · exact k1.elim
end
end Oh

set_option Elab.async false
set_option linter.all false
set_option maxRecDepth 100000
set_option maxHeartbeats 2000000
set_option autoImplicit false
/-! OhN: the checker -/
namespace Oh
open PySem L2
variable [Lcl]
def notStar : Expr → Bool
  | .Starred _ _ => false
  | _ => true
def noSlice : Expr → Bool
  | .Slice _ _ _ _ => false
  | _ => true
def noComp : Expr → Bool
  | .ListComp _ _ _ _ => false
  | .SetComp _ _ _ _ => false
  | .DictComp _ _ _ _ _ => false
  | _ => true
def noSet : Expr → Bool
  | .Set _ _ _ => false
  | _ => true
def noCall0 : Expr → Bool
  | .Call _ _ _ _ => false
  | _ => true
def noSuper : Expr → Bool
  | .Call (.Name x _) [] [] _ => !(x == ("super" : Str))
  | _ => true
def visB (sc : Scope) (x : Str) : Bool := match sc.names.lookup x with
  | some .local => true
  | some .cell => true
  | some .free => true
  | _ => false
def glB (sc : Scope) (x : Str) : Bool := match sc.names.lookup x with
  | some .globalImplicit => true
  | _ => false
def locB (sc : Scope) (x : Str) : Bool := match sc.names.lookup x with
  | some .local => true
  | some .cell => true
  | _ => false
def isLoc (sc : Scope) (x : Str) : Bool := match sc.names.lookup x with
  | some .local => true
  | _ => false
def isCellB (sc : Scope) (x : Str) : Bool := match sc.names.lookup x with
  | some .cell => true
  | _ => false
def dbg (x : Str) : Bool := !(x == ("__debug__" : Str)) && !(x == ("__classdict__" : Str))
def tyS (k : Nat) : Str := match k with
  | 0 => "int" | 1 => "str" | 2 => "bool" | 3 => "list" | 4 => "tuple" | _ => "dict"
def noStars : List Expr → Bool
  | [] => true
  | e :: es => notStar e && noStars es
def tgB (N : List Str) (sc : Scope) (i : Nat) : Expr → Bool
  | .Name x _ => decide (N[i]? = some x) && locB sc x
  | _ => false
def tgsB (N : List Str) (sc : Scope) : List Nat → List Expr → Bool
  | [], [] => true
  | i :: is, e :: es => tgB N sc i e && tgsB N sc is es
  | _, _ => false
def tgtB (N : List Str) (sc : Scope) (ts : List Nat) (e : Expr) : Bool := match ts, e with
  | [i], e => tgB N sc i e
  | ts, .Tuple es _ _ => tgsB N sc ts es
  | _, _ => false
def plainTest : Expr → Bool
  | .UnaryOp .Not _ _ => false
  | .BoolOp _ _ _ => false
  | .IfExp _ _ _ _ => false
  | .Compare _ _ _ _ => false
  | _ => true
def isTup : Expr → Bool
  | .Tuple _ _ _ => true
  | _ => false
/-- the slots with their names -/
def ownOf (N : List Str) (ts : List Nat) : List (Str × Nat) := ts.map fun i => (N.getD i "", i)
mutual
/-- whether a test may stand for an expression -/
def tst : E → Expr → Bool
  | .not a, .UnaryOp .Not a' _ => tst a a'
  | .and l, .BoolOp .And es _ => tsts l es
  | .or l, .BoolOp .Or es _ => tsts l es
  | .cmp _ _ _, .Compare _ _ _ _ => true
  | _, e => plainTest e
def tsts : List E → List Expr → Bool
  | [], [] => true
  | a :: l, e :: es => tst a e && tsts l es
  | _, _ => false
end
/-- the scope of a def with the law's own parameter -/
def lawSc (sc : Scope) : Bool := sc.names.any fun y => decide (y.1 = ("_law_script" : Str)) && (decide (y.2 = .local) || decide (y.2 = .cell))
def noArgs (p : Arguments) : Bool := p.posonlyargs.isEmpty && (p.args.isEmpty && (p.vararg.isNone && (p.kwonlyargs.isEmpty && (p.kw_defaults.isEmpty && (p.kwarg.isNone && p.defaults.isEmpty)))))
def Gx.noL (g : Gx) : Gx := { g with lq := none }
section
variable (g : Gx) (N : List Str)
mutual
def chkE : Scope → E → Expr → Bool
  | _, .never, e => notStar e
  | _, .non, x0 => match x0 with
    | .Constant .none _ _ => true
    | _ => false
  | _, .bl b, x0 => match x0 with
    | .Constant (.bool c) _ _ => b == c
    | _ => false
  | _, .int i, x0 => match x0 with
    | .Constant (.int j) _ _ => i == j
    | _ => false
  | _, .str s, x0 => match x0 with
    | .Constant (.str x) _ _ => (x.cps.toList == s) && s.all (fun c => decide (c < 1114112))
    | _ => false
  | sc, .loc i, x0 => match x0 with
    | .Name x _ => decide (N[i]? = some x) && visB sc x && dbg x
    | _ => false
  | sc, .glb k, x0 => match x0 with
    | .Name x _ => decide (x = g.gname k) && glB sc x && dbg x && decide (k < 1000)
    | _ => false
  | sc, .ty k, x0 => match x0 with
    | .Name x _ => decide (k ≤ 5) && decide (x = tyS k) && glB sc x
    | _ => false
  | sc, .bin op a b, x0 => match x0 with
    | .BinOp a' op' b' _ => decide (op' = opA op) && chkE sc a a' && chkE sc b b'
    | _ => false
  | sc, .neg a, x0 => match x0 with
    | .UnaryOp .USub a' _ => chkE sc a a'
    | _ => false
  | sc, .cmp op a b, x0 => match x0 with
    | .Compare a' [op'] [b'] _ => decide (op' = opC op) && chkE sc a a' && chkE sc b b' && noSet b'
    | _ => false
  | sc, .cmp2 op1 op2 a b c, x0 => match x0 with
    | .Compare a' [op1', op2'] [b', c'] _ => decide (op1' = opC op1) && decide (op2' = opC op2) && chkE sc a a' && chkE sc b b' && chkE sc c c' && noSet b' && noSet c'
    | _ => false
  | sc, .and l, x0 => match x0 with
    | .BoolOp .And es _ => chkEs sc l es && decide (l.length ≠ 0)
    | _ => false
  | sc, .or l, x0 => match x0 with
    | .BoolOp .Or es _ => chkEs sc l es && decide (l.length ≠ 0)
    | _ => false
  | sc, .not a, x0 => match x0 with
    | .UnaryOp .Not a' _ => chkE sc a a'
    | _ => false
  | sc, .ite c a b, x0 => match x0 with
    | .IfExp c' a' b' _ => chkE sc c c' && tst c c' && chkE sc a a' && chkE sc b b'
    | _ => false
  | sc, .lst l, x0 => match x0 with
    | .List es _ => chkEs sc l es
    | _ => false
  | sc, .tup l, x0 => match x0 with
    | .Tuple es _ _ => chkEs sc l es
    | _ => false
  | sc, .idx a i, x0 => match x0 with
    | .Subscript a' i' _ => chkE sc a a' && chkE sc i i' && noSlice i'
    | _ => false
  | sc, .slc a lo hi, x0 => match x0 with
    | .Subscript a' (.Slice lo' hi' none _) _ => chkE sc a a' && chkO sc lo lo' && chkO sc hi hi'
    | _ => false
  | sc, .rev a, x0 => match x0 with
    | .Subscript a' (.Slice none none (some (.UnaryOp .USub (.Constant (.int 1) _ _) _)) _) _ => chkE sc a a'
    | _ => false
  | sc, .call f l, x0 => match x0 with
    | .Call (.Name x _) es [] _ => decide (x = g.fname f) && glB sc x && dbg x && decide (f < 1000) && chkEs sc l es && (match g.T f with
      | some fd => decide (l.length + (fd.dfl.length - (fd.dfl.length - (fd.ps - l.length))) = fd.ps)
      | none => false)
    | _ => false
  | sc, .callk f l ks src, x0 => match x0 with
    | .Call (.Name x _) es kws _ => decide (x = g.fname f) && glB sc x && dbg x && decide (f < 1000) && chkEs sc l es && chkKs sc ks kws && kws.all (·.arg.isSome) && (match g.T f with
      | some fd => decide ((l.length, kwNames kws, src) ∈ fd.kbs)
      | none => false)
    | _ => false
  | sc, .bi b l, x0 => match x0 with
    | .Call (.Name x _) es [] _ => decide (x = biName b) && glB sc x && chkEs sc l es && decide (l.length ≠ 0)
    | _ => false
  | sc, .lidx a b, x0 => match x0 with
    | .Call (.Attribute a' x apos) [b'] [] pos => decide (x = ("index" : Str)) && chkE sc a a' && chkE sc b b' && noCall0 a' && (apos.endLine == pos.line)
    | _ => false
  | sc, .lc e ts it ifs, x0 => match x0 with
    | .ListComp e' [⟨tg, iter, ifs', k⟩] scope _ => decide (k = 0) && blkC N sc scope (ownOf N ts) && chkI sc it iter tg && tgtB N (relS scope sc) ts tg && ts.all (fun i => isLoc (relS scope sc) (N.getD i "") || isCellB scope (N.getD i "")) && chkE (relS scope sc) e e' &&
        chkEs (relS scope sc) ifs ifs' && tsts ifs ifs' && decide (ifs.length ≤ 1) && noSet iter && !lawSc (relS scope sc)
    | _ => false
  | sc, .cls c, x0 => match x0 with
    | .Name x _ => decide (x = clsStr c) && glB sc x && dbg x && isFn (g.G (mnum c 0))
    | _ => false
  | sc, .fld a f, x0 => match x0 with
    | .Attribute a' x _ => decide (x = atStr f) && decide (f < manyAt) && chkE sc a a' && noSuper a'
    | _ => false
  | sc, .con a f, x0 => match x0 with
    | .Attribute a' x _ => decide (x = atStr f) && decide (f < manyAt) && chkE sc a a' && noSuper a'
    | _ => false
  | sc, .mcall a f l ks src, x0 => match x0 with
    | .Call (.Attribute a' x apos) es kws pos => decide (x = atStr f) && decide (f < manyAt) && chkE sc a a' && noSuper a' && chkEs sc l es && chkKs sc ks kws && kws.all (·.arg.isSome) && (apos.endLine == pos.line) && decide (es.length + kws.length < 28) &&
        (List.range manyCls).all (fun c => match g.T (mnum c f) with | some fd => kwFit fd (1 + l.length) (kwNames kws) src | none => true)
    | _ => false
  | sc, .make c l ks src, x0 => match x0 with
    | .Call (.Name x _) es kws _ => decide (x = clsStr c) && glB sc x && dbg x && isFn (g.G (mnum c 0)) && chkEs sc l es && chkKs sc ks kws && kws.all (·.arg.isSome) && (match g.T (mnum c 0) with | some fd => kwFit fd (l.length + 1) (kwNames kws) src | none => false)
    | _ => false
  | sc, .cm c f l ks src, x0 => match x0 with
    | .Call (.Attribute (.Name x _) nm apos) es kws pos => decide (x = clsStr c) && glB sc x && dbg x && decide (nm = atStr f) && decide (f < manyAt) && chkEs sc l es && chkKs sc ks kws && kws.all (·.arg.isSome) && (apos.endLine == pos.line) && decide (es.length + kws.length < 28) && (match g.T (mnum c f) with | some fd => kwFit fd (1 + l.length) (kwNames kws) src | none => false)
    | _ => false
  | sc, .dcall i l, x0 => match x0 with
    | .Call (.Name x _) es [] _ => decide (N[i]? = some x) && visB sc x && dbg x && chkEs sc l es
    | _ => false
  | sc, .fstr l, x0 => match x0 with
    | .JoinedStr es _ => chkFs sc l es && decide (2 ≤ es.length)
    | _ => false
  | sc, .obin op a b, x0 => match x0 with
    | .BinOp a' op' b' _ => decide (op' = opA op) && chkE sc a a' && chkE sc b b'
    | _ => false
  | _, .dct0, x0 => match x0 with
    | .Dict [] [] _ => true
    | _ => false
  | sc, .cat a b, x0 => match x0 with
    | .BinOp a' .Add b' _ => chkE sc a a' && chkE sc b b'
    | _ => false
  | sc, .sset a, x0 => match x0 with
    | .Call (.Name x _) [.Call (.Name y _) [a'] [] _] [] _ => decide (x = ("sorted" : Str)) && decide (y = ("set" : Str)) && glB sc x && glB sc y && chkE sc a a'
    | _ => false
  | sc, .mind a, x0 => match x0 with
    | .Call (.Name x _) [a'] [⟨some k, .Constant .none _ _, _⟩] _ => decide (x = ("min" : Str)) && decide (k = ("default" : Str)) && glB sc x && chkE sc a a'
    | _ => false
  | sc, .why q a, x0 => match x0 with
    | .Call (.Name x _) [.Lambda p b scope _] [] _ => decide (g.lq = some q) && lawSc sc && decide (x = ("_law_why" : Str)) && glB sc x && lamB N p sc scope && chkE scope a b
    | _ => false
  | sc, .lrng l, x0 => match x0 with
    | .Call (.Name x _) [.Call (.Name y _) es [] _] [] _ => decide (x = ("list" : Str)) && decide (y = ("range" : Str)) && glB sc x && glB sc y && decide (l.length = 3) && chkEs sc l es
    | _ => false
  | sc, .srt a, x0 => match x0 with
    | .Call (.Name x _) [a'] [] _ => decide (x = ("sorted" : Str)) && glB sc x && chkE sc a a'
    | _ => false
  | sc, .bor a, e => notStar e && noComp e && chkE sc a e
  | sc, .frc a, e => notStar e && noComp e && chkE sc a e
  | sc, .dct2 k v k2 v2, x0 => match x0 with
    | .Dict [some k', some k2'] [v', v2'] _ => chkE sc k k' && chkE sc v v' && chkE sc k2 k2' && chkE sc v2 v2'
    | _ => false
  | sc, .litems a, x0 => match x0 with
    | .Call (.Name x _) [.Call (.Attribute a' y apos) [] [] cpos] [] _ => decide (x = ("list" : Str)) && decide (y = ("items" : Str)) && glB sc x && chkE sc a a' && noCall0 a' && (apos.endLine == cpos.line)
    | _ => false
  | sc, .mint a, x0 => match x0 with
    | .Call (.Name x _) [a'] [] _ => decide (x = ("min" : Str)) && glB sc x && chkE sc a a'
    | _ => false
  | sc, .dct1 k v, x0 => match x0 with
    | .Dict [some k'] [v'] _ => chkE sc k k' && chkE sc v v'
    | _ => false
  | sc, .star2 a b, x0 => match x0 with
    | .List [.Starred a' _, .Starred b' _] _ => chkE sc a a' && chkE sc b b'
    | _ => false
  | sc, .wls l, x0 => match x0 with
    | .List es _ => chkEs sc l es
    | _ => false
  | sc, .wat a k, x0 => match x0 with
    | .Subscript a' (.Constant (.int j) _ _) _ => chkE sc a a' && decide (j = (k : Int))
    | _ => false
  | sc, .ogi a i, x0 => match x0 with
    | .Subscript a' i' _ => chkE sc a a' && chkE sc i i' && noSlice i'
    | _ => false
  | sc, .me .join a b, x0 => match x0 with
    | .Call (.Attribute a' x apos) [b'] [] pos => decide (x = ("join" : Str)) && chkE sc a a' && chkE sc b b' && noCall0 a' && (apos.endLine == pos.line)
    | _ => false
  | sc, .me .split a b, x0 => match x0 with
    | .Call (.Attribute a' x apos) [b'] [] pos => decide (x = ("split" : Str)) && chkE sc a a' && chkE sc b b' && noCall0 a' && (apos.endLine == pos.line)
    | _ => false
  | _, _, _ => false
def chkFs : Scope → List E → List Expr → Bool
  | _, [], [] => true
  | sc, a :: l, .Constant (.str x) k p :: es => (match a with | .str s => (x.cps.toList == s) && s.all (fun c => decide (c < 1114112)) | _ => false) && chkFs sc l es
  | sc, a :: l, .FormattedValue e (-1) none _ :: es => chkE sc a e && chkFs sc l es
  | _, _, _ => false
def chkEs : Scope → List E → List Expr → Bool
  | _, [], [] => true
  | sc, a :: l, e :: es => chkE sc a e && chkEs sc l es
  | _, _, _ => false
def chkKs : Scope → List E → List Keyword → Bool
  | _, [], [] => true
  | sc, a :: l, ⟨_, e, _⟩ :: es => chkE sc a e && chkKs sc l es
  | _, _, _ => false
def chkO : Scope → Option E → Option Expr → Bool
  | _, none, none => true
  | sc, some a, some e => chkE sc a e
  | _, _, _ => false
def chkI : Scope → I → Expr → Expr → Bool
  | sc, .ex a, e, _ => chkE sc a e
  | sc, .rng l, .Call (.Name x _) es [] _, _ => decide (x = ("range" : Str)) && glB sc x && chkEs sc l es && (decide (l.length = 1) || decide (l.length = 2))
  | sc, .zip l, .Call (.Name x _) es [] _, tg => decide (x = ("zip" : Str)) && glB sc x && chkEs sc l es && decide (l.length = 2) && isTup tg
  | sc, .enum l, .Call (.Name x _) es [] _, tg => decide (x = ("enumerate" : Str)) && glB sc x && chkEs sc l es && decide (l.length = 1) && isTup tg
  | _, _, _, _ => false
end
end
/-! ### what the marks say -/
theorem notStar_of {g : Gx} {N : List Str} {sc : Scope} {a : E} {e : Expr} (h : chkE g N sc a e = true) : notStar e = true := by
  cases e <;> first | rfl | skip
  cases a <;> first | (simp [chkE, notStar] at h; done) | (unfold chkE at h; simp [notStar] at h; done) | (rename_i m _ _; cases m <;> (simp [chkE, notStar] at h; done))
theorem star_cons {e : Expr} {es : List Expr} {env : PySem.Env} (h : notStar e = true) : starEach (e :: es) env = (false, eval e env) :: starEach es env := by
  cases e <;> first | rfl | cases h
theorem stars_no {es : List Expr} {env : PySem.Env} {pos : Pos} (h : noStars es = true) : (backTo pos (starEach es env)).any (·.1) = false := by
  induction es with
  | nil => rfl
  | cons e es ih =>
    simp only [noStars, Bool.and_eq_true] at h
    rw [star_cons h.1]
    have := ih h.2
    unfold backTo at this ⊢
    simp only [List.map_cons, List.any_cons, Bool.false_or]
    exact this
theorem noStars_of {g : Gx} {N : List Str} {sc : Scope} : ∀ {l : List E} {es : List Expr}, chkEs g N sc l es = true → noStars es = true
  | [], [], _ => rfl
  | a :: l, e :: es, h => by
    simp only [chkEs, Bool.and_eq_true] at h
    simp only [noStars, Bool.and_eq_true]
    exact ⟨notStar_of h.1, noStars_of h.2⟩
  | [], _ :: _, h => by simp [chkEs] at h
  | _ :: _, [], h => by simp [chkEs] at h
theorem noSet_marks {b : Expr} {op : CmpOp} (h : noSet b = true) : behindInMarks op b = false := by
  cases b <;> first | rfl | cases h
theorem noSet_fold {e : Expr} {env : PySem.Env} (h : noSet e = true) : ∀ x, foldedSetIterable e env x = pure x := by
  intro x
  cases e <;> first | rfl | cases h
theorem noCall_base {o : Expr} {nm : Str} {env : PySem.Env} {w : Sem Value} (h : noCall0 o = true) : attributeBase o nm env w = w := by
  cases o <;> first | rfl | cases h
theorem noSuper_base {o : Expr} {nm : Str} {env : PySem.Env} (h : noSuper o = true) : attributeBase o nm env (eval o env) = eval o env := by
  unfold noSuper at h
  split at h
  · rename_i x p q
    unfold attributeBase
    have h' : (x != ("super" : Str)) = true := h
    simp only [h', Bool.true_or, if_true, bind_pure]
  · rename_i hn
    unfold attributeBase
    split
    · rename_i x p q
      exact absurd rfl (hn x p q)
    · rfl
theorem noSlice_ix2 {b : Expr} (h : noSlice b = true) : ∀ o i, subscripted b true o i = runValue (.builtin "lifetime.subscript" ⟨[o, i], []⟩) := by
  intro o i
  cases b <;> first | rfl | cases h
theorem noSlice_ix {b : Expr} (h : noSlice b = true) : PlainIx b := by
  intro o i
  cases b <;> first | rfl | cases h
theorem plain_test {e : Expr} {env : PySem.Env} (h : plainTest e = true) : ∀ whole, isTrue e env whole = (do let v ← whole; standAt e.pos; holding [v] (truthy v)) := by
  intro w
  cases e with
  | UnaryOp op a p => cases op <;> first | rfl | cases h
  | BoolOp => cases h
  | IfExp => cases h
  | Compare => cases h
  | _ => rfl
theorem noComp_swaps {e : Expr} {t : Option Expr} {l : Nat} {env : PySem.Env} (h : noComp e = true) : swapsWith e t l env = pure false := by
  cases e <;> first | rfl | cases h
end Oh

set_option Elab.async false
set_option linter.all false
set_option maxRecDepth 100000
set_option maxHeartbeats 4000000
set_option autoImplicit false
/-! OhXa: own exception classes over a built-in one, with an own __init__ -/
namespace Oh
open PySem L2
/-- a built-in exception class: its ids, its mro -/
structure Bas (B newId initId : String) (bmB : List Value) : Prop where
  F : ExcBaseFacts B newId initId bmB
  pass : ∀ self, refuseLoop self "__setattr__" bmB = pure ()
  obj : bmB.contains (.type "object") = true
  ne : bmB.isEmpty = false
abbrev bmVE : List Value := [.type "ValueError", .type "Exception", .type "BaseException", .type "object"]
abbrev bmLE : List Value := [.type "LookupError", .type "Exception", .type "BaseException", .type "object"]
abbrev bmIE : List Value := [.type "IndexError", .type "LookupError", .type "Exception", .type "BaseException", .type "object"]
theorem basVE : Bas "ValueError" "ValueError.__new__" "ValueError.__init__" bmVE := ⟨F.excBase_ValueError, fun _ => by kernel_rfl, by decide +kernel, rfl⟩
theorem basLE : Bas "LookupError" "LookupError.__new__" "LookupError.__init__" bmLE := ⟨F.excBase_LookupError, fun _ => by kernel_rfl, by decide +kernel, rfl⟩
theorem basIE : Bas "IndexError" "IndexError.__new__" "IndexError.__init__" bmIE := ⟨F.excBase_IndexError, fun _ => by kernel_rfl, by decide +kernel, rfl⟩
/-- own classes ahead of the built-in ones -/
def tailB (bmB : List Value) : List Value → Bool
  | .ref _ :: r => tailB bmB r
  | l => l == bmB
theorem tailB_ind {bmB : List Value} {P : List Value → Prop} (h0 : P bmB) (h1 : ∀ C l, P l → P (.ref C :: l)) : ∀ l : List Value, tailB bmB l = true → P l
  | .ref C :: l, h => h1 C l (tailB_ind h0 h1 l h)
  | [], h => by have e : ([] : List Value) = bmB := eq_of_beq h; rw [e]; exact h0
  | .none :: l, h => by have e : _ = bmB := eq_of_beq h; rw [e]; exact h0
  | .ellipsis :: l, h => by have e : _ = bmB := eq_of_beq h; rw [e]; exact h0
  | .notImplemented :: l, h => by have e : _ = bmB := eq_of_beq h; rw [e]; exact h0
  | .bool _ :: l, h => by have e : _ = bmB := eq_of_beq h; rw [e]; exact h0
  | .int _ _ :: l, h => by have e : _ = bmB := eq_of_beq h; rw [e]; exact h0
  | .float _ _ :: l, h => by have e : _ = bmB := eq_of_beq h; rw [e]; exact h0
  | .str _ _ :: l, h => by have e : _ = bmB := eq_of_beq h; rw [e]; exact h0
  | .bytes _ _ :: l, h => by have e : _ = bmB := eq_of_beq h; rw [e]; exact h0
  | .type _ :: l, h => by have e : _ = bmB := eq_of_beq h; rw [e]; exact h0
  | .builtin _ :: l, h => by have e : _ = bmB := eq_of_beq h; rw [e]; exact h0
section
variable {B newId initId : String} {bmB : List Value}
theorem Bas.passes (b : Bas B newId initId bmB) (self : Value) {l : List Value} (h : tailB bmB l = true) : refuseLoop self "__setattr__" l = pure () :=
  tailB_ind (P := fun l => refuseLoop self "__setattr__" l = pure ()) (b.pass self) (fun C l e => by rw [refuseLoop_ref]; exact e) l h
theorem tail_has {l : List Value} (h : tailB bmB l = true) (X : String) : l.contains (.type X) = bmB.contains (.type X) :=
  tailB_ind (P := fun l => l.contains (.type X) = bmB.contains (.type X)) rfl (fun C l e => by rw [List.contains_cons, e]; rfl) l h
/-- what the written part says of such a class -/
structure OexG (K : PySem.W.Frag) (C : Addr) (newId : String) (bmB : List Value) : Prop where
  cls : ∃ nm q N bs bm sn sub ab col dd k0 k1 k2 k3 k5, K.lookup C = some (excClassObj nm q C N bs bm true sn sub ab col dd k0 k1 k2 k3 k5 newId) ∧ tailB bmB bm = true
  sa : PySem.W.findIn K (.ref C) "__setattr__" = some (some (.builtin "object.__setattr__"))
  exC : PySem.W.subIn K (.ref C) (.type "BaseException") = some true
  tyC : PySem.W.typeIn K (.ref C) = some (.type "type")
  kC : PySem.W.keepIn K (.ref C) = true
/-! ### self.f = v -/
section
variable {prog : Program} {w : World} {A : Around} {R : Result → Shared → Prop} {hp : Heap} {g : Array GenState} {d : Drawn} {t : Nat} {os : OsState} {K : PySem.W.Frag} {x C : Addr} {name : Str} {tk : Tok} {v : Value}
/-- the way to the own dict -/
theorem xs_walk {ox : Obj} {od : Option Obj} {cd : ClassData} (b : Bas B newId initId bmB) (X : K.In hp) (I : PySem.W.InstAt hp x ox C od) (hcd : PySem.W.clsIn K C = some cd) (hm : tailB bmB cd.mro = true) (ha : PySem.W.findIn K (.ref C) name = some none)
    (hq : wpAny (model prog w) A.in1 (Builtin.ObjectAttr.storeInOwnDict (.ref x) (.ref C) (.str name tk) name v false) (fun fin s' => match fin with | .done f => R (.ok f) s' | .again c' => c'.quiet = true ∧ codeAny (model prog w) A c' R s') (fun e s' => R (.error e) s') ⟨hp, g, d, t, os⟩) :
    codeAny (model prog w) A (.call (.builtin "object.__setattr__") ⟨[.ref x, .str name tk, v], []⟩) R ⟨hp, g, d, t, os⟩ := by
  have SF := F.store_object
  have ne : cd.mro.isEmpty = false := by
    cases q : cd.mro with
    | nil =>
      rw [q] at hm
      have e : ([] : List Value) = bmB := eq_of_beq hm
      have := b.ne
      rw [← e] at this
      cases this
    | cons _ _ => rfl
  have isO : PySem.W.mroIn K C (.type "object") = some true := by
    unfold PySem.W.mroIn
    rw [hcd, Option.bind_some, if_neg (by rw [ne]; decide), tail_has hm, b.obj]
  have sub : PySem.W.Looks (model prog w) hp (isInstance (.ref x) (.type "object")) true := I.type.andThen (PySem.W.looks_mroIn X isO)
  have hmr : PySem.W.Looks (model prog w) hp (mroOf (.ref C)) cd.mro := (PySem.W.looks_clsIn X hcd).andThen .now
  have no : PySem.W.Looks (model prog w) hp (Builtin.ObjectAttr.storeTaker? none) none := .now
  refine codeAny_call_builtin SF.slot.plain SF.entry (@PySem.W.check_slot (model prog w) _ _ ⟨hp, g, d, t, os⟩ "object.__setattr__" "object" "__setattr__" (.ref x) [.str name tk, v] [] _ SF.kind SF.split sub (SF.args _ _ _) ?_)
  rw [PySem.W.osa_eq, refuse_eq]
  refine wpAny_bind (wpAny_bind (I.type.at (wpAny_bind (hmr.at (by rw [b.passes (.ref x) hm]; exact wpAny_pure (wpAny_bind (I.type.at (wpAny_bind ((PySem.W.looks_findIn X ha).at (wpAny_bind (no.at hq))))))))))) 
theorem xs_new {fv : Array Value} {cd : ClassData} (b : Bas B newId initId bmB) (X : K.In hp) (hx : hp.get? x = some { cls := .ref C, data := .fields fv }) (hcd : PySem.W.clsIn K C = some cd) (hm : tailB bmB cd.mro = true) (hh : cd.hasDict = true) (ha : PySem.W.findIn K (.ref C) name = some none)
    (hq : ∀ h' tk' dx, (∀ c o, c ≠ x → hp.get? c = some o → h'.get? c = some o) → hp.objs.size ≤ dx → h'.get? x = some { cls := .ref C, dict := some dx, data := .fields fv } → h'.Ns1 dx (fun y => if y = name then some v else none) → R (.ok (.ret .none)) ⟨h', g, d, tk', os⟩) :
    codeAny (model prog w) A (.call (.builtin "object.__setattr__") ⟨[.ref x, .str name tk, v], []⟩) R ⟨hp, g, d, t, os⟩ := by
  have lc : PySem.W.Looks (model prog w) hp (classData C) cd := PySem.W.looks_clsIn X hcd
  have nx : x ≠ hp.objs.size := Nat.ne_of_lt (Heap.lt_size hx)
  refine xs_walk b X (od := none) ⟨hx, rfl, rfl, trivial⟩ hcd hm ha ?_
  obtain ⟨nm, bs, mro, ns, qn, hd, sn, sb, ab, col, del⟩ := cd; obtain rfl : hd = true := hh
  unfold Builtin.ObjectAttr.storeInOwnDict Builtin.ObjectAttr.ownDictForStores
  repeat (first | with_reducible refine HandSPX.store_in_new ?_ ?_ | with_reducible refine wpAny_loadPart_at hx ?_ | with_reducible refine lc.at ?_ | wp_step)
  · exact ⟨_, #[], _, (Heap.get?_update_ne _ _ _ _ nx.symm).trans (Heap.get?_push_at rfl rfl), rfl, (fun e he => absurd he (by simp)), fun _ => rfl⟩
  · intro h' tk' hn' hs
    exact hq h' tk' _ (fun c o hc ho => (hs.2 c (Nat.ne_of_lt (Heap.lt_size ho))).trans ((Heap.get?_update_ne _ _ _ _ hc).trans (Heap.get?_push_of_some _ ho))) (Nat.le_refl _) ((hs.2 x nx).trans (Heap.get?_update_self _ (Heap.get?_push_of_some _ hx) rfl)) hn'
theorem xs_old {fv : Array Value} {cd : ClassData} {dx : Addr} {m0 : Str → Option Value} {nl : List Str} (b : Bas B newId initId bmB) (X : K.In hp) (hx : hp.get? x = some { cls := .ref C, dict := some dx, data := .fields fv }) (hns : hp.Ns1 dx m0) (hw : Within m0 nl) (hz : nl.length ≤ 1000) (hcd : PySem.W.clsIn K C = some cd)
    (hm : tailB bmB cd.mro = true) (hh : cd.hasDict = true) (ha : PySem.W.findIn K (.ref C) name = some none) (hq : ∀ h' tk', (∀ c o, c ≠ dx → hp.get? c = some o → h'.get? c = some o) → h'.Ns1 dx (fun y => if y = name then some v else m0 y) → R (.ok (.ret .none)) ⟨h', g, d, tk', os⟩) :
    codeAny (model prog w) A (.call (.builtin "object.__setattr__") ⟨[.ref x, .str name tk, v], []⟩) R ⟨hp, g, d, t, os⟩ := by
  have lc : PySem.W.Looks (model prog w) hp (classData C) cd := PySem.W.looks_clsIn X hcd
  obtain ⟨oD, _, _, hoD, _, _⟩ := hns.count hw
  refine xs_walk b X (od := some oD) ⟨hx, rfl, rfl, hoD⟩ hcd hm ha ?_
  obtain ⟨nm, bs, mro, ns, qn, hd, sn, sb, ab, col, del⟩ := cd; obtain rfl : hd = true := hh
  unfold Builtin.ObjectAttr.storeInOwnDict Builtin.ObjectAttr.ownDictForStores
  repeat (first | with_reducible refine PySem.OEX.store_in_old hns hw hz ?_ | with_reducible refine wpAny_loadPart_at hx ?_ | with_reducible refine lc.at ?_ | wp_step)
  exact fun h' tk' hn' hs => hq h' tk' (fun c o hc ho => (hs.2 c hc).trans ho) hn'
end
end
end Oh

set_option Elab.async false
set_option linter.all false
set_option maxRecDepth 100000
set_option maxHeartbeats 4000000
set_option autoImplicit false
/-! OhXb: an own __init__ of an exception: fields laid, the base's __init__ called -/
namespace Oh
open PySem L2
section
variable {B newId initId : String} {bmB : List Value} {X : Cx} {pins : List (Addr × Obj)} {σ : L2.St} {H : Hp} {s : Shared} {a C dx : Addr} {f : Str} {y : V} {u : Value} {fs : List (Str × V)} {E : Value → Shared → Prop} {A : Around}
/-- the class, as its data tell it -/
theorem OexG.data {K : PySem.W.Frag} (T : OexG K C newId bmB) : ∃ cd, PySem.W.clsIn K C = some cd ∧ tailB bmB cd.mro = true ∧ cd.hasDict = true := by
  obtain ⟨nm, q, N, bs, bm, sn, sub, ab, col, dd, k0, k1, k2, k3, k5, hC, hbm⟩ := T.cls
  refine ⟨_, (by unfold PySem.W.clsIn; rw [hC]), hbm, rfl⟩
/-- the first field -/
theorem gst_new {Q : Unit → Shared → Prop} (b : Bas B newId initId bmB) (T : OexG X.K C newId bmB) (I : Inv X pins σ H s) (e : H a = some (exo a C none)) (hno : PySem.W.findIn X.K (.ref C) f = some none) (ry : RelV y u)
    (h : ∀ dx s', H dx = none → dx ≠ a → Inv X pins σ (upd (upd H dx (exd dx [(f, y)])) a (exo a C (some dx))) s' → Q () s') : wpAny (model X.prog X.w) A (setAttr (.ref a) f u) Q E s := by
  obtain ⟨cd, hcd, hm, hh⟩ := T.data
  obtain ⟨t1, ho⟩ := exo_at I.hok e
  obtain ⟨hp, g, d, t, os⟩ := s
  refine PySem.W.set_plain I.kIn (od := none) ⟨ho, rfl, rfl, trivial⟩ T.sa ?_
  refine xs_new b I.kIn ho hcd hm hh hno fun h' tk' dx k dn hx hn => ?_
  have nd : H dx = none := I.hok.fresh dn
  have ne : dx ≠ a := fun z => by
    rw [z, e] at nd
    cases nd
  -- the heap with the exception as it was
  have up : ∀ c, c ≠ a → (h'.update a fun _ => { cls := .ref C, dict := none, data := .fields #[.ref t1, .none, .none, .none, .bool false, .none] }).get? c = h'.get? c := fun c hc => Heap.get?_update_other _ _ (Ne.symm hc)
  have J1 := I.laid (t' := tk') (h' := h'.update a fun _ => { cls := .ref C, dict := none, data := .fields #[.ref t1, .none, .none, .none, .bool false, .none] }) (a := dx) (o := exd dx [(f, y)]) (fun c o hc => by
    by_cases z : c = a
    · subst z
      have e1 := Option.some.inj (ho.symm.trans hc)
      rw [← e1]
      exact Heap.get?_update_self _ hx rfl
    · rw [up c z]
      exact k c o z hc) dn (exd_ok (hn.at fun o z => (up dx ne).trans z) (relO_put (fs := []) ry fun _ => True.intro))
  refine h dx _ nd ne (J1.write (t' := tk') (h' := h') (x := a) (e := a) (o := exo a C (some dx)) (by rw [upd_ne (Ne.symm ne), e]; exact True.intro) (.inl rfl) (fun c o hc ho' => ?_) ⟨_, hx⟩ (exo_ok hx))
  have z : (h'.update a fun _ => { cls := .ref C, dict := none, data := .fields #[.ref t1, .none, .none, .none, .bool false, .none] }).get? c = some o := ho'
  rw [up c hc] at z
  exact z
/-- a further field -/
theorem gst_old {Q : Unit → Shared → Prop} (b : Bas B newId initId bmB) (T : OexG X.K C newId bmB) (I : Inv X pins σ H s) (e : H a = some (exo a C (some dx))) (ed : H dx = some (exd dx fs)) (hl : fs.length ≤ 900) (hno : PySem.W.findIn X.K (.ref C) f = some none) (ry : RelV y u)
    (h : ∀ s', Inv X pins σ (upd H dx (exd dx ((f, y) :: fs))) s' → Q () s') : wpAny (model X.prog X.w) A (setAttr (.ref a) f u) Q E s := by
  obtain ⟨cd, hcd, hm, hh⟩ := T.data
  obtain ⟨t1, ho⟩ := exo_at I.hok e
  obtain ⟨mA, hns, rel⟩ := exd_at I.hok ed
  have hw := within_of rel
  obtain ⟨hp, g, d, t, os⟩ := s
  obtain ⟨oD, _, _, hoD, _, _⟩ := hns.count hw
  refine PySem.W.set_plain I.kIn (od := some oD) ⟨ho, rfl, rfl, hoD⟩ T.sa ?_
  refine xs_old b I.kIn ho hns hw (by rw [List.length_map]; omega) hcd hm hh hno fun h' tk' k hn => ?_
  have hd : ∃ o, h'.get? dx = some o := let ⟨o, _, _, z, _⟩ := hn; ⟨o, z⟩
  exact h _ (I.write (t' := tk') (x := dx) (e := dx) (o := exd dx ((f, y) :: fs)) (by rw [ed]; exact True.intro) (.inl rfl) k hd (exd_ok hn (relO_put ry rel)))
/-- the base's own __init__ -/
theorem goinit {us : List Value} {Q : Value → Shared → Prop} (b : Bas B newId initId bmB) (T : OexG X.K C newId bmB) (I : Inv X pins σ H s) (e : H a = some (exo a C none)) (hl : us.length ≤ sizeLine) (h : ∀ s', Inv X pins σ H s' → Q .none s') :
    wpAny (model X.prog X.w) A (call (.builtin initId) (.ref a :: us)) Q E s := by
  obtain ⟨nm, q, N, bs, bm, sn, sub, ab, col, dd, k0, k1, k2, k3, k5, hC, hbm⟩ := T.cls
  obtain ⟨t1, ho⟩ := exo_at I.hok e
  obtain ⟨hp, g, d, t, os⟩ := s
  refine wpAny_call (PySem.HandSPX.init_base b.F (fun Y => tail_has hbm Y) (I.kIn _ _ hC) ho hl fun h' t2 k hx => ?_)
  have J := I.write (t' := t) (x := a) (e := a) (o := exo a C none) (by rw [e]; exact True.intro) (.inl rfl) k ⟨_, hx⟩ (exo_ok hx)
  have eu : upd H a (exo a C none) = H := funext fun c => by
    by_cases z : c = a
    · subst z; rw [upd_same, e]
    · exact upd_ne z
  rw [eu] at J
  exact h _ J
/-! ### rules -/
variable {p p1 p2 pos pos' : Pos} {es : List Expr} {e0 eo ev : Expr} {ta : TA} {to te : TE}
/-- base.__init__(self, ..) -/
def tBi (C : Addr) (ta : TA) : TE := fun σ H Q => ta σ H fun vs H1 => ∃ (a : Addr) (ws : List V), vs = .ref a :: ws ∧ ws.length ≤ 1000 ∧ H1 a = some (exo a C none) ∧ Q .non H1
/-- how the base's __init__ is found -/
inductive BaseNm (X : Cx) (nm : Str) (initId : String) : Prop
  | own (Cb : Addr) (hg : Gl X nm) (hm : X.mg nm = some (.ref Cb)) (hd : (nm == ("__debug__" : Str)) = false) (hs : PySem.W.specialIn X.K (.ref Cb) "__getattribute__" = some (some (.builtin "type.__getattribute__"))) (hr : PySem.W.readsIn X.K Cb (.type "type") = true)
      (hv : PySem.W.findCls X.K (.ref Cb) (.type "type") "__init__" = some (.val (.builtin initId)))
  | blt (T : String) (hg : Gl X nm) (hm : X.mg nm = none) (hd : (nm == ("__debug__" : Str)) = false) (hn : nm ≠ "__name__") (hb : bootBuiltins nm = some (.type T)) (ht : typeOf (.type T) = pure (.type "type")) (hs : Manifest.isStub T = false)
      (hv : PySem.W.findCls X.K (.type T) (.type "type") "__init__" = some (.val (.builtin initId)))
theorem BaseNm.found {nm : Str} {pl : Sem Bool} {Q : Value × List Value → Shared → Prop} (N : BaseNm X nm initId) (I : Inv X pins σ H s) (hh : PySem.W.handedIn (.builtin initId) = true) (h : ∀ t, Q (.builtin initId, []) { s with toks := t }) :
    wpAny (model X.prog X.w) X.A (eval (.Name nm p1) X.env) (fun ov s1 => wpAny (model X.prog X.w) X.A (getMethod ov "__init__" pl) Q E s1) E s := by
  cases N with
  | own Cb hg hm hd hs hr hv => exact ld_glob I hg hm (PySem.W.method_cls I.kIn hs (PySem.W.cls_value I.kIn hr hv hh (h _))) hd
  | blt T hg hm hd hn hb ht hs hv =>
    obtain ⟨m, fr⟩ := I.fr
    exact ld_blt I hg hm hb (PySem.W.method_type fr I.ok.mod.kin ht hs hv hh (h _)) hn hd
theorem pe_xbi {pl : Sem Bool} {nm : Str} (b : Bas B newId initId bmB) (T : OexG X.K C newId bmB) (N : BaseNm X nm initId) (hh : PySem.W.handedIn (.builtin initId) = true)
    (ha : PA X (e0 :: es) ta) (hc : eval (.Call (.Attribute (.Name nm p1) "__init__" p2) (e0 :: es) [] pos) X.env = (do
      let ov ← eval (.Name nm p1) X.env
      standAt p2.atName
      let (f, first) ← holding [ov] (getMethod ov "__init__" pl)
      callWith pos f first (backTo pos (starEach (e0 :: es) X.env)) (backToKw pos (keywordEach [] X.env))) := by rfl)
    (he : starEach (e0 :: es) X.env = (false, eval e0 X.env) :: starEach es X.env := by rfl) (hpl : (backTo pos (starEach es X.env)).any (·.1) = false := by rfl) :
    PE X (.Call (.Attribute (.Name nm p1) "__init__" p2) (e0 :: es) [] pos) (tBi C ta) := by
  refine ⟨fun pins s σ H Q I h => PySem.W.methodCall_KW (N.found I hh fun t => ?_) hc⟩
  show wpAny _ _ (callWith pos (Value.builtin initId) [] (backTo pos (starEach (e0 :: es) X.env)) []) _ _ _
  refine PyProof.Rows.callWith_method1 (thn (ha.run pos pins _ σ H _ (I.tok _) h) ?_) he hpl
  rintro us s1 ⟨vs, H1, I1, r1, a, ws, rfl, hl, ea, q⟩
  cases r1 with
  | @cons _ u0 _ ur ra rw' =>
    obtain rfl : u0 = Value.ref a := ra
    exact goinit b T I1 ea (by rw [← Paired.length rw', sizeLine_eq]; omega) fun s' J => ⟨.non, H1, J, rfl, q⟩
/-- self.f = e -/
def tGst (C : Addr) (f : Str) (to te : TE) : TS := fun D σ H => te σ H fun y H1 => to σ H1 fun x H2 => ∃ a : Addr, x = .ref a ∧
  ((H2 a = some (exo a C none) ∧ ∀ dx, H2 dx = none → dx ≠ a → D.nx σ (upd (upd H2 dx (exd dx [(f, y)])) a (exo a C (some dx)))) ∨
    ∃ (dx : Addr) (fs : List (Str × V)), H2 a = some (exo a C (some dx)) ∧ H2 dx = some (exd dx fs) ∧ fs.length ≤ 900 ∧ D.nx σ (upd H2 dx (exd dx ((f, y) :: fs))))
theorem ps_xst (b : Bas B newId initId bmB) (T : OexG X.K C newId bmB) (hno : PySem.W.findIn X.K (.ref C) f = some none) (ho : PE X eo to) (he : PE X ev te) (hs : swapsWith ev (some (.Attribute eo f p)) pos.line X.env = pure false := by rfl) :
    PS X (.Assign [.Attribute eo f p] ev pos) (tGst C f to te) := by
  refine ⟨fun pins s σ H D I h => plainObj_wpAny_Assign_Attribute (thn (he.run pins s σ H _ I h) ?_) hs⟩
  rintro v s1 ⟨y, H1, I1, r1, q1⟩
  refine thn (ho.run pins s1 σ H1 _ I1 q1) ?_
  rintro u s2 ⟨x, H2, I2, r2, a, rfl, q⟩
  obtain rfl : u = Value.ref a := r2
  rcases q with ⟨ea, q⟩ | ⟨dx, fs, ea, ed, hl, q⟩
  · exact gst_new b T I2 ea hno r1 fun dx s' n ne J => ⟨σ, _, J, q dx n ne⟩
  · exact gst_old b T I2 ea ed hl hno r1 fun s' J => ⟨σ, _, J, q⟩
end
end Oh

set_option Elab.async false
set_option linter.all false
set_option maxRecDepth 100000
set_option maxHeartbeats 4000000
set_option autoImplicit false
/-! OhXc: errors are made and raised -/
namespace Oh
open PySem L2
variable [Lcl]
/-! ### __init__, by its form -/
def kvV (ws : List V) (q : Nat × XV) : Str × V := match q.2 with
  | .cst s => (atStr q.1, .str (mkS s))
  | .par i => (atStr q.1, (ws[i]?).getD .non)
def chkXv (N : List Str) (sc : Scope) (n : Nat) : XV → Expr → Bool
  | .cst t, .Constant (.str x) _ _ => decide (x = mkS t)
  | .par i, .Name x _ => decide (N[i + 1]? = some x) && (visB sc x && (dbg x && decide (i < n)))
  | _, _ => false
def chkAs (N : List Str) (sc : Scope) (n : Nat) : List (Nat × XV) → List Stmt → Bool
  | [], [] => true
  | q :: as, .Assign [.Attribute (.Name s _) x _] e _ :: rest => decide (N[0]? = some s) && (visB sc s && (dbg s && (decide (x = atStr q.1) && (chkXv N sc n q.2 e && (noComp e && chkAs N sc n as rest)))))
  | _, _ => false
def chkXi (nm : Str) (N : List Str) (sc : Scope) (n : Nat) (as : List (Nat × XV)) : List Stmt → Bool
  | .Expr (.Call (.Attribute (.Name x p1) m ap) [.Name s p3, .Constant (.str t) j p4] [] pos) _ :: rest => decide (x = nm) && (decide (m = "__init__") && (decide (N[0]? = some s) && (visB sc s && (dbg s && (glB sc nm && ((ap.endLine == pos.line) && (noComp (.Call (.Attribute (.Name x p1) m ap) [.Name s p3, .Constant (.str t) j p4] [] pos) && (!as.isEmpty && chkAs N sc n as rest))))))))
  | _ => false
theorem xvis {sc : Scope} {x : Str} (h : visB sc x = true) : Vis sc x := by
  unfold visB at h
  unfold Vis
  split at h
  · exact .inl (by assumption)
  · exact .inr (.inl (by assumption))
  · exact .inr (.inr (by assumption))
  · cases h
theorem xgl {X : Cx} {x : Str} (h : glB X.env.scope x = true) : Gl X x := by
  unfold glB at h
  split at h
  · assumption
  · cases h
theorem xdbg {x : Str} (h : dbg x = true) : (x == ("__debug__" : Str)) = false ∧ (x == ("__classdict__" : Str)) = false := by
  unfold dbg at h
  simpa using h
theorem chkAs_cons {N : List Str} {sc : Scope} {n : Nat} {q : Nat × XV} {as : List (Nat × XV)} {l : List Stmt} (h : chkAs N sc n (q :: as) l = true) : ∃ s p x p' e pos rest, l = .Assign [.Attribute (.Name s p) x p'] e pos :: rest ∧ N[0]? = some s ∧ visB sc s = true ∧ dbg s = true ∧ x = atStr q.1 ∧ chkXv N sc n q.2 e = true ∧ noComp e = true ∧ chkAs N sc n as rest = true := by
  unfold chkAs at h
  split at h
  · rename_i e; cases e
  · rename_i q' as' s p x p' e pos rest e1
    cases e1
    simp only [Bool.and_eq_true, decide_eq_true_eq] at h
    exact ⟨s, p, x, p', e, pos, rest, rfl, h⟩
  · cases h
section
variable {B newId initId : String} {bmB : List Value} {X : Cx} {C : Addr}
/-- the slots of self and of the parameters -/
structure Pars (σ : L2.St) (a : Addr) (ws : List V) : Prop where
  self : σ[0]? = some (some (.ref a))
  par : ∀ i v, ws[i]? = some v → σ[i + 1]? = some (some v)
/-- the value of a field -/
theorem pe_xv {v : XV} {e : Expr} {n : Nat} (h : chkXv X.N X.env.scope n v e = true) (f : Nat) : PE X e (fun σ H Q => ∃ a ws, Pars σ a ws ∧ ws.length = n ∧ Q (kvV ws (f, v)).2 H) := by
  cases v with
  | cst t =>
    cases e <;> try (simp only [chkXv] at h; cases h; done)
    rename_i c j p
    cases c <;> try (simp only [chkXv] at h; cases h; done)
    rename_i x
    obtain rfl : x = mkS t := of_decide_eq_true h
    exact pe_m pe_str fun σ H Q ⟨a, ws, _, _, q⟩ => q
  | par i =>
    cases e <;> try (simp only [chkXv] at h; cases h; done)
    rename_i x p
    simp only [chkXv, Bool.and_eq_true, decide_eq_true_eq] at h
    obtain ⟨h1, h2, h3, h4⟩ := h
    refine pe_m (pe_var (i := i + 1) h1 (xvis h2) (xdbg h3).1 (xdbg h3).2) fun σ H Q ⟨a, ws, P, hl, q⟩ => ?_
    have e : ws[i]? = some ws[i] := List.getElem?_eq_getElem (by omega)
    refine ⟨ws[i], P.par i _ e, ?_⟩
    have e2 : (kvV ws (f, .par i)).2 = ws[i] := by
      show (ws[i]?).getD .non = _
      rw [e]; rfl
    rw [e2] at q
    exact q
theorem upd_swap {H : Hp} {a d : Addr} {o u w : HO} (h : d ≠ a) : upd (upd (upd H d o) a w) d u = upd (upd H d u) a w := funext fun c => by
  by_cases h1 : c = d
  · subst h1; rw [upd_same, upd_ne h, upd_same]
  · by_cases h2 : c = a
    · subst h2; rw [upd_ne h1, upd_same, upd_same]
    · rw [upd_ne h1, upd_ne h2, upd_ne h1, upd_ne h2, upd_ne h1]
/-- the further fields -/
theorem xi_rest (b : Bas B newId initId bmB) (T : OexG X.K C newId bmB) {n : Nat} : ∀ {as : List (Nat × XV)} {body : List Stmt}, (∀ q ∈ as, PySem.W.findIn X.K (.ref C) (atStr q.1) = some none) → chkAs X.N X.env.scope n as body = true →
    PSs X body (fun D σ H => ∃ H0 a dx acc ws, H = upd (upd H0 dx (exd dx acc)) a (exo a C (some dx)) ∧ dx ≠ a ∧ acc.length + as.length ≤ 900 ∧ Pars σ a ws ∧ ws.length = n ∧ D.nx σ (upd (upd H0 dx (exd dx ((as.map (kvV ws)).reverse ++ acc))) a (exo a C (some dx))))
  | [], [], _, _ => pss_m pss_nil fun D σ H ⟨H0, a, dx, acc, ws, e, _, _, _, _, q⟩ => by rw [e]; exact q
  | [], _ :: _, _, h => by simp [chkAs] at h
  | q :: as, body, hno, h => by
    obtain ⟨s, ps, x, px, e, p, rest, rfl, h1, h2, h3, rfl, h5, h6, h7⟩ := chkAs_cons h
    have ih := xi_rest b T (fun q hq => hno q (List.mem_cons_of_mem _ hq)) h7
    refine pss_m (pss_cons (ps_xst b T (hno q List.mem_cons_self) (pe_var (i := 0) h1 (xvis h2) (xdbg h3).1 (xdbg h3).2) (pe_xv h5 q.1) (noComp_swaps h6)) ih) fun D σ H ⟨H0, a, dx, acc, ws, e, hne, hl, P, hw, k⟩ => ?_
    simp only [List.length_cons] at hl
    refine ⟨a, ws, P, hw, .ref a, P.self, a, rfl, .inr ⟨dx, acc, ?_, ?_, by omega, ?_⟩⟩
    · rw [e, upd_same]
    · rw [e, upd_ne hne, upd_same]
    · refine ⟨H0, a, dx, kvV ws q :: acc, ws, ?_, hne, by simp only [List.length_cons]; omega, P, hw, ?_⟩
      · rw [e, upd_swap hne]
        have e3 : (atStr q.1, (kvV ws (q.1, q.2)).2) = kvV ws q := by unfold kvV; cases q.2 <;> rfl
        rw [← e3]
      · have e4 : ((q :: as).map (kvV ws)).reverse ++ acc = (as.map (kvV ws)).reverse ++ kvV ws q :: acc := by simp
        rw [e4] at k
        exact k
/-- the whole body -/
def spX (C : Addr) (n : Nat) (as : List (Nat × XV)) : Sp := fun vs H Q _ => ∃ (a : Addr) (ws : List V), vs = .ref a :: ws ∧ ws.length = n ∧ H a = some (exo a C none) ∧
  ∀ dx, H dx = none → dx ≠ a → Q .non (upd (upd H dx (exd dx (as.map (kvV ws)).reverse)) a (exo a C (some dx)))
theorem xi_body (b : Bas B newId initId bmB) (T : OexG X.K C newId bmB) {nm : Str} {n : Nat} {as : List (Nat × XV)} {body : List Stmt} (hB : Gl X nm → BaseNm X nm initId) (hh : PySem.W.handedIn (.builtin initId) = true) (has : as.length ≤ 900)
    (hno : ∀ q ∈ as, PySem.W.findIn X.K (.ref C) (atStr q.1) = some none) (h : chkXi nm X.N X.env.scope n as body = true) :
    PSs X body (fun D σ H => ∃ a ws, Pars σ a ws ∧ ws.length = n ∧ H a = some (exo a C none) ∧ ∀ dx, H dx = none → dx ≠ a → D.nx σ (upd (upd H dx (exd dx (as.map (kvV ws)).reverse)) a (exo a C (some dx)))) := by
  unfold chkXi at h
  split at h
  · rename_i x p1 m ap s p3 t j p4 pos pos' rest
    simp only [Bool.and_eq_true, decide_eq_true_eq] at h
    obtain ⟨rfl, rfl, h1, h2, h3, h4, h5, h6, h7, h8⟩ := h
    cases as with
    | nil => cases h7
    | cons q as =>
      obtain ⟨s2, p5, x2, p6, e, p7, rest, rfl, k1, k2, k3, rfl, k5, k6, k7⟩ := chkAs_cons h8
      have r := xi_rest b T (fun q hq => hno q (List.mem_cons_of_mem _ hq)) k7
      have ha := pa_cons (X := X) (pe_var (pos := p3) (i := 0) h1 (xvis h2) (xdbg h3).1 (xdbg h3).2) (pa_cons (pe_str (x := t) (j := j) (pos := p4)) pa_nil)
      have hi := pe_xbi (p1 := p1) b T (hB (xgl h4)) hh ha (meth_eval (es := [.Name s p3, .Constant (.str t) j p4]) (kws := []) rfl rfl h5)
      refine pss_m (pss_cons (ps_expr hi (noComp_swaps h6)) (pss_cons (ps_xst b T (hno q List.mem_cons_self) (pe_var (pos := p5) (i := 0) k1 (xvis k2) (xdbg k3).1 (xdbg k3).2) (pe_xv k5 q.1) (noComp_swaps k6)) r)) ?_
      rintro D σ H ⟨a, ws, P, hl, ea, k⟩
      refine ⟨.ref a, P.self, a, [.str t], rfl, by simp, ea, a, ws, P, hl, .ref a, P.self, a, rfl, .inl ⟨ea, fun dx hd hne => ⟨H, a, dx, [kvV ws q], ws, ?_, hne, ?_, P, hl, ?_⟩⟩⟩
      · have e3 : (atStr q.1, (kvV ws (q.1, q.2)).2) = kvV ws q := by unfold kvV; cases q.2 <;> rfl
        rw [← e3]
      · simp only [List.length_cons, List.length_nil] at has ⊢; omega
      · have := k dx hd hne
        simpa using this
  · cases h
end
/-! ### the classes -/
/-- how the base's __init__ is found, told without a def -/
inductive BaseAt (K : PySem.W.Frag) (mg : Str → Option Value) (nm : Str) (initId : String) : Prop
  | own (Cb : Addr) (hm : mg nm = some (.ref Cb)) (hd : (nm == ("__debug__" : Str)) = false) (hs : PySem.W.specialIn K (.ref Cb) "__getattribute__" = some (some (.builtin "type.__getattribute__"))) (hr : PySem.W.readsIn K Cb (.type "type") = true)
      (hv : PySem.W.findCls K (.ref Cb) (.type "type") "__init__" = some (.val (.builtin initId)))
  | blt (T : String) (hm : mg nm = none) (hd : (nm == ("__debug__" : Str)) = false) (hn : nm ≠ "__name__") (hb : bootBuiltins nm = some (.type T)) (ht : typeOf (.type T) = pure (.type "type")) (hs : Manifest.isStub T = false)
      (hv : PySem.W.findCls K (.type T) (.type "type") "__init__" = some (.val (.builtin initId)))
theorem BaseAt.nm {X : Cx} {nm : Str} {initId : String} (b : BaseAt X.K X.mg nm initId) (hg : Gl X nm) : BaseNm X nm initId := by
  cases b with
  | own Cb hm hd hs hr hv => exact .own Cb hg hm hd hs hr hv
  | blt T hm hd hn hb ht hs hv => exact .blt T hg hm hd hn hb ht hs hv
/-- a field that may be laid -/
def layB (q : Nat × XV) : Bool := decide (q.1 < manyAt) && (match q.2 with
  | .cst s => s.all fun c => decide (c < 1114112)
  | .par _ => true)
/-- what is known of a class of errors -/
structure XcIn (K : PySem.W.Frag) (mg : Str → Option Value) (c : Nat) (fd : Fd) (B newId initId : String) (bmB : List Value) (fI : Addr) (dat : FuncData) (nm x qual : Str) (params : Arguments) (body : List Stmt) (scope : Scope) (dvs : List V) (kws : List (Str × V)) (N ps : List Str) : Prop where
  bas : Bas B newId initId bmB
  oex : OexG K (He.ga K (clsStr c)) newId bmB
  mgc : mg (clsStr c) = some (.ref (He.ga K (clsStr c)))
  ini : PySem.W.findIn K (.ref (He.ga K (clsStr c))) "__init__" = some (some (.ref fI))
  typ : PySem.W.typeIn K (.ref fI) = some (.type "function")
  fun_ : FunD K x qual params body scope dvs kws fI dat
  sc : FnScope N ps scope
  fdc : xFd c = some fd
  pars : ps.length = fd.ps
  chk : chkXi nm N scope (fd.ps - 1) (xAs c) body = true
  pos : 0 < fd.ps
  bind : ∀ k, k ≤ fd.dfl.length → ∃ dvs ds, Binds K dat ps ds ∧ Vals dvs ds ∧ ∀ L H, Reps K L H dvs (fd.dfl.drop k)
  base : BaseAt K mg nm initId
  handed : PySem.W.handedIn (.builtin initId) = true
  few : (xAs c).length ≤ 900
  lay : (xAs c).all layB = true
  noat : ∀ f ∈ fieldsOf c, PySem.W.findIn K (.ref (He.ga K (clsStr c))) (atStr f) = some none
  flds : ∀ q ∈ xAs c, q.1 ∈ fieldsOf c
  has1 : 1 ∈ fieldsOf c
  xf : XfC K (He.ga K (clsStr c))
  dbg : (clsStr c == ("__debug__" : Str)) = false
def XcAt (K : PySem.W.Frag) (mg : Str → Option Value) (c : Nat) : Prop := ∃ fd B newId initId bmB fI dat nm x qual params body scope dvs kws N ps, XcIn K mg c fd B newId initId bmB fI dat nm x qual params body scope dvs kws N ps
theorem start_pars {N : List Str} {a : Addr} {ws : List V} : Pars (L2.start N (.ref a :: ws)) a ws := by
  refine ⟨rfl, fun i v h => ?_⟩
  unfold L2.start
  have hi := (List.getElem?_eq_some_iff.mp h).1
  rw [List.getElem?_append_left (by simp; omega), List.getElem?_map, List.getElem?_cons_succ, h]
  rfl
section
variable {K : PySem.W.Frag} {mg : Str → Option Value} {c : Nat} {fd : Fd} {B newId initId : String} {bmB : List Value} {fI : Addr} {dat : FuncData} {nm x qual : Str} {params : Arguments} {body : List Stmt} {scope : Scope} {dvs : List V} {kws : List (Str × V)} {N ps : List Str} {P : Program} {w : World} {base : Heap}
theorem XcIn.fn {CX : CXT} (Z : XcIn K mg c fd B newId initId bmB fI dat nm x qual params body scope dvs kws N ps) (k : Nat) : FnOk P w K mg base CX (k + 1) fI dat ps (spX (He.ga K (clsStr c)) (fd.ps - 1) (xAs c)) := by
  refine Z.fun_.ok Z.sc ?_ ?_
  · rintro vs H Q E ⟨a, ws, rfl, hl, _⟩
    rw [List.length_cons, hl, Z.pars]
    have := Z.pos
    omega
  · rintro cdv A outer s H vs Q E hr ⟨a, ws, rfl, hl, ea, q⟩
    exact ⟨_, xi_body (X := cxOf CX P w K mg base N qual scope fI cdv A outer s H E) Z.bas Z.oex (fun hg => Z.base.nm hg) Z.handed Z.few (fun q hq => Z.noat _ (Z.flds q hq)) Z.chk, a, ws, start_pars, hl, ea, q⟩
end
/-! ### raise -/
section
variable {X : Cx} {c : Nat} {fd : Fd} {B newId initId : String} {bmB : List Value} {fI : Addr} {dat : FuncData} {nm x qual : Str} {params : Arguments} {body : List Stmt} {scope : Scope} {dvs : List V} {kws : List (Str × V)} {N ps : List Str} {e : Expr} {es : List Expr} {ta : TA} {p pos : Pos}
theorem del_upds {H : Hp} {a d : Addr} {o1 o2 o3 o4 : HO} (ha : H a = none) (hne : d ≠ a) : upd (del (upd (upd (upd H a o1) d o2) a o3) a) d o4 = upd H d o4 := funext fun z => by
  by_cases h1 : z = d
  · subst h1; rw [upd_same, upd_same]
  · rw [upd_ne h1, upd_ne h1]
    by_cases h2 : z = a
    · subst h2; rw [del_same, ha]
    · rw [del_ne h2, upd_ne h2, upd_ne h1, upd_ne h2]
/-- an error is made: what its dict holds -/
def tMkX (C : Addr) (as : List (Nat × XV)) (n : Nat) (bd : List V → Prop) (ta : TA) : L2.St → Hp → XK → Prop := fun σ H Q => ta σ H fun vs H1 => vs.length ≤ 1000 ∧ ∃ dvs, bd dvs ∧ (vs ++ dvs).length = n ∧ ∀ d, H1 d = none → Q (.ref C) (some d) (upd H1 d (.xd (as.map (kvV (vs ++ dvs))).reverse))
theorem pmk_x (Z : XcIn X.K X.mg c fd B newId initId bmB fI dat nm x qual params body scope dvs kws N ps) (hr : Room 2 X.A) (hg : Gl X (clsStr c)) (ha : PA X (e :: es) ta)
    (he : starEach (e :: es) X.env = (false, eval e X.env) :: starEach es X.env) (hpl : (backTo pos (starEach es X.env)).any (·.1) = false) :
    PMk X (.Call (.Name (clsStr c) p) (e :: es) [] pos) (tMkX (He.ga X.K (clsStr c)) (xAs c) (fd.ps - 1) (fun dv => ∃ ds, Binds X.K dat ps ds ∧ Vals dv ds) ta) := by
  intro pins s σ H Q I h
  obtain ⟨n1, q, Nn, bs, bm, sn, sub, ab, col, dd, k0, k1, k2, k3, k5, hC, hbm⟩ := Z.oex.cls
  refine wpAny_Call_Name_kw (ld_glob I hg Z.mgc ?_ Z.dbg)
  refine PySem.W.callWith_K (h₀ := X.base) I.ok.mod.kin Z.oex.kC (thn (ha.run pos pins s σ H _ I h) ?_) he hpl
  rintro us s1 ⟨vs, H1, I1, r1, hz, dv, ⟨ds, hb, hd⟩, hl, q1⟩
  refine ⟨I1.kIn, ?_⟩
  show wpAny _ _ (call (.ref (He.ga X.K (clsStr c))) us) _ _ _
  obtain ⟨hp, g, dr, tk, os⟩ := s1
  have hsz : hp.objs.size ≤ hp.objs.size + 1 := Nat.le_succ _
  have hn : H1 (hp.objs.size + 1) = none := I1.hok.fresh hsz
  have kk : ∀ b o, hp.get? b = some o → ((hp.push (PySem.W.kdv_tup us)).push (PySem.HandSPX.excO (He.ga X.K (clsStr c)) hp.objs.size)).get? b = some o := fun b o e => Heap.get?_push_of_some _ (Heap.get?_push_of_some _ e)
  have hget : ((hp.push (PySem.W.kdv_tup us)).push (PySem.HandSPX.excO (He.ga X.K (clsStr c)) hp.objs.size)).get? (hp.objs.size + 1) = some (PySem.HandSPX.excO (He.ga X.K (clsStr c)) hp.objs.size) := by heap_get
  have I2 := I1.laid (t' := tk) (a := hp.objs.size + 1) (o := exo (hp.objs.size + 1) (He.ga X.K (clsStr c)) none) kk hsz (exo_ok hget)
  have r2 : Vals (V.ref (hp.objs.size + 1) :: (vs ++ dv)) (Value.ref (hp.objs.size + 1) :: (us ++ ds)) := .cons rfl (r1.append hd)
  have hlen : (Value.ref (hp.objs.size + 1) :: us ++ ds).length = ps.length := by
    have e1 := r2.length
    have e2 := Z.pars
    have e3 := Z.pos
    simp only [List.length_cons, List.length_append, List.cons_append] at e1 hl ⊢
    omega
  have hus : us.length ≤ sizeLine := by rw [← Paired.length r1, sizeLine_eq]; omega
  refine wpAny_call (PySem.HandSPX.call_own Z.bas.F (fun Y => tail_has hbm Y) (I1.kIn _ _ hC) (PySem.W.looks_findIn I1.kIn Z.ini) (fun self => PySem.W.bind_fn I1.kIn self Z.typ) hus
    (codeAny_mono ((Z.fn (P := X.prog) (w := X.w) (base := X.base) (CX := CX0) 0).run _ X.stack _ _ ⟨Value.ref (hp.objs.size + 1) :: us, []⟩ _ _ (fun v H2 => v = .non ∧ ∃ d, H1 d = none ∧ d ≠ hp.objs.size + 1 ∧
        H2 = upd (upd (upd H1 (hp.objs.size + 1) (exo (hp.objs.size + 1) (He.ga X.K (clsStr c)) none)) d (exd d ((xAs c).map (kvV (vs ++ dv))).reverse)) (hp.objs.size + 1) (exo (hp.objs.size + 1) (He.ga X.K (clsStr c)) (some d))) (fun _ _ _ => False)
      (hr.make _ us []) (I2.env0.make _ us []) (hb _ (Value.ref (hp.objs.size + 1) :: us) I2.kIn hlen) r2 ⟨_, _, rfl, hl, upd_same, fun dx h1 h2 => ⟨rfl, dx, ?_, h2, rfl⟩⟩) ?_))
  · rw [upd_ne h2] at h1
    exact h1
  · rintro r s' hq'
    cases r with
    | error er => exact hq'.elim
    | ok fl =>
      cases fl with
      | ret u =>
        obtain ⟨v, H2, os2, bare2, un2, hok2, rv, rfl, d, hd1, hne, rfl⟩ := hq'
        obtain ⟨h2, g2, d2, t2, os'⟩ := s'
        have q2 := q1 d hd1
        rw [← del_upds (o1 := exo (hp.objs.size + 1) (He.ga X.K (clsStr c)) none) (o2 := exd d ((xAs c).map (kvV (vs ++ dv))).reverse) (o3 := exo (hp.objs.size + 1) (He.ga X.K (clsStr c)) (some d)) hn hne] at q2
        exact ⟨rv, mk_end (raises_own Z.oex.exC Z.oex.tyC) I1 hsz kk un2 hok2 os2 bare2 upd_same (by rw [upd_ne hne, upd_same]) hd1 q2⟩
      | next => exact False.elim hq'
      | brk => exact False.elim hq'
      | cont => exact False.elim hq'
end
/-! ### raise, by the evaluator -/
section
variable {K : PySem.W.Frag} {L : List Addr} {H : Hp}
theorem FReps.app : ∀ {vs vs' : List (Str × V)} {ds ds' : List (Nat × D)}, FReps K L H vs ds → FReps K L H vs' ds' → FReps K L H (vs ++ vs') (ds ++ ds')
  | _, _, _, _, .nil, s => s
  | _, _, _, _, .cons h r t, s => .cons h r (FReps.app t s)
theorem rep_kv {ws : List V} {ds : List D} (r : Reps K L H ws ds) {q : Nat × XV} (h : layB q = true) : FReps K L H [kvV ws q] [kvD ds q] := by
  obtain ⟨f, v⟩ := q
  unfold layB at h
  rw [Bool.and_eq_true, decide_eq_true_eq] at h
  cases v with
  | cst s => exact .cons h.1 (.str s (fun c hc => of_decide_eq_true (List.all_eq_true.mp h.2 c hc))) .nil
  | par i =>
    refine .cons h.1 ?_ .nil
    cases e : ds[i]? with
    | some d =>
      obtain ⟨v, e2, r2⟩ := r.get e
      rw [e2]
      exact r2
    | none =>
      have e2 : ws[i]? = none := by
        rw [List.getElem?_eq_none_iff] at e ⊢
        rw [r.length]; exact e
      rw [e2]
      exact .non
theorem reps_kv {ws : List V} {ds : List D} (r : Reps K L H ws ds) : ∀ {as : List (Nat × XV)}, as.all layB = true → FReps K L H (as.map (kvV ws)).reverse (as.map (kvD ds)).reverse
  | [], _ => .nil
  | q :: as, h => by
    rw [List.all_cons, Bool.and_eq_true] at h
    simp only [List.map_cons, List.reverse_cons]
    exact (reps_kv r h.2).app (rep_kv r h.1)
theorem toPs_reps {ρ : Rh} : ∀ {vs : List V} {ws : List Oh.W} {ds : List D}, RepWs K ρ L H vs ws → toPs ws = some ds → Reps K L H vs ds
  | _, _, _, .nil, h => by cases h; exact .nil
  | _, _, _, .cons (w := w) (ws := ws) r t, h => by
    unfold toPs at h
    cases w with
    | c n => cases h
    | p d =>
      obtain ⟨d', e1, h⟩ := Option.bind_eq_some_iff.mp h
      cases e1
      obtain ⟨ds', e2, rfl⟩ := Option.map_eq_some_iff.mp h
      exact .cons r (toPs_reps t e2)
end
end Oh

set_option Elab.async false
set_option linter.all false
set_option maxRecDepth 100000
set_option maxHeartbeats 4000000
set_option autoImplicit false
/-! OhXd: raise, by the evaluator -/
namespace Oh
open PySem L2
variable [Lcl]
section
variable {X : Cx} {W : WX}
theorem s_raise {c : Nat} {G : Nat → Option D} {e : Expr} {es : List Expr} {p pos pos' : Pos} {rs : Env → M → Res (List Oh.W)} (tk : Takes X W) (hc : X.calm = true) (hr : Room 2 X.A) (hx : XcAt X.K X.mg c) (hg : Gl X (clsStr c)) (hn : es.length < 900)
    (ha : PA X (e :: es) (tAr X.K W rs)) (he : starEach (e :: es) X.env = (false, eval e X.env) :: starEach es X.env) (hpl : (backTo pos (starEach es X.env)).any (·.1) = false) (hlen : ∀ s m ws m', rs s m = .ok ws m' → ws.length = es.length + 1) :
    PS X (.Raise (some (.Call (.Name (clsStr c) p) (e :: es) [] pos)) none pos') (tS X.K W fun s m => (rs s m).bindS s fun ws m1 => raiseW G c ws s m1) := by
  obtain ⟨fd, B, newId, initId, bmB, fI, dat, nm, x, qual, params, body, scope, dvs, kws, N, ps, Z⟩ := hx
  refine ps_m (ps_raise hc tk (pmk_x Z hr hg ha he hpl)) fun D σ H ⟨ρ, s, m, B, k⟩ => ?_
  have k : AftS X.K W ρ m H D ((rs s m).bindS s fun ws m1 => raiseW G c ws s m1) := k
  have hl : ∀ ws m', rs s m = .ok ws m' → ws.length = es.length + 1 := fun ws m' => hlen s m ws m'
  refine ⟨ρ, s, m, B, ?_⟩
  cases q : rs s m with
  | bad => rw [q] at k; exact k.elim
  | exc y m1 =>
    rw [q] at k
    exact fun cls d ρ' H' l r z => k cls d σ ρ' H' l (B.later l r) z
  | ok ws m1 =>
    have k : AftS X.K W ρ m H D (raiseW G c ws s m1) := by rw [q] at k; exact k
    intro vs ρ1 H1 l1 r1 pw
    have e1 := hl ws m1 q
    have e0 : vs.length = ws.length := RepWs.length pw
    unfold raiseW at k
    rw [Z.fdc] at k
    cases q2 : toPs ws with
    | none => rw [q2] at k; exact k.elim
    | some ds =>
      rw [q2] at k
      simp only [] at k
      split at k
      · rename_i h
        rw [Bool.and_eq_true, decide_eq_true_eq] at h
        have r := toPs_reps pw q2
        have e2 : vs.length = ds.length := r.length
        obtain ⟨dv, dval, b1, b2, b3⟩ := Z.bind (fd.dfl.length - (fd.ps - (ds.length + 1))) (Nat.sub_le _ _)
        have rr : Reps X.K (lives ρ1 m1) H1 (vs ++ dv) (fillD fd ds) := r.append (b3 _ _)
        refine ⟨by omega, dv, ⟨dval, b1, b2⟩, by rw [rr.length]; omega, fun d hd => ?_⟩
        have l2 : Later ρ1 m1 H1 ρ1 m1 (upd H1 d (.xd ((xAs c).map (kvV (vs ++ dv))).reverse)) := later_upd r1 hd
        refine k _ _ σ ρ1 _ (l1.trans l2) (B.later (l1.trans l2) (r1.upd hd)) ⟨c, _, d, _, rfl, rfl, rfl, r1.notLive hd, upd_same, ?_⟩
        exact FReps.ext (ext_upd hd) (reps_kv rr Z.lay)
      · exact k.elim
end
end Oh

set_option Elab.async false
set_option linter.all false
set_option maxRecDepth 100000
set_option maxHeartbeats 4000000
set_option autoImplicit false
/-! OhXe: try with a clause of three classes; the fields of a caught error -/
namespace Oh
open PySem L2
variable [Lcl]
theorem flying_keep {B h h' : Heap} {l : List PySem.Env} {a : Addr} {Z : Obj → Prop} (x : HandSPX.FlyingZ B l a Z h) (k : ∀ b o, h.get? b = some o → h'.get? b = some o) : HandSPX.FlyingZ B l a Z h' := by
  obtain ⟨f1, f2, f3, oe, vs, T, oT, ts, h1, h2, h3, h4, h5, h6, h7, h8⟩ := x
  exact ⟨fun b o z => k _ _ (f1 b o z), f2, f3.of_keeps fun b o z _ => ⟨o, k _ _ z, rfl⟩, oe, vs, T, oT, ts, k _ _ h1, h2, h3, h4, h5, h6, k _ _ h7, h8⟩
/-- what the clause wishes of an exception of the body; its suite ends by a return -/
def wTri (K : PySem.W.Frag) (cs : List Value) (i : Nat) (ts : Addr → Value → Option Addr → TS) (D : Ends) : WX := fun cls d σ H =>
  PySem.W.exmAny K cls cs = some true ∧ ∀ a, H a = none → ts a cls d { nx := fun _ _ => False, rt := D.rt, bk := fun _ _ => False, ct := fun _ _ => False } (σ.set i (some (.ref a))) H
section
variable {X : Cx} {x1 x2 x3 n : Str} {c1 c2 c3 : Value} {i k : Nat} {body suite : List Stmt} {b₀ : Stmt} {p1 p2 p3 tp pos pos' : Pos} {tb : WX → TS} {ts : Addr → Value → Option Addr → TS}
theorem ps_try3 (hs : X.stack = X.env :: X.outer) (hf : X.env.frame = some X.env.locals) (hN : X.N.Nodup) (hi : X.N[i]? = some n) (hln : X.env.kindOf n = some .local) (hc1 : Names X x1 c1) (hc2 : Names X x2 c2) (hc3 : Names X x3 c3)
    (hb : ∀ (W : WX) (pn : List (Addr × Obj)) (xe : Value → Shared → Prop), Takes (X.tr pn xe) W → PSs (X.tr pn xe) body (tb W))
    (hsu : ∀ (a : Addr) (oe : Obj) (cls : Value) (d : Option Addr) (pn : List (Addr × Obj)), Zc cls d oe → (∃ vs, oe.data = .fields vs) → PSs (X.suite a ((a, oe) :: pn)) (b₀ :: suite) (ts a cls d)) :
    PS X (.Try body [.ExceptHandler (some (.Tuple [.Name x1 p1, .Name x2 p2, .Name x3 p3] k tp)) (some n) (b₀ :: suite) pos'] [] [] pos) (fun D σ H => tb (wTri X.K [c1, c2, c3] i ts D) D σ H) := by
  refine ⟨fun pins s σ H D I h => wpAny_Try_except ?_⟩
  have ok := I.ok
  have hfr : X.A.frames = some (X.env :: X.outer) := by rw [ok.frames, hs]
  refine wpAny_mono ((hb (wTri X.K [c1, c2, c3] i ts D) (X.pn ++ pins) (fun e s₁ => wpAny (model X.prog X.w) X.A (noteFrame e X.env) (fun _ s₂ => wpAny (model X.prog X.w) X.A (setFlight e none) (fun _ s₃ => wpAny (model X.prog X.w) X.A (handleBy e X.env _) (SP X pins D) X.xe s₃) X.xe s₂) X.xe s₁) ?_).run [] s σ H D (I.toTry _) h) ?_ (fun e s1 he => he)
  · rintro u s' ⟨a, B, sI, pins', σ', H', cls, d, rfl, J', nb, up, sky, na, os, ag, hm, hyes⟩
    have J : Inv X pins σ' H' sI := J'.ofTry ok
    rw [show (X.tr (X.pn ++ pins) _).stack = X.env :: X.outer from hs] at sky
    show wpAny (model X.prog X.w) X.A (noteFrame (.ref a) X.env) _ _ _
    refine Sky.land Zc.steady hfr hf sky fun h3 fl3 up3 => ?_
    have J3 : Inv X pins σ' H' { s' with heap := h3 } := J.landed nb fl3.1 (up.trans up3) os ag
    obtain ⟨oe3, vs3, he3, hz3, hd3⟩ := fl3.there
    have nfr : a ∉ frs (X.env :: X.outer) := fun z => by
      obtain ⟨_, o', e', hnf⟩ := fl3.2.2.1.mem z
      have e2 := Option.some.inj (he3.symm.trans e')
      rw [e2] at hd3
      exact hnf _ hd3
    have nL : a ≠ X.env.locals := fun z => nfr (List.mem_filterMap.mpr ⟨X.env, List.mem_cons_self, by rw [hf, z]⟩)
    have nF : a ∉ X.fs := fun z => by
      obtain ⟨e, he, q⟩ := List.mem_filterMap.mp z
      exact nfr (List.mem_filterMap.mpr ⟨e, List.mem_cons_of_mem _ he, q⟩)
    have S3 := J3.suite he3 hd3 na nL nF
    have nameOf : ∀ {x : Str} {c : Value} {p : Pos} {Q : Value → Shared → Prop} {E : Value → Shared → Prop}, Names X x c → Q c { s' with heap := h3 } → wpAny (model X.prog X.w) (X.A.mark (some (.ref a))) (eval (.Name x p) X.env) Q E { s' with heap := h3 } := fun {x c p Q E} hc q => by
      obtain ⟨hg, hdb, hm | ⟨hm, hv, hnn⟩⟩ := hc
      · exact ld_glob S3 hg hm q hdb
      · exact ld_blt S3 hg hm hv q hnn hdb
    refine wpAny_handleBy_cons (codeAny_handlers_test ?_) (by intro q; cases q)
    have kp : ∀ b o, h3.get? b = some o → (h3.push { cls := .type "tuple", data := .seq [c1, c2, c3].toArray }).get? b = some o := fun _ _ z => Heap.get?_push_of_some _ z
    have LT : PySem.W.Looks (model X.prog X.w) (h3.push { cls := .type "tuple", data := .seq [c1, c2, c3].toArray }) (typeOf (.ref a)) cls := fun A Q E s k q => wpAny_typeOf_ref (k _ _ (kp _ _ he3)) (by rw [hz3.1]; exact q)
    refine wpAny_Tuple (wpAny_items_cons (nameOf hc1 (wpAny_items_cons (nameOf hc2 (wpAny_items_cons (nameOf hc3 (wpAny_items_nil ⟨by size_fits, ?_⟩)))))))
    refine (PySem.W.exm_tup3 (M := model X.prog X.w) (J3.kIn.keeps kp) LT (Heap.get?_push_size h3 rfl) hm).here (codeAny_handlers_suite_as ?_)
    refine HandSPX.lands_againZ (flying_keep fl3 kp) fun h4 fl4 up4 => ?_
    have J4 : Inv X pins σ' H' { s' with heap := h4 } := J.landed nb fl4.1 (((up.trans up3).trans (.of_keeps kp)).trans up4) os ag
    obtain ⟨oe4, vs4, he4, hz4, hd4⟩ := fl4.there
    refine store_ok (X := X.suite a ((a, oe4) :: (X.pn ++ pins))) (v := .ref a) (J4.suite he4 hd4 na nL nF) hN hi (.inl hln) rfl (fun s5 S5 => ?_) (.inr hln)
    refine wpAny_mono ((hsu a oe4 cls d (X.pn ++ pins) hz4 ⟨_, hd4⟩).run [] s5 _ H' _ S5 (hyes a na)) (fun f s6 hsp => ?_) (fun _ _ z => False.elim z)
    cases f with
    | ret u =>
      obtain ⟨v6, σ6, H6, S6, r6, q6⟩ := hsp
      exact gone_ok (S6.unsuite ok) hN hi hln fun s7 J7 => ⟨_, _, _, J7, r6, q6⟩
    | next => obtain ⟨_, _, _, z⟩ := hsp; exact z.elim
    | brk => obtain ⟨_, _, _, z⟩ := hsp; exact z.elim
    | cont => obtain ⟨_, _, _, z⟩ := hsp; exact z.elim
  · intro f s1 hsp
    cases f with
    | next =>
      obtain ⟨σ', H', J', q⟩ := hsp
      exact wpAny_execs_nil ⟨σ', H', J'.ofTry ok, q⟩
    | ret u =>
      obtain ⟨v, σ', H', J', r, q⟩ := hsp
      exact ⟨v, σ', H', J'.ofTry ok, r, q⟩
    | brk => obtain ⟨σ', H', J', q⟩ := hsp; exact ⟨σ', H', J'.ofTry ok, q⟩
    | cont => obtain ⟨σ', H', J', q⟩ := hsp; exact ⟨σ', H', J'.ofTry ok, q⟩
end
/-! ### the fields of a caught error -/
/-- err.f, err any exception that is pinned -/
theorem pe_xfp {X : Cx} {a C : Addr} {oe : Obj} {cls : Value} {d : Option Addr} {e : Expr} {te : TE} {pos : Pos} {n : Str} (T : XfC X.K C) (hno : PySem.W.findIn X.K (.ref C) n = some none) (hp : (a, oe) ∈ X.pn)
    (hz : Zc cls d oe) (hf : ∃ vs, oe.data = .fields vs) (he : PE X e te) (hb : attributeBase e n X.env (eval e X.env) = eval e X.env) : PE X (.Attribute e n pos) (tXf a cls d C n te) := by
  refine ⟨fun pins s σ H Q I h => attr_of hb (thn (he.run pins s σ H _ I h) ?_)⟩
  rintro u s1 ⟨x, H1, I1, rx, rfl, rfl, dd, fs, v, rfl, ea, l, q⟩
  obtain rfl : u = Value.ref a := rx
  obtain ⟨ha, _⟩ := I1.pin (a, oe) (List.mem_append_left _ hp)
  obtain ⟨vs, hd⟩ := hf
  have hx : ObjOk X.prog X.w H1 s1.heap dd (.xd fs) := I1.hok dd _ ea
  obtain ⟨mA, hns, hr⟩ := hx
  obtain ⟨od, ho, hl⟩ := lookIn_ns hns
  obtain ⟨u, hu, ru⟩ := RelO.some_of (v := v) (o := mA n) (by rw [← l]; exact hr n)
  have J : PySem.W.InstAt s1.heap a oe C (some od) := ⟨ha, hz.1, by unfold PySem.W.notCls; rw [hd], by rw [hz.2]; exact ho⟩
  exact HandSPX.exc_get I1.kIn J T.ga T.gg T.exC (PySem.W.findObj_own T.hdC hno rfl (by rw [hl, hu])) (handed_of ru) ⟨v, H1, I1.tok _, ru, q⟩
end Oh

set_option Elab.async false
set_option linter.all false
set_option maxRecDepth 100000
set_option maxHeartbeats 4000000
set_option autoImplicit false
/-! OhXf: the laws' reading of an error's fields -/
namespace Oh
open PySem L2
variable [Lcl]
/-! ### the form -/
def chkAt (N : List Str) (sc : Scope) (nm : Str) : Expr → Bool
  | .Attribute (.Name x _) y _ => decide (N[0]? = some x) && (visB sc x && (dbg x && decide (y = nm)))
  | _ => false
def chkCs : List Nat → List Expr → Bool
  | [], [] => true
  | c :: cs, .Constant (.str x) _ _ :: es => decide (x = mkS (codeT c)) && ((codeT c).all (fun z => decide (z < 1114112)) && chkCs cs es)
  | _, _ => false
def chkFt (N : List Str) (sc : Scope) (cs : List Nat) : Expr → Bool
  | .Compare a [.In] [.Tuple es _ _] _ => chkAt N sc (atStr 1) a && chkCs cs es
  | .Compare a [.Eq] [e] _ => chkAt N sc (atStr 1) a && (decide (cs.length = 1) && chkCs cs [e])
  | _ => false
def chkFl (N : List Str) (sc : Scope) : List Nat → List Expr → Bool
  | [], [] => true
  | f :: fs, e :: es => decide (f < manyAt) && (chkAt N sc (atStr f) e && chkFl N sc fs es)
  | _, _ => false
def chkFv (N : List Str) (sc : Scope) (fs : List Nat) : Expr → Bool
  | .Tuple es _ _ => chkFl N sc fs es
  | _ => false
def chkFd (N : List Str) (sc : Scope) : List (List Nat × List Nat) → List Stmt → Bool
  | [q], [.Return (some (.IfExp c a b _)) _] => chkFt N sc q.1 c && (chkFv N sc q.2 a && chkFv N sc [] b)
  | q :: r, .If c [.Return (some a) _] [] _ :: rest => chkFt N sc q.1 c && (chkFv N sc q.2 a && chkFd N sc r rest)
  | _, _ => false
/-! ### what is known of the caught error -/
abbrev Up (H H' : Hp) : Prop := ∀ b o, H b = some o → H' b = some o
structure XCt (X : Cx) (a C dd : Addr) (oe : Obj) (kvs : List (Str × V)) (t : Tx) : Prop where
  xf : XfC X.K C
  pin : (a, oe) ∈ X.pn
  zc : Zc (.ref C) (some dd) oe
  dat : ∃ vs, oe.data = .fields vs
  code : kvs.lookup (atStr 1) = some (V.str (mkS t))
  ok : okT t
  units : X.A.units + 64 < cLine
  cno : PySem.W.findIn X.K (.ref C) (atStr 1) = some none
/-- the values of some fields -/
def FVals (K : PySem.W.Frag) (C : Addr) (kvs : List (Str × V)) : List Nat → List V → Prop
  | [], [] => True
  | f :: fs, v :: vs => PySem.W.findIn K (.ref C) (atStr f) = some none ∧ kvs.lookup (atStr f) = some v ∧ FVals K C kvs fs vs
  | _, _ => False
theorem rel0 {K : PySem.W.Frag} {H : Hp} : Rel K ⟨[], []⟩ [] H := ⟨rfl, List.nodup_nil, fun n a c h1 => by simp at h1, fun a h => by simp at h⟩
section
variable {X : Cx} {a C dd : Addr} {oe : Obj} {kvs : List (Str × V)} {t : Tx}
theorem pe_fat (Z : XCt X a C dd oe kvs t) {nm : Str} {e : Expr} (h : chkAt X.N X.env.scope nm e = true) (hno : PySem.W.findIn X.K (.ref C) nm = some none) :
    PE X e (fun σ H Q => σ[0]? = some (some (.ref a)) ∧ H dd = some (.xd kvs) ∧ ∃ v, kvs.lookup nm = some v ∧ Q v H) := by
  unfold chkAt at h
  split at h
  · rename_i x p y q
    simp only [Bool.and_eq_true, decide_eq_true_eq] at h
    obtain ⟨h1, h2, h3, rfl⟩ := h
    exact pe_m (pe_xfp Z.xf hno Z.pin Z.zc Z.dat (pe_var (i := 0) h1 (xvis h2) (xdbg h3).1 (xdbg h3).2) rfl) fun σ H Q ⟨k1, k2, v, k3, k4⟩ => ⟨.ref a, k1, rfl, rfl, dd, kvs, v, rfl, k2, k3, k4⟩
  · cases h
theorem pa_cs {es : List Expr} : ∀ {cs : List Nat}, chkCs cs es = true → PA X es (fun _ H Q => Q (cs.map fun c => V.str (mkS (codeT c))) H) := by
  induction es with
  | nil =>
    intro cs h
    cases cs with
    | nil => exact pa_m pa_nil fun σ H Q q => q
    | cons c cs => simp [chkCs] at h
  | cons e es ih =>
    intro cs h
    cases cs with
    | nil => simp [chkCs] at h
    | cons c cs =>
      unfold chkCs at h
      split at h
      · rename_i e1; cases e1
      · rename_i c' cs' x j p es' e1 e2
        cases e1
        cases e2
        simp only [Bool.and_eq_true, decide_eq_true_eq] at h
        obtain ⟨rfl, h1, h2⟩ := h
        exact pa_m (pa_cons pe_str (ih h2)) fun σ H Q q => q
      · cases h
theorem cs_reps {L : List Addr} {H : Hp} {es : List Expr} : ∀ {cs : List Nat}, chkCs cs es = true → Reps X.K L H (cs.map fun c => V.str (mkS (codeT c))) (cs.map fun c => D.str (codeT c)) := by
  induction es with
  | nil =>
    intro cs h
    cases cs with
    | nil => exact .nil
    | cons c cs => simp [chkCs] at h
  | cons e es ih =>
    intro cs h
    cases cs with
    | nil => simp [chkCs] at h
    | cons c cs =>
      unfold chkCs at h
      split at h
      · rename_i e1; cases e1
      · rename_i c' cs' x j p es' e1 e2
        cases e1
        cases e2
        simp only [Bool.and_eq_true, decide_eq_true_eq] at h
        obtain ⟨rfl, h1, h2⟩ := h
        exact .cons (.str _ fun z hz => of_decide_eq_true (List.all_eq_true.mp h1 z hz)) (ih h2)
      · cases h
theorem inD_cs (cs : List Nat) : inD (.str t) (cs.map fun c => D.str (codeT c)) = some (cs.any fun c => codeT c == t) := by
  unfold inD
  rw [if_pos]
  · rw [List.any_map]
    rfl
  · simp [flat]
theorem up_new {H : Hp} {p : Addr} {o : HO} (h : H p = none) : Up H (upd H p o) := fun b u e => by rw [upd_ne (ne_of_none e h)]; exact e
theorem up_later {H H' : Hp} (l : Later ⟨[], []⟩ [] H ⟨[], []⟩ [] H') : Up H H' := fun b o e => (l.ext b o e (by simp [lives, lv])).1
theorem pt_ft (Z : XCt X a C dd oe kvs t) {cs : List Nat} {e : Expr} (hl : cs.length ≤ 100) (h : chkFt X.N X.env.scope cs e = true) :
    PT X e (fun σ H Q => σ[0]? = some (some (.ref a)) ∧ H dd = some (.xd kvs) ∧ ∀ H', Up H H' → Q (cs.any fun c => codeT c == t) H') := by
  unfold chkFt at h
  split at h
  · rename_i a' es k p pos
    rw [Bool.and_eq_true] at h
    refine pt_m (pt_cmpR (opC_ok Z.units .isin) (pe_fat Z h.1 Z.cno) (pe_tup (pa_cs h.2)) (noSet_marks rfl)) fun σ H Q ⟨k1, k2, q⟩ => ⟨k1, k2, _, Z.code, by rw [List.length_map, sizeLine_eq]; omega, fun p hp => ?_⟩
    refine rC_ok .isin ⟨[], []⟩ [] _ _ _ (.str t) (.tup (cs.map fun c => D.str (codeT c))) (.bl (cs.any fun c => codeT c == t)) _ rel0 (.rep (.str t Z.ok)) (.rep (.tup (.inl ⟨by simp [lives, lv], upd_same⟩) (cs_reps h.2))) ?_ fun v H' l _ r => ?_
    · show (cmpD .isin (.str t) (.tup (cs.map fun c => D.str (codeT c)))).map D.bl = _
      rw [show cmpD .isin (.str t) (.tup (cs.map fun c => D.str (codeT c))) = inD (.str t) (cs.map fun c => D.str (codeT c)) from by unfold cmpD; split <;> first | rfl | simp_all, inD_cs]
      rfl
    · cases r
      exact ⟨_, rfl, q H' fun b o e => up_later l b o (up_new hp b o e)⟩
  · rename_i a' e' pos
    simp only [Bool.and_eq_true, decide_eq_true_eq] at h
    obtain ⟨h1, h2, h3⟩ := h
    match cs, h2, h3 with
    | [c], _, h3 =>
      unfold chkCs at h3
      split at h3
      · rename_i e1; cases e1
      · rename_i c' cs' x j p es' e1 e2
        cases e1
        cases e2
        simp only [Bool.and_eq_true, decide_eq_true_eq] at h3
        obtain ⟨rfl, h4, _⟩ := h3
        refine pt_m (pt_cmpR (opC_ok Z.units .eq) (pe_fat Z h1 Z.cno) pe_str (noSet_marks rfl)) fun σ H Q ⟨k1, k2, q⟩ => ⟨k1, k2, _, Z.code, ?_⟩
        refine (show rC X .eq (V.str (mkS t)) (V.str (mkS (codeT c))) H (fun x H' => ∃ k, x = V.bl k ∧ Q k H') → _ from fun z => z) ?_
        refine rC_ok .eq ⟨[], []⟩ [] _ _ _ (.str t) (.str (codeT c)) (.bl (t == codeT c)) _ rel0 (.rep (.str t Z.ok)) (.rep (.str _ fun z hz => of_decide_eq_true (List.all_eq_true.mp h4 z hz))) ?_ fun v H' l _ r => ?_
        · show (cmpD .eq (.str t) (.str (codeT c))).map D.bl = _
          simp [cmpD, plain, eqv]
        · cases r
          refine ⟨_, rfl, ?_⟩
          have := q H' (up_later l)
          simp only [List.any_cons, List.any_nil, Bool.or_false] at this
          rw [show (t == codeT c) = (codeT c == t) from by rw [Bool.eq_iff_iff, beq_iff_eq, beq_iff_eq]; exact ⟨Eq.symm, Eq.symm⟩]
          exact this
      · cases h3
  · cases h
theorem pa_fl (Z : XCt X a C dd oe kvs t) {es : List Expr} : ∀ {fs : List Nat} {vs : List V}, chkFl X.N X.env.scope fs es = true → FVals X.K C kvs fs vs →
    PA X es (fun σ H Q => σ[0]? = some (some (.ref a)) ∧ H dd = some (.xd kvs) ∧ Q vs H) := by
  induction es with
  | nil =>
    intro fs vs h hv
    cases fs with
    | cons c cs => simp [chkFl] at h
    | nil =>
      cases vs with
      | cons _ _ => exact hv.elim
      | nil => exact pa_m pa_nil fun σ H Q q => q.2.2
  | cons e es ih =>
    intro fs vs h hv
    cases fs with
    | nil => simp [chkFl] at h
    | cons f fs =>
      cases vs with
      | nil => exact hv.elim
      | cons v vs =>
        unfold chkFl at h
        simp only [Bool.and_eq_true, decide_eq_true_eq] at h
        refine pa_m (pa_cons (pe_fat Z h.2.1 hv.1) (ih h.2.2 hv.2.2) ?_) fun σ H Q ⟨k1, k2, q⟩ => ⟨k1, k2, v, hv.2.1, k1, k2, q⟩
        have h3 := h.2.1
        unfold chkAt at h3
        split at h3
        · rfl
        · cases h3
/-- the tuple of some fields -/
theorem pe_fv (Z : XCt X a C dd oe kvs t) {fs : List Nat} {vs : List V} {e : Expr} (h : chkFv X.N X.env.scope fs e = true) (hv : FVals X.K C kvs fs vs) (hl : vs.length ≤ 100) :
    PE X e (fun σ H Q => σ[0]? = some (some (.ref a)) ∧ H dd = some (.xd kvs) ∧ ∀ p, H p = none → Q (.ref p) (upd H p (.tup vs))) := by
  unfold chkFv at h
  split at h
  · exact pe_m (pe_tup (pa_fl Z h hv)) fun σ H Q ⟨k1, k2, q⟩ => ⟨k1, k2, by rw [sizeLine_eq]; omega, q⟩
  · cases h
theorem pe_no {e : Expr} : PE X e (fun _ _ _ => False) := ⟨fun _ _ _ _ _ _ h => h.elim⟩
theorem pss_no {l : List Stmt} : PSs X l (fun _ _ _ => False) := ⟨fun _ _ _ _ _ _ h => h.elim⟩
/-- the whole body -/
theorem pss_fd (Z : XCt X a C dd oe kvs t) : ∀ {rows : List (List Nat × List Nat)} {body : List Stmt} {vs : List V}, (∀ q ∈ rows, q.1.length ≤ 100) → chkFd X.N X.env.scope rows body = true → FVals X.K C kvs (fldsOf rows t) vs → vs.length ≤ 100 →
    PSs X body (fun D σ H => σ[0]? = some (some (.ref a)) ∧ H dd = some (.xd kvs) ∧ ∀ p H', Up H H' → H' p = none → D.rt (.ref p) (upd H' p (.tup vs))) := by
  intro rows
  induction rows with
  | nil => intro body vs _ h; simp [chkFd] at h
  | cons q r ih =>
    intro body vs hq h hv hl
    have hq1 := hq q List.mem_cons_self
    unfold chkFd at h
    split at h
    · rename_i q' c a' b p1 p2 e1
      cases e1
      simp only [Bool.and_eq_true] at h
      obtain ⟨h1, h2, h3⟩ := h
      unfold fldsOf at hv
      by_cases hc : (q.1.any fun c => codeT c == t) = true
      · rw [if_pos hc] at hv
        refine pss_m (pss_one (ps_ret (pe_ifExp (pt_ft Z hq1 h1) (pe_fv Z h2 hv hl) pe_no))) fun D σ H ⟨k1, k2, q⟩ => ⟨k1, k2, fun H' u => ?_⟩
        refine Eq.mpr (if_pos hc) ?_
        exact ⟨k1, u _ _ k2, fun p hp => q p H' u hp⟩
      · rw [if_neg hc] at hv
        refine pss_m (pss_one (ps_ret (pe_ifExp (pt_ft Z hq1 h1) pe_no (pe_fv Z h3 hv hl)))) fun D σ H ⟨k1, k2, q⟩ => ⟨k1, k2, fun H' u => ?_⟩
        refine Eq.mpr (if_neg hc) ?_
        exact ⟨k1, u _ _ k2, fun p hp => q p H' u hp⟩
    · rename_i q' r' c a' p1 p2 rest _ e1
      cases e1
      simp only [Bool.and_eq_true] at h
      obtain ⟨h1, h2, h3⟩ := h
      unfold fldsOf at hv
      by_cases hc : (q.1.any fun c => codeT c == t) = true
      · rw [if_pos hc] at hv
        refine pss_m (pss_cons (ps_if (pt_ft Z hq1 h1) (pss_one (ps_ret (pe_fv Z h2 hv hl))) pss_nil) pss_no) fun D σ H ⟨k1, k2, q⟩ => ⟨k1, k2, fun H' u => ?_⟩
        refine Eq.mpr (if_pos hc) ?_
        exact ⟨k1, u _ _ k2, fun p hp => q p H' u hp⟩
      · rw [if_neg hc] at hv
        refine pss_m (pss_cons (ps_if (pt_ft Z hq1 h1) (pss_one (ps_ret pe_no)) pss_nil) (ih (fun q hm => hq q (List.mem_cons_of_mem _ hm)) h3 hv hl)) fun D σ H ⟨k1, k2, q⟩ => ⟨k1, k2, fun H' u => ?_⟩
        refine Eq.mpr (if_neg hc) ?_
        exact ⟨k1, u _ _ k2, fun p H2 u2 hp => q p H2 (fun b o e => u2 b o (u b o e)) hp⟩
    · cases h
end
end Oh

set_option Elab.async false
set_option linter.all false
set_option maxRecDepth 100000
set_option maxHeartbeats 4000000
set_option autoImplicit false
/-! OhXg: _law_field is called in an except suite; the suite of _law_why -/
namespace Oh
open PySem L2
variable [Lcl]
/-- a def is called while an exception that is pinned is handled; it lets nothing out -/
theorem call_pin {P : Program} {w : World} {K : PySem.W.Frag} {mg : Str → Option Value} {base : Heap} {x qual : Str} {params : Arguments} {body : List Stmt} {scope : Scope} {dvs : List V} {kws : List (Str × V)} {f : Addr} {dat : FuncData} {N ps : List Str} {A : Around} {outer : List PySem.Env} {s : Shared} {H : Hp}
    {args : Args} {us : List Value} {vs : List V} {Q : VK} {p : Addr × Obj} (F : FunD K x qual params body scope dvs kws f dat) (S : FnScope N ps scope) (hdep : A.depth < recursionLimit) (hpin : L2H.PinOk outer H s p) (e0 : Env0 P w K mg base A outer s H) (hb : BindsTo s dat args (ps.zip us)) (r : Vals vs us) (hl : vs.length = ps.length)
    (hbody : ∀ cdv, ∃ t, PSs (L2H.cxH CX0 P w K mg base N qual scope f cdv A outer s H (fun _ _ _ => False) p) body t ∧ t { nx := fun _ H' => Q .non H', rt := Q } (L2.start N vs) H) :
    codeAny (model P w) A (.call (.ref f) args) (CR CX0 outer P w H s Q fun _ _ _ => False) s := by
  obtain ⟨oc, od, dV, kV, doc, pm, an, cdv, ct, osl, rfl, lk, hcd, _, _⟩ := F.ex
  have KX : K.In s.heap := e0.mod.kin.keeps fun b o e => (e0.bs b o e).1
  have hkind : ∀ y ∈ ps.zip us, scope.names.lookup y.1 = some .local ∨ (scope.names.lookup y.1 = some .cell ∧ ((cellsFrom (s.heap.objs.size + 1) scope.names []).lookup y.1).isSome = true) := fun ⟨n, v⟩ hy =>
    (S.par n (List.of_mem_zip hy).1).imp id fun q => ⟨q, PySem.W.cellsFrom_some _ _ _ (.inl q)⟩
  refine codeAny_call_function hdep (KX _ _ lk) rfl S.co S.gen rfl (PySem.W.codeRec_of KX hcd) (hb _ _ _ _ (wpAny_newFunctionEnv_cells S.kind hkind fun env he s1 x => ?_))
  subst he
  refine ⟨(e0.mod.nolimit.keeps fun b o e => (e0.bs b o e).1).keeps x.toInCall.keep, codeAny_func ?_⟩
  obtain ⟨t, ht, hq⟩ := hbody cdv
  have I : Inv (L2H.cxH CX0 P w K mg base N qual scope f cdv A outer s H (fun _ _ _ => False) p) [] (L2.start N vs) H s1 := L2H.inv_startH S hpin e0 hl r x
  refine wpAny_mono (ht.run [] s1 _ H _ I hq) (fun fl s' hs => ?_) fun e s' hs => hs
  cases fl with
  | ret u =>
    obtain ⟨v, σ', H', J, rv, q⟩ := hs
    exact ⟨v, H', J.os, J.bare, J.base, J.hok, rv, q⟩
  | next =>
    obtain ⟨σ', H', J, q⟩ := hs
    exact ⟨V.non, H', J.os, J.bare, J.base, J.hok, rfl, q⟩
  | brk => obtain ⟨_, _, _, q⟩ := hs; exact q.elim
  | cont => obtain ⟨_, _, _, q⟩ := hs; exact q.elim
/-- the def _law_field -/
structure FldIn (K : PySem.W.Frag) (mg : Str → Option Value) (f : Addr) (dat : FuncData) (qual : Str) (params : Arguments) (body : List Stmt) (scope : Scope) (kws : List (Str × V)) (N ps : List Str) : Prop where
  fun_ : FunD K "_law_field" qual params body scope [] kws f dat
  mg : mg "_law_field" = some (.ref f)
  sc : FnScope N ps scope
  one : ps.length = 1
  chk : chkFd N scope fldRows body = true
  bind : Binds K dat ps []
theorem rows_few : ∀ q ∈ fldRows, q.1.length ≤ 100 := by decide
section
variable {X : Cx} {a C dd : Addr} {oe : Obj} {kvs : List (Str × V)} {t : Tx} {f : Addr} {dat : FuncData} {qual : Str} {params : Arguments} {body : List Stmt} {scope : Scope} {kws : List (Str × V)} {N ps : List Str}
theorem start0 {N : List Str} {v : V} {vs : List V} : (L2.start N (v :: vs))[0]? = some (some v) := rfl
/-- _law_field(e) -/
theorem pe_fcall (Z : XCt X a C dd oe kvs t) (L : FldIn X.K X.mg f dat qual params body scope kws N ps) (hdep : X.A.depth < recursionLimit) (hu : X.A.units + 80 < cLine) {fvs : List V} (hv : FVals X.K C kvs (fldsOf fldRows t) fvs) (hl : fvs.length ≤ 100) {i : Nat} {x : Str} {p q pos : Pos} (hg : Gl X "_law_field")
    (hN : X.N[i]? = some x) (hvis : Vis X.env.scope x) (hd : (x == ("__debug__" : Str)) = false) (hcd : (x == ("__classdict__" : Str)) = false) :
    PE X (.Call (.Name "_law_field" p) [.Name x q] [] pos) (fun σ H Q => σ[i]? = some (some (.ref a)) ∧ H dd = some (.xd kvs) ∧ ∀ p H', Up H H' → H' p = none → Q (.ref p) (upd H' p (.tup fvs))) := by
  refine ⟨fun pins s σ H Q I ⟨k1, k2, k3⟩ => wpAny_Call_Name_kw (ld_glob I hg L.mg ?_ (by decide))⟩
  refine PySem.W.callWith_K (h₀ := X.base) I.ok.mod.kin L.fun_.kp (thn ((pa_cons (pe_var (pos := q) hN hvis hd hcd) pa_nil).run pos pins s σ H (fun vs H1 => vs = [.ref a] ∧ H1 = H) I ⟨_, k1, rfl, rfl⟩) ?_) rfl rfl
  rintro us s1 ⟨vs, H1, I1, r1, rfl, rfl⟩
  refine ⟨I1.kIn, ?_⟩
  have P1 := I1.pin (a, oe) (List.mem_append_left _ Z.pin)
  have hpin : L2H.PinOk X.stack H1 s1 (a, oe) := ⟨P1.1, P1.2.1, fun hm => (List.mem_cons.mp (I1.stkSub a hm)).elim P1.2.2.1 P1.2.2.2.1, P1.2.2.2.2⟩
  have hlen : us.length = ps.length := by rw [← r1.length, L.one]; rfl
  have hb := L.bind s1 us I1.kIn (by rw [List.append_nil]; exact hlen)
  rw [List.append_nil] at hb
  refine wpAny_call (codeAny_mono (call_pin (Q := Q) L.fun_ L.sc hdep hpin I1.env0 hb r1 (by rw [L.one]; rfl) fun cdv => ?_) fun r s' hq => ?_)
  · have Z' : XCt (L2H.cxH CX0 X.prog X.w X.K X.mg X.base N qual scope f cdv X.A X.stack s1 H1 (fun _ _ _ => False) (a, oe)) a C dd oe kvs t := ⟨Z.xf, List.mem_singleton.mpr rfl, Z.zc, Z.dat, Z.code, Z.ok, by show X.A.units + 3 + 64 < _; omega, Z.cno⟩
    exact ⟨_, pss_fd Z' rows_few L.chk hv hl, start0, k2, k3⟩
  · cases r with
    | error e => exact (show False from hq).elim
    | ok fl =>
      cases fl with
      | ret u => exact I1.after hq
      | next => exact False.elim hq
      | brk => exact False.elim hq
      | cont => exact False.elim hq
/-- the suite: return (e.code, _law_field(e)) -/
theorem pss_suite (Z : XCt X a C dd oe kvs t) (L : FldIn X.K X.mg f dat qual params body scope kws N ps) (hdep : X.A.depth < recursionLimit) (hu : X.A.units + 80 < cLine) {fvs : List V} (hv : FVals X.K C kvs (fldsOf fldRows t) fvs) (hl : fvs.length ≤ 100) {i k : Nat} {x : Str} {p1 p2 p3 p4 p5 p6 p7 : Pos} (hg : Gl X "_law_field")
    (hN : X.N[i]? = some x) (hvis : Vis X.env.scope x) (hd : (x == ("__debug__" : Str)) = false) (hcd : (x == ("__classdict__" : Str)) = false) :
    PSs X [.Return (some (.Tuple [.Attribute (.Name x p1) (atStr 1) p2, .Call (.Name "_law_field" p3) [.Name x p4] [] p5] k p6)) p7] (fun D σ H => σ[i]? = some (some (.ref a)) ∧ H dd = some (.xd kvs) ∧
      ∀ p p2 H', Up H H' → H' p = none → upd H' p (.tup fvs) p2 = none → D.rt (.ref p2) (upd (upd H' p (.tup fvs)) p2 (.tup [.str (mkS t), .ref p]))) := by
  have e1 : PE X (.Attribute (.Name x p1) (atStr 1) p2) (fun σ H Q => σ[i]? = some (some (.ref a)) ∧ H dd = some (.xd kvs) ∧ Q (.str (mkS t)) H) :=
    pe_m (pe_xfp Z.xf Z.cno Z.pin Z.zc Z.dat (pe_var (i := i) hN hvis hd hcd) rfl) fun σ H Q ⟨k1, k2, k3⟩ => ⟨.ref a, k1, rfl, rfl, dd, kvs, _, rfl, k2, Z.code, k3⟩
  refine pss_m (pss_one (ps_ret (pe_tup (pa_cons e1 (pa_cons (pe_fcall Z L hdep hu hv hl hg hN hvis hd hcd) pa_nil))))) fun D σ H ⟨k1, k2, q⟩ => ⟨k1, k2, k1, k2, fun p H' u hp => ⟨?_, fun p2 hp2 => q p p2 H' u hp hp2⟩⟩
  rw [sizeLine_eq]
  show 2 ≤ _
  decide
end
end Oh

set_option Elab.async false
set_option linter.all false
set_option maxRecDepth 100000
set_option maxHeartbeats 4000000
set_option autoImplicit false
/-! OhXh: _law_why(lambda: ..) -/
namespace Oh
open PySem L2
variable [Lcl]
/-! ### the lambda is made -/
section
variable {X : Cx} {pins : List (Addr × Obj)} {σ : L2.St} {H : Hp} {s : Shared}
/-- the table grows, a code object is known from now on; or all stays -/
def Grown (H H1 : Hp) (P c' : Addr) (q : Str) (ps : Array Value) (pos : Pos) : Prop := H1 = H ∨ (H c' = none ∧ H1 = upd (upd H P (.tbl (ps ++ #[rawInt pos.line, rawInt pos.col, .ref c']))) c' (LamX.CodeO c' q))
theorem lam_mk {c P : Addr} {ps : Array Value} {q : Str} {params : Arguments} {body : Expr} {scope : Scope} {pos : Pos} {E : Value → Shared → Prop} {Q : Value → Shared → Prop} (I : Inv X pins σ H s) (TB : LamX.TabB X.base X.mg c P) (hcode : X.env.code = .ref c) (hq : X.env.qual ++ "<lambda>" = q)
    (hP : H P = some (.tbl ps)) (ht : TriplesOk ps.toList) (ha : ∀ (pos : Pos) (cv : Value), codeAmong pos ps.toList = some cv → ∃ c, cv = .ref c ∧ H c = some (LamX.CodeO c q)) (hdef : defaultsOf params X.env = ([], [])) (hfree : ∀ y ∈ scope.names, y.2 = .free → ∃ c, X.env.cells.lookup y.1 = some c)
    (h : ∀ (f c' : Addr) (pm ctv : Value) (H1 : Hp) (s' : Shared), Inv X pins σ H1 s' → Grown H H1 P c' q ps pos → s'.heap.get? f = some (PySem.W.kla_obj "<lambda>" q params body scope (cloFrom X.env.cells scope.names []) pm c' ctv) → H1 f = none → f ∉ frs X.stack → H1 c' = some (LamX.CodeO c' q) → Q (.ref f) s') :
    wpAny (model X.prog X.w) X.A (eval (.Lambda params body scope pos) X.env) Q E s := by
  subst hq
  refine PySem.W.kla_eval hdef ?_
  have hP' : s.heap.get? P = some { cls := .none, data := .fields ps } := I.hok P _ hP
  have nofr : ∀ f, s.heap.objs.size ≤ f → f ∉ frs X.stack := fun f hf z =>
    (List.mem_cons.mp (I.stkSub _ z)).elim (fun e => absurd I.lt (by rw [← e]; exact Nat.not_lt.mpr hf)) (I.nofs hf)
  cases hc : codeAmong pos ps.toList with
  | none =>
    refine PySem.W.kla_makeFunction (mg := X.mg) (c := c) (P := P) (ps := ps) (closure_ok hfree) I.ok.glob (I.mod.glob.keeps I.bk) hcode (TB.code.keeps I.bk) hP' ht hc TB.gP (TB.bm.keeps I.bk) ?_
    rintro c' ctv h' tk hx hge hlt ⟨c2, oc, vs, t, e2, hoc, hd, hv⟩ htb
    cases e2
    have hsz : s.heap.objs.size ≤ h'.objs.size := Nat.le_trans hge (Nat.le_of_lt hlt)
    have nC : H c' = none := I.hok.fresh hge
    have I1 := LamX.inv_table (t' := tk) (q := X.env.qual ++ "<lambda>") (more := #[rawInt pos.line, rawInt pos.col, .ref c']) (h' := h'.push (PySem.W.kla_obj "<lambda>" (X.env.qual ++ "<lambda>") params body scope (cloFrom X.env.cells scope.names []) ((X.mg "__name__").getD .none) c' ctv)) I hP
      (fun b o hb e => Heap.get?_push_of_some _ (hx b o hb e)) (Heap.get?_push_of_some _ htb) hge ⟨oc, vs, t, Heap.get?_push_of_some _ hoc, hd, hv⟩
    refine h h'.objs.size c' _ ctv _ _ I1 (.inr ⟨nC, rfl⟩) (Heap.get?_push_size _ rfl) ?_ (nofr _ hsz) upd_same
    rw [upd_ne (Nat.ne_of_gt hlt), upd_ne (Nat.ne_of_gt (Nat.lt_of_lt_of_le (Heap.lt_size hP') hsz))]
    exact I.hok.fresh hsz
  | some cv =>
    obtain ⟨c', rfl, hco⟩ := ha pos cv hc
    refine PySem.W.kla_makeFunctionHit (mg := X.mg) (c := c) (P := P) (ps := ps) (closure_ok hfree) I.ok.glob (I.mod.glob.keeps I.bk) hcode (TB.code.keeps I.bk) hP' ht hc (TB.bm.keeps I.bk) fun ctv h' tk hx hsz => ?_
    exact h h'.objs.size c' _ ctv H _ (I.kept fun b o e => Heap.get?_push_of_some _ (hx b o e)) (.inl rfl) (Heap.get?_push_size _ rfl) (I.hok.fresh hsz) (nofr _ hsz) hco
end
/-- .. as the memory sees it -/
theorem Grown.rel {K : PySem.W.Frag} {ρ : Rh} {m : M} {H H1 : Hp} {P c' : Addr} {q : Str} {ps : Array Value} {pos : Pos} (g : Grown H H1 P c' q ps pos) (r : Rel K ρ m H) (h0 : ρ.c[0]? = some P) (hm : m[0]? = some (.tab q)) (hP : H P = some (.tbl ps)) : Later ρ m H ρ m H1 ∧ Rel K ρ m H1 := by
  rcases g with rfl | ⟨nC, rfl⟩
  · exact ⟨Later.refl .., r⟩
  have liveP : P ∈ lives ρ m := List.mem_append_right _ (lv_get.mpr ⟨0, _, h0, hm, rfl⟩)
  have mP : P ∈ ρ.c := List.mem_of_getElem? h0
  have at_ : ∀ b u, H b = some u → b ≠ P → upd (upd H P (.tbl (ps ++ #[rawInt pos.line, rawInt pos.col, .ref c']))) c' (LamX.CodeO c' q) b = some u := fun b u e n => by rw [upd_ne (ne_of_none e nC), upd_ne n]; exact e
  have ex : Ext (lives ρ m) H (lives ρ m) (upd (upd H P (.tbl (ps ++ #[rawInt pos.line, rawInt pos.col, .ref c']))) c' (LamX.CodeO c' q)) := fun a o e n => ⟨at_ a o e fun z => n (z ▸ liveP), n⟩
  refine ⟨⟨List.prefix_rfl, rfl, ex, fun a ha => ?_⟩, ⟨r.len, r.nd, fun n a c e1 e2 => ?_, fun a ha => ?_⟩⟩
  · obtain ⟨h1, u, e⟩ := r.prv a ha
    rw [at_ a u e fun z => h1 (z ▸ mP), e]
  · by_cases ea : a = P
    · subst ea
      have en : n = 0 := by
        have := (List.getElem?_inj (List.getElem?_eq_some_iff.mp e1).1 r.nd).mp (e1.trans h0.symm)
        exact this
      subst en
      rw [hm] at e2
      cases e2
      obtain ⟨k1, ps', k2, k3, k4⟩ := r.cell 0 a _ h0 hm
      have e3 : ps' = ps := by
        have := k2.symm.trans hP
        cases this
        rfl
      subst e3
      refine ⟨k1, _, by rw [upd_ne (ne_of_none hP nC), upd_same], ?_, fun p' cv hcv => ?_⟩
      · rw [show (ps' ++ #[rawInt pos.line, rawInt pos.col, Value.ref c']).toList = ps'.toList ++ [rawInt pos.line, rawInt pos.col, .ref c'] from by simp]
        exact PySem.TriplesOk_snoc _ _ _ _ k3
      · rw [show (ps' ++ #[rawInt pos.line, rawInt pos.col, Value.ref c']).toList = ps'.toList ++ [rawInt pos.line, rawInt pos.col, .ref c'] from by simp] at hcv
        rcases LamX.among_app _ k3 hcv with z | z
        · obtain ⟨c0, e1, e2, e3⟩ := k4 p' cv z
          exact ⟨c0, e1, e2, at_ c0 _ e3 fun z => e2 (z ▸ liveP)⟩
        · exact ⟨c', z, r.notLive nC, upd_same⟩
    · exact (r.cell n a c e1 e2).ext ex fun u e => at_ a u e ea
  · obtain ⟨h1, u, e⟩ := r.prv a ha
    exact ⟨h1, u, at_ a u e fun z => h1 (z ▸ mP)⟩
end Oh

set_option Elab.async false
set_option linter.all false
set_option maxRecDepth 100000
set_option maxHeartbeats 4000000
set_option autoImplicit false
/-! OhXj: lambdas as tracked objects, also with one parameter that has a number as its default -/
namespace Oh
open PySem PySem.Spec PyProof.Rows L2
variable [Lcl]
theorem LamS2.has {X : Cx} {N : List Str} {bs : List (Str × Int)} {scope : Scope} (L : LamS2 N bs X.env.scope scope) (ok : X.Ok) : ∀ y ∈ scope.names, y.2 = .free → ∃ c, X.env.cells.lookup y.1 = some c := fun y hy e => by
  rcases L.free y hy e with k | k
  · exact ok.has _ (.inl k)
  · exact ok.has _ (.inr k)
/-- the table grows -/
structure Grown2 (H H1 : Hp) (P : Addr) (q : Str) (ps : Array Value) : Prop where
  keep : ∀ b u, H b = some u → b ≠ P → H1 b = some u
  tab : ∃ ps', H1 P = some (.tbl ps') ∧ TriplesOk ps'.toList ∧ ∀ (pos : Pos) (cv : Value), codeAmong pos ps'.toList = some cv → codeAmong pos ps.toList = some cv ∨ ∃ c, cv = .ref c ∧ H c = none ∧ H1 c = some (LamX.CodeO c q)
section
variable {X : Cx} {pins : List (Addr × Obj)} {σ : L2.St} {H : Hp} {s : Shared}
/-- the function object is made, whatever its defaults -/
theorem lam_tail {c P : Addr} {ps : Array Value} {q : Str} {params : Arguments} {body : Expr} {scope : Scope} {pos : Pos} {ln : Nat} {dV : Value} {E : Value → Shared → Prop} {Q : Value → Shared → Prop} (I : Inv X pins σ H s) (TB : LamX.TabB X.base X.mg c P) (hcode : X.env.code = .ref c)
    (hP : H P = some (.tbl ps)) (ht : TriplesOk ps.toList) (ha : ∀ (pos : Pos) (cv : Value), codeAmong pos ps.toList = some cv → ∃ c, cv = .ref c ∧ H c = some (LamX.CodeO c q)) (hfree : ∀ y ∈ scope.names, y.2 = .free → ∃ c, X.env.cells.lookup y.1 = some c)
    (h : ∀ (f c' : Addr) (doc pm ctv : Value) (H1 : Hp) (s' : Shared), Inv X pins σ H1 s' → Grown2 H H1 P q ps → H f = none → H1 f = some (LamO f (PySem.W.kdv_fn "<lambda>" q params (.expr body) scope (cloFrom X.env.cells scope.names []) dV doc pm (.ref c') ctv)) → H1 c' = some (LamX.CodeO c' q) → Q (.ref f) s') :
    wpAny (model X.prog X.w) X.A (makeTail "<lambda>" q params (.expr body) scope X.env dV .none none pos ln) Q E s := by
  have hP' : s.heap.get? P = some { cls := .none, data := .fields ps } := I.hok P _ hP
  cases hc : codeAmong pos ps.toList with
  | none =>
    refine PySem.W.kdv_makeTail (mg := X.mg) (c := c) (P := P) (ps := ps) (closure_ok hfree) I.ok.glob (I.mod.glob.keeps I.bk) hcode (TB.code.keeps I.bk) hP' ht hc TB.gP (TB.bm.keeps I.bk) ?_
    rintro c' ctv doc h' tk hx hge hlt ⟨c2, oc, vs, t, e2, hoc, hd, hv⟩ htb
    cases e2
    have hsz : s.heap.objs.size ≤ h'.objs.size := Nat.le_trans hge (Nat.le_of_lt hlt)
    have nC : H c' = none := I.hok.fresh hge
    have I1 := LamX.inv_table (t' := tk) (q := q) (more := #[rawInt pos.line, rawInt pos.col, .ref c']) (h' := h') I hP (fun b o hb e => hx b o hb e) htb hge ⟨oc, vs, t, hoc, hd, hv⟩
    have I2 := I1.laid (a := h'.objs.size) (t' := tk) (h' := h'.push (PySem.W.kdv_obj "<lambda>" q params (.expr body) scope (cloFrom X.env.cells scope.names []) dV doc ((X.mg "__name__").getD .none) c' ctv)) (o := LamO h'.objs.size (PySem.W.kdv_fn "<lambda>" q params (.expr body) scope (cloFrom X.env.cells scope.names []) dV doc ((X.mg "__name__").getD .none) (.ref c') ctv)) (fun b u e => Heap.get?_push_of_some _ e) (Nat.le_refl _) (lamO_ok (Heap.get?_push_size _ rfl))
    have nF : H h'.objs.size = none := I.hok.fresh hsz
    have fc : h'.objs.size ≠ c' := Nat.ne_of_gt hlt
    have fP : h'.objs.size ≠ P := Nat.ne_of_gt (Nat.lt_of_lt_of_le (Heap.lt_size hP') hsz)
    have cP : c' ≠ P := Nat.ne_of_gt (Nat.lt_of_lt_of_le (Heap.lt_size hP') hge)
    refine h h'.objs.size c' doc _ ctv _ _ I2 ⟨fun b u e n => ?_, ps ++ #[rawInt pos.line, rawInt pos.col, Value.ref c'], ?_, ?_, fun p' cv hcv => ?_⟩ nF upd_same (by rw [upd_ne fc.symm, upd_same])
    · rw [upd_ne (ne_of_none e nF), upd_ne (ne_of_none e nC), upd_ne n]; exact e
    · rw [upd_ne fP.symm, upd_ne cP.symm, upd_same]
    · rw [show (ps ++ #[rawInt pos.line, rawInt pos.col, Value.ref c']).toList = ps.toList ++ [rawInt pos.line, rawInt pos.col, .ref c'] from by simp]
      exact PySem.TriplesOk_snoc _ _ _ _ ht
    · rw [show (ps ++ #[rawInt pos.line, rawInt pos.col, Value.ref c']).toList = ps.toList ++ [rawInt pos.line, rawInt pos.col, .ref c'] from by simp] at hcv
      rcases LamX.among_app _ ht hcv with z | z
      · exact .inl z
      · exact .inr ⟨c', z, nC, by rw [upd_ne fc.symm, upd_same]⟩
  | some cv =>
    obtain ⟨c', rfl, hco⟩ := ha pos cv hc
    refine PySem.W.kdv_makeTailHit (mg := X.mg) (c := c) (P := P) (ps := ps) (closure_ok hfree) I.ok.glob (I.mod.glob.keeps I.bk) hcode (TB.code.keeps I.bk) hP' ht hc (TB.bm.keeps I.bk) fun ctv doc h' tk hx hsz => ?_
    have I1 := I.kept (t' := tk) (h' := h') hx
    have I2 := I1.laid (a := h'.objs.size) (t' := tk) (h' := h'.push (PySem.W.kdv_obj "<lambda>" q params (.expr body) scope (cloFrom X.env.cells scope.names []) dV doc ((X.mg "__name__").getD .none) c' ctv)) (o := LamO h'.objs.size (PySem.W.kdv_fn "<lambda>" q params (.expr body) scope (cloFrom X.env.cells scope.names []) dV doc ((X.mg "__name__").getD .none) (.ref c') ctv)) (fun b u e => Heap.get?_push_of_some _ e) (Nat.le_refl _) (lamO_ok (Heap.get?_push_size _ rfl))
    have nF : H h'.objs.size = none := I.hok.fresh hsz
    refine h h'.objs.size c' doc _ ctv _ _ I2 ⟨fun b u e n => ?_, ps, ?_, ht, fun p' cv hcv => .inl hcv⟩ nF upd_same ?_
    · rw [upd_ne (ne_of_none e nF)]; exact e
    · rw [upd_ne (ne_of_none hP nF)]; exact hP
    · rw [upd_ne (ne_of_none hco nF)]; exact hco
theorem lam_mk2 {c P : Addr} {ps : Array Value} {q : Str} {params : Arguments} {bs : List (Str × Int)} {body : Expr} {scope : Scope} {pos : Pos} {E : Value → Shared → Prop} {Q : Value → Shared → Prop} (I : Inv X pins σ H s) (TB : LamX.TabB X.base X.mg c P) (hcode : X.env.code = .ref c) (hq : X.env.qual ++ "<lambda>" = q)
    (hP : H P = some (.tbl ps)) (ht : TriplesOk ps.toList) (ha : ∀ (pos : Pos) (cv : Value), codeAmong pos ps.toList = some cv → ∃ c, cv = .ref c ∧ H c = some (LamX.CodeO c q)) (hp : lamPs params = some bs) (hfree : ∀ y ∈ scope.names, y.2 = .free → ∃ c, X.env.cells.lookup y.1 = some c)
    (h : ∀ (f c' : Addr) (fd : FuncData) (H1 : Hp) (s' : Shared), Inv X pins σ H1 s' → Grown2 H H1 P q ps → LamFd X.env.cells q params body scope bs H1 f c' fd → H f = none → Q (.ref f) s') :
    wpAny (model X.prog X.w) X.A (eval (.Lambda params body scope pos) X.env) Q E s := by
  subst hq
  unfold lamPs at hp
  split at hp
  · cases hp
    refine PySem.W.kla_eval rfl ?_
    rw [makeFunction_eq]
    refine wpAny_bind (wpAny_pure (wpAny_bind (wpAny_pure (wpAny_bind (wpAny_pure ?_)))))
    exact lam_tail I TB hcode hP ht ha hfree fun f c' doc pm ctv H1 s' I1 gr nf fo co => h f c' _ H1 s' I1 gr ⟨fo, co, ⟨_, doc, pm, ctv, rfl, rfl⟩⟩ nf
  · rename_i d p1 n j1 p2
    split at hp <;> cases hp
    refine PySem.W.kdv_lam rfl rfl (PySem.W.kdv_all1 (thn ((pe_int (X := X) (j := j1) (pos := p2)).run pins s σ H (fun v H1 => v = .int n ∧ H1 = H) I ⟨rfl, rfl⟩) fun u s1 ⟨v, H1, I1, r1, q1⟩ => PySem.W.kdv_all0 ?_))
    obtain ⟨rfl, rfl⟩ := q1
    rw [makeFunction_eq]
    refine wpAny_bind (wpAny_newTextTuple ?_)
    refine wpAny_bind (wpAny_pure (wpAny_bind (wpAny_pure ?_)))
    have nT : H1 s1.heap.objs.size = none := I1.hok.fresh (Nat.le_refl _)
    have I2 := I1.laid (a := s1.heap.objs.size) (t' := s1.toks) (h' := s1.heap.push (PySem.W.kdv_tup [u])) (o := .tup [.int n]) (fun b u e => Heap.get?_push_of_some _ e) (Nat.le_refl _) ⟨by rw [sizeLine_eq]; show 1 ≤ _; decide, [u], .cons r1 .nil, _, Heap.get?_push_size _ rfl, rfl, _, rfl⟩
    have hP2 : upd H1 s1.heap.objs.size (.tup [.int n]) P = some (.tbl ps) := by rw [upd_ne (ne_of_none hP nT)]; exact hP
    refine lam_tail I2 TB hcode hP2 ht (fun pos cv hcv => ?_) hfree fun f c' doc pm ctv H2 s' I3 gr nf fo co => ?_
    · obtain ⟨c0, e1, e2⟩ := ha pos cv hcv
      exact ⟨c0, e1, by rw [upd_ne (ne_of_none e2 nT)]; exact e2⟩
    · have nf' : H1 f = none := by
        by_cases e : f = s1.heap.objs.size
        · rw [e, upd_same] at nf; cases nf
        · rw [upd_ne e] at nf; exact nf
      obtain ⟨k1, ps', k2, k3, k4⟩ := gr
      refine h f c' _ H2 s' I3 ⟨fun b u e nb => k1 b u (by rw [upd_ne (ne_of_none e nT)]; exact e) nb, ps', k2, k3, fun pos cv hcv => ?_⟩ ⟨fo, co, ⟨_, doc, pm, ctv, rfl, _, rfl, k1 _ _ upd_same fun z => ?_⟩⟩ nf'
      · rcases k4 pos cv hcv with z | ⟨c0, e1, e2, e3⟩
        · exact .inl z
        · refine .inr ⟨c0, e1, ?_, e3⟩
          by_cases e : c0 = s1.heap.objs.size
          · rw [e]; exact nT
          · rw [upd_ne e] at e2; exact e2
      · rw [← z, nT] at hP; cases hP
  · cases hp
end
/-- .. as the memory sees it -/
theorem Grown2.rel {K : PySem.W.Frag} {ρ : Rh} {m : M} {H H1 : Hp} {P : Addr} {q : Str} {ps : Array Value} (g : Grown2 H H1 P q ps) (r : Rel K ρ m H) (h0 : ρ.c[0]? = some P) (hm : m[0]? = some (.tab q)) (hP : H P = some (.tbl ps)) : Later ρ m H ρ m H1 ∧ Rel K ρ m H1 := by
  have liveP : P ∈ lives ρ m := List.mem_append_right _ (lv_get.mpr ⟨0, _, h0, hm, rfl⟩)
  have mP : P ∈ ρ.c := List.mem_of_getElem? h0
  have at_ := g.keep
  have ex : Ext (lives ρ m) H (lives ρ m) H1 := fun a o e n => ⟨at_ a o e fun z => n (z ▸ liveP), n⟩
  refine ⟨⟨List.prefix_rfl, rfl, ex, fun a ha => ?_⟩, ⟨r.len, r.nd, fun n a c e1 e2 => ?_, fun a ha => ?_⟩⟩
  · obtain ⟨h1, u, e⟩ := r.prv a ha
    rw [at_ a u e fun z => h1 (z ▸ mP), e]
  · by_cases ea : a = P
    · subst ea
      have en : n = 0 := by
        have := (List.getElem?_inj (List.getElem?_eq_some_iff.mp e1).1 r.nd).mp (e1.trans h0.symm)
        exact this
      subst en
      rw [hm] at e2
      cases e2
      obtain ⟨k1, ps0, k2, k3, k4⟩ := r.cell 0 a _ h0 hm
      have e3 : ps0 = ps := by
        have := k2.symm.trans hP
        cases this
        rfl
      subst e3
      obtain ⟨ps', t1, t2, t3⟩ := g.tab
      refine ⟨k1, ps', t1, t2, fun p' cv hcv => ?_⟩
      rcases t3 p' cv hcv with z | ⟨c0, e1, e2, e3⟩
      · obtain ⟨c0, e1, e2, e3⟩ := k4 p' cv z
        exact ⟨c0, e1, e2, at_ c0 _ e3 fun z => e2 (z ▸ liveP)⟩
      · exact ⟨c0, e1, r.notLive e2, e3⟩
    · exact (r.cell n a c e1 e2).ext ex fun u e => at_ a u e ea
  · obtain ⟨h1, u, e⟩ := r.prv a ha
    exact ⟨h1, u, at_ a u e fun z => h1 (z ▸ mP)⟩
/-! ### a lambda is called -/
/-- the cells of a def are where they were, and nobody tracks them -/
def CellsStay (X : Cx) (h : Heap) (HZ : Hp) (h1 : Heap) : Prop := ∀ x c, X.env.cells.lookup x = some c → HZ c = none ∧ ∀ v, h.IsCell c v → h1.IsCell c v
theorem CellsStay.of_un {X : Cx} {pins : List (Addr × Obj)} {σ : L2.St} {H HZ : Hp} {s : Shared} {h1 : Heap} (I : Inv X pins σ H s) (un : Un (frs X.stack) [] H HZ s.heap h1) : CellsStay X s.heap HZ h1 := fun x c e => by
  have n := I.freeC x c e
  constructor
  · obtain ⟨_, o, eo, _⟩ := I.cell x c e
    exact un.free c o eo n List.not_mem_nil
  · rintro v ⟨o, eo, ed⟩
    obtain ⟨sl, z⟩ := un.any eo n List.not_mem_nil
    exact ⟨_, z, ed⟩
section
variable {cells : List (Str × Addr)} {names : List (Str × NameKind)}
/-- a lambda's closure has the cells of the def around it -/
theorem clo_sub (hf : ∀ y ∈ names, y.2 = .free → ∃ c, cells.lookup y.1 = some c) {x : Str} {c : Addr} (e : (cloFrom cells names []).lookup x = some c) : cells.lookup x = some c ∧ (x, NameKind.free) ∈ names := by
  rcases cloFrom_mem (PySem.mem_of_lookup e) with z | ⟨z, ec⟩
  · exact absurd z List.not_mem_nil
  · refine ⟨?_, z⟩
    obtain ⟨c0, e0⟩ := hf (x, .free) z rfl
    change cells.lookup x = some c0 at e0
    rw [ec, e0, Option.getD_some]
theorem clo_get {x : Str} (h : names.lookup x = some .free) : ∃ c, (cloFrom cells names []).lookup x = some c := mem_lookup (cloFrom_has (PySem.mem_of_lookup h))
end
section
variable {X : Cx} {pins : List (Addr × Obj)} {σ : L2.St} {H HZ : Hp} {s s1 : Shared}
/-- a name that the lambda sees is one of the def's, in a cell -/
theorem lam_sees {N : List Str} {bs : List (Str × Int)} {sc scope : Scope} (L : LamS2 N bs sc scope) {i : Nat} {x : Str} (hi : N[i]? = some x) (hv : Vis scope x) : scope.names.lookup x = some .free ∧ (sc.names.lookup x = some .cell ∨ sc.names.lookup x = some .free) := by
  rcases hv with z | z | z
  · exact absurd (List.mem_of_getElem? hi) ((L.own _ (PySem.mem_of_lookup z)).1 rfl)
  · exact absurd rfl (L.own _ (PySem.mem_of_lookup z)).2
  · exact ⟨z, L.free _ (PySem.mem_of_lookup z) rfl⟩
theorem lam_start3 {A : Around} {outer : List PySem.Env} {E : XK} {scope : Scope} {bs : List (Str × Int)} {f c' : Addr} {h2 : Heap} {tk : Nat} {binds : List (Str × Value)} (I : Inv X pins σ H s) (L : LamS2 X.N bs X.env.scope scope) (e0 : Env0 X.prog X.w X.K X.mg X.base A outer s1 HZ) (hd : A.handled = none)
    (stay : CellsStay X s.heap HZ s1.heap) (hns : h2.Ns s1.heap.objs.size fun y => binds.reverse.lookup y) (kp : ∀ b o, s1.heap.get? b = some o → h2.get? b = some o) :
    Inv (LamX.lamCx X A outer s1 HZ E scope f c') [] σ HZ { s1 with heap := h2, toks := tk } := by
  have sub := fun {x c} => clo_sub (cells := X.env.cells) (names := scope.names) (L.has I.ok) (x := x) (c := c)
  have up : ∀ {c v}, s1.heap.IsCell c v → h2.IsCell c v := fun ⟨o, e1, e2⟩ => ⟨o, kp _ _ e1, e2⟩
  exact {
    ok := {
      mod := e0.mod
      kind := L.kind
      glob := rfl
      blt := rfl
      above := Nat.le_refl _
      inj := fun x y c e1 e2 => I.ok.inj x y c (sub e1).1 (sub e2).1
      has := fun x hx => hx.elim (fun z => absurd rfl (L.own _ (PySem.mem_of_lookup (show scope.names.lookup x = some .cell from z))).2) clo_get
      cab := fun x c z => Bool.noConfusion (show false = true from z)
      hd := fun _ => hd
      frames := Around.frames_deeper e0.frames
      stk := .inr ⟨rfl, rfl⟩
      exf := fun b z => absurd (show b ∈ ([] : List Addr) from z) List.not_mem_nil
      bs := e0.bs
      bsz := e0.bsz
      noex := fun b o _ z => absurd (show b ∈ ([] : List Addr) from z) List.not_mem_nil
      exfs := fun b z => absurd (show b ∈ ([] : List Addr) from z) List.not_mem_nil
      funs := e0.funs
      frf := e0.frf }
    os := rfl
    bare := e0.bare
    base := Un.kept kp
    loc := ⟨_, hns, fun i x v hi hs hx => by
      obtain ⟨z, out⟩ := lam_sees L hi hx
      obtain ⟨m0, _, sees⟩ := I.loc
      obtain ⟨u, ru, at_⟩ := sees i x v hi hs (.inr out)
      obtain ⟨c, ec⟩ := clo_get (cells := X.env.cells) z
      obtain ⟨e1, _⟩ := sub ec
      refine ⟨u, ru, .inr ⟨.inr z, c, ec, ?_⟩⟩
      rcases at_ with ⟨lo, _⟩ | ⟨_, c1, e2, isc⟩
      · have lo : X.env.scope.names.lookup x = some .local := lo
        rw [lo] at out
        rcases out with z | z <;> cases z
      · cases e1.symm.trans e2
        exact up ((stay x _ e1).2 _ isc)⟩
    cell := fun x c e => by
      obtain ⟨v, isc⟩ := I.cell x c (sub e).1
      exact ⟨v, up ((stay x c (sub e).1).2 v isc)⟩
    free := e0.hok.fresh (Nat.le_refl _)
    freeC := fun x c e => (stay x c (sub e).1).1
    pin := fun p z => absurd (show p ∈ ([] : List (Addr × Obj)) from z) List.not_mem_nil
    hok := e0.hok.kept kp
    len := I.len }
/-- what its call binds -/
theorem lam_binds {q : Str} {params : Arguments} {body : Expr} {scope : Scope} {bs : List (Str × Int)} {cls : List (Str × Addr)} {f c' : Addr} {fd : FuncData} {P : Program} {w : World} (F : LamFd cls q params body scope bs HZ f c' fd) (hp : lamPs params = some bs) (hok : HOk P w HZ s1.heap) : ∃ binds, BindsTo s1 fd ⟨[], []⟩ binds ∧ binds.map (·.1) = bs.map (·.1) := by
  obtain ⟨dV, doc, pm, ctv, rfl, hd⟩ := F.is
  unfold lamPs at hp
  split at hp
  · cases hp
    obtain rfl : dV = .none := hd
    exact ⟨[], BindsTo.of_eq rfl, rfl⟩
  · rename_i d p1 n j1 p2
    split at hp <;> cases hp
    rename_i hdn
    obtain ⟨t, rfl, ht⟩ := hd
    obtain ⟨_, its, hv, o, ho, _, k, hs⟩ := hok t _ ht
    match its, hv with
    | [u], _ =>
      have hdn : d = "_law_a" ∨ d = "_law_b" ∨ d = "_law_c" ∨ d = "_law_d" ∨ d = "_law_f" ∨ d = "_law_g" := by simpa [lamNames] using hdn
      refine ⟨[(d, u)], ?_, rfl⟩
      rcases hdn with rfl | rfl | rfl | rfl | rfl | rfl <;> exact BindsTo.of_defaults rfl ho hs rfl rfl
  · cases hp
/-- the lambda runs, called from the frames outer -/
theorem lam_code {f c' : Addr} {fd : FuncData} {params : Arguments} {bs : List (Str × Int)} {body : Expr} {scope : Scope} {k : Nat} {E : XK} {tb : TE} {Q : VK} {A : Around} {outer : List PySem.Env} {q : Str}
    (I : Inv X pins σ H s) (L : LamS2 X.N bs X.env.scope scope) (hp : lamPs params = some bs) (hq : X.env.qual ++ "<lambda>" = q) (e0 : Env0 X.prog X.w X.K X.mg X.base A outer s1 HZ) (lim : s1.heap.NoLimit) (hr : Room (k + 1) A) (stay : CellsStay X s.heap HZ s1.heap)
    (F : LamFd X.env.cells q params body scope bs HZ f c' fd) (ht : tb σ HZ Q)
    (hbody : ∀ (A : Around) (outer : List PySem.Env) (s : Shared) (H : Hp), Room k (A.deeper (LamX.lamEnv X scope s.heap.objs.size f c')) → PE (LamX.lamCx X A outer s H E scope f c') body tb) :
    codeAny (model X.prog X.w) A (.call (.ref f) ⟨[], []⟩) (CR (L2.CX X.prog X.w) outer X.prog X.w HZ s1 Q E) s1 := by
  subst hq
  obtain ⟨binds, hb, names⟩ := lam_binds (s1 := s1) F hp e0.hok
  obtain ⟨⟨oc, vs, t, oc1, oc2, oc3⟩, _, _⟩ := e0.hok c' _ F.co
  have fo := (e0.hok f _ F.fo).1
  obtain ⟨dV, doc, pm, ctv, rfl, _⟩ := F.is
  refine PySem.W.kla_callFunE hr.depth fo rfl L.co L.gen rfl ⟨c', oc, vs, t, rfl, oc1, oc2, oc3⟩ (hb _ _ _ _ (wpAny_newFunctionEnv (fun y hy => (L.own y hy).2) (fun y hy => ?_) (fun h2 hns same => ⟨lim.fresh _ same, ?_⟩) L.kind))
  · obtain ⟨b, hb1, hb2⟩ := List.mem_map.mp (names ▸ List.mem_map.mpr ⟨y, hy, rfl⟩ : y.1 ∈ bs.map (·.1))
    exact hb2 ▸ L.par b hb1
  · have kp : ∀ b o, s1.heap.get? b = some o → h2.get? b = some o := fun b o e => same.extBut b o (fun z => Nat.lt_irrefl _ (z ▸ Heap.lt_size e)) (Heap.get?_push_of_some _ e)
    refine PySem.W.kla_codeExpr (wpAny_mono ((hbody A outer s1 HZ (hr.deeper _)).run [] _ σ HZ Q (lam_start3 I L e0 hr.hd stay hns kp) ht) ?_ fun _ _ z => z)
    rintro v s2 ⟨w, H2, J, rv, qv⟩
    exact ⟨w, H2, J.os, J.bare, J.base, J.hok, rv, qv⟩
/-- x(), in a def that got the lambda: that def was entered at s2 -/
theorem act2 {CXg : CXT} {Eg : XK} {Ng : List Str} {qg : Str} {sg : Scope} {g f c' : Addr} {fd : FuncData} {cdg : Value} {params : Arguments} {bs : List (Str × Int)} {body : Expr} {scope : Scope} {k i : Nat} {a : Str} {pn : List (Addr × Obj)} {xe : Value → Shared → Prop} {W : WX} {E : XK} {tb : TE} {p1 p2 : Pos} {A2 : Around} {stk2 : List PySem.Env} {s2 : Shared} {H2 : Hp} {q : Str}
    (I : Inv X pins σ H s) (L : LamS2 X.N bs X.env.scope scope) (hp : lamPs params = some bs) (hq : X.env.qual ++ "<lambda>" = q) (hun : ∀ HZ h1, Un (frs stk2) [] H2 HZ s2.heap h1 → CellsStay X s.heap HZ h1)
    (tk : Takes ((cxOf CXg X.prog X.w X.K X.mg X.base Ng qg sg g cdg A2 stk2 s2 H2 Eg).tr pn xe) W) (hW : ∀ cls d σ' H', E cls d H' → W cls d σ' H') (hr : Room (k + 1) (A2.deeper (envOfC qg sg s2.heap.objs.size g cdg)))
    (hbody : ∀ (A : Around) (outer : List PySem.Env) (s : Shared) (H : Hp), Room k (A.deeper (LamX.lamEnv X scope s.heap.objs.size f c')) → PE (LamX.lamCx X A outer s H E scope f c') body tb)
    (hN : Ng[i]? = some a) (hv : Vis sg a) (hd : (a == ("__debug__" : Str)) = false) (hcd : (a == ("__classdict__" : Str)) = false) :
    PE ((cxOf CXg X.prog X.w X.K X.mg X.base Ng qg sg g cdg A2 stk2 s2 H2 Eg).tr pn xe) (.Call (.Name a p1) [] [] p2)
      (fun σZ HZ Q => σZ[i]? = some (some (.ref f)) ∧ LamFd X.env.cells q params body scope bs HZ f c' fd ∧ tb σ HZ Q) := by
  refine ⟨fun pinsZ sZ σZ HZ Q IZ ⟨at_, F, ht⟩ => wpAny_Call_Name_kw (thn ((pe_var (pos := p1) hN hv hd hcd).run pinsZ sZ σZ HZ (fun v H1 => v = .ref f ∧ H1 = HZ) IZ ⟨_, at_, rfl, rfl⟩) ?_)⟩
  rintro u s1 ⟨_, _, I1, rv, rfl, rfl⟩
  obtain rfl : u = Value.ref f := rv
  have fo := (I1.hok f _ F.fo).1
  have run := lam_code I L hp hq I1.env0 I1.nolimit hr (hun _ _ I1.base) F ht hbody
  obtain ⟨dV, doc, pm, ctv, rfl, _⟩ := F.is
  refine PySem.W.callWith_F0 ⟨_, _, _, _, fo⟩ (wpAny_call (codeAny_mono run fun r s3 hq => ?_))
  match r, hq with
  | .error e, hq => exact passes_call tk hW pinsZ σZ _ s1 e s3 I1 hq
  | .ok (.ret u), hq => exact I1.after hq
  | .ok .next, hq => exact False.elim hq
  | .ok .brk, hq => exact False.elim hq
  | .ok .cont, hq => exact False.elim hq
end
end Oh

set_option Elab.async false
set_option linter.all false
set_option maxRecDepth 100000
set_option maxHeartbeats 4000000
set_option autoImplicit false
/-! OhXi: _law_why(lambda: ..), by the evaluator -/
namespace Oh
open PySem L2
variable [Lcl]
/-- the name of a def's lambdas -/
def lamQ (qual : Str) : Str := qual ++ "<lambda>"
/-- the def that makes lambdas, its table -/
structure LamAt (X : Cx) (q : Str) : Prop where
  ex : ∃ c, X.env.code = .ref c ∧ LamX.TabB X.base X.mg c (tabP X.K) ∧ lamQ X.env.qual = q
/-- _law_why's body -/
def chkWs (N : List Str) (sc : Scope) (n : Str) : List Stmt → Bool
  | [.Return (some (.Tuple [.Attribute (.Name n1 _) cd _, .Call (.Name fl _) [.Name n2 _] [] _] _ _)) _] => decide (n1 = n) && (decide (n2 = n) && (decide (cd = atStr 1) && (decide (fl = ("_law_field" : Str)) && glB sc fl)))
  | _ => false
def chkWb (N : List Str) (sc : Scope) : List Stmt → Bool
  | [.Return (some (.Tuple [.Constant (.str told) _ _, .Call (.Name ask _) [] [] _] _ _)) _] => decide (told = mkS toldT) && (decide (N[0]? = some ask) && (visB sc ask && dbg ask))
  | _ => false
def chkWhy (N : List Str) (sc : Scope) : List Stmt → Bool
  | [.Try body [.ExceptHandler (some (.Tuple [.Name x1 _, .Name x2 _, .Name x3 _] _ _)) (some n) suite _] [] [] _] => chkWb N sc body && (decide (x1 = clsStr 0) && (decide (x2 = clsStr 1) && (decide (x3 = clsStr 20) && (glB sc x1 && (glB sc x2 && (glB sc x3 && (decide (N[1]? = some n) && (isLoc sc n && (dbg n && chkWs N sc n suite)))))))))
  | _ => false
structure WhyIn (K : PySem.W.Frag) (mg : Str → Option Value) (f : Addr) (dat : FuncData) (qual : Str) (params : Arguments) (body : List Stmt) (scope : Scope) (kws : List (Str × V)) (N : List Str) (a : Str) : Prop where
  fun_ : FunD K "_law_why" qual params body scope [] kws f dat
  mgw : mg "_law_why" = some (.ref f)
  sc : FnScope N [a] scope
  fst : N[0]? = some a
  chk : chkWhy N scope body = true
  bind : Binds K dat [a] []
  c0 : mg (clsStr 0) = some (.ref (He.ga K (clsStr 0)))
  c1 : mg (clsStr 1) = some (.ref (He.ga K (clsStr 1)))
  c20 : mg (clsStr 20) = some (.ref (He.ga K (clsStr 20)))
abbrev whyCs (K : PySem.W.Frag) : List Value := [.ref (He.ga K (clsStr 0)), .ref (He.ga K (clsStr 1)), .ref (He.ga K (clsStr 20))]
structure WhyAt (K : PySem.W.Frag) (mg : Str → Option Value) (G : Nat → Option D) : Prop where
  why : ∃ f dat qual params body scope kws N a, WhyIn K mg f dat qual params body scope kws N a
  fld : ∃ f dat qual params body scope kws N ps, FldIn K mg f dat qual params body scope kws N ps
  xcs : ∀ c, isXc (G (mnum c 0)) = true → XcAt K mg c
  exm : ∀ c, isXc (G (mnum c 0)) = true → PySem.W.exmAny K (.ref (He.ga K (clsStr c))) (whyCs K) = some true
theorem fld_vals {K : PySem.W.Frag} {L : List Addr} {H : Hp} {C : Addr} {kvs : List (Str × V)} {fs : List (Nat × D)} {c : Nat} (hno : ∀ f ∈ fieldsOf c, PySem.W.findIn K (.ref C) (atStr f) = some none) (hat : ∀ f ∈ fieldsOf c, f < manyAt) (r : FReps K L H kvs fs) :
    ∀ {l : List Nat} {ds : List D}, fldAll c fs l = some ds → ∃ vs, FVals K C kvs l vs ∧ Reps K L H vs ds
  | [], ds, h => by cases h; exact ⟨[], trivial, .nil⟩
  | f :: l, ds, h => by
    unfold fldAll at h
    split at h
    · rename_i hc
      have hc : f ∈ fieldsOf c := by simpa using hc
      obtain ⟨d, e1, h⟩ := Option.bind_eq_some_iff.mp h
      obtain ⟨ds', e2, rfl⟩ := Option.map_eq_some_iff.mp h
      obtain ⟨vs, k1, k2⟩ := fld_vals hno hat r e2
      rcases r.get (hat f hc) with ⟨z, _⟩ | ⟨d', v, z1, z2, z3⟩
      · rw [z] at e1; cases e1
      · rw [z1] at e1
        cases e1
        exact ⟨v :: vs, ⟨hno f hc, z2, k1⟩, .cons z3 k2⟩
    · cases h
theorem fvals_len {K : PySem.W.Frag} {C : Addr} {kvs : List (Str × V)} : ∀ {l : List Nat} {vs : List V}, FVals K C kvs l vs → vs.length = l.length
  | [], [], _ => rfl
  | _ :: _, _ :: _, h => congrArg (· + 1) (fvals_len h.2.2)
  | [], _ :: _, h => h.elim
  | _ :: _, [], h => h.elim
theorem flds_few {t : Tx} : ∀ rows : List (List Nat × List Nat), (∀ q ∈ rows, q.2.length ≤ 100) → (fldsOf rows t).length ≤ 100
  | [], _ => Nat.zero_le _
  | q :: r, h => by
    unfold fldsOf
    split
    · exact h q List.mem_cons_self
    · exact flds_few r fun q hq => h q (List.mem_cons_of_mem _ hq)
theorem told_ok : okT toldT := fun c hc => by
  have h : ∀ c ∈ toldT, c < 1114112 := by decide
  exact h c hc
theorem whyX_ok {G : Nat → Option D} {c : Nat} {fs : List (Nat × D)} {r : D} (h : whyX G (.ins c fs) = some r) : isXc (G (mnum c 0)) = true ∧ ∃ t ds, fs.lookup 1 = some (.str t) ∧ fldAll c fs (fldsOf fldRows t) = some ds ∧ r = .tup [.str t, .tup ds] := by
  unfold whyX at h
  simp only [] at h
  by_cases hX : isXc (G (mnum c 0)) = true
  · rw [if_pos hX] at h
    split at h
    · rename_i t et
      obtain ⟨ds, ed, rfl⟩ := Option.map_eq_some_iff.mp h
      exact ⟨hX, t, ds, et, ed, rfl⟩
    · cases h
  · rw [if_neg hX] at h
    cases h
theorem rows_few2 : ∀ q ∈ fldRows, q.2.length ≤ 100 := by decide
/-! ### the call -/
/-- what is wished of an error in the lambda -/
def Ech (K : PySem.W.Frag) (Q : VK) : XK := fun cls d H => PySem.W.exmAny K cls (whyCs K) = some true ∧ ∃ (C dd : Addr) (kvs : List (Str × V)) (t : Tx) (fvs : List V), cls = .ref C ∧ d = some dd ∧ XfC K C ∧ PySem.W.findIn K (.ref C) (atStr 1) = some none ∧
  kvs.lookup (atStr 1) = some (V.str (mkS t)) ∧ okT t ∧ FVals K C kvs (fldsOf fldRows t) fvs ∧ fvs.length ≤ 100 ∧ H dd = some (.xd kvs) ∧
  ∀ p p2 H', Up H H' → H' p = none → upd H' p (.tup fvs) p2 = none → Q (.ref p2) (upd (upd H' p (.tup fvs)) p2 (.tup [.str (mkS t), .ref p]))
def tsWhy (K : PySem.W.Frag) (Q : VK) (a : Addr) (cls : Value) (d : Option Addr) : TS := fun D σ H => (∃ σ0 : L2.St, σ = σ0.set 1 (some (.ref a))) ∧ (∀ v H, Q v H → D.rt v H) ∧ Ech K Q cls d H
section
variable {X : Cx} {W : WX}
/-- the def _law_why, called with the lambda at f -/
theorem why_body {N : List Str} {bg : List Stmt} {sg : Scope} {qg : Str} {g f : Addr} {cdg : Value} {s : Shared} {H : Hp} {Q : VK} {Φ : Hp → Prop} {ps : List Str} {fF : Addr} {datF : FuncData} {qualF : Str} {paramsF : Arguments} {bodyF : List Stmt} {scopeF : Scope} {kwsF : List (Str × V)} {NF : List Str}
    (hN : N.Nodup) (chk : chkWhy N sg bg = true) (L : FldIn X.K X.mg fF datF qualF paramsF bodyF scopeF kwsF NF ps) (c0 : X.mg (clsStr 0) = some (.ref (He.ga X.K (clsStr 0)))) (c1 : X.mg (clsStr 1) = some (.ref (He.ga X.K (clsStr 1)))) (c20 : X.mg (clsStr 20) = some (.ref (He.ga X.K (clsStr 20))))
    (hdep : X.A.depth + 3 < recursionLimit) (hu : X.A.units + 100 < cLine) (tl : XK → Hp → VK → Prop) (tlm : ∀ E H Q Q', (∀ v H, Q v H → Q' v H) → tl E H Q → tl E H Q')
    (act : ∀ (a : Str) (W : WX) (pn : List (Addr × Obj)) (xe : Value → Shared → Prop) (E : XK) (p1 p2 : Pos), N[0]? = some a → Vis sg a → (a == ("__debug__" : Str)) = false → (a == ("__classdict__" : Str)) = false → Takes ((cxOf CX0 X.prog X.w X.K X.mg X.base N qg sg g cdg X.A X.stack s H (fun _ _ _ => False)).tr pn xe) W → (∀ cls d σ' H', E cls d H' → W cls d σ' H') →
      PE ((cxOf CX0 X.prog X.w X.K X.mg X.base N qg sg g cdg X.A X.stack s H (fun _ _ _ => False)).tr pn xe) (.Call (.Name a p1) [] [] p2) (fun σZ HZ Q => σZ[0]? = some (some (.ref f)) ∧ Φ HZ ∧ tl E HZ Q))
    (hc : Φ H) (h : tl (Ech X.K Q) H fun v H2 => ∀ p, H2 p = none → Q (.ref p) (upd H2 p (.tup [.str (mkS toldT), v]))) :
    ∃ t, PSs (cxOf CX0 X.prog X.w X.K X.mg X.base N qg sg g cdg X.A X.stack s H (fun _ _ _ => False)) bg t ∧ t { nx := fun _ H' => Q .non H', rt := Q } (L2.start N [.ref f]) H := by
  unfold chkWhy at chk
  split at chk
  · rename_i body x1 p1 x2 p2 x3 p3 k tp n suite pos' pos
    simp only [Bool.and_eq_true, decide_eq_true_eq] at chk
    obtain ⟨hb, rfl, rfl, rfl, g0, g1, g20, h1, h2, h3, hs⟩ := chk
    unfold chkWs at hs
    split at hs
    · rename_i n1 q1 cd q2 fl q3 n2 q4 q5 k2 q6 q7
      simp only [Bool.and_eq_true, decide_eq_true_eq] at hs
      obtain ⟨rfl, rfl, rfl, rfl, g2⟩ := hs
      unfold chkWb at hb
      split at hb
      · rename_i told j1 r1 ask r2 r3 k3 r4 r5
        simp only [Bool.and_eq_true, decide_eq_true_eq] at hb
        obtain ⟨rfl, b1, b2, b3⟩ := hb
        have hln : sg.names.lookup n2 = some .local := by
          unfold isLoc at h2
          split at h2
          · assumption
          · cases h2
        have hlt : 1 < N.length := (List.getElem?_eq_some_iff.mp h1).1
        refine ⟨_, pss_one (ps_try3 (X := cxOf CX0 X.prog X.w X.K X.mg X.base N qg sg g cdg X.A X.stack s H (fun _ _ _ => False)) (i := 1) (ts := tsWhy X.K Q)
          (tb := fun W D σ H => ∃ E : XK, (∀ cls d σ' H', E cls d H' → W cls d σ' H') ∧ σ[0]? = some (some (.ref f)) ∧ Φ H ∧ tl E H fun v H2 => ∀ p, H2 p = none → D.rt (.ref p) (upd H2 p (.tup [.str (mkS toldT), v])))
          rfl rfl hN h1 hln ⟨xgl g0, by decide, .inl c0⟩ ⟨xgl g1, by decide, .inl c1⟩ ⟨xgl g20, by decide, .inl c20⟩ (fun W pn xe tk => ?_) (fun a oe cls d pn hz hf => ?_)), ?_⟩
        · refine ⟨fun pins s' σ H' D I ⟨E, hW, k1, k2, k3⟩ => ?_⟩
          have A := act ask W pn xe E r2 r3 b1 (xvis b2) (xdbg b3).1 (xdbg b3).2 tk hW
          refine (pss_one (ps_ret (pe_tup (pa_cons pe_str (pa_cons A pa_nil))))).run pins s' σ H' D I ⟨k1, k2, tlm _ _ _ _ (fun v H2 z => ⟨by rw [sizeLine_eq]; show 2 ≤ _; decide, z⟩) k3⟩
        · refine ⟨fun pins s' σ H' D I ⟨⟨σ0, e0⟩, hD, hm, C, dd, kvs, t, fvs, e1, e2, xf, cno, hcode, ok, hv, hl, hdd, hQ⟩ => ?_⟩
          subst e1 e2
          have Z : XCt ((cxOf CX0 X.prog X.w X.K X.mg X.base N qg sg g cdg X.A X.stack s H (fun _ _ _ => False)).suite a ((a, oe) :: pn)) a C dd oe kvs t := ⟨xf, List.mem_cons_self, hz, hf, hcode, ok, by show X.A.units + 3 + 64 < _; omega, cno⟩
          have hslot : σ[1]? = some (some (V.ref a)) := by
            have hl := I.len
            rw [e0, List.length_set] at hl
            rw [e0, List.getElem?_set_self (by rw [hl]; exact hlt)]
          refine (pss_suite Z L (by show X.A.depth + 1 < _; omega) (by show X.A.units + 3 + 80 < _; omega) hv hl (xgl g2) h1 (.inl hln) (xdbg h3).1 (xdbg h3).2).run pins s' σ H' D I ⟨hslot, hdd, fun p p2 H2 u hp hp2 => hD _ _ (hQ p p2 H2 u hp hp2)⟩
        · exact ⟨Ech X.K Q, fun cls d σ' H' hE => ⟨hE.1, fun a _ => ⟨⟨σ', rfl⟩, fun _ _ z => z, hE⟩⟩, rfl, hc, h⟩
      · cases hb
    · cases hs
  · cases chk
theorem tE_mono {K : PySem.W.Frag} {W : WX} {r : Env → M → Res Oh.W} {σ : L2.St} {H : Hp} {Q Q' : VK} (hQ : ∀ v H, Q v H → Q' v H) (h : tE K W r σ H Q) : tE K W r σ H Q' := by
  obtain ⟨ρ, s, m, B, k⟩ := h
  exact ⟨ρ, s, m, B, k.mono (fun _ _ z => z) fun a m' z b ρ' H' l r q => hQ _ _ (z b ρ' H' l r q)⟩
theorem s_why {G : Nat → Option D} {q : Str} {params : Arguments} {body : Expr} {scope : Scope} {lpos p pos : Pos} {k : Nat} {bs : List (Str × Int)} {ra : Env → M → Res Oh.W} (Y : WhyAt X.K X.mg G) (La : LamAt X q) (S : LamS2 X.N bs X.env.scope scope) (hna : lamPs params = some bs) (hg : Gl X "_law_why") (hr : Room (k + 2) X.A)
    (hat : ∀ c, isXc (G (mnum c 0)) = true → ∀ f ∈ fieldsOf c, f < manyAt)
    (hbody : ∀ (A : Around) (outer : List PySem.Env) (s : Shared) (H : Hp) (E : XK) (f c' : Addr), Room k (A.deeper (LamX.lamEnv X scope s.heap.objs.size f c')) → PE (LamX.lamCx X A outer s H E scope f c') body (tE X.K (fun cls d _ H' => E cls d H') ra)) :
    PE X (.Call (.Name "_law_why" p) [.Lambda params body scope lpos] [] pos) (tE X.K W fun s m => (tabOk q m).bind fun _ m1 => whyEnd G m.length (ra s m1)) := by
  refine ⟨fun pins s σ H Q I ⟨ρ, st, m, B, kk⟩ => ?_⟩
  have k0 : Aft (Wish X.K W ρ m H σ) ((tabOk q m).bind fun _ m1 => whyEnd G m.length (ra st m1)) (Got X.K ρ m H Q) := kk
  clear kk
  obtain ⟨hm, k1⟩ : m[0]? = some (.tab q) ∧ Aft (Wish X.K W ρ m H σ) (whyEnd G m.length (ra st m)) (Got X.K ρ m H Q) := by
    unfold tabOk at k0
    split at k0
    · rename_i q' e
      split at k0
      · rename_i e2
        subst e2
        exact ⟨e, k0⟩
      · exact k0.elim
    · exact k0.elim
  obtain ⟨f, dat, qual, pg, bg, sg, kws, N, a, Wy⟩ := Y.why
  obtain ⟨fF, datF, qualF, paramsF, bodyF, scopeF, kwsF, NF, psF, Fl⟩ := Y.fld
  obtain ⟨c, hcode, TB, hq⟩ := La.ex
  unfold lamQ at hq
  have hlen : 0 < ρ.c.length := by rw [B.rel.len]; exact (List.getElem?_eq_some_iff.mp hm).1
  obtain ⟨eP, ps, hP, ht, ha⟩ := B.rel.cell 0 _ _ (List.getElem?_eq_getElem hlen) hm
  have h0 : ρ.c[0]? = some (tabP X.K) := by rw [List.getElem?_eq_getElem hlen, eP]
  rw [eP] at hP
  refine wpAny_Call_Name_kw (ld_glob I hg Wy.mgw ?_ (by decide))
  refine PySem.W.callWith_K (h₀ := X.base) I.ok.mod.kin Wy.fun_.kp ?_ rfl rfl
  show wpAny _ _ (spliced ((false, eval (.Lambda params body scope lpos) X.env) :: backTo pos (starEach [] X.env))) _ _ s
  refine Calls.spliced_cons (lam_mk2 I TB hcode hq hP ht (fun pos cv z => by obtain ⟨c, e1, _, e2⟩ := ha pos cv z; exact ⟨c, e1, e2⟩) hna (S.has I.ok) ?_)
  intro fl c' fd H1 s' I1 gr hF hfn
  refine Calls.spliced_nil ⟨I1.kIn, ?_⟩
  obtain ⟨l01, r1⟩ := gr.rel B.rel h0 hm hP
  obtain ⟨oc, od, dV, kV, doc, pm, an, cdv, ct, osl, rfl, lk, hcd, _, _⟩ := Wy.fun_.ex
  have rc : codeAny (model X.prog X.w) X.A (.call (.ref f) ⟨[.ref fl], []⟩) (CR CX0 X.stack X.prog X.w H1 s' Q fun _ _ _ => False) s' := by
    refine LamX.run_ofS (N := N) (ps := [a]) (us := [.ref fl]) (vs := [.ref fl]) lk hcd Wy.sc hr I1.env0 (Wy.bind s' [.ref fl] I1.kIn rfl) (.cons rfl .nil) rfl fun hr' => ?_
    have hd := hr.dp
    have hu := hr.un
    refine why_body (Φ := fun HZ => LamFd X.env.cells q params body scope bs HZ fl c' fd) Wy.sc.nd Wy.chk Fl Wy.c0 Wy.c1 Wy.c20 (by omega) (by omega) (fun E H' Q' => tE X.K (fun cls d _ H' => E cls d H') ra σ H' Q') (fun E H Q Q' hQ z => tE_mono hQ z) (fun a W pn xe E p1 p2 hN hv d1 d2 tk hW => ?_) hF ?_
    · exact act2 (i := 0) I1 S hna hq (fun _ _ z => CellsStay.of_un I1 z) tk hW hr' (fun A outer s H hr2 => hbody A outer s H E fl c' hr2) hN hv d1 d2
    · refine ⟨ρ, st, m, B.later l01 r1, ?_⟩
      cases e : ra st m with
      | bad => rw [e] at k1; exact k1.elim
      | ok w m2 =>
        rw [e] at k1
        cases w with
        | c n => exact k1.elim
        | p d =>
          intro v ρ2 H2 l12 r2 pw p hp
          have l2 : Later ρ2 m2 H2 ρ2 m2 (upd H2 p (.tup [.str (mkS toldT), v])) := later_upd r2 hp
          obtain ⟨lt, rt, ext⟩ := trunc B.rel (l01.trans (l12.trans l2)) (r2.upd hp)
          refine k1 (.ref p) ρ _ lt rt (.tup (.inl ⟨(ext p _ upd_same (r2.notLive hp)).2, upd_same⟩) (.cons (.str _ told_ok) (.cons (Rep.ext ext (Rep.ext l2.ext pw)) .nil)))
      | exc x m2 =>
        rw [e] at k1
        intro cls d ρ2 H2 l12 r2 xr
        obtain ⟨c2, fs, dx, kvs, rfl, rfl, rfl, nx, hdx, fr⟩ := xr
        unfold whyEnd at k1
        cases ew : whyX G (.ins c2 fs) with
        | none => simp only [ew] at k1; exact k1.elim
        | some dd =>
          simp only [ew] at k1
          obtain ⟨hX, t, ds, et, ed, rfl⟩ := whyX_ok ew
          obtain ⟨fd, B1, newId, initId, bmB, fI, dat2, nm, x2, qual2, params2, body2, scope2, dvs2, kws2, N2, ps2, Z⟩ := Y.xcs c2 hX
          have h1 : 1 < manyAt := by decide
          rcases fr.get h1 with ⟨z, _⟩ | ⟨d', v, z1, z2, z3⟩
          · rw [z] at et; cases et
          · rw [z1] at et
            cases et
            cases z3 with
            | str _ ok =>
              obtain ⟨fvs, fv1, fv2⟩ := fld_vals Z.noat (hat c2 hX) fr ed
              refine ⟨Y.exm c2 hX, _, dx, kvs, t, fvs, rfl, rfl, Z.xf, Z.noat 1 (Z.has1), z2, ok, fv1, ?_, hdx, fun p p2 H' u hp hp2 => ?_⟩
              · rw [fvals_len fv1]; exact flds_few _ rows_few2
              · obtain ⟨lu, ru⟩ := up_rel u r2
                have l2 : Later ρ2 m2 H' ρ2 m2 (upd H' p (.tup fvs)) := later_upd ru hp
                have r3 := ru.upd (o := .tup fvs) hp
                have l3 : Later ρ2 m2 (upd H' p (.tup fvs)) ρ2 m2 (upd (upd H' p (.tup fvs)) p2 (.tup [.str (mkS t), .ref p])) := later_upd r3 hp2
                obtain ⟨lt, rt, ext⟩ := trunc B.rel (l01.trans (l12.trans (lu.trans (l2.trans l3)))) (r3.upd hp2)
                have np : p ∉ lives ρ2 m2 := ru.notLive hp
                have np2 : p2 ∉ lives ρ2 m2 := r3.notLive hp2
                have e1 : upd (upd H' p (.tup fvs)) p2 (.tup [.str (mkS t), .ref p]) p = some (.tup fvs) := (l3.ext p _ upd_same np).1
                refine k1 (.ref p2) ρ _ lt rt (.tup (.inl ⟨(ext p2 _ upd_same np2).2, upd_same⟩) (.cons (.str _ ok) (.cons (.tup (.inl ⟨(ext p _ e1 np).2, e1⟩) ?_) .nil)))
                exact Reps.ext ext (Reps.ext l3.ext (Reps.ext l2.ext (Reps.ext lu.ext fv2)))
  refine wpAny_call (codeAny_mono rc fun r s2 hq => ?_)
  cases r with
  | error e => exact (show False from hq).elim
  | ok fl =>
    cases fl with
    | ret u => exact I1.after hq
    | next => exact False.elim hq
    | brk => exact False.elim hq
    | cont => exact False.elim hq
end
end Oh

set_option Elab.async false
set_option linter.all false
set_option maxRecDepth 100000
set_option maxHeartbeats 4000000
set_option autoImplicit false
/-! OhP: what is checked is sound, expressions -/
namespace Oh
open PySem L2
variable [Lcl]
def bltNames : List Str := ["len", "all", "any", "int", "list", "tuple", "isinstance", "range", "zip", "str", "bool", "dict", "repr", "enumerate", "max", "min", "sorted", "set"]
/-- where a def lies -/
def locF (g : Gx) (K : PySem.W.Frag) (mg : Str → Option Value) (f : Nat) (a : Addr) : Prop := if f < 1000 then mg (g.fname f) = some (.ref a) else if isCm (g.G f) = true then locC K ((f - 1000) / 200) ((f - 1000) % 200) a else locM K ((f - 1000) / 200) ((f - 1000) % 200) a
theorem locF_m {g : Gx} {K : PySem.W.Frag} {mg : Str → Option Value} {c f : Nat} (hf : f < manyAt) (hm : isFn (g.G (mnum c f)) = true) : locF g K mg (mnum c f) = locM K c f := by
  funext a
  have hm' : isCm (g.G (mnum c f)) ≠ true := fun q => by
    unfold isFn at hm
    unfold isCm at q
    split at hm
    · rename_i e; rw [e] at q; simp at q
    · cases hm
  have hma : manyAt = 103 := rfl
  unfold locF
  rw [if_neg (by unfold mnum; omega), if_neg hm']
  unfold mnum
  rw [show (1000 + 200 * c + f - 1000) / 200 = c by omega, show (1000 + 200 * c + f - 1000) % 200 = f by omega]
theorem locF_c {g : Gx} {K : PySem.W.Frag} {mg : Str → Option Value} {c f : Nat} (hf : f < manyAt) (hm : isCm (g.G (mnum c f)) = true) : locF g K mg (mnum c f) = locC K c f := by
  funext a
  have hma : manyAt = 103 := rfl
  unfold locF
  rw [if_neg (by unfold mnum; omega), if_pos hm]
  unfold mnum
  rw [show (1000 + 200 * c + f - 1000) / 200 = c by omega, show (1000 + 200 * c + f - 1000) % 200 = f by omega]
theorem locF_g {g : Gx} {K : PySem.W.Frag} {mg : Str → Option Value} {f : Nat} (hf : f < 1000) : locF g K mg f = fun a => mg (g.fname f) = some (.ref a) := by
  funext a
  unfold locF
  rw [if_pos hf]
structure Good (g : Gx) (n : Nat) (X : Cx) : Prop where
  calm : X.calm = true
  nd : X.N.Nodup
  room : Room (5 * n + 2) X.A
  glb : ∀ k d, k < 1000 → g.G k = some d → ∃ v u, X.mg (g.gname k) = some u ∧ RelV v u ∧ ∀ L H, Rep X.K L H v d
  blt : ∀ x ∈ bltNames, X.mg x = none
  fns : ∀ f fd, g.T f = some fd → Fnf X (5 * n) (run g.G g.T g.K n f) (locF g X.K X.mg f) fd
  con : ∀ c f d, f < manyAt → g.G (mnum c f) = some d → isDef (some d) = false → ConAt X.K c f d
  mth : ∀ c f, f < manyAt → isFn (g.G (mnum c f)) = true → c < manyCls ∧ ∃ fd, g.T (mnum c f) = some fd
  cmt : ∀ c f, f < manyAt → isCm (g.G (mnum c f)) = true → X.mg (clsStr c) = some (.ref (He.ga X.K (clsStr c)))
  mks : ∀ c, isFn (g.G (mnum c 0)) = true → MkAt X c
  kit : KitAt X.K g.G
  xcs : ∀ c, isXc (g.G (mnum c 0)) = true → XcAt X.K X.mg c
  lam : ∀ q, g.lq = some q → lawSc X.env.scope = true → LamAt X q ∧ Room (5 * n + 4) X.A
  why : ∀ q, g.lq = some q → WhyAt X.K X.mg g.G
theorem Good.blk {g : Gx} {n : Nat} {X : Cx} (G : Good g n X) {s : Shared} {H : Hp} {scope : Scope} {ce : PySem.Env} {fp : List Addr} (hl : lawSc ce.scope = false) : Good g n (X.blk s H scope ce fp) :=
  ⟨G.calm, G.nd, G.room, G.glb, G.blt, fun f fd h => ⟨(G.fns f fd h).ex⟩, G.con, G.mth, G.cmt, fun c h => ⟨(G.mks c h).mg, (G.mks c h).makes, (G.mks c h).kp, (G.mks c h).ok⟩, G.kit, G.xcs, fun q _ h2 => (Bool.false_ne_true (hl.symm.trans h2)).elim, G.why⟩
theorem Good.nox {g : Gx} {n : Nat} {X : Cx} (G : Good g n X) : Good g n X.nox :=
  ⟨G.calm, G.nd, G.room, G.glb, G.blt, fun f fd h => ⟨(G.fns f fd h).ex⟩, G.con, G.mth, G.cmt, fun c h => ⟨(G.mks c h).mg, (G.mks c h).makes, (G.mks c h).kp, (G.mks c h).ok⟩, G.kit, G.xcs, fun q h1 h2 => ⟨⟨(G.lam q h1 h2).1.ex⟩, (G.lam q h1 h2).2⟩, G.why⟩
/-- .. in a lambda's body -/
theorem Good.lamb {g : Gx} {n : Nat} {X : Cx} (G : Good g n X) {A : Around} {outer : List PySem.Env} {s : Shared} {H : Hp} {E : XK} {scope : Scope} {f c' : Addr} (hr : Room (5 * n + 2) (A.deeper (LamX.lamEnv X scope s.heap.objs.size f c'))) (hl : lawSc scope = false) : Good g n (LamX.lamCx X A outer s H E scope f c') :=
  ⟨rfl, G.nd, hr, G.glb, G.blt, fun f fd h => ⟨(G.fns f fd h).ex⟩, G.con, G.mth, G.cmt, fun c h => ⟨(G.mks c h).mg, (G.mks c h).makes, (G.mks c h).kp, (G.mks c h).ok⟩, G.kit, G.xcs, fun q _ h2 => (Bool.false_ne_true (hl.symm.trans h2)).elim, G.why⟩
theorem lamS_lawSc {N : List Str} {bs : List (Str × Int)} {sc scope : Scope} (L : LamS2 N bs sc scope) : lawSc scope = false := by
  unfold lawSc
  rw [List.any_eq_false]
  intro y hy h
  rw [Bool.and_eq_true, Bool.or_eq_true, decide_eq_true_eq, decide_eq_true_eq, decide_eq_true_eq] at h
  exact h.2.elim (L.script y hy h.1) (L.own y hy).2
theorem fieldsOf_lt {c f : Nat} (h : f ∈ fieldsOf c) : f < manyAt := by
  unfold fieldsOf at h
  unfold manyAt
  split at h <;> simp at h <;> omega
theorem Good.near1 {g : Gx} {n : Nat} {X : Cx} (G : Good g n X) : Near X (5 * n + 1) X.A := (show Near X (5 * n + 2) X.A from ⟨G.room, rfl⟩).mono (by omega)
theorem Good.near0 {g : Gx} {n : Nat} {X : Cx} (G : Good g n X) : Near X (5 * n) X.A := G.near1.mono (by omega)
theorem vis_of {sc : Scope} {x : Str} (h : visB sc x = true) : Vis sc x := by
  unfold visB at h
  unfold Vis
  split at h
  · exact .inl (by assumption)
  · exact .inr (.inl (by assumption))
  · exact .inr (.inr (by assumption))
  · cases h
theorem gl_of {X : Cx} {x : Str} (h : glB X.env.scope x = true) : Gl X x := by
  unfold glB at h
  split at h
  · assumption
  · cases h
theorem loc_of {sc : Scope} {x : Str} (h : locB sc x = true) : L2.Loc sc x := by
  unfold locB at h
  unfold L2.Loc
  split at h
  · exact .inl (by assumption)
  · exact .inr (by assumption)
  · cases h
theorem isLoc_of {sc : Scope} {x : Str} (h : isLoc sc x = true) : sc.names.lookup x = some .local := by
  unfold isLoc at h
  split at h
  · assumption
  · cases h
theorem isCell_of {sc : Scope} {x : Str} (h : isCellB sc x = true) : sc.names.lookup x = some .cell := by
  unfold isCellB at h
  split at h
  · assumption
  · cases h
theorem dbg1 {x : Str} (h : dbg x = true) : (x == ("__debug__" : Str)) = false ∧ (x == ("__classdict__" : Str)) = false := by
  unfold dbg at h
  simpa using h
theorem evs_len {G : Nat → Option D} {Fn : Fns} : ∀ {l : List E} {s : Env} {m : M} {ws : List Oh.W} {m' : M}, evs G Fn l s m = .ok ws m' → ws.length = l.length
  | [], s, m, ws, m', h => by unfold evs at h; cases h; rfl
  | e :: l, s, m, ws, m', h => by
    unfold evs at h
    obtain ⟨w, m1, h1, h2⟩ := bind_ok' h
    obtain ⟨ws', m2, h3, h4⟩ := bind_ok' h2
    cases h4
    simp [evs_len h3]
theorem chkEs_len {g : Gx} {N : List Str} {sc : Scope} : ∀ {l : List E} {es : List Expr}, chkEs g N sc l es = true → l.length = es.length
  | [], [], _ => rfl
  | a :: l, e :: es, h => by
    simp only [chkEs, Bool.and_eq_true] at h
    simp [chkEs_len h.2]
  | [], _ :: _, h => by simp [chkEs] at h
  | _ :: _, [], h => by simp [chkEs] at h
theorem chkKs_len {g : Gx} {N : List Str} {sc : Scope} : ∀ {l : List E} {es : List Keyword}, chkKs g N sc l es = true → l.length = es.length
  | [], [], _ => rfl
  | a :: l, ⟨_, e, _⟩ :: es, h => by
    simp only [chkKs, Bool.and_eq_true] at h
    simp [chkKs_len h.2]
  | [], _ :: _, h => by simp [chkKs] at h
  | _ :: _, [], h => by simp [chkKs] at h
theorem kwNames_len {kws : List Keyword} (h : kws.all (·.arg.isSome) = true) : (kwNames kws).length = kws.length := by
  induction kws with
  | nil => rfl
  | cons k kws ih =>
    simp only [List.all_cons, Bool.and_eq_true] at h
    obtain ⟨a, v, p⟩ := k
    cases a with
    | none => cases h.1
    | some x =>
      show (kwNames kws).length + 1 = kws.length + 1
      rw [ih h.2]
theorem run_fill {G : Nat → Option D} {T : Nat → Option Fd} {K n f : Nat} {fd : Fd} (h : T f = some fd) (ws : List Oh.W) (m : M) : run G T K n f ws m = .bad ∨ run G T K n f ws m = run G T K n f (fd.fill ws) m := by
  cases n with
  | zero => exact .inl rfl
  | succ n =>
    unfold run
    simp only [h]
    unfold runFd
    by_cases e : (fd.fill ws).length = fd.ps
    · rw [if_pos e, fill_full fd e, if_pos e]; exact .inr rfl
    · rw [if_neg e]; exact .inl rfl
theorem run_fit {G : Nat → Option D} {T : Nat → Option Fd} {K n f : Nat} {fd : Fd} (h : T f = some fd) (ws : List Oh.W) (m : M) (hn : (fd.fill ws).length ≠ fd.ps) : run G T K n f ws m = .bad := by
  cases n with
  | zero => rfl
  | succ n =>
    unfold run
    rw [h]
    simp only []
    unfold runFd
    rw [if_neg hn]
/-- a number's def -/
theorem Good.fnG {g : Gx} {n : Nat} {X : Cx} (G : Good g n X) {f : Nat} {fd : Fd} (h : g.T f = some fd) (hf : f < 1000) : FnAt X (5 * n) (run g.G g.T g.K n f) (fun a => X.mg (g.fname f) = some (.ref a)) fd :=
  ⟨locF_g hf ▸ G.fns f fd h, run_fit h, run_fill h⟩
theorem Good.fnM {g : Gx} {n : Nat} {X : Cx} (G : Good g n X) {c f : Nat} {fd : Fd} (h : g.T (mnum c f) = some fd) (hf : f < manyAt) (hm : isFn (g.G (mnum c f)) = true) : FnAt X (5 * n) (run g.G g.T g.K n (mnum c f)) (locM X.K c f) fd :=
  ⟨locF_m hf hm ▸ G.fns _ fd h, run_fit h, run_fill h⟩
theorem Good.fnC {g : Gx} {n : Nat} {X : Cx} (G : Good g n X) {c f : Nat} {fd : Fd} (h : g.T (mnum c f) = some fd) (hf : f < manyAt) (hm : isCm (g.G (mnum c f)) = true) : FnAt X (5 * n) (run g.G g.T g.K n (mnum c f)) (locC X.K c f) fd :=
  ⟨locF_c hf hm ▸ G.fns _ fd h, run_fit h, run_fill h⟩
theorem Good.own {g : Gx} {n : Nat} {X : Cx} (G : Good g n X) : ∀ c f, f < manyAt → isFn (g.G (mnum c f)) = true → ∃ fd, FnAt X (5 * n) (run g.G g.T g.K n (mnum c f)) (locM X.K c f) fd := fun c f hf hm => by
  obtain ⟨_, fd, q⟩ := G.mth c f hf hm
  exact ⟨fd, G.fnM q hf hm⟩
/-! ### targets -/
theorem tg_ok {X : Cx} {i : Nat} {e : Expr} (nd : X.N.Nodup) (h : tgB X.N X.env.scope i e = true) (hf : ∀ x, X.N[i]? = some x → X.fn x = true ∨ X.env.scope.names.lookup x = some .local) : PG X e (gName i) := by
  cases e <;> simp only [tgB, reduceCtorEq, Bool.and_eq_true, decide_eq_true_eq] at h
  exact pg_name nd h.1 (loc_of h.2) (hf _ h.1)
theorem tgs_ok {X : Cx} (nd : X.N.Nodup) : ∀ {ts : List Nat} {es : List Expr}, tgsB X.N X.env.scope ts es = true → (∀ i ∈ ts, ∀ x, X.N[i]? = some x → X.fn x = true ∨ X.env.scope.names.lookup x = some .local) →
    PGs X es (gAll ts) ∧ (assignEach es X.env).length = ts.length ∧ (assignEach es X.env).findIdx? (·.1) = none
  | [], [], _, _ => ⟨pgs_nil, rfl, rfl⟩
  | i :: ts, e :: es, h, hf => by
    simp only [tgsB, Bool.and_eq_true] at h
    obtain ⟨h1, h2, h3⟩ := tgs_ok nd h.2 fun j hj => hf j (List.mem_cons_of_mem _ hj)
    have hn := h.1
    cases e <;> simp only [tgB, reduceCtorEq] at hn
    have hp := tg_ok nd h.1 (hf i List.mem_cons_self)
    refine ⟨pgs_cons hp h1 rfl, ?_, ?_⟩
    · show (assignEach es X.env).length + 1 = _
      rw [h2]; rfl
    · show List.findIdx? _ ((false, _) :: assignEach es X.env) = none
      rw [List.findIdx?_cons]
      simp only [Bool.false_eq_true, if_false, h3]
      rfl
  | [], _ :: _, h, _ => by simp [tgsB] at h
  | _ :: _, [], h, _ => by simp [tgsB] at h
theorem tgt_ok {X : Cx} {ts : List Nat} {e : Expr} (hc : X.calm = true) (nd : X.N.Nodup) (h : tgtB X.N X.env.scope ts e = true) (hf : ∀ i ∈ ts, ∀ x, X.N[i]? = some x → X.fn x = true ∨ X.env.scope.names.lookup x = some .local) : PG X e (gOf X.K ts) := by
  have multi : ∀ {ts : List Nat} {es : List Expr} {k : Nat} {p : Pos}, (∀ i, ts ≠ [i]) → tgsB X.N X.env.scope ts es = true → (∀ i ∈ ts, ∀ x, X.N[i]? = some x → X.fn x = true ∨ X.env.scope.names.lookup x = some .local) → PG X (.Tuple es k p) (gOf X.K ts) := by
    intro ts es k p hn h hf
    obtain ⟨h1, h2, h3⟩ := tgs_ok nd h hf
    have : gOf X.K ts = gTL X.K ts.length (gAll ts) := by
      unfold gOf
      split
      · rename_i i
        exact absurd rfl (hn i)
      · rfl
    rw [this]
    exact pg_tl (pg_tup hc h1 h2 h3) (pg_unl hc h1 h2 h3)
  match ts, h, hf with
  | [i], h, hf => exact tg_ok nd h (hf _ List.mem_cons_self)
  | [], h, hf => cases e <;> simp only [tgtB, reduceCtorEq] at h; exact multi (by simp) h hf
  | i :: j :: ts, h, hf => cases e <;> simp only [tgtB, reduceCtorEq] at h; exact multi (by simp) h hf
theorem form_ok {es : List Expr} {kws : List Keyword} {env : PySem.Env} {pos : Pos} (h : noStars es = true) (hk : kws.all (·.arg.isSome) = true) (h2 : es.length + kws.length < 28) : methodCallForm (es.length + kws.length) (backTo pos (starEach es env)) (backToKw pos (keywordEach kws env)) = true := by
  have a := stars_no (env := env) (pos := pos) h
  unfold methodCallForm
  have b : (backTo pos (starEach es env)).all (fun x => !x.1) = true := by
    rw [List.all_eq_true]
    intro x hx
    rw [List.any_eq_false] at a
    simpa using a x hx
  rw [b, (kw_all hk).1]
  simp only [Bool.true_and, decide_eq_true_eq]
  split <;> omega
/-- the arguments of a call -/
theorem argus {g : Gx} {n : Nat} {X : Cx} {W : WX} {l ks : List E} {es : List Expr} {kws : List Keyword} (h3 : chkEs g X.N X.env.scope l es = true) (h4 : chkKs g X.N X.env.scope ks kws = true) (h5 : kws.all (·.arg.isSome) = true)
    (ia : PA X es (tAr X.K W fun s m => evs g.G (run g.G g.T g.K n) l s m)) (ik : PK X kws (tAr X.K W fun s m => evs g.G (run g.G g.T g.K n) ks s m)) :
    Argus X W es kws (fun s m => evs g.G (run g.G g.T g.K n) l s m) (fun s m => evs g.G (run g.G g.T g.K n) ks s m) where
  pa := ia
  pk := ik
  all := h5
  len := fun s m ws m' q => by rw [evs_len q, chkEs_len h3]
  lenk := fun s m ws m' q => by rw [evs_len q, chkKs_len h4, kwNames_len h5]
  nil := fun e s m => by
    cases l with
    | nil => unfold evs; rfl
    | cons a l => subst e; simp [chkEs] at h3
  star := fun e es' e' => by
    subst e'
    have ns := noStars_of h3
    simp only [noStars, Bool.and_eq_true] at ns
    exact star_cons ns.1
  plain := fun pos => stars_no (noStars_of h3)
theorem argus0 {g : Gx} {n : Nat} {X : Cx} {W : WX} {l : List E} {es : List Expr} (h3 : chkEs g X.N X.env.scope l es = true)
    (ia : PA X es (tAr X.K W fun s m => evs g.G (run g.G g.T g.K n) l s m)) :
    Argus X W es [] (fun s m => evs g.G (run g.G g.T g.K n) l s m) (fun _ m => .ok [] m) where
  pa := ia
  pk := s_knil
  all := rfl
  len := fun s m ws m' q => by rw [evs_len q, chkEs_len h3]
  lenk := fun s m ws m' q => by cases q; rfl
  nil := fun e s m => by
    cases l with
    | nil => unfold evs; rfl
    | cons a l => subst e; simp [chkEs] at h3
  star := fun e es' e' => by
    subst e'
    have ns := noStars_of h3
    simp only [noStars, Bool.and_eq_true] at ns
    exact star_cons ns.1
  plain := fun pos => stars_no (noStars_of h3)
/-! ### tests by pieces -/
theorem not_eq {r : Res Oh.W} : (r.bind fun w m1 => (test w m1).bind fun b m2 => (.ok (.p (.bl (!b))) m2 : Res Oh.W)).bind test = (r.bind test).bind fun b m1 => .ok (!b) m1 := by
  cases r with
  | ok w m => 
    simp only [Res.bind_ok]
    cases test w m <;> rfl
  | exc x m => rfl
  | bad => rfl
theorem test_idem (b : Bool) (m : M) : test (.p (.bl b)) m = .ok b m := rfl
theorem and_eq {r : Res Oh.W} {f : M → Res Oh.W} : (r.bind fun w m1 => (test w m1).bind fun b m2 => match b with | true => f m2 | false => (.ok (.p (.bl false)) m2 : Res Oh.W)).bind test = (r.bind test).bind fun b m1 => match b with | true => (f m1).bind test | false => .ok false m1 := by
  cases r with
  | ok w m =>
    simp only [Res.bind_ok]
    cases test w m with
    | ok b m => cases b <;> rfl
    | exc x m => rfl
    | bad => rfl
  | exc x m => rfl
  | bad => rfl
theorem or_eq {r : Res Oh.W} {f : M → Res Oh.W} : (r.bind fun w m1 => (test w m1).bind fun b m2 => match b with | true => (.ok (.p (.bl true)) m2 : Res Oh.W) | false => f m2).bind test = (r.bind test).bind fun b m1 => match b with | true => .ok true m1 | false => (f m1).bind test := by
  cases r with
  | ok w m =>
    simp only [Res.bind_ok]
    cases test w m with
    | ok b m => cases b <;> rfl
    | exc x m => rfl
    | bad => rfl
  | exc x m => rfl
  | bad => rfl
theorem one_eq {r : Res Oh.W} : (r.bind fun w m1 => (test w m1).bind fun b m2 => match b with | true => (.ok true m2 : Res Bool) | false => .ok false m2) = r.bind test := by
  cases r with
  | ok w m =>
    simp only [Res.bind_ok]
    cases test w m with
    | ok b m => cases b <;> rfl
    | exc x m => rfl
    | bad => rfl
  | exc x m => rfl
  | bad => rfl
theorem ite_eq {r : Res Oh.W} {f h : M → Res Oh.W} : (r.bind fun w m1 => (test w m1).bind fun t m2 => match t with | true => f m2 | false => h m2) = (r.bind test).bind fun t m2 => match t with | true => f m2 | false => h m2 := by
  cases r with
  | ok w m => rfl
  | exc x m => rfl
  | bad => rfl
theorem pts_m {X : Cx} {e : List Expr} {t t' : TT} (h : PTs X e t) (k : ∀ σ H Q, t' σ H Q → t σ H Q) : PTs X e t' := ⟨fun pins s σ H Q I q => h.run pins s σ H Q I (k σ H Q q)⟩
theorem ty_boot : ∀ k, k ≤ 5 → bootBuiltins (tyS k) = some (.type (tyName k)) ∧ tyS k ≠ "__name__" ∧ (tyS k == ("__debug__" : Str)) = false ∧ tyS k ∈ bltNames := by
  intro k h
  have : k = 0 ∨ k = 1 ∨ k = 2 ∨ k = 3 ∨ k = 4 ∨ k = 5 := by omega
  rcases this with rfl | rfl | rfl | rfl | rfl | rfl <;> decide +kernel
theorem bi_blt : ∀ b : Bi, biName b ∈ bltNames := by intro b; cases b <;> decide +kernel
end Oh

set_option Elab.async false
set_option linter.all false
set_option maxRecDepth 100000
set_option maxHeartbeats 4000000
set_option autoImplicit false
/-! OhQ: what is checked is sound, expressions -/
namespace Oh
open PySem L2
variable [Lcl]
section
variable {g : Gx} {n : Nat}
/-! ### comparisons -/
def rCW (X : Cx) (G : Nat → Option D) (Fn : Fns) : Cmp → R2
  | .eq => fun x y H Q => rOwn X G Fn false x y H Q ∨ rC X .eq x y H Q
  | .ne => fun x y H Q => rOwn X G Fn true x y H Q ∨ rC X .ne x y H Q
  | op => rC X op
theorem opCW_ok {X : Cx} (G : Good g n X) : ∀ op : Cmp, OpR X (compareOp (opC op)) (rCW X g.G (run g.G g.T g.K n) op)
  | .eq => (op_own G.near1 G.kit G.own false).or (opC_ok G.room.units .eq)
  | .ne => (op_own G.near1 G.kit G.own true).or (opC_ok G.room.units .ne)
  | .lt => opC_ok G.room.units .lt
  | .le => opC_ok G.room.units .le
  | .gt => opC_ok G.room.units .gt
  | .ge => opC_ok G.room.units .ge
  | .isin => opC_ok G.room.units .isin
  | .notin => opC_ok G.room.units .notin
  | .is => opC_ok G.room.units .is
  | .isnot => opC_ok G.room.units .isnot
theorem rCW_ok {X : Cx} {G : Nat → Option D} {Fn : Fns} (op : Cmp) : R2W X (rCW X G Fn op) (cmpW G Fn op) := fun ρ m H x y w1 w2 Q rel r1 r2 k => by
  unfold cmpW at k
  split at k
  · exact .inl ⟨ρ, m, _, w2, _, _, rfl, rel, r1, r2, k⟩
  · exact .inl ⟨ρ, m, _, w2, _, _, rfl, rel, r1, r2, k⟩
  · have := R2W.of (rC_ok (X := X) op) ρ m H x y w1 w2 Q rel r1 r2 k
    cases op <;> first | exact .inr this | exact this
theorem cmpW_no {G : Nat → Option D} {Fn : Fns} {op : Cmp} : NoExc2 (cmpW G Fn op) := fun w1 w2 m x m' h => by
  have e : ∀ neg c, eqW G Fn neg c w1 w2 m ≠ .exc x m' := fun neg c q => by
    unfold eqW at q
    split at q
    · exact noX_no x m' q
    · cases q
  unfold cmpW at h
  split at h
  · exact e _ _ h
  · exact e _ _ h
  · exact op2_no x m' h
theorem chkEs_ne {g : Gx} {N : List Str} {sc : Scope} {l : List E} {es : List Expr} (h : chkEs g N sc l es = true) (h3 : l.length = 3) : ∃ e r, es = e :: r := by
  have h2 := chkEs_len h
  cases es with
  | nil => rw [h3] at h2; cases h2
  | cons e r => exact ⟨e, r, rfl⟩
mutual
theorem soundE (a : E) {e : Expr} {X : Cx} {W : WX} (tk : Takes X W) (G : Good g n X) (h : chkE g X.N X.env.scope a e = true) : PE X e (tE X.K W fun s m => ev g.G (run g.G g.T g.K n) a s m) := by
  cases a with
  | never => unfold ev; exact s_never
  | non =>
    cases e <;> try (simp [chkE] at h; done)
    rename_i c k p
    cases c <;> try (simp [chkE] at h; done)
    unfold ev
    exact s_const pe_non fun _ _ => .non
  | bl b =>
    cases e <;> try (simp [chkE] at h; done)
    rename_i c k p
    cases c <;> try (simp [chkE] at h; done)
    simp only [chkE, beq_iff_eq] at h
    subst h
    unfold ev
    exact s_const pe_bl fun _ _ => .bl _
  | int i =>
    cases e <;> try (simp [chkE] at h; done)
    rename_i c k p
    cases c <;> try (simp [chkE] at h; done)
    simp only [chkE, beq_iff_eq] at h
    subst h
    unfold ev
    exact s_const pe_int fun _ _ => .int _
  | str s =>
    cases e <;> try (simp [chkE] at h; done)
    rename_i c k p
    cases c <;> try (simp [chkE] at h; done)
    rename_i x
    simp only [chkE, Bool.and_eq_true, beq_iff_eq, List.all_eq_true, decide_eq_true_eq] at h
    obtain ⟨h1, h2⟩ := h
    unfold ev
    have hx : x = mkS s := TL.ext_tl (by rw [TL.tl_mk]; exact h1)
    subst hx
    exact s_const pe_str fun _ _ => .str _ h2
  | loc i =>
    cases e <;> try (simp [chkE] at h; done)
    simp only [chkE, Bool.and_eq_true, decide_eq_true_eq] at h
    rename_i x p
    have := s_loc (X := X) (W := W) (pe_var (pos := p) h.1.1 (vis_of h.1.2) (dbg1 h.2).1 (dbg1 h.2).2)
    unfold ev
    exact this
  | glb k =>
    cases e <;> try (simp [chkE] at h; done)
    simp only [chkE, Bool.and_eq_true, decide_eq_true_eq] at h
    obtain ⟨⟨⟨rfl, h1⟩, h2⟩, hk⟩ := h
    cases q : g.G k with
    | none =>
      have : (fun s m => ev g.G (run g.G g.T g.K n) (.glb k) s m) = fun _ _ => .bad := by funext s m; unfold ev; rw [q]
      rw [this]; exact s_never
    | some d =>
      have : (fun s m => ev g.G (run g.G g.T g.K n) (.glb k) s m) = fun _ m => .ok (.p d) m := by funext s m; unfold ev; rw [q]
      rw [this]
      obtain ⟨v, u, e1, e2, e3⟩ := G.glb k d hk q
      exact s_const (pe_glob (gl_of h1) e1 e2 (dbg1 h2).1) e3
  | ty k =>
    cases e <;> try (simp [chkE] at h; done)
    simp only [chkE, Bool.and_eq_true, decide_eq_true_eq] at h
    obtain ⟨⟨h0, rfl⟩, h1⟩ := h
    obtain ⟨b1, b2, b3, b4⟩ := ty_boot k h0
    unfold ev
    exact s_const (pe_bltn (gl_of h1) (G.blt _ b4) b1 (show RelV (.ty (tyName k)) _ from rfl) b2 b3) fun _ _ => .ty k h0
  | bin op a b =>
    cases e <;> try (simp [chkE] at h; done)
    simp only [chkE, Bool.and_eq_true, decide_eq_true_eq] at h
    obtain ⟨⟨rfl, h1⟩, h2⟩ := h
    unfold ev
    exact s_op2 (a := .Constant .none 0 ⟨0,0,0,0⟩) (b := .Constant .none 0 ⟨0,0,0,0⟩) (pe_op (opA_ok op) (soundE a tk G h1) (soundE b tk G h2)) (rA_ok op)
  | neg a =>
    cases e <;> try (simp [chkE] at h; done)
    rename_i op x p
    cases op <;> try (simp [chkE] at h; done)
    simp only [chkE] at h
    unfold ev
    exact s_neg (soundE a tk G h)
  | cmp op a b =>
    cases e <;> try (simp [chkE] at h; done)
    rename_i l ops cs p
    match ops, cs, h with
    | [op'], [b'], h =>
      simp only [chkE, Bool.and_eq_true, decide_eq_true_eq] at h
      obtain ⟨⟨⟨rfl, h1⟩, h2⟩, h3⟩ := h
      unfold ev
      exact s_op2W (pe_cmpR (opCW_ok G op) (soundE a tk G h1) (soundE b tk G h2) (noSet_marks h3)) (rCW_ok op) cmpW_no
    | [], _, h => simp [chkE] at h
    | _ :: _ :: _, _, h => simp [chkE] at h
    | [_], [], h => simp [chkE] at h
    | [_], _ :: _ :: _, h => simp [chkE] at h
  | cmp2 op1 op2 a b c =>
    cases e <;> try (simp [chkE] at h; done)
    rename_i l ops cs p
    match ops, cs, h with
    | [o1, o2], [b', c'], h =>
      simp only [chkE, Bool.and_eq_true, decide_eq_true_eq] at h
      obtain ⟨⟨⟨⟨⟨⟨rfl, rfl⟩, h1⟩, h2⟩, h3⟩, h4⟩, h5⟩ := h
      unfold ev
      refine s_chain (pe_chain (opC_ok G.room.units op1) (opC_ok G.room.units op2) (soundE a tk G h1) (soundE b tk G h2) (soundE c tk G h3) ?_) (rC_ok op1) (rC_ok op2)
      show behindInMarks _ c' = false
      exact noSet_marks h5
    | [], _, h => simp [chkE] at h
    | [_], _, h => rename_i cs; cases cs <;> simp [chkE] at h
    | _ :: _ :: _ :: _, _, h => simp [chkE] at h
    | [_, _], [], h => simp [chkE] at h
    | [_, _], [_], h => simp [chkE] at h
    | [_, _], _ :: _ :: _ :: _, h => simp [chkE] at h
  | and l =>
    cases e <;> try (simp [chkE] at h; done)
    rename_i op es p
    cases op <;> try (simp [chkE] at h; done)
    simp only [chkE, Bool.and_eq_true, decide_eq_true_eq] at h
    have := soundAnd l (W := W) (pos := p) tk G h.1 (by intro q; rw [q] at h; simp at h)
    unfold ev
    exact this
  | or l =>
    cases e <;> try (simp [chkE] at h; done)
    rename_i op es p
    cases op <;> try (simp [chkE] at h; done)
    simp only [chkE, Bool.and_eq_true, decide_eq_true_eq] at h
    have := soundOr l (W := W) (pos := p) tk G h.1 (by intro q; rw [q] at h; simp at h)
    unfold ev
    exact this
  | not a =>
    cases e <;> try (simp [chkE] at h; done)
    rename_i op x p
    cases op <;> try (simp [chkE] at h; done)
    simp only [chkE] at h
    unfold ev
    exact s_not (soundE a tk G h)
  | ite c a b =>
    cases e <;> try (simp [chkE] at h; done)
    simp only [chkE, Bool.and_eq_true] at h
    obtain ⟨⟨⟨h1, h2⟩, h3⟩, h4⟩ := h
    unfold ev
    rename_i p
    have := s_ite (X := X) (W := W) (pos := p) (soundT c tk G h1 h2) (soundE a tk G h3) (soundE b tk G h4)
    refine Eq.mp (congrArg (fun f => PE X _ (tE X.K W f)) ?_) this
    funext s m
    exact ite_eq.symm
  | lst l =>
    cases e <;> try (simp [chkE] at h; done)
    simp only [chkE] at h
    unfold ev
    exact s_lst (soundEs l tk G h)
  | tup l =>
    cases e <;> try (simp [chkE] at h; done)
    simp only [chkE] at h
    unfold ev
    exact s_tup (soundEs l tk G h)
  | idx a i =>
    cases e <;> try (simp [chkE] at h; done)
    simp only [chkE, Bool.and_eq_true] at h
    unfold ev
    exact s_op2 (a := .Constant .none 0 ⟨0,0,0,0⟩) (b := .Constant .none 0 ⟨0,0,0,0⟩) (pe_ix (ix_seq.or (ix_dict (by have := G.room.units; omega))) (soundE a tk G h.1.1) (soundE i tk G h.1.2) (noSlice_ix h.2)) ok_idx
  | slc a lo hi =>
    cases e <;> try (simp [chkE] at h; done)
    rename_i x sl p
    cases sl <;> try (simp [chkE] at h; done)
    rename_i l u st p2
    cases st <;> try (simp [chkE] at h; done)
    simp only [chkE, Bool.and_eq_true] at h
    unfold ev
    exact s_slc (soundE a tk G h.1.1) (soundO lo tk G h.1.2) (soundO hi tk G h.2)
  | rev a =>
    have h' := h
    unfold chkE at h'
    split at h' <;> try (simp at h'; done)
    unfold ev
    exact s_rev (soundE a tk G h')
  | call f l =>
    cases e <;> try (simp [chkE] at h; done)
    rename_i fn es kws p
    cases fn <;> try (simp [chkE] at h; done)
    cases kws <;> try (simp [chkE] at h; done)
    simp only [chkE, Bool.and_eq_true, decide_eq_true_eq] at h
    obtain ⟨⟨⟨⟨⟨rfl, h1⟩, h2⟩, hf⟩, h3⟩, h4⟩ := h
    cases q : g.T f with
    | none => rw [q] at h4; cases h4
    | some fd =>
      have Z := argus0 h3 (soundEs l tk G h3)
      obtain ⟨a, ha, kp, C⟩ := fn_callAs (k := es.length) tk (G.fnG q hf) G.near0
      unfold ev
      exact s_callG kp (gl_of h1) ha (dbg1 h2).1 C Z
  | callk f l ks src =>
    cases e <;> try (simp [chkE] at h; done)
    rename_i fn es kws p
    cases fn <;> try (simp [chkE] at h; done)
    simp only [chkE, Bool.and_eq_true, decide_eq_true_eq] at h
    obtain ⟨⟨⟨⟨⟨⟨⟨rfl, h1⟩, h2⟩, hf⟩, h3⟩, h4⟩, h5⟩, h6⟩ := h
    cases q : g.T f with
    | none => rw [q] at h6; cases h6
    | some fd =>
      rw [q] at h6
      simp only [decide_eq_true_eq] at h6
      rw [chkEs_len h3] at h6
      have Z := argus h3 h4 h5 (soundEs l tk G h3) (soundKs ks tk G h4)
      obtain ⟨a, ha, kp, C⟩ := fn_callAsK tk (G.fnG q hf) G.near0 h6
      unfold ev
      exact s_callG kp (gl_of h1) ha (dbg1 h2).1 C Z
  | bi b l =>
    cases e <;> try (simp [chkE] at h; done)
    rename_i fn es kws p
    cases fn <;> try (simp [chkE] at h; done)
    cases kws <;> try (simp [chkE] at h; done)
    simp only [chkE, Bool.and_eq_true, decide_eq_true_eq] at h
    obtain ⟨⟨⟨rfl, h1⟩, h2⟩, h3⟩ := h
    have ih := soundEs l (W := W) tk G h2
    match l, es, h2, h3, ih with
    | [], _, _, h3, _ => exact absurd rfl h3
    | a :: l, e :: es, h2, h3, ih =>
      have ns := noStars_of h2
      simp only [noStars, Bool.and_eq_true] at ns
      unfold ev
      exact s_opnW (pe_biW G.calm G.near1 G.own ih (star_cons ns.1) (stars_no ns.2) b (gl_of h1) (G.blt _ (bi_blt b))) (biW_ok G.kit b) fun _ _ => biW_no
    | _ :: _, [], h2, _, _ => simp [chkEs] at h2
  | me f a b =>
    cases f with
    | split =>
      cases e <;> try (simp [chkE] at h; done)
      rename_i fn es kws p
      cases fn <;> try (simp [chkE] at h; done)
      cases kws <;> try (cases es <;> simp [chkE] at h; done)
      match es, h with
      | [b'], h =>
        simp only [chkE, Bool.and_eq_true, decide_eq_true_eq] at h
        obtain ⟨⟨⟨⟨rfl, h1⟩, h2⟩, h3⟩, h4⟩ := h
        unfold ev
        exact s_me1 (pe_split (soundE a tk G h1) (soundE b tk G h2) (star_cons (notStar_of h2)) (noCall_base h3) h4) split_ok
      | [], h => simp [chkE] at h
      | _ :: _ :: _, h => simp [chkE] at h
    | join =>
      cases e <;> try (simp [chkE] at h; done)
      rename_i fn es kws p
      cases fn <;> try (simp [chkE] at h; done)
      cases kws <;> try (cases es <;> simp [chkE] at h; done)
      match es, h with
      | [b'], h =>
        simp only [chkE, Bool.and_eq_true, decide_eq_true_eq] at h
        obtain ⟨⟨⟨⟨rfl, h1⟩, h2⟩, h3⟩, h4⟩ := h
        unfold ev
        exact s_me1 (pe_join (soundE a tk G h1) (soundE b tk G h2) (star_cons (notStar_of h2)) (noCall_base h3) h4) join_ok
      | [], h => simp [chkE] at h
      | _ :: _ :: _, h => simp [chkE] at h
  | lidx a b =>
    cases e <;> try (simp [chkE] at h; done)
    rename_i fn es kws p
    cases fn <;> try (simp [chkE] at h; done)
    cases kws <;> try (cases es <;> simp [chkE] at h; done)
    match es, h with
    | [b'], h =>
      simp only [chkE, Bool.and_eq_true, decide_eq_true_eq] at h
      obtain ⟨⟨⟨⟨rfl, h1⟩, h2⟩, h3⟩, h4⟩ := h
      unfold ev
      exact s_lidx (pe_bm PySem.F.plainAttrs_list PySem.F.slot_list_index PySem.F.type_list_index mt_index (soundE a tk G h1) (pa_cons (soundE b tk G h2) pa_nil (star_cons (notStar_of h2))) (noCall_base h3) (by rw [star_cons (notStar_of h2)]; rfl) h4 (star_cons (notStar_of h2)) rfl)
    | [], h => simp [chkE] at h
    | _ :: _ :: _, h => simp [chkE] at h
  | lc el ts it ifs =>
    cases e <;> try (simp [chkE] at h; done)
    rename_i el' gens scope p
    match gens, h with
    | [⟨tg, iter, ifs', k⟩], h =>
      simp only [chkE, Bool.and_eq_true, decide_eq_true_eq] at h
      obtain ⟨⟨⟨⟨⟨⟨⟨⟨⟨⟨rfl, h1⟩, h2⟩, h3⟩, h4⟩, h5⟩, h6⟩, h7⟩, h8⟩, h9⟩, h10⟩ := h
      have h10 : lawSc (relS scope X.env.scope) = false := by simpa using h10
      unfold ev
      have own : (ownOf X.N ts).map (·.2) = ts := by
        unfold ownOf
        rw [List.map_map]
        conv => rhs; rw [← List.map_id ts]
        rfl
      refine s_lc ?_
      have := pe_lc (X := X) (own := ownOf X.N ts) (g := gOf X.K ts) (tt := tTe X.K W0 fun s m => tests g.G (run g.G g.T g.K n) ifs s m) (te := tE X.K W0 fun s m => ev g.G (run g.G g.T g.K n) el s m) (pos := p) G.calm G.nd (soundI it (W := W) (tg := tg) tk G h2) (blkOk_by h1)
        (fun s H C cl fp => tgt_ok (X := X.blk s H scope (compEnvC scope cl C X.env) fp) G.calm G.nd h3 fun i hi x hx => by
          rw [List.all_eq_true] at h4
          have q := h4 i hi
          have ex : X.N.getD i "" = x := by rw [List.getD_eq_getElem?_getD]; rw [show X.N[i]? = some x from hx]; rfl
          rw [ex, Bool.or_eq_true] at q
          rcases q with q | q
          · exact .inr (isLoc_of q)
          · refine .inl ?_
            show (scope.names.lookup x == some .cell) = true
            rw [isCell_of q]; rfl)
        (fun s H C cl fp => soundTs ifs (X := X.blk s H scope (compEnvC scope cl C X.env) fp) takes0 (G.blk h10) h6 h7 h8)
        (fun s H C cl fp => soundE el (X := X.blk s H scope (compEnvC scope cl C X.env) fp) takes0 (G.blk h10) h5)
        (noSet_fold h9)
      rw [own] at this
      exact this
    | [], h => simp [chkE] at h
    | _ :: _ :: _, h => simp [chkE] at h
  | cls c =>
    cases e <;> try (simp [chkE] at h; done)
    simp only [chkE, Bool.and_eq_true, decide_eq_true_eq] at h
    obtain ⟨⟨⟨rfl, h1⟩, h2⟩, h3⟩ := h
    unfold ev
    exact s_cls (G.mks c h3).mg (gl_of h1) (dbg1 h2).1
  | fld a f =>
    cases e <;> try (simp [chkE] at h; done)
    simp only [chkE, Bool.and_eq_true, decide_eq_true_eq] at h
    obtain ⟨⟨⟨rfl, h1⟩, h2⟩, h3⟩ := h
    unfold ev
    exact s_fld h1 (soundE a tk G h2) (noSuper_base h3)
  | con a f =>
    cases e <;> try (simp [chkE] at h; done)
    simp only [chkE, Bool.and_eq_true, decide_eq_true_eq] at h
    obtain ⟨⟨⟨rfl, h1⟩, h2⟩, h3⟩ := h
    unfold ev
    exact s_con h1 (fun c d => G.con c f d h1) (soundE a tk G h2) (noSuper_base h3)
  | mcall a f l ks src =>
    cases e <;> try (simp [chkE] at h; done)
    rename_i fn es kws p
    cases fn <;> try (simp [chkE] at h; done)
    simp only [chkE, Bool.and_eq_true, decide_eq_true_eq, List.all_eq_true] at h
    obtain ⟨⟨⟨⟨⟨⟨⟨⟨⟨rfl, h1⟩, h2⟩, h3⟩, h4⟩, h5⟩, h6⟩, h7⟩, h8⟩, h9⟩ := h
    have h6' : kws.all (·.arg.isSome) = true := by rw [List.all_eq_true]; exact h6
    have Z := argus h4 h5 h6' (soundEs l tk G h4) (soundKs ks tk G h5)
    have hT : ∀ c, isFn (g.G (mnum c f)) = true → ∃ fd, FnAt X (5 * n) (run g.G g.T g.K n (mnum c f)) (locM X.K c f) fd ∧ kwFit fd (1 + es.length) (kwNames kws) src = true := fun c hc => by
      obtain ⟨hb, fd, q⟩ := G.mth c f h1 hc
      have := h9 c (List.mem_range.mpr hb)
      rw [q] at this
      exact ⟨fd, G.fnM q h1 hc, by rw [← chkEs_len h4]; exact this⟩
    unfold ev
    exact s_mcall tk G.near0 h1 hT (soundE a tk G h2) Z (noSuper_base h3) (form_ok (noStars_of h4) h6' h8) h7
  | make c l ks src =>
    cases e <;> try (simp [chkE] at h; done)
    rename_i fn es kws p
    cases fn <;> try (simp [chkE] at h; done)
    simp only [chkE, Bool.and_eq_true, decide_eq_true_eq] at h
    obtain ⟨⟨⟨⟨⟨⟨⟨rfl, h1⟩, h2⟩, h3⟩, h4⟩, h5⟩, h6⟩, h7⟩ := h
    cases q : g.T (mnum c 0) with
    | none => rw [q] at h7; cases h7
    | some fd =>
      rw [q] at h7
      simp only [] at h7
      rw [chkEs_len h4] at h7
      have Z := argus h4 h5 h6 (soundEs l tk G h4) (soundKs ks tk G h5)
      have M := G.mks c h3
      unfold ev
      exact s_callG M.kp (gl_of h1) M.mg (dbg1 h2).1 (make_callAs tk M (G.fnM q (show 0 < manyAt by decide) h3) G.near1 h7) Z
  | cm c f l ks src =>
    cases e <;> try (simp [chkE] at h; done)
    rename_i fn es kws p
    cases fn <;> try (simp [chkE] at h; done)
    rename_i o nm apos
    cases o <;> try (simp [chkE] at h; done)
    simp only [chkE, Bool.and_eq_true, decide_eq_true_eq] at h
    obtain ⟨⟨⟨⟨⟨⟨⟨⟨⟨⟨rfl, h1⟩, h2⟩, rfl⟩, h3⟩, h4⟩, h5⟩, h6⟩, h7⟩, h8⟩, h9⟩ := h
    unfold ev
    by_cases hc : isCm (g.G (mnum c f)) = true
    · cases q : g.T (mnum c f) with
      | none => rw [q] at h9; cases h9
      | some fd =>
        rw [q] at h9
        simp only [] at h9
        rw [chkEs_len h4] at h9
        have Z := argus h4 h5 h6 (soundEs l tk G h4) (soundKs ks tk G h5)
        simp only [hc, if_true]
        exact s_cm tk G.near0 h3 (G.fnC q h3 hc) h9 (gl_of h1) (G.cmt c f h3 hc) (dbg1 h2).1 Z (form_ok (noStars_of h4) h6 h8) h7
    · simp only [hc]
      exact s_never
  | dcall i l =>
    cases e <;> try (simp [chkE] at h; done)
    rename_i fn es kws p
    cases fn <;> try (simp [chkE] at h; done)
    cases kws <;> try (simp [chkE] at h; done)
    simp only [chkE, Bool.and_eq_true, decide_eq_true_eq] at h
    obtain ⟨⟨⟨h1, h2⟩, h3⟩, h4⟩ := h
    have Z := argus0 h4 (soundEs l tk G h4)
    unfold ev
    exact s_dcall tk G.near1 h1 (vis_of h2) (dbg1 h3).1 (dbg1 h3).2 (fun c hc => ⟨G.mks c hc, by
      obtain ⟨_, fd, q⟩ := G.mth c 0 (by decide) hc
      exact ⟨fd, G.fnM q (by decide) hc⟩⟩) Z
  | fstr l =>
    cases e <;> try (simp [chkE] at h; done)
    simp only [chkE, Bool.and_eq_true, decide_eq_true_eq] at h
    obtain ⟨rs, ts, hp, hg⟩ := soundFs l tk G h.1
    unfold ev
    simp only [hg]
    exact s_fstr hp h.2
  | obin op a b =>
    cases e <;> try (simp [chkE] at h; done)
    simp only [chkE, Bool.and_eq_true, decide_eq_true_eq] at h
    obtain ⟨⟨rfl, h1⟩, h2⟩ := h
    unfold ev
    exact s_obin tk G.calm G.near0 G.kit G.own (soundE a tk G h1) (soundE b tk G h2)
  | dct0 =>
    have h' := h
    unfold chkE at h'
    split at h' <;> try (simp at h'; done)
    unfold ev
    exact s_dct0
  | dct1 k v =>
    have h' := h
    unfold chkE at h'
    split at h' <;> try (simp at h'; done)
    simp only [Bool.and_eq_true] at h'
    unfold ev
    exact s_dct1 (pe_disp (pps_cons (soundE k takes0 G h'.1) (soundE v takes0 G h'.2) pps_nil) rfl rfl (by simp) (by simp))
  | dct2 k v k2 v2 =>
    have h' := h
    unfold chkE at h'
    split at h' <;> try (simp at h'; done)
    simp only [Bool.and_eq_true] at h'
    unfold ev
    exact s_dct2 (pe_disp (pps_cons (soundE k takes0 G h'.1.1.1) (soundE v takes0 G h'.1.1.2) (pps_cons (soundE k2 takes0 G h'.1.2) (soundE v2 takes0 G h'.2) pps_nil)) rfl rfl (by simp) (by simp))
  | litems a =>
    have h' := h
    unfold chkE at h'
    split at h' <;> try (simp at h'; done)
    simp only [Bool.and_eq_true, decide_eq_true_eq] at h'
    obtain ⟨⟨⟨⟨⟨rfl, rfl⟩, h1⟩, h2⟩, h3⟩, h4⟩ := h'
    unfold ev
    exact s_litems (LiI.pe_listItems G.calm (soundE a tk G h2) (gl_of h1) (G.blt _ (by decide)) PyProof.Rows.boot_list (noCall_base h3) h4 rfl)
  | mint a =>
    have h' := h
    unfold chkE at h'
    split at h' <;> try (simp at h'; done)
    simp only [Bool.and_eq_true, decide_eq_true_eq] at h'
    obtain ⟨⟨rfl, h1⟩, h2⟩ := h'
    unfold ev
    exact s_mint (pe_callB (cr_minT G.calm) (gl_of h1) (G.blt _ (by decide)) PyProof.Rows.boot_min (pa_cons (soundE a tk G h2) pa_nil (star_cons (notStar_of h2))) (by decide) (by decide) (star_cons (notStar_of h2)) rfl)
  | cat a b =>
    have h' := h
    unfold chkE at h'
    split at h' <;> try (simp at h'; done)
    simp only [Bool.and_eq_true] at h'
    unfold ev
    exact tN_E (s_catN (soundE a tk G h'.1) (soundE b tk G h'.2)) fun s m w m' q => by
      obtain ⟨_, _, _, h2⟩ := bind_ok' q
      obtain ⟨_, _, _, h4⟩ := bind_ok' h2
      exact cat_lst h4
  | sset a =>
    have h' := h
    unfold chkE at h'
    split at h' <;> try (simp at h'; done)
    simp only [Bool.and_eq_true, decide_eq_true_eq] at h'
    obtain ⟨⟨⟨⟨rfl, rfl⟩, h1⟩, h2⟩, h3⟩ := h'
    unfold ev
    exact s_sset (pe_callB (cr_sortedSet G.calm) (gl_of h1) (G.blt _ (by decide)) PyProof.Rows.boot_sorted (pa_cons (pe_callTy (cr_setL G.calm) (gl_of h2) (G.blt _ (by decide)) PyProof.Rows.boot_set (pa_cons (soundE a tk G h3) pa_nil (star_cons (notStar_of h3))) (by decide) (by decide) (star_cons (notStar_of h3)) rfl) pa_nil rfl) (by decide) (by decide) rfl rfl)
  | mind a =>
    have h' := h
    unfold chkE at h'
    split at h' <;> try (simp at h'; done)
    simp only [Bool.and_eq_true, decide_eq_true_eq] at h'
    obtain ⟨⟨⟨rfl, rfl⟩, h1⟩, h2⟩ := h'
    unfold ev
    exact s_mind (pe_callBK (cr_minD G.calm) (gl_of h1) (G.blt _ (by decide)) PyProof.Rows.boot_min (pa_cons (soundE a tk G h2) pa_nil (star_cons (notStar_of h2))) (pk_cons pe_non pk_nil) (by decide) (by decide) (by rw [star_cons (notStar_of h2)]; rfl) (by rw [star_cons (notStar_of h2)]; rfl) rfl rfl rfl)
  | lrng l =>
    have h' := h
    unfold chkE at h'
    split at h' <;> try (simp at h'; done)
    simp only [Bool.and_eq_true, decide_eq_true_eq] at h'
    obtain ⟨⟨⟨⟨⟨rfl, rfl⟩, h1⟩, h2⟩, h3⟩, h4⟩ := h'
    obtain ⟨e0, er, rfl⟩ := chkEs_ne h4 h3
    have ih := soundEs l (W := W) tk G h4
    have ns := noStars_of h4
    simp only [noStars, Bool.and_eq_true] at ns
    unfold ev
    exact s_opn (pe_lrng G.calm (gl_of h1) (G.blt _ (by decide)) (gl_of h2) (G.blt _ (by decide)) ih rfl (star_cons ns.1) (stars_no ns.2)) rn_lrng
  | srt a =>
    have h' := h
    unfold chkE at h'
    split at h' <;> try (simp at h'; done)
    simp only [Bool.and_eq_true, decide_eq_true_eq] at h'
    obtain ⟨⟨rfl, h1⟩, h2⟩ := h'
    unfold ev
    exact tN_E (s_srtN (pe_callB (cr_sortedI.or cr_sortedS) (gl_of h1) (G.blt _ (by decide)) PyProof.Rows.boot_sorted (pa_cons (soundE a tk G h2) pa_nil (star_cons (notStar_of h2))) (by decide) (by decide) (star_cons (notStar_of h2)) rfl)) fun s m w m' q => by
      obtain ⟨_, _, _, h4⟩ := bind_ok' q
      exact srt_lst h4
  | bor a =>
    have h' := h
    unfold chkE at h'
    unfold ev
    rw [Bool.and_eq_true, Bool.and_eq_true] at h'
    exact s_bor (soundE a (takes0 (X := X)) G h'.2)
  | frc a =>
    have h' := h
    unfold chkE at h'
    unfold ev
    rw [Bool.and_eq_true, Bool.and_eq_true] at h'
    exact s_frc (soundE a tk G h'.2)
  | wls l =>
    cases e <;> try (simp [chkE] at h; done)
    simp only [chkE] at h
    unfold ev
    exact s_wls (soundEs l tk G h)
  | wat a k =>
    have h' := h
    unfold chkE at h'
    split at h' <;> try (simp at h'; done)
    simp only [Bool.and_eq_true, decide_eq_true_eq] at h'
    obtain ⟨h1, rfl⟩ := h'
    unfold ev
    exact s_wat (soundE a tk G h1) (s_const pe_int fun L H => .int _) (noSlice_ix rfl)
  | ogi a i =>
    have h' := h
    unfold chkE at h'
    split at h' <;> try (simp at h'; done)
    simp only [Bool.and_eq_true] at h'
    unfold ev
    exact s_ogi tk G.near1 G.kit.gi G.own (soundE a tk G h'.1.1) (soundE i tk G h'.1.2) (noSlice_ix2 h'.2)
  | mkc a => simp [chkE] at h
  | dnew a => simp [chkE] at h
  | dne a b => simp [chkE] at h
  | lams q es => simp [chkE] at h
  | lamadd q a es => simp [chkE] at h
  | whys q a es => simp [chkE] at h
  | whysd q es => simp [chkE] at h
  | why q a =>
    have h' := h
    unfold chkE at h'
    split at h' <;> try (simp at h'; done)
    simp only [Bool.and_eq_true, decide_eq_true_eq] at h'
    obtain ⟨⟨⟨⟨⟨h1, h2⟩, rfl⟩, h3⟩, h4⟩, h6⟩ := h'
    obtain ⟨bs, h4, L⟩ := lamB_by h4
    obtain ⟨la, hr⟩ := G.lam q h1 h2
    unfold ev
    exact s_why (G.why q h1) la L h4 (gl_of h3) (k := 5 * n + 2) hr (fun c _ f hf => fieldsOf_lt hf) fun A outer s H E f c' hr2 => soundE a (X := LamX.lamCx X A outer s H E _ f c') (takes_of rfl rfl rfl rfl) (G.lamb hr2 (lamS_lawSc L)) h6
  | star2 a b =>
    have h' := h
    unfold chkE at h'
    split at h' <;> try (simp at h'; done)
    simp only [Bool.and_eq_true] at h'
    unfold ev
    exact s_star2 (soundE a tk G h'.1) (soundE b tk G h'.2)
termination_by (sizeOf a, 0)
theorem soundFs (l : List E) {es : List Expr} {X : Cx} {W : WX} (tk : Takes X W) (G : Good g n X) (h : chkFs g X.N X.env.scope l es = true) :
    ∃ rs ts, PF X W es rs ts ∧ ∀ acc s m, evF g.G (run g.G g.T g.K n) l acc s m = goF rs acc s m := by
  match l, es, h with
  | [], [], h => exact ⟨[], [], .nil, fun acc s m => by unfold evF; rfl⟩
  | a :: l, .Constant (.str x) k p :: es, h =>
    cases a <;> try (simp [chkFs] at h; done)
    rename_i t
    simp only [chkFs, Bool.and_eq_true, beq_iff_eq, List.all_eq_true, decide_eq_true_eq] at h
    obtain ⟨rs, ts, h1, h2⟩ := soundFs l tk G h.2
    refine ⟨_, _, .str (s := t) (TL.ext_tl (by rw [TL.tl_mk]; exact h.1.1)) h.1.2 h1, fun acc s m => ?_⟩
    unfold evF goF
    unfold ev
    simp only [h2]
  | a :: l, .FormattedValue e c f p :: es, h =>
    have hh : c = -1 ∧ f = none ∧ chkE g X.N X.env.scope a e = true ∧ chkFs g X.N X.env.scope l es = true := by
      unfold chkFs at h
      split at h <;> first | (rename_i q1 q2; cases q2; cases q1; simp only [Bool.and_eq_true] at h; exact ⟨rfl, rfl, h.1, h.2⟩) | (rename_i q1 q2; cases q2) | cases h | (rename_i q1; cases q1) | simp at h
    obtain ⟨rfl, rfl, h1, h2⟩ := hh
    obtain ⟨rs, ts, h3, h4⟩ := soundFs l tk G h2
    refine ⟨_, _, .fmt (soundE a tk G h1) h3, fun acc s m => ?_⟩
    unfold evF goF
    simp only [h4]
  | [], _ :: _, h => simp [chkFs] at h
  | _ :: _, [], h => simp [chkFs] at h
termination_by (sizeOf l, 0)
theorem soundEs (l : List E) {es : List Expr} {X : Cx} {W : WX} (tk : Takes X W) (G : Good g n X) (h : chkEs g X.N X.env.scope l es = true) : PA X es (tAr X.K W fun s m => evs g.G (run g.G g.T g.K n) l s m) := by
  match l, es, h with
  | [], [], h => unfold evs; exact s_nil
  | a :: l, e :: es, h =>
    simp only [chkEs, Bool.and_eq_true] at h
    unfold evs
    exact s_cons (soundE a tk G h.1) (soundEs l tk G h.2) (star_cons (notStar_of h.1))
  | [], _ :: _, h => simp [chkEs] at h
  | _ :: _, [], h => simp [chkEs] at h
termination_by (sizeOf l, 0)
theorem soundKs (l : List E) {es : List Keyword} {X : Cx} {W : WX} (tk : Takes X W) (G : Good g n X) (h : chkKs g X.N X.env.scope l es = true) : PK X es (tAr X.K W fun s m => evs g.G (run g.G g.T g.K n) l s m) := by
  match l, es, h with
  | [], [], h => unfold evs; exact s_knil
  | a :: l, ⟨nm, e, kp⟩ :: es, h =>
    simp only [chkKs, Bool.and_eq_true] at h
    unfold evs
    exact s_kcons (soundE a tk G h.1) (soundKs l tk G h.2)
  | [], _ :: _, h => simp [chkKs] at h
  | _ :: _, [], h => simp [chkKs] at h
termination_by (sizeOf l, 0)
theorem soundAnd (l : List E) {es : List Expr} {pos : Pos} {X : Cx} {W : WX} (tk : Takes X W) (G : Good g n X) (h : chkEs g X.N X.env.scope l es = true) (hn : l ≠ []) : PE X (.BoolOp .And es pos) (tE X.K W fun s m => evAnd g.G (run g.G g.T g.K n) l s m) := by
  match l, es, h with
  | [], _, h => exact absurd rfl hn
  | [a], [e], h =>
    simp only [chkEs, Bool.and_eq_true] at h
    unfold evAnd
    exact pe_one (soundE a tk G h.1)
  | a :: b :: l, e :: e2 :: es, h =>
    simp only [chkEs, Bool.and_eq_true] at h
    unfold evAnd
    exact s_and (soundE a tk G h.1) (soundAnd (b :: l) tk G (by simp only [chkEs, Bool.and_eq_true]; exact h.2) (by simp))
  | [_], [], h => simp [chkEs] at h
  | [_], _ :: _ :: _, h => simp [chkEs] at h
  | _ :: _ :: _, [], h => simp [chkEs] at h
  | _ :: _ :: _, [_], h => simp [chkEs] at h
termination_by (sizeOf l, 0)
theorem soundOr (l : List E) {es : List Expr} {pos : Pos} {X : Cx} {W : WX} (tk : Takes X W) (G : Good g n X) (h : chkEs g X.N X.env.scope l es = true) (hn : l ≠ []) : PE X (.BoolOp .Or es pos) (tE X.K W fun s m => evOr g.G (run g.G g.T g.K n) l s m) := by
  match l, es, h with
  | [], _, h => exact absurd rfl hn
  | [a], [e], h =>
    simp only [chkEs, Bool.and_eq_true] at h
    unfold evOr
    exact pe_one (soundE a tk G h.1)
  | a :: b :: l, e :: e2 :: es, h =>
    simp only [chkEs, Bool.and_eq_true] at h
    unfold evOr
    exact s_or (soundE a tk G h.1) (soundOr (b :: l) tk G (by simp only [chkEs, Bool.and_eq_true]; exact h.2) (by simp))
  | [_], [], h => simp [chkEs] at h
  | [_], _ :: _ :: _, h => simp [chkEs] at h
  | _ :: _ :: _, [], h => simp [chkEs] at h
  | _ :: _ :: _, [_], h => simp [chkEs] at h
termination_by (sizeOf l, 0)
theorem soundO (o : Option E) {e : Option Expr} {X : Cx} {W : WX} (tk : Takes X W) (G : Good g n X) (h : chkO g X.N X.env.scope o e = true) : PO X e (tOo X.K W fun s m => evo g.G (run g.G g.T g.K n) o s m) := by
  match o, e, h with
  | none, none, h => unfold evo; exact s_ono
  | some a, some e, h =>
    simp only [chkO] at h
    unfold evo
    exact s_osome (soundE a tk G h)
  | none, some _, h => simp [chkO] at h
  | some _, none, h => simp [chkO] at h
termination_by (sizeOf o, 0)
theorem soundI (it : I) {e tg : Expr} {X : Cx} {W : WX} (tk : Takes X W) (G : Good g n X) (h : chkI g X.N X.env.scope it e tg = true) : PI X tg e (tIt X.K W fun s m => evI g.G (run g.G g.T g.K n) it s m) := by
  cases it with
  | ex a =>
    simp only [chkI] at h
    unfold evI
    exact s_iex (soundE a tk G h)
  | rng l =>
    cases e <;> try (simp [chkI] at h; done)
    rename_i fn es kws p
    cases fn <;> try (simp [chkI] at h; done)
    cases kws <;> try (simp [chkI] at h; done)
    simp only [chkI, Bool.and_eq_true, decide_eq_true_eq, Bool.or_eq_true] at h
    obtain ⟨⟨⟨rfl, h1⟩, h2⟩, h3⟩ := h
    have ns := noStars_of h2
    have hl := chkEs_len h2
    unfold evI
    have ih := soundEs l (W := W) tk G h2
    have hb : X.mg ("range" : Str) = none := G.blt _ (by decide +kernel)
    match l, es, h2, h3, ns, hl, ih with
    | [a], [e], h2, h3, ns, hl, ih =>
      simp only [noStars, Bool.and_eq_true] at ns
      exact s_rng1 (gl_of h1) hb ih (star_cons ns.1) fun s m ws m' q => evs_len q
    | [a, b], [e, e2], h2, h3, ns, hl, ih =>
      simp only [noStars, Bool.and_eq_true] at ns
      exact s_rng2 (gl_of h1) hb ih (by rw [star_cons ns.1, star_cons ns.2.1]; rfl) (star_cons ns.2.1) fun s m ws m' q => evs_len q
    | [], _, _, h3, _, _, _ => simp at h3
    | _ :: _ :: _ :: _, _, _, h3, _, _, _ => simp at h3
    | [_], [], _, _, _, hl, _ => simp at hl
    | [_], _ :: _ :: _, _, _, _, hl, _ => simp at hl
    | [_, _], [], _, _, _, hl, _ => simp at hl
    | [_, _], [_], _, _, _, hl, _ => simp at hl
    | [_, _], _ :: _ :: _ :: _, _, _, _, hl, _ => simp at hl
  | zip l =>
    cases e <;> try (simp [chkI] at h; done)
    rename_i fn es kws p
    cases fn <;> try (simp [chkI] at h; done)
    cases kws <;> try (simp [chkI] at h; done)
    simp only [chkI, Bool.and_eq_true, decide_eq_true_eq] at h
    obtain ⟨⟨⟨⟨rfl, h1⟩, h2⟩, h3⟩, h4⟩ := h
    have ns := noStars_of h2
    have hl := chkEs_len h2
    unfold evI
    have ih := soundEs l (W := W) tk G h2
    have hb : X.mg ("zip" : Str) = none := G.blt _ (by decide +kernel)
    cases tg <;> try (simp [isTup] at h4; done)
    match l, es, h2, h3, ns, hl, ih with
    | [a, b], [e, e2], h2, h3, ns, hl, ih =>
      simp only [noStars, Bool.and_eq_true] at ns
      exact s_zip (gl_of h1) hb ih (star_cons ns.1) (stars_no (by simp [noStars, ns.2.1]))
    | [], _, _, h3, _, _, _ => simp at h3
    | [_], _, _, h3, _, _, _ => simp at h3
    | _ :: _ :: _ :: _, _, _, h3, _, _, _ => simp at h3
    | [_, _], [], _, _, _, hl, _ => simp at hl
    | [_, _], [_], _, _, _, hl, _ => simp at hl
    | [_, _], _ :: _ :: _ :: _, _, _, _, hl, _ => simp at hl
  | enum l =>
    cases e <;> try (simp [chkI] at h; done)
    rename_i fn es kws p
    cases fn <;> try (simp [chkI] at h; done)
    cases kws <;> try (simp [chkI] at h; done)
    simp only [chkI, Bool.and_eq_true, decide_eq_true_eq] at h
    obtain ⟨⟨⟨⟨rfl, h1⟩, h2⟩, h3⟩, h4⟩ := h
    have ns := noStars_of h2
    have hl := chkEs_len h2
    unfold evI
    have ih := soundEs l (W := W) tk G h2
    have hb : X.mg ("enumerate" : Str) = none := G.blt _ (by decide +kernel)
    cases tg <;> try (simp [isTup] at h4; done)
    match l, es, h2, h3, ns, hl, ih with
    | [a], [e], h2, h3, ns, hl, ih =>
      simp only [noStars, Bool.and_eq_true] at ns
      exact s_enum (gl_of h1) hb ih (star_cons ns.1)
    | [], _, _, h3, _, _, _ => simp at h3
    | _ :: _ :: _, _, _, h3, _, _, _ => simp at h3
    | [_], [], _, _, _, hl, _ => simp at hl
    | [_], _ :: _ :: _, _, _, _, hl, _ => simp at hl
termination_by (sizeOf it, 0)
theorem soundT (a : E) {e : Expr} {X : Cx} {W : WX} (tk : Takes X W) (G : Good g n X) (h : chkE g X.N X.env.scope a e = true) (ht : tst a e = true) : PT X e (tTe X.K W fun s m => (ev g.G (run g.G g.T g.K n) a s m).bind test) := by
  by_cases hp : plainTest e = true
  · exact s_val (soundE a tk G h) (plain_test hp)
  · cases a with
    | not a =>
      cases e <;> try (simp [tst] at ht; exact absurd ht hp)
      rename_i op x p
      cases op <;> try (simp [tst] at ht; exact absurd ht hp)
      simp only [chkE] at h
      simp only [tst] at ht
      have := s_tnot (pos := p) (soundT a (W := W) tk G h ht)
      unfold ev
      refine Eq.mp (congrArg (fun f => PT X _ (tTe X.K W f)) ?_) this
      funext s m
      exact not_eq.symm
    | and l =>
      cases e <;> try (simp [tst] at ht; exact absurd ht hp)
      rename_i op es p
      cases op <;> try (simp [tst] at ht; exact absurd ht hp)
      simp only [chkE, Bool.and_eq_true, decide_eq_true_eq] at h
      simp only [tst] at ht
      have := soundTAnd l (W := W) (pos := p) tk G h.1 ht (by intro q; rw [q] at h; simp at h)
      unfold ev
      exact this.pt
    | or l =>
      cases e <;> try (simp [tst] at ht; exact absurd ht hp)
      rename_i op es p
      cases op <;> try (simp [tst] at ht; exact absurd ht hp)
      simp only [chkE, Bool.and_eq_true, decide_eq_true_eq] at h
      simp only [tst] at ht
      have := soundTOr l (W := W) (pos := p) tk G h.1 ht (by intro q; rw [q] at h; simp at h)
      unfold ev
      exact this.pt
    | cmp op a b =>
      cases e <;> try (simp [tst] at ht; exact absurd ht hp)
      rename_i l ops cs p
      match ops, cs, h with
      | [op'], [b'], h =>
        simp only [chkE, Bool.and_eq_true, decide_eq_true_eq] at h
        obtain ⟨⟨⟨rfl, h1⟩, h2⟩, h3⟩ := h
        unfold ev
        exact s_tcmpW (pt_cmpR (opCW_ok G op) (soundE a tk G h1) (soundE b tk G h2) (noSet_marks h3)) (rCW_ok op) cmpW_no
      | [], _, h => simp [chkE] at h
      | _ :: _ :: _, _, h => simp [chkE] at h
      | [_], [], h => simp [chkE] at h
      | [_], _ :: _ :: _, h => simp [chkE] at h
    | _ => simp [tst] at ht; exact absurd ht hp
termination_by (sizeOf a, 1)
theorem soundTAnd (l : List E) {es : List Expr} {pos : Pos} {X : Cx} {W : WX} (tk : Takes X W) (G : Good g n X) (h : chkEs g X.N X.env.scope l es = true) (ht : tsts l es = true) (hn : l ≠ []) : PW X (.BoolOp .And es pos) (tTe X.K W fun s m => (evAnd g.G (run g.G g.T g.K n) l s m).bind test) := by
  match l, es, h, ht with
  | [], _, h, ht => exact absurd rfl hn
  | [a], [e], h, ht =>
    simp only [chkEs, Bool.and_eq_true] at h
    simp only [tsts, Bool.and_eq_true] at ht
    unfold evAnd
    exact pw_and1 (soundT a tk G h.1 ht.1)
  | a :: b :: l, e :: e2 :: es, h, ht =>
    simp only [chkEs, Bool.and_eq_true] at h
    simp only [tsts, Bool.and_eq_true] at ht
    unfold evAnd
    have := s_tand (pos := pos) (soundT a (W := W) tk G h.1 ht.1) (soundTAnd (b :: l) (W := W) (es := e2 :: es) tk G (by simp only [chkEs, Bool.and_eq_true]; exact h.2) (by simp only [tsts, Bool.and_eq_true]; exact ht.2) (by simp))
    refine Eq.mp (congrArg (fun f => PW X _ (tTe X.K W f)) ?_) this
    funext s m
    exact and_eq.symm
  | [_], [], h, _ => simp [chkEs] at h
  | [_], _ :: _ :: _, h, _ => simp [chkEs] at h
  | _ :: _ :: _, [], h, _ => simp [chkEs] at h
  | _ :: _ :: _, [_], h, _ => simp [chkEs] at h
termination_by (sizeOf l, 0)
theorem soundTOr (l : List E) {es : List Expr} {pos : Pos} {X : Cx} {W : WX} (tk : Takes X W) (G : Good g n X) (h : chkEs g X.N X.env.scope l es = true) (ht : tsts l es = true) (hn : l ≠ []) : PW X (.BoolOp .Or es pos) (tTe X.K W fun s m => (evOr g.G (run g.G g.T g.K n) l s m).bind test) := by
  match l, es, h, ht with
  | [], _, h, ht => exact absurd rfl hn
  | [a], [e], h, ht =>
    simp only [chkEs, Bool.and_eq_true] at h
    simp only [tsts, Bool.and_eq_true] at ht
    unfold evOr
    exact pw_or1 (soundT a tk G h.1 ht.1)
  | a :: b :: l, e :: e2 :: es, h, ht =>
    simp only [chkEs, Bool.and_eq_true] at h
    simp only [tsts, Bool.and_eq_true] at ht
    unfold evOr
    have := s_tor (pos := pos) (soundT a (W := W) tk G h.1 ht.1) (soundTOr (b :: l) (W := W) (es := e2 :: es) tk G (by simp only [chkEs, Bool.and_eq_true]; exact h.2) (by simp only [tsts, Bool.and_eq_true]; exact ht.2) (by simp))
    refine Eq.mp (congrArg (fun f => PW X _ (tTe X.K W f)) ?_) this
    funext s m
    exact or_eq.symm
  | [_], [], h, _ => simp [chkEs] at h
  | [_], _ :: _ :: _, h, _ => simp [chkEs] at h
  | _ :: _ :: _, [], h, _ => simp [chkEs] at h
  | _ :: _ :: _, [_], h, _ => simp [chkEs] at h
termination_by (sizeOf l, 0)
theorem soundTs (l : List E) {es : List Expr} {X : Cx} {W : WX} (tk : Takes X W) (G : Good g n X) (h : chkEs g X.N X.env.scope l es = true) (ht : tsts l es = true) (hn : l.length ≤ 1) : PTs X es (tTe X.K W fun s m => tests g.G (run g.G g.T g.K n) l s m) := by
  match l, es, h, ht with
  | [], [], h, ht =>
    unfold tests
    exact pts_m pts_nil fun σ H Q ⟨ρ, s, m, B, k⟩ => k _ ρ H (Later.refl ..) B.rel rfl
  | [a], [e], h, ht =>
    simp only [chkEs, Bool.and_eq_true] at h
    simp only [tsts, Bool.and_eq_true] at ht
    have e : (fun s m => tests g.G (run g.G g.T g.K n) [a] s m) = fun s m => (ev g.G (run g.G g.T g.K n) a s m).bind test := by
      funext s m
      unfold tests
      unfold tests
      exact one_eq
    rw [e]
    exact pts_one (soundT a tk G h.1 ht.1)
  | _ :: _ :: _, _, _, _ => simp at hn
  | [], _ :: _, h, _ => simp [chkEs] at h
  | [_], [], h, _ => simp [chkEs] at h
  | [_], _ :: _ :: _, h, _ => simp [chkEs] at h
termination_by (sizeOf l, 0)
end
end
end Oh

set_option Elab.async false
set_option linter.all false
set_option maxRecDepth 100000
set_option maxHeartbeats 4000000
set_option autoImplicit false
/-! OhS: statements, checked and sound -/
namespace Oh
open PySem L2
variable [Lcl]
def mkNew : E → Bool
  | .lst _ => true
  | .lc _ _ _ _ => true
  | .cat _ _ => true
  | .srt _ => true
  | _ => false
/-- name = value: no comprehension, or one on the name's line -/
def asgB (sc : Scope) (x : Str) (py : Pos) : Expr → Bool
  | .ListComp _ _ scope pos => decide (sc.kind = .function) && isLoc sc x && (py.line == pos.line) && !(scope.names.any fun (n, k) => n == x && (k == .local || k == .cell))
  | e => noComp e
def isFold (e : Expr) : Bool := foldedForSure 8 e
def isConst (e : Expr) : Bool := constantsAlone 8 e
def notTup : Expr → Bool
  | .Tuple _ _ _ => false
  | _ => true
def nonLoc (sc : Scope) : Expr → Bool
  | .Name x _ => !isLoc sc x
  | _ => true
def parB (sc : Scope) (x y : Str) (px py : Pos) (a b : Expr) : Bool := decide (sc.kind = .function) && isLoc sc x && isLoc sc y && (py.line == px.line) && !(x == y) && notStar a && notStar b && !(isFold a && isFold b) && !(isConst a && isConst b)
def parB3 (sc : Scope) (x y z : Str) (px py pz : Pos) (a b c : Expr) : Bool := decide (sc.kind = .function) && isLoc sc x && isLoc sc y && isLoc sc z && (py.line == px.line) && (pz.line == px.line) && !(x == y) && !(x == z) && !(y == z) && notStar a && notStar b && notStar c && !(isFold a && (isFold b && isFold c)) && !(isConst a && (isConst b && isConst c))
section
variable (g : Gx) (N : List Str) (sc : Scope)
mutual
def chkS : S → Stmt → Bool
  | .never, _ => true
  | .expr e, .Expr e' _ => chkE g N sc e e' && noComp e'
  | .set i e, .Assign [.Name x py] e' _ => decide (N[i]? = some x) && locB sc x && chkE g N sc e e' && asgB sc x py e'
  | .setc i e, .Assign [.Name x py] e' _ => decide (N[i]? = some x) && locB sc x && chkE g N sc e e' && asgB sc x py e' && mkNew e
  | .setd i, .Assign [.Name x py] (.Dict [] [] _) _ => decide (N[i]? = some x) && locB sc x
  | .setdn i e, .Assign [.Name x py] (.Call (.Name y _) [e'] [] _) _ => decide (N[i]? = some x) && locB sc x && decide (y = ("dict" : Str)) && glB sc y && chkE g N sc e e'
  | .tsd i j e, .Assign [.Tuple [.Name x px, .Name y py] k p] (.Tuple [e', .Dict [] [] p1] k2 p2) _ => tgsB N sc [i, j] [.Name x px, .Name y py] && chkE g N sc e e' && ([.Name x px, .Name y py] : List Expr).any (nonLoc sc)
  | .tset is e, .Assign [.Tuple es k p] e' _ => tgsB N sc is es && decide (2 ≤ is.length) && chkE g N sc e e' && noComp e' && (notTup e' || es.any (nonLoc sc))
  | .parl i j a, .Assign [.Tuple [.Name x px, .Name y py] _ _] (.Tuple [a', .List [] lp] _ _) _ => decide (N[i]? = some x) && decide (N[j]? = some y) && decide (i ≠ j) && chkE g N sc a a' && parB sc x y px py a' (.List [] lp)
  | .par i j a b, .Assign [.Tuple [.Name x px, .Name y py] _ _] (.Tuple [a', b'] _ _) _ => decide (N[i]? = some x) && decide (N[j]? = some y) && decide (i ≠ j) && chkE g N sc a a' && chkE g N sc b b' && parB sc x y px py a' b'
  | .par3 i j l a b c, .Assign [.Tuple [.Name x px, .Name y py, .Name z pz] _ _] (.Tuple [a', b', c'] _ _) _ => decide (N[i]? = some x) && decide (N[j]? = some y) && decide (N[l]? = some z) && decide (i ≠ j) && decide (i ≠ l) && decide (j ≠ l) && chkE g N sc a a' && chkE g N sc b b' && chkE g N sc c c' && parB3 sc x y z px py pz a' b' c'
  | .sub i k v, .Assign [.Subscript (.Name x p) k' _] v' _ => decide (N[i]? = some x) && visB sc x && dbg x && chkE g N sc k k' && noSlice k' && chkE g N sc v v' && noComp v'
  | .app i e, .Expr (.Call (.Attribute (.Name x p) nm apos) [e'] [] cpos) _ => decide (N[i]? = some x) && visB sc x && dbg x && decide (nm = ("append" : Str)) && (apos.endLine == cpos.line) && chkE g N sc e e'
  | .ext i e, .Expr (.Call (.Attribute (.Name x p) nm apos) [e'] [] cpos) _ => decide (N[i]? = some x) && visB sc x && dbg x && decide (nm = ("extend" : Str)) && (apos.endLine == cpos.line) && chkE g N sc e e'
  | .appx o e, .Expr (.Call (.Attribute o' nm apos) [e'] [] cpos) _ => chkE g N sc o o' && noCall0 o' && decide (nm = ("append" : Str)) && (apos.endLine == cpos.line) && chkE g N sc e e'
  | .clrx o, .Expr (.Call (.Attribute o' nm apos) [] [] cpos) _ => chkE g N sc o o' && noCall0 o' && decide (nm = ("clear" : Str)) && (apos.endLine == cpos.line)
  | .insx i k v, .Expr (.Call (.Attribute (.Name x p) nm apos) [k', v'] [] cpos) _ => decide (N[i]? = some x) && visB sc x && dbg x && decide (nm = ("insert" : Str)) && (apos.endLine == cpos.line) && chkE g N sc k k' && chkE g N sc v v'
  | .fset i f e, .Assign [.Attribute (.Name x p) nm _] e' _ => decide (N[i]? = some x) && visB sc x && dbg x && decide (nm = atStr f) && decide (f < manyAt) && chkE g N sc e e' && noComp e'
  | .ret e, .Return (some e') _ => chkE g N sc e e'
  | .ret .non, .Return none _ => true
  | .retc e, .Return (some e') _ => chkE g N sc e e' && mkNew e
  | .retl i, .Return (some e') _ => chkE g N sc (.loc i) e'
  | .ite c a b, .If c' a' b' _ => chkE g N sc c c' && tst c c' && chkSs a a' && chkSs b b'
  | .for_ ts it b, .For tg iter b' [] _ => chkI g N sc it iter tg && tgtB N sc ts tg && noSet iter && chkSs b b'
  | .while_ c b, .While c' b' [] _ => chkE g N sc c c' && tst c c' && chkSs b b'
  | .tri b, .Try b' (_ :: _) [] [] _ => chkSs b b'
  | .raise c l, .Raise (some (.Call (.Name x _) (e :: es) [] _)) none _ => decide (x = clsStr c) && glB sc x && isXc (g.G (mnum c 0)) && chkEs g N sc l (e :: es) && decide (es.length < 900)
  | .brk, .Break _ => true
  | .cont, .Continue _ => true
  | .pass, .Pass _ => true
  | _, _ => false
def chkSs : List S → List Stmt → Bool
  | [], [] => true
  | .frz _ :: l, sts => chkSs l sts
  | a :: l, st :: sts => chkS a st && chkSs l sts
  | _, _ => false
end
end
/-- a def's own frame -/
structure GoodS (g : Gx) (n : Nat) (X : Cx) : Prop extends Good g n X where
  fn : ∀ x, X.fn x = true
  own : PassesOwn (model X.prog X.w) X.A X.env X.xe
theorem GoodS.nox {g : Gx} {n : Nat} {X : Cx} (G : GoodS g n X) : GoodS g n X.nox := ⟨G.toGood.nox, G.fn, PassesOwn.never⟩
section
variable {g : Gx} {n : Nat} {X : Cx} {W : WX}
/-- the parts of a comprehension -/
structure LcIn (g : Gx) (n : Nat) (X : Cx) (W : WX) (el : E) (ts : List Nat) (it : I) (ifs : List E) (el' tg iter : Expr) (ifs' : List Expr) (scope : Scope) : Prop where
  pi : PI X tg iter (tIt X.K W fun s m => evI g.G (run g.G g.T g.K n) it s m)
  blk : BlkOk X.N X.env.scope scope (ownOf X.N ts)
  pg : ∀ (s : Shared) (H : Hp) (C : Addr) (cl : List (Str × Addr)) (fp : List Addr), PG (X.blk s H scope (compEnvC scope cl C X.env) fp) tg (gOf X.K ts)
  pt : ∀ (s : Shared) (H : Hp) (C : Addr) (cl : List (Str × Addr)) (fp : List Addr), PTs (X.blk s H scope (compEnvC scope cl C X.env) fp) ifs' (tTe X.K W0 fun s m => tests g.G (run g.G g.T g.K n) ifs s m)
  pe : ∀ (s : Shared) (H : Hp) (C : Addr) (cl : List (Str × Addr)) (fp : List Addr), PE (X.blk s H scope (compEnvC scope cl C X.env) fp) el' (tE X.K W0 fun s m => ev g.G (run g.G g.T g.K n) el s m)
  fold : ∀ x, foldedSetIterable iter X.env x = pure x
  own : (ownOf X.N ts).map (·.2) = ts
theorem lc_in (tk : Takes X W) {el : E} {ts : List Nat} {it : I} {ifs : List E} {el' : Expr} {gens : List Comprehension} {scope : Scope} {p : Pos} (G : Good g n X) (h : chkE g X.N X.env.scope (.lc el ts it ifs) (.ListComp el' gens scope p) = true) :
    ∃ tg iter ifs', gens = [⟨tg, iter, ifs', 0⟩] ∧ LcIn g n X W el ts it ifs el' tg iter ifs' scope := by
  match gens, h with
  | [⟨tg, iter, ifs', k⟩], h =>
    simp only [chkE, Bool.and_eq_true, decide_eq_true_eq] at h
    obtain ⟨⟨⟨⟨⟨⟨⟨⟨⟨⟨rfl, h1⟩, h2⟩, h3⟩, h4⟩, h5⟩, h6⟩, h7⟩, h8⟩, h9⟩, h10⟩ := h
    have h10 : lawSc (relS scope X.env.scope) = false := by simpa using h10
    have own : (ownOf X.N ts).map (·.2) = ts := by
      unfold ownOf
      rw [List.map_map]
      conv => rhs; rw [← List.map_id ts]
      rfl
    refine ⟨tg, iter, ifs', rfl, soundI it (W := W) (tg := tg) tk G h2, blkOk_by h1,
      (fun s H C cl fp => tgt_ok (X := X.blk s H scope (compEnvC scope cl C X.env) fp) G.calm G.nd h3 fun i hi x hx => ?_),
      (fun s H C cl fp => soundTs ifs (X := X.blk s H scope (compEnvC scope cl C X.env) fp) takes0 (G.blk h10) h6 h7 h8),
      (fun s H C cl fp => soundE el (X := X.blk s H scope (compEnvC scope cl C X.env) fp) takes0 (G.blk h10) h5), noSet_fold h9, own⟩
    rw [List.all_eq_true] at h4
    have q := h4 i hi
    have ex : X.N.getD i "" = x := by rw [List.getD_eq_getElem?_getD]; rw [show X.N[i]? = some x from hx]; rfl
    rw [ex, Bool.or_eq_true] at q
    rcases q with q | q
    · exact .inr (isLoc_of q)
    · refine .inl ?_
      show (scope.names.lookup x == some .cell) = true
      rw [isCell_of q]; rfl
  | [], h => simp [chkE] at h
  | _ :: _ :: _, h => simp [chkE] at h
theorem soundN (tk : Takes X W) {a : E} {e : Expr} (G : Good g n X) (h : chkE g X.N X.env.scope a e = true) (hm : mkNew a = true) :
    PE X e (tN X.K W fun s m => ev g.G (run g.G g.T g.K n) a s m) ∧ ∀ s m w m', ev g.G (run g.G g.T g.K n) a s m = .ok w m' → ∃ ds, w = .p (.lst ds) := by
  cases a <;> try (cases hm; done)
  · rename_i l
    cases e <;> try (simp [chkE] at h; done)
    simp only [chkE] at h
    refine ⟨?_, fun s m w m' q => ?_⟩
    · unfold ev
      exact s_lstN (soundEs l tk G h)
    · unfold ev at q
      obtain ⟨ws, m1, h1, h2⟩ := bind_ok' q
      exact pures_lst h2
  · rename_i el ts it ifs
    cases e <;> try (simp [chkE] at h; done)
    rename_i el' gens scope p
    refine ⟨?_, fun s m w m' q => ?_⟩
    · obtain ⟨tg, iter, ifs', rfl, L⟩ := lc_in (W := W) tk G h
      have := pe_lc (X := X) (pos := p) G.calm G.nd L.pi L.blk L.pg L.pt L.pe L.fold
      rw [L.own] at this
      unfold ev
      exact s_lcN this
    · unfold ev at q
      obtain ⟨_, _, _, h2⟩ := bind_ok' q
      obtain ⟨_, _, _, h4⟩ := bind_ok' h2
      exact lcList_lst h4
  · rename_i a b
    have h' := h
    unfold chkE at h'
    split at h' <;> try (simp at h'; done)
    simp only [Bool.and_eq_true] at h'
    refine ⟨?_, fun s m w m' q => ?_⟩
    · unfold ev
      exact s_catN (soundE a tk G h'.1) (soundE b tk G h'.2)
    · unfold ev at q
      obtain ⟨_, _, _, h2⟩ := bind_ok' q
      obtain ⟨_, _, _, h4⟩ := bind_ok' h2
      exact cat_lst h4
  · rename_i a
    have h' := h
    unfold chkE at h'
    split at h' <;> try (simp at h'; done)
    simp only [Bool.and_eq_true, decide_eq_true_eq] at h'
    obtain ⟨⟨rfl, h1⟩, h2⟩ := h'
    refine ⟨?_, fun s m w m' q => ?_⟩
    · unfold ev
      exact s_srtN (pe_callB (cr_sortedI.or cr_sortedS) (gl_of h1) (G.blt _ (by decide)) PyProof.Rows.boot_sorted (pa_cons (soundE a tk G h2) pa_nil (star_cons (notStar_of h2))) (by decide) (by decide) (star_cons (notStar_of h2)) rfl)
    · unfold ev at q
      obtain ⟨_, _, _, h4⟩ := bind_ok' q
      exact srt_lst h4
theorem tE_tN {K : PySem.W.Frag} {r : Env → M → Res Oh.W} {σ : St} {H : Hp} {Q : VK} (hr : ∀ s m w m', r s m = .ok w m' → ∃ ds, w = .p (.lst ds)) (h : tE K W r σ H Q) : tN K W r σ H Q := by
  obtain ⟨ρ, s, m, B, k⟩ := h
  refine ⟨ρ, s, m, B, ?_⟩
  cases q : r s m with
  | bad => rw [q] at k; exact k
  | exc x m' => rw [q] at k; exact k
  | ok w m' =>
    rw [q] at k
    obtain ⟨ds, rfl⟩ := hr s m w m' q
    exact ⟨ds, rfl, fun p vs ρ' H' l rr rs hp => k _ ρ' _ (l.trans (later_upd rr hp)) (rr.upd hp) (.lst (rr.notLive hp) upd_same (rs.ext (ext_upd hp)))⟩
/-- name = value -/
theorem set_any (tk : Takes X W) {a : E} {e : Expr} {x : Str} {i : Nat} {py pos : Pos} (G : GoodS g n X) (hi : X.N[i]? = some x) (hl : locB X.env.scope x = true) (h : chkE g X.N X.env.scope a e = true) (hs : asgB X.env.scope x py e = true) :
    PS X (.Assign [.Name x py] e pos) (tAsg (tE X.K W fun s m => ev g.G (run g.G g.T g.K n) a s m) (gName i)) ∧
    (mkNew a = true → PS X (.Assign [.Name x py] e pos) (tAsg (tN X.K W fun s m => ev g.G (run g.G g.T g.K n) a s m) (gName i))) := by
  by_cases hc : noComp e = true
  · exact ⟨ps_set G.nd hi (loc_of hl) (soundE a tk G.toGood h) (noComp_swaps hc) (.inl (G.fn x)), fun hm => ps_set G.nd hi (loc_of hl) (soundN tk G.toGood h hm).1 (noComp_swaps hc) (.inl (G.fn x))⟩
  · cases e with
    | ListComp el' gens scope p =>
      simp only [asgB, Bool.and_eq_true, decide_eq_true_eq, Bool.not_eq_true'] at hs
      obtain ⟨⟨⟨k1, k2⟩, k3⟩, k4⟩ := hs
      cases a with
      | lc el ts it ifs =>
        obtain ⟨tg, iter, ifs', rfl, L⟩ := lc_in (W := W) tk G.toGood h
        have P := ps_setLc (X := X) (i := i) (pos := p) (spos := pos) G.calm G.nd hi (isLoc_of k2) (sw_true k1 (isLoc_of k2) k3 k4) L.pi L.blk L.pg L.pt L.pe L.fold
        rw [L.own] at P
        have PN : PS X (.Assign [.Name x py] (.ListComp el' [⟨tg, iter, ifs', 0⟩] scope p) pos) (tAsg (tN X.K W fun s m => ev g.G (run g.G g.T g.K n) (.lc el ts it ifs) s m) (gName i)) := ps_m P fun D σ H h => by
          have h : tN X.K W (fun s m => ev g.G (run g.G g.T g.K n) (.lc el ts it ifs) s m) σ H _ := h
          unfold ev at h
          exact lcN_tt h
        exact ⟨ps_m PN fun D σ H k => tE_tN (soundN (W := W) tk G.toGood h rfl).2 k, fun _ => PN⟩
      | never =>
        refine ⟨⟨fun pins s σ H D I h => ?_⟩, fun hm => by cases hm⟩
        obtain ⟨ρ, s, m, B, k⟩ := h
        unfold ev at k
        exact k.elim
      | me m a b => cases m <;> simp [chkE, noComp] at h
      | _ => simp [chkE, noComp] at h
    | SetComp => simp [asgB, noComp] at hs
    | DictComp => simp [asgB, noComp] at hs
    | _ => exact absurd rfl hc
def isStar : Expr → Bool
  | .Starred _ _ => true
  | _ => false
theorem isStar_no {e : Expr} (h : notStar e = true) : isStar e = false := by cases e <;> first | rfl | cases h
def pickN (env : PySem.Env) (l : Nat) : Expr → Option Str
  | .Name id pos => if env.kindOf id == some .local && pos.line == l then some id else none
  | _ => none
theorem par_swap {x y : Str} {px py pt pt2 : Pos} {kt k2 : Nat} {a b : Expr} {env : PySem.Env} (h : parB env.scope x y px py a b = true) : swappedStores [.Tuple [.Name x px, .Name y py] kt pt] (.Tuple [a, b] k2 pt2) env = pure (some [x, y]) := by
  unfold parB at h
  simp only [Bool.and_eq_true, decide_eq_true_eq, Bool.not_eq_true'] at h
  obtain ⟨⟨⟨⟨⟨⟨⟨⟨k1, k2⟩, k3⟩, k4⟩, k5⟩, k6⟩, k7⟩, k8⟩, k9⟩ := h
  have kx : env.kindOf x = some .local := isLoc_of k2
  have ky : env.kindOf y = some .local := isLoc_of k3
  have hb : env.blockKind = .function := by unfold Env.blockKind; rw [k1]; rfl
  unfold isFold at k8
  unfold isConst at k9
  have s1 := isStar_no k6
  have s2 := isStar_no k7
  have sn : [Expr.Name x px, Expr.Name y py].filterMap (pickN env px.line) = [x, y] := by
    have e1 : pickN env px.line (.Name x px) = some x := by show (if (env.kindOf x == some .local && px.line == px.line) = true then some x else none) = _; rw [kx]; simp
    have e2 : pickN env px.line (.Name y py) = some y := by show (if (env.kindOf y == some .local && py.line == px.line) = true then some y else none) = _; rw [ky, k4]; rfl
    rw [List.filterMap_cons_some e1, List.filterMap_cons_some e2]; rfl
  have dd : [x, y].eraseDups = [x, y] := by
    have : (y == x) = false := by rw [Bool.eq_false_iff] at k5 ⊢; intro e; exact k5 (by rw [beq_iff_eq] at e ⊢; exact e.symm)
    simp [List.eraseDups, List.eraseDupsBy, List.eraseDupsBy.loop, this, k5]
  unfold swappedStores
  refine (if_neg (fun h => ?_)).trans ?_
  · have h' : (env.blockKind != .function) = true := h
    rw [hb] at h'; cases h'
  refine (if_neg (fun h => ?_)).trans ?_
  · have h' : (isStar a || (isStar b || false)) = true := h
    rw [s1, s2] at h'; cases h'
  refine (if_neg (fun h => ?_)).trans ?_
  · have h' : (([Expr.Name x px, Expr.Name y py].filterMap (pickN env px.line)).length != 2 || ([Expr.Name x px, Expr.Name y py].filterMap (pickN env px.line)).eraseDups.length != ([Expr.Name x px, Expr.Name y py].filterMap (pickN env px.line)).length) = true := h
    rw [sn, dd] at h'; cases h'
  refine (if_neg (fun h => ?_)).trans ?_
  · have h' : (foldedForSure 8 a && (foldedForSure 8 b && true)) = true := h
    rw [Bool.and_true, k8] at h'; cases h'
  refine (if_neg (fun h => ?_)).trans ?_
  · have h' : (constantsAlone 8 a && (constantsAlone 8 b && true)) = true := h
    rw [Bool.and_true, k9] at h'; cases h'
  show pure (some ([Expr.Name x px, Expr.Name y py].filterMap (pickN env px.line))) = _
  rw [sn]
theorem par_sole {x y : Str} {px py pt pt2 : Pos} {kt k2 l : Nat} {a b : Expr} {env : PySem.Env} : swapsWithSole [.Tuple [.Name x px, .Name y py] kt pt] (.Tuple [a, b] k2 pt2) l env = pure false := rfl
theorem par_swap3 {x y z : Str} {px py pz pt pt2 : Pos} {kt k2 : Nat} {a b c : Expr} {env : PySem.Env} (h : parB3 env.scope x y z px py pz a b c = true) : swappedStores [.Tuple [.Name x px, .Name y py, .Name z pz] kt pt] (.Tuple [a, b, c] k2 pt2) env = pure (some [x, y, z]) := by
  unfold parB3 at h
  simp only [Bool.and_eq_true, decide_eq_true_eq, Bool.not_eq_true'] at h
  obtain ⟨⟨⟨⟨⟨⟨⟨⟨⟨⟨⟨⟨⟨k1, k2⟩, k3⟩, k3'⟩, k4⟩, k4'⟩, k5⟩, k5'⟩, k5''⟩, k6⟩, k7⟩, k7'⟩, k8⟩, k9⟩ := h
  have kx : env.kindOf x = some .local := isLoc_of k2
  have ky : env.kindOf y = some .local := isLoc_of k3
  have kz : env.kindOf z = some .local := isLoc_of k3'
  have hb : env.blockKind = .function := by unfold Env.blockKind; rw [k1]; rfl
  unfold isFold at k8
  unfold isConst at k9
  have s1 := isStar_no k6
  have s2 := isStar_no k7
  have s3 := isStar_no k7'
  have sn : [Expr.Name x px, Expr.Name y py, Expr.Name z pz].filterMap (pickN env px.line) = [x, y, z] := by
    have e1 : pickN env px.line (.Name x px) = some x := by show (if (env.kindOf x == some .local && px.line == px.line) = true then some x else none) = _; rw [kx]; simp
    have e2 : pickN env px.line (.Name y py) = some y := by show (if (env.kindOf y == some .local && py.line == px.line) = true then some y else none) = _; rw [ky, k4]; rfl
    have e3 : pickN env px.line (.Name z pz) = some z := by show (if (env.kindOf z == some .local && pz.line == px.line) = true then some z else none) = _; rw [kz, k4']; rfl
    rw [List.filterMap_cons_some e1, List.filterMap_cons_some e2, List.filterMap_cons_some e3]; rfl
  have flip : ∀ {u v : Str}, (u == v) = false → (v == u) = false := fun {u v} h => by rw [Bool.eq_false_iff] at h ⊢; intro e; exact h (by rw [beq_iff_eq] at e ⊢; exact e.symm)
  have dd : [x, y, z].eraseDups = [x, y, z] := by
    simp [List.eraseDups, List.eraseDupsBy, List.eraseDupsBy.loop, flip k5, flip k5', flip k5'', k5, k5', k5'']
  unfold swappedStores
  refine (if_neg (fun h => ?_)).trans ?_
  · have h' : (env.blockKind != .function) = true := h
    rw [hb] at h'; cases h'
  refine (if_neg (fun h => ?_)).trans ?_
  · have h' : (isStar a || (isStar b || (isStar c || false))) = true := h
    rw [s1, s2, s3] at h'; cases h'
  refine (if_neg (fun h => ?_)).trans ?_
  · have h' : (([Expr.Name x px, Expr.Name y py, Expr.Name z pz].filterMap (pickN env px.line)).length != 3 || ([Expr.Name x px, Expr.Name y py, Expr.Name z pz].filterMap (pickN env px.line)).eraseDups.length != ([Expr.Name x px, Expr.Name y py, Expr.Name z pz].filterMap (pickN env px.line)).length) = true := h
    rw [sn, dd] at h'; cases h'
  refine (if_neg (fun h => ?_)).trans ?_
  · have h' : (foldedForSure 8 a && (foldedForSure 8 b && (foldedForSure 8 c && true))) = true := h
    rw [Bool.and_true, k8] at h'; cases h'
  refine (if_neg (fun h => ?_)).trans ?_
  · have h' : (constantsAlone 8 a && (constantsAlone 8 b && (constantsAlone 8 c && true))) = true := h
    rw [Bool.and_true, k9] at h'; cases h'
  show pure (some ([Expr.Name x px, Expr.Name y py, Expr.Name z pz].filterMap (pickN env px.line))) = _
  rw [sn]
theorem noComp_sole {t e : Expr} {l : Nat} {env : PySem.Env} (h : noComp e = true) : swapsWithSole [t] e l env = pure false := noComp_swaps h
theorem notTup_stores {es : List Expr} {k : Nat} {p : Pos} {e : Expr} {env : PySem.Env} (h : notTup e = true) : swappedStores [.Tuple es k p] e env = pure none := by
  cases e <;> first | rfl | cases h
theorem fm_lt {α β : Type} {f : α → Option β} : ∀ {l : List α}, (∃ x ∈ l, f x = none) → (l.filterMap f).length < l.length
  | [], ⟨_, h, _⟩ => by cases h
  | y :: l, ⟨x, hx, hn⟩ => by
    rcases List.mem_cons.mp hx with rfl | hx
    · rw [List.filterMap_cons_none hn]
      exact Nat.lt_succ_of_le (List.length_filterMap_le _ _)
    · have ih := fm_lt ⟨x, hx, hn⟩
      cases q : f y with
      | none => rw [List.filterMap_cons_none q]; exact Nat.lt_succ_of_lt ih
      | some z => rw [List.filterMap_cons_some q]; exact Nat.succ_lt_succ ih
theorem nonLoc_stores {es : List Expr} {k : Nat} {p : Pos} {e : Expr} {env : PySem.Env} (h : es.any (nonLoc env.scope) = true) : swappedStores [.Tuple es k p] e env = pure none := by
  cases e <;> first | rfl | skip
  rename_i vs k2 p2
  obtain ⟨t, ht, hn⟩ := List.any_eq_true.mp h
  have hp : ∀ l, pickN env l t = none := fun l => by
    cases t <;> first | rfl | skip
    rename_i x px
    have hx : env.kindOf x ≠ some .local := fun e => by
      have e' : env.scope.names.lookup x = some .local := e
      simp [nonLoc, isLoc, e'] at hn
    show (if (env.kindOf x == some .local && px.line == l) = true then some x else none) = none
    rw [if_neg]
    intro q
    rw [Bool.and_eq_true] at q
    exact hx (beq_iff_eq.mp q.1)
  unfold swappedStores
  simp only []
  split
  · rfl
  · split
    · rfl
    · refine (if_pos ?_).trans rfl
      have lt := fm_lt (f := pickN env ((es.head?.map (·.pos.line)).getD 0)) ⟨t, ht, hp _⟩
      have : ((es.filterMap (pickN env ((es.head?.map (·.pos.line)).getD 0))).length != es.length) = true := by
        rw [bne_iff_ne]; omega
      show ((es.filterMap (pickN env ((es.head?.map (·.pos.line)).getD 0))).length != es.length || _) = true
      rw [this]; rfl
theorem sub_assign {o i : Expr} {pos : Pos} {env : PySem.Env} (h : noSlice i = true) : ∀ v, assign (.Subscript o i pos) env v = (do
      let ov ← holding [v] (eval o env)
      let iv ← holding [v, ov] (eval i env)
      standAt pos
      holding [v, ov, iv] (setItem ov iv v)
      release [v, ov, iv] []) := by
  intro v
  cases i <;> first | rfl | cases h
theorem bind_test_S {r : Res Oh.W} {s : Env} {f : Bool → M → Res Fl} : (r.bindS s fun w m1 => (test w m1).bindS s f) = (r.bind test).bindS s f := by
  cases r with
  | ok w m =>
    simp only [Res.bindS_ok, Res.bind_ok]
  | exc x m => rfl
  | bad => rfl
mutual
theorem soundS (a : S) {X : Cx} {W : WX} {st : Stmt} (tk : Takes X W) (G : GoodS g n X) (h : chkS g X.N X.env.scope a st = true) : PS X st (tS X.K W fun s m => ex g.G (run g.G g.T g.K n) g.K a s m) := by
  cases a with
  | never => unfold ex; exact s_snever
  | expr e =>
    cases st <;> try (simp [chkS] at h; done)
    simp only [chkS, Bool.and_eq_true] at h
    unfold ex
    exact s_expr (soundE e tk G.toGood h.1) (noComp_swaps h.2)
  | set i e =>
    cases st <;> try (simp [chkS] at h; done)
    rename_i tgs e' pos
    match tgs, h with
    | [.Name x py], h =>
      simp only [chkS, Bool.and_eq_true, decide_eq_true_eq] at h
      obtain ⟨⟨⟨h1, h2⟩, h3⟩, h4⟩ := h
      unfold ex
      exact s_set (set_any tk G h1 h2 h3 h4).1
  | setc i e =>
    cases st <;> try (simp [chkS] at h; done)
    rename_i tgs e' pos
    match tgs, h with
    | [.Name x py], h =>
      simp only [chkS, Bool.and_eq_true, decide_eq_true_eq] at h
      obtain ⟨⟨⟨⟨h1, h2⟩, h3⟩, h4⟩, h5⟩ := h
      unfold ex
      exact s_setc ((set_any tk G h1 h2 h3 h4).2 h5) (soundN (W := W) tk G.toGood h3 h5).2
  | tset is e =>
    cases st <;> try (simp [chkS] at h; done)
    rename_i tgs e' pos
    match tgs, h with
    | [.Tuple es k p], h =>
      simp only [chkS, Bool.and_eq_true, decide_eq_true_eq] at h
      obtain ⟨⟨⟨⟨h1, h2⟩, h3⟩, h4⟩, h5⟩ := h
      have hg : PG X (.Tuple es k p) (gOf X.K is) := tgt_ok G.calm G.nd (by
        match is, h1, h2 with
        | [], _, h2 => simp at h2
        | [_], _, h2 => simp at h2
        | _ :: _ :: _, h1, _ => exact h1) fun i _ x _ => .inl (G.fn x)
      have hw : swappedStores [.Tuple es k p] e' X.env = pure none := by
        rcases Bool.or_eq_true_iff.mp h5 with z | z
        · exact notTup_stores z
        · exact nonLoc_stores z
      have P := ps_asg (pos := pos) (soundE e (W := W) tk G.toGood h3) hg (noComp_sole h4) hw
      refine ps_m P fun D σ H ⟨ρ, s, m, B, k⟩ => ?_
      unfold ex at k
      refine seqS B k fun w m1 x ρ1 H1 l1 B1 r1 k1 => ?_
      obtain ⟨d, hd, k2⟩ := ofO_S k1
      obtain ⟨s1, hs, k3⟩ := ofO_S k2
      cases w with
      | c n => cases hd
      | p d' =>
        cases hd
        exact g_ok hs (B1.env.x is) r1 fun σ2 renv2 _ => k3 σ2 ρ1 H1 (Later.refl ..) ⟨renv2, B1.rel⟩
  | par i j a b =>
    cases st <;> try (simp [chkS] at h; done)
    rename_i tgs e' pos
    match tgs, e', h with
    | [.Tuple [.Name x px, .Name y py] k p], .Tuple [a', b'] k2 p2, h =>
      simp only [chkS, Bool.and_eq_true, decide_eq_true_eq] at h
      obtain ⟨⟨⟨⟨⟨h1, h2⟩, h3⟩, h4⟩, h5⟩, h6⟩ := h
      have h6' := h6
      unfold parB at h6'
      simp only [Bool.and_eq_true, decide_eq_true_eq] at h6'
      unfold ex
      refine s_par (ps_par G.calm G.nd h1 h2 h3 (isLoc_of h6'.1.1.1.1.1.1.1.2) (isLoc_of h6'.1.1.1.1.1.1.2) (s_cons (soundE a tk G.toGood h4) (s_cons (soundE b tk G.toGood h5) s_nil (star_cons (notStar_of h5))) (star_cons (notStar_of h4))) (par_swap h6) par_sole) fun s m => ?_
      cases ev g.G (run g.G g.T g.K n) a s m with
      | ok w m1 =>
        simp only [Res.bind_ok]
        cases ev g.G (run g.G g.T g.K n) b s m1 <;> rfl
      | exc x m => rfl
      | bad => rfl
  | parl i j a =>
    cases st <;> try (simp [chkS] at h; done)
    rename_i tgs e' pos
    match tgs, e', h with
    | [.Tuple [.Name x px, .Name y py] k p], .Tuple [a', .List [] lp] k2 p2, h =>
      simp only [chkS, Bool.and_eq_true, decide_eq_true_eq] at h
      obtain ⟨⟨⟨⟨h1, h2⟩, h3⟩, h4⟩, h6⟩ := h
      have h6' := h6
      unfold parB at h6'
      simp only [Bool.and_eq_true, decide_eq_true_eq] at h6'
      unfold ex
      exact s_parl (ps_par G.calm G.nd h1 h2 h3 (isLoc_of h6'.1.1.1.1.1.1.1.2) (isLoc_of h6'.1.1.1.1.1.1.2) (pa_cons (soundE a tk G.toGood h4) (pa_cons (pe_lst pa_nil) pa_nil rfl) (star_cons (notStar_of h4))) (par_swap h6) par_sole)
  | setd i =>
    cases st <;> try (simp [chkS] at h; done)
    rename_i tgs e' pos
    match tgs, e', h with
    | [.Name x py], .Dict [] [] p, h =>
      simp only [chkS, Bool.and_eq_true, decide_eq_true_eq] at h
      unfold ex
      exact s_setd (ps_set G.nd h.1 (loc_of h.2) pe_dnewK (noComp_swaps rfl) (.inl (G.fn x)))
  | setdn i e =>
    have h' := h
    unfold chkS at h'
    split at h' <;> try (simp at h'; done)
    all_goals (rename_i he; cases he)
    simp only [Bool.and_eq_true, decide_eq_true_eq] at h'
    obtain ⟨⟨⟨⟨h1, h2⟩, rfl⟩, h3⟩, h4⟩ := h'
    unfold ex
    exact s_setdn (ps_set G.nd h1 (loc_of h2) (pe_callTy (call_dictP G.calm) (gl_of h3) (G.blt _ (by decide)) PyProof.Rows.boot_dict (pa_cons (soundE e tk G.toGood h4) pa_nil (star_cons (notStar_of h4))) (by decide) (by decide) (star_cons (notStar_of h4)) rfl) (noComp_swaps rfl) (.inl (G.fn _)))
  | tsd i j e =>
    have h' := h
    unfold chkS at h'
    split at h' <;> try (simp at h'; done)
    all_goals (rename_i he; cases he)
    simp only [Bool.and_eq_true] at h'
    obtain ⟨⟨h1, h2⟩, h3⟩ := h'
    unfold ex
    exact s_tsd (ps_asg (pe_tup (pa_cons (soundE e tk G.toGood h2) (pa_cons pe_dnewK pa_nil rfl) (star_cons (notStar_of h2)))) (tgt_ok G.calm G.nd h1 fun i _ x _ => .inl (G.fn x)) (noComp_sole rfl) (nonLoc_stores h3))
  | par3 i j l a b c =>
    cases st <;> try (simp [chkS] at h; done)
    rename_i tgs e' pos
    match tgs, e', h with
    | [.Tuple [.Name x px, .Name y py, .Name z pz] k p], .Tuple [a', b', c'] k2 p2, h =>
      simp only [chkS, Bool.and_eq_true, decide_eq_true_eq] at h
      obtain ⟨⟨⟨⟨⟨⟨⟨⟨⟨h1, h2⟩, h3⟩, h4⟩, h5⟩, h6⟩, h7⟩, h8⟩, h9⟩, h10⟩ := h
      have hh := h10
      unfold parB3 at hh
      simp only [Bool.and_eq_true, decide_eq_true_eq] at hh
      unfold ex
      refine s_par3 (ps_par3 G.calm G.nd h1 h2 h3 h4 h5 h6 (isLoc_of hh.1.1.1.1.1.1.1.1.1.1.1.1.2) (isLoc_of hh.1.1.1.1.1.1.1.1.1.1.1.2) (isLoc_of hh.1.1.1.1.1.1.1.1.1.1.2) (s_cons (soundE a tk G.toGood h7) (s_cons (soundE b tk G.toGood h8) (s_cons (soundE c tk G.toGood h9) s_nil (star_cons (notStar_of h9))) (star_cons (notStar_of h8))) (star_cons (notStar_of h7))) (par_swap3 h10) rfl) fun s m => ?_
      cases ev g.G (run g.G g.T g.K n) a s m with
      | ok w m1 =>
        simp only [Res.bind_ok]
        cases ev g.G (run g.G g.T g.K n) b s m1 with
        | ok w m2 =>
          simp only [Res.bind_ok]
          cases ev g.G (run g.G g.T g.K n) c s m2 <;> rfl
        | exc x m => rfl
        | bad => rfl
      | exc x m => rfl
      | bad => rfl
  | sub i k v =>
    cases st <;> try (simp [chkS] at h; done)
    rename_i tgs e' pos
    match tgs, h with
    | [.Subscript (.Name x p) k' p2], h =>
      simp only [chkS, Bool.and_eq_true, decide_eq_true_eq] at h
      obtain ⟨⟨⟨⟨⟨⟨h1, h2⟩, h3⟩, h4⟩, h5⟩, h6⟩, h7⟩ := h
      unfold ex
      have hx : chkE g X.N X.env.scope (.loc i) (.Name x p) = true := by simp only [chkE, Bool.and_eq_true, decide_eq_true_eq]; exact ⟨⟨h1, h2⟩, h3⟩
      exact s_sub (ps_asg (soundE v tk G.toGood h6) (pg_sub (soundE (.loc i) tk G.toGood hx) (soundE k tk G.toGood h4) (set_any2 (by have := G.room.units; omega)) (sub_assign h5)) (noComp_sole h7))
  | app i e =>
    cases st <;> try (simp [chkS] at h; done)
    rename_i e' pos
    match e', h with
    | .Call (.Attribute (.Name x p) nm apos) [a] [] cpos, h =>
      simp only [chkS, Bool.and_eq_true, decide_eq_true_eq] at h
      obtain ⟨⟨⟨⟨⟨h1, h2⟩, h3⟩, rfl⟩, h4⟩, h5⟩ := h
      unfold ex
      have hx : chkE g X.N X.env.scope (.loc i) (.Name x p) = true := by simp only [chkE, Bool.and_eq_true, decide_eq_true_eq]; exact ⟨⟨h1, h2⟩, h3⟩
      have ns := star_cons (es := []) (env := X.env) (notStar_of h5)
      refine s_app (ps_expr (pe_bm PySem.F.plainAttrs_list PySem.F.slot_list_append PySem.F.type_list_append mt_append (soundE (.loc i) tk G.toGood hx) (pa_cons (soundE e tk G.toGood h5) pa_nil ns) rfl ?_ h4 ns rfl) rfl)
      rw [ns]; rfl
  | ext i e =>
    cases st <;> try (simp [chkS] at h; done)
    rename_i e' pos
    match e', h with
    | .Call (.Attribute (.Name x p) nm apos) [a] [] cpos, h =>
      simp only [chkS, Bool.and_eq_true, decide_eq_true_eq] at h
      obtain ⟨⟨⟨⟨⟨h1, h2⟩, h3⟩, rfl⟩, h4⟩, h5⟩ := h
      unfold ex
      have hx : chkE g X.N X.env.scope (.loc i) (.Name x p) = true := by simp only [chkE, Bool.and_eq_true, decide_eq_true_eq]; exact ⟨⟨h1, h2⟩, h3⟩
      have ns := star_cons (es := []) (env := X.env) (notStar_of h5)
      refine s_ext (ps_expr (pe_bm PySem.F.plainAttrs_list PySem.F.slot_list_extend PySem.F.type_list_extend mt_extend (soundE (.loc i) tk G.toGood hx) (pa_cons (soundE e tk G.toGood h5) pa_nil ns) rfl ?_ h4 ns rfl) rfl)
      rw [ns]; rfl
  | appx o e =>
    cases st <;> try (simp [chkS] at h; done)
    rename_i e' pos
    match e', h with
    | .Call (.Attribute o' nm apos) [a] [] cpos, h =>
      simp only [chkS, Bool.and_eq_true, decide_eq_true_eq] at h
      obtain ⟨⟨⟨⟨h1, h2⟩, rfl⟩, h4⟩, h5⟩ := h
      unfold ex
      have ns := star_cons (es := []) (env := X.env) (notStar_of h5)
      refine s_app (ps_expr (pe_bm PySem.F.plainAttrs_list PySem.F.slot_list_append PySem.F.type_list_append mt_append (soundE o tk G.toGood h1) (pa_cons (soundE e tk G.toGood h5) pa_nil ns) (noCall_base h2) ?_ h4 ns rfl) rfl)
      rw [ns]; rfl
  | clrx o =>
    cases st <;> try (simp [chkS] at h; done)
    rename_i e' pos
    match e', h with
    | .Call (.Attribute o' nm apos) [] [] cpos, h =>
      simp only [chkS, Bool.and_eq_true, decide_eq_true_eq] at h
      obtain ⟨⟨⟨h1, h2⟩, rfl⟩, h4⟩ := h
      unfold ex
      exact s_clrx (ps_expr (pe_bm0 PySem.F.plainAttrs_list PySem.F.slot_list_clear PySem.F.type_list_clear mt_clear (soundE o tk G.toGood h1) (noCall_base h2) h4) rfl)
  | insx i k v =>
    cases st <;> try (simp [chkS] at h; done)
    rename_i e' pos
    match e', h with
    | .Call (.Attribute (.Name x p) nm apos) [k', v'] [] cpos, h =>
      simp only [chkS, Bool.and_eq_true, decide_eq_true_eq] at h
      obtain ⟨⟨⟨⟨⟨⟨h1, h2⟩, h3⟩, rfl⟩, h4⟩, h5⟩, h6⟩ := h
      unfold ex
      have hx : chkE g X.N X.env.scope (.loc i) (.Name x p) = true := by simp only [chkE, Bool.and_eq_true, decide_eq_true_eq]; exact ⟨⟨h1, h2⟩, h3⟩
      have ns := star_cons (es := [v']) (env := X.env) (notStar_of h5)
      have ns2 := star_cons (es := []) (env := X.env) (notStar_of h6)
      refine s_insx (ps_expr (pe_bm PySem.F.plainAttrs_list PySem.F.slot_list_insert PySem.F.type_list_insert mt_insert (soundE (.loc i) tk G.toGood hx) (pa_cons (soundE k tk G.toGood h5) (pa_cons (soundE v tk G.toGood h6) pa_nil ns2) ns) rfl ?_ h4 ns ?_) rfl)
      · rw [ns, ns2]; rfl
      · rw [ns2]; rfl
  | popd i k => cases st <;> simp [chkS] at h
  | tsw is es => cases st <;> simp [chkS] at h
  | fset i f e =>
    cases st <;> try (simp [chkS] at h; done)
    rename_i tgs e' pos
    match tgs, h with
    | [.Attribute (.Name x p) nm p2], h =>
      simp only [chkS, Bool.and_eq_true, decide_eq_true_eq] at h
      obtain ⟨⟨⟨⟨⟨⟨h1, h2⟩, h3⟩, rfl⟩, h4⟩, h5⟩, h6⟩ := h
      unfold ex
      have hx : chkE g X.N X.env.scope (.loc i) (.Name x p) = true := by simp only [chkE, Bool.and_eq_true, decide_eq_true_eq]; exact ⟨⟨h1, h2⟩, h3⟩
      exact s_fset h4 (ps_fld (soundE (.loc i) tk G.toGood hx) (soundE e tk G.toGood h5) (noComp_swaps h6))
  | frz i => simp [chkS] at h
  | ret e =>
    cases st <;> try (simp [chkS] at h; done)
    rename_i o pos
    cases o with
    | none =>
      cases e <;> simp only [chkS, reduceCtorEq] at h
      refine ps_m ps_retN fun D σ H ⟨ρ, s, m, B, k⟩ => ?_
      unfold ex ev at k
      exact k .non ρ H (Later.refl ..) B.rel .non
    | some e' =>
      simp only [chkS] at h
      unfold ex
      exact s_ret (soundE e tk G.toGood h)
  | retc e =>
    cases st <;> try (simp [chkS] at h; done)
    rename_i o pos
    cases o <;> simp only [chkS, Bool.and_eq_true, reduceCtorEq] at h
    unfold ex
    exact s_retc (soundN (W := W) tk G.toGood h.1 h.2).1 (soundN (W := W) tk G.toGood h.1 h.2).2
  | retl i =>
    cases st <;> try (simp [chkS] at h; done)
    rename_i o pos
    cases o <;> simp only [chkS, reduceCtorEq] at h
    unfold ex
    exact s_retl (soundE (.loc i) tk G.toGood h) fun s m n hs => by unfold ev; rw [hs]
  | setl i q es => cases st <;> simp [chkS] at h
  | addl i q es => cases st <;> simp [chkS] at h
  | ite c a b =>
    cases st <;> try (simp [chkS] at h; done)
    simp only [chkS, Bool.and_eq_true] at h
    obtain ⟨⟨⟨h1, h2⟩, h3⟩, h4⟩ := h
    unfold ex
    simp only [bind_test_S]
    exact s_if (soundT c tk G.toGood h1 h2) (soundSs a tk G h3) (soundSs b tk G h4)
  | for_ ts it b =>
    cases st <;> try (simp [chkS] at h; done)
    rename_i tg iter b' els pos
    cases els <;> simp only [chkS, Bool.and_eq_true, reduceCtorEq] at h
    obtain ⟨⟨⟨h1, h2⟩, h3⟩, h4⟩ := h
    unfold ex
    exact s_for (ps_for G.own G.calm (soundI it tk G.toGood h1) (tgt_ok G.calm G.nd h2 fun i _ x _ => .inl (G.fn x)) (soundSs b tk G h4) (noSet_fold h3))
  | while_ c b =>
    cases st <;> try (simp [chkS] at h; done)
    rename_i c' b' els pos
    cases els <;> simp only [chkS, Bool.and_eq_true, reduceCtorEq] at h
    obtain ⟨⟨h1, h2⟩, h3⟩ := h
    unfold ex
    exact s_while g.K (ps_while G.own (soundT c tk G.toGood h1 h2) (soundSs b tk G h3))
  | tri b =>
    cases st <;> try (simp [chkS] at h; done)
    rename_i b' hs els fin pos
    match hs, els, fin, h with
    | h0 :: hs, [], [], h =>
      simp only [chkS] at h
      unfold ex
      exact s_tri (soundSs b (X := X.nox) (W := W0) takes0 G.nox h)
    | [], _, _, h => simp [chkS] at h
    | _ :: _, _ :: _, _, h => simp [chkS] at h
    | _ :: _, [], _ :: _, h => simp [chkS] at h
  | raise c l =>
    have h' := h
    unfold chkS at h'
    split at h' <;> try (simp at h'; done)
    all_goals (rename_i he; cases he)
    simp only [Bool.and_eq_true, decide_eq_true_eq] at h'
    obtain ⟨⟨⟨⟨rfl, h1⟩, h2⟩, h3⟩, h4⟩ := h'
    have ns := noStars_of h3
    simp only [noStars, Bool.and_eq_true] at ns
    unfold ex
    exact s_raise tk G.calm (G.room.mono (by omega)) (G.xcs c h2) (gl_of h1) h4 (soundEs l tk G.toGood h3) (star_cons ns.1) (stars_no ns.2) fun s m ws m' e => by rw [evs_len e, chkEs_len h3]; rfl
  | brk =>
    cases st <;> try (simp [chkS] at h; done)
    unfold ex
    exact s_brk
  | cont =>
    cases st <;> try (simp [chkS] at h; done)
    unfold ex
    exact s_cont
  | pass =>
    cases st <;> try (simp [chkS] at h; done)
    unfold ex
    exact s_pass
termination_by (sizeOf a, 0)
theorem soundSs (l : List S) {X : Cx} {W : WX} {sts : List Stmt} (tk : Takes X W) (G : GoodS g n X) (h : chkSs g X.N X.env.scope l sts = true) : PSs X sts (tS X.K W fun s m => exs g.G (run g.G g.T g.K n) g.K l s m) := by
  match l, sts, h with
  | [], [], h => unfold exs; exact s_snil
  | [], _ :: _, h => simp [chkSs] at h
  | a :: l, sts, h =>
    by_cases hf : ∃ i, a = .frz i
    · obtain ⟨i, rfl⟩ := hf
      have h' : chkSs g X.N X.env.scope l sts = true := by
        cases sts <;> simpa only [chkSs] using h
      unfold exs
      have := s_frz (W := W) (i := i) (soundSs l tk G h')
      unfold ex
      exact this
    · cases sts with
      | nil => cases a <;> simp [chkSs] at h; exact absurd ⟨_, rfl⟩ hf
      | cons st sts =>
        have h' : chkS g X.N X.env.scope a st = true ∧ chkSs g X.N X.env.scope l sts = true := by
          cases a <;> first | exact absurd ⟨_, rfl⟩ hf | simpa only [chkSs, Bool.and_eq_true] using h
        unfold exs
        exact s_scons (soundS a tk G h'.1) (soundSs l tk G h'.2)
termination_by (sizeOf l, 0)
end
end
end Oh

set_option Elab.async false
set_option linter.all false
set_option maxRecDepth 100000
set_option maxHeartbeats 4000000
set_option autoImplicit false
/-! OhF: every def of a checked table keeps the evaluator's promise -/
namespace Oh
open PySem L2
variable [Lcl]
/-- a def stands as the table says -/
structure DefIs (g : Gx) (K : PySem.W.Frag) (mg : Str → Option Value) (f : Nat) (fd : Fd) (a : Addr) (dat : FuncData) (x qual : Str) (params : Arguments) (body : List Stmt) (scope : Scope) (dvs : List V) (kws : List (Str × V)) (N ps : List Str) : Prop where
  fun_ : FunD K x qual params body scope dvs kws a dat
  sc : FnScope N ps scope
  slots : N.length = fd.slots
  pars : ps.length = fd.ps
  chk : chkSs g.noL N scope fd.body body = true
  at_ : locF g K mg f a
  bind : ∀ k, k ≤ fd.dfl.length → ∃ dvs ds, Binds K dat ps ds ∧ Vals dvs ds ∧ ∀ L H, Reps K L H dvs (fd.dfl.drop k)
  kb : ∀ q ∈ fd.kbs, KbOk K dat ps fd q
def DefAt (g : Gx) (K : PySem.W.Frag) (mg : Str → Option Value) (f : Nat) (fd : Fd) : Prop := ∃ a dat x qual params body scope dvs kws N ps, DefIs g K mg f fd a dat x qual params body scope dvs kws N ps
/-- a class that may be made -/
structure MkIn (K : PySem.W.Frag) (mg : Str → Option Value) (c : Nat) : Prop where
  mg : mg (clsStr c) = some (.ref (He.ga K (clsStr c)))
  makes : PySem.W.makesIn K (He.ga K (clsStr c)) = true
  kp : PySem.W.keepIn K (.ref (He.ga K (clsStr c))) = true
  ok : ClsOk K c
structure Wd (g : Gx) (K : PySem.W.Frag) (mg : Str → Option Value) : Prop where
  glb : ∀ k d, k < 1000 → g.G k = some d → ∃ v u, mg (g.gname k) = some u ∧ RelV v u ∧ ∀ L H, Rep K L H v d
  blt : ∀ x ∈ bltNames, mg x = none
  defs : ∀ f fd, g.T f = some fd → DefAt g K mg f fd
  con : ∀ c f d, f < manyAt → g.G (mnum c f) = some d → isDef (some d) = false → ConAt K c f d
  mth : ∀ c f, f < manyAt → isFn (g.G (mnum c f)) = true → c < manyCls ∧ ∃ fd, g.T (mnum c f) = some fd
  cmt : ∀ c f, f < manyAt → isCm (g.G (mnum c f)) = true → mg (clsStr c) = some (.ref (He.ga K (clsStr c)))
  mks : ∀ c, isFn (g.G (mnum c 0)) = true → MkIn K mg c
  kit : KitAt K g.G
  xcs : ∀ c, isXc (g.G (mnum c 0)) = true → XcAt K mg c
  why : ∀ q, g.lq = some q → WhyAt K mg g.G
/-- a promise without errors -/
def spD0 (K : PySem.W.Frag) (fn : List Oh.W → M → Res Oh.W) (n : Nat) : Sp := fun vs H Q _ => vs.length = n ∧ ∃ ρ m ws, Rel K ρ m H ∧ RepWs K ρ (lives ρ m) H vs ws ∧
  Aft (fun _ _ => False) (fn ws m) fun w m' => ∀ v ρ' H', Later ρ m H ρ' m' H' → Rel K ρ' m' H' → RepW K ρ' (lives ρ' m') H' v w → Q v H'
section
variable {g : Gx} {K : PySem.W.Frag} {mg : Str → Option Value} {P : Program} {w : World} {base : Heap}
theorem fn_step (Z : Wd g K mg) (n : Nat) (IH : ∀ (f : Nat) (fd : Fd) (a : Addr) (dat : FuncData) (x qual : Str) (params : Arguments) (body : List Stmt) (scope : Scope) (dvs : List V) (kws : List (Str × V)) (N ps : List Str), g.T f = some fd → DefIs g K mg f fd a dat x qual params body scope dvs kws N ps →
      FnOk P w K mg base (L2.CX P w) (5 * n) a dat ps (spD K (run g.G g.T g.K n f) fd.ps))
    {f : Nat} {fd : Fd} {a : Addr} {dat : FuncData} {x qual : Str} {params : Arguments} {body : List Stmt} {scope : Scope} {dvs : List V} {kws : List (Str × V)} {N ps : List Str} (hT : g.T f = some fd) (I : DefIs g K mg f fd a dat x qual params body scope dvs kws N ps) :
    FnOk P w K mg base (L2.CX P w) (5 * (n + 1)) a dat ps (spD K (run g.G g.T g.K (n + 1) f) fd.ps) := by
  refine I.fun_.ok I.sc (fun vs H Q E h => h.1.trans I.pars.symm) fun cdv A outer s H vs Q E hr h => ?_
  have G : GoodS g.noL n (cxOf (L2.CX P w) P w K mg base N qual scope a cdv A outer s H E) := {
    calm := rfl
    nd := I.sc.nd
    room := Room.mono (k := 5 * n + 4) hr (by omega)
    glb := Z.glb
    blt := Z.blt
    fns := fun f' fd' h' => by
      obtain ⟨a', dat', x', qual', params', body', scope', dvs', kws', N', ps', I'⟩ := Z.defs f' fd' h'
      exact ⟨a', dat', ps', I'.at_, I'.fun_.kp, I'.pars, IH f' fd' a' dat' x' qual' params' body' scope' dvs' kws' N' ps' h' I', I'.bind, I'.kb⟩
    con := Z.con
    mth := Z.mth
    cmt := Z.cmt
    kit := Z.kit
    mks := fun c h => ⟨(Z.mks c h).mg, (Z.mks c h).makes, (Z.mks c h).kp, (Z.mks c h).ok⟩
    fn := fun _ => rfl
    own := passes_of rfl
    xcs := Z.xcs
    lam := fun q h _ => by cases h
    why := fun q h => by cases h }
  refine ⟨_, soundSs (g := g.noL) (W := fun c d _ H' => E c d H') fd.body (takes_of rfl rfl rfl rfl) G I.chk, ?_⟩
  obtain ⟨hl, ρ, m, ws, rel, reps, k⟩ := h
  have lw : ws.length = fd.ps := by rw [← reps.length]; exact hl
  refine ⟨ρ, (ws.map some ++ List.replicate (fd.slots - fd.ps) none), m, ⟨?_, rel⟩, ?_⟩
  · have := renv_start reps (fd.slots - fd.ps)
    show REnv K ρ (lives ρ m) H (L2.start N vs) _
    unfold L2.start
    rw [I.slots, hl]
    exact this
  · unfold run at k
    rw [hT] at k
    simp only [] at k
    unfold runFd at k
    rw [fill_full fd lw, if_pos lw] at k
    exact leave_ok (σ := L2.start N vs) (s := []) rel (fun _ _ _ _ h => h) k
theorem fn_ok (Z : Wd g K mg) : ∀ (n f : Nat) (fd : Fd) (a : Addr) (dat : FuncData) (x qual : Str) (params : Arguments) (body : List Stmt) (scope : Scope) (dvs : List V) (kws : List (Str × V)) (N ps : List Str), g.T f = some fd → DefIs g K mg f fd a dat x qual params body scope dvs kws N ps →
    FnOk P w K mg base (L2.CX P w) (5 * n) a dat ps (spD K (run g.G g.T g.K n f) fd.ps)
  | 0, f, fd, a, dat, x, qual, params, body, scope, dvs, kws, N, ps, hT, I => ⟨fun vs H Q E h => h.1.trans I.pars.symm, fun A outer s H args us vs Q E hr he hb hv h => by
      obtain ⟨_, ρ, m, ws, _, _, k⟩ := h
      exact k.elim⟩
  | n + 1, f, fd, a, dat, x, qual, params, body, scope, dvs, kws, N, ps, hT, I => fn_step Z n (fn_ok Z n) hT I
theorem lam_at {CX : CXT} {N : List Str} {qual name : Str} {params : Arguments} {body : List Stmt} {scope : Scope} {a : Addr} {dV kV doc pm cdv ct oc : Value} {an od : Option Addr} {osl : Array (Option Value)} {A : Around} {outer : List PySem.Env} {s : Shared} {H : Hp} {E : XK} {q : Str} (hcd : PySem.W.codeIn K cdv qual = true)
    (lk : K.lookup a = some ⟨oc, od, .func (PySem.W.fnOf name qual params body scope dV kV doc pm an cdv ct), osl⟩) (h : a = He.fAd K ("law", none) ∧ lamQ (qual ++ ".<locals>.") = q ∧ LamX.TabB base mg (He.cT K ("law", none)).1 (tabP K)) : LamAt (cxOf CX P w K mg base N qual scope a cdv A outer s H E) q := by
  obtain ⟨e1, e2, e3⟩ := h
  obtain ⟨c, ec⟩ := He.codeIn_ref hcd
  have e4 : (He.cT K ("law", none)).1 = c := He.codeOf_eq (p := ("law", none)) (e1 ▸ lk) ec
  rw [e4] at e3
  exact ⟨⟨c, ec, e3, e2⟩⟩
/-- the law's own def: nothing is let out -/
theorem fn_top0 (Z : Wd g K mg) (n : Nat) (IH : ∀ (f : Nat) (fd : Fd) (a : Addr) (dat : FuncData) (x qual : Str) (params : Arguments) (body : List Stmt) (scope : Scope) (dvs : List V) (kws : List (Str × V)) (N ps : List Str), g.T f = some fd → DefIs g K mg f fd a dat x qual params body scope dvs kws N ps →
      FnOk P w K mg base (L2.CX P w) (5 * n) a dat ps (spD K (run g.G g.T g.K n f) fd.ps))
    {fd : Fd} {a : Addr} {dat : FuncData} {x qual : Str} {params : Arguments} {body : List Stmt} {scope : Scope} {dvs : List V} {kws : List (Str × V)} {N ps : List Str} (F : FunD K x qual params body scope dvs kws a dat) (S : FnScope N ps scope) (slots : N.length = fd.slots) (pars : ps.length = fd.ps) (chk : chkSs g N scope fd.body body = true)
    (hL : ∀ q, g.lq = some q → a = He.fAd K ("law", none) ∧ lamQ (qual ++ ".<locals>.") = q ∧ LamX.TabB base mg (He.cT K ("law", none)).1 (tabP K)) :
    FnOk P w K mg base CX0 (5 * (n + 1)) a dat ps (spD0 K (fun ws m => runFd g.G (run g.G g.T g.K n) g.K fd ws m) fd.ps) := by
  obtain ⟨oc, od, dV, kV, doc, pm, an, cdv, ct, osl, rfl, lk, hcd, _, _⟩ := F.ex
  refine fn_of (k := 5 * n + 4) lk hcd S (fun vs H Q E h => h.1.trans pars.symm) fun A outer s H vs Q E hr h => ?_
  have G : GoodS g n (cxOf CX0 P w K mg base N qual scope a cdv A outer s H E) := {
    calm := rfl
    nd := S.nd
    room := Room.mono (k := 5 * n + 4) hr (by omega)
    glb := Z.glb
    blt := Z.blt
    fns := fun f' fd' h' => by
      obtain ⟨a', dat', x', qual', params', body', scope', dvs', kws', N', ps', I'⟩ := Z.defs f' fd' h'
      exact ⟨a', dat', ps', I'.at_, I'.fun_.kp, I'.pars, IH f' fd' a' dat' x' qual' params' body' scope' dvs' kws' N' ps' h' I', I'.bind, I'.kb⟩
    con := Z.con
    mth := Z.mth
    cmt := Z.cmt
    kit := Z.kit
    mks := fun c h => ⟨(Z.mks c h).mg, (Z.mks c h).makes, (Z.mks c h).kp, (Z.mks c h).ok⟩
    fn := fun _ => rfl
    own := passes_of rfl
    xcs := Z.xcs
    lam := fun q h _ => ⟨lam_at hcd lk (hL q h), hr⟩
    why := Z.why }
  refine ⟨_, soundSs (W := W0) fd.body takes0 G chk, ?_⟩
  obtain ⟨hl, ρ, m, ws, rel, reps, k⟩ := h
  have lw : ws.length = fd.ps := by rw [← reps.length]; exact hl
  refine ⟨ρ, (ws.map some ++ List.replicate (fd.slots - fd.ps) none), m, ⟨?_, rel⟩, ?_⟩
  · have := renv_start reps (fd.slots - fd.ps)
    show REnv K ρ (lives ρ m) H (L2.start N vs) _
    unfold L2.start
    rw [slots, hl]
    exact this
  · have k := k
    simp only [] at k
    unfold runFd at k
    rw [fill_full fd lw, if_pos lw] at k
    exact leave_ok (E := fun _ _ _ => False) (σ := L2.start N vs) (s := []) rel (fun _ _ _ _ h => h) (k.mono (fun _ _ z => z.elim) fun _ _ z => z)
theorem fn_top (Z : Wd g K mg) (n : Nat) {fd : Fd} {a : Addr} {dat : FuncData} {x qual : Str} {params : Arguments} {body : List Stmt} {scope : Scope} {dvs : List V} {kws : List (Str × V)} {N ps : List Str} (F : FunD K x qual params body scope dvs kws a dat) (S : FnScope N ps scope) (slots : N.length = fd.slots) (pars : ps.length = fd.ps) (chk : chkSs g N scope fd.body body = true)
    (hL : ∀ q, g.lq = some q → a = He.fAd K ("law", none) ∧ lamQ (qual ++ ".<locals>.") = q ∧ LamX.TabB base mg (He.cT K ("law", none)).1 (tabP K)) :
    FnOk P w K mg base CX0 (5 * (n + 1)) a dat ps (spD0 K (fun ws m => runFd g.G (run g.G g.T g.K n) g.K fd ws m) fd.ps) := fn_top0 Z n (fn_ok Z n) F S slots pars chk hL
end
end Oh

set_option Elab.async false
set_option linter.all false
set_option maxRecDepth 100000
set_option maxHeartbeats 4000000
set_option autoImplicit false
/-! OhG: from the head's facts to the table -/
namespace Oh
open PySem L2
variable [Lcl]
/-! ### binding -/
section
variable {K : PySem.W.Frag} {x qual : Str} {params : Arguments} {body : List Stmt} {scope : Scope} {dvs : List V} {kws : List (Str × V)} {a : Addr} {dat : FuncData} {ps : List Str} {fd : Fd}
theorem bind_none (F : FunD K x qual params body scope [] kws a dat) (hd : fd.dfl = [])
    (h : ∀ (kV doc pm : Value) (an : Option Addr) (cdv ct : Value) (us : List Value), us.length = ps.length → bindArgs (PySem.W.fnOf x qual params body scope .none kV doc pm an cdv ct) ⟨us, []⟩ = pure (ps.zip us)) :
    ∀ k, k ≤ fd.dfl.length → ∃ dvs ds, Binds K dat ps ds ∧ Vals dvs ds ∧ ∀ L H, Reps K L H dvs (fd.dfl.drop k) := fun k hk => by
  rw [hd] at hk ⊢
  have : k = 0 := Nat.le_zero.mp hk
  subst this
  exact ⟨[], [], F.bindsN h, .nil, fun _ _ => .nil⟩
theorem bind_dfl (F : FunD K x qual params body scope dvs kws a dat) (hd : dvs ≠ []) (hr : ∀ L H, Reps K L H dvs fd.dfl) (hle : dvs.length ≤ ps.length)
    (h : ∀ (k : Nat), k ≤ dvs.length → ∀ (T : Addr) (kV doc pm : Value) (an : Option Addr) (cdv ct : Value) (us its : List Value), us.length = ps.length - (dvs.length - k) → its.length = dvs.length →
      ∃ k', bindArgs (PySem.W.fnOf x qual params body scope (.ref T) kV doc pm an cdv ct) ⟨us, []⟩ = seqItems? (.ref T) >>= k' ∧ k' (some its.toArray) = pure (ps.zip (us ++ its.drop k))) :
    ∀ k, k ≤ fd.dfl.length → ∃ dvs ds, Binds K dat ps ds ∧ Vals dvs ds ∧ ∀ L H, Reps K L H dvs (fd.dfl.drop k) := fun k hk => by
  have e := (hr [] fun _ => none).length
  rw [← e] at hk
  obtain ⟨ds, h1, h2⟩ := F.binds1 (ps := ps) (ps.length - (dvs.length - k)) k hd (by omega) (h k hk)
  exact ⟨dvs.drop k, ds, h2, h1, fun L H => (hr L H).drop k⟩
theorem vals_get : ∀ {vs : List V} {us : List Value}, Vals vs us → ∀ i : Nat, (vs[i]? = none ∧ us[i]? = none) ∨ ∃ v u, vs[i]? = some v ∧ us[i]? = some u ∧ RelV v u
  | _, _, .nil, i => .inl ⟨rfl, rfl⟩
  | _, _, .cons r t, 0 => .inr ⟨_, _, rfl, rfl, r⟩
  | _, _, .cons r t, i + 1 => by
    have := vals_get t i
    simpa using this
theorem reps_get {ρ : Rh} {L : List Addr} {H : Hp} : ∀ {vs : List V} {us : List Oh.W}, RepWs K ρ L H vs us → ∀ i : Nat, (vs[i]? = none ∧ us[i]? = none) ∨ ∃ v u, vs[i]? = some v ∧ us[i]? = some u ∧ RepW K ρ L H v u
  | _, _, .nil, i => .inl ⟨rfl, rfl⟩
  | _, _, .cons r t, 0 => .inr ⟨_, _, rfl, rfl, r⟩
  | _, _, .cons r t, i + 1 => by
    have := reps_get t i
    simpa using this
theorem vals_src {vs zs : List V} {us ws : List Value} (r : Vals vs us) (r2 : Vals zs ws) (q : Src) : (srcGet vs zs q = none ∧ srcGet us ws q = none) ∨ ∃ v u, srcGet vs zs q = some v ∧ srcGet us ws q = some u ∧ RelV v u := by
  cases q with
  | pos i => exact vals_get r i
  | kw i => exact vals_get r2 i
theorem reps_src {ρ : Rh} {L : List Addr} {H : Hp} {vs zs : List V} {us ws : List Oh.W} (r : RepWs K ρ L H vs us) (r2 : RepWs K ρ L H zs ws) (q : Src) : (srcGet vs zs q = none ∧ srcGet us ws q = none) ∨ ∃ v u, srcGet vs zs q = some v ∧ srcGet us ws q = some u ∧ RepW K ρ L H v u := by
  cases q with
  | pos i => exact reps_get r i
  | kw i => exact reps_get r2 i
theorem vals_bindK {vs zs : List V} {us ws : List Value} (r : Vals vs us) (r2 : Vals zs ws) : ∀ src : List Src, Vals (bindK vs zs src) (bindK us ws src)
  | [] => .nil
  | q :: src => by
    rcases vals_src r r2 q with ⟨h1, h2⟩ | ⟨v, u, h1, h2, h3⟩
    · unfold bindK; rw [List.filterMap_cons_none h1, List.filterMap_cons_none h2]; exact vals_bindK r r2 src
    · unfold bindK; rw [List.filterMap_cons_some h1, List.filterMap_cons_some h2]; exact .cons h3 (vals_bindK r r2 src)
theorem reps_bindK {ρ : Rh} {L : List Addr} {H : Hp} {vs zs : List V} {us ws : List Oh.W} (r : RepWs K ρ L H vs us) (r2 : RepWs K ρ L H zs ws) : ∀ src : List Src, RepWs K ρ L H (bindK vs zs src) (bindK us ws src)
  | [] => .nil
  | q :: src => by
    rcases reps_src r r2 q with ⟨h1, h2⟩ | ⟨v, u, h1, h2, h3⟩
    · unfold bindK; rw [List.filterMap_cons_none h1, List.filterMap_cons_none h2]; exact reps_bindK r r2 src
    · unfold bindK; rw [List.filterMap_cons_some h1, List.filterMap_cons_some h2]; exact .cons h3 (reps_bindK r r2 src)
/-- every source is there -/
def srcOk (n m : Nat) (src : List Src) : Bool := src.all fun
  | .pos i => decide (i < n)
  | .kw i => decide (i < m)
theorem bindK_len {α : Type} {us zs : List α} {n m : Nat} (h1 : us.length = n) (h2 : zs.length = m) : ∀ {src : List Src}, srcOk n m src = true → (bindK us zs src).length = src.length
  | [], _ => rfl
  | q :: src, h => by
    unfold srcOk at h
    simp only [List.all_cons, Bool.and_eq_true] at h
    have ih := bindK_len h1 h2 (src := src) h.2
    cases q with
    | pos i =>
      have hi : i < us.length := by rw [h1]; simpa using h.1
      unfold bindK
      rw [List.filterMap_cons_some (show srcGet us zs (.pos i) = some us[i] from List.getElem?_eq_getElem hi)]
      exact congrArg (· + 1) ih
    | kw i =>
      have hi : i < zs.length := by rw [h2]; simpa using h.1
      unfold bindK
      rw [List.filterMap_cons_some (show srcGet us zs (.kw i) = some zs[i] from List.getElem?_eq_getElem hi)]
      exact congrArg (· + 1) ih
theorem kb_none (F : FunD K x qual params body scope [] kws a dat) {n : Nat} {ks : List Str} {src : List Src} (hd : fd.dfl = []) (hs : srcOk n ks.length src = true) (hl : src.length = fd.ps)
    (h : ∀ (kV doc pm : Value) (an : Option Addr) (cdv ct : Value) (us ws : List Value), us.length = n → ws.length = ks.length → bindArgs (PySem.W.fnOf x qual params body scope .none kV doc pm an cdv ct) ⟨us, ks.zip ws⟩ = pure (ps.zip (bindK us ws src))) :
    KbOk K dat ps fd (n, ks, src) := by
  refine ⟨fun us ws => bindK us ws src, fun us ws => bindK us ws src, ⟨fun s us ws X l1 l2 => ?_, fun r1 r2 => vals_bindK r1 r2 src⟩, fun ρ L H vs ws zs xs l1 l2 r1 r2 => ?_⟩
  · obtain ⟨oc, od, dV, kV, doc, pm, an, cdv, ct, osl, rfl, lk, hcd, hD, hK⟩ := F.ex
    rcases hD with ⟨_, rfl⟩ | ⟨e, _⟩
    · exact .of_eq (h kV doc pm an cdv ct us ws l1 l2)
    · exact absurd rfl e
  · have e : fd.fill (bindK ws xs src) = bindK ws xs src := by unfold Fd.fill; rw [hd]; simp
    rw [e]
    exact ⟨reps_bindK r1 r2 src, by rw [bindK_len l1 l2 hs]; exact hl⟩
theorem kb_dfl (F : FunD K x qual params body scope dvs kws a dat) {n : Nat} {ks : List Str} {src : List Src} (hd : dvs ≠ []) (hr : ∀ L H, Reps K L H dvs fd.dfl) (hs : srcOk n ks.length src = true) (hl : src.length + (dvs.length - (dvs.length - (fd.ps - src.length))) = fd.ps)
    (h : ∀ (T : Addr) (kV doc pm : Value) (an : Option Addr) (cdv ct : Value) (us its ws : List Value), us.length = n → its.length = dvs.length → ws.length = ks.length →
      ∃ k, bindArgs (PySem.W.fnOf x qual params body scope (.ref T) kV doc pm an cdv ct) ⟨us, ks.zip ws⟩ = seqItems? (.ref T) >>= k ∧ k (some its.toArray) = pure (ps.zip (bindK us ws src ++ its.drop (dvs.length - (fd.ps - src.length))))) :
    KbOk K dat ps fd (n, ks, src) := by
  obtain ⟨its, B⟩ := F.kbindsD (ps := ps) n ks (fun us its ws => bindK us ws src ++ its.drop (dvs.length - (fd.ps - src.length))) hd (fun r1 r2 r3 => (vals_bindK r1 r3 src).append (r2.drop _)) h
  refine ⟨_, _, B, fun ρ L H vs ws zs xs l1 l2 r1 r2 => ⟨?_, ?_⟩⟩
  · have e1 : (bindK ws xs src).length = src.length := bindK_len (r1.length.symm.trans l1) (r2.length.symm.trans l2) hs
    unfold Fd.fill
    rw [e1, ← (hr L H).length]
    exact (reps_bindK r1 r2 src).append (repW_p ((hr L H).drop _))
  · rw [List.length_append, bindK_len l1 l2 hs, List.length_drop]; exact hl
end
/-! ### tables by lists -/
theorem lookup_all {α : Type} {p : Nat → α → Prop} : ∀ {l : List (Nat × α)}, (∀ q ∈ l, p q.1 q.2) → ∀ k d, l.lookup k = some d → p k d
  | [], _, _, _, h => by cases h
  | (k', d') :: l, hp, k, d, h => by
    simp only [List.lookup] at h
    split at h
    · rename_i e
      cases h
      obtain rfl := (beq_iff_eq.mp e)
      exact hp _ List.mem_cons_self
    · exact lookup_all (fun q hq => hp q (List.mem_cons_of_mem _ hq)) k d h
/-! ### facts told by Bools -/
section
variable {K : PySem.W.Frag}
/-- a value of the written part as a pure one: flat ones alone -/
def valB : D → Value → Bool
  | .non, .none => true
  | .bl b, .bool c => b == c
  | .int i, .int j _ => decide (i = j)
  | .str s, .str x _ => decide (x.cps.toList = s) && s.all (fun c => decide (c < 1114112))
  | _, _ => false
theorem valB_ok {d : D} {u : Value} (h : valB d u = true) : ∃ v, RelV v u ∧ ∀ K L H, Rep K L H v d := by
  unfold valB at h
  split at h
  · exact ⟨.non, rfl, fun _ _ _ => .non⟩
  · rename_i b c
    have e : b = c := by simpa using h
    subst e
    exact ⟨.bl b, rfl, fun _ _ _ => .bl b⟩
  · rename_i i j t
    have e : i = j := of_decide_eq_true h
    subst e
    exact ⟨.int i, ⟨t, rfl⟩, fun _ _ _ => .int i⟩
  · rename_i s x t
    simp only [Bool.and_eq_true, decide_eq_true_eq, List.all_eq_true] at h
    have hx : x = mkS s := TL.ext_tl (by rw [TL.tl_mk]; exact h.1)
    subst hx
    exact ⟨.str (mkS s), ⟨t, rfl⟩, fun _ _ _ => .str s h.2⟩
  · cases h
def glbB (K : PySem.W.Frag) (x : Str) (d : D) : Bool := match PySem.W.nsIn K mainGlobals x with
  | some (some u) => valB d u
  | _ => false
def GlbOk (K : PySem.W.Frag) (mg : Str → Option Value) (x : Str) (d : D) : Prop := ∃ v u, mg x = some u ∧ RelV v u ∧ ∀ L H, Rep K L H v d
theorem glbB_ok {h : Heap} {mg : Str → Option Value} {x : Str} {d : D} (X : K.In h) (G : h.Ns mainGlobals mg) (c : glbB K x d = true) : GlbOk K mg x d := by
  unfold glbB at c
  split at c
  · rename_i u e
    obtain ⟨v, r, q⟩ := valB_ok c
    exact ⟨v, u, PySem.W.mg_of X G e, r, fun L H => q K L H⟩
  · cases c
def conB (K : PySem.W.Frag) (c f : Nat) (d : D) : Bool := (match PySem.W.findIn K (.ref (He.ga K (clsStr c))) (atStr f) with
  | some (some u) => valB d u && decide (PySem.W.specialIn K u "__get__" = some none)
  | _ => false) && !PySem.W.copiedNames.contains (atStr f)
theorem conB_ok {c f : Nat} {d : D} (h : conB K c f d = true) : ConAt K c f d := by
  unfold conB at h
  rw [Bool.and_eq_true] at h
  obtain ⟨h1, h2⟩ := h
  split at h1
  · rename_i u e
    rw [Bool.and_eq_true, decide_eq_true_eq] at h1
    obtain ⟨v, r, q⟩ := valB_ok h1.1
    exact ⟨v, u, ⟨e, r, h1.2, by simpa using h2⟩, fun L H => q K L H⟩
  · cases h1
def methB (K : PySem.W.Frag) (c f : Nat) : Bool := (He.Fa.cls (clsStr c)).ok K && (He.Fa.meth (clsStr c) (atStr f)).ok K
theorem methB_ok {c f : Nat} (h : methB K c f = true) : locM K c f (He.ma K (He.ga K (clsStr c)) (atStr f)) := by
  unfold methB at h
  rw [Bool.and_eq_true] at h
  exact ⟨He.cls_ok h.1, He.meth_ok h.2⟩
def cmB (K : PySem.W.Frag) (c f : Nat) : Bool := He5.wrapB K (He.ga K (clsStr c)) "classmethod" "classmethod.__get__" (atStr f) && (PySem.W.fnIn K (He5.wf K (He.ga K (clsStr c)) "classmethod" (atStr f)) && (PySem.W.readsIn K (He.ga K (clsStr c)) (.type "type") && decide (PySem.W.specialIn K (.ref (He.ga K (clsStr c))) "__getattribute__" = some (some (.builtin "type.__getattribute__")))))
theorem cmB_ok {c f : Nat} (h : cmB K c f = true) : locC K c f (He5.wf K (He.ga K (clsStr c)) "classmethod" (atStr f)) := by
  unfold cmB at h
  simp only [Bool.and_eq_true, decide_eq_true_eq] at h
  exact ⟨.type "type", _, ⟨h.2.2.1, h.2.2.2⟩, He5.cmet_of h.1 h.2.1⟩
def gloB (K : PySem.W.Frag) (x : Str) : Bool := (He.Fa.glo x).ok K
def mkB (K : PySem.W.Frag) (c : Nat) : Bool := gloB K (clsStr c) && (PySem.W.makesIn K (He.ga K (clsStr c)) && (PySem.W.keepIn K (.ref (He.ga K (clsStr c))) && clsB K c))
theorem mkB_ok {h : Heap} {mg : Str → Option Value} {c : Nat} (X : K.In h) (G : h.Ns mainGlobals mg) (q : mkB K c = true) : MkIn K mg c := by
  unfold mkB gloB at q
  simp only [Bool.and_eq_true] at q
  exact ⟨He.glo_ok X G q.1, q.2.1, q.2.2.1, clsB_ok q.2.2.2⟩
def kit2B (K : PySem.W.Frag) (c c2 : Nat) : Bool := decide (PySem.W.subIn K (.ref (He.ga K (clsStr c2))) (.ref (He.ga K (clsStr c))) = some ((above c2).contains c)) && (decide (PySem.W.kitOne K (.ref (He.ga K (clsStr c2))) (.ref (He.ga K (clsStr c))) = some ((above c2).contains c)) &&
  (decide (c2 = c) || !decide (He.ga K (clsStr c2) = He.ga K (clsStr c))))
def kit1B (K : PySem.W.Frag) (c : Nat) : Bool := kinds.all fun t => decide (PySem.W.subIn K (.type t) (.ref (He.ga K (clsStr c))) = some false) && decide (PySem.W.kitOne K (.type t) (.ref (He.ga K (clsStr c))) = some false)
def giB (K : PySem.W.Frag) (c : Nat) : Bool := match PySem.W.findIn K (.ref (He.ga K (clsStr c))) "__getitem__" with
  | some (some (.ref f)) => PySem.W.fnIn K f
  | _ => true
theorem giB_ok {K : PySem.W.Frag} {c : Nat} {f : Addr} (h : giB K c = true) (e : PySem.W.findIn K (.ref (He.ga K (clsStr c))) "__getitem__" = some (some (.ref f))) : PySem.W.fnIn K f = true := by
  unfold giB at h
  rw [e] at h
  exact h
def neB (K : PySem.W.Frag) (c : Nat) : Bool := decide (PySem.W.findIn K (.ref (He.ga K (clsStr c))) "__ne__" = some (some (.builtin "object.__ne__")))
def opB (K : PySem.W.Frag) (c : Nat) (nm : String) : Bool := PySem.W.selfFirst K (He.ga K (clsStr c)) && (decide (PySem.W.findIn K (.ref (He.ga K (clsStr c))) (dunderR nm) = some none) && (PySem.W.readsIn K (He.ga K (clsStr c)) (.type "type") && msgOk K (He.ga K (clsStr c)) (dunderR nm)))
theorem opB_ok {c : Nat} {nm : String} (h : opB K c nm = true) : OpK K (He.ga K (clsStr c)) nm := by
  unfold opB at h
  simp only [Bool.and_eq_true, decide_eq_true_eq] at h
  exact ⟨h.1, h.2.1, h.2.2.1, h.2.2.2⟩
/-! ### classes of errors -/
def xLk (c : Nat) : Bool := decide (c = 18) || decide (c = 19)
def xB (c : Nat) : String := match xLk c with | true => "LookupError" | false => "ValueError"
def xNewId (c : Nat) : String := match xLk c with | true => "LookupError.__new__" | false => "ValueError.__new__"
def xIniId (c : Nat) : String := match xLk c with | true => "LookupError.__init__" | false => "ValueError.__init__"
def xBm (c : Nat) : List Value := match xLk c with | true => bmLE | false => bmVE
def xNm (c : Nat) : Str := match xLk c with | true => clsStr 1 | false => clsStr 0
theorem xBas (c : Nat) : Bas (xB c) (xNewId c) (xIniId c) (xBm c) := by
  unfold xB xNewId xIniId xBm
  cases xLk c
  · exact basVE
  · exact basLE
theorem xHanded (c : Nat) : PySem.W.handedIn (.builtin (xIniId c)) = true := by
  unfold xIniId
  cases xLk c <;> decide +kernel
def mroB (C : Addr) (bmB : List Value) : List Value → Bool
  | .ref C' :: bm => decide (C' = C) && tailB bmB bm
  | _ => false
def newB (newId : String) : List (Option Value) → Bool
  | [_, _, _, _, some (.builtin i), _] => decide (i = newId)
  | _ => false
def oexB (C : Addr) (newId : String) (bmB : List Value) : Obj → Bool
  | ⟨.type t, _, .cls cd, sl⟩ => decide (t = "type") && (mroB C bmB cd.mro && (cd.hasDict && (!cd.hasDel && newB newId sl.toList)))
  | _ => false
theorem oexB_ok {C : Addr} {newId : String} {bmB : List Value} {o : Obj} (h : oexB C newId bmB o = true) : ∃ nm q N bs bm sn sub ab col dd k0 k1 k2 k3 k5, o = excClassObj nm q C N bs bm true sn sub ab col dd k0 k1 k2 k3 k5 newId ∧ tailB bmB bm = true := by
  unfold oexB at h
  split at h
  · rename_i t dd cd sl
    simp only [Bool.and_eq_true, decide_eq_true_eq] at h
    obtain ⟨rfl, h1, h2, h3, h4⟩ := h
    obtain ⟨nm, bs, mro, ns, qn, hd, sn, sb, ab, col, del⟩ := cd
    obtain rfl : hd = true := h2
    obtain rfl : del = false := by simpa using h3
    unfold mroB at h1
    split at h1
    · rename_i C' bm e
      obtain rfl : mro = .ref C' :: bm := e
      rw [Bool.and_eq_true, decide_eq_true_eq] at h1
      obtain ⟨rfl, h5⟩ := h1
      obtain ⟨l⟩ := sl
      unfold newB at h4
      split at h4
      · rename_i k0 k1 k2 k3 i k5 e
        obtain rfl : l = [k0, k1, k2, k3, some (.builtin i), k5] := e
        obtain rfl : i = newId := of_decide_eq_true h4
        exact ⟨nm, qn, ns, bs, bm, sn, sb, ab, col, dd, k0, k1, k2, k3, k5, rfl, h5⟩
      · cases h4
    · cases h1
  · cases h
def valB1 (i : String) : Option PySem.W.CFound → Bool
  | some (.val (.builtin j)) => decide (j = i)
  | _ => false
theorem valB1_ok {i : String} {o : Option PySem.W.CFound} (h : valB1 i o = true) : o = some (.val (.builtin i)) := by
  unfold valB1 at h
  split at h
  · rw [of_decide_eq_true h]
  · cases h
def xcB (K : PySem.W.Frag) (c : Nat) : Bool := gloB K (clsStr c) && (gloB K (xNm c) && ((match K.lookup (He.ga K (clsStr c)) with
  | some o => oexB (He.ga K (clsStr c)) (xNewId c) (xBm c) o
  | none => false) && (decide (PySem.W.findIn K (.ref (He.ga K (clsStr c))) "__setattr__" = some (some (.builtin "object.__setattr__"))) && (decide (PySem.W.subIn K (.ref (He.ga K (clsStr c))) (.type "BaseException") = some true) &&
  (decide (PySem.W.typeIn K (.ref (He.ga K (clsStr c))) = some (.type "type")) && (PySem.W.keepIn K (.ref (He.ga K (clsStr c))) && (decide (PySem.W.findIn K (.ref (He.ga K (clsStr c))) (atStr 0) = some (some (.ref (He.ma K (He.ga K (clsStr c)) (atStr 0))))) &&
  (decide (PySem.W.typeIn K (.ref (He.ma K (He.ga K (clsStr c)) (atStr 0))) = some (.type "function")) && ((fieldsOf c).all (fun f => decide (PySem.W.findIn K (.ref (He.ga K (clsStr c))) (atStr f) = some none)) && (xfB K (He.ga K (clsStr c)) &&
  (decide (PySem.W.specialIn K (.ref (He.ga K (xNm c))) "__getattribute__" = some (some (.builtin "type.__getattribute__"))) && (PySem.W.readsIn K (He.ga K (xNm c)) (.type "type") && valB1 (xIniId c) (PySem.W.findCls K (.ref (He.ga K (xNm c))) (.type "type") "__init__")))))))))))))
/-- what stands in the tables of errors -/
def xStB (c : Nat) : Bool := (xAs c).all layB && (decide ((xAs c).length ≤ 900) && ((xAs c).all (fun q => decide (q.1 ∈ fieldsOf c)) && (decide (1 ∈ fieldsOf c) && (!(clsStr c == ("__debug__" : Str)) && !(xNm c == ("__debug__" : Str))))))
theorem xcAt_of {h : Heap} {mg : Str → Option Value} {c : Nat} {fd : Fd} {dat : FuncData} {x qual : Str} {params : Arguments} {body : List Stmt} {scope : Scope} {dvs : List V} {kws : List (Str × V)} {N ps : List Str} (X : K.In h) (G : h.Ns mainGlobals mg) (q : xcB K c = true) (hs : xStB c = true)
    (F : FunD K x qual params body scope dvs kws (He.ma K (He.ga K (clsStr c)) (atStr 0)) dat) (S : FnScope N ps scope) (fdc : xFd c = some fd) (pars : ps.length = fd.ps) (pos : 0 < fd.ps) (chk : chkXi (xNm c) N scope (fd.ps - 1) (xAs c) body = true)
    (bind : ∀ k, k ≤ fd.dfl.length → ∃ dvs ds, Binds K dat ps ds ∧ Vals dvs ds ∧ ∀ L H, Reps K L H dvs (fd.dfl.drop k)) : XcAt K mg c := by
  unfold xcB gloB at q
  simp only [Bool.and_eq_true, decide_eq_true_eq] at q
  obtain ⟨q1, q2, q3, q4, q5, q6, q7, q8, q9, q10, q11, q12, q13, q14⟩ := q
  unfold xStB at hs
  simp only [Bool.and_eq_true, decide_eq_true_eq] at hs
  obtain ⟨s1, s2, s3, s4, s5, s6⟩ := hs
  refine ⟨fd, _, _, _, _, _, dat, xNm c, x, qual, params, body, scope, dvs, kws, N, ps, { bas := xBas c, oex := ⟨?_, q4, q5, q6, q7⟩, mgc := He.glo_ok X G q1, ini := q8, typ := q9, fun_ := F, sc := S, fdc := fdc, pars := pars, chk := chk, pos := pos, bind := bind, base := .own _ (He.glo_ok X G q2) (by simpa using s6) q12 q13 (valB1_ok q14), handed := xHanded c, few := s2, lay := s1, noat := fun f hf => of_decide_eq_true (List.all_eq_true.mp q10 f hf), flds := fun q hq => of_decide_eq_true (List.all_eq_true.mp s3 q hq), has1 := s4, xf := xfB_ok q11, dbg := by simpa using s5 }⟩
  cases e : K.lookup (He.ga K (clsStr c)) with
  | none => rw [e] at q3; cases q3
  | some o =>
    rw [e] at q3
    obtain ⟨nm, q, N, bs, bm, sn, sub, ab, col, dd, k0, k1, k2, k3, k5, e2, e3⟩ := oexB_ok q3
    exact ⟨nm, q, N, bs, bm, sn, sub, ab, col, dd, k0, k1, k2, k3, k5, congrArg some e2, e3⟩
/-- _law_why and its classes -/
def whyB (K : PySem.W.Frag) (gls : List (Nat × D)) : Bool := gloB K (clsStr 0) && (gloB K (clsStr 1) && (gloB K (clsStr 20) && gls.all fun q => !isXc (some q.2) || decide (PySem.W.exmAny K (.ref (He.ga K (clsStr ((q.1 - 1000) / 200)))) (whyCs K) = some true)))
/-- an entry of the table of values: a global, a class's constant, a method, a classmethod -/
def entB (K : PySem.W.Frag) (gname : Nat → Str) (q : Nat × D) : Bool := if q.1 < 1000 then glbB K (gname q.1) q.2 else match q.2 with
  | .fn 0 => decide ((q.1 - 1000) / 200 < manyCls) && (if (q.1 - 1000) % 200 = 0 then mkB K ((q.1 - 1000) / 200) else true) && (if (q.1 - 1000) % 200 = 22 then neB K ((q.1 - 1000) / 200) else true) && ((if (q.1 - 1000) % 200 = 21 then giB K ((q.1 - 1000) / 200) else true) && (if (q.1 - 1000) % 200 = 30 then opB K ((q.1 - 1000) / 200) "add" else true) && (if (q.1 - 1000) % 200 = 31 then opB K ((q.1 - 1000) / 200) "mul" else true))
  | .fn 1 => gloB K (clsStr ((q.1 - 1000) / 200))
  | .fn 2 => xcB K ((q.1 - 1000) / 200)
  | d => conB K ((q.1 - 1000) / 200) ((q.1 - 1000) % 200) d
/-- the classes that may be made -/
def mkOf (gls : List (Nat × D)) : List Nat := gls.filterMap fun q => if decide (1000 ≤ q.1) && decide ((q.1 - 1000) % 200 = 0) && isFn (some q.2) then some ((q.1 - 1000) / 200) else none
def factB (gname : Nat → Str) (gls : List (Nat × D)) (K : PySem.W.Frag) : Bool := gls.all (entB K gname) && (bltNames.all (fun x => (He.Fa.free x).ok K) && ((mkOf gls).all (kit1B K) && (mkOf gls).all fun c => (mkOf gls).all fun c2 => kit2B K c c2))
theorem lookup_mem' {α : Type} : ∀ {l : List (Nat × α)} {k : Nat} {d : α}, l.lookup k = some d → (k, d) ∈ l
  | [], _, _, h => by cases h
  | (k', d') :: l, k, d, h => by
    simp only [List.lookup] at h
    split at h
    · rename_i e
      cases h
      obtain rfl := (beq_iff_eq.mp e)
      exact List.mem_cons_self
    · exact List.mem_cons_of_mem _ (lookup_mem' h)
theorem isFn_eq {o : Option D} (h : isFn o = true) : o = some (.fn 0) := by
  unfold isFn at h
  split at h
  · rfl
  · cases h
theorem isCm_eq {o : Option D} (h : isCm o = true) : o = some (.fn 1) := by
  unfold isCm at h
  split at h
  · rfl
  · cases h
theorem isXc_eq {o : Option D} (h : isXc o = true) : o = some (.fn 2) := by
  unfold isXc at h
  split at h
  · rfl
  · cases h
theorem mnum_c {c f : Nat} (hf : f < manyAt) : ¬ mnum c f < 1000 ∧ (mnum c f - 1000) / 200 = c ∧ (mnum c f - 1000) % 200 = f := by
  have : manyAt = 103 := rfl
  unfold mnum
  exact ⟨by omega, by omega, by omega⟩
theorem mem_mkOf {gls : List (Nat × D)} {c : Nat} (h : isFn (gls.lookup (mnum c 0)) = true) : c ∈ mkOf gls := by
  obtain ⟨h1, h2, h3⟩ := mnum_c (c := c) (show 0 < manyAt by decide)
  refine List.mem_filterMap.mpr ⟨_, lookup_mem' (isFn_eq h), ?_⟩
  simp only []
  rw [if_pos]
  · rw [h2]
  · rw [h3]
    simp [isFn]
    omega
structure Facts (gname : Nat → Str) (gls : List (Nat × D)) (K : PySem.W.Frag) (mg : Str → Option Value) : Prop where
  glb : ∀ k d, k < 1000 → gls.lookup k = some d → GlbOk K mg (gname k) d
  blt : ∀ x ∈ bltNames, mg x = none
  con : ∀ c f d, f < manyAt → gls.lookup (mnum c f) = some d → isDef (some d) = false → ConAt K c f d
  bnd : ∀ c f, f < manyAt → isFn (gls.lookup (mnum c f)) = true → c < manyCls
  cmt : ∀ c f, f < manyAt → isCm (gls.lookup (mnum c f)) = true → mg (clsStr c) = some (.ref (He.ga K (clsStr c)))
  mks : ∀ c, isFn (gls.lookup (mnum c 0)) = true → MkIn K mg c
  kit : KitAt K fun k => gls.lookup k
theorem ent_op {gname : Nat → Str} {c : Nat} (h : entB K gname (mnum c 30, .fn 0) = true) : opB K c "add" = true ∧ True := by
  obtain ⟨h1, h2, h3⟩ := mnum_c (c := c) (show 30 < manyAt by decide)
  unfold entB at h
  rw [if_neg h1, h2, h3] at h
  simp only [Bool.and_eq_true, if_true] at h
  exact ⟨h.2.1.2, trivial⟩
theorem ent_op2 {gname : Nat → Str} {c : Nat} (h : entB K gname (mnum c 31, .fn 0) = true) : opB K c "mul" = true ∧ True := by
  obtain ⟨h1, h2, h3⟩ := mnum_c (c := c) (show 31 < manyAt by decide)
  unfold entB at h
  rw [if_neg h1, h2, h3] at h
  simp only [Bool.and_eq_true, if_true] at h
  exact ⟨h.2.2, trivial⟩
theorem xc_ent {gname : Nat → Str} {gls : List (Nat × D)} (q : factB gname gls K = true) {c : Nat} (h : isXc (gls.lookup (mnum c 0)) = true) : xcB K c = true := by
  unfold factB at q
  simp only [Bool.and_eq_true, List.all_eq_true] at q
  have := q.1 _ (lookup_mem' (isXc_eq h))
  obtain ⟨h1, h2, h3⟩ := mnum_c (c := c) (show 0 < manyAt by decide)
  unfold entB at this
  rw [if_neg h1, h2] at this
  exact this
theorem exm_ent {gls : List (Nat × D)} (q : whyB K gls = true) {c : Nat} (h : isXc (gls.lookup (mnum c 0)) = true) : PySem.W.exmAny K (.ref (He.ga K (clsStr c))) (whyCs K) = some true := by
  unfold whyB at q
  simp only [Bool.and_eq_true, List.all_eq_true] at q
  have := q.2.2.2 _ (lookup_mem' (isXc_eq h))
  obtain ⟨h1, h2, h3⟩ := mnum_c (c := c) (show 0 < manyAt by decide)
  rw [h2] at this
  simpa [isXc] using this
theorem factB_ok {h : Heap} {mg : Str → Option Value} {gname : Nat → Str} {gls : List (Nat × D)} (X : K.In h) (G : h.Ns mainGlobals mg) (q : factB gname gls K = true) : Facts gname gls K mg := by
  unfold factB at q
  simp only [Bool.and_eq_true, List.all_eq_true] at q
  obtain ⟨q1, q2, q3, q4⟩ := q
  refine ⟨fun k d hk hl => ?_, fun x hx => He.free_ok X G (q2 x hx), fun c f d hf hl hd => ?_, fun c f hf hl => ?_, fun c f hf hl => ?_, fun c hl => ?_, ⟨fun c c2 h1 h2 => ?_, fun c h1 t ht => ?_, fun c h1 => ?_, fun c op ho h1 => ?_, fun c f h1 e => ?_⟩⟩
  · have := q1 _ (lookup_mem' hl)
    unfold entB at this
    rw [if_pos hk] at this
    exact glbB_ok X G this
  · have := q1 _ (lookup_mem' hl)
    obtain ⟨h1, h2, h3⟩ := mnum_c (c := c) hf
    unfold entB at this
    rw [if_neg h1, h2, h3] at this
    cases d <;> first | (cases hd; done) | exact conB_ok this
  · have := q1 _ (lookup_mem' (isFn_eq hl))
    obtain ⟨h1, h2, h3⟩ := mnum_c (c := c) hf
    unfold entB at this
    rw [if_neg h1, h2, h3] at this
    simp only [Bool.and_eq_true, decide_eq_true_eq] at this
    exact this.1.1.1
  · have := q1 _ (lookup_mem' (isCm_eq hl))
    obtain ⟨h1, h2, h3⟩ := mnum_c (c := c) hf
    unfold entB at this
    rw [if_neg h1, h2] at this
    exact He.glo_ok X G this
  · have := q1 _ (lookup_mem' (isFn_eq hl))
    obtain ⟨h1, h2, h3⟩ := mnum_c (c := c) (show 0 < manyAt by decide)
    unfold entB at this
    rw [if_neg h1, h2, h3] at this
    simp only [Bool.and_eq_true, if_true] at this
    exact mkB_ok X G this.1.1.2
  · have := q4 c (mem_mkOf h1) c2 (mem_mkOf h2)
    unfold kit2B at this
    simp only [Bool.and_eq_true, Bool.or_eq_true, decide_eq_true_eq, Bool.not_eq_true', decide_eq_false_iff_not] at this
    exact ⟨this.1, this.2.1, fun hne => this.2.2.resolve_left hne⟩
  · have := q3 c (mem_mkOf h1)
    unfold kit1B at this
    simp only [List.all_eq_true, Bool.and_eq_true, decide_eq_true_eq] at this
    exact this t ht
  · have := q1 _ (lookup_mem' (isFn_eq h1))
    obtain ⟨h1, h2, h3⟩ := mnum_c (c := c) (show 22 < manyAt by decide)
    unfold entB at this
    rw [if_neg h1, h2, h3] at this
    simp only [Bool.and_eq_true, if_true] at this
    exact of_decide_eq_true this.1.2
  · have q5 := q1 _ (lookup_mem' (isFn_eq h1))
    have he : op = .add ∨ op = .mul := by cases op <;> simp [opMay] at ho <;> simp
    rcases he with rfl | rfl
    · exact opB_ok (nm := "add") (ent_op q5).1
    · exact opB_ok (nm := "mul") (ent_op2 q5).1
  · have := q1 _ (lookup_mem' (isFn_eq h1))
    obtain ⟨h1, h2, h3⟩ := mnum_c (c := c) (show 21 < manyAt by decide)
    unfold entB at this
    rw [if_neg h1, h2, h3] at this
    simp only [Bool.and_eq_true, if_true] at this
    exact giB_ok this.2.1.1 e
end
/-! ### the Hook -/
abbrev AlO : Type := Bool × List He.FnW
def obsO (fb : PySem.W.Frag → Bool) (fn : List He5.DefA) (K : PySem.W.Frag) : AlO := (fb K && fn.all fun d => d.ok K, fn.map fun d => He5.fnA K (d.at_ K))
def valO (fn : List He5.DefA) : AlO := (true, fn.map He5.DefA.val)
def SaysO (fb : PySem.W.Frag → Bool) (fn : List He5.DefA) (K : PySem.W.Frag) : Prop := obsO fb fn K = valO fn
def obsOG (n : Nat) (fb : PySem.W.Frag → Bool) (fn : List He5.DefA) (g : Addr → Option Obj) : AlO := obsO fb fn (He.frG g (He5.asA g n))
def hookO (n : Nat) (fb : PySem.W.Frag → Bool) (fn : List He5.DefA) : PySem.W.Hook where
  α := AlO
  obs := fun s => obsOG n fb fn s.heap.get?
  val := fun _ => valO fn
  says := fun _ h => ∃ K : PySem.W.Frag, K.In h ∧ SaysO fb fn K
  of := fun _ _ e => ⟨_, He.frG_in, e⟩
  keeps := fun _ _ _ ⟨K, hK, c⟩ k => ⟨K, PySem.W.Frag.In.keeps hK k, c⟩
theorem obsOG_eq {n : Nat} {fb : PySem.W.Frag → Bool} {fn : List He5.DefA} {g : Addr → Option Obj} {s : Shared} (h : ∀ a, g a = s.heap.get? a) : obsOG n fb fn g = (hookO n fb fn).obs s := by
  have e : g = s.heap.get? := funext h
  rw [e] <;> rfl
section
variable {fb : PySem.W.Frag → Bool} {fn : List He5.DefA} {K : PySem.W.Frag}
theorem SaysO.fact (c : SaysO fb fn K) : fb K = true := by
  have := congrArg Prod.fst c
  simp only [obsO, valO, Bool.and_eq_true] at this
  exact this.1
theorem SaysO.def_ (c : SaysO fb fn K) (i : Nat) {d : He5.DefA} (h : fn[i]? = some d := by rfl) : ∃ fd, FunD K d.name d.qual d.params d.body d.scope (d.dvs K) (d.kws K) (d.at_ K) fd := by
  have c2 : (fb K && fn.all fun d => d.ok K) = true := congrArg Prod.fst c
  rw [Bool.and_eq_true] at c2
  have e : fn.map (fun d => He5.fnA K (d.at_ K)) = fn.map He5.DefA.val := congrArg Prod.snd c
  have e2 : (fn.map fun d => He5.fnA K (d.at_ K))[i]? = (fn.map He5.DefA.val)[i]? := by rw [e]
  rw [List.getElem?_map, List.getElem?_map, h] at e2
  exact He5.DefA.funD (Option.some.inj e2) (List.all_eq_true.mp c2.2 d (List.mem_of_getElem? h))
end
/-! ### .. with the law's table of code objects -/
abbrev lawCT (K : PySem.W.Frag) : Addr × Addr := He.cT K ("law", none)
structure TabsL (h : Heap) (K : PySem.W.Frag) : Prop where
  hd : PySem.W.codeHdIn K (lawCT K).1 (lawCT K).2 = true
  out : K.lookup (lawCT K).2 = none
  empty : h.get? (lawCT K).2 = some { cls := .none, data := .fields #[] }
def obsL (n : Nat) (fb : PySem.W.Frag → Bool) (fn : List He5.DefA) (g : Addr → Option Obj) : AlO := ((obsO fb fn (He.frT g (He5.asA g n))).1 && He.tabsB g [("law", none)] (He.frT g (He5.asA g n)), (obsO fb fn (He.frT g (He5.asA g n))).2)
theorem obsL_of {n : Nat} {fb : PySem.W.Frag → Bool} {fn : List He5.DefA} {h : Heap} (e : obsL n fb fn h.get? = valO fn) : SaysO fb fn (He.frT h.get? (He5.asA h.get? n)) ∧ TabsL h (He.frT h.get? (He5.asA h.get? n)) := by
  have e1 : ((obsO fb fn (He.frT h.get? (He5.asA h.get? n))).1 && He.tabsB h.get? [("law", none)] (He.frT h.get? (He5.asA h.get? n))) = true := congrArg (fun z : AlO => z.1) e
  have e2 : (obsL n fb fn h.get?).2 = (valO fn).2 := by rw [e]
  rw [Bool.and_eq_true] at e1
  refine ⟨Prod.ext e1.1 e2, ?_⟩
  have e3 := e1.2
  unfold He.tabsB at e3
  simp only [List.all_cons, List.all_nil, Bool.and_true, Bool.and_eq_true] at e3
  obtain ⟨h1, h2⟩ := e3
  split at h2
  · rename_i o q
    exact ⟨h1, He.frT_none q h2, by rw [He.emptyTab_eq h2] at q; exact q⟩
  · cases h2
def hookL (n : Nat) (fb : PySem.W.Frag → Bool) (fn : List He5.DefA) : PySem.W.Hook where
  α := AlO
  obs := fun s => obsL n fb fn s.heap.get?
  val := fun _ => valO fn
  says := fun _ h => ∃ K : PySem.W.Frag, K.In h ∧ SaysO fb fn K ∧ TabsL h K
  of := fun _ _ e => ⟨_, He.frT_in, obsL_of e⟩
  keeps := fun _ _ _ ⟨K, hK, c, t⟩ k => ⟨K, PySem.W.Frag.In.keeps hK k, c, ⟨t.hd, t.out, k _ _ t.empty⟩⟩
theorem obsL_eq {n : Nat} {fb : PySem.W.Frag → Bool} {fn : List He5.DefA} {g : Addr → Option Obj} {s : Shared} (h : ∀ a, g a = s.heap.get? a) : obsL n fb fn g = (hookL n fb fn).obs s := by
  have e : g = s.heap.get? := funext h
  rw [e] <;> rfl
/-- a tuple of the written part -/
def tupAB (K : PySem.W.Frag) (a : Addr) (vs : List V) : Bool := match K.lookup a with
  | some ⟨.type c, _, .seq its _, _⟩ => decide (c = "tuple") && (decide (its.size ≤ sizeLine) && He.relAll vs its.toList)
  | _ => false
theorem tupAB_ok {K : PySem.W.Frag} {a : Addr} {vs : List V} (h : tupAB K a vs = true) : ∀ H : Hp, SqT K H a vs := fun H => by
  unfold tupAB at h
  cases q : K.lookup a with
  | none =>
    rw [q] at h
    cases h
  | some o =>
    obtain ⟨oc, od, dt, osl⟩ := o
    rw [q] at h
    cases oc with
    | type c =>
      cases dt with
      | seq its n =>
        obtain ⟨h1, h2⟩ := He.ba (show (decide (c = "tuple") && (decide (its.size ≤ sizeLine) && He.relAll vs its.toList)) = true from h)
        obtain ⟨h3, h4⟩ := He.ba h2
        exact .inr ⟨_, its, n, q, congrArg Value.type (of_decide_eq_true h1), rfl, of_decide_eq_true h3, He.relAll_ok h4⟩
      | _ => cases h
    | _ => cases dt <;> cases h
/-! ### the law -/
theorem law_spL {K : PySem.W.Frag} {fn : List Oh.W → M → Res Oh.W} {H : Hp} {a : Addr} {ns : List Int} {q : Str} (hS : SqL K H a (ns.map V.int)) (hP : H (tabP K) = some (.tbl #[])) (h : ∃ m', fn [.p (.scr ns)] [.tab q] = .ok (.p (.bl true)) m') :
    spD0 K fn 1 [.ref a] H (fun v _ => v = .bl true) fun _ _ _ => False := by
  obtain ⟨m', e⟩ := h
  refine ⟨rfl, ⟨[tabP K], []⟩, [.tab q], [.p (.scr ns)], ⟨rfl, by simp, fun n b c h1 h2 => ?_, fun a h => by simp at h⟩, .cons (Rep.scr ?_) .nil, ?_⟩
  · cases n with
    | succ n => simp at h1
    | zero =>
      simp at h1 h2
      subst h1 h2
      exact ⟨rfl, #[], hP, trivial, fun pos cv hc => by
        have z : codeAmong pos [] = some cv := hc
        simp [codeAmong] at z⟩
  · rcases hS with hS | hS
    · refine .inl ⟨fun z => ?_, hS⟩
      have z : a = tabP K := by simpa [lives, lv] using z
      subst z
      rcases hS with hS | ⟨o, hS⟩
      · rw [hP] at hS; cases hS
      · rw [hP] at hS; cases hS
    · exact .inr fun H' => .inr hS
  · rw [e]
    intro v ρ' H' l r q
    cases q
    rfl
theorem law_sp {K : PySem.W.Frag} {fn : List Oh.W → M → Res Oh.W} {H : Hp} {a : Addr} {ns : List Int} (hS : SqL K H a (ns.map V.int)) (h : ∃ m', fn [.p (.scr ns)] [] = .ok (.p (.bl true)) m') :
    spD0 K fn 1 [.ref a] H (fun v _ => v = .bl true) fun _ _ _ => False := by
  obtain ⟨m', e⟩ := h
  refine ⟨rfl, ⟨[], []⟩, [], [.p (.scr ns)], ⟨rfl, List.nodup_nil, fun n a c h1 => by simp at h1, fun a h => by simp at h⟩, .cons (Rep.scr ?_) .nil, ?_⟩
  · rcases hS with hS | hS
    · exact .inl ⟨by simp [lives, lv], hS⟩
    · exact .inr fun H' => .inr hS
  · rw [e]
    intro v ρ' H' l r q
    cases q
    rfl
end Oh

set_option Elab.async false
set_option linter.all false
set_option maxRecDepth 100000
set_option maxHeartbeats 4000000
set_option autoImplicit false
/-! OhL: the evaluator's equations, for simp -/
namespace Oh
section
variable {G : Nat → Option D} {Fn : Fns} {s : Env} {m : M} {K : Nat}
@[simp] theorem ev_non : ev G Fn .non s m = .ok (.p .non) m := by simp only [ev]
@[simp] theorem ev_bl (b : Bool) : ev G Fn (.bl b) s m = .ok (.p (.bl b)) m := by simp only [ev]
@[simp] theorem ev_int (i : Int) : ev G Fn (.int i) s m = .ok (.p (.int i)) m := by simp only [ev]
@[simp] theorem ev_str (x : Tx) : ev G Fn (.str x) s m = .ok (.p (.str x)) m := by simp only [ev]
@[simp] theorem ev_ty (k : Nat) : ev G Fn (.ty k) s m = .ok (.p (.ty k)) m := by simp only [ev]
def locR (o : Option (Option W)) (m : M) : Res W := match o with
  | some (some w) => .ok w m
  | _ => .bad
@[simp] theorem locR_some (w : W) (m : M) : locR (some (some w)) m = .ok w m := rfl
@[simp] theorem ev_loc (i : Nat) : ev G Fn (.loc i) s m = locR s[i]? m := by
  simp only [ev]
  unfold locR
  rfl
def getG (o : Option D) (m : M) : Res W := match o with
  | some d => .ok (.p d) m
  | none => .bad
@[simp] theorem getG_some (d : D) (m : M) : getG (some d) m = .ok (.p d) m := rfl
@[simp] theorem ev_glb (i : Nat) : ev G Fn (.glb i) s m = getG (G i) m := by
  simp only [ev]
  unfold getG
  rfl
@[simp] theorem ev_bin (op : Op) (a b : E) : ev G Fn (.bin op a b) s m = (ev G Fn a s m).bind fun w1 m1 => (ev G Fn b s m1).bind fun w2 m2 => op2 (opD op) w1 w2 m2 := by simp only [ev]
@[simp] theorem ev_neg (a : E) : ev G Fn (.neg a) s m = (ev G Fn a s m).bind fun w m1 => op1 negD w m1 := by simp only [ev]
@[simp] theorem ev_cmp (op : Cmp) (a b : E) : ev G Fn (.cmp op a b) s m = (ev G Fn a s m).bind fun w1 m1 => (ev G Fn b s m1).bind fun w2 m2 => cmpW G Fn op w1 w2 m2 := by simp only [ev]
/-- no instance -/
def notIns : D → Bool
  | .ins _ _ => false
  | _ => true
@[simp] theorem cmpW_c (op : Cmp) (n : Nat) (w : W) : cmpW G Fn op (.c n) w m = op2 (cmpB op) (.c n) w m := by unfold cmpW; cases op <;> rfl
theorem cmpW_d (op : Cmp) {d : D} (h : notIns d = true) (w : W) : cmpW G Fn op (.p d) w m = op2 (cmpB op) (.p d) w m := by
  unfold cmpW
  cases op <;> first | rfl | (cases d <;> first | rfl | cases h)
@[simp] theorem cmpW_non (op : Cmp) (w : W) : cmpW G Fn op (.p .non) w m = op2 (cmpB op) (.p .non) w m := cmpW_d op rfl w
@[simp] theorem cmpW_bl (op : Cmp) (b : Bool) (w : W) : cmpW G Fn op (.p (.bl b)) w m = op2 (cmpB op) (.p (.bl b)) w m := cmpW_d op rfl w
@[simp] theorem cmpW_int (op : Cmp) (b : Int) (w : W) : cmpW G Fn op (.p (.int b)) w m = op2 (cmpB op) (.p (.int b)) w m := cmpW_d op rfl w
@[simp] theorem cmpW_str (op : Cmp) (b : Tx) (w : W) : cmpW G Fn op (.p (.str b)) w m = op2 (cmpB op) (.p (.str b)) w m := cmpW_d op rfl w
@[simp] theorem cmpW_lst (op : Cmp) (b : List D) (w : W) : cmpW G Fn op (.p (.lst b)) w m = op2 (cmpB op) (.p (.lst b)) w m := cmpW_d op rfl w
@[simp] theorem cmpW_tup (op : Cmp) (b : List D) (w : W) : cmpW G Fn op (.p (.tup b)) w m = op2 (cmpB op) (.p (.tup b)) w m := cmpW_d op rfl w
@[simp] theorem cmpW_is (w1 w : W) : cmpW G Fn .is w1 w m = op2 (cmpB .is) w1 w m := by unfold cmpW; rfl
@[simp] theorem cmpW_isnot (w1 w : W) : cmpW G Fn .isnot w1 w m = op2 (cmpB .isnot) w1 w m := by unfold cmpW; rfl
@[simp] theorem cmpW_isin (w1 w : W) : cmpW G Fn .isin w1 w m = op2 (cmpB .isin) w1 w m := by unfold cmpW; rfl
@[simp] theorem cmpW_notin (w1 w : W) : cmpW G Fn .notin w1 w m = op2 (cmpB .notin) w1 w m := by unfold cmpW; rfl
@[simp] theorem cmpW_lt (w1 w : W) : cmpW G Fn .lt w1 w m = op2 (cmpB .lt) w1 w m := by unfold cmpW; rfl
@[simp] theorem cmpW_le (w1 w : W) : cmpW G Fn .le w1 w m = op2 (cmpB .le) w1 w m := by unfold cmpW; rfl
@[simp] theorem cmpW_gt (w1 w : W) : cmpW G Fn .gt w1 w m = op2 (cmpB .gt) w1 w m := by unfold cmpW; rfl
@[simp] theorem cmpW_ge (w1 w : W) : cmpW G Fn .ge w1 w m = op2 (cmpB .ge) w1 w m := by unfold cmpW; rfl
@[simp] theorem cmpW_eqI (c : Nat) (fs : List (Nat × D)) (w : W) : cmpW G Fn .eq (.p (.ins c fs)) w m = eqW G Fn false c (.p (.ins c fs)) w m := rfl
@[simp] theorem cmpW_neI (c : Nat) (fs : List (Nat × D)) (w : W) : cmpW G Fn .ne (.p (.ins c fs)) w m = eqW G Fn true c (.p (.ins c fs)) w m := rfl
@[simp] theorem ev_cls (c : Nat) : ev G Fn (.cls c) s m = .ok (.p (.cls c)) m := by simp only [ev]
@[simp] theorem ev_fld (a : E) (f : Nat) : ev G Fn (.fld a f) s m = (ev G Fn a s m).bind fun w m1 => fldR f w m1 := by simp only [ev]
@[simp] theorem ev_con (a : E) (f : Nat) : ev G Fn (.con a f) s m = (ev G Fn a s m).bind fun w m1 => (clsR f w m1).bind fun c m2 => conR (G (mnum c f)) m2 := by simp only [ev]
@[simp] theorem ev_mcall (a : E) (f : Nat) (l ks : List E) (src : List Src) : ev G Fn (.mcall a f l ks src) s m = (ev G Fn a s m).bind fun w m1 => (clsR f w m1).bind fun c m2 => if isFn (G (mnum c f)) then ((evs G Fn l s m2).bind fun ws m3 => (evs G Fn ks s m3).bind fun zs m4 => Fn (mnum c f) (bindA (w :: ws) zs src) m4) else .bad := by simp only [ev]
@[simp] theorem ev_make (c : Nat) (l ks : List E) (src : List Src) : ev G Fn (.make c l ks src) s m = (evs G Fn l s m).bind fun ws m1 => (evs G Fn ks s m1).bind fun zs m2 => mkW Fn c ws zs src m2 := by simp only [ev]
@[simp] theorem ev_cm (c f : Nat) (l ks : List E) (src : List Src) : ev G Fn (.cm c f l ks src) s m = if isCm (G (mnum c f)) then ((evs G Fn l s m).bind fun ws m1 => (evs G Fn ks s m1).bind fun zs m2 => Fn (mnum c f) (bindA (.p (.cls c) :: ws) zs src) m2) else .bad := by simp only [ev]
/-- a local's class is made -/
def dcR (G : Nat → Option D) (Fn : Fns) (o : Option (Option W)) (k : (List W → M → Res W) → Res W) : Res W := match o with
  | some (some w) => match isMk G w with
    | some c => k fun ws m1 => mkW Fn c ws [] [] m1
    | none => .bad
  | _ => .bad
@[simp] theorem ev_dcall (i : Nat) (l : List E) : ev G Fn (.dcall i l) s m = dcR G Fn s[i]? fun k => (evs G Fn l s m).bind fun ws m1 => k ws m1 := by
  simp only [ev]
  unfold dcR
  rfl
theorem dcR_cls {c : Nat} (h : isFn (G (mnum c 0)) = true) (k : (List W → M → Res W) → Res W) : dcR G Fn (some (some (.p (.cls c)))) k = k fun ws m1 => mkW Fn c ws [] [] m1 := by
  unfold dcR isMk
  simp only [h, if_true]
@[simp] theorem ev_obin (op : Op) (a b : E) : ev G Fn (.obin op a b) s m = (ev G Fn a s m).bind fun w1 m1 => (ev G Fn b s m1).bind fun w2 m2 => opW G Fn op w1 w2 m2 := by simp only [ev]
@[simp] theorem ev_dct0 : ev G Fn .dct0 s m = .ok (.p (.dct [])) m := by simp only [ev]
@[simp] theorem ev_dct2 (k v k2 v2 : E) : ev G Fn (.dct2 k v k2 v2) s m = noX ((ev G Fn k s m).bind fun w1 m1 => (ev G Fn v s m1).bind fun w2 m2 => (ev G Fn k2 s m2).bind fun w3 m3 => (ev G Fn v2 s m3).bind fun w4 m4 => dct2R w1 w2 w3 w4 m4) := by simp only [ev]
@[simp] theorem ev_litems (a : E) : ev G Fn (.litems a) s m = (ev G Fn a s m).bind fun w m1 => op1 litemsD w m1 := by simp only [ev]
@[simp] theorem ev_mint (a : E) : ev G Fn (.mint a) s m = (ev G Fn a s m).bind fun w m1 => op1 mintD w m1 := by simp only [ev]
@[simp] theorem ev_dct1 (k v : E) : ev G Fn (.dct1 k v) s m = noX ((ev G Fn k s m).bind fun w1 m1 => (ev G Fn v s m1).bind fun w2 m2 => dct1R w1 w2 m2) := by simp only [ev]
@[simp] theorem ev_cat (a b : E) : ev G Fn (.cat a b) s m = (ev G Fn a s m).bind fun w1 m1 => (ev G Fn b s m1).bind fun w2 m2 => op2 catD w1 w2 m2 := by simp only [ev]
@[simp] theorem ev_sset (a : E) : ev G Fn (.sset a) s m = (ev G Fn a s m).bind fun w m1 => op1 ssetD w m1 := by simp only [ev]
@[simp] theorem ev_mind (a : E) : ev G Fn (.mind a) s m = (ev G Fn a s m).bind fun w m1 => op1 mindD w m1 := by simp only [ev]
@[simp] theorem ev_star2 (a b : E) : ev G Fn (.star2 a b) s m = (ev G Fn a s m).bind fun w1 m1 => (ofO (starW w1) m1).bind fun xs m2 => (ev G Fn b s m2).bind fun w2 m3 => (ofO (starW w2) m3).bind fun ys m4 => lcList (xs ++ ys) m4 := by simp only [ev]
@[simp] theorem ev_fstr (l : List E) : ev G Fn (.fstr l) s m = evF G Fn l [] s m := by simp only [ev]
@[simp] theorem evF_nil (acc : Tx) : evF G Fn [] acc s m = .ok (.p (.str acc)) m := by simp only [evF]
@[simp] theorem evF_cons (e : E) (r : List E) (acc : Tx) : evF G Fn (e :: r) acc s m = (ev G Fn e s m).bind fun w m1 => (ofO (fpart acc w) m1).bind fun t m2 => evF G Fn r t s m2 := by simp only [evF]
@[simp] theorem bindA_nil {α : Type} (us zs : List α) : bindA us zs [] = us := rfl
@[simp] theorem bindA_cons {α : Type} (us zs : List α) (q : Src) (r : List Src) : bindA us zs (q :: r) = bindK us zs (q :: r) := rfl
@[simp] theorem clsR_ins (f c : Nat) (fs : List (Nat × D)) (h : fs.lookup f = none) : clsR f (.p (.ins c fs)) m = .ok c m := by unfold clsR insW; simp only [h]
theorem fldR_ins {f c : Nat} {fs : List (Nat × D)} {d : D} (h : (fieldsOf c).contains f = true) (h2 : fs.lookup f = some d) : fldR f (.p (.ins c fs)) m = .ok (.p d) m := by unfold fldR insW; simp only [h, h2, if_true]
@[simp] theorem asD_p (d : D) : asD (.p d) m = some d := rfl
def iteR {α : Type} (b : Bool) (x y : Res α) : Res α := match b with
  | true => x
  | false => y
@[simp] theorem iteR_true {α : Type} (x y : Res α) : iteR true x y = x := rfl
@[simp] theorem iteR_false {α : Type} (x y : Res α) : iteR false x y = y := rfl
@[simp] theorem ev_cmp2 (op op' : Cmp) (a b c : E) : ev G Fn (.cmp2 op op' a b c) s m = (ev G Fn a s m).bind fun w1 m1 => (ev G Fn b s m1).bind fun w2 m2 => (op2 (cmpB op) w1 w2 m2).bind fun t m3 => (test t m3).bind fun z m4 => iteR z ((ev G Fn c s m4).bind fun w3 m5 => op2 (cmpB op') w2 w3 m5) (.ok (.p (.bl false)) m4) := by
  simp only [ev]; congr 1; funext w1 m1; congr 1; funext w2 m2; congr 1; funext t m3; congr 1; funext z m4; cases z <;> rfl
@[simp] theorem ev_and (l : List E) : ev G Fn (.and l) s m = evAnd G Fn l s m := by simp only [ev]
@[simp] theorem ev_or (l : List E) : ev G Fn (.or l) s m = evOr G Fn l s m := by simp only [ev]
@[simp] theorem ev_not (a : E) : ev G Fn (.not a) s m = (ev G Fn a s m).bind fun w m1 => (test w m1).bind fun b m2 => .ok (.p (.bl (!b))) m2 := by simp only [ev]
@[simp] theorem ev_ite (c a b : E) : ev G Fn (.ite c a b) s m = (ev G Fn c s m).bind fun w m1 => (test w m1).bind fun t m2 => iteR t (ev G Fn a s m2) (ev G Fn b s m2) := by simp only [ev]; rfl
@[simp] theorem ev_lst (l : List E) : ev G Fn (.lst l) s m = (evs G Fn l s m).bind fun ws m1 => pures ws .lst m1 := by simp only [ev]
@[simp] theorem ev_tup (l : List E) : ev G Fn (.tup l) s m = (evs G Fn l s m).bind fun ws m1 => pures ws .tup m1 := by simp only [ev]
@[simp] theorem ev_idx (a i : E) : ev G Fn (.idx a i) s m = (ev G Fn a s m).bind fun w1 m1 => (ev G Fn i s m1).bind fun w2 m2 => op2 idxD w1 w2 m2 := by simp only [ev]
@[simp] theorem ev_slc (a : E) (lo hi : Option E) : ev G Fn (.slc a lo hi) s m = (ev G Fn a s m).bind fun w m1 => (evo G Fn lo s m1).bind fun l m2 => (evo G Fn hi s m2).bind fun h m3 => op1 (fun x => slcD x l h) w m3 := by simp only [ev]
@[simp] theorem ev_rev (a : E) : ev G Fn (.rev a) s m = (ev G Fn a s m).bind fun w m1 => op1 revD w m1 := by simp only [ev]
@[simp] theorem ev_call (f : Nat) (l : List E) : ev G Fn (.call f l) s m = (evs G Fn l s m).bind fun ws m1 => Fn f ws m1 := by simp only [ev]
@[simp] theorem ev_callk (f : Nat) (l ks : List E) (src : List Src) : ev G Fn (.callk f l ks src) s m = (evs G Fn l s m).bind fun ws m1 => (evs G Fn ks s m1).bind fun zs m2 => Fn f (bindK ws zs src) m2 := by simp only [ev]
@[simp] theorem ev_bi (b : Bi) (l : List E) : ev G Fn (.bi b l) s m = (evs G Fn l s m).bind fun ws m1 => biW G Fn b ws m1 := by simp only [ev]
@[simp] theorem biW_len_lst (xs : List D) : biW G Fn .len [.p (.lst xs)] m = opn (biD .len) [.p (.lst xs)] m := rfl
@[simp] theorem biW_len_tup (xs : List D) : biW G Fn .len [.p (.tup xs)] m = opn (biD .len) [.p (.tup xs)] m := rfl
@[simp] theorem biW_len_str (xs : Tx) : biW G Fn .len [.p (.str xs)] m = opn (biD .len) [.p (.str xs)] m := rfl
@[simp] theorem biW_len_c (n : Nat) : biW G Fn .len [.c n] m = opn (biD .len) [.c n] m := rfl
@[simp] theorem biW_len_ins (c : Nat) (fs : List (Nat × D)) : biW G Fn .len [.p (.ins c fs)] m = if isFn (G (mnum c 18)) then noX ((Fn (mnum c 18) [.p (.ins c fs)] m).bind natOnly) else .bad := rfl
theorem natOnly_nat (n : Nat) (h : n < 1152921504606846976) : natOnly (.p (.int n)) m = .ok (.p (.int n)) m := by
  unfold natOnly
  simp only []
  rw [if_pos]
  rw [Bool.and_eq_true, decide_eq_true_eq, decide_eq_true_eq]
  exact ⟨by omega, by omega⟩
@[simp] theorem biW_max (ws : List W) : biW G Fn .max ws m = opn (biD .max) ws m := by unfold biW; rfl
@[simp] theorem biW_min (ws : List W) : biW G Fn .min ws m = opn (biD .min) ws m := by unfold biW; rfl
@[simp] theorem biW_sorted (ws : List W) : biW G Fn .sorted ws m = opn (biD .sorted) ws m := by unfold biW; rfl
@[simp] theorem max_int (i j : Int) : biD .max [.int i, .int j] = some (.int (if j > i then j else i)) := rfl
@[simp] theorem min_int (i j : Int) : biD .min [.int i, .int j] = some (.int (if j < i then j else i)) := rfl
@[simp] theorem ev_lidx (a b : E) : ev G Fn (.lidx a b) s m = (ev G Fn a s m).bind fun w1 m1 => (ofO (lstOf w1 m1) m1).bind fun _ m2 => (ev G Fn b s m2).bind fun w2 m3 => op2 lidxD w1 w2 m3 := by simp only [ev]
@[simp] theorem lstOf_lst (xs : List D) : lstOf (.p (.lst xs)) m = some xs := rfl
@[simp] theorem idxD_dct (kvs : List (D × D)) (k : Tx) : idxD (.dct kvs) (.str k) = look k kvs := rfl
@[simp] theorem isin_dct (kvs : List (D × D)) (k : Tx) : cmpB .isin (.str k) (.dct kvs) = some (.bl (look k kvs).isSome) := by
  match k with
  | [] => rfl
  | [_] => rfl
  | _ :: _ :: _ => rfl
theorem mul_str {a : Tx} {k : Int} (h : (decide (0 ≤ k) && decide (k < 1000) && decide (a.length * k.toNat ≤ line)) = true) : opD .mul (.str a) (.int k) = some (.str (List.replicate k.toNat a).flatten) := if_pos h
@[simp] theorem biW_all (ws : List W) : biW G Fn .all ws m = opn (biD .all) ws m := by unfold biW; rfl
@[simp] theorem biW_any (ws : List W) : biW G Fn .any ws m = opn (biD .any) ws m := by unfold biW; rfl
@[simp] theorem biW_int (ws : List W) : biW G Fn .int ws m = opn (biD .int) ws m := by unfold biW; rfl
@[simp] theorem biW_list (ws : List W) : biW G Fn .list ws m = opn (biD .list) ws m := by unfold biW; rfl
@[simp] theorem biW_tuple (ws : List W) : biW G Fn .tuple ws m = opn (biD .tuple) ws m := by unfold biW; rfl
@[simp] theorem biW_isiTy (w : W) (k : Nat) : biW G Fn .isi [w, .p (.ty k)] m = opn (biD .isi) [w, .p (.ty k)] m := by unfold biW; rfl
@[simp] theorem biW_isiTup (w : W) (ds : List D) : biW G Fn .isi [w, .p (.tup ds)] m = opn (biD .isi) [w, .p (.tup ds)] m := by unfold biW; rfl
@[simp] theorem biW_isiCls (d : D) (k : Nat) : biW G Fn .isi [.p d, .p (.cls k)] m = isiW G d k m := rfl
@[simp] theorem biW_repr (c : Nat) (fs : List (Nat × D)) : biW G Fn .repr [.p (.ins c fs)] m = if isFn (G (mnum c 25)) then noX ((Fn (mnum c 25) [.p (.ins c fs)] m).bind strOnly) else .bad := rfl
@[simp] theorem strOnly_str (t : Tx) : strOnly (.p (.str t)) m = .ok (.p (.str t)) m := rfl
@[simp] theorem ev_me (f : Me) (a b : E) : ev G Fn (.me f a b) s m = (ev G Fn a s m).bind fun w1 m1 => (str1 w1 m1).bind fun t m2 => (ev G Fn b s m2).bind fun w2 m3 => op1 (meD f t) w2 m3 := by simp only [ev]
@[simp] theorem ev_lc (e : E) (ts : List Nat) (it : I) (ifs : List E) : ev G Fn (.lc e ts it ifs) s m = (evI G Fn it s m).bind fun xs m1 => (noX (lcGo (lcTurn ts (fun s m => tests G Fn ifs s m) (fun s m => ev G Fn e s m) s) xs m1)).bind lcList := by simp only [ev]
@[simp] theorem evs_nil : evs G Fn [] s m = .ok [] m := by simp only [evs]
@[simp] theorem evs_cons (e : E) (r : List E) : evs G Fn (e :: r) s m = (ev G Fn e s m).bind fun w m1 => (evs G Fn r s m1).bind fun ws m2 => .ok (w :: ws) m2 := by simp only [evs]
@[simp] theorem evo_none : evo G Fn none s m = .ok none m := by simp only [evo]
@[simp] theorem evo_some (e : E) : evo G Fn (some e) s m = (ev G Fn e s m).bind fun w m1 => (int1 w m1).bind fun i m2 => .ok (some i) m2 := by simp only [evo]
@[simp] theorem evAnd_one (e : E) : evAnd G Fn [e] s m = ev G Fn e s m := by simp only [evAnd]
@[simp] theorem evAnd_cons (e e2 : E) (r : List E) : evAnd G Fn (e :: e2 :: r) s m = (ev G Fn e s m).bind fun w m1 => (test w m1).bind fun b m2 => iteR b (evAnd G Fn (e2 :: r) s m2) (.ok (.p (.bl false)) m2) := by simp only [evAnd]; rfl
@[simp] theorem evOr_one (e : E) : evOr G Fn [e] s m = ev G Fn e s m := by simp only [evOr]
@[simp] theorem evOr_cons (e e2 : E) (r : List E) : evOr G Fn (e :: e2 :: r) s m = (ev G Fn e s m).bind fun w m1 => (test w m1).bind fun b m2 => iteR b (.ok (.p (.bl true)) m2) (evOr G Fn (e2 :: r) s m2) := by simp only [evOr]; rfl
@[simp] theorem tests_nil : tests G Fn [] s m = .ok true m := by simp only [tests]
@[simp] theorem tests_cons (e : E) (r : List E) : tests G Fn (e :: r) s m = (ev G Fn e s m).bind fun w m1 => (test w m1).bind fun b m2 => iteR b (tests G Fn r s m2) (.ok false m2) := by simp only [tests]; rfl
@[simp] theorem evI_ex (e : E) : evI G Fn (.ex e) s m = (ev G Fn e s m).bind itm := by simp only [evI]
@[simp] theorem evI_rng (l : List E) : evI G Fn (.rng l) s m = (evs G Fn l s m).bind rngW := by simp only [evI]
@[simp] theorem evI_enum (l : List E) : evI G Fn (.enum l) s m = (evs G Fn l s m).bind enumW := by simp only [evI]
@[simp] theorem enumW_lst (xs : List D) : enumW [.p (.lst xs)] m = .ok (xs.zipIdx.map fun q => D.tup [.int q.2, q.1]) m := rfl
@[simp] theorem evI_zip (l : List E) : evI G Fn (.zip l) s m = (evs G Fn l s m).bind zipW := by simp only [evI]
@[simp] theorem test_bl (b : Bool) : test (.p (.bl b)) m = .ok b m := rfl
@[simp] theorem int1_int (i : Int) : int1 (.p (.int i)) m = .ok i m := rfl
@[simp] theorem str1_str (x : Tx) : str1 (.p (.str x)) m = .ok x m := rfl
/-! ### operations -/
def oR (o : Option D) (m : M) : Res W := match o with
  | some z => .ok (.p z) m
  | none => .bad
@[simp] theorem oR_some (d : D) : oR (some d) m = .ok (.p d) m := rfl
@[simp] theorem op1_p (f : D → Option D) (x : D) : op1 f (.p x) m = oR (f x) m := rfl
@[simp] theorem op2_pp (f : D → D → Option D) (x y : D) : op2 f (.p x) (.p y) m = oR (f x y) m := rfl
/-- a list in a cell is looked at -/
def cR (o : Option C) (k : D → Res W) : Res W := match o with
  | some (.lst xs) => k (.lst xs)
  | some (.dct xs) => k (.dct xs)
  | _ => .bad
@[simp] theorem cR_dct (xs : List (D × D)) (k : D → Res W) : cR (some (.dct xs)) k = k (.dct xs) := rfl
@[simp] theorem cR_lst (xs : List D) (k : D → Res W) : cR (some (.lst xs)) k = k (.lst xs) := rfl
@[simp] theorem op1_c (f : D → Option D) (n : Nat) : op1 f (.c n) m = cR m[n]? fun x => oR (f x) m := by
  unfold op1 asD cR
  simp only []
  cases m[n]? with
  | none => rfl
  | some c => cases c <;> rfl
@[simp] theorem op2_c (f : D → D → Option D) (n : Nat) (y : D) : op2 f (.c n) (.p y) m = cR m[n]? fun x => oR (f x y) m := by
  unfold op2 asD cR
  simp only []
  cases m[n]? with
  | none => rfl
  | some c => cases c <;> rfl
@[simp] theorem op2_pc (f : D → D → Option D) (n : Nat) (y : D) : op2 f (.p y) (.c n) m = cR m[n]? fun x => oR (f y x) m := by
  unfold op2 asD cR
  simp only []
  cases m[n]? with
  | none => rfl
  | some c => cases c <;> rfl
@[simp] theorem opn_c (f : List D → Option D) (n : Nat) : opn f [.c n] m = cR m[n]? fun x => oR (f [x]) m := by
  unfold opn cR
  simp only [toDs, asD]
  cases m[n]? with
  | none => rfl
  | some c => cases c <;> rfl
@[simp] theorem opn_cp (f : List D → Option D) (n : Nat) (y : D) : opn f [.c n, .p y] m = cR m[n]? fun x => oR (f [x, y]) m := by
  unfold opn cR
  simp only [toDs, asD]
  cases m[n]? with
  | none => rfl
  | some c => cases c <;> rfl
@[simp] theorem opn_1 (f : List D → Option D) (x : D) : opn f [.p x] m = oR (f [x]) m := rfl
@[simp] theorem opn_2 (f : List D → Option D) (x y : D) : opn f [.p x, .p y] m = oR (f [x, y]) m := rfl
@[simp] theorem pures_nil (f : List D → D) : pures [] f m = .ok (.p (f [])) m := rfl
@[simp] theorem pures_1 (f : List D → D) (a0 : D) : pures [.p a0] f m = .ok (.p (f [a0])) m := rfl
@[simp] theorem pures_2 (f : List D → D) (a0 a1 : D) : pures [.p a0, .p a1] f m = .ok (.p (f [a0, a1])) m := rfl
@[simp] theorem pures_3 (f : List D → D) (a0 a1 a2 : D) : pures [.p a0, .p a1, .p a2] f m = .ok (.p (f [a0, a1, a2])) m := rfl
@[simp] theorem pures_4 (f : List D → D) (a0 a1 a2 a3 : D) : pures [.p a0, .p a1, .p a2, .p a3] f m = .ok (.p (f [a0, a1, a2, a3])) m := rfl
@[simp] theorem pures_5 (f : List D → D) (a0 a1 a2 a3 a4 : D) : pures [.p a0, .p a1, .p a2, .p a3, .p a4] f m = .ok (.p (f [a0, a1, a2, a3, a4])) m := rfl
@[simp] theorem pures_6 (f : List D → D) (a0 a1 a2 a3 a4 a5 : D) : pures [.p a0, .p a1, .p a2, .p a3, .p a4, .p a5] f m = .ok (.p (f [a0, a1, a2, a3, a4, a5])) m := rfl
@[simp] theorem pures_7 (f : List D → D) (a0 a1 a2 a3 a4 a5 a6 : D) : pures [.p a0, .p a1, .p a2, .p a3, .p a4, .p a5, .p a6] f m = .ok (.p (f [a0, a1, a2, a3, a4, a5, a6])) m := rfl
@[simp] theorem pures_8 (f : List D → D) (a0 a1 a2 a3 a4 a5 a6 a7 : D) : pures [.p a0, .p a1, .p a2, .p a3, .p a4, .p a5, .p a6, .p a7] f m = .ok (.p (f [a0, a1, a2, a3, a4, a5, a6, a7])) m := rfl
@[simp] theorem pures_9 (f : List D → D) (a0 a1 a2 a3 a4 a5 a6 a7 a8 : D) : pures [.p a0, .p a1, .p a2, .p a3, .p a4, .p a5, .p a6, .p a7, .p a8] f m = .ok (.p (f [a0, a1, a2, a3, a4, a5, a6, a7, a8])) m := rfl
@[simp] theorem pures_10 (f : List D → D) (a0 a1 a2 a3 a4 a5 a6 a7 a8 a9 : D) : pures [.p a0, .p a1, .p a2, .p a3, .p a4, .p a5, .p a6, .p a7, .p a8, .p a9] f m = .ok (.p (f [a0, a1, a2, a3, a4, a5, a6, a7, a8, a9])) m := rfl
@[simp] theorem pures_11 (f : List D → D) (a0 a1 a2 a3 a4 a5 a6 a7 a8 a9 a10 : D) : pures [.p a0, .p a1, .p a2, .p a3, .p a4, .p a5, .p a6, .p a7, .p a8, .p a9, .p a10] f m = .ok (.p (f [a0, a1, a2, a3, a4, a5, a6, a7, a8, a9, a10])) m := rfl
@[simp] theorem pures_12 (f : List D → D) (a0 a1 a2 a3 a4 a5 a6 a7 a8 a9 a10 a11 : D) : pures [.p a0, .p a1, .p a2, .p a3, .p a4, .p a5, .p a6, .p a7, .p a8, .p a9, .p a10, .p a11] f m = .ok (.p (f [a0, a1, a2, a3, a4, a5, a6, a7, a8, a9, a10, a11])) m := rfl
@[simp] theorem pures_13 (f : List D → D) (a0 a1 a2 a3 a4 a5 a6 a7 a8 a9 a10 a11 a12 : D) : pures [.p a0, .p a1, .p a2, .p a3, .p a4, .p a5, .p a6, .p a7, .p a8, .p a9, .p a10, .p a11, .p a12] f m = .ok (.p (f [a0, a1, a2, a3, a4, a5, a6, a7, a8, a9, a10, a11, a12])) m := rfl
@[simp] theorem pures_14 (f : List D → D) (a0 a1 a2 a3 a4 a5 a6 a7 a8 a9 a10 a11 a12 a13 : D) : pures [.p a0, .p a1, .p a2, .p a3, .p a4, .p a5, .p a6, .p a7, .p a8, .p a9, .p a10, .p a11, .p a12, .p a13] f m = .ok (.p (f [a0, a1, a2, a3, a4, a5, a6, a7, a8, a9, a10, a11, a12, a13])) m := rfl
@[simp] theorem pures_15 (f : List D → D) (a0 a1 a2 a3 a4 a5 a6 a7 a8 a9 a10 a11 a12 a13 a14 : D) : pures [.p a0, .p a1, .p a2, .p a3, .p a4, .p a5, .p a6, .p a7, .p a8, .p a9, .p a10, .p a11, .p a12, .p a13, .p a14] f m = .ok (.p (f [a0, a1, a2, a3, a4, a5, a6, a7, a8, a9, a10, a11, a12, a13, a14])) m := rfl
@[simp] theorem pures_16 (f : List D → D) (a0 a1 a2 a3 a4 a5 a6 a7 a8 a9 a10 a11 a12 a13 a14 a15 : D) : pures [.p a0, .p a1, .p a2, .p a3, .p a4, .p a5, .p a6, .p a7, .p a8, .p a9, .p a10, .p a11, .p a12, .p a13, .p a14, .p a15] f m = .ok (.p (f [a0, a1, a2, a3, a4, a5, a6, a7, a8, a9, a10, a11, a12, a13, a14, a15])) m := rfl
@[simp] theorem itm_p (d : D) : itm (.p d) m = ofO (items d) m := rfl
/-! ### the operations' equations -/
@[simp] theorem idxD_lst (xs : List D) (k : Int) : idxD (.lst xs) (.int k) = atI xs k := rfl
@[simp] theorem idxD_tup (xs : List D) (k : Int) : idxD (.tup xs) (.int k) = atI xs k := rfl
theorem idxD_str {xs : Tx} (k : Int) (h : xs.length ≤ line) : idxD (.str xs) (.int k) = (atI xs k).map fun c => .str [c] := if_pos h
@[simp] theorem slcD_lst (xs : List D) (lo hi : Option Int) : slcD (.lst xs) lo hi = some (.lst (cut xs lo hi)) := rfl
theorem slcD_str {xs : Tx} (lo hi : Option Int) (h : xs.length ≤ line) : slcD (.str xs) lo hi = some (.str (cut xs lo hi)) := if_pos h
@[simp] theorem slcD_scr (xs : List Int) (lo hi : Option Int) : slcD (.scr xs) lo hi = some (.lst ((cut xs lo hi).map .int)) := rfl
@[simp] theorem revD_lst (xs : List D) : revD (.lst xs) = some (.lst xs.reverse) := rfl
@[simp] theorem add_int (i j : Int) : opD .add (.int i) (.int j) = some (.int (i + j)) := rfl
@[simp] theorem sub_int (i j : Int) : opD .sub (.int i) (.int j) = some (.int (i - j)) := rfl
theorem mul_int {i j : Int} (h : mulOk i j = true) : opD .mul (.int i) (.int j) = some (.int (i * j)) := if_pos h
@[simp] theorem mul_lit (i j : Int) (h : (decide (-(2 ^ 64) < j) && decide (j < 2 ^ 64)) = true) : opD .mul (.int i) (.int j) = some (.int (i * j)) := mul_int (by unfold mulOk; rw [h, Bool.or_true])
@[simp] theorem lit_mul (i j : Int) (h : (decide (-(2 ^ 64) < i) && decide (i < 2 ^ 64)) = true) : opD .mul (.int i) (.int j) = some (.int (i * j)) := mul_int (by unfold mulOk; rw [h, Bool.true_or])
theorem fdiv_int {i j : Int} (h : 0 < j) (h2 : j < 1073741824) : opD .fdiv (.int i) (.int j) = some (.int (i / j)) := if_pos (by simp [h, h2])
theorem mod_int {i j : Int} (h : 0 < j) : opD .mod (.int i) (.int j) = some (.int (i % j)) := if_pos h
@[simp] theorem fdiv_lit (i j : Int) (h : (decide (0 < j) && decide (j < 1073741824)) = true) : opD .fdiv (.int i) (.int j) = some (.int (i / j)) := if_pos h
@[simp] theorem mod_lit (i j : Int) (h : decide (0 < j) = true) : opD .mod (.int i) (.int j) = some (.int (i % j)) := if_pos (of_decide_eq_true h)
theorem add_str {a b : Tx} (h : a.length + b.length ≤ line) : opD .add (.str a) (.str b) = some (.str (a ++ b)) := if_pos h
theorem add_lst {a b : List D} (h : a.length + b.length ≤ line) : opD .add (.lst a) (.lst b) = some (.lst (a ++ b)) := if_pos h
theorem mul_lst {a : List D} {k : Int} (h : (decide (0 ≤ k) && decide (k < 1000) && decide (a.length * k.toNat ≤ line)) = true) : opD .mul (.lst a) (.int k) = some (.lst (List.replicate k.toNat a).flatten) := if_pos h
@[simp] theorem pow_lit (i j : Int) (h : (decide (0 ≤ j) && decide (j ≤ 1000) && decide (i.natAbs < 1000)) = true) : opD .pow (.int i) (.int j) = some (.int (i ^ j.toNat)) := if_pos h
@[simp] theorem lt_int (i j : Int) : cmpB .lt (.int i) (.int j) = some (.bl (decide (i < j))) := rfl
@[simp] theorem le_int (i j : Int) : cmpB .le (.int i) (.int j) = some (.bl (decide (i ≤ j))) := rfl
@[simp] theorem gt_int (i j : Int) : cmpB .gt (.int i) (.int j) = some (.bl (decide (j < i))) := rfl
@[simp] theorem ge_int (i j : Int) : cmpB .ge (.int i) (.int j) = some (.bl (decide (j ≤ i))) := rfl
@[simp] theorem isin_str (c : Nat) (s : Tx) : cmpB .isin (.str [c]) (.str s) = some (.bl (decide (c ∈ s))) := rfl
@[simp] theorem notin_str (c : Nat) (s : Tx) : cmpB .notin (.str [c]) (.str s) = some (.bl (!decide (c ∈ s))) := rfl
@[simp] theorem is_non (a : D) : cmpB .is a .non = some (.bl (isNon a)) := by cases a <;> rfl
@[simp] theorem isnot_non (a : D) : cmpB .isnot a .non = some (.bl (!isNon a)) := by cases a <;> rfl
@[simp] theorem isNon_non : isNon .non = true := rfl
@[simp] theorem isNon_bl (b : Bool) : isNon (.bl b) = false := rfl
@[simp] theorem isNon_int (b : Int) : isNon (.int b) = false := rfl
@[simp] theorem isNon_str (b : Tx) : isNon (.str b) = false := rfl
@[simp] theorem isNon_lst (b : List D) : isNon (.lst b) = false := rfl
@[simp] theorem isNon_tup (b : List D) : isNon (.tup b) = false := rfl
theorem eq_D {a b : D} (h : plain deep a = true) (h2 : plain deep b = true) : cmpB .eq a b = some (.bl (eqv a b)) := by unfold cmpB cmpD; simp [h, h2]
theorem ne_D {a b : D} (h : plain deep a = true) (h2 : plain deep b = true) : cmpB .ne a b = some (.bl (!eqv a b)) := by unfold cmpB cmpD; simp [h, h2]
@[simp] theorem eq_int (i j : Int) : cmpB .eq (.int i) (.int j) = some (.bl (i == j)) := eq_D rfl rfl
@[simp] theorem ne_int (i j : Int) : cmpB .ne (.int i) (.int j) = some (.bl (!(i == j))) := ne_D rfl rfl
@[simp] theorem eq_str (i j : Tx) : cmpB .eq (.str i) (.str j) = some (.bl (i == j)) := eq_D rfl rfl
@[simp] theorem ne_str (i j : Tx) : cmpB .ne (.str i) (.str j) = some (.bl (!(i == j))) := ne_D rfl rfl
@[simp] theorem eq_bl (i j : Bool) : cmpB .eq (.bl i) (.bl j) = some (.bl (i == j)) := eq_D rfl rfl
@[simp] theorem ne_bl (i j : Bool) : cmpB .ne (.bl i) (.bl j) = some (.bl (!(i == j))) := ne_D rfl rfl
@[simp] theorem len_lst (xs : List D) : biD .len [.lst xs] = some (.int xs.length) := rfl
@[simp] theorem len_tup (xs : List D) : biD .len [.tup xs] = some (.int xs.length) := rfl
theorem len_str {xs : Tx} (h : xs.length ≤ line) : biD .len [.str xs] = some (.int xs.length) := if_pos h
@[simp] theorem int_int (i : Int) : biD .int [.int i] = some (.int i) := rfl
@[simp] theorem list_lst (xs : List D) : biD .list [.lst xs] = some (.lst xs) := rfl
@[simp] theorem list_tup (xs : List D) : biD .list [.tup xs] = some (.lst xs) := rfl
@[simp] theorem tuple_lst (xs : List D) : biD .tuple [.lst xs] = some (.tup xs) := rfl
theorem isi_tup (x : D) (cs : List D) : biD .isi [x, .tup cs] = if (isiD x 0).isSome && !cs.isEmpty then (isiT x cs).map .bl else none := rfl
@[simp] theorem isi_one (x : D) (k : Nat) : biD .isi [x, .ty k] = (isiD x k).map .bl := rfl
theorem all_bools {xs : List D} {bs : List Bool} (h : bools xs = some bs) : biD .all [.lst xs] = some (.bl (bs.all id)) := by show (bools xs).map _ = _; rw [h]; rfl
theorem any_bools {xs : List D} {bs : List Bool} (h : bools xs = some bs) : biD .any [.lst xs] = some (.bl (bs.any id)) := by show (bools xs).map _ = _; rw [h]; rfl
theorem bools_map {α : Type} (f : α → Bool) (xs : List α) : bools (xs.map fun x => .bl (f x)) = some (xs.map f) := by
  induction xs with
  | nil => rfl
  | cons x xs ih => simp only [List.map_cons, bools, ih, Option.map_some]
theorem texts_map {α : Type} (f : α → Tx) (xs : List α) : texts (xs.map fun x => .str (f x)) = some (xs.map f) := by
  induction xs with
  | nil => rfl
  | cons x xs ih => simp only [List.map_cons, texts, ih, Option.map_some]
theorem ixN_pos {n : Nat} {i : Int} (h : 0 ≤ i) (h2 : i < n) : ixN n i = some i.toNat := by unfold ixN; rw [if_pos h, if_pos h2]
theorem atI_pos {α : Type} {xs : List α} {i : Int} (h : 0 ≤ i) (h2 : i < xs.length) : ∃ x, atI xs i = some x ∧ xs[i.toNat]? = some x := by
  have hl : i.toNat < xs.length := by omega
  refine ⟨xs[i.toNat], ?_, List.getElem?_eq_getElem hl⟩
  unfold atI
  rw [ixN_pos h h2, Option.bind_some, List.getElem?_eq_getElem hl]
theorem atI_nat {α : Type} (xs : List α) (k : Nat) : atI xs (k : Int) = xs[k]? := by
  unfold atI ixN
  rw [if_pos (Int.natCast_nonneg k)]
  by_cases h : k < xs.length
  · rw [if_pos (by omega)]; rfl
  · rw [if_neg (by omega), List.getElem?_eq_none (by omega)]; rfl
@[simp] theorem atI_0 {α : Type} (xs : List α) : atI xs 0 = xs[0]? := atI_nat xs 0
@[simp] theorem atI_2 {α : Type} (xs : List α) : atI xs 2 = xs[2]? := atI_nat xs 2
@[simp] theorem atI_3 {α : Type} (xs : List α) : atI xs 3 = xs[3]? := atI_nat xs 3
@[simp] theorem atI_4 {α : Type} (xs : List α) : atI xs 4 = xs[4]? := atI_nat xs 4
@[simp] theorem atI_5 {α : Type} (xs : List α) : atI xs 5 = xs[5]? := atI_nat xs 5
@[simp] theorem atI_6 {α : Type} (xs : List α) : atI xs 6 = xs[6]? := atI_nat xs 6
@[simp] theorem atI_7 {α : Type} (xs : List α) : atI xs 7 = xs[7]? := atI_nat xs 7
@[simp] theorem atI_8 {α : Type} (xs : List α) : atI xs 8 = xs[8]? := atI_nat xs 8
@[simp] theorem atI_9 {α : Type} (xs : List α) : atI xs 9 = xs[9]? := atI_nat xs 9
@[simp] theorem atI_1 {α : Type} (xs : List α) : atI xs 1 = xs[1]? := atI_nat xs 1
/-! ### statements -/
@[simp] theorem ex_expr (e : E) : ex G Fn K (.expr e) s m = (ev G Fn e s m).bindS s fun _ m1 => .ok (.nx s) m1 := by simp only [ex]
@[simp] theorem ex_set (i : Nat) (e : E) : ex G Fn K (.set i e) s m = (ev G Fn e s m).bindS s fun w m1 => .ok (.nx (s.set i (some w))) m1 := by simp only [ex]
@[simp] theorem ex_setc (i : Nat) (e : E) : ex G Fn K (.setc i e) s m = (ev G Fn e s m).bindS s fun w m1 => newCell i w s m1 := by simp only [ex]
@[simp] theorem ex_ext (i : Nat) (e : E) : ex G Fn K (.ext i e) s m = (ev G Fn (.loc i) s m).bindS s fun o m1 => (isCell o m1).bindS s fun _ m1 => (ev G Fn e s m1).bindS s fun v m2 => (extCell o v m2).bindS s fun _ m3 => .ok (.nx s) m3 := by simp only [ex]
@[simp] theorem ex_setd (i : Nat) : ex G Fn K (.setd i) s m = .ok (.nx (s.set i (some (.c m.length)))) (m ++ [.dct []]) := by simp only [ex]; rfl
@[simp] theorem ex_par3 (i j k : Nat) (a b c : E) : ex G Fn K (.par3 i j k a b c) s m = (ev G Fn a s m).bindS s fun w m1 => (ev G Fn b s m1).bindS s fun w2 m2 => (ev G Fn c s m2).bindS s fun w3 m3 => .ok (.nx (((s.set i (some w)).set j (some w2)).set k (some w3))) m3 := by simp only [ex]
@[simp] theorem ex_setdn (i : Nat) (e : E) : ex G Fn K (.setdn i e) s m = (ev G Fn e s m).bindS s fun w m1 => (op1 dnewD w m1).bindS s fun w2 m2 => newCell i w2 s m2 := by simp only [ex]
@[simp] theorem ex_tsd (i j : Nat) (e : E) : ex G Fn K (.tsd i j e) s m = (ev G Fn e s m).bindS s fun w m1 => newCell j (.p (.dct [])) (s.set i (some w)) m1 := by simp only [ex]
@[simp] theorem ex_tset (is : List Nat) (e : E) : ex G Fn K (.tset is e) s m = (ev G Fn e s m).bindS s fun w m1 => (ofO (pureW w) m1).bindS s fun d m2 => (ofO (setT is d s) m2).bindS s fun s1 m3 => .ok (.nx s1) m3 := by simp only [ex]
@[simp] theorem ex_par (i j : Nat) (a b : E) : ex G Fn K (.par i j a b) s m = (ev G Fn a s m).bindS s fun w m1 => (ev G Fn b s m1).bindS s fun w2 m2 => .ok (.nx ((s.set i (some w)).set j (some w2))) m2 := by simp only [ex]
@[simp] theorem ex_sub (i : Nat) (k v : E) : ex G Fn K (.sub i k v) s m = (ev G Fn v s m).bindS s fun v m1 => (ev G Fn (.loc i) s m1).bindS s fun o m2 => (ev G Fn k s m2).bindS s fun k m3 => (subCell o k v m3).bindS s fun _ m4 => .ok (.nx s) m4 := by simp only [ex]
@[simp] theorem ex_app (i : Nat) (e : E) : ex G Fn K (.app i e) s m = (ev G Fn (.loc i) s m).bindS s fun o m1 => (isCell o m1).bindS s fun _ m1 => (ev G Fn e s m1).bindS s fun v m2 => (appCell o v m2).bindS s fun _ m3 => .ok (.nx s) m3 := by simp only [ex]
@[simp] theorem ex_fset (i f : Nat) (e : E) : ex G Fn K (.fset i f e) s m = (ev G Fn e s m).bindS s fun v m1 => (ev G Fn (.loc i) s m1).bindS s fun o m2 => (fldCell f o v m2).bindS s fun _ m3 => .ok (.nx s) m3 := by simp only [ex]
@[simp] theorem ex_tri (b : List S) : ex G Fn K (.tri b) s m = noXS (exs G Fn K b s m) := by simp only [ex]
@[simp] theorem noXS_nx (s : Env) (m : M) : noXS (.ok (.nx s) m) = .ok (.nx s) m := rfl
@[simp] theorem noXS_rt (w : W) (m : M) : noXS (.ok (.rt w) m) = .ok (.rt w) m := rfl
@[simp] theorem ex_frz (i : Nat) : ex G Fn K (.frz i) s m = frzCell i s m := by simp only [ex]
@[simp] theorem ex_ret (e : E) : ex G Fn K (.ret e) s m = (ev G Fn e s m).bindS s fun w m1 => .ok (.rt w) m1 := by simp only [ex]
@[simp] theorem ex_retc (e : E) : ex G Fn K (.retc e) s m = (ev G Fn e s m).bindS s fun w m1 => retCell w m1 := by simp only [ex]
@[simp] theorem ex_ite (c : E) (a b : List S) : ex G Fn K (.ite c a b) s m = (ev G Fn c s m).bindS s fun w m1 => (test w m1).bindS s fun t m2 => iteR t (exs G Fn K a s m2) (exs G Fn K b s m2) := by simp only [ex]; rfl
@[simp] theorem ex_for (ts : List Nat) (it : I) (b : List S) : ex G Fn K (.for_ ts it b) s m = (evI G Fn it s m).bindS s fun xs m1 => forGo (fun x s m => (ofO (setT ts x s) m).bindS s fun s1 m => exs G Fn K b s1 m) xs s m1 := by simp only [ex]
@[simp] theorem ex_while (c : E) (b : List S) : ex G Fn K (.while_ c b) s m = whileGo (fun s m => (ev G Fn c s m).bind test) (fun s m => exs G Fn K b s m) K s m := by simp only [ex]
@[simp] theorem ex_pass : ex G Fn K .pass s m = .ok (.nx s) m := by simp only [ex]
@[simp] theorem ex_brk : ex G Fn K .brk s m = .ok (.bk s) m := by simp only [ex]
@[simp] theorem ex_cont : ex G Fn K .cont s m = .ok (.ct s) m := by simp only [ex]
@[simp] theorem exs_nil : exs G Fn K [] s m = .ok (.nx s) m := by simp only [exs]
/-- on with the rest -/
def thenS (r : Res Fl) (f : Env → M → Res Fl) : Res Fl := r.bind fun fl m1 => match fl with
  | .nx s1 => f s1 m1
  | fl => .ok fl m1
@[simp] theorem thenS_nx (s : Env) (m : M) (f : Env → M → Res Fl) : thenS (.ok (.nx s) m) f = f s m := rfl
@[simp] theorem thenS_rt (w : W) (m : M) (f : Env → M → Res Fl) : thenS (.ok (.rt w) m) f = .ok (.rt w) m := rfl
@[simp] theorem thenS_rc (w : List D) (m : M) (f : Env → M → Res Fl) : thenS (.ok (.rc w) m) f = .ok (.rc w) m := rfl
@[simp] theorem exs_cons (a : S) (r : List S) : exs G Fn K (a :: r) s m = thenS (ex G Fn K a s m) fun s1 m1 => exs G Fn K r s1 m1 := by simp only [exs]; rfl
end
/-! ### cells -/
def putR (o : Option C) (i : Int) (k : List D → Nat → Res Unit) : Res Unit := match o with
  | some (.lst xs) => match ixN xs.length i with
    | some j => k xs j
    | none => .bad
  | _ => .bad
@[simp] theorem putR_lst (xs : List D) (i : Int) (k : List D → Nat → Res Unit) : putR (some (.lst xs)) i k = match ixN xs.length i with
    | some j => k xs j
    | none => .bad := rfl
@[simp] theorem subCell_c (c : Nat) (i : Int) (d : D) (m : M) : subCell (.c c) (.p (.int i)) (.p d) m = putR m[c]? i fun xs j => .ok () (m.set c (.lst (xs.set j d))) := by
  unfold subCell putR
  first
    | (simp only []; done)
    | (simp only []
       cases m[c]? with
       | none => rfl
       | some x => cases x <;> rfl)
@[simp] theorem finish_rt (k : Nat) (d : D) (m : M) : finish k (.ok (.rt (.p d)) m) = .ok (.p d) (m.take k) := rfl
@[simp] theorem finish_nx (k : Nat) (s : Env) (m : M) : finish k (.ok (.nx s) m) = .ok (.p .non) (m.take k) := rfl
@[simp] theorem finish_rc (k : Nat) (xs : List D) (m : M) : finish k (.ok (.rc xs) m) = .ok (.c k) (m.take k ++ [.lst xs]) := rfl
/-! ### what holds of results -/
theorem Res.Ok.bind {α β : Type} {r : Res α} {f : α → M → Res β} {P : α → M → Prop} {Q : β → M → Prop} (h : r.Ok P) (k : ∀ a m, P a m → (f a m).Ok Q) : (r.bind f).Ok Q := by
  cases r with
  | ok a m => exact k a m h
  | exc x m => exact h.elim
  | bad => exact h.elim
theorem Res.Ok.bindS {α : Type} {r : Res α} {s : Env} {f : α → M → Res Fl} {P : α → M → Prop} {Q : Fl → M → Prop} (h : r.Ok P) (k : ∀ a m, P a m → (f a m).Ok Q) : (r.bindS s f).Ok Q := by
  cases r with
  | ok a m => exact k a m h
  | exc x m => exact h.elim
  | bad => exact h.elim
theorem Res.Ok.mono {α : Type} {r : Res α} {P Q : α → M → Prop} (h : r.Ok P) (k : ∀ a m, P a m → Q a m) : r.Ok Q := by
  cases r with
  | ok a m => exact k a m h
  | exc x m => exact h.elim
  | bad => exact h.elim
theorem Res.Ok.ex {α : Type} {r : Res α} {P : α → M → Prop} (h : r.Ok P) : ∃ a m, r = .ok a m ∧ P a m := by
  cases r with
  | ok a m => exact ⟨a, m, rfl, h⟩
  | exc x m => exact h.elim
  | bad => exact h.elim
theorem run_succ {G : Nat → Option D} {T : Nat → Option Fd} {K n f : Nat} {fd : Fd} (h : T f = some fd) (ws : List W) (m : M) : run G T K (n + 1) f ws m = runFd G (run G T K n) K fd ws m := by
  show (match T f with | some fd => runFd G (run G T K n) K fd ws m | none => .bad) = _
  rw [h]
/-- the table has this def, whatever calls by keywords it serves -/
def Has (g : Gx) (f : Nat) (fd : Fd) : Prop := ∃ kb, g.T f = some (fd.kb kb)
theorem Has.of {g : Gx} {f : Nat} {fd : Fd} (h : g.T f = some fd) : Has g f fd := ⟨fd.kbs, h⟩
theorem Has.kb {g : Gx} {f : Nat} {fd : Fd} {l : List (Nat × List PySem.Str × List Src)} (h : g.T f = some (fd.kb l)) : Has g f fd := ⟨l, h⟩
theorem run_at {g : Gx} {n f : Nat} {fd : Fd} (h : Has g f fd) (ws : List W) (m : M) : run g.G g.T g.K (n + 1) f ws m = runFd g.G (run g.G g.T g.K n) g.K fd ws m := by
  obtain ⟨kb, h⟩ := h
  rw [run_succ h]
  rfl
end Oh

set_option Elab.async false
set_option linter.all false
set_option maxRecDepth 100000
set_option maxHeartbeats 4000000
set_option autoImplicit false
/-! OhC: the laws' own helpers: draws -/
namespace Oh
def fd_law_bag_44ba : Fd := ⟨4, 1, [], [
    .set 1 (.lc (.bi .int [(.loc 2)]) [2] (.ex (.slc (.loc 0) none (some (.int 63)))) []),
    .set 3 (.bin .add (.int 10044) (.bin .mul (.int 101) (.bi .len [(.loc 1)]))),
    .for_ [2] (.ex (.loc 1)) [
      .set 3 (.bin .mod (.bi .int [(.bin .add (.bin .mul (.loc 3) (.int 7901)) (.loc 2))]) (.int 2147483579))],
    .retc (.lst [(.loc 1), (.int 0), (.int 0), (.loc 3)])], []⟩
def fd_law_draw_1586 : Fd := ⟨6, 2, [], [
    .ite (.cmp .lt (.idx (.loc 0) (.int 2)) (.int 2)) [
      .sub 0 (.int 1) (.bin .add (.idx (.loc 0) (.int 1)) (.int 1)),
      .set 2 (.bin .add (.idx (.loc 0) (.int 3)) (.bin .mul (.idx (.loc 0) (.int 1)) (.int 9349))),
      .ite (.cmp .le (.idx (.loc 0) (.int 1)) (.bi .len [(.idx (.loc 0) (.int 0))])) [
        .set 2 (.idx (.idx (.loc 0) (.int 0)) (.bin .sub (.idx (.loc 0) (.int 1)) (.int 1)))] [],
      .ite (.or [(.cmp .gt (.idx (.loc 0) (.int 1)) (.bi .len [(.idx (.loc 0) (.int 0))])), (.cmp .lt (.loc 2) (.bin .pow (.int 10) (.int 18)))]) [
        .set 3 (.bin .mod (.bi .int [(.bin .add (.bin .add (.bin .mul (.loc 2) (.int 46337)) (.bin .mul (.idx (.loc 0) (.int 1)) (.int 36887))) (.idx (.loc 0) (.int 3)))]) (.int 2147483647)),
        .set 4 (.bin .mod (.bi .int [(.bin .add (.bin .mul (.loc 3) (.loc 3)) (.bin .mul (.idx (.loc 0) (.int 1)) (.int 51061)))]) (.int 1000000007)),
        .ret (.bin .mod (.bin .fdiv (.bin .mod (.bi .int [(.bin .add (.bin .mul (.loc 4) (.int 28019)) (.loc 3))]) (.int 2147483563)) (.int 17)) (.loc 1))] [],
      .sub 0 (.int 2) (.loc 2)] [],
    .set 5 (.bin .mod (.bi .int [(.idx (.loc 0) (.int 2))]) (.loc 1)),
    .sub 0 (.int 2) (.bin .fdiv (.bi .int [(.idx (.loc 0) (.int 2))]) (.loc 1)),
    .ret (.loc 5)], []⟩
def fd_law_of_2b71 : Fd := ⟨2, 2, [], [
    .ret (.idx (.loc 1) (.call 4 [(.loc 0), (.bi .len [(.loc 1)])]))], []⟩
def fd_law_same_18bd : Fd := ⟨5, 2, [], [
    .ite (.or [(.cmp .is (.loc 1) .non), (.cmp .is (.loc 0) .non)]) [
      .ret (.and [(.cmp .is (.loc 0) .non), (.cmp .is (.loc 1) .non)])] [],
    .ite (.or [(.bi .isi [(.loc 1), (.ty 2)]), (.bi .isi [(.loc 0), (.ty 2)])]) [
      .ret (.and [(.bi .isi [(.loc 1), (.ty 2)]), (.bi .isi [(.loc 0), (.ty 2)]), (.cmp .eq (.loc 0) (.loc 1))])] [],
    .ite (.bi .isi [(.loc 1), (.tup [(.ty 0), (.ty 1)])]) [
      .ret (.and [(.bi .isi [(.loc 0), (.tup [(.ty 0), (.ty 1)])]), (.cmp .eq (.bi .isi [(.loc 0), (.ty 0)]) (.bi .isi [(.loc 1), (.ty 0)])), (.cmp .eq (.loc 0) (.loc 1))])] [],
    .ite (.bi .isi [(.loc 1), (.ty 5)]) [
      .ret (.and [(.bi .isi [(.loc 0), (.ty 5)]), (.cmp .eq (.bi .list [(.loc 0)]) (.bi .list [(.loc 1)])), (.bi .all [(.lc (.call 5 [(.idx (.loc 0) (.loc 2)), (.idx (.loc 1) (.loc 2))]) [2] (.ex (.loc 1)) [])])])] [],
    .ite (.or [(.cmp .ne (.bi .isi [(.loc 1), (.ty 3)]) (.bi .isi [(.loc 0), (.ty 3)])), (.cmp .ne (.bi .isi [(.loc 1), (.ty 4)]) (.bi .isi [(.loc 0), (.ty 4)]))]) [
      .ret (.bl false)] [],
    .ite (.not (.bi .isi [(.loc 1), (.tup [(.ty 3), (.ty 4)])])) [
      .ret (.cmp .eq (.loc 0) (.loc 1))] [],
    .ret (.and [(.cmp .eq (.bi .len [(.loc 0)]) (.bi .len [(.loc 1)])), (.bi .all [(.lc (.call 5 [(.loc 3), (.loc 4)]) [3, 4] (.zip [(.loc 0), (.loc 1)]) [])])])], []⟩
def fd_law_names_67b2 : Fd := ⟨8, 2, [], [
    .set 2 (.str [97, 98, 99, 100, 101, 102, 103, 104, 105, 106, 107, 108, 109, 110, 111, 112, 113, 114, 115, 116, 117, 118, 119, 120, 121, 122]),
    .set 3 (.me .join (.str []) (.lc (.call 6 [(.loc 0), (.str [98, 100, 102, 103, 104, 106, 107, 109, 112, 113, 115, 117, 118, 119, 122])]) [4] (.rng [(.call 4 [(.loc 0), (.int 6)])]) [])),
    .tset [5, 6] (.tup [(.call 4 [(.loc 0), (.bin .add (.bi .len [(.loc 3)]) (.int 1))]), (.call 4 [(.loc 0), (.int 26)])]),
    .set 7 (.call 6 [(.loc 0), (.lst [(.int 1), (.int 3), (.int 5), (.int 7), (.int 9), (.int 11)])]),
    .ret (.lc (.bin .add (.bin .add (.slc (.loc 3) none (some (.loc 5))) (.idx (.loc 2) (.bin .mod (.bi .int [(.bin .add (.loc 6) (.bin .mul (.loc 7) (.loc 4)))]) (.int 26)))) (.slc (.loc 3) (some (.loc 5)) none)) [4] (.rng [(.loc 1)]) [])], []⟩
def fd_law_word_ce3b : Fd := ⟨4, 3, [], [
    .ret (.me .join (.str []) (.lc (.call 6 [(.loc 0), (.loc 2)]) [3] (.rng [(.call 4 [(.loc 0), (.bin .add (.loc 1) (.int 1))])]) []))], []⟩
/-- the bag of a script's numbers, in cell c -/
def Bag (m : M) (c : Nat) : Prop := ∃ (cells : List Int) (i r sd : Int), 0 ≤ i ∧ m[c]? = some (.lst [.lst (cells.map .int), .int i, .int r, .int sd])
/-- nothing but cell c is changed -/
def Only (c : Nat) (m m' : M) : Prop := m'.length = m.length ∧ ∀ j, j ≠ c → m'[j]? = m[j]?
theorem Only.refl (c : Nat) (m : M) : Only c m m := ⟨rfl, fun _ _ => rfl⟩
theorem Only.trans {c : Nat} {m m1 m2 : M} (h : Only c m m1) (k : Only c m1 m2) : Only c m m2 := ⟨k.1.trans h.1, fun j hj => (k.2 j hj).trans (h.2 j hj)⟩
theorem Only.set (c : Nat) (m : M) (x : C) : Only c m (m.set c x) := ⟨by simp, fun j hj => by rw [List.getElem?_set_ne (fun e => hj e.symm)]⟩
section
variable {g : Gx} {n c : Nat} {m : M}
theorem draw_ok (hT : Has g 4 fd_law_draw_1586) (B : Bag m c) {many : Int} (h1 : 0 < many) (h2 : many < 1073741824) :
    (run g.G g.T g.K (n + 1) 4 [.c c, .p (.int many)] m).Ok fun w m' => ∃ d, w = .p (.int d) ∧ 0 ≤ d ∧ d < many ∧ Bag m' c ∧ Only c m m' := by
  obtain ⟨cells, i, r, sd, hi, hm⟩ := B
  have hc : c < m.length := (List.getElem?_eq_some_iff.mp hm).1
  have hset : ∀ x, (m.set c x)[c]? = some x := fun x => List.getElem?_set_self hc
  have htake : ∀ x, (m.set c x).take m.length = m.set c x := fun x => List.take_of_length_le (by simp)
  have rest : ∀ x : Int, 0 ≤ x % many ∧ x % many < many := fun x => ⟨Int.emod_nonneg _ (by omega), Int.emod_lt_of_pos _ h1⟩
  have sq : ∀ x : Int, mulOk (x % 2147483647) (x % 2147483647) = true := fun x => by
    have a := Int.emod_nonneg x (show (2147483647 : Int) ≠ 0 by decide)
    have b := Int.emod_lt_of_pos x (show (0 : Int) < 2147483647 by decide)
    unfold mulOk
    simp only [Bool.or_eq_true, Bool.and_eq_true, decide_eq_true_eq]
    exact .inl ⟨by omega, by omega⟩
  rw [run_at hT]
  unfold runFd
  simp [fd_law_draw_1586, Fd.fill, hm, hset, ixN]
  by_cases hr : r < 2
  · simp [hr]
    by_cases hle : i + 1 ≤ cells.length
    · have hx : ∃ x : Int, atI (cells.map D.int) i = some (.int x) := by
        obtain ⟨y, h3, h4⟩ := atI_pos (xs := cells.map D.int) hi (by simp; omega)
        rw [List.getElem?_map] at h4
        cases q : cells[i.toNat]? with
        | none => rw [q] at h4; cases h4
        | some z => rw [q] at h4; cases h4; exact ⟨z, h3⟩
      obtain ⟨x, hx⟩ := hx
      have hg : ¬ (cells.length : Int) < i + 1 := by omega
      simp [hle, hx, hset, hg]
      by_cases hb : x < 1000000000000000000
      · simp [hb, hset, mul_int (sq _), mod_int h1, htake]
        exact ⟨(rest _).1, (rest _).2, ⟨cells, _, _, sd, by omega, hset _⟩, Only.set c m _⟩
      · simp [hb, hset, ixN, mod_int h1, fdiv_int h1 h2, htake]
        exact ⟨(rest _).1, (rest _).2, ⟨cells, _, _, sd, by omega, hset _⟩, Only.set c m _⟩
    · have hg : (cells.length : Int) < i + 1 := by omega
      simp [hle, hset, hg, mul_int (sq _), mod_int h1, htake]
      exact ⟨(rest _).1, (rest _).2, ⟨cells, _, _, sd, by omega, hset _⟩, Only.set c m _⟩
  · simp [hr, hm, hset, ixN, mod_int h1, fdiv_int h1 h2, htake]
    exact ⟨(rest _).1, (rest _).2, ⟨cells, _, _, sd, hi, hset _⟩, Only.set c m _⟩
theorem Only.take {m m' : M} (h : Only c m m') : m'.take m.length = m' := List.take_of_length_le (by rw [h.1]; exact Nat.le_refl _)
theorem of_lst (h6 : Has g 6 fd_law_of_2b71) (h4 : Has g 4 fd_law_draw_1586) (B : Bag m c) {xs : List D} (h1 : xs ≠ []) (h2 : xs.length < 1073741824) :
    (run g.G g.T g.K (n + 2) 6 [.c c, .p (.lst xs)] m).Ok fun w m' => ∃ x ∈ xs, w = .p x ∧ Bag m' c ∧ Only c m m' := by
  have hl : 0 < xs.length := List.length_pos_iff.mpr h1
  obtain ⟨w, m', e, d, rfl, h3, h5, B', O⟩ := (draw_ok (n := n) h4 B (many := xs.length) (by omega) (by omega)).ex
  obtain ⟨y, h7, h8⟩ := atI_pos h3 h5
  rw [run_at h6]
  unfold runFd
  simp [fd_law_of_2b71, Fd.fill, e, h7, O.take]
  exact ⟨y, List.mem_of_getElem? h8, rfl, B', O⟩
theorem of_str (h6 : Has g 6 fd_law_of_2b71) (h4 : Has g 4 fd_law_draw_1586) (B : Bag m c) {xs : Tx} (h1 : xs ≠ []) (h2 : xs.length ≤ line) :
    (run g.G g.T g.K (n + 2) 6 [.c c, .p (.str xs)] m).Ok fun w m' => ∃ x ∈ xs, w = .p (.str [x]) ∧ Bag m' c ∧ Only c m m' := by
  have hl : 0 < xs.length := List.length_pos_iff.mpr h1
  have h2' : xs.length < 1073741824 := by unfold line at h2; omega
  obtain ⟨w, m', e, d, rfl, h3, h5, B', O⟩ := (draw_ok (n := n) h4 B (many := xs.length) (by omega) (by omega)).ex
  obtain ⟨y, h7, h8⟩ := atI_pos h3 h5
  rw [run_at h6]
  unfold runFd
  simp [fd_law_of_2b71, Fd.fill, len_str h2, e, idxD_str _ h2, h7, O.take]
  exact ⟨y, List.mem_of_getElem? h8, rfl, B', O⟩
end
/-! ### comprehensions -/
theorem lcGo_inv {f : D → M → Res (Option D)} {Inv : M → Prop} {P : D → Prop} : ∀ (xs : List D) (m : M), Inv m → (∀ x ∈ xs, ∀ m, Inv m → (f x m).Ok fun o m' => Inv m' ∧ ∃ y, o = some y ∧ P y) → (lcGo f xs m).Ok fun ys m' => Inv m' ∧ ys.length = xs.length ∧ ∀ y ∈ ys, P y
  | [], m, h, _ => ⟨h, rfl, fun y hy => by cases hy⟩
  | x :: xs, m, h, k => by
    unfold lcGo
    refine (k x List.mem_cons_self m h).bind fun o m1 ⟨h1, y, e, hy⟩ => ?_
    subst e
    refine (lcGo_inv xs m1 h1 fun x hx => k x (List.mem_cons_of_mem _ hx)).bind fun ys m2 ⟨h2, e2, h3⟩ => ?_
    refine ⟨h2, by simp [e2], fun z hz => ?_⟩
    rcases List.mem_cons.mp hz with rfl | hz
    · exact hy
    · exact h3 z hz
/-- what changes nothing -/
theorem lcGo_map {f : D → M → Res (Option D)} {m : M} {h : D → D} : ∀ (xs : List D), (∀ x ∈ xs, f x m = .ok (some (h x)) m) → lcGo f xs m = .ok (xs.map h) m
  | [], _ => rfl
  | x :: xs, k => by
    unfold lcGo
    rw [k x List.mem_cons_self, Res.bind_ok, lcGo_map xs fun x hx => k x (List.mem_cons_of_mem _ hx)]
    rfl
theorem lcGo_opt {f : D → M → Res (Option D)} {m : M} {h : D → Option D} : ∀ (xs : List D), (∀ x ∈ xs, f x m = .ok (h x) m) → lcGo f xs m = .ok (xs.filterMap h) m
  | [], _ => rfl
  | x :: xs, k => by
    unfold lcGo
    rw [k x List.mem_cons_self, Res.bind_ok, lcGo_opt xs fun x hx => k x (List.mem_cons_of_mem _ hx)]
    cases e : h x with
    | none => simp [e]
    | some y => simp [e]
theorem Res.Ok.noX {α : Type} {r : Res α} {P : α → M → Prop} (h : r.Ok P) : (Oh.noX r).Ok P := by
  cases r with
  | ok a m => exact h
  | exc x m => exact h.elim
  | bad => exact h.elim
theorem lcList_le {ds : List D} {m : M} (h : ds.length ≤ line) : lcList ds m = .ok (.p (.lst ds)) m := if_pos h
/-- texts of one sign -/
theorem chars_of {ys : List D} {L : Tx} (h : ∀ y ∈ ys, ∃ x ∈ L, y = .str [x]) : ∃ t : Tx, ys = t.map (fun x => .str [x]) ∧ ∀ x ∈ t, x ∈ L := by
  induction ys with
  | nil => exact ⟨[], rfl, fun x hx => by cases hx⟩
  | cons y ys ih =>
    obtain ⟨x, hx, rfl⟩ := h y List.mem_cons_self
    obtain ⟨t, rfl, ht⟩ := ih fun z hz => h z (List.mem_cons_of_mem _ hz)
    refine ⟨x :: t, rfl, fun z hz => ?_⟩
    rcases List.mem_cons.mp hz with rfl | hz
    · exact hx
    · exact ht z hz
theorem joinL_nil : ∀ l : List Tx, joinL [] l = l.flatten
  | [] => rfl
  | [x] => by simp [joinL]
  | x :: y :: r => by
    unfold joinL
    rw [joinL_nil (y :: r)]
    simp
theorem join_chars {t : Tx} (h : t.length ≤ line) : meD .join [] (.lst (t.map fun x => .str [x])) = some (.str t) := by
  have e : joinL [] (t.map fun x => [x]) = t := by
    rw [joinL_nil]
    induction t with
    | nil => rfl
    | cons x t ih => simp only [List.map_cons, List.flatten_cons, ih (by simp at h; omega)]; rfl
  have t0 : texts (t.map fun x => D.str [x]) = some (t.map fun x => [x]) := texts_map (fun x => [x]) t
  unfold meD
  simp only [t0, e]
  exact if_pos (by simpa using h)
theorem rng1 {j : Int} {m : M} (h : -(2 ^ 60) ≤ j) (h2 : j < 2 ^ 60) : rngW [.p (.int j)] m = .ok ((List.range j.toNat).map fun (i : Nat) => D.int i) m := by
  unfold rngW rngI
  simp only []
  rw [if_pos (by simp; omega)]
  simp
section
variable {g : Gx} {n c : Nat} {m : M}
theorem word_ok (h9 : Has g 9 fd_law_word_ce3b) (h6 : Has g 6 fd_law_of_2b71) (h4 : Has g 4 fd_law_draw_1586) (B : Bag m c) {most : Int} {L : Tx} (h0 : 0 ≤ most) (h1 : most < 1000000) (hL : L ≠ []) (hL2 : L.length ≤ line) :
    (run g.G g.T g.K (n + 3) 9 [.c c, .p (.int most), .p (.str L)] m).Ok fun w m' => ∃ t : Tx, w = .p (.str t) ∧ t.length ≤ most ∧ (∀ x ∈ t, x ∈ L) ∧ Bag m' c ∧ Only c m m' := by
  obtain ⟨w, m1, e, d, rfl, h3, h5, B1, O1⟩ := (draw_ok (n := n + 1) h4 B (many := most + 1) (by omega) (by omega)).ex
  rw [run_at h9]
  unfold runFd
  have R : rngW [.p (.int d)] m1 = .ok ((List.range d.toNat).map fun (i : Nat) => D.int i) m1 := rng1 (by omega) (by omega)
  simp [fd_law_word_ce3b, Fd.fill, e, R]
  generalize hr : lcGo _ _ _ = r
  have L1 : r.Ok fun ys m' => (Bag m' c ∧ Only c m m') ∧ ys.length = d.toNat ∧ ∀ y ∈ ys, ∃ x ∈ L, y = .str [x] := by
    rw [← hr]
    refine (lcGo_inv (Inv := fun m' => Bag m' c ∧ Only c m m') (P := fun y => ∃ x ∈ L, y = .str [x]) _ _ ⟨B1, O1⟩ fun x _ m2 ⟨B2, O2⟩ => ?_).mono fun ys m2 ⟨h, h7, h8⟩ => ⟨h, by simpa using h7, h8⟩
    obtain ⟨w, m3, e3, y, hy, rfl, B3, O3⟩ := (of_str (n := n) h6 h4 B2 hL hL2).ex
    simp [lcTurn, setT, e3, lcEnd]
    exact ⟨⟨B3, O2.trans O3⟩, hy⟩
  obtain ⟨ys, m2, rfl, ⟨B2, O2⟩, h7, h8⟩ := L1.ex
  obtain ⟨t, rfl, ht⟩ := chars_of h8
  have hlen : t.length = d.toNat := by simpa using h7
  have hline : t.length ≤ line := by unfold line; omega
  simp [lcList_le (ds := t.map fun x => D.str [x]) (by simpa using hline), join_chars hline, O2.take]
  exact ⟨by omega, ht, B2, O2⟩
end
/-! ### loops -/
theorem forGo_inv {f : D → Env → M → Res Fl} {Inv : Env → M → Prop} : ∀ (xs : List D) (s : Env) (m : M), Inv s m → (∀ x ∈ xs, ∀ s m, Inv s m → (f x s m).Ok fun fl m' => ∃ s', fl = .nx s' ∧ Inv s' m') → (forGo f xs s m).Ok fun fl m' => ∃ s', fl = .nx s' ∧ Inv s' m'
  | [], s, m, h, _ => ⟨s, rfl, h⟩
  | x :: xs, s, m, h, k => by
    unfold forGo
    refine (k x List.mem_cons_self s m h).bind fun fl m1 ⟨s1, e, h1⟩ => ?_
    subst e
    exact forGo_inv xs s1 m1 h1 fun x hx => k x (List.mem_cons_of_mem _ hx)
theorem cut_take {α : Type} {xs : List α} {a : Int} (h : 0 ≤ a) : cut xs none (some a) = xs.take a.toNat := by
  unfold cut sIx
  simp only [if_neg (show ¬ a < 0 by omega), List.drop_zero, Nat.sub_zero]
  by_cases q : a.toNat ≤ xs.length
  · rw [Nat.min_eq_left q]
  · rw [Nat.min_eq_right (by omega), List.take_of_length_le (Nat.le_refl _), List.take_of_length_le (by omega)]
theorem cut_drop {α : Type} {xs : List α} {a : Int} (h : 0 ≤ a) : cut xs (some a) none = xs.drop a.toNat := by
  unfold cut sIx
  simp only [if_neg (show ¬ a < 0 by omega)]
  by_cases q : a.toNat ≤ xs.length
  · rw [Nat.min_eq_left q, List.take_of_length_le (by simp)]
  · rw [Nat.min_eq_right (by omega), List.drop_of_length_le (Nat.le_refl _), List.drop_of_length_le (by omega)]; simp
theorem take_self (m : M) : m.take m.length = m := List.take_of_length_le (Nat.le_refl _)
section
variable {g : Gx} {n c : Nat} {m : M}
theorem bag_ok (h7 : Has g 7 fd_law_bag_44ba) (ns : List Int) :
    (run g.G g.T g.K (n + 1) 7 [.p (.scr ns)] m).Ok fun w m' => w = .c m.length ∧ Bag m' m.length ∧ ∃ x, m' = m ++ [x] := by
  rw [run_at h7]
  unfold runFd
  simp [fd_law_bag_44ba, Fd.fill, items, cut_take]
  rw [← List.map_take]
  have hl : (ns.take 63).length ≤ 63 := by simp; omega
  generalize ns.take 63 = cs at hl
  have e1 : ∀ F : D → M → Res (Option D), (∀ i : Int, F (.int i) m = .ok (some (.int i)) m) → lcGo F (cs.map .int) m = .ok (cs.map .int) m := fun F hF => by
    rw [lcGo_map (h := fun x => x) _ fun x hx => ?_]
    · simp
    · obtain ⟨i, _, rfl⟩ := List.mem_map.mp hx
      exact hF i
  rw [e1 _ fun i => by simp [lcTurn, setT, lcEnd]]
  simp [lcList_le (ds := cs.map .int) (by simp; unfold line; omega), items]
  generalize hr : forGo _ _ _ _ = r
  have L1 : r.Ok fun fl m' => ∃ s', fl = .nx s' ∧ ((∃ (sd : Int) (o : Option W), s' = [some (.p (.scr ns)), some (.p (.lst (cs.map .int))), o, some (.p (.int sd))]) ∧ m' = m) := by
    rw [← hr]
    refine forGo_inv (Inv := fun s' m' => ((∃ (sd : Int) (o : Option W), s' = [some (.p (.scr ns)), some (.p (.lst (cs.map .int))), o, some (.p (.int sd))]) ∧ m' = m)) _ _ _ ⟨⟨_, _, rfl⟩, rfl⟩ ?_
    rintro x hx s' m' ⟨⟨sd, o, rfl⟩, rfl⟩
    obtain ⟨i, _, rfl⟩ := List.mem_map.mp hx
    simp [setT]
  obtain ⟨fl, m', rfl, s', rfl, ⟨sd, o, rfl⟩, rfl⟩ := L1.ex
  simp [pures, toPs, purely, retCell, line]
  exact ⟨cs, 0, 0, sd, by omega, by simp⟩
mutual
/-- plain data, no list too long -/
def okD : Nat → D → Bool
  | _, .non => true
  | _, .bl _ => true
  | _, .int _ => true
  | _, .str _ => true
  | n + 1, .lst xs => decide (xs.length ≤ line) && okDs n xs
  | n + 1, .tup xs => decide (xs.length ≤ line) && okDs n xs
  | _, _ => false
def okDs : Nat → List D → Bool
  | _, [] => true
  | n, x :: xs => okD n x && okDs n xs
end
@[simp] theorem okD_non (n : Nat) : okD n .non = true := by unfold okD; rfl
@[simp] theorem okD_bl (n : Nat) (b : Bool) : okD n (.bl b) = true := by unfold okD; rfl
@[simp] theorem okD_int (n : Nat) (b : Int) : okD n (.int b) = true := by unfold okD; rfl
@[simp] theorem okD_str (n : Nat) (b : Tx) : okD n (.str b) = true := by unfold okD; rfl
@[simp] theorem okD_lst (n : Nat) (xs : List D) : okD (n + 1) (.lst xs) = (decide (xs.length ≤ line) && okDs n xs) := by simp only [okD]
@[simp] theorem okD_tup (n : Nat) (xs : List D) : okD (n + 1) (.tup xs) = (decide (xs.length ≤ line) && okDs n xs) := by simp only [okD]
@[simp] theorem okDs_nil (n : Nat) : okDs n [] = true := by simp only [okDs]
@[simp] theorem okDs_cons (n : Nat) (x : D) (xs : List D) : okDs n (x :: xs) = (okD n x && okDs n xs) := by simp only [okDs]
theorem okDs_iff {k : Nat} {xs : List D} : okDs k xs = true ↔ ∀ x ∈ xs, okD k x = true := by
  induction xs with
  | nil => simp
  | cons x xs ih => simp [ih]
theorem zip_self_map (xs : List D) : (xs.zip xs).map (fun q => D.tup [q.1, q.2]) = xs.map fun x => D.tup [x, x] := by
  induction xs with
  | nil => rfl
  | cons x xs ih => simp [ih]
theorem same_all (h5 : Has g 5 fd_law_same_18bd) {k : Nat} {xs : List D} (hl : xs.length ≤ line) (ih : ∀ x ∈ xs, run g.G g.T g.K k 5 [.p x, .p x] m = .ok (.p (.bl true)) m) (F : D → M → Res (Option D)) (hF : ∀ x, F (.tup [x, x]) m = (run g.G g.T g.K k 5 [.p x, .p x] m).bind lcEnd) :
    lcGo F (xs.map fun x => D.tup [x, x]) m = .ok (xs.map fun _ => .bl true) m := by
  induction xs with
  | nil => rfl
  | cons x xs ihx =>
    simp only [List.map_cons]
    unfold lcGo
    rw [hF, ih x List.mem_cons_self]
    simp only [Res.bind_ok, lcEnd]
    rw [ihx (by simp at hl; omega) fun x hx => ih x (List.mem_cons_of_mem _ hx)]
    rfl
theorem same_refl (h5 : Has g 5 fd_law_same_18bd) : ∀ (k : Nat) (a : D), okD k a = true → ∀ n, run g.G g.T g.K (n + k + 1) 5 [.p a, .p a] m = .ok (.p (.bl true)) m := by
  intro k
  induction k with
  | zero =>
    intro a h n
    rw [run_at h5]
    unfold runFd
    cases a with
    | non => simp [fd_law_same_18bd, Fd.fill]
    | bl b => simp [fd_law_same_18bd, Fd.fill, isiD]
    | int i => simp [fd_law_same_18bd, Fd.fill, isiD, isi_tup, isiT]
    | str i => simp [fd_law_same_18bd, Fd.fill, isiD, isi_tup, isiT]
    | _ => simp [okD] at h
  | succ k ih =>
    intro a h n
    have e0 : n + (k + 1) = n + k + 1 := by omega
    rw [run_at h5, e0]
    unfold runFd
    cases a with
    | non => simp [fd_law_same_18bd, Fd.fill]
    | bl b => simp [fd_law_same_18bd, Fd.fill, isiD]
    | int i => simp [fd_law_same_18bd, Fd.fill, isiD, isi_tup, isiT]
    | str i => simp [fd_law_same_18bd, Fd.fill, isiD, isi_tup, isiT]
    | lst xs =>
      rw [okD_lst, Bool.and_eq_true, decide_eq_true_eq, okDs_iff] at h
      simp [fd_law_same_18bd, Fd.fill, isiD, isi_tup, isiT, zipW, zipD]
      rw [zip_self_map, same_all h5 (k := n + k + 1) h.1 (fun x hx => ih x (h.2 x hx) n) _ fun x => by simp [lcTurn, setT]]
      have b : bools (xs.map fun _ => D.bl true) = some (xs.map fun _ => true) := bools_map (fun _ => true) xs
      simp [lcList_le (ds := xs.map fun _ => D.bl true) (by simpa using h.1), all_bools b]
    | tup xs =>
      rw [okD_tup, Bool.and_eq_true, decide_eq_true_eq, okDs_iff] at h
      simp [fd_law_same_18bd, Fd.fill, isiD, isi_tup, isiT, zipW, zipD]
      rw [zip_self_map, same_all h5 (k := n + k + 1) h.1 (fun x hx => ih x (h.2 x hx) n) _ fun x => by simp [lcTurn, setT]]
      have b : bools (xs.map fun _ => D.bl true) = some (xs.map fun _ => true) := bools_map (fun _ => true) xs
      simp [lcList_le (ds := xs.map fun _ => D.bl true) (by simpa using h.1), all_bools b]
    | _ => simp [okD] at h
end
end Oh

set_option Elab.async false
set_option linter.all false
set_option maxRecDepth 100000
set_option maxHeartbeats 4000000
set_option autoImplicit false
/-! OhE: drawn names -/
namespace Oh
def stemL : Tx := [98, 100, 102, 103, 104, 106, 107, 109, 112, 113, 115, 117, 118, 119, 122]
def abc : Tx := [97, 98, 99, 100, 101, 102, 103, 104, 105, 106, 107, 108, 109, 110, 111, 112, 113, 114, 115, 116, 117, 118, 119, 120, 121, 122]
theorem abc_at {i : Int} (h : 0 ≤ i) (h2 : i < 26) : atI abc i = some (97 + i.toNat) := by
  obtain ⟨k, rfl⟩ : ∃ k : Nat, i = k := ⟨i.toNat, by omega⟩
  rw [atI_nat]
  have hk : k < 26 := by omega
  have : ∀ k, k < 26 → abc[k]? = some (97 + k) := by decide +kernel
  simpa using this k hk
/-- the name that is drawn at k -/
def nameAt (p q : Tx) (e st : Int) (k : Nat) : Tx := p ++ [97 + ((e + st * k) % 26).toNat] ++ q
section
variable {g : Gx} {n c : Nat} {m : M}
theorem names_ok (h8 : Has g 8 fd_law_names_67b2) (h6 : Has g 6 fd_law_of_2b71) (h4 : Has g 4 fd_law_draw_1586) (B : Bag m c) {many : Int} (h0 : 0 ≤ many) (h1 : many ≤ 1000) :
    (run g.G g.T g.K (n + 3) 8 [.c c, .p (.int many)] m).Ok fun w m' => ∃ (p q : Tx) (e st : Int), w = .p (.lst ((List.range many.toNat).map fun k => .str (nameAt p q e st k))) ∧ p.length + q.length ≤ 5 ∧ (∀ x ∈ p ++ q, x ∈ stemL) ∧ 0 ≤ e ∧ e < 26 ∧ st ∈ [1, 3, 5, 7, 9, (11 : Int)] ∧ Bag m' c ∧ Only c m m' := by
  obtain ⟨w, m1, e1, d, rfl, h3, h5, B1, O1⟩ := (draw_ok (n := n + 1) h4 B (many := 6) (by omega) (by omega)).ex
  rw [run_at h8]
  unfold runFd
  have R : rngW [.p (.int d)] m1 = .ok ((List.range d.toNat).map fun (i : Nat) => D.int i) m1 := rng1 (by omega) (by omega)
  simp [fd_law_names_67b2, Fd.fill, e1, R]
  generalize hr : lcGo _ _ m1 = r
  have L1 : r.Ok fun ys m' => (Bag m' c ∧ Only c m m') ∧ ys.length = d.toNat ∧ ∀ y ∈ ys, ∃ x ∈ stemL, y = .str [x] := by
    rw [← hr]
    refine (lcGo_inv (Inv := fun m' => Bag m' c ∧ Only c m m') (P := fun y => ∃ x ∈ stemL, y = .str [x]) _ _ ⟨B1, O1⟩ fun x _ m2 ⟨B2, O2⟩ => ?_).mono fun ys m2 ⟨h, h7, h8⟩ => ⟨h, by simpa using h7, h8⟩
    obtain ⟨w, m3, e3, y, hy, rfl, B3, O3⟩ := (of_str (n := n) h6 h4 B2 (xs := stemL) (by decide) (by decide)).ex
    unfold stemL at e3 hy
    simp [lcTurn, setT, e3, lcEnd]
    exact ⟨⟨B3, O2.trans O3⟩, by simpa [stemL] using hy⟩
  obtain ⟨ys, m2, rfl, ⟨B2, O2⟩, h7, h9⟩ := L1.ex
  obtain ⟨t, rfl, ht⟩ := chars_of h9
  have hlen : t.length = d.toNat := by simpa using h7
  have hline : t.length ≤ line := by unfold line; omega
  obtain ⟨w, m3, e3, at_, rfl, a1, a2, B3, O3⟩ := (draw_ok (n := n + 1) h4 B2 (many := t.length + 1) (by omega) (by omega)).ex
  obtain ⟨w, m4, e4, ea, rfl, b1, b2, B4, O4⟩ := (draw_ok (n := n + 1) h4 B3 (many := 26) (by omega) (by omega)).ex
  obtain ⟨w, m5, e5, y, hy, rfl, B5, O5⟩ := (of_lst (n := n) h6 h4 B4 (xs := [.int 1, .int 3, .int 5, .int 7, .int 9, .int 11]) (by simp) (by decide)).ex
  have hy : ∃ st : Int, y = .int st ∧ st ∈ [1, 3, 5, 7, 9, (11 : Int)] := by
    simp at hy
    rcases hy with rfl | rfl | rfl | rfl | rfl | rfl
    · exact ⟨1, rfl, by simp⟩
    · exact ⟨3, rfl, by simp⟩
    · exact ⟨5, rfl, by simp⟩
    · exact ⟨7, rfl, by simp⟩
    · exact ⟨9, rfl, by simp⟩
    · exact ⟨11, rfl, by simp⟩
  obtain ⟨st, rfl, hst⟩ := hy
  have R2 : rngW [.p (.int many)] m5 = .ok ((List.range many.toNat).map fun (i : Nat) => D.int i) m5 := rng1 (by omega) (by omega)
  simp [lcList_le (ds := t.map fun x => D.str [x]) (by simpa using hline), join_chars hline, len_str hline, e3, e4, e5, pureW, setT, R2]
  have st1 : (decide (-(2 ^ 64) < st) && decide (st < 2 ^ 64)) = true := by
    simp at hst
    rcases hst with rfl | rfl | rfl | rfl | rfl | rfl <;> decide
  have ok : ∀ F : D → M → Res (Option D), (∀ k : Nat, F (.int k) m5 = .ok (some (.str (nameAt (t.take at_.toNat) (t.drop at_.toNat) ea st k))) m5) → lcGo F ((List.range many.toNat).map fun (i : Nat) => D.int i) m5 = .ok ((List.range many.toNat).map fun k => .str (nameAt (t.take at_.toNat) (t.drop at_.toNat) ea st k)) m5 := fun F hF => by
    generalize List.range many.toNat = l
    induction l with
    | nil => rfl
    | cons k l ih =>
      simp only [List.map_cons]
      unfold lcGo
      rw [hF, Res.bind_ok, ih]
      rfl
  rw [ok]
  · have l1 : ((List.range many.toNat).map fun k => D.str (nameAt (t.take at_.toNat) (t.drop at_.toNat) ea st k)).length ≤ line := by rw [List.length_map, List.length_range]; unfold line; omega
    have O : Only c m m5 := ((O2.trans O3).trans O4).trans O5
    simp [lcList_le l1, O.take]
    refine ⟨t.take at_.toNat, t.drop at_.toNat, ea, st, fun _ _ => rfl, ?_, ?_, b1, b2, ?_, B5, O⟩
    · simp; omega
    · intro x hx
      rcases hx with h | h
      · exact ht x (List.mem_of_mem_take h)
      · exact ht x (List.mem_of_mem_drop h)
    · simpa using hst
  · intro k
    have i0 := Int.emod_nonneg (ea + st * k) (show (26 : Int) ≠ 0 by decide)
    have i1 := Int.emod_lt_of_pos (ea + st * k) (show (0 : Int) < 26 by decide)
    have A : idxD (.str [97, 98, 99, 100, 101, 102, 103, 104, 105, 106, 107, 108, 109, 110, 111, 112, 113, 114, 115, 116, 117, 118, 119, 120, 121, 122]) (.int ((ea + st * k) % 26)) = some (.str [97 + ((ea + st * k) % 26).toNat]) := by
      rw [idxD_str _ (by decide)]
      have := abc_at i0 i1
      unfold abc at this
      rw [this]
      rfl
    have l1 : (t.take at_.toNat).length ≤ 5 := by simp; omega
    have l2 : (t.drop at_.toNat).length ≤ 5 := by simp; omega
    simp [lcTurn, setT, slcD_str _ _ hline, cut_take a1, cut_drop a1, lit_mul _ _ st1, A]
    rw [add_str (by simp [line]; omega)]
    simp
    rw [add_str (by simp [line]; omega)]
    simp [lcEnd, nameAt]
end
theorem lcGo_of {α : Type} {F : D → M → Res (Option D)} {m : M} (f h : α → D) : ∀ (l : List α), (∀ a ∈ l, F (f a) m = .ok (some (h a)) m) → lcGo F (l.map f) m = .ok (l.map h) m
  | [], _ => rfl
  | a :: l, k => by
    simp only [List.map_cons]
    unfold lcGo
    rw [k a List.mem_cons_self, Res.bind_ok, lcGo_of f h l fun a ha => k a (List.mem_cons_of_mem _ ha)]
    rfl
/-- all of a text's signs -/
theorem all_chars {F : D → M → Res (Option D)} {m : M} {t : Tx} {p : Nat → Bool} (ht : t.length ≤ line) (k : ∀ a ∈ t, F (.str [a]) m = .ok (some (.bl (p a))) m) :
    ((noX (lcGo F (t.map fun c => .str [c]) m)).bind lcList).bind (fun w m1 => opn (biD .all) [w] m1) = .ok (.p (.bl (t.all p))) m := by
  rw [lcGo_of (fun c => .str [c]) (fun c => .bl (p c)) t k, noX_ok, Res.bind_ok, lcList_le (by simpa using ht), Res.bind_ok, opn_1, all_bools (bools_map p t)]
  simp
theorem nameAt_len (p q : Tx) (e st : Int) (k : Nat) : (nameAt p q e st k).length = p.length + q.length + 1 := by unfold nameAt; simp; omega
theorem nameAt_abc {p q : Tx} {e st : Int} {k : Nat} (h : ∀ x ∈ p ++ q, x ∈ stemL) : ∀ x ∈ nameAt p q e st k, x ∈ abc := by
  have sub : ∀ x ∈ stemL, x ∈ abc := by decide
  have ch : ∀ i, i < 26 → 97 + i ∈ abc := by decide
  intro x hx
  unfold nameAt at hx
  simp only [List.mem_append, List.mem_singleton] at hx
  rcases hx with (hx | rfl) | hx
  · exact sub x (h x (List.mem_append_left _ hx))
  · have i0 := Int.emod_nonneg (e + st * k) (show (26 : Int) ≠ 0 by decide)
    have i1 := Int.emod_lt_of_pos (e + st * k) (show (0 : Int) < 26 by decide)
    exact ch _ (by omega)
  · exact sub x (h x (List.mem_append_right _ hx))
end Oh

set_option Elab.async false
set_option linter.all false
set_option maxRecDepth 100000
set_option maxHeartbeats 4000000
set_option autoImplicit false
/-! LbM: masks, over plain data -/
namespace Oh
def fd_is_word_1b0c : Fd := ⟨3, 2, [], [
    .ret (.and [(.bi .isi [(.loc 0), (.ty 1)]), (.cmp2 .le .le (.int 1) (.bi .len [(.loc 0)]) (.loc 1)), (.bi .all [(.lc (.cmp .isin (.loc 2) (.glb 0)) [2] (.ex (.loc 0)) [])])])], []⟩
def fd_is_hole_8881 : Fd := ⟨1, 1, [], [
    .ret (.call 1 [(.loc 0), (.glb 2)])], []⟩
def fd_is_letter_1500 : Fd := ⟨1, 1, [], [
    .ret (.and [(.bi .isi [(.loc 0), (.ty 1)]), (.cmp .eq (.bi .len [(.loc 0)]) (.int 1)), (.cmp .isin (.loc 0) (.glb 3))])], []⟩
def fd_need_size_bf63 : Fd := ⟨1, 1, [], [
    .ite (.cmp .gt (.bi .len [(.loc 0)]) (.glb 12)) [
      .raise 17 [(.glb 12)]] [],
    .ite (.cmp .gt (.bi .len [(.call 15 [(.loc 0)])]) (.glb 13)) [
      .raise 17 [(.glb 13), (.str [104, 111, 108, 101, 115])]] []], []⟩
def fd_holes_in_527e : Fd := ⟨3, 1, [], [
    .setc 1 (.lst []),
    .for_ [2] (.ex (.loc 0)) [
      .ite (.and [(.not (.call 16 [(.loc 2)])), (.cmp .notin (.loc 2) (.loc 1))]) [
        .app 1 (.loc 2)] []],
    .ret (.loc 1)], []⟩
def fd_made_a94e : Fd := ⟨2, 1, [], [
    .ite (.bi .any [(.lc (.call 16 [(.loc 1)]) [1] (.ex (.loc 0)) [])]) [
      .ret (.make 21 [(.loc 0)] [] [])] [],
    .ret (.make 22 [(.loc 0)] [] [])], []⟩
def fd_places_in_d3a3 : Fd := ⟨2, 1, [], [
    .ite (.not (.bi .isi [(.loc 0), (.ty 1)])) [
      .raise 4 [(.loc 0)]] [],
    .set 1 (.me .split (.loc 0) (.str [32])),
    .ret (.ite (.cmp .eq (.loc 1) (.lst [(.glb 17)])) (.lst []) (.loc 1))], []⟩
def fd_law_is_letter_94aa : Fd := ⟨1, 1, [], [
    .ret (.cmp .isin (.loc 0) (.tup [(.str [48]), (.str [49]), (.str [50])]))], []⟩
def fd_law_holes_ad8c : Fd := ⟨3, 1, [], [
    .setc 1 (.lst []),
    .for_ [2] (.ex (.loc 0)) [
      .ite (.and [(.not (.call 18 [(.loc 2)])), (.cmp .notin (.loc 2) (.loc 1))]) [
        .app 1 (.loc 2)] []],
    .ret (.loc 1)], []⟩
def fd_law_places_aaf2 : Fd := ⟨6, 4, [], [
    .set 4 (.lc (.call 6 [(.loc 0), (.loc 1)]) [5] (.rng [(.bin .add (.loc 2) (.call 4 [(.loc 0), (.bin .add (.bin .sub (.loc 3) (.loc 2)) (.int 1))]))]) []),
    .ite (.and [(.cmp .eq (.call 4 [(.loc 0), (.int 3)]) (.int 0)), (.cmp .gt (.bi .len [(.loc 4)]) (.int 0)), (.cmp .le (.bin .mul (.int 2) (.bi .len [(.loc 4)])) (.loc 3))]) [
      .set 4 (.bin .add (.loc 4) (.call 6 [(.loc 0), (.lst [(.loc 4), (.rev (.loc 4))])]))] [],
    .ret (.loc 4)], []⟩
def fd_law_mask_places_f692 : Fd := ⟨5, 3, [], [
    .set 3 (.call 19 [(.loc 0), (.loc 1), (.int 0), (.loc 2)]),
    .ret (.lc (.call 6 [(.loc 0), (.lst [(.loc 4), (.loc 4), (.loc 4), (.call 6 [(.loc 0), (.str [48, 48, 49, 49, 49, 50])])])]) [4] (.ex (.loc 3)) [])], []⟩
def fd_law_written_5ba6 : Fd := ⟨1, 1, [], [
    .ret (.ite (.cmp .gt (.bi .len [(.loc 0)]) (.int 0)) (.me .join (.str [32]) (.loc 0)) (.str [46]))], []⟩
def fd_Mask_init_9c3c : Fd := ⟨2, 2, [.tup []], [
    .expr (.mcall (.loc 0) 13 [(.loc 1)] [] []),
    .expr (.call 23 [(.loc 1)]),
    .fset 0 12 (.bi .tuple [(.loc 1)])], []⟩
def fd_Mask_check_4d1c : Fd := ⟨4, 2, [], [
    .for_ [2, 3] (.enum [(.loc 1)]) [
      .ite (.and [(.not (.call 16 [(.loc 3)])), (.not (.call 10 [(.loc 3)]))]) [
        .raise 3 [(.loc 2)]] []]], []⟩
def fd_Mask_read_1086 : Fd := ⟨3, 2, [], [
    .tri [
      .set 2 (.dcall 0 [(.call 24 [(.loc 1)])])],
    .ret (.call 25 [(.mcall (.loc 2) 15 [] [] [])])], []⟩
def fd_Mask_places_5024 : Fd := ⟨1, 1, [], [
    .ret (.bi .list [(.fld (.loc 0) 12)])], []⟩
def fd_Mask_eq_7551 : Fd := ⟨2, 2, [], [
    .ret (.and [(.bi .isi [(.loc 1), (.cls 21)]), (.cmp .eq (.mcall (.loc 0) 15 [] [] []) (.mcall (.loc 1) 15 [] [] []))])], []⟩
def fd_Mask_written_e210 : Fd := ⟨1, 1, [], [
    .ret (.ite (.cmp .gt (.bi .len [(.fld (.loc 0) 12)]) (.int 0)) (.me .join (.str [32]) (.mcall (.loc 0) 15 [] [] [])) (.glb 17))], []⟩
def fd_Mask_repr_5e85 : Fd := ⟨1, 1, [], [
    .ret (.fstr [(.con (.loc 0) 11), (.str [40]), (.mcall (.loc 0) 23 [] [] []), (.str [41])])], []⟩
def fd_Row_check_97a0 : Fd := ⟨4, 2, [], [
    .for_ [2, 3] (.enum [(.loc 1)]) [
      .ite (.not (.call 10 [(.loc 3)])) [
        .raise 2 [(.loc 2)]] []]], []⟩
def fd_Row_read_5a13 : Fd := ⟨3, 2, [], [
    .tri [
      .set 2 (.dcall 0 [(.call 24 [(.loc 1)])])],
    .ret (.loc 2)], []⟩
/-! ### small things -/
@[simp] theorem last_get (m : M) (x : C) : (m ++ [x])[m.length]? = some x := by simp
@[simp] theorem last_set (m : M) (x y : C) : (m ++ [x]).set m.length y = m ++ [y] := by simp
@[simp] theorem last_take (m : M) (x : C) : (m ++ [x]).take m.length = m := by simp
theorem isCell_at {n : Nat} {m : M} {xs : List D} (h : m[n]? = some (.lst xs)) : isCell (.c n) m = .ok () m := by unfold isCell; simp only [h]
theorem appCell_at {n : Nat} {m : M} {xs : List D} {d : D} (h : m[n]? = some (.lst xs)) (hl : xs.length < line) : appCell (.c n) (.p d) m = .ok () (m.set n (.lst (xs ++ [d]))) := by unfold appCell; simp only [h, hl, if_true]
@[simp] theorem newCell_lst (i : Nat) (xs : List D) (s : Env) (m : M) : newCell i (.p (.lst xs)) s m = .ok (.nx (s.set i (some (.c m.length)))) (m ++ [.lst xs]) := rfl
@[simp] theorem finish_c (m : M) (xs : List D) : finish m.length (.ok (.rt (.c m.length)) (m ++ [.lst xs])) = .ok (.p (.lst xs)) m := by
  unfold finish leave
  simp
/-- one of some texts -/
theorem in_strs (p : Tx) (ps : List Tx) : inD (.str p) (ps.map .str) = some (ps.contains p) := by
  have h : (ps.map D.str).all flat = true := by simp [flat]
  have h2 : ((ps.map D.str).any fun y => eqv y (.str p)) = ps.contains p := by
    induction ps with
    | nil => rfl
    | cons x xs ih =>
      have ih := ih (by simp [flat])
      simp only [List.map_cons, List.any_cons, ih, List.contains_cons]
      congr 1
      simp only [eqv]
      rw [Bool.eq_iff_iff, beq_iff_eq, beq_iff_eq, eq_comm]
  unfold inD
  rw [h, h2]
  simp [flat]
@[simp] theorem isin_strs (p : Tx) (ps : List Tx) : cmpB .isin (.str p) (.lst (ps.map .str)) = some (.bl (ps.contains p)) := by
  have : cmpD .isin (.str p) (.lst (ps.map .str)) = inD (.str p) (ps.map .str) := by
    match p with
    | [] => rfl
    | [_] => rfl
    | _ :: _ :: _ => rfl
  unfold cmpB
  rw [this, in_strs]; rfl
@[simp] theorem notin_strs (p : Tx) (ps : List Tx) : cmpB .notin (.str p) (.lst (ps.map .str)) = some (.bl (!ps.contains p)) := by
  have : cmpD .notin (.str p) (.lst (ps.map .str)) = (inD (.str p) (ps.map .str)).map (!·) := by
    match p with
    | [] => rfl
    | [_] => rfl
    | _ :: _ :: _ => rfl
  unfold cmpB
  rw [this, in_strs]; rfl
@[simp] theorem isin_strsT (p : Tx) (ps : List Tx) : cmpB .isin (.str p) (.tup (ps.map .str)) = some (.bl (ps.contains p)) := by
  have : cmpD .isin (.str p) (.tup (ps.map .str)) = inD (.str p) (ps.map .str) := by
    match p with
    | [] => rfl
    | [_] => rfl
    | _ :: _ :: _ => rfl
  unfold cmpB
  rw [this, in_strs]; rfl
/-! ### the letters, the holes -/
def isL (t : Tx) : Bool := t == [48] || t == [49] || t == [50]
def small (t : Tx) (most : Int) : Bool := decide (1 ≤ (t.length : Int)) && (decide ((t.length : Int) ≤ most) && t.all fun x => decide (x ∈ abc))
def isH (t : Tx) : Bool := small t 6
/-- the holes in the order of their first places, behind some -/
def holesF (acc : List Tx) : List Tx → List Tx
  | [] => acc
  | p :: ps => holesF (if !isL p && !acc.contains p then acc ++ [p] else acc) ps
def holesT (ps : List Tx) : List Tx := holesF [] ps
structure HasM (g : Gx) : Prop where
  w : Has g 1 fd_is_word_1b0c
  h : Has g 10 fd_is_hole_8881
  l : Has g 16 fd_is_letter_1500
  ns : Has g 23 fd_need_size_bf63
  hi : Has g 15 fd_holes_in_527e
  i21 : Has g (mnum 21 0) fd_Mask_init_9c3c
  i22 : Has g (mnum 22 0) fd_Mask_init_9c3c
  c21 : Has g (mnum 21 13) fd_Mask_check_4d1c
  c22 : Has g (mnum 22 13) fd_Row_check_97a0
  p21 : Has g (mnum 21 15) fd_Mask_places_5024
  p22 : Has g (mnum 22 15) fd_Mask_places_5024
  g0 : g.G 0 = some (.str abc)
  g2 : g.G 2 = some (.int 6)
  g3 : g.G 3 = some (.str [48, 49, 50])
  g12 : g.G 12 = some (.int 10)
  g13 : g.G 13 = some (.int 5)
  f1 : g.G (mnum 21 0) = some (.fn 0)
  f2 : g.G (mnum 22 0) = some (.fn 0)
  f3 : g.G (mnum 21 13) = some (.fn 0)
  f4 : g.G (mnum 22 13) = some (.fn 0)
  f5 : g.G (mnum 21 15) = some (.fn 0)
  f6 : g.G (mnum 22 15) = some (.fn 0)
@[simp] theorem isFn_0 : isFn (some (.fn 0)) = true := rfl
@[simp] theorem isCm_1 : isCm (some (.fn 1)) = true := rfl
section
variable {g : Gx} {n : Nat} {m : M}
theorem run_ge {g : Gx} {n f : Nat} {fd : Fd} (h : Has g f fd) (hn : 1 ≤ n) (ws : List W) (m : M) : run g.G g.T g.K n f ws m = runFd g.G (run g.G g.T g.K (n - 1)) g.K fd ws m := by
  obtain ⟨k, rfl⟩ : ∃ k, n = k + 1 := ⟨n - 1, by omega⟩
  exact run_at h ws m
theorem is_word_str (H : HasM g) (hn : 1 ≤ n) {t : Tx} (ht : t.length ≤ line) (most : Int) :
    run g.G g.T g.K n 1 [.p (.str t), .p (.int most)] m = .ok (.p (.bl (small t most))) m := by
  rw [run_ge H.w hn]
  unfold runFd
  simp [fd_is_word_1b0c, Fd.fill, isiD, len_str ht, items, H.g0]
  by_cases h1 : (1 : Int) ≤ t.length
  · by_cases h2 : (t.length : Int) ≤ most
    · simp [h1, h2]
      rw [lcGo_of (fun c => .str [c]) (fun c => .bl (decide (c ∈ abc))) t fun a ha => by simp [lcTurn, setT, lcEnd]]
      simp [lcList_le (ds := t.map fun c => D.bl (decide (c ∈ abc))) (by simpa using ht), all_bools (bools_map (fun c => decide (c ∈ abc)) t), small, h1, h2]
    · simp [h1, h2, small]
  · simp [h1, small]
theorem is_hole_str (H : HasM g) (hn : 2 ≤ n) {t : Tx} (ht : t.length ≤ line) :
    run g.G g.T g.K n 10 [.p (.str t)] m = .ok (.p (.bl (isH t))) m := by
  rw [run_ge H.h (by omega)]
  unfold runFd
  simp [fd_is_hole_8881, Fd.fill, H.g2, is_word_str H (show 1 ≤ n - 1 by omega) ht, isH]
theorem is_letter_str (H : HasM g) (hn : 1 ≤ n) {t : Tx} (ht : t.length ≤ line) :
    run g.G g.T g.K n 16 [.p (.str t)] m = .ok (.p (.bl (isL t))) m := by
  rw [run_ge H.l (by omega)]
  unfold runFd
  simp [fd_is_letter_1500, Fd.fill, isiD, len_str ht, H.g3]
  match t with
  | [] => simp [isL]
  | [c] => simp [isL, Bool.beq_eq_decide_eq, Bool.or_assoc]
  | c :: d :: r =>
    have : ((r.length : Int) + 1 + 1 == 1) = false := by rw [beq_eq_false_iff_ne]; omega
    simp [isL, this]
/-- a list, a tuple of texts -/
inductive Seq (ps : List Tx) : D → Prop
  | l : Seq ps (.lst (ps.map .str))
  | t : Seq ps (.tup (ps.map .str))
theorem Seq.items {ps : List Tx} {d : D} (h : Seq ps d) : items d = some (ps.map .str) := by cases h <;> rfl
theorem Seq.len {ps : List Tx} {d : D} (h : Seq ps d) : biD .len [d] = some (.int ps.length) := by cases h <;> simp
theorem Seq.lenW {G : Nat → Option D} {Fn : Fns} {m : M} {ps : List Tx} {d : D} (h : Seq ps d) : biW G Fn .len [.p d] m = .ok (.p (.int ps.length)) m := by cases h <;> simp
theorem Seq.enumW {m : M} {ps : List Tx} {d : D} (h : Seq ps d) : Oh.enumW [.p d] m = .ok ((ps.map D.str).zipIdx.map fun q => D.tup [.int q.2, q.1]) m := by cases h <;> rfl
theorem Seq.tuple {ps : List Tx} {d : D} (h : Seq ps d) : biD .tuple [d] = some (.tup (ps.map .str)) := by cases h <;> rfl
def fits (ps : List Tx) : Prop := ∀ p ∈ ps, p.length ≤ line
theorem holes_loop (H : HasM g) (hn : 1 ≤ n) {F : D → Env → M → Res Fl} {a : Option W}
    (hF : ∀ (x : D) (o : Option W) (m' : M), F x [a, some (.c m.length), o] m' = exs g.G (run g.G g.T g.K n) g.K [.ite (.and [(.not (.call 16 [(.loc 2)])), (.cmp .notin (.loc 2) (.loc 1))]) [.app 1 (.loc 2)] []] [a, some (.c m.length), some (.p x)] m') :
    ∀ (ps : List Tx) (acc : List Tx) (o : Option W), fits ps → acc.length + ps.length ≤ 1000 → ∃ o', forGo F (ps.map .str) [a, some (.c m.length), o] (m ++ [.lst (acc.map .str)]) = .ok (.nx [a, some (.c m.length), o']) (m ++ [.lst ((holesF acc ps).map .str)])
  | [], acc, o, _, _ => ⟨o, rfl⟩
  | p :: ps, acc, o, hf, hl => by
    simp only [List.map_cons]
    unfold forGo holesF
    simp only [List.length_cons] at hl
    have hp := hf p List.mem_cons_self
    have ih := holes_loop H hn hF ps
    rw [hF]
    have hcell : (m ++ [C.lst (acc.map D.str)])[m.length]? = some (.lst (acc.map D.str)) := last_get m _
    by_cases h1 : isL p = true
    · simp [is_letter_str H hn hp, h1]
      exact ih acc _ (fun q hq => hf q (List.mem_cons_of_mem _ hq)) (by omega)
    · simp only [Bool.not_eq_true] at h1
      by_cases h2 : acc.contains p = true
      · simp only [List.contains_eq_mem, decide_eq_true_eq] at h2
        simp [is_letter_str H hn hp, h1, h2]
        exact ih acc _ (fun q hq => hf q (List.mem_cons_of_mem _ hq)) (by omega)
      · simp only [List.contains_eq_mem, decide_eq_true_eq] at h2
        simp [is_letter_str H hn hp, h1, h2]
        rw [isCell_at (last_get m _)]
        simp only [Res.bindS_ok]
        rw [appCell_at (last_get m _) (by simp; unfold line; omega)]
        simp
        have := ih (acc ++ [p]) (some (.p (.str p))) (fun q hq => hf q (List.mem_cons_of_mem _ hq)) (by simp; omega)
        simpa using this
theorem holes_in_ok (H : HasM g) (hn : 2 ≤ n) {ps : List Tx} {d : D} (hd : Seq ps d) (hf : fits ps) (hl : ps.length ≤ 1000) :
    run g.G g.T g.K n 15 [.p d] m = .ok (.p (.lst ((holesT ps).map .str))) m := by
  rw [run_ge H.hi (by omega)]
  unfold runFd
  simp [fd_holes_in_527e, Fd.fill, hd.items]
  generalize hr : forGo _ _ _ _ = r
  have L : ∃ o', r = .ok (.nx [some (.p d), some (.c m.length), o']) (m ++ [.lst ((holesF [] ps).map .str)]) := by
    rw [← hr]
    exact holes_loop (n := n - 1) H (by omega) (fun x o m' => by simp [setT]) ps [] none hf (by simpa using hl)
  obtain ⟨o', rfl⟩ := L
  simp [holesT]
theorem need_size_ok (H : HasM g) (hn : 3 ≤ n) {ps : List Tx} {d : D} (hd : Seq ps d) (hf : fits ps) (hl : ps.length ≤ 10) (hh : (holesT ps).length ≤ 5) :
    run g.G g.T g.K n 23 [.p d] m = .ok (.p .non) m := by
  rw [run_ge H.ns (by omega)]
  unfold runFd
  have h1 : ¬ (10 : Int) < ps.length := by omega
  have h2 : ¬ (5 : Int) < (holesT ps).length := by omega
  simp [fd_need_size_bf63, Fd.fill, hd.lenW, H.g12, H.g13, h1, h2, holes_in_ok (n := n - 1) H (by omega) hd hf (by omega), take_self]
/-- places of a mask, of a row -/
def okP (p : Tx) : Bool := isL p || isH p
theorem check_loop {F : D → Env → M → Res Fl} {a b : Option W} {m : M} :
    ∀ (ps : List Tx) (k : Nat) (o1 o2 : Option W), (∀ p ∈ ps, ∀ (k : Nat) (o1 o2 : Option W), F (.tup [.int k, .str p]) [a, b, o1, o2] m = .ok (.nx [a, b, some (.p (.int k)), some (.p (.str p))]) m) →
      ∃ o1' o2', forGo F ((ps.map D.str).zipIdx k |>.map fun q => D.tup [.int q.2, q.1]) [a, b, o1, o2] m = .ok (.nx [a, b, o1', o2']) m
  | [], k, o1, o2, _ => ⟨o1, o2, rfl⟩
  | p :: ps, k, o1, o2, hF => by
    simp only [List.map_cons, List.zipIdx_cons]
    unfold forGo
    rw [hF p List.mem_cons_self]
    exact check_loop ps (k + 1) _ _ fun p hp => hF p (List.mem_cons_of_mem _ hp)
theorem fits_hole {ps : List Tx} (h : ∀ p ∈ ps, okP p = true) : fits ps := fun p hp => by
  have := h p hp
  unfold okP isL isH small at this
  simp only [Bool.or_eq_true, beq_iff_eq, Bool.and_eq_true, decide_eq_true_eq] at this
  unfold line
  rcases this with ((rfl | rfl) | rfl) | this
  · decide
  · decide
  · decide
  · omega
theorem check21 (H : HasM g) (hn : 3 ≤ n) {w : W} {ps : List Tx} {d : D} (hd : Seq ps d) (hp : ∀ p ∈ ps, okP p = true) :
    run g.G g.T g.K n (mnum 21 13) [w, .p d] m = .ok (.p .non) m := by
  rw [run_ge H.c21 (by omega)]
  unfold runFd
  simp [fd_Mask_check_4d1c, Fd.fill, hd.enumW]
  generalize hr : forGo _ _ _ _ = r
  have L : ∃ o1 o2, r = .ok (.nx [some w, some (.p d), o1, o2]) m := by
    rw [← hr]
    refine check_loop ps 0 none none fun p hq k o1 o2 => ?_
    have h1 := hp p hq
    have h2 := fits_hole hp p hq
    unfold okP at h1
    simp only [Bool.or_eq_true] at h1
    by_cases hl : isL p = true
    · simp [setT, is_letter_str (n := n - 1) H (by omega) h2, hl]
    · have hh := h1.resolve_left hl
      simp [setT, is_letter_str (n := n - 1) H (by omega) h2, is_hole_str (n := n - 1) H (by omega) h2, hl, hh]
  obtain ⟨o1, o2, rfl⟩ := L
  simp [take_self]
theorem check22 (H : HasM g) (hn : 3 ≤ n) {w : W} {ps : List Tx} {d : D} (hd : Seq ps d) (hp : ∀ p ∈ ps, isH p = true) :
    run g.G g.T g.K n (mnum 22 13) [w, .p d] m = .ok (.p .non) m := by
  rw [run_ge H.c22 (by omega)]
  unfold runFd
  simp [fd_Row_check_97a0, Fd.fill, hd.enumW]
  generalize hr : forGo _ _ _ _ = r
  have L : ∃ o1 o2, r = .ok (.nx [some w, some (.p d), o1, o2]) m := by
    rw [← hr]
    refine check_loop ps 0 none none fun p hq k o1 o2 => ?_
    have h1 := hp p hq
    have h2 := fits_hole (ps := ps) (fun p hp' => by unfold okP; rw [hp p hp', Bool.or_true]) p hq
    simp [setT, is_hole_str (n := n - 1) H (by omega) h2, h1]
  obtain ⟨o1, o2, rfl⟩ := L
  simp [take_self]
/-- a mask, a row -/
def mk (c : Nat) (ps : List Tx) : D := .ins c [(12, .tup (ps.map .str))]
theorem clsR_new (f c : Nat) (m : M) : clsR f (.c m.length) (m ++ [.ins c []]) = .ok c (m ++ [.ins c []]) := by
  unfold clsR insW
  simp
theorem fldCell_new {f c : Nat} {d : D} (h : (fieldsOf c).contains f = true) (m : M) : fldCell f (.c m.length) (.p d) (m ++ [.ins c []]) = .ok () (m ++ [.ins c [(f, d)]]) := by
  unfold fldCell
  simp only [last_get, last_set, putN, h]
  simp
theorem madeR_new (c : Nat) (fs : List (Nat × D)) (m : M) : madeR m.length (.p .non) (m ++ [.ins c fs]) = .ok (.p (.ins c fs)) m := by
  unfold madeR
  simp
theorem init_ok (H : HasM g) {c : Nat} (hi : Has g (mnum c 0) fd_Mask_init_9c3c) (hf : isFn (g.G (mnum c 13)) = true) (hfo : (fieldsOf c).contains 12 = true) (hn : 4 ≤ n) {ps : List Tx} {d : D} (hd : Seq ps d)
    (hc : ∀ (m : M), run g.G g.T g.K (n - 1) (mnum c 13) [.c (m.length), .p d] (m ++ [.ins c []]) = .ok (.p .non) (m ++ [.ins c []])) (hfi : fits ps) (hl : ps.length ≤ 10) (hh : (holesT ps).length ≤ 5) (m : M) :
    run g.G g.T g.K n (mnum c 0) [.c m.length, .p d] (m ++ [.ins c []]) = .ok (.p .non) (m ++ [.ins c [(12, .tup (ps.map .str))]]) := by
  rw [run_ge hi (by omega)]
  unfold runFd
  have e2 := need_size_ok (n := n - 1) (m := m ++ [.ins c []]) H (by omega) (d := d) (ps := ps) hd hfi hl hh
  simp [fd_Mask_init_9c3c, Fd.fill, clsR_new, hf, hc, e2]
  simp [hd.tuple, fldCell_new hfo, List.take_of_length_le]
theorem make21 (H : HasM g) (hn : 4 ≤ n) {ps : List Tx} (hp : ∀ p ∈ ps, okP p = true) (hl : ps.length ≤ 10) (hh : (holesT ps).length ≤ 5) :
    mkW (run g.G g.T g.K n) 21 [.p (.lst (ps.map .str))] [] [] m = .ok (.p (mk 21 ps)) m := by
  unfold mkW
  simp only [bindA_nil]
  rw [init_ok H H.i21 (by rw [H.f3]; rfl) (by decide) hn .l (fun m => check21 H (by omega) .l hp) (fits_hole hp) hl hh, Res.bind_ok, madeR_new]
  rfl
theorem make22 (H : HasM g) (hn : 4 ≤ n) {ps : List Tx} (hp : ∀ p ∈ ps, isH p = true) (hl : ps.length ≤ 10) (hh : (holesT ps).length ≤ 5) :
    mkW (run g.G g.T g.K n) 22 [.p (.lst (ps.map .str))] [] [] m = .ok (.p (mk 22 ps)) m := by
  unfold mkW
  simp only [bindA_nil]
  rw [init_ok H H.i22 (by rw [H.f4]; rfl) (by decide) hn .l (fun m => check22 H (by omega) .l hp) (fits_hole fun p hp' => by unfold okP; rw [hp p hp', Bool.or_true]) hl hh, Res.bind_ok, madeR_new]
  rfl
theorem fill_none {m : M} : bindA ([.c m.length] : List W) [] [] = [.c m.length] := rfl
/-- Row() -/
theorem make22_0 (H : HasM g) (hn : 4 ≤ n) : mkW (run g.G g.T g.K n) 22 [] [] [] m = .ok (.p (mk 22 [])) m := by
  unfold mkW
  simp only [bindA_nil]
  have e : run g.G g.T g.K n (mnum 22 0) [.c m.length] (m ++ [.ins 22 []]) = run g.G g.T g.K n (mnum 22 0) [.c m.length, .p (.tup [])] (m ++ [.ins 22 []]) := by
    rw [run_ge H.i22 (by omega), run_ge H.i22 (by omega)]
    rfl
  have i0 := init_ok H H.i22 (by rw [H.f4]; rfl) (by decide) hn (ps := []) (d := .tup []) .t (fun m => check22 (ps := []) (d := .tup []) H (by omega) .t (by intro p hp; cases hp)) (by intro p hp; cases hp) (by simp) (by decide) m
  rw [e, i0, Res.bind_ok, madeR_new]
  rfl
/-- either of the two -/
structure Cl (g : Gx) (c : Nat) : Prop where
  p : Has g (mnum c 15) fd_Mask_places_5024
  pf : g.G (mnum c 15) = some (.fn 0)
  fo : (fieldsOf c).contains 12 = true
theorem HasM.c1 (H : HasM g) : Cl g 21 := ⟨H.p21, H.f5, by decide⟩
theorem HasM.c2 (H : HasM g) : Cl g 22 := ⟨H.p22, H.f6, by decide⟩
@[simp] theorem lookup12 (d : D) : List.lookup 12 [((12 : Nat), d)] = some d := rfl
theorem own_fld {c : Nat} (h : (fieldsOf c).contains 12 = true) (ps : List Tx) : fldR 12 (.p (mk c ps)) m = .ok (.p (.tup (ps.map .str))) m := fldR_ins h rfl
theorem clsR_mk {f c : Nat} (h : f ≠ 12) (ps : List Tx) : clsR f (.p (mk c ps)) m = .ok c m := by
  unfold mk
  refine clsR_ins f c _ ?_
  have : (f == 12) = false := by simpa using h
  simp [List.lookup, this]
theorem places_ok {c : Nat} (C : Cl g c) (hn : 1 ≤ n) (ps : List Tx) : run g.G g.T g.K n (mnum c 15) [.p (mk c ps)] m = .ok (.p (.lst (ps.map .str))) m := by
  rw [run_ge C.p hn]
  unfold runFd
  simp [fd_Mask_places_5024, Fd.fill, own_fld C.fo, take_self]
end
end Oh

set_option Elab.async false
set_option linter.all false
set_option maxRecDepth 100000
set_option maxHeartbeats 4000000
set_option autoImplicit false
/-! LbN: texts of masks, over plain data -/
namespace Oh
theorem plain_strs (ps : List Tx) : plain deep (.lst (ps.map .str)) = true := by
  have : ∀ n (ps : List Tx), plains n (ps.map .str) = true := fun n ps => by
    induction ps with
    | nil => simp [plains]
    | cons p ps ih => simp [plains, ih, plain]
  simp [plain, deep, this]
theorem eqvs_strs : ∀ a b : List Tx, eqvs (a.map .str) (b.map .str) = (a == b)
  | [], [] => by simp [eqvs]
  | [], _ :: _ => by simp [eqvs]
  | _ :: _, [] => by simp [eqvs]
  | x :: a, y :: b => by
    simp only [List.map_cons, eqvs, eqv, eqvs_strs a b]
    rfl
theorem eq_strs (a b : List Tx) : cmpB .eq (.lst (a.map .str)) (.lst (b.map .str)) = some (.bl (a == b)) := by
  rw [eq_D (plain_strs a) (plain_strs b)]
  simp only [eqv, eqvs_strs]
theorem ne_strs (a b : List Tx) : cmpB .ne (.lst (a.map .str)) (.lst (b.map .str)) = some (.bl (!(a == b))) := by
  rw [ne_D (plain_strs a) (plain_strs b)]
  simp only [eqv, eqvs_strs]
/-! ### texts -/
def textT (ps : List Tx) : Tx := if ps.length > 0 then joinL [32] ps else [46]
theorem splitC_pre (c : Nat) : ∀ (p acc r : Tx), c ∉ p → splitC c acc (p ++ c :: r) = (acc ++ p) :: splitC c [] r
  | [], acc, r, _ => by simp [splitC]
  | x :: p, acc, r, h => by
    have hx : x ≠ c := fun e => h (by simp [e])
    have hp : c ∉ p := fun e => h (List.mem_cons_of_mem _ e)
    show (if x = c then acc :: splitC c [] (p ++ c :: r) else splitC c (acc ++ [x]) (p ++ c :: r)) = _
    rw [if_neg hx, splitC_pre c p (acc ++ [x]) r hp]
    simp
theorem splitC_end (c : Nat) : ∀ (p acc : Tx), c ∉ p → splitC c acc p = [acc ++ p]
  | [], acc, _ => by simp [splitC]
  | x :: p, acc, h => by
    have hx : x ≠ c := fun e => h (by simp [e])
    have hp : c ∉ p := fun e => h (List.mem_cons_of_mem _ e)
    unfold splitC
    rw [if_neg hx, splitC_end c p (acc ++ [x]) hp]
    simp
theorem split_join (c : Nat) : ∀ (ps : List Tx), ps ≠ [] → (∀ p ∈ ps, c ∉ p) → splitC c [] (joinL [c] ps) = ps
  | [], h, _ => absurd rfl h
  | [p], _, h => by
    unfold joinL
    rw [splitC_end c p [] (h p (by simp))]; rfl
  | p :: q :: r, _, h => by
    unfold joinL
    rw [show p ++ [c] ++ joinL [c] (q :: r) = p ++ c :: joinL [c] (q :: r) by simp, splitC_pre c p [] _ (h p (by simp)), split_join c (q :: r) (by simp) fun x hx => h x (List.mem_cons_of_mem _ hx)]
    rfl
theorem join_bound (s : Tx) {k : Nat} : ∀ (ps : List Tx), (∀ p ∈ ps, p.length ≤ k) → (joinL s ps).length ≤ (k + s.length) * ps.length
  | [], _ => by simp [joinL]
  | [p], h => by
    have := h p (by simp)
    simp [joinL]; omega
  | p :: q :: r, h => by
    have h1 := h p (by simp)
    have ih := join_bound s (q :: r) fun x hx => h x (List.mem_cons_of_mem _ hx)
    unfold joinL
    simp only [List.length_append, List.length_cons] at ih ⊢
    have : (k + s.length) * (r.length + 1 + 1) = (k + s.length) * (r.length + 1) + (k + s.length) := Nat.mul_succ _ _
    rw [this]
    omega
theorem meD_split (s : Tx) (a : D) : meD .split s a = splitD s a := by cases a <;> rfl
theorem okP_len {p : Tx} (h : okP p = true) : p.length ≤ 6 ∧ 32 ∉ p ∧ p ≠ [46] := by
  unfold okP isL isH small at h
  simp only [Bool.or_eq_true, beq_iff_eq, Bool.and_eq_true, decide_eq_true_eq, List.all_eq_true] at h
  rcases h with ((rfl | rfl) | rfl) | h
  · decide
  · decide
  · decide
  · refine ⟨by omega, fun h2 => ?_, fun e => ?_⟩
    · have := h.2.2 32 h2
      revert this; decide
    · subst e
      have := h.2.2 46 (by simp)
      revert this; decide
theorem isH_okP {p : Tx} (h : isH p = true) : okP p = true := by unfold okP; rw [h, Bool.or_true]
theorem isH_isL {p : Tx} (h : isH p = true) : isL p = false := by
  rw [Bool.eq_false_iff]
  intro h2
  unfold isL at h2
  simp only [Bool.or_eq_true, beq_iff_eq] at h2
  rcases h2 with (rfl | rfl) | rfl <;> (revert h; decide)
theorem okP_isH {p : Tx} (h : okP p = true) (h2 : isL p = false) : isH p = true := by
  unfold okP at h
  rw [h2, Bool.false_or] at h
  exact h
theorem join_line {ps : List Tx} (h : ∀ p ∈ ps, okP p = true) (hl : ps.length ≤ 1000) : (joinL [32] ps).length ≤ 7000 := by
  have := join_bound [32] (k := 6) ps fun p hp => (okP_len (h p hp)).1
  have h2 : (6 + [32].length) * ps.length ≤ 7 * 1000 := Nat.mul_le_mul (by simp) hl
  omega
theorem join_me {ps : List Tx} (h : ∀ p ∈ ps, okP p = true) (hl : ps.length ≤ 1000) : meD .join [32] (.lst (ps.map .str)) = some (.str (joinL [32] ps)) := by
  have := join_line h hl
  have t : texts (ps.map D.str) = some ps := by
    have := texts_map (fun x => x) ps
    simpa using this
  unfold meD
  simp only [t]
  exact if_pos (by simp; unfold line; omega)
theorem textT_len {ps : List Tx} (h : ∀ p ∈ ps, okP p = true) (hl : ps.length ≤ 1000) : (textT ps).length ≤ 7000 := by
  unfold textT
  split
  · exact join_line h hl
  · simp
structure HasMd (g : Gx) : Prop extends HasM g where
  md : Has g 25 fd_made_a94e
structure HasR (g : Gx) : Prop extends HasMd g where
  pi : Has g 24 fd_places_in_d3a3
  r21 : Has g (mnum 21 14) fd_Mask_read_1086
  r22 : Has g (mnum 22 14) fd_Row_read_5a13
  w21 : Has g (mnum 21 23) fd_Mask_written_e210
  w22 : Has g (mnum 22 23) fd_Mask_written_e210
  g17 : g.G 17 = some (.str [46])
  k1 : g.G (mnum 21 14) = some (.fn 1)
  k2 : g.G (mnum 22 14) = some (.fn 1)
  k3 : g.G (mnum 21 23) = some (.fn 0)
  k4 : g.G (mnum 22 23) = some (.fn 0)
section
variable {g : Gx} {n : Nat} {m : M}
/-- what a mask with these places is -/
def clsOf (ps : List Tx) : Nat := if ps.any isL then 21 else 22
theorem made_ok (H : HasMd g) (hn : 5 ≤ n) {ps : List Tx} (hp : ∀ p ∈ ps, okP p = true) (hl : ps.length ≤ 10) (hh : (holesT ps).length ≤ 5) :
    run g.G g.T g.K n 25 [.p (.lst (ps.map .str))] m = .ok (.p (mk (clsOf ps) ps)) m := by
  rw [run_ge H.md (by omega)]
  unfold runFd
  simp [fd_made_a94e, Fd.fill, items]
  rw [lcGo_of (fun c => .str c) (fun c => .bl (isL c)) ps fun a ha => by simp [lcTurn, setT, lcEnd, is_letter_str (n := n - 1) H.toHasM (by omega) (fits_hole hp a ha)]]
  simp [lcList_le (ds := ps.map fun c => D.bl (isL c)) (by simp; unfold line; omega), any_bools (bools_map isL ps)]
  have e : ((ps.map isL).any id) = ps.any isL := by simp
  cases q : ps.any isL with
  | true =>
    have q' : (List.any ps isL) = true := q
    simp [q, make21 (n := n - 1) H.toHasM (by omega) hp hl hh, clsOf, take_self]
  | false =>
    have hp' : ∀ p ∈ ps, isH p = true := fun p h => okP_isH (hp p h) (by rw [List.any_eq_false] at q; simpa using q p h)
    simp [q, make22 (n := n - 1) H.toHasM (by omega) hp' hl hh, clsOf, take_self]
theorem places_in_ok (H : HasR g) (hn : 1 ≤ n) {ps : List Tx} (hp : ∀ p ∈ ps, okP p = true) (hl : ps.length ≤ 1000) :
    run g.G g.T g.K n 24 [.p (.str (textT ps))] m = .ok (.p (.lst (ps.map .str))) m := by
  rw [run_ge H.pi (by omega)]
  unfold runFd
  have hlen := textT_len hp hl
  have e : meD .split (textT ps) (.str [32]) = some (.lst ((splitC 32 [] (textT ps)).map .str)) := by
    rw [meD_split]
    unfold splitD
    simp only []
    rw [if_pos]
    simp
    unfold line
    omega
  simp [fd_places_in_d3a3, Fd.fill, isiD, e, H.g17]
  by_cases h0 : ps = []
  · subst h0
    have : splitC 32 [] (textT []) = [[46]] := by decide
    rw [this]
    have e2 := eq_strs [[46]] [[46]]
    simp at e2
    simp [e2, take_self]
  · have hpos : ps.length > 0 := List.length_pos_iff.mpr h0
    have : splitC 32 [] (textT ps) = ps := by
      unfold textT
      rw [if_pos hpos]
      exact split_join 32 ps h0 fun p hp' => (okP_len (hp p hp')).2.1
    rw [this]
    have e2 := eq_strs ps [[46]]
    have e3 : (ps == [[46]]) = false := by
      rw [beq_eq_false_iff_ne]
      intro e
      subst e
      exact (okP_len (hp [46] (by simp))).2.2 rfl
    rw [e3] at e2
    simp at e2
    simp [e2, take_self]
theorem written_ok (h17 : g.G 17 = some (.str [46])) {c : Nat} (C : Cl g c) (hw : Has g (mnum c 23) fd_Mask_written_e210) (hn : 2 ≤ n) {ps : List Tx} (hp : ∀ p ∈ ps, okP p = true) (hl : ps.length ≤ 1000) :
    run g.G g.T g.K n (mnum c 23) [.p (mk c ps)] m = .ok (.p (.str (textT ps))) m := by
  rw [run_ge hw (by omega)]
  unfold runFd
  simp [fd_Mask_written_e210, Fd.fill, own_fld C.fo, clsR_mk (c := c) (show (15 : Nat) ≠ 12 by decide), C.pf, h17, places_ok (n := n - 1) C (by omega), join_me hp hl]
  by_cases h0 : 0 < ps.length
  · simp [h0, textT, take_self]
  · simp [h0, textT, take_self]
theorem read21 (H : HasR g) (hn : 6 ≤ n) {ps : List Tx} (hp : ∀ p ∈ ps, okP p = true) (hl : ps.length ≤ 10) (hh : (holesT ps).length ≤ 5) :
    run g.G g.T g.K n (mnum 21 14) [.p (.cls 21), .p (.str (textT ps))] m = .ok (.p (mk (clsOf ps) ps)) m := by
  rw [run_ge H.r21 (by omega)]
  unfold runFd
  simp [fd_Mask_read_1086, Fd.fill, places_in_ok (n := n - 1) H (by omega) hp (by omega), dcR_cls (show isFn (g.G (mnum 21 0)) = true by rw [H.f1]; rfl), make21 (n := n - 1) H.toHasM (by omega) hp hl hh,
    clsR_mk (c := 21) (show (15 : Nat) ≠ 12 by decide), H.f5, places_ok (n := n - 1) H.c1 (by omega), made_ok (n := n - 1) H.toHasMd (by omega) hp hl hh, take_self]
theorem read22 (H : HasR g) (hn : 6 ≤ n) {ps : List Tx} (hp : ∀ p ∈ ps, isH p = true) (hl : ps.length ≤ 10) (hh : (holesT ps).length ≤ 5) :
    run g.G g.T g.K n (mnum 22 14) [.p (.cls 22), .p (.str (textT ps))] m = .ok (.p (mk 22 ps)) m := by
  rw [run_ge H.r22 (by omega)]
  unfold runFd
  have hp' : ∀ p ∈ ps, okP p = true := fun p h => isH_okP (hp p h)
  simp [fd_Row_read_5a13, Fd.fill, places_in_ok (n := n - 1) H (by omega) hp' (by omega), dcR_cls (show isFn (g.G (mnum 22 0)) = true by rw [H.f2]; rfl), make22 (n := n - 1) H.toHasM (by omega) hp hl hh, take_self]
end
end Oh

set_option Elab.async false
set_option linter.all false
set_option maxRecDepth 100000
set_option maxHeartbeats 4000000
set_option autoImplicit false
/-! LbP: drawn places, over plain data -/
namespace Oh
theorem isL_in (t : Tx) : ([[48], [49], [50]] : List Tx).contains t = isL t := by
  unfold isL
  simp only [List.contains_cons, List.contains_nil, Bool.or_false, Bool.or_assoc]
/-- bags, draws -/
structure HasD (g : Gx) : Prop where
  bag : Has g 7 fd_law_bag_44ba
  draw : Has g 4 fd_law_draw_1586
  of_ : Has g 6 fd_law_of_2b71
  same : Has g 5 fd_law_same_18bd
  names : Has g 8 fd_law_names_67b2
section
variable {g : Gx} {n c : Nat} {m : M}
theorem HasD.d (H : HasD g) (hn : 1 ≤ n) (B : Bag m c) {many : Int} (h1 : 0 < many) (h2 : many < 1073741824) :
    (run g.G g.T g.K n 4 [.c c, .p (.int many)] m).Ok fun w m' => ∃ d, w = .p (.int d) ∧ 0 ≤ d ∧ d < many ∧ Bag m' c ∧ Only c m m' := by
  obtain ⟨k, rfl⟩ : ∃ k, n = k + 1 := ⟨n - 1, by omega⟩
  exact draw_ok H.draw B h1 h2
theorem HasD.ofL (H : HasD g) (hn : 2 ≤ n) (B : Bag m c) {xs : List D} (h1 : xs ≠ []) (h2 : xs.length < 1073741824) :
    (run g.G g.T g.K n 6 [.c c, .p (.lst xs)] m).Ok fun w m' => ∃ x ∈ xs, w = .p x ∧ Bag m' c ∧ Only c m m' := by
  obtain ⟨k, rfl⟩ : ∃ k, n = k + 2 := ⟨n - 2, by omega⟩
  exact of_lst H.of_ H.draw B h1 h2
theorem HasD.ofS (H : HasD g) (hn : 2 ≤ n) (B : Bag m c) {xs : Tx} (h1 : xs ≠ []) (h2 : xs.length ≤ line) :
    (run g.G g.T g.K n 6 [.c c, .p (.str xs)] m).Ok fun w m' => ∃ x ∈ xs, w = .p (.str [x]) ∧ Bag m' c ∧ Only c m m' := by
  obtain ⟨k, rfl⟩ : ∃ k, n = k + 2 := ⟨n - 2, by omega⟩
  exact of_str H.of_ H.draw B h1 h2
theorem HasD.eq (H : HasD g) {k : Nat} (a : D) (ha : okD k a = true) (hn : k + 1 ≤ n) : run g.G g.T g.K n 5 [.p a, .p a] m = .ok (.p (.bl true)) m := by
  obtain ⟨j, rfl⟩ : ∃ j, n = j + k + 1 := ⟨n - k - 1, by omega⟩
  exact same_refl H.same k a ha j
/-- names of holes, all different -/
structure Names (ns : List Tx) : Prop where
  ok : ∀ p ∈ ns, isH p = true
  nd : ns.Nodup
theorem name_isH {p q : Tx} {e st : Int} {k : Nat} (h : p.length + q.length ≤ 5) (h2 : ∀ x ∈ p ++ q, x ∈ stemL) : isH (nameAt p q e st k) = true := by
  have a := nameAt_len p q e st k
  unfold isH small
  simp only [Bool.and_eq_true, decide_eq_true_eq, List.all_eq_true]
  exact ⟨by omega, by omega, nameAt_abc h2⟩
theorem name_inj {p q : Tx} {e st : Int} (hst : st ∈ [1, 3, 5, 7, 9, (11 : Int)]) {i j : Nat} (hi : i < 26) (hj : j < 26) (h : nameAt p q e st i = nameAt p q e st j) : i = j := by
  unfold nameAt at h
  have h1 := List.append_cancel_right h
  have h2 := List.append_cancel_left h1
  simp only [List.cons.injEq, and_true] at h2
  have a0 := Int.emod_nonneg (e + st * i) (show (26 : Int) ≠ 0 by decide)
  have b0 := Int.emod_nonneg (e + st * j) (show (26 : Int) ≠ 0 by decide)
  have h3 : (e + st * i) % 26 = (e + st * j) % 26 := by omega
  simp only [List.mem_cons, List.not_mem_nil, or_false] at hst
  rcases hst with rfl | rfl | rfl | rfl | rfl | rfl <;> omega
theorem range_nodup {f : Nat → Tx} : ∀ k, k ≤ 26 → (∀ i j, i < 26 → j < 26 → f i = f j → i = j) → ((List.range k).map f).Nodup := fun k hk h => by
  unfold List.Nodup
  rw [List.pairwise_map]
  refine List.Pairwise.imp_of_mem (fun {a b} ha hb hne e => hne ?_) (List.nodup_range (n := k))
  simp at ha hb
  exact h a b (by omega) (by omega) e
theorem HasD.nm (H : HasD g) (hn : 3 ≤ n) (B : Bag m c) {many : Nat} (h1 : many ≤ 26) :
    (run g.G g.T g.K n 8 [.c c, .p (.int many)] m).Ok fun w m' => ∃ ns : List Tx, w = .p (.lst (ns.map .str)) ∧ ns.length = many ∧ Names ns ∧ Bag m' c ∧ Only c m m' := by
  obtain ⟨j, rfl⟩ : ∃ j, n = j + 3 := ⟨n - 3, by omega⟩
  refine (names_ok (n := j) H.names H.of_ H.draw B (many := many) (by omega) (by omega)).mono fun w m' ⟨p, q, e, st, hw, h2, h3, h4, h5, h6, B', O⟩ => ?_
  refine ⟨(List.range many).map fun k => nameAt p q e st k, ?_, by simp, ⟨?_, ?_⟩, B', O⟩
  · rw [hw]; simp
  · intro x hx
    obtain ⟨k, _, rfl⟩ := List.mem_map.mp hx
    exact name_isH h2 h3
  · exact range_nodup many h1 fun i j hi hj h => name_inj h6 hi hj h
end
end Oh

set_option Elab.async false
set_option linter.all false
set_option maxRecDepth 100000
set_option maxHeartbeats 4000000
set_option autoImplicit false
/-! LbQ: what the laws draw and tell of masks, over plain data -/
namespace Oh
structure HasP (g : Gx) : Prop extends HasD g where
  il : Has g 18 fd_law_is_letter_94aa
  pl : Has g 19 fd_law_places_aaf2
  hl : Has g 22 fd_law_holes_ad8c
structure HasPm (g : Gx) : Prop extends HasP g where
  mp : Has g 20 fd_law_mask_places_f692
structure HasPw (g : Gx) : Prop extends HasPm g where
  wr : Has g 21 fd_law_written_5ba6
theorem strs_of {ys : List D} {P : Tx → Prop} (h : ∀ y ∈ ys, ∃ p, P p ∧ y = .str p) : ∃ ps : List Tx, ys = ps.map .str ∧ ∀ p ∈ ps, P p := by
  induction ys with
  | nil => exact ⟨[], rfl, fun x hx => by cases hx⟩
  | cons y ys ih =>
    obtain ⟨x, hx, rfl⟩ := h y List.mem_cons_self
    obtain ⟨t, rfl, ht⟩ := ih fun z hz => h z (List.mem_cons_of_mem _ hz)
    refine ⟨x :: t, rfl, fun p hp => ?_⟩
    rcases List.mem_cons.mp hp with rfl | hp
    · exact hx
    · exact ht p hp
section
variable {g : Gx} {n c : Nat} {m : M}
theorem lletter_ok (H : HasP g) (hn : 1 ≤ n) (t : Tx) : run g.G g.T g.K n 18 [.p (.str t)] m = .ok (.p (.bl (isL t))) m := by
  rw [run_ge H.il hn]
  unfold runFd
  have e := isin_strsT t [[48], [49], [50]]
  rw [isL_in] at e
  simp only [List.map_cons, List.map_nil] at e
  simp [fd_law_is_letter_94aa, Fd.fill, e, take_self]
theorem ofStrs (H : HasD g) (hn : 2 ≤ n) (B : Bag m c) {ns : List Tx} (h1 : ns ≠ []) (h2 : ns.length ≤ line) :
    (run g.G g.T g.K n 6 [.c c, .p (.lst (ns.map .str))] m).Ok fun w m' => ∃ x ∈ ns, w = .p (.str x) ∧ Bag m' c ∧ Only c m m' := by
  refine (H.ofL hn B (xs := ns.map .str) (by simpa using h1) (by simp; unfold line at h2; omega)).mono fun w m' ⟨x, hx, hw, B', O⟩ => ?_
  obtain ⟨y, hy, rfl⟩ := List.mem_map.mp hx
  exact ⟨y, hy, hw, B', O⟩
theorem places_drawn (H : HasP g) (hn : 3 ≤ n) (B : Bag m c) {ns : List Tx} (h1 : ns ≠ []) (h2 : ns.length ≤ line) {lo hi : Int} (h3 : 0 ≤ lo) (h4 : lo ≤ hi) (h5 : hi ≤ 1000) :
    (run g.G g.T g.K n 19 [.c c, .p (.lst (ns.map .str)), .p (.int lo), .p (.int hi)] m).Ok fun w m' => ∃ ps : List Tx, w = .p (.lst (ps.map .str)) ∧ (∀ p ∈ ps, p ∈ ns) ∧ lo ≤ ps.length ∧ (ps.length : Int) ≤ hi ∧ Bag m' c ∧ Only c m m' := by
  rw [run_ge H.pl (by omega)]
  unfold runFd
  obtain ⟨w, m1, e1, d, rfl, d0, d1, B1, O1⟩ := (H.toHasD.d (n := n - 1) (by omega) B (many := hi - lo + 1) (by omega) (by omega)).ex
  have R : rngW [.p (.int (lo + d))] m1 = .ok ((List.range (lo + d).toNat).map fun (i : Nat) => D.int i) m1 := rng1 (by omega) (by omega)
  simp [fd_law_places_aaf2, Fd.fill, e1, R]
  generalize hr : lcGo _ _ _ = r
  have L1 : r.Ok fun ys m' => (Bag m' c ∧ Only c m m') ∧ ys.length = (lo + d).toNat ∧ ∀ y ∈ ys, ∃ p, p ∈ ns ∧ y = .str p := by
    rw [← hr]
    refine (lcGo_inv (Inv := fun m' => Bag m' c ∧ Only c m m') (P := fun y => ∃ p, p ∈ ns ∧ y = .str p) _ _ ⟨B1, O1⟩ fun x _ m2 ⟨B2, O2⟩ => ?_).mono fun ys m2 ⟨h, h7, h8⟩ => ⟨h, by simpa using h7, h8⟩
    obtain ⟨w, m3, e3, y, hy, rfl, B3, O3⟩ := (ofStrs (n := n - 1) H.toHasD (by omega) B2 h1 h2).ex
    simp [lcTurn, setT, e3, lcEnd]
    exact ⟨⟨B3, O2.trans O3⟩, hy⟩
  obtain ⟨ys, m2, rfl, ⟨B2, O2⟩, h7, h8⟩ := L1.ex
  obtain ⟨ps, rfl, hps⟩ := strs_of h8
  have hlen : ps.length = (lo + d).toNat := by simpa using h7
  obtain ⟨w, m3, e3, k, rfl, k0, k1, B3, O3⟩ := (H.toHasD.d (n := n - 1) (by omega) B2 (many := 3) (by omega) (by omega)).ex
  have O := O2.trans O3
  simp [lcList_le (ds := ps.map D.str) (by simp; unfold line; omega), e3]
  by_cases q1 : k = 0
  · subst q1
    by_cases q2 : 0 < ps.length
    · by_cases q3 : (2 : Int) * ps.length ≤ hi
      · have M1 : opD .mul (.int 2) (.int (ps.length : Int)) = some (.int (2 * ps.length)) := lit_mul _ _ (by decide)
        obtain ⟨w, m4, e4, y, hy, rfl, B4, O4⟩ := (H.toHasD.ofL (n := n - 1) (by omega) B3 (xs := [.lst (ps.map .str), .lst (ps.map D.str).reverse]) (by simp) (by simp)).ex
        have hy2 : ∃ qs : List Tx, y = .lst (qs.map .str) ∧ (∀ p ∈ qs, p ∈ ns) ∧ qs.length = ps.length := by
          simp only [List.mem_cons, List.not_mem_nil, or_false] at hy
          rcases hy with rfl | rfl
          · exact ⟨ps, rfl, hps, rfl⟩
          · exact ⟨ps.reverse, by simp, fun p hp => hps p (by simpa using hp), by simp⟩
        obtain ⟨qs, rfl, hqs, hql⟩ := hy2
        simp [M1, q2, q3, e4]
        rw [add_lst (by simp [List.length_map]; unfold line; omega)]
        simp [(O.trans O4).take]
        refine ⟨ps ++ qs, by simp, ?_, ?_, ?_, B4, O.trans O4⟩
        · intro p hp
          rcases List.mem_append.mp hp with h | h
          · exact hps p h
          · exact hqs p h
        · simp; omega
        · simp; omega
      · have M1 : opD .mul (.int 2) (.int (ps.length : Int)) = some (.int (2 * ps.length)) := lit_mul _ _ (by decide)
        simp [M1, q2, q3, O.take]
        exact ⟨ps, rfl, hps, by omega, by omega, B3, O⟩
    · simp [q2, O.take]
      exact ⟨ps, rfl, hps, by omega, by omega, B3, O⟩
  · have q1' : (k == 0) = false := by simpa using q1
    simp [q1', O.take]
    exact ⟨ps, rfl, hps, by omega, by omega, B3, O⟩
/-- letters among them -/
theorem mask_drawn (H : HasPm g) (hn : 4 ≤ n) (B : Bag m c) {ns : List Tx} (h1 : ns ≠ []) (h2 : ns.length ≤ line) {hi : Int} (h4 : 0 ≤ hi) (h5 : hi ≤ 1000) :
    (run g.G g.T g.K n 20 [.c c, .p (.lst (ns.map .str)), .p (.int hi)] m).Ok fun w m' => ∃ ps : List Tx, w = .p (.lst (ps.map .str)) ∧ (∀ p ∈ ps, p ∈ ns ∨ isL p = true) ∧ (ps.length : Int) ≤ hi ∧ Bag m' c ∧ Only c m m' := by
  rw [run_ge H.mp (by omega)]
  unfold runFd
  obtain ⟨w, m1, e1, ps, rfl, hps, l0, l1, B1, O1⟩ := (places_drawn (n := n - 1) H.toHasP (by omega) B h1 h2 (lo := 0) (hi := hi) (by omega) h4 h5).ex
  simp [fd_law_mask_places_f692, Fd.fill, e1, items]
  generalize hr : lcGo _ _ _ = r
  have L1 : r.Ok fun ys m' => (Bag m' c ∧ Only c m m') ∧ ys.length = ps.length ∧ ∀ y ∈ ys, ∃ p, (p ∈ ns ∨ isL p = true) ∧ y = .str p := by
    rw [← hr]
    refine (lcGo_inv (Inv := fun m' => Bag m' c ∧ Only c m m') (P := fun y => ∃ p, (p ∈ ns ∨ isL p = true) ∧ y = .str p) _ _ ⟨B1, O1⟩ fun x hx m2 ⟨B2, O2⟩ => ?_).mono fun ys m2 ⟨h, h7, h8⟩ => ⟨h, by simpa using h7, h8⟩
    obtain ⟨p, hp, rfl⟩ := List.mem_map.mp hx
    obtain ⟨w, m3, e3, y, hy, rfl, B3, O3⟩ := (H.toHasD.ofS (n := n - 1) (by omega) B2 (xs := [48, 48, 49, 49, 49, 50]) (by simp) (by decide)).ex
    obtain ⟨w, m4, e4, z, hz, rfl, B4, O4⟩ := (H.toHasD.ofL (n := n - 1) (by omega) B3 (xs := [.str p, .str p, .str p, .str [y]]) (by simp) (by simp)).ex
    simp [lcTurn, setT, e3, e4, lcEnd]
    refine ⟨⟨B4, (O2.trans O3).trans O4⟩, ?_⟩
    simp only [List.mem_cons, List.not_mem_nil, or_false] at hz hy
    have hyL : isL [y] = true := by rcases hy with rfl | rfl | rfl | rfl | rfl | rfl <;> decide
    rcases hz with rfl | rfl | rfl | rfl
    · exact ⟨p, .inl (hps p hp), rfl⟩
    · exact ⟨p, .inl (hps p hp), rfl⟩
    · exact ⟨p, .inl (hps p hp), rfl⟩
    · exact ⟨[y], .inr hyL, rfl⟩
  obtain ⟨ys, m2, rfl, ⟨B2, O2⟩, h7, h8⟩ := L1.ex
  obtain ⟨qs, rfl, hqs⟩ := strs_of h8
  have hlen : qs.length = ps.length := by simpa using h7
  simp [lcList_le (ds := qs.map D.str) (by simp; unfold line; omega), O2.take]
  exact ⟨qs, rfl, hqs, by omega, B2, O2⟩
theorem lwritten_ok (H : HasPw g) (hn : 1 ≤ n) {ps : List Tx} (hp : ∀ p ∈ ps, okP p = true) (hl : ps.length ≤ 1000) :
    run g.G g.T g.K n 21 [.p (.lst (ps.map .str))] m = .ok (.p (.str (textT ps))) m := by
  rw [run_ge H.wr (by omega)]
  unfold runFd
  simp [fd_law_written_5ba6, Fd.fill, join_me hp hl]
  by_cases h0 : 0 < ps.length
  · simp [h0, textT, take_self]
  · simp [h0, textT, take_self]
theorem lholes_loop (H : HasP g) (hn : 1 ≤ n) {F : D → Env → M → Res Fl} {a : Option W}
    (hF : ∀ (x : D) (o : Option W) (m' : M), F x [a, some (.c m.length), o] m' = exs g.G (run g.G g.T g.K n) g.K [.ite (.and [(.not (.call 18 [(.loc 2)])), (.cmp .notin (.loc 2) (.loc 1))]) [.app 1 (.loc 2)] []] [a, some (.c m.length), some (.p x)] m') :
    ∀ (ps : List Tx) (acc : List Tx) (o : Option W), acc.length + ps.length ≤ 1000 → ∃ o', forGo F (ps.map .str) [a, some (.c m.length), o] (m ++ [.lst (acc.map .str)]) = .ok (.nx [a, some (.c m.length), o']) (m ++ [.lst ((holesF acc ps).map .str)])
  | [], acc, o, _ => ⟨o, rfl⟩
  | p :: ps, acc, o, hl => by
    simp only [List.map_cons]
    unfold forGo holesF
    simp only [List.length_cons] at hl
    have ih := lholes_loop H hn hF ps
    rw [hF]
    by_cases h1 : isL p = true
    · simp [lletter_ok H hn, h1]
      exact ih acc _ (by omega)
    · simp only [Bool.not_eq_true] at h1
      by_cases h2 : acc.contains p = true
      · simp only [List.contains_eq_mem, decide_eq_true_eq] at h2
        simp [lletter_ok H hn, h1, h2]
        exact ih acc _ (by omega)
      · simp only [List.contains_eq_mem, decide_eq_true_eq] at h2
        simp [lletter_ok H hn, h1, h2]
        rw [isCell_at (last_get m _)]
        simp only [Res.bindS_ok]
        rw [appCell_at (last_get m _) (by simp; unfold line; omega)]
        simp
        have := ih (acc ++ [p]) (some (.p (.str p))) (by simp; omega)
        simpa using this
theorem lholes_ok (H : HasP g) (hn : 2 ≤ n) {ps : List Tx} (hl : ps.length ≤ 1000) :
    run g.G g.T g.K n 22 [.p (.lst (ps.map .str))] m = .ok (.p (.lst ((holesT ps).map .str))) m := by
  rw [run_ge H.hl (by omega)]
  unfold runFd
  simp [fd_law_holes_ad8c, Fd.fill, items]
  generalize hr : forGo _ _ _ _ = r
  have L : ∃ o', r = .ok (.nx [some (.p (.lst (ps.map .str))), some (.c m.length), o']) (m ++ [.lst ((holesF [] ps).map .str)]) := by
    rw [← hr]
    exact lholes_loop (n := n - 1) H (by omega) (fun x o m' => by simp [setT]) ps [] none (by simpa using hl)
  obtain ⟨o', rfl⟩ := L
  simp [holesT]
end
/-! ### holes of drawn places -/
theorem holesF_mem : ∀ (ps acc : List Tx) (q : Tx), q ∈ holesF acc ps → q ∈ acc ∨ (q ∈ ps ∧ isL q = false)
  | [], acc, q, h => .inl h
  | p :: ps, acc, q, h => by
    unfold holesF at h
    rcases holesF_mem ps _ q h with h | ⟨h, h2⟩
    · split at h
      · next hc =>
        simp only [Bool.and_eq_true, Bool.not_eq_true'] at hc
        rcases List.mem_append.mp h with h | h
        · exact .inl h
        · obtain rfl := List.mem_singleton.mp h
          exact .inr ⟨List.mem_cons_self, hc.1⟩
      · exact .inl h
    · exact .inr ⟨List.mem_cons_of_mem _ h, h2⟩
theorem holesF_nodup : ∀ (ps acc : List Tx), acc.Nodup → (holesF acc ps).Nodup
  | [], acc, h => h
  | p :: ps, acc, h => by
    unfold holesF
    refine holesF_nodup ps _ ?_
    split
    · next hc =>
      simp only [Bool.and_eq_true, Bool.not_eq_true', List.contains_eq_mem, decide_eq_false_iff_not] at hc
      rw [List.nodup_append]
      refine ⟨h, by simp, fun a ha b hb e => ?_⟩
      obtain rfl := List.mem_singleton.mp hb
      subst e
      exact hc.2 ha
    · exact h
theorem holesT_mem {ps : List Tx} {q : Tx} (h : q ∈ holesT ps) : q ∈ ps ∧ isL q = false := by
  rcases holesF_mem ps [] q h with h | h
  · cases h
  · exact h
theorem holesT_nodup (ps : List Tx) : (holesT ps).Nodup := holesF_nodup ps [] (by simp)
theorem nodup_sub {α : Type} [BEq α] [LawfulBEq α] : ∀ (a b : List α), a.Nodup → (∀ x ∈ a, x ∈ b) → a.length ≤ b.length
  | [], b, _, _ => Nat.zero_le _
  | x :: a, b, h, hs => by
    rw [List.nodup_cons] at h
    have hx := hs x List.mem_cons_self
    have := nodup_sub a (b.erase x) h.2 fun y hy => by
      have hne : y ≠ x := fun e => h.1 (e ▸ hy)
      exact (List.mem_erase_of_ne hne).mpr (hs y (List.mem_cons_of_mem _ hy))
    rw [List.length_erase_of_mem hx] at this
    have := List.length_pos_of_mem hx
    simp only [List.length_cons]
    omega
theorem holesT_few {ps ns : List Tx} (h : ∀ p ∈ ps, p ∈ ns ∨ isL p = true) : (holesT ps).length ≤ ns.length :=
  nodup_sub _ _ (holesT_nodup ps) fun q hq => by
    have := holesT_mem hq
    rcases h q this.1 with h | h
    · exact h
    · rw [this.2] at h; cases h
theorem names_okP {ps ns : List Tx} (N : Names ns) (h : ∀ p ∈ ps, p ∈ ns ∨ isL p = true) : ∀ p ∈ ps, okP p = true := fun p hp => by
  unfold okP
  rcases h p hp with h | h
  · rw [N.ok p h, Bool.or_true]
  · rw [h, Bool.true_or]
end Oh

set_option Elab.async false
set_option linter.all false
set_option maxRecDepth 100000
set_option maxHeartbeats 4000000
set_option autoImplicit false
/-! LbR: masks compared and shown, over plain data -/
namespace Oh
structure HasW (g : Gx) : Prop extends HasR g where
  e21 : Has g (mnum 21 22) fd_Mask_eq_7551
  e22 : Has g (mnum 22 22) fd_Mask_eq_7551
  x21 : Has g (mnum 21 25) fd_Mask_repr_5e85
  x22 : Has g (mnum 22 25) fd_Mask_repr_5e85
  j1 : g.G (mnum 21 22) = some (.fn 0)
  j2 : g.G (mnum 22 22) = some (.fn 0)
  j3 : g.G (mnum 21 25) = some (.fn 0)
  j4 : g.G (mnum 22 25) = some (.fn 0)
  w1 : g.G (mnum 21 11) = some (.str [77, 97, 115, 107])
  w2 : g.G (mnum 22 11) = some (.str [82, 111, 119])
/-- either of the two, with its texts -/
structure Ce (g : Gx) (c : Nat) : Prop extends Cl g c where
  at_ : c = 21 ∨ c = 22
  i : Has g (mnum c 0) fd_Mask_init_9c3c
  if_ : g.G (mnum c 0) = some (.fn 0)
  e : Has g (mnum c 22) fd_Mask_eq_7551
  ef : g.G (mnum c 22) = some (.fn 0)
structure Cm (g : Gx) (c : Nat) : Prop extends Ce g c where
  w : Has g (mnum c 23) fd_Mask_written_e210
  wf : g.G (mnum c 23) = some (.fn 0)
  x : Has g (mnum c 25) fd_Mask_repr_5e85
  xf : g.G (mnum c 25) = some (.fn 0)
def wordOf (c : Nat) : Tx := if c = 21 then [77, 97, 115, 107] else [82, 111, 119]
section
variable {g : Gx} {n : Nat} {m : M}
theorem HasW.m1 (H : HasW g) : Cm g 21 := { toCl := H.c1, at_ := .inl rfl, i := H.i21, if_ := H.f1, w := H.w21, wf := H.k3, e := H.e21, ef := H.j1, x := H.x21, xf := H.j3 }
theorem HasW.m2 (H : HasW g) : Cm g 22 := { toCl := H.c2, at_ := .inr rfl, i := H.i22, if_ := H.f2, w := H.w22, wf := H.k4, e := H.e22, ef := H.j2, x := H.x22, xf := H.j4 }
theorem HasW.mo (H : HasW g) (ps : List Tx) : Cm g (clsOf ps) := by
  unfold clsOf
  split
  · exact H.m1
  · exact H.m2
theorem isi_row (H : HasW g) (ps : List Tx) : isiW g.G (mk (clsOf ps) ps) 22 m = .ok (.p (.bl (!ps.any isL))) m := by
  unfold clsOf
  cases q : ps.any isL with
  | true =>
    simp only [if_true]
    unfold isiW mk
    simp only [H.f1, H.f2]
    rfl
  | false =>
    simp only [Bool.false_eq_true, if_false]
    unfold isiW mk
    simp only [H.f1, H.f2]
    rfl
theorem isi_row2 (H : HasW g) (ps : List Tx) : isiW g.G (mk 22 ps) 22 m = .ok (.p (.bl true)) m := by
  unfold isiW mk
  simp only [H.f2]
  rfl
theorem isi_mask (H : HasM g) {c : Nat} (C : Ce g c) (ps : List Tx) : isiW g.G (mk c ps) 21 m = .ok (.p (.bl true)) m := by
  unfold isiW mk
  simp only [H.f1, C.if_]
  rcases C.at_ with rfl | rfl <;> rfl
theorem written_of (H : HasW g) {c : Nat} (C : Cm g c) (hn : 2 ≤ n) {ps : List Tx} (hp : ∀ p ∈ ps, okP p = true) (hl : ps.length ≤ 1000) :
    run g.G g.T g.K n (mnum c 23) [.p (mk c ps)] m = .ok (.p (.str (textT ps))) m := written_ok H.g17 C.toCl C.w hn hp hl
theorem mask_eq (H : HasM g) {c c2 : Nat} (C : Ce g c) (C2 : Ce g c2) (hn : 2 ≤ n) (ps qs : List Tx) :
    run g.G g.T g.K n (mnum c 22) [.p (mk c ps), .p (mk c2 qs)] m = .ok (.p (.bl (ps == qs))) m := by
  rw [run_ge C.e (by omega)]
  unfold runFd
  simp [fd_Mask_eq_7551, Fd.fill, isi_mask H C2, clsR_mk (show (15 : Nat) ≠ 12 by decide), C.pf, C2.pf, places_ok (n := n - 1) C.toCl (by omega), places_ok (n := n - 1) C2.toCl (by omega), eq_strs, take_self]
theorem eqW_masks (H : HasM g) {c c2 : Nat} (C : Ce g c) (C2 : Ce g c2) (hn : 2 ≤ n) (neg : Bool) (ps qs : List Tx) :
    eqW g.G (run g.G g.T g.K n) neg c (.p (mk c ps)) (.p (mk c2 qs)) m = .ok (.p (.bl ((ps == qs) != neg))) m := by
  unfold eqW
  have hr : eqR g.G (asD (.p (mk c2 qs)) m) = true := by
    rw [asD_p]
    unfold mk eqR
    simp only [C2.if_]
    rfl
  by_cases q : (decide (c2 ≠ c) && (above c2).contains c) = true
  · have ea : eqArgs c (.p (mk c ps)) (.p (mk c2 qs)) = (c2, [.p (mk c2 qs), .p (mk c ps)]) := if_pos q
    rw [ea, hr]
    simp only [C.if_, C2.ef, mask_eq H C2 C hn]
    have : (qs == ps) = (ps == qs) := by rw [Bool.eq_iff_iff, beq_iff_eq, beq_iff_eq, eq_comm]
    rw [this]
    rfl
  · have ea : eqArgs c (.p (mk c ps)) (.p (mk c2 qs)) = (c, [.p (mk c ps), .p (mk c2 qs)]) := if_neg q
    rw [ea, hr]
    simp only [C.if_, C.ef, mask_eq H C C2 hn]
    rfl
theorem mask_repr (H : HasW g) {c : Nat} (C : Cm g c) (hn : 3 ≤ n) {ps : List Tx} (hp : ∀ p ∈ ps, okP p = true) (hl : ps.length ≤ 1000) :
    run g.G g.T g.K n (mnum c 25) [.p (mk c ps)] m = .ok (.p (.str (wordOf c ++ [40] ++ textT ps ++ [41]))) m := by
  rw [run_ge C.x (by omega)]
  unfold runFd
  have hlen := textT_len hp hl
  have hw : g.G (mnum c 11) = some (.str (wordOf c)) := by
    rcases C.at_ with rfl | rfl
    · exact H.w1
    · exact H.w2
  have hwl : (wordOf c).length ≤ 4 := by unfold wordOf; split <;> simp
  have p1 : fpart [] (.p (.str (wordOf c))) = some ([] ++ wordOf c) := if_pos (by simp; unfold line; omega)
  have p2 : fpart ([] ++ wordOf c) (.p (.str [40])) = some ([] ++ wordOf c ++ [40]) := if_pos (by simp; unfold line; omega)
  have p3 : fpart ([] ++ wordOf c ++ [40]) (.p (.str (textT ps))) = some ([] ++ wordOf c ++ [40] ++ textT ps) := if_pos (by simp; unfold line; omega)
  have p4 : fpart ([] ++ wordOf c ++ [40] ++ textT ps) (.p (.str [41])) = some ([] ++ wordOf c ++ [40] ++ textT ps ++ [41]) := if_pos (by simp; unfold line; omega)
  simp only [List.nil_append] at p1 p2 p3 p4
  have cr : ∀ t, conR (some (.str t)) m = .ok (.p (.str t)) m := fun t => rfl
  simp [fd_Mask_repr_5e85, Fd.fill, clsR_mk (show (11 : Nat) ≠ 12 by decide), clsR_mk (show (23 : Nat) ≠ 12 by decide), C.wf, hw, cr, written_of (n := n - 1) H C (by omega) hp hl, p1, p2, -List.append_assoc, p3, p4, take_self]
theorem repr_of (H : HasW g) {c : Nat} (C : Cm g c) (hn : 3 ≤ n) {ps : List Tx} (hp : ∀ p ∈ ps, okP p = true) (hl : ps.length ≤ 1000) :
    biW g.G (run g.G g.T g.K n) .repr [.p (mk c ps)] m = .ok (.p (.str (wordOf c ++ [40] ++ textT ps ++ [41]))) m := by
  unfold mk
  rw [biW_repr, C.xf]
  have := mask_repr (m := m) H C hn hp hl
  unfold mk at this
  rw [this]
  rfl
end
end Oh

set_option Elab.async false
set_option linter.all false
set_option maxRecDepth 100000
set_option maxHeartbeats 4000000
set_option autoImplicit false
/-! LbU: masks turned, struck, put, added and repeated, over plain data -/
namespace Oh
def fd_is_number_2af7 : Fd := ⟨3, 3, [], [
    .ite (.or [(.not (.bi .isi [(.loc 0), (.ty 0)])), (.bi .isi [(.loc 0), (.ty 2)])]) [
      .ret (.bl false)] [],
    .ret (.and [(.cmp .ge (.loc 0) (.loc 1)), (.or [(.cmp .is (.loc 2) .non), (.cmp .le (.loc 0) (.loc 2))])])], []⟩
def fd_plain_places_7eae : Fd := ⟨3, 1, [], [
    .expr (.call 23 [(.loc 0)]),
    .set 1 (.call 15 [(.loc 0)]),
    .ret (.lc (.ite (.call 16 [(.loc 2)]) (.loc 2) (.idx (.glb 0) (.lidx (.loc 1) (.loc 2)))) [2] (.ex (.loc 0)) [])], []⟩
def fd_Mask_len_7ef1 : Fd := ⟨1, 1, [], [
    .ret (.bi .len [(.fld (.loc 0) 12)])], []⟩
def fd_Mask_mirrored_eb5d : Fd := ⟨1, 1, [], [
    .ret (.call 25 [(.rev (.mcall (.loc 0) 15 [] [] []))])], []⟩
def fd_Mask_plain_50b7 : Fd := ⟨1, 1, [], [
    .ret (.call 25 [(.call 26 [(.fld (.loc 0) 12)])])], []⟩
def fd_Mask_without_8dc8 : Fd := ⟨3, 2, [], [
    .ite (.or [(.not (.call 10 [(.loc 1)])), (.cmp .notin (.loc 1) (.fld (.loc 0) 12))]) [
      .raise 19 [(.loc 1)]] [],
    .ret (.call 25 [(.lc (.loc 2) [2] (.ex (.fld (.loc 0) 12)) [(.cmp .ne (.loc 2) (.loc 1))])])], []⟩
def fd_Mask_put_0f2e : Fd := ⟨5, 2, [], [
    .for_ [2] (.ex (.bi .sorted [(.bi .list [(.loc 1)])])) [
      .ite (.or [(.not (.call 10 [(.loc 2)])), (.cmp .notin (.loc 2) (.fld (.loc 0) 12))]) [
        .raise 19 [(.loc 2)]] []],
    .setc 3 (.lst []),
    .for_ [4] (.ex (.fld (.loc 0) 12)) [
      .ext 3 (.ite (.cmp .isin (.loc 4) (.loc 1)) (.mcall (.idx (.loc 1) (.loc 4)) 15 [] [] []) (.lst [(.loc 4)]))],
    .frz 3,
    .ret (.call 25 [(.loc 3)])], []⟩
def fd_Mask_add_1a55 : Fd := ⟨2, 2, [], [
    .ret (.call 25 [(.star2 (.fld (.loc 0) 12) (.mcall (.loc 1) 15 [] [] []))])], []⟩
def fd_Mask_mul_a763 : Fd := ⟨2, 2, [], [
    .ite (.not (.call 27 [(.loc 1), (.int 0), (.glb 12)])) [
      .raise 7 [(.loc 1)]] [],
    .ret (.call 25 [(.bin .mul (.mcall (.loc 0) 15 [] [] []) (.loc 1))])], []⟩
structure HasQ (g : Gx) : Prop extends HasMd g where
  pp : Has g 26 fd_plain_places_7eae
structure HasO (g : Gx) : Prop extends HasW g where
  num : Has g 27 fd_is_number_2af7
  pp : Has g 26 fd_plain_places_7eae
theorem HasO.q {g : Gx} (H : HasO g) : HasQ g := { toHasMd := H.toHasMd, pp := H.pp }
/-- either class, turned -/
structure Cq (g : Gx) (c : Nat) : Prop extends Cl g c where
  mi : Has g (mnum c 26) fd_Mask_mirrored_eb5d
  mif : g.G (mnum c 26) = some (.fn 0)
  pl : Has g (mnum c 27) fd_Mask_plain_50b7
  plf : g.G (mnum c 27) = some (.fn 0)
/-- either class with its operations -/
structure Co (g : Gx) (c : Nat) : Prop extends Cm g c, Cq g c where
  wo : Has g (mnum c 28) fd_Mask_without_8dc8
  wof : g.G (mnum c 28) = some (.fn 0)
  pu : Has g (mnum c 29) fd_Mask_put_0f2e
  puf : g.G (mnum c 29) = some (.fn 0)
  ad : Has g (mnum c 30) fd_Mask_add_1a55
  adf : g.G (mnum c 30) = some (.fn 0)
  mu : Has g (mnum c 31) fd_Mask_mul_a763
  muf : g.G (mnum c 31) = some (.fn 0)
/-- places that make a mask -/
structure Pl (ps : List Tx) : Prop where
  ok : ∀ p ∈ ps, okP p = true
  len : ps.length ≤ 10
  few : (holesT ps).length ≤ 5
theorem holesF_acc : ∀ (ps acc : List Tx) (q : Tx), q ∈ acc → q ∈ holesF acc ps
  | [], _, _, h => h
  | p :: ps, acc, q, h => by
    unfold holesF
    refine holesF_acc ps _ q ?_
    split
    · exact List.mem_append_left _ h
    · exact h
theorem holesF_in : ∀ (ps acc : List Tx) (q : Tx), q ∈ ps → isL q = false → q ∈ holesF acc ps
  | [], _, _, h, _ => by cases h
  | p :: ps, acc, q, h, hl => by
    unfold holesF
    rcases List.mem_cons.mp h with rfl | h
    · refine holesF_acc ps _ q ?_
      by_cases h2 : acc.contains q = true
      · rw [h2]
        simp only [List.contains_eq_mem, decide_eq_true_eq] at h2
        simpa using h2
      · simp only [Bool.not_eq_true] at h2
        rw [h2, hl]
        simp
    · exact holesF_in ps _ q h hl
theorem holesT_in {ps : List Tx} {q : Tx} (h : q ∈ ps) (hl : isL q = false) : q ∈ holesT ps := holesF_in ps [] q h hl
theorem holesT_le {ps qs : List Tx} (h : ∀ q ∈ qs, isL q = false → q ∈ ps) : (holesT qs).length ≤ (holesT ps).length :=
  nodup_sub _ _ (holesT_nodup qs) fun q hq => let ⟨h1, h2⟩ := holesT_mem hq; holesT_in (h q h1 h2) h2
theorem Pl.sub {ps qs : List Tx} (P : Pl ps) (h : ∀ q ∈ qs, q ∈ ps) (hl : qs.length ≤ 10) : Pl qs :=
  ⟨fun q hq => P.ok q (h q hq), hl, Nat.le_trans (holesT_le fun q hq _ => h q hq) P.few⟩
theorem clsOf_eq {ps qs : List Tx} (h : ps.any isL = qs.any isL) : clsOf ps = clsOf qs := by unfold clsOf; rw [h]
theorem lcGo_filter {α : Type} {F : D → M → Res (Option D)} {m : M} (f h : α → D) (q : α → Bool) : ∀ (l : List α), (∀ a ∈ l, F (f a) m = .ok (if q a then some (h a) else none) m) → lcGo F (l.map f) m = .ok ((l.filter q).map h) m
  | [], _ => rfl
  | a :: l, k => by
    simp only [List.map_cons]
    unfold lcGo
    rw [k a List.mem_cons_self, Res.bind_ok, lcGo_filter f h q l fun b hb => k b (List.mem_cons_of_mem _ hb), Res.bind_ok]
    cases e : q a <;> simp [e]
theorem notin_strsT (p : Tx) (ps : List Tx) : cmpB .notin (.str p) (.tup (ps.map .str)) = some (.bl (!ps.contains p)) := by
  have : cmpD .notin (.str p) (.tup (ps.map .str)) = (inD (.str p) (ps.map .str)).map (!·) := by
    match p with
    | [] => rfl
    | [_] => rfl
    | _ :: _ :: _ => rfl
  unfold cmpB
  rw [this, in_strs]; rfl
section
variable {g : Gx} {n : Nat} {m : M}
theorem made_of (H : HasMd g) (hn : 5 ≤ n) {ps : List Tx} (P : Pl ps) : run g.G g.T g.K n 25 [.p (.lst (ps.map .str))] m = .ok (.p (mk (clsOf ps) ps)) m := made_ok H hn P.ok P.len P.few
theorem is_number_int (H : HasO g) (hn : 1 ≤ n) (i lo hi : Int) : run g.G g.T g.K n 27 [.p (.int i), .p (.int lo), .p (.int hi)] m = .ok (.p (.bl (decide (lo ≤ i) && decide (i ≤ hi)))) m := by
  rw [run_ge H.num hn]
  unfold runFd
  by_cases h : lo ≤ i
  · simp [fd_is_number_2af7, Fd.fill, isiD, h, take_self]
  · simp [fd_is_number_2af7, Fd.fill, isiD, h, take_self]
theorem mirrored_ok (H : HasMd g) {c : Nat} (C : Cq g c) (hn : 6 ≤ n) {ps : List Tx} (P : Pl ps) : run g.G g.T g.K n (mnum c 26) [.p (mk c ps)] m = .ok (.p (mk (clsOf ps) ps.reverse)) m := by
  rw [run_ge C.mi (by omega)]
  unfold runFd
  have e := made_of (n := n - 1) (m := m) H (by omega) (P.sub (qs := ps.reverse) (by simp) (by simpa using P.len))
  rw [List.map_reverse, clsOf_eq (qs := ps) (by simp)] at e
  simp [fd_Mask_mirrored_eb5d, Fd.fill, clsR_mk (show (15 : Nat) ≠ 12 by decide), C.pf, places_ok (n := n - 1) C.toCl (by omega), revD, e, take_self]
theorem without_ok (H : HasO g) {c : Nat} (C : Co g c) (hn : 6 ≤ n) {ps : List Tx} (P : Pl ps) {h : Tx} (hh : isH h = true) (hi : h ∈ ps) :
    run g.G g.T g.K n (mnum c 28) [.p (mk c ps), .p (.str h)] m = .ok (.p (mk (clsOf ps) (ps.filter fun p => !(p == h)))) m := by
  rw [run_ge C.wo (by omega)]
  unfold runFd
  have hln : h.length ≤ line := fits_hole P.ok h hi
  have Q : Pl (ps.filter fun p => !(p == h)) := P.sub (fun q hq => (List.mem_filter.mp hq).1) (Nat.le_trans (List.length_filter_le ..) P.len)
  have e := made_of (n := n - 1) (m := m) H.toHasMd (by omega) Q
  have ec : clsOf (ps.filter fun p => !(p == h)) = clsOf ps := clsOf_eq (by
    rw [Bool.eq_iff_iff, List.any_eq_true, List.any_eq_true]
    constructor
    · rintro ⟨x, hx, q⟩
      exact ⟨x, (List.mem_filter.mp hx).1, q⟩
    · rintro ⟨x, hx, q⟩
      refine ⟨x, List.mem_filter.mpr ⟨hx, ?_⟩, q⟩
      simp only [Bool.not_eq_true', beq_eq_false_iff_ne]
      intro e
      subst e
      rw [isH_isL hh] at q
      cases q)
  rw [ec] at e
  have en := notin_strsT h ps
  have hcon : ps.contains h = true := by simpa using hi
  rw [hcon] at en
  simp [fd_Mask_without_8dc8, Fd.fill, is_hole_str (n := n - 1) H.toHasM (by omega) hln, hh, own_fld C.fo, en, items]
  rw [lcGo_filter (fun c => .str c) (fun c => .str c) (fun p => !(p == h)) ps fun a ha => by cases q : (a == h) <;> simp [lcTurn, setT, lcEnd, q]]
  simp [lcList_le (ds := (ps.filter fun p => !(p == h)).map D.str) (by have := Q.len; simp only [List.length_map]; unfold line; omega), e, take_self]
/-! ### plain -/
def plainP (hs : List Tx) (p : Tx) : Tx := if isL p then p else [(abc[hs.idxOf p]?).getD 97]
theorem findD_at : ∀ {hs : List Tx} {p : Tx}, p ∈ hs → findD (.str p) (hs.map .str) = some (hs.idxOf p)
  | [], _, h => by cases h
  | x :: hs, p, h => by
    by_cases e : x = p
    · subst e; simp [findD, eqv]
    · have e2 : (x == p) = false := by simpa using e
      have ih := findD_at ((List.mem_cons.mp h).resolve_left fun q => e q.symm)
      simp [findD, eqv, e, ih, List.idxOf_cons, e2]
theorem abc_idx {j : Nat} (h : j < 26) : idxD (.str abc) (.int (j : Int)) = some (.str [(abc[j]?).getD 97]) := by
  have : ∀ j : Nat, j < 26 → ((abc[j]?).getD 97 ∈ abc ∧ atI abc (j : Int) = some ((abc[j]?).getD 97)) := by decide
  unfold idxD
  simp only [(this j h).2, Option.map_some]
  rfl
theorem abc_in {j : Nat} (h : j < 26) : (abc[j]?).getD 97 ∈ abc := by
  have : ∀ j : Nat, j < 26 → (abc[j]?).getD 97 ∈ abc := by decide
  exact this j h
theorem one_isH {x : Nat} (h : x ∈ abc) : isH [x] = true := by
  unfold isH small
  simp only [List.length_singleton, List.all_cons, List.all_nil, Bool.and_true, Bool.and_eq_true, decide_eq_true_eq]
  exact ⟨by decide, by decide, h⟩
theorem plainP_ok {hs : List Tx} {p : Tx} (hl : hs.length ≤ 5) (hp : isL p = false → p ∈ hs) : okP (plainP hs p) = true ∧ isL (plainP hs p) = isL p := by
  unfold plainP
  cases q : isL p with
  | true => simp only [if_true]; exact ⟨by unfold okP; rw [q]; rfl, q⟩
  | false =>
    have : hs.idxOf p < 26 := by have := List.idxOf_lt_length_of_mem (hp q); omega
    have h := one_isH (abc_in this)
    simp only [Bool.false_eq_true, if_false]
    exact ⟨isH_okP h, isH_isL h⟩
theorem plain_pl {ps : List Tx} (P : Pl ps) : Pl (ps.map (plainP (holesT ps))) ∧ clsOf (ps.map (plainP (holesT ps))) = clsOf ps := by
  have hk : ∀ p ∈ ps, okP (plainP (holesT ps) p) = true ∧ isL (plainP (holesT ps) p) = isL p := fun p hp => plainP_ok P.few fun q => holesT_in hp q
  refine ⟨⟨?_, by simpa using P.len, ?_⟩, clsOf_eq ?_⟩
  · intro q hq
    obtain ⟨p, hp, rfl⟩ := List.mem_map.mp hq
    exact (hk p hp).1
  · have : (holesT (ps.map (plainP (holesT ps)))).length ≤ ((List.range (holesT ps).length).map fun j => [(abc[j]?).getD 97]).length := nodup_sub _ _ (holesT_nodup _) fun q hq => by
      obtain ⟨h1, h2⟩ := holesT_mem hq
      obtain ⟨p, hp, rfl⟩ := List.mem_map.mp h1
      rw [(hk p hp).2] at h2
      refine List.mem_map.mpr ⟨(holesT ps).idxOf p, ?_, ?_⟩
      · exact List.mem_range.mpr (List.idxOf_lt_length_of_mem (holesT_in hp h2))
      · unfold plainP; rw [h2]; rfl
    have h5 := P.few
    simp only [List.length_map, List.length_range] at this
    omega
  · rw [List.any_map]
    rw [Bool.eq_iff_iff, List.any_eq_true, List.any_eq_true]
    constructor
    · rintro ⟨x, hx, q⟩
      exact ⟨x, hx, by rw [← (hk x hx).2]; exact q⟩
    · rintro ⟨x, hx, q⟩
      exact ⟨x, hx, by show isL (plainP (holesT ps) x) = true; rw [(hk x hx).2]; exact q⟩
theorem plain_places_ok (H : HasQ g) (hn : 4 ≤ n) {ps : List Tx} (P : Pl ps) : run g.G g.T g.K n 26 [.p (.tup (ps.map .str))] m = .ok (.p (.lst ((ps.map (plainP (holesT ps))).map .str))) m := by
  rw [run_ge H.pp (by omega)]
  unfold runFd
  have h1000 : ps.length ≤ 1000 := by have := P.len; omega
  simp [fd_plain_places_7eae, Fd.fill, need_size_ok (n := n - 1) H.toHasM (by omega) (.t (ps := ps)) (fits_hole P.ok) P.len P.few, holes_in_ok (n := n - 1) H.toHasM (by omega) (.t (ps := ps)) (fits_hole P.ok) h1000, items, H.g0]
  rw [lcGo_of (fun c => .str c) (fun c => .str (plainP (holesT ps) c)) ps fun a ha => by
    have hf := fits_hole P.ok a ha
    cases q : isL a with
    | true => simp [lcTurn, setT, lcEnd, is_letter_str (n := n - 1) H.toHasM (by omega) hf, q, plainP]
    | false =>
      have hin := holesT_in ha q
      have hlt : (holesT ps).idxOf a < 26 := by have := List.idxOf_lt_length_of_mem hin; have := P.few; omega
      have e1 : lidxD (.lst ((holesT ps).map .str)) (.str a) = some (.int ((holesT ps).idxOf a : Nat)) := by
        have hall : ((holesT ps).map D.str).all flat = true := by simp [flat]
        unfold lidxD
        simp only [hall, findD_at hin]
        rfl
      simp [lcTurn, setT, lcEnd, is_letter_str (n := n - 1) H.toHasM (by omega) hf, q, plainP, e1, abc_idx hlt, lstOf]]
  simp [lcList_le (ds := ps.map fun c => D.str (plainP (holesT ps) c)) (by have := P.len; simp only [List.length_map]; unfold line; omega), take_self]
theorem plain_ok (H : HasQ g) {c : Nat} (C : Cq g c) (hn : 6 ≤ n) {ps : List Tx} (P : Pl ps) : run g.G g.T g.K n (mnum c 27) [.p (mk c ps)] m = .ok (.p (mk (clsOf ps) (ps.map (plainP (holesT ps))))) m := by
  rw [run_ge C.pl (by omega)]
  unfold runFd
  obtain ⟨P2, ec⟩ := plain_pl P
  have e := made_of (n := n - 1) (m := m) H.toHasMd (by omega) P2
  rw [ec] at e
  have e0 := plain_places_ok (n := n - 1) (m := m) H (by omega) P
  simp only [List.map_map] at e e0
  simp [fd_Mask_plain_50b7, Fd.fill, own_fld C.fo, e0, e, take_self]
theorem add_ok (H : HasO g) {c c2 : Nat} (C : Co g c) (C2 : Co g c2) (hn : 6 ≤ n) {ps qs : List Tx} (P : Pl (ps ++ qs)) : run g.G g.T g.K n (mnum c 30) [.p (mk c ps), .p (mk c2 qs)] m = .ok (.p (mk (clsOf (ps ++ qs)) (ps ++ qs))) m := by
  rw [run_ge C.ad (by omega)]
  unfold runFd
  have e := made_of (n := n - 1) (m := m) H.toHasMd (by omega) P
  rw [List.map_append] at e
  have hlen := P.len
  rw [List.length_append] at hlen
  have e2 : lcList (ps.map D.str ++ qs.map D.str) m = .ok (.p (.lst (ps.map D.str ++ qs.map D.str))) m := lcList_le (by simp only [List.length_append, List.length_map]; unfold line; omega)
  simp [fd_Mask_add_1a55, Fd.fill, own_fld C.fo, starW, clsR_mk (show (15 : Nat) ≠ 12 by decide), C2.pf, places_ok (n := n - 1) C2.toCl (by omega), e2, e, take_self]
theorem mul_ok (H : HasO g) {c : Nat} (C : Co g c) (hn : 6 ≤ n) {ps : List Tx} {k : Nat} (hk : k ≤ 10) (hl : ps.length ≤ 10) (P : Pl (List.replicate k ps).flatten) : run g.G g.T g.K n (mnum c 31) [.p (mk c ps), .p (.int k)] m = .ok (.p (mk (clsOf (List.replicate k ps).flatten) (List.replicate k ps).flatten)) m := by
  rw [run_ge C.mu (by omega)]
  unfold runFd
  have e := made_of (n := n - 1) (m := m) H.toHasMd (by omega) P
  have em : ((List.replicate k ps).flatten).map D.str = (List.replicate k (ps.map D.str)).flatten := by rw [List.map_flatten, List.map_replicate]
  rw [em] at e
  have e3 : opD .mul (.lst (ps.map D.str)) (.int (k : Int)) = some (.lst (List.replicate k (ps.map D.str)).flatten) := by
    have : ps.length * k ≤ 10 * 10 := Nat.mul_le_mul hl hk
    show (if _ then _ else _) = _
    rw [if_pos]
    · simp
    · simp only [Bool.and_eq_true, decide_eq_true_eq, List.length_map, Int.toNat_natCast]
      exact ⟨⟨by omega, by omega⟩, by unfold line; omega⟩
  have h1 : (0 : Int) ≤ (k : Int) := by omega
  have h2 : (k : Int) ≤ 10 := by omega
  simp [fd_Mask_mul_a763, Fd.fill, is_number_int (n := n - 1) H (by omega), H.g12, h1, h2, clsR_mk (show (15 : Nat) ≠ 12 by decide), C.pf, places_ok (n := n - 1) C.toCl (by omega), e3, e, take_self]
/-! ### put -/
/-- a dict of masks -/
abbrev Kvs : Type := List (Tx × Nat × List Tx)
def dctOf (kvs : Kvs) : List (D × D) := kvs.map fun q => (.str q.1, mk q.2.1 q.2.2)
def putP (kvs : Kvs) (p : Tx) : List Tx := match kvs.find? fun q => q.1 == p with
  | some q => q.2.2
  | none => [p]
theorem look_dct (p : Tx) : ∀ kvs : Kvs, look p (dctOf kvs) = (kvs.find? fun q => q.1 == p).map fun q => mk q.2.1 q.2.2
  | [] => rfl
  | q :: kvs => by
    have ih := look_dct p kvs
    unfold look dctOf at ih ⊢
    simp only [List.map_cons, List.find?_cons, isK]
    by_cases e : q.1 = p
    · simp [e]
    · have e2 : (q.1 == p) = false := by simpa using e
      simp only [e, decide_false, e2]
      exact ih
theorem texts_strs (ts : List Tx) : texts (ts.map D.str) = some ts := by
  have := texts_map (fun x => x) ts
  simpa using this
theorem sortD_strs {ts : List Tx} (h : ts.length < 64) : sortD (ts.map .str) = some (.lst ((sortT ts).map .str)) := by
  cases ts with
  | nil => rfl
  | cons t ts =>
    unfold sortD
    have : intsD ((t :: ts).map D.str) = none := rfl
    rw [this]
    simp only [texts_strs]
    rw [if_pos h]
theorem insT_mem {x y : Tx} : ∀ {l : List Tx}, y ∈ insT x l → y = x ∨ y ∈ l
  | [], h => by unfold insT at h; simpa using h
  | z :: l, h => by
    unfold insT at h
    split at h
    · rcases List.mem_cons.mp h with h | h
      · exact .inr (by simp [h])
      · rcases insT_mem h with h | h
        · exact .inl h
        · exact .inr (List.mem_cons_of_mem _ h)
    · rcases List.mem_cons.mp h with h | h
      · exact .inl h
      · exact .inr h
theorem sortT_mem {y : Tx} : ∀ {l : List Tx}, y ∈ sortT l → y ∈ l
  | [], h => h
  | x :: l, h => by
    rcases insT_mem h with h | h
    · simp [h]
    · exact List.mem_cons_of_mem _ (sortT_mem h)
theorem extCell_at {n : Nat} {m : M} {xs ys : List D} (h : m[n]? = some (.lst xs)) (hl : xs.length + ys.length ≤ line) : extCell (.c n) (.p (.lst ys)) m = .ok () (m.set n (.lst (xs ++ ys))) := by unfold extCell; simp only [h, hl, if_true]
theorem mput_loop1 {F : D → Env → M → Res Fl} {a b o3 o4 : Option W} {m : M} :
    ∀ (ks : List Tx) (o2 : Option W), (∀ k ∈ ks, ∀ (o2 : Option W), F (.str k) [a, b, o2, o3, o4] m = .ok (.nx [a, b, some (.p (.str k)), o3, o4]) m) → ∃ o2', forGo F (ks.map D.str) [a, b, o2, o3, o4] m = .ok (.nx [a, b, o2', o3, o4]) m
  | [], o2, _ => ⟨o2, rfl⟩
  | k :: ks, o2, hF => by
    simp only [List.map_cons]
    unfold forGo
    rw [hF k List.mem_cons_self]
    exact mput_loop1 ks _ fun k hk => hF k (List.mem_cons_of_mem _ hk)
theorem mput_loop2 {F : D → Env → M → Res Fl} {a b o2 : Option W} {m : M} {f : Tx → List Tx} :
    ∀ (ps : List Tx) (acc : List Tx) (o4 : Option W), (∀ p ∈ ps, ∀ (acc : List Tx) (o4 : Option W), acc.length ≤ 1000 → F (.str p) [a, b, o2, some (.c m.length), o4] (m ++ [.lst (acc.map .str)]) = .ok (.nx [a, b, o2, some (.c m.length), some (.p (.str p))]) (m ++ [.lst ((acc ++ f p).map .str)])) →
      (∀ p ∈ ps, (f p).length ≤ 10) → acc.length + 10 * ps.length ≤ 1000 → ∃ o4', forGo F (ps.map D.str) [a, b, o2, some (.c m.length), o4] (m ++ [.lst (acc.map .str)]) = .ok (.nx [a, b, o2, some (.c m.length), o4']) (m ++ [.lst ((acc ++ ps.flatMap f).map .str)])
  | [], acc, o4, _, _, _ => ⟨o4, by simp [forGo]⟩
  | p :: ps, acc, o4, hF, hf, hl => by
    simp only [List.map_cons]
    unfold forGo
    simp only [List.length_cons] at hl
    have hp := hf p List.mem_cons_self
    rw [hF p List.mem_cons_self acc o4 (by omega)]
    obtain ⟨o4', ih⟩ := mput_loop2 ps (acc ++ f p) (some (.p (.str p))) (fun p hp => hF p (List.mem_cons_of_mem _ hp)) (fun p hp => hf p (List.mem_cons_of_mem _ hp)) (by rw [List.length_append]; omega)
    refine ⟨o4', ?_⟩
    rw [List.flatMap_cons, ← List.append_assoc]
    exact ih
theorem set_pre {m : M} {x y : C} {n : Nat} (h : n = m.length) : (m ++ [x]).set n y = m ++ [y] := by subst h; simp
theorem mput_ok (H : HasO g) {c : Nat} (C : Co g c) (hn : 6 ≤ n) {ps : List Tx} (P : Pl ps) {kvs : Kvs} (hk : ∀ q ∈ kvs, isH q.1 = true ∧ q.1 ∈ ps ∧ Co g q.2.1 ∧ q.2.2.length ≤ 10) (hl : kvs.length < 64) (R : Pl (ps.flatMap (putP kvs))) :
    run g.G g.T g.K n (mnum c 29) [.p (mk c ps), .p (.dct (dctOf kvs))] m = .ok (.p (mk (clsOf (ps.flatMap (putP kvs))) (ps.flatMap (putP kvs)))) m := by
  rw [run_ge C.pu (by omega)]
  unfold runFd
  have el : biD .list [.dct (dctOf kvs)] = some (.lst ((kvs.map (·.1)).map .str)) := by
    show some (D.lst ((dctOf kvs).map (·.1))) = _
    unfold dctOf
    simp [List.map_map, Function.comp_def]
  have es : biD .sorted [.lst ((kvs.map (·.1)).map .str)] = some (.lst ((sortT (kvs.map (·.1))).map .str)) := by
    show sortD _ = _
    exact sortD_strs (by simpa using hl)
  simp [fd_Mask_put_0f2e, Fd.fill, -List.map_map, el, es, items]
  generalize hr : forGo _ _ _ _ = r
  have L : ∃ o2, r = .ok (.nx [some (.p (mk c ps)), some (.p (.dct (dctOf kvs))), o2, none, none]) m := by
    rw [← hr]
    refine mput_loop1 _ none fun k hk1 o2 => ?_
    obtain ⟨q, hq, rfl⟩ := List.mem_map.mp (sortT_mem hk1)
    obtain ⟨h1, h2, _, _⟩ := hk q hq
    have hln : q.1.length ≤ line := fits_hole P.ok _ h2
    have en := notin_strsT q.1 ps
    have hcon : ps.contains q.1 = true := by simpa using h2
    rw [hcon] at en
    simp [setT, is_hole_str (n := n - 1) H.toHasM (by omega) hln, h1, own_fld C.fo, en]
  obtain ⟨o2, rfl⟩ := L
  simp [own_fld C.fo, items]
  generalize hr : forGo _ _ _ _ = r
  have fl : ∀ p ∈ ps, (putP kvs p).length ≤ 10 := fun p hp => by
    unfold putP
    split
    · rename_i q e
      exact (hk q (List.mem_of_find?_eq_some e)).2.2.2
    · simp
  have L : ∃ o4, r = .ok (.nx [some (.p (mk c ps)), some (.p (.dct (dctOf kvs))), o2, some (.c m.length), o4]) (m ++ [.lst (([] ++ ps.flatMap (putP kvs)).map .str)]) := by
    rw [← hr]
    refine mput_loop2 (m := m) (f := putP kvs) ps [] none (fun p hp acc o4 ha => ?_) fl (by have := P.len; simp; omega)
    have hfp := fl p hp
    cases e : kvs.find? fun q => q.1 == p with
    | some q =>
      obtain ⟨_, _, Cq, _⟩ := hk q (List.mem_of_find?_eq_some e)
      have e1 := look_dct p kvs
      rw [e] at e1
      simp only [Option.map_some] at e1
      have e2 : putP kvs p = q.2.2 := by unfold putP; rw [e]
      rw [e2] at hfp ⊢
      simp [setT, isCell_at (last_get m _), isin_dct, e1, idxD, clsR_mk (show (15 : Nat) ≠ 12 by decide), Cq.pf, places_ok (n := n - 1) Cq.toCl (by omega)]
      rw [extCell_at (last_get m _) (by simp only [List.length_map]; unfold line; omega)]
      simp
    | none =>
      have e1 := look_dct p kvs
      rw [e] at e1
      simp only [Option.map_none] at e1
      have e2 : putP kvs p = [p] := by unfold putP; rw [e]
      rw [e2] at hfp ⊢
      simp [setT, isCell_at (last_get m _), isin_dct, e1]
      rw [extCell_at (last_get m _) (by simp only [List.length_map]; unfold line; simp; omega)]
      simp
  obtain ⟨o4, rfl⟩ := L
  have e := made_of (n := n - 1) (m := m ++ [.dead]) H.toHasMd (by omega) R
  simp [frzCell, e]
end
end Oh

set_option Elab.async false
set_option linter.all false
set_option maxRecDepth 100000
set_option maxHeartbeats 4000000
set_option autoImplicit false
/-! LbV: counts and lengths of rows, over plain data -/
namespace Oh
def fd_counts_556a : Fd := ⟨3, 1, [], [
    .setc 1 (.lst []),
    .for_ [2] (.ex (.mcall (.loc 0) 16 [] [] [])) [
      .ite (.cmp .notin (.mcall (.loc 0) 17 [(.loc 2)] [] []) (.loc 1)) [
        .app 1 (.mcall (.loc 0) 17 [(.loc 2)] [] [])] []],
    .ret (.bi .sorted [(.loc 1)])], []⟩
def fd_least_lengths_0b03 : Fd := ⟨7, 1, [], [
    .set 1 (.idx (.loc 0) (.int 0)),
    .setc 2 (.cat (.lst [(.int 0)]) (.bin .mul (.lst [.non]) (.bin .sub (.loc 1) (.int 1)))),
    .for_ [3] (.rng [(.loc 1)]) [
      .for_ [4] (.rng [(.loc 1)]) [
        .for_ [5] (.ex (.loc 0)) [
          .set 6 (.ite (.cmp .is (.idx (.loc 2) (.loc 4)) .non) .non (.bin .add (.idx (.loc 2) (.loc 4)) (.loc 5))),
          .ite (.and [(.cmp .isnot (.loc 6) .non), (.or [(.cmp .is (.idx (.loc 2) (.bin .mod (.loc 6) (.loc 1))) .non), (.cmp .lt (.loc 6) (.idx (.loc 2) (.bin .mod (.loc 6) (.loc 1))))])]) [
            .sub 2 (.bin .mod (.loc 6) (.loc 1)) (.loc 6)] []]]],
    .ret (.loc 2)], []⟩
def fd_is_sum_6d5f : Fd := ⟨3, 2, [], [
    .ite (.cmp .eq (.loc 0) (.lst [])) [
      .ret (.cmp .eq (.loc 1) (.int 0))] [],
    .set 2 (.idx (.call 41 [(.loc 0)]) (.bin .mod (.loc 1) (.idx (.loc 0) (.int 0)))),
    .ret (.and [(.cmp .isnot (.loc 2) .non), (.cmp .ge (.loc 1) (.loc 2))])], []⟩
def fd_law_count_6fd4 : Fd := ⟨3, 2, [], [
    .ret (.bi .len [(.lc (.loc 2) [2] (.ex (.loc 0)) [(.cmp .eq (.loc 2) (.loc 1))])])], []⟩
def fd_law_sums_0c3d : Fd := ⟨5, 2, [], [
    .setc 2 (.cat (.lst [(.bl true)]) (.bin .mul (.lst [(.bl false)]) (.loc 1))),
    .for_ [3] (.rng [(.int 1), (.bin .add (.loc 1) (.int 1))]) [
      .sub 2 (.loc 3) (.bi .any [(.lc (.idx (.loc 2) (.bin .sub (.loc 3) (.loc 4))) [4] (.ex (.loc 0)) [(.cmp .le (.loc 4) (.loc 3))])])],
    .ret (.loc 2)], []⟩
def fd_law_numbers_e0f1 : Fd := ⟨2, 1, [], [
    .ret (.sset (.lc (.call 33 [(.loc 0), (.loc 1)]) [1] (.ex (.call 22 [(.loc 0)])) []))], []⟩
def fd_Mask_holes_c1a6 : Fd := ⟨1, 1, [], [
    .ret (.call 15 [(.fld (.loc 0) 12)])], []⟩
def fd_Mask_count_d5a7 : Fd := ⟨3, 2, [], [
    .ret (.bi .len [(.lc (.loc 2) [2] (.ex (.fld (.loc 0) 12)) [(.cmp .eq (.loc 2) (.loc 1))])])], []⟩
/-! ### plain: the numbers, the least sums, the table of sums -/
def cntT (ps : List Tx) (h : Tx) : Nat := (ps.filter fun p => p == h).length
def numsT (ps : List Tx) : List Int := setI ((holesT ps).map fun h => (cntT ps h : Int))
def relax (md : Int) (r : Nat) (F : List (Option Int)) (x : Int) : List (Option Int) := match F[r]? with
  | some (some v) => match F[((v + x) % md).toNat]? with
    | some none => F.set ((v + x) % md).toNat (some (v + x))
    | some (some u) => if v + x < u then F.set ((v + x) % md).toNat (some (v + x)) else F
    | none => F
  | _ => F
def leastF (md : Int) (ns : List Int) : List (Option Int) :=
  (List.range md.toNat).foldl (fun F _ => (List.range md.toNat).foldl (fun F r => ns.foldl (relax md r) F) F) (some 0 :: List.replicate (md.toNat - 1) none)
def least (ns : List Int) : List (Option Int) := match ns with
  | [] => []
  | md :: _ => leastF md ns
def isSumL (ns : List Int) (F : List (Option Int)) (t : Int) : Bool := match ns with
  | [] => t == 0
  | md :: _ => match F[(t % md).toNat]? with
    | some (some v) => decide (v ≤ t)
    | _ => false
def isSum (ns : List Int) (t : Int) : Bool := isSumL ns (least ns) t
def sumStep (ns : List Int) (F : List Bool) (i : Nat) : List Bool := F.set (i + 1) (ns.any fun x => decide (x ≤ (i + 1 : Nat)) && (F[((i + 1 : Nat) - x).toNat]?).getD false)
def sumsT (ns : List Int) (top : Nat) : List Bool := (List.range top).foldl (sumStep ns) (true :: List.replicate top false)
/-- all lists of rising numbers above lo with a sum of at most s -/
def rises : Nat → Nat → Nat → List (List Int)
  | 0, _, _ => [[]]
  | k + 1, lo, s => [] :: (List.range s).flatMap fun d => if lo < d + 1 then (rises k (d + 1) (s - (d + 1))).map fun l => ((d + 1 : Nat) : Int) :: l else []
def tbl : List (List Int × List (Option Int) × List Bool) := [
  ([], [], [true, false, false, false, false, false, false, false, false, false, false, false, false, false, false, false, false, false, false, false, false, false, false, false, false, false, false, false, false, false, false]),
  ([1], [some 0], [true, true, true, true, true, true, true, true, true, true, true, true, true, true, true, true, true, true, true, true, true, true, true, true, true, true, true, true, true, true, true]),
  ([1, 2], [some 0], [true, true, true, true, true, true, true, true, true, true, true, true, true, true, true, true, true, true, true, true, true, true, true, true, true, true, true, true, true, true, true]),
  ([1, 2, 3], [some 0], [true, true, true, true, true, true, true, true, true, true, true, true, true, true, true, true, true, true, true, true, true, true, true, true, true, true, true, true, true, true, true]),
  ([1, 2, 3, 4], [some 0], [true, true, true, true, true, true, true, true, true, true, true, true, true, true, true, true, true, true, true, true, true, true, true, true, true, true, true, true, true, true, true]),
  ([1, 2, 4], [some 0], [true, true, true, true, true, true, true, true, true, true, true, true, true, true, true, true, true, true, true, true, true, true, true, true, true, true, true, true, true, true, true]),
  ([1, 2, 5], [some 0], [true, true, true, true, true, true, true, true, true, true, true, true, true, true, true, true, true, true, true, true, true, true, true, true, true, true, true, true, true, true, true]),
  ([1, 2, 6], [some 0], [true, true, true, true, true, true, true, true, true, true, true, true, true, true, true, true, true, true, true, true, true, true, true, true, true, true, true, true, true, true, true]),
  ([1, 2, 7], [some 0], [true, true, true, true, true, true, true, true, true, true, true, true, true, true, true, true, true, true, true, true, true, true, true, true, true, true, true, true, true, true, true]),
  ([1, 3], [some 0], [true, true, true, true, true, true, true, true, true, true, true, true, true, true, true, true, true, true, true, true, true, true, true, true, true, true, true, true, true, true, true]),
  ([1, 3, 4], [some 0], [true, true, true, true, true, true, true, true, true, true, true, true, true, true, true, true, true, true, true, true, true, true, true, true, true, true, true, true, true, true, true]),
  ([1, 3, 5], [some 0], [true, true, true, true, true, true, true, true, true, true, true, true, true, true, true, true, true, true, true, true, true, true, true, true, true, true, true, true, true, true, true]),
  ([1, 3, 6], [some 0], [true, true, true, true, true, true, true, true, true, true, true, true, true, true, true, true, true, true, true, true, true, true, true, true, true, true, true, true, true, true, true]),
  ([1, 4], [some 0], [true, true, true, true, true, true, true, true, true, true, true, true, true, true, true, true, true, true, true, true, true, true, true, true, true, true, true, true, true, true, true]),
  ([1, 4, 5], [some 0], [true, true, true, true, true, true, true, true, true, true, true, true, true, true, true, true, true, true, true, true, true, true, true, true, true, true, true, true, true, true, true]),
  ([1, 5], [some 0], [true, true, true, true, true, true, true, true, true, true, true, true, true, true, true, true, true, true, true, true, true, true, true, true, true, true, true, true, true, true, true]),
  ([1, 6], [some 0], [true, true, true, true, true, true, true, true, true, true, true, true, true, true, true, true, true, true, true, true, true, true, true, true, true, true, true, true, true, true, true]),
  ([1, 7], [some 0], [true, true, true, true, true, true, true, true, true, true, true, true, true, true, true, true, true, true, true, true, true, true, true, true, true, true, true, true, true, true, true]),
  ([1, 8], [some 0], [true, true, true, true, true, true, true, true, true, true, true, true, true, true, true, true, true, true, true, true, true, true, true, true, true, true, true, true, true, true, true]),
  ([1, 9], [some 0], [true, true, true, true, true, true, true, true, true, true, true, true, true, true, true, true, true, true, true, true, true, true, true, true, true, true, true, true, true, true, true]),
  ([2], [some 0, none], [true, false, true, false, true, false, true, false, true, false, true, false, true, false, true, false, true, false, true, false, true, false, true, false, true, false, true, false, true, false, true]),
  ([2, 3], [some 0, some 3], [true, false, true, true, true, true, true, true, true, true, true, true, true, true, true, true, true, true, true, true, true, true, true, true, true, true, true, true, true, true, true]),
  ([2, 3, 4], [some 0, some 3], [true, false, true, true, true, true, true, true, true, true, true, true, true, true, true, true, true, true, true, true, true, true, true, true, true, true, true, true, true, true, true]),
  ([2, 3, 5], [some 0, some 3], [true, false, true, true, true, true, true, true, true, true, true, true, true, true, true, true, true, true, true, true, true, true, true, true, true, true, true, true, true, true, true]),
  ([2, 4], [some 0, none], [true, false, true, false, true, false, true, false, true, false, true, false, true, false, true, false, true, false, true, false, true, false, true, false, true, false, true, false, true, false, true]),
  ([2, 5], [some 0, some 5], [true, false, true, false, true, true, true, true, true, true, true, true, true, true, true, true, true, true, true, true, true, true, true, true, true, true, true, true, true, true, true]),
  ([2, 6], [some 0, none], [true, false, true, false, true, false, true, false, true, false, true, false, true, false, true, false, true, false, true, false, true, false, true, false, true, false, true, false, true, false, true]),
  ([2, 7], [some 0, some 7], [true, false, true, false, true, false, true, true, true, true, true, true, true, true, true, true, true, true, true, true, true, true, true, true, true, true, true, true, true, true, true]),
  ([2, 8], [some 0, none], [true, false, true, false, true, false, true, false, true, false, true, false, true, false, true, false, true, false, true, false, true, false, true, false, true, false, true, false, true, false, true]),
  ([3], [some 0, none, none], [true, false, false, true, false, false, true, false, false, true, false, false, true, false, false, true, false, false, true, false, false, true, false, false, true, false, false, true, false, false, true]),
  ([3, 4], [some 0, some 4, some 8], [true, false, false, true, true, false, true, true, true, true, true, true, true, true, true, true, true, true, true, true, true, true, true, true, true, true, true, true, true, true, true]),
  ([3, 5], [some 0, some 10, some 5], [true, false, false, true, false, true, true, false, true, true, true, true, true, true, true, true, true, true, true, true, true, true, true, true, true, true, true, true, true, true, true]),
  ([3, 6], [some 0, none, none], [true, false, false, true, false, false, true, false, false, true, false, false, true, false, false, true, false, false, true, false, false, true, false, false, true, false, false, true, false, false, true]),
  ([3, 7], [some 0, some 7, some 14], [true, false, false, true, false, false, true, true, false, true, true, false, true, true, true, true, true, true, true, true, true, true, true, true, true, true, true, true, true, true, true]),
  ([4], [some 0, none, none, none], [true, false, false, false, true, false, false, false, true, false, false, false, true, false, false, false, true, false, false, false, true, false, false, false, true, false, false, false, true, false, false]),
  ([4, 5], [some 0, some 5, some 10, some 15], [true, false, false, false, true, true, false, false, true, true, true, false, true, true, true, true, true, true, true, true, true, true, true, true, true, true, true, true, true, true, true]),
  ([4, 6], [some 0, none, some 6, none], [true, false, false, false, true, false, true, false, true, false, true, false, true, false, true, false, true, false, true, false, true, false, true, false, true, false, true, false, true, false, true]),
  ([5], [some 0, none, none, none, none], [true, false, false, false, false, true, false, false, false, false, true, false, false, false, false, true, false, false, false, false, true, false, false, false, false, true, false, false, false, false, true]),
  ([6], [some 0, none, none, none, none, none], [true, false, false, false, false, false, true, false, false, false, false, false, true, false, false, false, false, false, true, false, false, false, false, false, true, false, false, false, false, false, true]),
  ([7], [some 0, none, none, none, none, none, none], [true, false, false, false, false, false, false, true, false, false, false, false, false, false, true, false, false, false, false, false, false, true, false, false, false, false, false, false, true, false, false]),
  ([8], [some 0, none, none, none, none, none, none, none], [true, false, false, false, false, false, false, false, true, false, false, false, false, false, false, false, true, false, false, false, false, false, false, false, true, false, false, false, false, false, false]),
  ([9], [some 0, none, none, none, none, none, none, none, none], [true, false, false, false, false, false, false, false, false, true, false, false, false, false, false, false, false, false, true, false, false, false, false, false, false, false, false, true, false, false, false]),
  ([10], [some 0, none, none, none, none, none, none, none, none, none], [true, false, false, false, false, false, false, false, false, false, true, false, false, false, false, false, false, false, false, false, true, false, false, false, false, false, false, false, false, false, true])]
theorem tbl_all : ((rises 10 0 10).all fun l => tbl.any fun p => p.1 == l) = true := by decide +kernel
theorem tbl_least : (tbl.all fun p => least p.1 == p.2.1) = true := by decide +kernel
theorem tbl_sums : (tbl.all fun p => sumsT p.1 30 == p.2.2) = true := by decide +kernel
theorem tbl_is : (tbl.all fun p => (List.range 31).all fun k => isSumL p.1 p.2.1 (k : Int) == (p.2.2[k]?).getD false) = true := by decide +kernel
def dueT (A B : List Bool) : Option Int := ((List.range 31).find? fun k => (A[k]?).getD false && !(B[k]?).getD false).map fun (k : Nat) => (k : Int)
def minO : List Int → Option Int
  | [] => none
  | x :: r => some (minL x r)
theorem tbl_due : (tbl.all fun p => tbl.all fun q => dueT p.2.2 q.2.2 == minO (p.1.filter fun x => !(q.2.2[x.toNat]?).getD false)) = true := by decide +kernel
structure HasV (g : Gx) : Prop extends HasM g where
  ho : Has g (mnum 22 16) fd_Mask_holes_c1a6
  hof : g.G (mnum 22 16) = some (.fn 0)
  co : Has g (mnum 22 17) fd_Mask_count_d5a7
  cof : g.G (mnum 22 17) = some (.fn 0)
  ll : Has g 41 fd_least_lengths_0b03
  is : Has g 50 fd_is_sum_6d5f
structure HasVc (g : Gx) : Prop extends HasV g where
  ct : Has g 49 fd_counts_556a
structure HasVl (g : Gx) : Prop extends HasP g where
  lc : Has g 33 fd_law_count_6fd4
  ls : Has g 46 fd_law_sums_0c3d
  ln : Has g 47 fd_law_numbers_e0f1
theorem forGo_fold {α β : Type} {f : D → Env → M → Res Fl} {I : β → Env → M → Prop} (h : α → D) (step : β → α → β) : ∀ (xs : List α) (b : β) (s : Env) (m : M), I b s m → (∀ x ∈ xs, ∀ b s m, I b s m → ∃ s' m', f (h x) s m = .ok (.nx s') m' ∧ I (step b x) s' m') →
    ∃ s' m', forGo f (xs.map h) s m = .ok (.nx s') m' ∧ I (xs.foldl step b) s' m'
  | [], b, s, m, hI, _ => ⟨s, m, rfl, hI⟩
  | x :: xs, b, s, m, hI, k => by
    obtain ⟨s1, m1, e, h1⟩ := k x List.mem_cons_self b s m hI
    obtain ⟨s2, m2, e2, h2⟩ := forGo_fold h step xs (step b x) s1 m1 h1 fun y hy => k y (List.mem_cons_of_mem _ hy)
    refine ⟨s2, m2, ?_, h2⟩
    simp only [List.map_cons]
    unfold forGo
    rw [e]
    exact e2
theorem forGo_to {α β : Type} {f : D → Env → M → Res Fl} {I : β → Env → M → Prop} {P : Env → M → Prop} (h : α → D) (step : β → α → β) (xs : List α) (b : β) {s : Env} {m : M} (h0 : I b s m) (hP : ∀ s' m', I (xs.foldl step b) s' m' → P s' m')
    (k : ∀ x ∈ xs, ∀ b s m, I b s m → ∃ s' m', f (h x) s m = .ok (.nx s') m' ∧ I (step b x) s' m') : ∃ s' m', forGo f (xs.map h) s m = .ok (.nx s') m' ∧ P s' m' :=
  let ⟨s', m', e, q⟩ := forGo_fold h step xs b s m h0 k
  ⟨s', m', e, hP s' m' q⟩
theorem intsD_ints : ∀ ns : List Int, intsD (ns.map .int) = some ns
  | [] => rfl
  | n :: ns => by simp [intsD, intsD_ints ns]
theorem in_ints (x : Int) (xs : List Int) : inD (.int x) (xs.map .int) = some (xs.contains x) := by
  have h : (xs.map D.int).all flat = true := by simp [flat]
  have h2 : ((xs.map D.int).any fun y => eqv y (.int x)) = xs.contains x := by
    induction xs with
    | nil => rfl
    | cons y ys ih =>
      have ih := ih (by simp [flat])
      simp only [List.map_cons, List.any_cons, ih, List.contains_cons]
      congr 1
      simp only [eqv]
      rw [Bool.eq_iff_iff, beq_iff_eq, beq_iff_eq, eq_comm]
  unfold inD
  rw [h, h2]
  simp [flat]
theorem notin_ints (x : Int) (xs : List Int) : cmpB .notin (.int x) (.lst (xs.map .int)) = some (.bl (!xs.contains x)) := by
  have : cmpD .notin (.int x) (.lst (xs.map .int)) = (inD (.int x) (xs.map .int)).map (!·) := rfl
  unfold cmpB
  rw [this, in_ints]; rfl
/-! ### each once -/
def addU (F : List Int) (x : Int) : List Int := if F.contains x then F else F ++ [x]
theorem foldU_mem : ∀ (l F : List Int) (y : Int), y ∈ l.foldl addU F ↔ y ∈ F ∨ y ∈ l
  | [], F, y => by simp
  | x :: l, F, y => by
    simp only [List.foldl_cons]
    rw [foldU_mem l, List.mem_cons]
    unfold addU
    split
    · rename_i h
      simp only [List.contains_eq_mem, decide_eq_true_eq] at h
      constructor
      · rintro (h | h)
        · exact .inl h
        · exact .inr (.inr h)
      · rintro (h1 | rfl | h1)
        · exact .inl h1
        · exact .inl h
        · exact .inr h1
    · simp only [List.mem_append, List.mem_singleton]
      rw [or_assoc]
theorem foldU_nd : ∀ (l F : List Int), F.Nodup → (l.foldl addU F).Nodup
  | [], F, h => h
  | x :: l, F, h => by
    simp only [List.foldl_cons]
    refine foldU_nd l _ ?_
    unfold addU
    split
    · exact h
    · rename_i q
      simp only [List.contains_eq_mem, decide_eq_true_eq] at q
      rw [List.nodup_append]
      exact ⟨h, by simp, fun a ha b hb e => by obtain rfl := List.mem_singleton.mp hb; subst e; exact q ha⟩
theorem insI_mem2 {x y : Int} : ∀ {l : List Int}, y ∈ insI x l ↔ y = x ∨ y ∈ l
  | [] => by simp [insI]
  | z :: l => by
    unfold insI
    split
    · simp
    · rw [List.mem_cons, insI_mem2 (l := l), List.mem_cons]
      constructor
      · rintro (h | h | h)
        · exact .inr (.inl h)
        · exact .inl h
        · exact .inr (.inr h)
      · rintro (h | h | h)
        · exact .inr (.inl h)
        · exact .inl h
        · exact .inr (.inr h)
theorem insI_rise (x : Int) : ∀ {l : List Int}, x ∉ l → l.Pairwise (· < ·) → (insI x l).Pairwise (· < ·)
  | [], _, _ => by simp [insI]
  | z :: l, hx, h => by
    rw [List.pairwise_cons] at h
    have hne : x ≠ z := fun e => hx (by simp [e])
    unfold insI
    split
    · rw [List.pairwise_cons, List.pairwise_cons]
      exact ⟨fun a ha => by
        rcases List.mem_cons.mp ha with rfl | ha
        · omega
        · have := h.1 a ha; omega, h⟩
    · rw [List.pairwise_cons]
      refine ⟨fun a ha => ?_, insI_rise x (fun q => hx (List.mem_cons_of_mem _ q)) h.2⟩
      rcases insI_mem2.mp ha with rfl | ha
      · omega
      · exact h.1 a ha
theorem sortI_mem2 {y : Int} : ∀ {l : List Int}, y ∈ sortI l ↔ y ∈ l
  | [] => by simp [sortI]
  | x :: l => by unfold sortI; rw [insI_mem2, sortI_mem2 (l := l), List.mem_cons]
theorem sortI_rise : ∀ {l : List Int}, l.Nodup → (sortI l).Pairwise (· < ·)
  | [], _ => .nil
  | x :: l, h => by
    rw [List.nodup_cons] at h
    exact insI_rise x (fun q => h.1 (sortI_mem2.mp q)) (sortI_rise h.2)
theorem sort_once (l : List Int) : sortI (l.foldl addU []) = setI l :=
  rise_eq (sortI_rise (foldU_nd l [] .nil)) (setI_pw l) fun x => by rw [sortI_mem2, foldU_mem, setI_mem]; simp
section
variable {g : Gx} {n : Nat} {m : M}
theorem holes_ok (H : HasV g) (hn : 3 ≤ n) {ps : List Tx} (hf : fits ps) (hl : ps.length ≤ 1000) : run g.G g.T g.K n (mnum 22 16) [.p (mk 22 ps)] m = .ok (.p (.lst ((holesT ps).map .str))) m := by
  rw [run_ge H.ho (by omega)]
  unfold runFd
  simp [fd_Mask_holes_c1a6, Fd.fill, own_fld (c := 22) (by decide), holes_in_ok (n := n - 1) H.toHasM (by omega) (.t (ps := ps)) hf hl, take_self]
theorem count_lst {F : D → M → Res (Option D)} {ps : List Tx} {h : Tx} (hF : ∀ a ∈ ps, F (.str a) m = .ok (if a == h then some (.str a) else none) m) : lcGo F (ps.map .str) m = .ok ((ps.filter fun p => p == h).map .str) m :=
  lcGo_filter (fun c => .str c) (fun c => .str c) (fun p => p == h) ps hF
theorem count_ok (H : HasV g) (hn : 1 ≤ n) {ps : List Tx} (hl : ps.length ≤ 1000) (h : Tx) : run g.G g.T g.K n (mnum 22 17) [.p (mk 22 ps), .p (.str h)] m = .ok (.p (.int (cntT ps h))) m := by
  rw [run_ge H.co (by omega)]
  unfold runFd
  have hlf := List.length_filter_le (fun p => p == h) ps
  simp [fd_Mask_count_d5a7, Fd.fill, own_fld (c := 22) (by decide), items]
  rw [count_lst fun a ha => by cases q : (a == h) <;> simp [lcTurn, setT, lcEnd, q]]
  simp [lcList_le (ds := (ps.filter fun p => p == h).map D.str) (by simp only [List.length_map]; unfold line; omega), cntT, take_self]
theorem lcount_ok (H : HasVl g) (hn : 1 ≤ n) {ps : List Tx} (hl : ps.length ≤ 1000) (h : Tx) : run g.G g.T g.K n 33 [.p (.lst (ps.map .str)), .p (.str h)] m = .ok (.p (.int (cntT ps h))) m := by
  rw [run_ge H.lc (by omega)]
  unfold runFd
  have hlf := List.length_filter_le (fun p => p == h) ps
  simp [fd_law_count_6fd4, Fd.fill, items]
  rw [count_lst fun a ha => by cases q : (a == h) <;> simp [lcTurn, setT, lcEnd, q]]
  simp [lcList_le (ds := (ps.filter fun p => p == h).map D.str) (by simp only [List.length_map]; unfold line; omega), cntT, take_self]
theorem holesT_len (ps : List Tx) : (holesT ps).length ≤ ps.length := nodup_sub _ _ (holesT_nodup ps) fun q hq => (holesT_mem hq).1
theorem lnumbers_ok (H : HasVl g) (hn : 3 ≤ n) {ps : List Tx} (hl : ps.length ≤ 60) : run g.G g.T g.K n 47 [.p (.lst (ps.map .str))] m = .ok (.p (.lst ((numsT ps).map .int))) m := by
  rw [run_ge H.ln (by omega)]
  unfold runFd
  have hh := holesT_len ps
  simp [fd_law_numbers_e0f1, Fd.fill, lholes_ok (n := n - 1) H.toHasP (by omega) (ps := ps) (by omega), items]
  rw [lcGo_of (fun h => .str h) (fun h => .int (cntT ps h)) (holesT ps) fun a ha => by simp [lcTurn, setT, lcEnd, lcount_ok (n := n - 1) H (by omega) (ps := ps) (by omega)]]
  have e : ssetD (.lst ((holesT ps).map fun h => D.int (cntT ps h))) = some (.lst ((numsT ps).map .int)) := by
    have e1 : ((holesT ps).map fun h => D.int (cntT ps h)) = ((holesT ps).map fun h => (cntT ps h : Int)).map .int := by simp [List.map_map, Function.comp_def]
    unfold ssetD
    rw [e1]
    simp only [intsD_ints]
    rw [if_pos (by simp; omega)]
    rfl
  simp [lcList_le (ds := (holesT ps).map fun h => D.int (cntT ps h)) (by simp only [List.length_map]; unfold line; omega), e, take_self]
theorem counts_ok (H : HasVc g) (hn : 4 ≤ n) {ps : List Tx} (hf : fits ps) (hl : ps.length ≤ 60) : run g.G g.T g.K n 49 [.p (mk 22 ps)] m = .ok (.p (.lst ((numsT ps).map .int))) m := by
  rw [run_ge H.ct (by omega)]
  unfold runFd
  have hh := holesT_len ps
  simp [fd_counts_556a, Fd.fill, clsR_mk (show (16 : Nat) ≠ 12 by decide), H.hof, holes_ok (n := n - 1) H.toHasV (by omega) hf (by omega), items]
  generalize hr : forGo _ _ _ _ = r
  have L : ∃ s' m', r = .ok (.nx s') m' ∧ ∃ o2, s' = [some (.p (mk 22 ps)), some (.c m.length), o2] ∧ m' = m ++ [.lst ((((holesT ps).map fun h => (cntT ps h : Int)).foldl addU []).map .int)] := by
    rw [← hr]
    refine forGo_to (I := fun F s' m' => ∃ o2, s' = [some (.p (mk 22 ps)), some (.c m.length), o2] ∧ m' = m ++ [.lst (F.map .int)] ∧ F.Nodup ∧ ∀ y ∈ F, y ∈ (holesT ps).map fun h => (cntT ps h : Int)) .str (fun F h => addU F (cntT ps h)) (holesT ps) []
      ⟨none, rfl, rfl, .nil, by simp⟩ (fun s' m' ⟨o2, e1, e2, _, _⟩ => ⟨o2, e1, by rw [e2, List.foldl_map]⟩) fun h hh2 F s' m' ⟨o2, e1, e2, nd, sub⟩ => ?_
    subst e1; subst e2
    have hlen : F.length ≤ 60 := by have := nodup_sub F _ nd sub; simp at this; omega
    have nd2 := foldU_nd [(cntT ps h : Int)] F nd
    have sub2 : ∀ y ∈ addU F (cntT ps h), y ∈ (holesT ps).map fun h => (cntT ps h : Int) := fun y hy => by
      rcases (foldU_mem [(cntT ps h : Int)] F y).mp hy with q | q
      · exact sub y q
      · rw [List.mem_singleton] at q
        exact List.mem_map.mpr ⟨h, hh2, q.symm⟩
    refine ⟨[some (.p (mk 22 ps)), some (.c m.length), some (.p (.str h))], m ++ [.lst ((addU F (cntT ps h)).map .int)], ?_, some (.p (.str h)), rfl, rfl, nd2, sub2⟩
    have ni := notin_ints (cntT ps h) F
    cases q : F.contains (cntT ps h : Int) with
    | true =>
      have ea : addU F (cntT ps h) = F := by unfold addU; rw [q]; rfl
      rw [q] at ni
      rw [ea]
      simp [setT, clsR_mk (show (17 : Nat) ≠ 12 by decide), H.cof, count_ok (n := n - 1) H.toHasV (by omega) (ps := ps) (by omega), ni]
    | false =>
      have ea : addU F (cntT ps h) = F ++ [(cntT ps h : Int)] := by unfold addU; rw [q]; rfl
      rw [q] at ni
      rw [ea]
      simp [setT, clsR_mk (show (17 : Nat) ≠ 12 by decide), H.cof, count_ok (n := n - 1) H.toHasV (by omega) (ps := ps) (by omega), ni]
      rw [isCell_at (last_get m _)]
      simp only [Res.bindS_ok]
      rw [appCell_at (last_get m _) (by simp; unfold line; omega)]
      simp
  obtain ⟨_, _, rfl, o2, rfl, rfl⟩ := L
  have e : biD .sorted [.lst ((((holesT ps).map fun h => (cntT ps h : Int)).foldl addU []).map .int)] = some (.lst ((numsT ps).map .int)) := by
    show sortD _ = _
    unfold sortD
    rw [intsD_ints]
    simp only [sort_once]
    rfl
  simp [e, take_self]
/-! ### the least sums -/
def encO : Option Int → D
  | none => .non
  | some v => .int v
theorem idx_enc (F : List (Option Int)) (r : Nat) : idxD (.lst (F.map encO)) (.int (r : Int)) = (F[r]?).map encO := by
  show atI _ _ = _
  rw [atI_nat, List.getElem?_map]
theorem relax_len (md : Int) (r : Nat) (F : List (Option Int)) (x : Int) : (relax md r F x).length = F.length := by
  unfold relax
  split
  · split
    · simp
    · split <;> simp
    · rfl
  · rfl
theorem subCell_at {n j : Nat} {m : M} {xs : List D} {d : D} (h : m[n]? = some (.lst xs)) (hj : j < xs.length) : subCell (.c n) (.p (.int (j : Int))) (.p d) m = .ok () (m.set n (.lst (xs.set j d))) := by
  unfold subCell
  simp only [h]
  have : ixN xs.length (j : Int) = some j := by
    unfold ixN
    rw [if_pos (by omega), if_pos (by omega)]
    simp
  simp only [this]
theorem relax_step {Fn : Fns} {md x : Int} {r : Nat} {F : List (Option Int)} {a0 o3 o6 : Option W} (hmd : 0 < md) (hF : F.length = md.toNat) (hr : r < md.toNat) :
    ∃ o6', exs g.G Fn g.K [.set 6 (.ite (.cmp .is (.idx (.loc 2) (.loc 4)) .non) .non (.bin .add (.idx (.loc 2) (.loc 4)) (.loc 5))),
          .ite (.and [(.cmp .isnot (.loc 6) .non), (.or [(.cmp .is (.idx (.loc 2) (.bin .mod (.loc 6) (.loc 1))) .non), (.cmp .lt (.loc 6) (.idx (.loc 2) (.bin .mod (.loc 6) (.loc 1))))])]) [
            .sub 2 (.bin .mod (.loc 6) (.loc 1)) (.loc 6)] []] [a0, some (.p (.int md)), some (.c m.length), o3, some (.p (.int r)), some (.p (.int x)), o6] (m ++ [.lst (F.map encO)]) =
      .ok (.nx [a0, some (.p (.int md)), some (.c m.length), o3, some (.p (.int r)), some (.p (.int x)), o6']) (m ++ [.lst ((relax md r F x).map encO)]) := by
  have ea : asD (.c m.length) (m ++ [.lst (F.map encO)]) = some (.lst (F.map encO)) := by unfold asD; simp
  have hlt : r < F.length := by omega
  have e1 := idx_enc F r
  cases q : F[r]? with
  | none => rw [List.getElem?_eq_none_iff] at q; omega
  | some o =>
    rw [q] at e1
    cases o with
    | none =>
      have er : relax md r F x = F := by unfold relax; rw [q]
      rw [er]
      refine ⟨some (.p .non), ?_⟩
      simp [op2, ea, e1, encO, cmpW]
    | some v =>
      have hj : ((v + x) % md).toNat < F.length := by
        have h1 := Int.emod_nonneg (v + x) (show md ≠ 0 by omega)
        have h2 := Int.emod_lt_of_pos (v + x) hmd
        omega
      have hjn : (((v + x) % md).toNat : Int) = (v + x) % md := Int.toNat_of_nonneg (Int.emod_nonneg _ (by omega))
      have e2 := idx_enc F ((v + x) % md).toNat
      rw [hjn] at e2
      have em : opD .mod (.int (v + x)) (.int md) = some (.int ((v + x) % md)) := if_pos hmd
      refine ⟨some (.p (.int (v + x))), ?_⟩
      have ei : ixN F.length ((v + x) % md) = some ((v + x) % md).toNat := by
        unfold ixN
        rw [if_pos (by omega), if_pos (by omega)]
      cases q2 : F[((v + x) % md).toNat]? with
      | none => rw [List.getElem?_eq_none_iff] at q2; omega
      | some o2 =>
        rw [q2] at e2
        cases o2 with
        | none =>
          have er : relax md r F x = F.set ((v + x) % md).toNat (some (v + x)) := by unfold relax; rw [q]; simp only [q2]
          rw [er]
          simp [op2, ea, e1, encO, cmpW, em, e2, ei]
        | some u =>
          by_cases hlt2 : v + x < u
          · have er : relax md r F x = F.set ((v + x) % md).toNat (some (v + x)) := by unfold relax; rw [q]; simp only [q2]; rw [if_pos hlt2]
            rw [er]
            simp [op2, ea, e1, encO, cmpW, em, e2, ei, hlt2]
          · have er : relax md r F x = F := by unfold relax; rw [q]; simp only [q2]; rw [if_neg hlt2]
            rw [er]
            simp [op2, ea, e1, encO, cmpW, em, e2, hlt2]
theorem range_int (k : Int) (h0 : 0 ≤ k) (h1 : k < 1000) (m : M) : rngW [.p (.int k)] m = .ok ((List.range k.toNat).map fun (i : Nat) => D.int (i : Int)) m := rng1 (by omega) (by omega)
theorem least_ok (H : HasV g) (hn : 1 ≤ n) {md : Int} {ns : List Int} (h1 : 0 < md) (h2 : md < 1000) : run g.G g.T g.K n 41 [.p (.lst ((md :: ns).map .int))] m = .ok (.p (.lst ((least (md :: ns)).map encO))) m := by
  rw [run_ge H.ll hn]
  unfold runFd
  have e0 : idxD (.lst (.int md :: ns.map .int)) (.int 0) = some (.int md) := by
    show atI _ ((0 : Nat) : Int) = _
    rw [atI_nat]; rfl
  have e1 : opD .mul (.lst [.non]) (.int (md - 1)) = some (.lst (List.replicate (md.toNat - 1) .non)) := by
    show (if _ then _ else _) = _
    rw [if_pos]
    · have : (md - 1).toNat = md.toNat - 1 := by omega
      rw [this]; simp
    · simp only [Bool.and_eq_true, decide_eq_true_eq, List.length_singleton]
      exact ⟨⟨by omega, by omega⟩, by unfold line; omega⟩
  have e2 : catD (.lst [.int 0]) (.lst (List.replicate (md.toNat - 1) .non)) = some (.lst ((some 0 :: List.replicate (md.toNat - 1) none).map encO)) := by
    show (if _ then _ else _) = _
    rw [if_pos (by simp; unfold line; omega)]
    simp [encO]
  have R := fun m => range_int md (by omega) h2 m
  have l0 : (some 0 :: List.replicate (md.toNat - 1) (none : Option Int)).length = md.toNat := by simp; omega
  simp only [List.map_cons] 
  simp [fd_least_lengths_0b03, Fd.fill, e0, e1]
  rw [e2]
  simp only [oR_some, Res.bindS_ok, newCell_lst]
  simp [R]
  generalize hr : forGo _ _ _ _ = r
  have L : ∃ s' m', r = .ok (.nx s') m' ∧ ∃ o3 o4 o5 o6, s' = [some (.p (.lst (.int md :: ns.map .int))), some (.p (.int md)), some (.c m.length), o3, o4, o5, o6] ∧ m' = m ++ [.lst ((least (md :: ns)).map encO)] := by
    rw [← hr]
    refine forGo_to (α := Nat) (I := fun F s' m' => (∃ o3 o4 o5 o6, s' = [some (.p (.lst (.int md :: ns.map .int))), some (.p (.int md)), some (.c m.length), o3, o4, o5, o6]) ∧ m' = m ++ [.lst (F.map encO)] ∧ F.length = md.toNat) (fun i => D.int (i : Int)) (fun F _ => (List.range md.toNat).foldl (fun F r => (md :: ns).foldl (relax md r) F) F) (List.range md.toNat) (some 0 :: List.replicate (md.toNat - 1) none)
      ⟨⟨_, _, _, _, rfl⟩, by simp, l0⟩ (fun s' m' ⟨⟨o3, o4, o5, o6, e1⟩, e2, _⟩ => ⟨o3, o4, o5, o6, e1, e2⟩) fun t ht F s' m' ⟨⟨o3, o4, o5, o6, e1⟩, e2, hF⟩ => ?_
    subst e1; subst e2
    simp [setT, R]
    clear hr
    generalize hr2 : forGo _ _ _ _ = r2
    have L2 : ∃ s' m', r2 = .ok (.nx s') m' ∧ ((∃ o3 o4 o5 o6, s' = [some (.p (.lst (.int md :: ns.map .int))), some (.p (.int md)), some (.c m.length), o3, o4, o5, o6]) ∧ m' = m ++ [.lst (((List.range md.toNat).foldl (fun F r => (md :: ns).foldl (relax md r) F) F).map encO)] ∧ ((List.range md.toNat).foldl (fun F r => (md :: ns).foldl (relax md r) F) F).length = md.toNat) := by
      rw [← hr2]
      refine forGo_to (α := Nat) (I := fun F s' m' => (∃ o3 o4 o5 o6, s' = [some (.p (.lst (.int md :: ns.map .int))), some (.p (.int md)), some (.c m.length), o3, o4, o5, o6]) ∧ m' = m ++ [.lst (F.map encO)] ∧ F.length = md.toNat) (fun i => D.int (i : Int)) (fun F r => (md :: ns).foldl (relax md r) F) (List.range md.toNat) F
        ⟨⟨_, _, _, _, rfl⟩, rfl, hF⟩ (fun s' m' h => h) fun r hr F s' m' ⟨⟨o3, o4, o5, o6, e1⟩, e2, hF⟩ => ?_
      subst e1; subst e2
      clear hr2
      simp [setT, items]
      generalize hr3 : forGo _ _ _ _ = r3
      have L3 : ∃ s' m', r3 = .ok (.nx s') m' ∧ ((∃ o5 o6, s' = [some (.p (.lst (.int md :: ns.map .int))), some (.p (.int md)), some (.c m.length), o3, some (.p (.int r)), o5, o6]) ∧ m' = m ++ [.lst (((md :: ns).foldl (relax md r) F).map encO)] ∧ ((md :: ns).foldl (relax md r) F).length = md.toNat) := by
        rw [← hr3]
        refine forGo_to (α := Int) (I := fun F s' m' => (∃ o5 o6, s' = [some (.p (.lst (.int md :: ns.map .int))), some (.p (.int md)), some (.c m.length), o3, some (.p (.int r)), o5, o6]) ∧ m' = m ++ [.lst (F.map encO)] ∧ F.length = md.toNat) D.int (relax md r) (md :: ns) F
          ⟨⟨_, _, rfl⟩, rfl, hF⟩ (fun s' m' h => h) fun x hx F s' m' ⟨⟨o5, o6, e1⟩, e2, hF⟩ => ?_
        subst e1; subst e2
        clear hr3
        obtain ⟨o6', e⟩ := relax_step (g := g) (m := m) (Fn := run g.G g.T g.K (n - 1)) (x := x) (r := r) (F := F) (a0 := some (.p (.lst (.int md :: ns.map .int)))) (o3 := o3) (o6 := o6) h1 hF (List.mem_range.mp hr)
        refine ⟨[some (.p (.lst (.int md :: ns.map .int))), some (.p (.int md)), some (.c m.length), o3, some (.p (.int r)), some (.p (.int x)), o6'], m ++ [.lst ((relax md r F x).map encO)], ?_, ⟨_, _, rfl⟩, rfl, by rw [relax_len]; exact hF⟩
        simpa [setT] using e
      obtain ⟨_, _, rfl, ⟨o5, o6, rfl⟩, rfl, hl3⟩ := L3
      exact ⟨_, _, rfl, ⟨_, _, _, _, rfl⟩, rfl, hl3⟩
    obtain ⟨_, _, rfl, ⟨o3, o4, o5, o6, rfl⟩, rfl, hl2⟩ := L2
    exact ⟨_, _, rfl, ⟨_, _, _, _, rfl⟩, rfl, hl2⟩
  obtain ⟨_, _, rfl, o3, o4, o5, o6, rfl, rfl⟩ := L
  simp [take_self]
theorem is_sum_ok (H : HasV g) (hn : 2 ≤ n) {ns : List Int} (h : ∀ x ∈ ns, 1 ≤ x ∧ x ≤ 10) (t : Int) : run g.G g.T g.K n 50 [.p (.lst (ns.map .int)), .p (.int t)] m = .ok (.p (.bl (isSum ns t))) m := by
  rw [run_ge H.is (by omega)]
  unfold runFd
  cases ns with
  | nil =>
    have e : cmpB .eq (.lst []) (.lst []) = some (.bl true) := rfl
    simp [fd_is_sum_6d5f, Fd.fill, e, isSum, isSumL, take_self]
  | cons md ns =>
    have hm := h md List.mem_cons_self
    have e : cmpB .eq (.lst (.int md :: ns.map .int)) (.lst []) = some (.bl false) := by
      rw [eq_D ?_ rfl]
      · simp [eqv, eqvs]
      · have : ∀ n (ns : List Int), plains n (ns.map .int) = true := fun n ns => by
          induction ns with
          | nil => simp [plains]
          | cons p ps ih => simp [plains, ih, plain]
        have := this (deep - 1) (md :: ns)
        simpa [plain, deep] using this
    have e0 : idxD (.lst (.int md :: ns.map .int)) (.int 0) = some (.int md) := by
      show atI _ ((0 : Nat) : Int) = _
      rw [atI_nat]; rfl
    have el := least_ok (n := n - 1) (m := m) H (by omega) (md := md) (ns := ns) (by omega) (by omega)
    rw [List.map_cons] at el
    have em : opD .mod (.int t) (.int md) = some (.int (t % md)) := if_pos (by omega)
    have hj := Int.emod_nonneg t (show md ≠ 0 by omega)
    have e2 := idx_enc (least (md :: ns)) (t % md).toNat
    rw [Int.toNat_of_nonneg hj] at e2
    have hlen : (t % md).toNat < (least (md :: ns)).length := by
      have : ∀ (F : List (Option Int)) (l : List Int) (r : Nat), (l.foldl (relax md r) F).length = F.length := fun F l r => by
        induction l generalizing F with
        | nil => rfl
        | cons x l ih => rw [List.foldl_cons, ih, relax_len]
      have h2 : ∀ (l : List Nat) (F : List (Option Int)), (l.foldl (fun F r => (md :: ns).foldl (relax md r) F) F).length = F.length := fun l => by
        induction l with
        | nil => intro F; rfl
        | cons x l ih => intro F; rw [List.foldl_cons, ih, this]
      have h3 : ∀ (l : List Nat) (F : List (Option Int)), (l.foldl (fun F _ => (List.range md.toNat).foldl (fun F r => (md :: ns).foldl (relax md r) F) F) F).length = F.length := fun l => by
        induction l with
        | nil => intro F; rfl
        | cons x l ih => intro F; rw [List.foldl_cons, ih, h2]
      have h4 : (least (md :: ns)).length = md.toNat := by
        show (leastF md (md :: ns)).length = _
        unfold leastF
        rw [h3]
        simp; omega
      have := Int.emod_lt_of_pos t (show 0 < md by omega)
      omega
    have hs : isSum (md :: ns) t = (match (least (md :: ns))[(t % md).toNat]? with | some (some v) => decide (v ≤ t) | _ => false) := rfl
    cases q : (least (md :: ns))[(t % md).toNat]? with
    | none => rw [List.getElem?_eq_none_iff] at q; omega
    | some o =>
      rw [q] at e2 hs
      cases o with
      | none => simp [fd_is_sum_6d5f, Fd.fill, e, el, e0, em, e2, encO, hs, take_self]
      | some v => simp [fd_is_sum_6d5f, Fd.fill, e, el, e0, em, e2, encO, hs, take_self]
end
end Oh

set_option Elab.async false
set_option linter.all false
set_option maxRecDepth 100000
set_option maxHeartbeats 400000
set_option autoImplicit false
/-! LbX: the law's table of sums; which numbers a row has -/
namespace Oh
section
variable {g : Gx} {n : Nat} {m : M}
theorem rngT {i j : Int} {m : M} (h1 : -(2 ^ 60) ≤ i) (h2 : i < 2 ^ 60) (h3 : -(2 ^ 60) ≤ j) (h4 : j < 2 ^ 60) : rngW [.p (.int i), .p (.int j)] m = .ok ((List.range (j - i).toNat).map fun (k : Nat) => D.int (i + k)) m := by
  show ofO (rngI i j) m = _
  unfold rngI
  rw [if_pos (by simp only [Bool.and_eq_true, decide_eq_true_eq]; exact ⟨⟨⟨h1, h2⟩, h3⟩, h4⟩)]
  rfl
/-! ### words -/
def unit1 (k : Nat) : Tx := [48] ++ List.replicate k 49 ++ [48]
def wordJ (j many : Nat) : Tx := ((List.range many).map fun i => unit1 (j * many + 1 + i)).flatten
def hix (a : List Tx) (p : Tx) : Nat := (findD (.str p) ((holesT a).map .str)).getD 0
def longT (a : List Tx) (many : Nat) : Tx := (a.map fun p => wordJ (hix a p) many).flatten
/-! ### the law's table of sums -/
theorem idx_bls (F : List Bool) (r : Nat) : idxD (.lst (F.map .bl)) (.int (r : Int)) = (F[r]?).map .bl := by
  show atI _ _ = _
  rw [atI_nat, List.getElem?_map]
theorem sumStep_len (ns : List Int) (F : List Bool) (i : Nat) : (sumStep ns F i).length = F.length := by unfold sumStep; simp
theorem lsums_ok (H : HasVl g) (hn : 1 ≤ n) {ns : List Int} (h : ∀ x ∈ ns, 1 ≤ x ∧ x ≤ 10) (hl : ns.length ≤ 100) {top : Nat} (ht : top ≤ 200) : run g.G g.T g.K n 46 [.p (.lst (ns.map .int)), .p (.int top)] m = .ok (.p (.lst ((sumsT ns top).map .bl))) m := by
  rw [run_ge H.ls hn]
  unfold runFd
  have e1 : opD .mul (.lst [.bl false]) (.int (top : Int)) = some (.lst (List.replicate top (.bl false))) := by
    show (if _ then _ else _) = _
    rw [if_pos]
    · simp
    · simp only [Bool.and_eq_true, decide_eq_true_eq, List.length_singleton, Int.toNat_natCast]
      exact ⟨⟨by omega, by omega⟩, by unfold line; omega⟩
  have e2 : catD (.lst [.bl true]) (.lst (List.replicate top (.bl false))) = some (.lst ((true :: List.replicate top false).map .bl)) := by
    show (if _ then _ else _) = _
    rw [if_pos (by simp; unfold line; omega)]
    simp
  have R : ∀ m, rngW [.p (.int 1), .p (.int ((top : Int) + 1))] m = .ok ((List.range top).map fun (i : Nat) => D.int (1 + (i : Int))) m := fun m => by
    have := rngT (i := 1) (j := (top : Int) + 1) (m := m) (by omega) (by omega) (by omega) (by omega)
    rw [show ((top : Int) + 1 - 1).toNat = top by omega] at this
    exact this
  simp -implicitDefEqProofs [fd_law_sums_0c3d, Fd.fill, e1]
  rw [e2]
  simp only [oR_some, Res.bindS_ok, newCell_lst]
  simp -implicitDefEqProofs [R]
  generalize hr : forGo _ _ _ _ = r
  have L : ∃ s' m', r = .ok (.nx s') m' ∧ ∃ o3 o4, s' = [some (.p (.lst (ns.map .int))), some (.p (.int top)), some (.c m.length), o3, o4] ∧ m' = m ++ [.lst ((sumsT ns top).map .bl)] := by
    rw [← hr]
    refine forGo_to (α := Nat) (I := fun F s' m' => (∃ o3 o4, s' = [some (.p (.lst (ns.map .int))), some (.p (.int top)), some (.c m.length), o3, o4]) ∧ m' = m ++ [.lst (F.map .bl)] ∧ F.length = top + 1) (fun i => D.int (1 + (i : Int))) (sumStep ns) (List.range top) (true :: List.replicate top false)
      ⟨⟨_, _, rfl⟩, by simp, by simp⟩ (fun s' m' ⟨⟨o3, o4, e1⟩, e2, _⟩ => ⟨o3, o4, e1, e2⟩) fun i hi F s' m' ⟨⟨o3, o4, e1⟩, e2, hF⟩ => ?_
    subst e1; subst e2
    clear hr
    have hit := List.mem_range.mp hi
    have ea : asD (.c m.length) (m ++ [.lst (F.map .bl)]) = some (.lst (F.map .bl)) := by unfold asD; simp
    refine ⟨[some (.p (.lst (ns.map .int))), some (.p (.int top)), some (.c m.length), some (.p (.int (1 + i))), o4], m ++ [.lst ((sumStep ns F i).map .bl)], ?_, ⟨_, _, rfl⟩, rfl, by rw [sumStep_len]; exact hF⟩
    simp -implicitDefEqProofs [setT, items]
    rw [lcGo_filter (fun x => .int x) (fun x => .bl ((F[(((i + 1 : Nat) : Int) - x).toNat]?).getD false)) (fun x => decide (x ≤ (i + 1 : Nat))) ns fun x hx => ?_]
    · have hlf := List.length_filter_le (fun x => decide (x ≤ ((i + 1 : Nat) : Int))) ns
      have le : ((ns.filter fun x => decide (x ≤ ((i + 1 : Nat) : Int))).map fun x => D.bl ((F[(((i + 1 : Nat) : Int) - x).toNat]?).getD false)).length ≤ line := by simp only [List.length_map]; unfold line; omega
      have ab := any_bools (bools_map (fun x : Int => (F[(((i + 1 : Nat) : Int) - x).toNat]?).getD false) (ns.filter fun x => decide (x ≤ ((i + 1 : Nat) : Int))))
      have ei : ixN F.length (1 + (i : Int)) = some (i + 1) := by
        unfold ixN
        rw [if_pos (by omega), if_pos (by omega)]
        congr 1; omega
      have es : ((ns.filter fun x => decide (x ≤ ((i + 1 : Nat) : Int))).map fun x : Int => (F[(((i + 1 : Nat) : Int) - x).toNat]?).getD false).any id = ns.any fun x => decide (x ≤ ((i + 1 : Nat) : Int)) && (F[(((i + 1 : Nat) : Int) - x).toNat]?).getD false := by
        rw [List.any_map, List.any_filter]
        rfl
      simp only [noX_ok, Res.bind_ok, lcList_le le]
      rw [es] at ab
      rw [show (((i + 1 : Nat) : Int)) = (i : Int) + 1 by omega] at ab
      simp -implicitDefEqProofs [ab, ei, sumStep]
    · have hx1 := h x hx
      by_cases hle : x ≤ ((i + 1 : Nat) : Int)
      · have hk : (((((i + 1 : Nat) : Int) - x).toNat : Nat) : Int) = 1 + i - x := by omega
        have hkl : (((i + 1 : Nat) : Int) - x).toNat < F.length := by omega
        have e5 := idx_bls F (((i + 1 : Nat) : Int) - x).toNat
        rw [hk, List.getElem?_eq_getElem hkl] at e5
        have e6 : (F[(((i + 1 : Nat) : Int) - x).toNat]?).getD false = F[(((i + 1 : Nat) : Int) - x).toNat] := by rw [List.getElem?_eq_getElem hkl]; rfl
        have hle2 : x ≤ 1 + (i : Int) := by omega
        simp only [hle, decide_true, if_true, e6]
        simp -implicitDefEqProofs [lcTurn, setT, lcEnd, op2, ea, e5, hle2]
      · have hle2 : ¬ x ≤ 1 + (i : Int) := by omega
        simp only [hle, decide_false]
        simp -implicitDefEqProofs [lcTurn, setT, lcEnd, hle2]
  obtain ⟨_, _, rfl, o3, o4, rfl, rfl⟩ := L
  simp [take_self]
end
/-! ### which numbers a row has -/
theorem rises_in : ∀ (k lo s : Nat) (l : List Int), l.length ≤ k → l.Pairwise (· < ·) → (∀ x ∈ l, (lo : Int) < x) → l.sum ≤ s → l ∈ rises k lo s
  | 0, lo, s, l, hl, _, _, _ => by
    have : l = [] := List.eq_nil_of_length_eq_zero (by omega)
    subst this
    simp [rises]
  | k + 1, lo, s, [], _, _, _, _ => by simp [rises]
  | k + 1, lo, s, x :: l, hl, hp, hlo, hs => by
    rw [List.pairwise_cons] at hp
    have hx := hlo x List.mem_cons_self
    rw [List.sum_cons] at hs
    have hpos : ∀ y ∈ l, 0 ≤ y := fun y hy => by have := hp.1 y hy; omega
    have h0 : ∀ (l : List Int), (∀ y ∈ l, 0 ≤ y) → 0 ≤ l.sum := fun l => by
      induction l with
      | nil => intro _; simp
      | cons a l ih =>
        intro h
        have h1 := h a List.mem_cons_self
        have h2 := ih fun y hy => h y (List.mem_cons_of_mem _ hy)
        rw [List.sum_cons]; omega
    have hsum := h0 l hpos
    unfold rises
    refine List.mem_cons_of_mem _ (List.mem_flatMap.mpr ⟨x.toNat - 1, List.mem_range.mpr (by omega), ?_⟩)
    rw [if_pos (by omega)]
    refine List.mem_map.mpr ⟨l, rises_in k (x.toNat - 1 + 1) (s - (x.toNat - 1 + 1)) l (by simpa using hl) hp.2 (fun y hy => by have := hp.1 y hy; omega) (by omega), ?_⟩
    congr 1
    omega
theorem cnt_pos {ps : List Tx} {h : Tx} (hm : h ∈ ps) : 1 ≤ cntT ps h := by
  unfold cntT
  exact List.length_pos_iff.mpr fun e => by
    have : h ∈ ps.filter fun p => p == h := List.mem_filter.mpr ⟨hm, by simp⟩
    rw [e] at this; cases this
theorem filter_two (h : Tx) : ∀ ps : List Tx, (ps.filter fun p => !(p == h)).length + cntT ps h = ps.length
  | [] => rfl
  | a :: ps => by
    have ih := filter_two h ps
    unfold cntT at ih ⊢
    rw [List.filter_cons, List.filter_cons]
    cases q : (a == h) <;> simp only [Bool.not_true, Bool.not_false, Bool.false_eq_true, if_true, if_false, List.length_cons] <;> omega
theorem cnt_sum : ∀ (l : List Int) (ps : List Tx), l.Nodup → (∀ x ∈ l, ∃ h ∈ ps, x = (cntT ps h : Int)) → l.sum ≤ ps.length
  | [], ps, _, _ => by simp
  | x :: l, ps, nd, hx => by
    rw [List.nodup_cons] at nd
    obtain ⟨h, hm, rfl⟩ := hx x List.mem_cons_self
    have ih := cnt_sum l (ps.filter fun p => !(p == h)) nd.2 fun y hy => by
      obtain ⟨h2, hm2, e⟩ := hx y (List.mem_cons_of_mem _ hy)
      have hne : h2 ≠ h := fun q => by subst q; subst e; exact nd.1 hy
      refine ⟨h2, List.mem_filter.mpr ⟨hm2, by simpa using hne⟩, ?_⟩
      rw [e]
      unfold cntT
      rw [List.filter_filter]
      refine congrArg (fun l : List Tx => (l.length : Int)) (List.filter_congr fun p _ => ?_)
      by_cases q : p = h2
      · subst q; simp [hne]
      · simp [q]
    have e : (ps.filter fun p => !(p == h)).length + cntT ps h = ps.length := by
      exact filter_two h ps
    rw [List.sum_cons]
    omega
theorem sum_mem : ∀ (l : List Int), (∀ y ∈ l, 0 ≤ y) → ∀ x ∈ l, x ≤ l.sum
  | a :: l, h, x, hx => by
    have h1 := h a List.mem_cons_self
    have ih := sum_mem l fun y hy => h y (List.mem_cons_of_mem _ hy)
    have h0 : 0 ≤ l.sum := by
      cases l with
      | nil => simp
      | cons b l => have := ih b List.mem_cons_self; have := h b (by simp); omega
    rw [List.sum_cons]
    rcases List.mem_cons.mp hx with rfl | hx
    · omega
    · have := ih x hx; omega
theorem len_sum : ∀ (l : List Int), (∀ y ∈ l, 1 ≤ y) → (l.length : Int) ≤ l.sum
  | [], _ => by simp
  | a :: l, h => by
    have h1 := h a List.mem_cons_self
    have ih := len_sum l fun y hy => h y (List.mem_cons_of_mem _ hy)
    rw [List.sum_cons, List.length_cons]; omega
/-- a row of at most ten places has numbers of the table -/
theorem nums_tbl {ps : List Tx} (hl : ps.length ≤ 10) : (∀ x ∈ numsT ps, 1 ≤ x ∧ x ≤ 10) ∧ (numsT ps).length ≤ 10 ∧ ∃ p ∈ tbl, p.1 = numsT ps ∧ least (numsT ps) = p.2.1 ∧ sumsT (numsT ps) 30 = p.2.2 := by
  have hm : ∀ x ∈ numsT ps, ∃ h ∈ ps, x = (cntT ps h : Int) := fun x hx => by
    unfold numsT at hx
    rw [setI_mem] at hx
    obtain ⟨h, hh, e⟩ := List.mem_map.mp hx
    exact ⟨h, (holesT_mem hh).1, e.symm⟩
  have hpw : (numsT ps).Pairwise (· < ·) := setI_pw _
  have hs := cnt_sum (numsT ps) ps (hpw.imp fun h => Int.ne_of_lt h) hm
  have h1 : ∀ x ∈ numsT ps, 1 ≤ x := fun x hx => by
    obtain ⟨h, hh, rfl⟩ := hm x hx
    have := cnt_pos hh
    omega
  have h2 := sum_mem (numsT ps) (fun y hy => by have := h1 y hy; omega)
  have h3 := len_sum (numsT ps) h1
  refine ⟨fun x hx => ⟨h1 x hx, by have := h2 x hx; omega⟩, by omega, ?_⟩
  have hin := rises_in 10 0 10 (numsT ps) (by omega) hpw (fun x hx => by have := h1 x hx; omega) (by omega)
  have ha := tbl_all
  rw [List.all_eq_true] at ha
  have hb := ha _ hin
  rw [List.any_eq_true] at hb
  obtain ⟨p, hp, e⟩ := hb
  have e : p.1 = numsT ps := eq_of_beq e
  have hl := tbl_least
  have hsu := tbl_sums
  rw [List.all_eq_true] at hl hsu
  exact ⟨p, hp, e, by rw [← e]; exact eq_of_beq (hl p hp), by rw [← e]; exact eq_of_beq (hsu p hp)⟩
theorem isSum_tbl {ps : List Tx} (hl : ps.length ≤ 10) {k : Nat} (hk : k < 31) : isSum (numsT ps) k = ((sumsT (numsT ps) 30)[k]?).getD false := by
  obtain ⟨_, _, p, hp, e1, e2, e3⟩ := nums_tbl hl
  have h := tbl_is
  rw [List.all_eq_true] at h
  have h2 := h p hp
  rw [List.all_eq_true] at h2
  have h3 := h2 k (List.mem_range.mpr hk)
  unfold isSum
  rw [e2, e3, ← e1]
  exact eq_of_beq h3
theorem due_at {p q : List Int × List (Option Int) × List Bool} (hp : p ∈ tbl) (hq : q ∈ tbl) : dueT p.2.2 q.2.2 = minO (p.1.filter fun x => !(q.2.2[x.toNat]?).getD false) := by
  have h := tbl_due
  rw [List.all_eq_true] at h
  have h3 := h p hp
  rw [List.all_eq_true] at h3
  exact eq_of_beq (h3 q hq)
theorem due_tbl {ps qs : List Tx} (h1 : ps.length ≤ 10) (h2 : qs.length ≤ 10) : dueT (sumsT (numsT ps) 30) (sumsT (numsT qs) 30) = minO ((numsT ps).filter fun x => !isSum (numsT qs) x) := by
  obtain ⟨hx, _, p, hp, e1, _, e3⟩ := nums_tbl h1
  obtain ⟨_, _, q, hq, f1, _, f3⟩ := nums_tbl h2
  have hi := fun (k : Nat) (hk : k < 31) => isSum_tbl h2 hk
  rw [f3] at hi
  rw [e3, f3, due_at hp hq, e1]
  refine congrArg minO (List.filter_congr fun x hx2 => ?_)
  have hb := hx x hx2
  have := hi x.toNat (by omega)
  rw [Int.toNat_of_nonneg (by omega)] at this
  rw [this]
end Oh

set_option Elab.async false
set_option linter.all false
set_option maxRecDepth 100000
set_option maxHeartbeats 4000000
set_option autoImplicit false
/-! LbF: rows for new cells, frozen ones, those that are looked at, lists of cells -/
namespace Oh
section
variable {G : Nat → Option D} {Fn : Fns} {K : Nat}
@[simp] theorem ev_lrng (l : List E) (s : Env) (m : M) : ev G Fn (.lrng l) s m = (evs G Fn l s m).bind fun ws m1 => opn lrngD ws m1 := by conv => lhs; unfold ev
@[simp] theorem ev_bor (a : E) (s : Env) (m : M) : ev G Fn (.bor a) s m = borR (ev G Fn a (snap s m) []) m := by conv => lhs; unfold ev
@[simp] theorem ev_frc (a : E) (s : Env) (m : M) : ev G Fn (.frc a) s m = (ev G Fn a s m).bind fun w m1 => leave m.length w m1 := by conv => lhs; unfold ev
@[simp] theorem ev_srt (a : E) (s : Env) (m : M) : ev G Fn (.srt a) s m = (ev G Fn a s m).bind fun w m1 => op1 sortLD w m1 := by conv => lhs; unfold ev
@[simp] theorem ev_wls (l : List E) (s : Env) (m : M) : ev G Fn (.wls l) s m = (evs G Fn l s m).bind newWl := by conv => lhs; unfold ev
@[simp] theorem ev_mkc (a : E) (s : Env) (m : M) : ev G Fn (.mkc a) s m = (ev G Fn a s m).bind newW := by conv => lhs; unfold ev
@[simp] theorem ev_wat (a : E) (k : Nat) (s : Env) (m : M) : ev G Fn (.wat a k) s m = (ev G Fn a s m).bind (watR k) := by conv => lhs; unfold ev
@[simp] theorem ev_ogi (a i : E) (s : Env) (m : M) : ev G Fn (.ogi a i) s m = (ev G Fn a s m).bind fun w1 m1 => (ev G Fn i s m1).bind fun w2 m2 => ogiW G Fn w1 w2 m2 := by conv => lhs; unfold ev
@[simp] theorem ex_parl (i j : Nat) (a : E) (s : Env) (m : M) : ex G Fn K (.parl i j a) s m = (ev G Fn a s m).bindS s fun w m1 => newCell j (.p (.lst [])) (s.set i (some w)) m1 := by conv => lhs; unfold ex
@[simp] theorem ex_retl (i : Nat) (s : Env) (m : M) : ex G Fn K (.retl i) s m = retlR s[i]? m := by conv => lhs; unfold ex
@[simp] theorem ex_appx (o e : E) (s : Env) (m : M) : ex G Fn K (.appx o e) s m = (ev G Fn o s m).bindS s fun o m1 => (isCell o m1).bindS s fun _ m1 => (ev G Fn e s m1).bindS s fun v m2 => (appCell o v m2).bindS s fun _ m3 => .ok (.nx s) m3 := by conv => lhs; unfold ex
@[simp] theorem ex_clrx (o : E) (s : Env) (m : M) : ex G Fn K (.clrx o) s m = (ev G Fn o s m).bindS s fun o m1 => (clrCell o m1).bindS s fun _ m2 => .ok (.nx s) m2 := by conv => lhs; unfold ex
@[simp] theorem ex_insx (i : Nat) (k v : E) (s : Env) (m : M) : ex G Fn K (.insx i k v) s m = (ev G Fn (.loc i) s m).bindS s fun o m1 => (isCell o m1).bindS s fun _ m1 => (ev G Fn k s m1).bindS s fun k m2 => (ev G Fn v s m2).bindS s fun v m3 => (insCell o k v m3).bindS s fun _ m4 => .ok (.nx s) m4 := by conv => lhs; unfold ex
@[simp] theorem thenS_rl (n : Nat) (m : M) (f : Env → M → Res Fl) : thenS (.ok (.rl n) m) f = .ok (.rl n) m := rfl
theorem retlR_at {n : Nat} {m : M} {xs : List D} (h : m[n]? = some (.lst xs)) : retlR (some (some (.c n))) m = .ok (.rl n) m := by unfold retlR; simp only [h]
theorem finish_rl {k n : Nat} {m : M} {xs : List D} (hk : k ≤ n) (h : m[n]? = some (.lst xs)) : finish k (.ok (.rl n) m) = .ok (.c k) (m.take k ++ [.lst xs]) := by
  unfold finish
  simp only [h, if_pos hk]
theorem snapW_c {n : Nat} {m : M} {xs : List D} (h : m[n]? = some (.lst xs)) : snapW m (.c n) = some (.p (.lst xs)) := by unfold snapW wlOf asD; simp only [h, Option.map_some]
theorem snapW_wl {n : Nat} {m : M} {ws : List W} {ds : List D} (h : m[n]? = some (.wl ws)) (h2 : toDs ws m = some ds) : snapW m (.c n) = some (.p (.lst ds)) := by unfold snapW wlOf; simp only [h, h2, Option.map_some]
@[simp] theorem snapW_p (m : M) (d : D) : snapW m (.p d) = some (.p d) := rfl
theorem borR_bl (b : Bool) (m m1 : M) : borR (.ok (.p (.bl b)) m1) m = .ok (.p (.bl b)) m := rfl
theorem leave_new {m : M} {xs : List D} : leave m.length (.c m.length) (m ++ [.lst xs]) = .ok (.p (.lst xs)) m := by
  unfold leave
  simp
theorem asD_lst {n : Nat} {m : M} {xs : List D} (h : m[n]? = some (.lst xs)) : asD (.c n) m = some (.lst xs) := by unfold asD; simp only [h]
theorem watR_at {n k : Nat} {m : M} {ws : List W} {w : W} (h : m[n]? = some (.wl ws)) (hk : ws[k]? = some w) : watR k (.c n) m = .ok w m := by unfold watR wlOf; simp only [h, hk]
theorem clrCell_at {n : Nat} {m : M} {xs : List D} (h : m[n]? = some (.lst xs)) : clrCell (.c n) m = .ok () (m.set n (.lst [])) := by unfold clrCell; simp only [h]
theorem insCell_at {n : Nat} {m : M} {xs : List D} {i : Int} {d : D} (h : m[n]? = some (.lst xs)) (h0 : 0 ≤ i) (h1 : i ≤ xs.length) (hl : xs.length < line) : insCell (.c n) (.p (.int i)) (.p d) m = .ok () (m.set n (.lst (xs.take i.toNat ++ d :: xs.drop i.toNat))) := by
  unfold insCell
  simp only [h]
  rw [if_pos (by simp only [Bool.and_eq_true, decide_eq_true_eq]; exact ⟨⟨h0, h1⟩, hl⟩)]
end
end Oh

set_option Elab.async false
set_option linter.all false
set_option maxRecDepth 100000
set_option maxHeartbeats 4000000
set_option autoImplicit false
/-! LbK: things in a drawn order -/
namespace Oh
def fd_law_mixed_3d7f : Fd := ⟨4, 2, [], [
    .setc 2 (.lst []),
    .for_ [3] (.ex (.loc 1)) [
      .insx 2 (.call 4 [(.loc 0), (.bin .add (.bi .len [(.loc 2)]) (.int 1))]) (.loc 3)],
    .ret (.loc 2)], []⟩
section
variable {g : Gx} {n c : Nat} {m : M}
theorem Bag.set {k : Nat} {x : C} (h : Bag m c) (hk : k ≠ c) : Bag (m.set k x) c := by
  obtain ⟨cs, i, r, sd, b0, b1⟩ := h
  exact ⟨cs, i, r, sd, b0, by rw [List.getElem?_set_ne hk]; exact b1⟩
theorem Bag.app {x : List C} (h : Bag m c) : Bag (m ++ x) c := by
  obtain ⟨cs, i, r, sd, b0, b1⟩ := h
  exact ⟨cs, i, r, sd, b0, by rw [List.getElem?_append_left (List.getElem?_eq_some_iff.mp b1).1]; exact b1⟩
theorem Bag.lt (h : Bag m c) : c < m.length := by
  obtain ⟨cs, i, r, sd, b0, b1⟩ := h
  exact (List.getElem?_eq_some_iff.mp b1).1
theorem Bag.take {k : Nat} (h : Bag m c) (hk : c < k) : Bag (m.take k) c := by
  obtain ⟨cs, i, r, sd, b0, b1⟩ := h
  exact ⟨cs, i, r, sd, b0, by rw [List.getElem?_take_of_lt hk]; exact b1⟩
theorem len_cell {k : Nat} {xs : List D} (h : m[k]? = some (.lst xs)) : opn (biD .len) [.c k] m = .ok (.p (.int xs.length)) m := by
  unfold opn toDs toDs asD
  simp only [h, Option.bind_some, Option.map_some]
  rfl
theorem mix_loop {F : D → Env → M → Res Fl} {a b : Option W} {k : Nat}
    (hF : ∀ (x : D) (o : Option W) (ys : List D) (m' : M), ys.length ≤ 1000 → Bag m' c → m'.length = k + 1 → m'[k]? = some (.lst ys) →
      ∃ ys' m'', F x [a, b, some (.c k), o] m' = .ok (.nx [a, b, some (.c k), some (.p x)]) m'' ∧ ys'.Perm (x :: ys) ∧ Bag m'' c ∧ m''.length = k + 1 ∧ m''[k]? = some (.lst ys') ∧ ∀ j, j ≠ c → j < k → m''[j]? = m'[j]?) :
    ∀ (xs ys : List D) (o : Option W) (m' : M), ys.length + xs.length ≤ 1000 → Bag m' c → m'.length = k + 1 → m'[k]? = some (.lst ys) →
      ∃ ys' o' m'', forGo F xs [a, b, some (.c k), o] m' = .ok (.nx [a, b, some (.c k), o']) m'' ∧ ys'.Perm (xs ++ ys) ∧ Bag m'' c ∧ m''.length = k + 1 ∧ m''[k]? = some (.lst ys') ∧ ∀ j, j ≠ c → j < k → m''[j]? = m'[j]?
  | [], ys, o, m', _, B, h1, h2 => ⟨ys, o, m', rfl, .refl _, B, h1, h2, fun _ _ _ => rfl⟩
  | x :: xs, ys, o, m', hl, B, h1, h2 => by
    simp only [List.length_cons] at hl
    obtain ⟨ys1, m1, e1, p1, B1, l1, c1, s1⟩ := hF x o ys m' (by omega) B h1 h2
    have hl1 := p1.length_eq
    simp only [List.length_cons] at hl1
    obtain ⟨ys2, o2, m2, e2, p2, B2, l2, c2, s2⟩ := mix_loop hF xs ys1 (some (.p x)) m1 (by omega) B1 l1 c1
    refine ⟨ys2, o2, m2, ?_, ?_, B2, l2, c2, fun j hj hk => (s2 j hj hk).trans (s1 j hj hk)⟩
    · unfold forGo
      rw [e1]
      exact e2
    · exact p2.trans ((List.Perm.append_left xs p1).trans List.perm_middle)
theorem take_drop_perm {α : Type} (x : α) (k : Nat) (l : List α) : (l.take k ++ x :: l.drop k).Perm (x :: l) := by
  have := List.perm_middle (a := x) (l₁ := l.take k) (l₂ := l.drop k)
  rwa [List.take_append_drop] at this
theorem mixed_ok (H : HasD g) (hm : Has g 54 fd_law_mixed_3d7f) (hn : 2 ≤ n) (B : Bag m c) {xs : List D} (hl : xs.length ≤ 1000) :
    (run g.G g.T g.K n 54 [.c c, .p (.lst xs)] m).Ok fun w m' => ∃ ys, w = .p (.lst ys) ∧ ys.Perm xs ∧ Bag m' c ∧ Only c m m' := by
  rw [run_ge hm (by omega)]
  unfold runFd
  have hc := B.lt
  simp -implicitDefEqProofs [fd_law_mixed_3d7f, Fd.fill, items]
  generalize hr : forGo _ _ _ _ = r
  have L : ∃ ys' o' m'', r = .ok (.nx [some (.c c), some (.p (.lst xs)), some (.c m.length), o']) m'' ∧ ys'.Perm (xs ++ []) ∧ Bag m'' c ∧ m''.length = m.length + 1 ∧ m''[m.length]? = some (.lst ys') ∧ ∀ j, j ≠ c → j < m.length → m''[j]? = (m ++ [C.lst []])[j]? := by
    rw [← hr]
    refine mix_loop (fun x o ys m' hy B' h1 h2 => ?_) xs [] none (m ++ [.lst []]) (by simpa using hl) B.app (by rw [List.length_append]; rfl) (last_get m _)
    obtain ⟨w, m3, e3, d, rfl, d0, d1, B3, O3⟩ := (H.d (n := n - 1) (by omega) B' (many := (ys.length : Int) + 1) (by omega) (by omega)).ex
    have h3 : m3[m.length]? = some (.lst ys) := by rw [O3.2 _ (by omega)]; exact h2
    have ins := insCell_at (d := x) (i := d) h3 d0 (by omega) (by unfold line; omega)
    have ic := isCell_at h2
    have ln := len_cell h2
    have ad : opD .add (.int (ys.length : Int)) (.int 1) = some (.int ((ys.length : Int) + 1)) := rfl
    refine ⟨_, m3.set m.length (.lst (ys.take d.toNat ++ x :: ys.drop d.toNat)), ?_, take_drop_perm x d.toNat ys, B3.set (by omega), by rw [List.length_set, O3.1]; exact h1, List.getElem?_set_self (by rw [O3.1]; omega), fun j hj hk => ?_⟩
    · simp -implicitDefEqProofs [setT, ic, h2, ad, e3, ins]
    · rw [List.getElem?_set_ne (by omega), O3.2 j hj]
  obtain ⟨ys, o', m2, rfl, p, B2, l2, c2, s2⟩ := L
  have lv : finish m.length (.ok (.rt (.c m.length)) m2) = .ok (.p (.lst ys)) (m2.take m.length) := by
    unfold finish leave
    simp [c2]
  simp -implicitDefEqProofs
  rw [lv]
  refine ⟨ys, rfl, by simpa using p, B2.take hc, ⟨by rw [List.length_take, l2]; omega, fun j hj => ?_⟩⟩
  by_cases hjm : j < m.length
  · rw [List.getElem?_take_of_lt hjm, s2 j hj hjm, List.getElem?_append_left hjm]
  · rw [List.getElem?_eq_none (by rw [List.length_take]; omega), List.getElem?_eq_none (by omega)]
end
end Oh

set_option Elab.async false
set_option linter.all false
set_option maxRecDepth 100000
set_option maxHeartbeats 0
namespace K20
open Oh
def fd_counts_807e : Fd := ⟨3, 1, [], [
    .setc 1 (.lst []),
    .for_ [2] (.ex (.mcall (.loc 0) 16 [] [] [])) [
      .ite (.cmp .notin (.mcall (.loc 0) 17 [(.loc 2)] [] []) (.loc 1)) [
        .app 1 (.mcall (.loc 0) 17 [(.loc 2)] [] [])] []],
    .retc (.srt (.loc 1))], []⟩
def fd_needed_counts_4b1d : Fd := ⟨3, 1, [], [
    .setc 1 (.lst []),
    .for_ [2] (.ex (.frc (.call 49 [(.loc 0)]))) [
      .ite (.not (.bor (.call 50 [(.loc 1), (.loc 2)]))) [
        .app 1 (.loc 2)] []],
    .retl 1], []⟩
def st1_1 : S := .set 4 (.call 6 [(.loc 1), (.lst [(.call 19 [(.loc 1), (.loc 3), (.int 0), (.int 10)]), (.bin .add (.bin .mul (.lst [(.str [112])]) (.int 5)) (.bin .mul (.lst [(.str [113])]) (.call 4 [(.loc 1), (.int 6)]))), (.bin .add (.bin .mul (.lst [(.idx (.loc 3) (.int 0))]) (.int 4)) (.bin .mul (.lst [(.idx (.loc 3) (.int 1))]) (.int 6))), (.bin .add (.bin .add (.bin .mul (.lst [(.idx (.loc 3) (.int 0))]) (.int 2)) (.bin .mul (.lst [(.idx (.loc 3) (.int 1))]) (.int 3))) (.bin .mul (.lst [(.idx (.loc 3) (.int 2))]) (.int 5)))])])
def st1_2 : S := .set 5 (.make 22 [(.call 54 [(.loc 1), (.loc 4)])] [] [])
def st1_4 : S := .set 7 (.lc (.idx (.loc 6) (.loc 10)) [10] (.rng [(.bi .len [(.loc 6)])]) [(.not (.idx (.call 46 [(.slc (.loc 6) none (some (.loc 10))), (.idx (.loc 6) (.loc 10))]) (.idx (.loc 6) (.loc 10))))])
def st1_5_0 : S := .set 9 (.wls [(.call 49 [(.loc 5)]), (.call 55 [(.loc 5)]), (.callk 49 [] [(.loc 5)] [.kw 0]), (.callk 55 [] [(.loc 5)] [.kw 0])])
def st1_5_1 : S := .ite (.not (.bor (.call 5 [(.loc 9), (.lst [(.loc 6), (.loc 7), (.loc 6), (.loc 7)])]))) [
          .ret (.bl false)] []
def st1_5 : S := .for_ [8] (.rng [(.int 2)]) [
        st1_5_0,
        st1_5_1,
        .appx (.wat (.loc 9) 0) (.int 1),
        .clrx (.wat (.loc 9) 1)]
def st1 : S := .for_ [2] (.rng [(.int 7)]) [
      .set 3 (.call 8 [(.loc 1), (.int 4)]),
      st1_1,
      st1_2,
      .set 6 (.call 47 [(.loc 4)]),
      st1_4,
      st1_5]
def st2 : S := .ret (.call 5 [(.lst [(.frc (.call 49 [(.make 22 [] [] [])])), (.frc (.call 55 [(.make 22 [] [] [])])), (.frc (.call 55 [(.make 22 [(.lst [(.str [120]), (.str [120]), (.str [121]), (.str [121]), (.str [121]), (.str [121])])] [] [])]))]), (.lst [(.lst []), (.lst []), (.lst [(.int 2)])])])
def fd_law_faef : Fd := ⟨11, 1, [], [
    .set 1 (.call 7 [(.loc 0)]),
    st1,
    st2], []⟩
end K20

set_option Elab.async false
set_option linter.all false
set_option maxRecDepth 100000
set_option maxHeartbeats 4000000
set_option autoImplicit false
/-! K20L: counts of rows, over plain data -/
namespace K20
open Oh
structure Has20 (g : Gx) : Prop extends HasV g, HasVl g where
  ct : Has g 49 fd_counts_807e
  nc : Has g 55 fd_needed_counts_4b1d
  mx : Has g 54 fd_law_mixed_3d7f
/-- rows of at most ten places -/
structure Rw (ps : List Tx) : Prop where
  ok : ∀ p ∈ ps, isH p = true
  len : ps.length ≤ 10
  few : (holesT ps).length ≤ 5
def needT (ns : List Int) : List Int := ns.foldl (fun acc x => if isSum acc x then acc else acc ++ [x]) []
def fewT (ns : List Int) : List Int := ((List.range ns.length).filter fun k => !((sumsT (ns.take k) ((ns[k]?).getD 0).toNat)[((ns[k]?).getD 0).toNat]?).getD false).map fun k => (ns[k]?).getD 0
theorem tbl_need : (tbl.all fun p => decide (needT p.1 = fewT p.1)) = true := by decide +kernel
theorem need_few {ps : List Tx} (hl : ps.length ≤ 10) : needT (numsT ps) = fewT (numsT ps) := by
  obtain ⟨_, _, p, hp, e1, _⟩ := nums_tbl hl
  have h := tbl_need
  rw [List.all_eq_true] at h
  have h := of_decide_eq_true (h p hp)
  rw [e1] at h
  exact h
theorem need_len : ∀ (ns acc : List Int), (ns.foldl (fun acc x => if isSum acc x then acc else acc ++ [x]) acc).length ≤ acc.length + ns.length
  | [], acc => by simp
  | y :: ns, acc => by
    have := need_len ns (if isSum acc y then acc else acc ++ [y])
    simp only [List.foldl_cons, List.length_cons]
    split at this
    · rename_i h
      rw [if_pos h]
      omega
    · rename_i h
      rw [if_neg h]
      simp only [List.length_append, List.length_singleton] at this
      omega
/-! ### rows in another order -/
theorem holes_perm {a b : List Tx} (p : a.Perm b) (q : Tx) (h : q ∈ holesT a) : q ∈ holesT b := by
  obtain ⟨h1, h2⟩ := holesT_mem h
  exact holesT_in (p.mem_iff.mp h1) h2
theorem nums_perm {a b : List Tx} (p : a.Perm b) : numsT a = numsT b := by
  refine rise_eq (setI_pw _) (setI_pw _) fun x => ?_
  have hc : ∀ h : Tx, cntT a h = cntT b h := fun h => (p.filter _).length_eq
  unfold numsT
  rw [setI_mem, setI_mem, List.mem_map, List.mem_map]
  constructor
  · rintro ⟨h, h1, rfl⟩
    exact ⟨h, holes_perm p h h1, by rw [hc]⟩
  · rintro ⟨h, h1, rfl⟩
    exact ⟨h, holes_perm p.symm h h1, by rw [hc]⟩
theorem Rw.perm {a b : List Tx} (p : a.Perm b) (h : Rw b) : Rw a := by
  refine ⟨fun q hq => h.ok q (p.mem_iff.mp hq), by rw [p.length_eq]; exact h.len, ?_⟩
  exact Nat.le_trans (nodup_sub _ _ (holesT_nodup a) fun q hq => holes_perm p q hq) h.few
theorem strs_perm {ys : List D} {ps : List Tx} (h : ys.Perm (ps.map .str)) : ∃ qs : List Tx, ys = qs.map .str ∧ qs.Perm ps := by
  have all : ∀ y ∈ ys, ∃ t, y = D.str t := fun y hy => by
    obtain ⟨t, _, e⟩ := List.mem_map.mp (h.mem_iff.mp hy)
    exact ⟨t, e.symm⟩
  obtain ⟨f, hf⟩ : ∃ f : D → Tx, ∀ t, f (.str t) = t := ⟨fun d => match d with | .str t => t | _ => [], fun _ => rfl⟩
  refine ⟨ys.map f, ?_, ?_⟩
  · rw [List.map_map]
    conv => lhs; rw [← List.map_id ys]
    refine List.map_congr_left fun y hy => ?_
    obtain ⟨t, rfl⟩ := all y hy
    simp [hf]
  · have := h.map f
    rw [List.map_map] at this
    have e : (f ∘ D.str) = id := funext hf
    rw [e, List.map_id] at this
    exact this
section
variable {g : Gx} {n : Nat} {m m0 : M}
theorem counts_ok (H : Has20 g) (hn : 4 ≤ n) {ps : List Tx} (hf : fits ps) (hl : ps.length ≤ 60) : run g.G g.T g.K n 49 [.p (mk 22 ps)] m = .ok (.c m.length) (m ++ [.lst ((numsT ps).map .int)]) := by
  rw [run_ge H.ct (by omega)]
  unfold runFd
  have hh := holesT_len ps
  simp [fd_counts_807e, Fd.fill, clsR_mk (show (16 : Nat) ≠ 12 by decide), H.hof, holes_ok (n := n - 1) H.toHasV (by omega) hf (by omega), items]
  generalize hr : forGo _ _ _ _ = r
  have L : ∃ s' m', r = .ok (.nx s') m' ∧ ∃ o2, s' = [some (.p (mk 22 ps)), some (.c m.length), o2] ∧ m' = m ++ [.lst ((((holesT ps).map fun h => (cntT ps h : Int)).foldl addU []).map .int)] := by
    rw [← hr]
    refine forGo_to (I := fun F s' m' => ∃ o2, s' = [some (.p (mk 22 ps)), some (.c m.length), o2] ∧ m' = m ++ [.lst (F.map .int)] ∧ F.Nodup ∧ ∀ y ∈ F, y ∈ (holesT ps).map fun h => (cntT ps h : Int)) .str (fun F h => addU F (cntT ps h)) (holesT ps) []
      ⟨none, rfl, rfl, .nil, by simp⟩ (fun s' m' ⟨o2, e1, e2, _, _⟩ => ⟨o2, e1, by rw [e2, List.foldl_map]⟩) fun h hh2 F s' m' ⟨o2, e1, e2, nd, sub⟩ => ?_
    subst e1; subst e2
    have hlen : F.length ≤ 60 := by have := nodup_sub F _ nd sub; simp at this; omega
    have nd2 := foldU_nd [(cntT ps h : Int)] F nd
    have sub2 : ∀ y ∈ addU F (cntT ps h), y ∈ (holesT ps).map fun h => (cntT ps h : Int) := fun y hy => by
      rcases (foldU_mem [(cntT ps h : Int)] F y).mp hy with q | q
      · exact sub y q
      · rw [List.mem_singleton] at q
        exact List.mem_map.mpr ⟨h, hh2, q.symm⟩
    refine ⟨[some (.p (mk 22 ps)), some (.c m.length), some (.p (.str h))], m ++ [.lst ((addU F (cntT ps h)).map .int)], ?_, some (.p (.str h)), rfl, rfl, nd2, sub2⟩
    have ni := notin_ints (cntT ps h) F
    cases q : F.contains (cntT ps h : Int) with
    | true =>
      have ea : addU F (cntT ps h) = F := by unfold addU; rw [q]; rfl
      rw [q] at ni
      rw [ea]
      simp [setT, clsR_mk (show (17 : Nat) ≠ 12 by decide), H.cof, count_ok (n := n - 1) H.toHasV (by omega) (ps := ps) (by omega), ni]
    | false =>
      have ea : addU F (cntT ps h) = F ++ [(cntT ps h : Int)] := by unfold addU; rw [q]; rfl
      rw [q] at ni
      rw [ea]
      simp [setT, clsR_mk (show (17 : Nat) ≠ 12 by decide), H.cof, count_ok (n := n - 1) H.toHasV (by omega) (ps := ps) (by omega), ni]
      rw [isCell_at (last_get m _)]
      simp only [Res.bindS_ok]
      rw [appCell_at (last_get m _) (by simp; unfold line; omega)]
      simp
  obtain ⟨_, _, rfl, o2, rfl, rfl⟩ := L
  have e : sortLD (.lst ((((holesT ps).map fun h => (cntT ps h : Int)).foldl addU []).map .int)) = some (.lst ((numsT ps).map .int)) := by
    show sortD _ = _
    unfold sortD
    rw [intsD_ints]
    simp only [sort_once]
    rfl
  simp -implicitDefEqProofs [e, retCell]
theorem need_app (ns : List Int) (acc : List Int) (x : Int) : (ns ++ [x]).foldl (fun acc x => if isSum acc x then acc else acc ++ [x]) acc = (fun a => if isSum a x then a else a ++ [x]) (ns.foldl (fun acc x => if isSum acc x then acc else acc ++ [x]) acc) := by
  rw [List.foldl_append]; rfl
theorem need_loop {F : D → Env → M → Res Fl} {a : Option W} {c : Nat}
    (hF : ∀ (x : Int) (o : Option W) (acc : List Int) , 1 ≤ x ∧ x ≤ 10 → acc.length ≤ 1000 → (∀ y ∈ acc, 1 ≤ y ∧ y ≤ 10) →
      F (.int x) [a, some (.c c), o] (m0 ++ [.lst (acc.map .int)]) = .ok (.nx [a, some (.c c), some (.p (.int x))]) (m0 ++ [.lst ((if isSum acc x then acc else acc ++ [x]).map .int)])) :
    ∀ (xs : List Int) (o : Option W) (acc : List Int), acc.length + xs.length ≤ 1000 → (∀ y ∈ xs, 1 ≤ y ∧ y ≤ 10) → (∀ y ∈ acc, 1 ≤ y ∧ y ≤ 10) →
      ∃ o', forGo F (xs.map .int) [a, some (.c c), o] (m0 ++ [.lst (acc.map .int)]) = .ok (.nx [a, some (.c c), o']) (m0 ++ [.lst ((xs.foldl (fun acc x => if isSum acc x then acc else acc ++ [x]) acc).map .int)])
  | [], o, acc, _, _, _ => ⟨o, rfl⟩
  | x :: xs, o, acc, hl, h1, h2 => by
    simp only [List.length_cons] at hl
    have hx := h1 x List.mem_cons_self
    obtain ⟨o', e⟩ := need_loop hF xs (some (.p (.int x))) (if isSum acc x then acc else acc ++ [x]) (by
      have : (if isSum acc x then acc else acc ++ [x]).length ≤ acc.length + 1 := by split <;> simp
      omega) (fun y hy => h1 y (List.mem_cons_of_mem _ hy)) (fun y hy => by
      split at hy
      · exact h2 y hy
      · rcases List.mem_append.mp hy with z | z
        · exact h2 y z
        · rw [List.mem_singleton.mp z]; exact hx)
    refine ⟨o', ?_⟩
    simp only [List.map_cons]
    unfold forGo
    rw [hF x o acc hx (by omega) h2]
    exact e
theorem needed_ok (H : Has20 g) (hn : 5 ≤ n) {ps : List Tx} (P : Rw ps) : run g.G g.T g.K n 55 [.p (mk 22 ps)] m = .ok (.c m.length) (m ++ [.lst ((needT (numsT ps)).map .int)]) := by
  rw [run_ge H.nc (by omega)]
  unfold runFd
  have fp : fits ps := fits_hole fun p h => isH_okP (P.ok p h)
  have hp := P.len
  obtain ⟨hb, hlen, _⟩ := nums_tbl P.len
  have ct := counts_ok (n := n - 1) (m := m ++ [.lst []]) H (by omega) fp (by omega)
  have lv : leave (m ++ [C.lst []]).length (.c (m ++ [C.lst []]).length) ((m ++ [C.lst []]) ++ [.lst ((numsT ps).map .int)]) = .ok (.p (.lst ((numsT ps).map .int))) (m ++ [C.lst []]) := leave_new
  simp only [List.length_append, List.length_singleton] at ct lv
  simp -implicitDefEqProofs [fd_needed_counts_4b1d, Fd.fill, -List.append_assoc, ct, lv, items]
  generalize hr : forGo _ _ _ _ = r
  have L : ∃ o', r = .ok (.nx [some (.p (mk 22 ps)), some (.c m.length), o']) (m ++ [.lst ((needT (numsT ps)).map .int)]) := by
    rw [← hr]
    refine need_loop (m0 := m) (fun x o acc hx ha hs => ?_) (numsT ps) none [] (by simp; omega) hb (by simp)
    have sn := snapW_c (last_get m (C.lst (acc.map .int)))
    have is := is_sum_ok (n := n - 1) (m := []) H.toHasV (by omega) hs x
    have ic := isCell_at (last_get m (C.lst (acc.map .int)))
    have ac := appCell_at (d := .int x) (last_get m (C.lst (acc.map .int))) (by simp; unfold line; omega)
    rw [last_set] at ac
    cases q : isSum acc x with
    | true =>
      rw [q] at is
      simp -implicitDefEqProofs [setT, snap, sn, is, borR_bl]
    | false =>
      rw [q] at is
      simp -implicitDefEqProofs [setT, snap, sn, is, borR_bl, ic, ac]
  obtain ⟨o', rfl⟩ := L
  have rl : retlR (some (some (.c m.length))) (m ++ [C.lst ((needT (numsT ps)).map .int)]) = .ok (.rl m.length) _ := retlR_at (last_get m _)
  have fr : finish m.length (.ok (.rl m.length) (m ++ [C.lst ((needT (numsT ps)).map .int)])) = .ok (.c m.length) _ := finish_rl (Nat.le_refl _) (last_get m _)
  simp -implicitDefEqProofs [rl, fr]
theorem idx_ints (ns : List Int) (k : Nat) : idxD (.lst (ns.map .int)) (.int (k : Int)) = (ns[k]?).map .int := by
  show atI _ _ = _
  rw [atI_nat, List.getElem?_map]
theorem slc_ints (ns : List Int) {k : Nat} (h : k ≤ ns.length) : slcD (.lst (ns.map .int)) none (some (k : Int)) = some (.lst ((ns.take k).map .int)) := by
  show some (D.lst (cut _ _ _)) = _
  unfold cut sIx
  have e : ¬ ((k : Int) < 0) := by omega
  simp only [if_neg e, List.length_map, Int.toNat_natCast, List.drop_zero, Nat.sub_zero, List.map_take, Nat.min_eq_left h]
theorem okD_ints (k : Nat) (l : List Int) (h : l.length ≤ line) : okD (k + 1) (.lst (l.map .int)) = true := by
  simp only [okD_lst, List.length_map, Bool.and_eq_true, decide_eq_true_eq]
  refine ⟨h, ?_⟩
  clear h
  induction l with
  | nil => simp [okDs]
  | cons x l ih => simp [okDs, ih]
theorem rep_str (c : Tx) {k : Int} (h0 : 0 ≤ k) (h1 : k ≤ 10) : opD .mul (.lst [.str c]) (.int k) = some (.lst ((List.replicate k.toNat c).map .str)) := by
  show (if _ then _ else _) = _
  rw [if_pos]
  · simp
  · simp only [Bool.and_eq_true, decide_eq_true_eq, List.length_singleton]
    exact ⟨⟨h0, by omega⟩, by unfold line; omega⟩
theorem rw_of {ps ns : List Tx} (h : ∀ p ∈ ps, p ∈ ns) (hn : ∀ p ∈ ns, isH p = true) (hl : ps.length ≤ 10) (h5 : ns.length ≤ 5) : Rw ps :=
  ⟨fun p hp => hn p (h p hp), hl, Nat.le_trans (holesT_few (ps := ps) (ns := ns) fun p hp => .inl (h p hp)) h5⟩
theorem mk2 {a b : Tx} (ha : isH a = true) (hb : isH b = true) {i j : Int} (hi : 0 ≤ i) (hj : 0 ≤ j) (h : i + j ≤ 10) : ∃ (A : List Tx) (u v : List D), Rw A ∧ opD .mul (.lst [.str a]) (.int i) = some (.lst u) ∧ opD .mul (.lst [.str b]) (.int j) = some (.lst v) ∧ opD .add (.lst u) (.lst v) = some (.lst (A.map .str)) := by
  refine ⟨List.replicate i.toNat a ++ List.replicate j.toNat b, _, _, rw_of (ns := [a, b]) (fun p hp => ?_) (fun p hp => ?_) (by simp; omega) (by simp), rep_str a hi (by omega), rep_str b hj (by omega), ?_⟩
  · rcases List.mem_append.mp hp with z | z <;> simp [List.eq_of_mem_replicate z]
  · simp only [List.mem_cons, List.not_mem_nil, or_false] at hp
    rcases hp with rfl | rfl <;> assumption
  · rw [add_lst (by simp; unfold line; omega), List.map_append]
theorem sumsT_len (ns : List Int) (top : Nat) : (sumsT ns top).length = top + 1 := by
  have : ∀ (l : List Nat) (F : List Bool), (l.foldl (sumStep ns) F).length = F.length := by
    intro l
    induction l with
    | nil => intro F; rfl
    | cons x l ih => intro F; simp only [List.foldl_cons]; rw [ih, sumStep_len]
  unfold sumsT
  rw [this]
  simp
theorem mk3 {a b c : Tx} (ha : isH a = true) (hb : isH b = true) (hc : isH c = true) {i j k : Int} (hi : 0 ≤ i) (hj : 0 ≤ j) (hk : 0 ≤ k) (h : i + j + k ≤ 10) : ∃ (A : List Tx) (u v w uv : List D), Rw A ∧ opD .mul (.lst [.str a]) (.int i) = some (.lst u) ∧ opD .mul (.lst [.str b]) (.int j) = some (.lst v) ∧ opD .mul (.lst [.str c]) (.int k) = some (.lst w) ∧ opD .add (.lst u) (.lst v) = some (.lst uv) ∧ opD .add (.lst uv) (.lst w) = some (.lst (A.map .str)) := by
  refine ⟨List.replicate i.toNat a ++ List.replicate j.toNat b ++ List.replicate k.toNat c, _, _, _, ((List.replicate i.toNat a ++ List.replicate j.toNat b).map .str), rw_of (ns := [a, b, c]) (fun p hp => ?_) (fun p hp => ?_) (by simp; omega) (by simp), rep_str a hi (by omega), rep_str b hj (by omega), rep_str c hk (by omega), ?_, ?_⟩
  · rcases List.mem_append.mp hp with z | z
    · rcases List.mem_append.mp z with z | z <;> simp [List.eq_of_mem_replicate z]
    · simp [List.eq_of_mem_replicate z]
  · simp only [List.mem_cons, List.not_mem_nil, or_false] at hp
    rcases hp with rfl | rfl | rfl <;> assumption
  · rw [add_lst (by simp; unfold line; omega), List.map_append]
  · rw [add_lst (by simp; unfold line; omega)]; simp only [List.map_append]
theorem law_ok (H : Has20 g) (ns : List Int) : (runFd g.G (run g.G g.T g.K 19) g.K fd_law_faef [.p (.scr ns)] []).Ok fun w _ => w = .p (.bl true) := by
  unfold runFd
  obtain ⟨w, m1, eb, rfl, B1, x0, rfl⟩ := (bag_ok (n := 18) (m := []) H.bag ns).ex
  have R : ∀ m, rngW [.p (.int 7)] m = .ok ((List.range 7).map fun (i : Nat) => D.int i) m := fun m => rng1 (by omega) (by omega)
  have R2 : ∀ m, rngW [.p (.int 2)] m = .ok ((List.range 2).map fun (i : Nat) => D.int i) m := fun m => rng1 (by omega) (by omega)
  simp only [List.length_nil, List.nil_append] at eb B1
  have same : ∀ m a, okD 4 a = true → run g.G g.T g.K 19 5 [.p a, .p a] m = .ok (.p (.bl true)) m := fun m a h => H.toHasD.eq (k := 4) a h (by omega)
  simp -implicitDefEqProofs [fd_law_faef, Fd.fill, eb, st1, R]
  generalize hr : forGo _ _ _ _ = r
  have L1 : r.Ok fun fl m' => ∃ s', fl = .nx s' ∧ (s'.length = 11 ∧ s'[1]? = some (some (.c 0)) ∧ Bag m' 0) := by
    rw [← hr]
    clear hr
    refine forGo_inv (Inv := fun s' m' => s'.length = 11 ∧ s'[1]? = some (some (.c 0)) ∧ Bag m' 0) _ _ _ ?_ ?_
    · exact ⟨rfl, rfl, B1⟩
    rintro x hx s' m2 ⟨hs, hs1, B2⟩
    match s', hs, hs1 with
    | [a0, a1, a2, a3, a4, a5, a6, a7, a8, a9, a10], _, hs1 =>
      obtain rfl : a1 = some (.c 0) := by simpa using hs1
      obtain ⟨w, m3, e3, nm, rfl, hnl, N, B3, O3⟩ := (H.toHasD.nm (n := 19) (by omega) B2 (many := 4) (by omega)).ex
      change run g.G g.T g.K 19 8 [.c 0, .p (.int 4)] m2 = _ at e3
      obtain ⟨w, m4, e4, ps0, rfl, h1, l0, l1, B4, O4⟩ := (places_drawn (n := 19) H.toHasP (by omega) B3 (ns := nm) (by intro e; rw [e] at hnl; cases hnl) (by rw [hnl]; unfold line; omega) (lo := 0) (hi := 10) (by omega) (by omega) (by omega)).ex
      obtain ⟨w, m5, e5, d1, rfl, hd1, hd1', B5, O5⟩ := (H.toHasD.d (n := 19) (by omega) B4 (many := 6) (by omega) (by omega)).ex
      match nm, hnl with
      | [n0, n1, n2, n3], _ =>
      have I0 : isH n0 = true := N.ok n0 (by simp)
      have I1 : isH n1 = true := N.ok n1 (by simp)
      have I2 : isH n2 = true := N.ok n2 (by simp)
      have P0 : Rw ps0 := rw_of (ns := [n0, n1, n2, n3]) h1 N.ok (by omega) (by simp)
      obtain ⟨A1, u1, v1, P1, x11, x12, x13⟩ := mk2 (a := [112]) (b := [113]) (by decide) (by decide) (i := 5) (j := d1) (by omega) hd1 (by omega)
      obtain ⟨A2, u2, v2, P2, x21, x22, x23⟩ := mk2 (a := n0) (b := n1) I0 I1 (i := 4) (j := 6) (by omega) (by omega) (by omega)
      obtain ⟨A3, u3, v3, w3, y3, P3, x31, x32, x33, x34, x35⟩ := mk3 (a := n0) (b := n1) (c := n2) I0 I1 I2 (i := 2) (j := 3) (k := 5) (by omega) (by omega) (by omega) (by omega)
      obtain ⟨w, m6, e6, y, hy, rfl, B6, O6⟩ := (H.toHasD.ofL (n := 19) (by omega) B5 (xs := [.lst (ps0.map .str), .lst (A1.map .str), .lst (A2.map .str), .lst (A3.map .str)]) (by simp) (by simp)).ex
      obtain ⟨ps, rfl, P⟩ : ∃ ps : List Tx, y = .lst (ps.map .str) ∧ Rw ps := by
        simp only [List.mem_cons, List.not_mem_nil, or_false] at hy
        rcases hy with rfl | rfl | rfl | rfl
        · exact ⟨_, rfl, P0⟩
        · exact ⟨_, rfl, P1⟩
        · exact ⟨_, rfl, P2⟩
        · exact ⟨_, rfl, P3⟩
      have hp := P.len
      obtain ⟨w, m7, e7, ys, rfl, pm, B7, O7⟩ := (mixed_ok (n := 19) H.toHasD H.mx (by omega) B6 (xs := ps.map .str) (by simp; omega)).ex
      obtain ⟨qs, rfl, pq⟩ := strs_perm pm
      have Q : Rw qs := P.perm pq
      have nq : numsT qs = numsT ps := nums_perm pq
      have mk1 := make22 (n := 19) (m := m7) H.toHasM (by omega) Q.ok Q.len Q.few
      have ln := lnumbers_ok (n := 19) (m := m7) H.toHasVl (by omega) (ps := ps) (by omega)
      have fq : fits qs := fits_hole fun p h => isH_okP (Q.ok p h)
      have c1 := fun m : M => counts_ok (n := 19) (m := m) H (by omega) fq (by have := Q.len; omega)
      have c2 := fun m : M => needed_ok (n := 19) (m := m) H (by omega) Q
      rw [nq] at c1 c2
      rw [need_few hp] at c2
      obtain ⟨hb, hlen, _⟩ := nums_tbl hp
      generalize numsT ps = due at *
      have i0 : idxD (.lst [.str n0, .str n1, .str n2, .str n3]) (.int 0) = some (.str n0) := rfl
      have i1 : idxD (.lst [.str n0, .str n1, .str n2, .str n3]) (.int 1) = some (.str n1) := rfl
      have i2 : idxD (.lst [.str n0, .str n1, .str n2, .str n3]) (.int 2) = some (.str n2) := rfl
      simp only [List.map_cons, List.map_nil] at e3 e4
      have rl : rngW [.p (.int (due.length : Int))] m7 = .ok ((List.range due.length).map fun (i : Nat) => D.int i) m7 := by
        rw [rng1 (by omega) (by omega)]; rfl
      simp -implicitDefEqProofs [setT, e3, st1_1, e4, i0, i1, i2, x11, e5, x12, x13, x21, x22, x23, x31, x32, x33, x34, x35, e6, st1_2, e7, mk1, ln, st1_4, rl]
      rw [lcGo_filter (fun (k : Nat) => D.int (k : Int)) (fun (k : Nat) => D.int ((due[k]?).getD 0)) (fun k => !((sumsT (due.take k) ((due[k]?).getD 0).toNat)[((due[k]?).getD 0).toNat]?).getD false) (List.range due.length) fun k hk => ?_]
      · have ell : (((List.range due.length).filter fun k => !((sumsT (due.take k) ((due[k]?).getD 0).toNat)[((due[k]?).getD 0).toNat]?).getD false).map fun (k : Nat) => D.int ((due[k]?).getD 0)) = (fewT due).map .int := by unfold fewT; rw [List.map_map]; rfl
        rw [ell]
        have fl : (fewT due).length ≤ 10 := by
          unfold fewT
          have := List.length_filter_le (fun k => !((sumsT (due.take k) ((due[k]?).getD 0).toNat)[((due[k]?).getD 0).toNat]?).getD false) (List.range due.length)
          simp only [List.length_map, List.length_range] at this ⊢
          omega
        generalize fewT due = few at *
        have ll : (few.map D.int).length ≤ line := by rw [List.length_map]; unfold line; omega
        simp -implicitDefEqProofs [lcList_le ll, st1_5, R2]
        generalize hr3 : forGo _ _ _ _ = r3
        have L2 : r3.Ok fun fl m' => ∃ s', fl = .nx s' ∧ ((∃ o8 o9, s' = [a0, some (.c 0), some (.p x), some (.p (.lst [.str n0, .str n1, .str n2, .str n3])), some (.p (.lst (ps.map .str))), some (.p (mk 22 qs)), some (.p (.lst (due.map .int))), some (.p (.lst (few.map .int))), o8, o9, a10]) ∧ Bag m' 0) := by
          rw [← hr3]
          clear hr3
          refine forGo_inv (Inv := fun s' m' => (∃ o8 o9, s' = [a0, some (.c 0), some (.p x), some (.p (.lst [.str n0, .str n1, .str n2, .str n3])), some (.p (.lst (ps.map .str))), some (.p (mk 22 qs)), some (.p (.lst (due.map .int))), some (.p (.lst (few.map .int))), o8, o9, a10]) ∧ Bag m' 0) _ _ _ ⟨⟨_, _, rfl⟩, B7⟩ ?_
          rintro z hz s' m' ⟨⟨o8, o9, e1⟩, B⟩
          subst e1
          obtain ⟨mm, hmm⟩ : ∃ mm, mm = m' ++ [C.lst (due.map .int), C.lst (few.map .int), C.lst (due.map .int), C.lst (few.map .int), C.wl [.c m'.length, .c (m'.length + 1), .c (m'.length + 2), .c (m'.length + 3)]] := ⟨_, rfl⟩
          have g0 : mm[m'.length]? = some (C.lst (due.map .int)) := by rw [hmm, List.getElem?_append_right (Nat.le_refl _)]; simp
          have g1 : mm[m'.length + 1]? = some (C.lst (few.map .int)) := by rw [hmm, List.getElem?_append_right (by omega)]; simp
          have g2 : mm[m'.length + 2]? = some (C.lst (due.map .int)) := by rw [hmm, List.getElem?_append_right (by omega)]; simp
          have g3 : mm[m'.length + 3]? = some (C.lst (few.map .int)) := by rw [hmm, List.getElem?_append_right (by omega)]; simp
          have g4 : mm[m'.length + 4]? = some (C.wl [.c m'.length, .c (m'.length + 1), .c (m'.length + 2), .c (m'.length + 3)]) := by rw [hmm, List.getElem?_append_right (by omega)]; simp
          have Bm : Bag mm 0 := by rw [hmm]; exact B.app
          have sn := snapW_wl g4 (ds := [.lst (due.map .int), .lst (few.map .int), .lst (due.map .int), .lst (few.map .int)]) (by simp only [toDs, asD_lst g0, asD_lst g1, asD_lst g2, asD_lst g3, Option.bind_some, Option.map_some])
          have sm := same [] (.lst [.lst (due.map .int), .lst (few.map .int), .lst (due.map .int), .lst (few.map .int)]) (by
            have d1 := okD_ints 2 due (by unfold line; omega)
            have d2 := okD_ints 2 few (by unfold line; omega)
            simp only [okD_lst (n := 3), okDs, d1, d2, List.length_cons, List.length_nil, Bool.and_true, Bool.and_eq_true, decide_eq_true_eq]
            unfold line; omega)
          have w0 := watR_at g4 (k := 0) rfl
          have ic := isCell_at g0
          have ac := appCell_at (d := .int 1) g0 (by rw [List.length_map]; unfold line; omega)
          obtain ⟨m8, hm8⟩ : ∃ u, u = mm.set m'.length (.lst (due.map .int ++ [.int 1])) := ⟨_, rfl⟩
          rw [← hm8] at ac
          have g4' : m8[m'.length + 4]? = some (C.wl [.c m'.length, .c (m'.length + 1), .c (m'.length + 2), .c (m'.length + 3)]) := by rw [hm8, List.getElem?_set_ne (by omega)]; exact g4
          have g1' : m8[m'.length + 1]? = some (C.lst (few.map .int)) := by rw [hm8, List.getElem?_set_ne (by omega)]; exact g1
          have w1 := watR_at g4' (k := 1) rfl
          have cc := clrCell_at g1'
          have Bf : Bag (m8.set (m'.length + 1) (.lst [])) 0 := by rw [hm8]; exact (Bm.set (by have := B.lt; omega)).set (by omega)
          have nw : newWl [.c m'.length, .c (m'.length + 1), .c (m'.length + 2), .c (m'.length + 3)] (m' ++ [C.lst (due.map .int), C.lst (few.map .int), C.lst (due.map .int), C.lst (few.map .int)]) = .ok (.c (m'.length + 4)) mm := by
            unfold newWl
            rw [if_pos (by simp; unfold line; omega), hmm]
            simp
          simp -implicitDefEqProofs [setT, st1_5_0, c1, c2, bindK, srcGet]
          rw [nw]
          simp -implicitDefEqProofs [st1_5_1, snap, sn, sm, borR_bl, w0, ic, ac, w1, cc]
          exact Bf
        obtain ⟨fl2, m8, e8, s', e9, ⟨o8, o9, e10⟩, B8⟩ := L2.ex
        subst e10 e9 e8
        simp -implicitDefEqProofs
        exact B8
      · have hk := List.mem_range.mp hk
        obtain ⟨v, hv⟩ : ∃ v, due[k]? = some v := ⟨_, List.getElem?_eq_getElem hk⟩
        have hv' := hb v (List.mem_of_getElem? hv)
        obtain ⟨t, rfl⟩ : ∃ t : Nat, v = t := ⟨v.toNat, by omega⟩
        have ik := idx_ints due k
        rw [hv] at ik
        have sk := slc_ints due (k := k) (by omega)
        have ls := lsums_ok (n := 19) (m := m7) H.toHasVl (by omega) (ns := due.take k) (fun x hx => hb x (List.mem_of_mem_take hx)) (by rw [List.length_take]; omega) (top := t) (by omega)
        have ix := idx_bls (sumsT (due.take k) t) t
        have hl : (sumsT (due.take k) t).length = t + 1 := sumsT_len _ _
        generalize due.take k = tk at *
        rw [List.getElem?_eq_getElem (by omega)] at ix
        simp only [hv, Option.getD_some, Int.toNat_natCast]
        rw [List.getElem?_eq_getElem (by omega), Option.getD_some]
        simp only [Option.map_some] at ik ix
        cases q : (sumsT tk t)[t]'(by omega) with
        | true =>
          rw [q] at ix
          simp -implicitDefEqProofs [lcTurn, setT, lcEnd, ik, sk, ls, ix]
        | false =>
          rw [q] at ix
          simp -implicitDefEqProofs [lcTurn, setT, lcEnd, ik, sk, ls, ix]
  clear hr
  obtain ⟨fl, m2, e, s', e2, hs, hs1, B2⟩ := L1.ex
  subst e2 e
  match s', hs with
  | [a0, a1, a2, a3, a4, a5, a6, a7, a8, a9, a10], _ =>
  have R0 : Rw [] := ⟨by decide, by decide, by decide⟩
  have R1 : Rw [[120], [120], [121], [121], [121], [121]] := ⟨by decide, by decide, by decide⟩
  have u0 := fun m : M => make22_0 (n := 19) (m := m) H.toHasM (by omega)
  have u1 := fun m : M => make22 (n := 19) (m := m) H.toHasM (by omega) R1.ok R1.len R1.few
  have z0 := fun m : M => counts_ok (n := 19) (m := m) H (by omega) (ps := []) (by intro p hp; cases hp) (by simp)
  have z1 := fun m : M => needed_ok (n := 19) (m := m) H (by omega) R0
  have z2 := fun m : M => needed_ok (n := 19) (m := m) H (by omega) R1
  rw [show numsT [] = [] by decide +kernel] at z0
  rw [show needT (numsT []) = [] by decide +kernel] at z1
  rw [show needT (numsT [[120], [120], [121], [121], [121], [121]]) = [2] by decide +kernel] at z2
  simp only [List.map_cons, List.map_nil] at u1 z0 z1 z2
  have lv1 : ∀ m : M, leave m.length (.c m.length) (m ++ [C.lst [.int 2]]) = .ok (.p (.lst [.int 2])) m := fun m => leave_new
  have lv3 : ∀ m : M, leave m.length (.c m.length) (m ++ [C.lst []]) = .ok (.p (.lst [])) m := fun m => leave_new
  have sm := fun m : M => same m (.lst [.lst [], .lst [], .lst [.int 2]]) (by simp; unfold line; omega)
  simp -implicitDefEqProofs [st2, u0, u1, z0, z1, z2, lv1, lv3, sm]
end
end K20

set_option Elab.async false
set_option linter.all false
set_option maxRecDepth 100000
set_option maxHeartbeats 0
namespace K20
open PySem PySem.Spec PyProof.Rows L2 Oh
instance lcl0 : Lcl := ⟨[], "", fun _ _ _ _ _ => False⟩
def top (i : Nat) : Stmt := PySem.Challenge.pw_onlyholes_k20_counts_of_rows.main.body.getD i (.Pass ⟨0, 0, 0, 0⟩)
def mem (i j : Nat) : Stmt := match top i with | .ClassDef _ _ _ b _ _ _ _ _ _ _ => b.getD j (.Pass ⟨0, 0, 0, 0⟩) | _ => .Pass ⟨0, 0, 0, 0⟩
def tab : List (Nat × Fd) := [(1, fd_is_word_1b0c), (10, fd_is_hole_8881), (16, fd_is_letter_1500), (27, fd_is_number_2af7), (23, fd_need_size_bf63), (15, fd_holes_in_527e), (25, fd_made_a94e), (49, (fd_counts_807e.kb [(0, ["row"], [.kw 0])])), (41, fd_least_lengths_0b03), (50, fd_is_sum_6d5f), (55, (fd_needed_counts_4b1d.kb [(0, ["row"], [.kw 0])])), (7, fd_law_bag_44ba), (4, fd_law_draw_1586), (6, fd_law_of_2b71), (54, fd_law_mixed_3d7f), (5, fd_law_same_18bd), (8, fd_law_names_67b2), (18, fd_law_is_letter_94aa), (22, fd_law_holes_ad8c), (33, fd_law_count_6fd4), (19, fd_law_places_aaf2), (46, fd_law_sums_0c3d), (47, fd_law_numbers_e0f1), (5200, fd_Mask_init_9c3c), (5213, fd_Mask_check_4d1c), (5215, fd_Mask_places_5024), (5216, fd_Mask_holes_c1a6), (5217, fd_Mask_count_d5a7), (5218, fd_Mask_len_7ef1), (5222, fd_Mask_eq_7551), (5230, fd_Mask_add_1a55), (5231, fd_Mask_mul_a763), (5400, fd_Mask_init_9c3c), (5413, fd_Row_check_97a0), (5415, fd_Mask_places_5024), (5416, fd_Mask_holes_c1a6), (5417, fd_Mask_count_d5a7), (5418, fd_Mask_len_7ef1), (5422, fd_Mask_eq_7551), (5430, fd_Mask_add_1a55), (5431, fd_Mask_mul_a763)]
def gls : List (Nat × D) := [(0, .str [97, 98, 99, 100, 101, 102, 103, 104, 105, 106, 107, 108, 109, 110, 111, 112, 113, 114, 115, 116, 117, 118, 119, 120, 121, 122]), (2, .int 6), (3, .str [48, 49, 50]), (12, .int 10), (13, .int 5), (5200, .fn 0), (5213, .fn 0), (5215, .fn 0), (5216, .fn 0), (5217, .fn 0), (5218, .fn 0), (5222, .fn 0), (5230, .fn 0), (5231, .fn 0), (5400, .fn 0), (5413, .fn 0), (5415, .fn 0), (5416, .fn 0), (5417, .fn 0), (5418, .fn 0), (5422, .fn 0), (5430, .fn 0), (5431, .fn 0), (5211, .str [77, 97, 115, 107]), (5411, .str [82, 111, 119]), (1400, .fn 2), (1600, .fn 2), (2400, .fn 2), (4400, .fn 2)]
def nms : List (Nat × Str) := [(1, "is_word"), (10, "is_hole"), (16, "is_letter"), (27, "is_number"), (23, "need_size"), (15, "holes_in"), (25, "made"), (49, "counts"), (41, "least_lengths"), (50, "is_sum"), (55, "needed_counts"), (7, "_law_bag"), (4, "_law_draw"), (6, "_law_of"), (54, "_law_mixed"), (5, "_law_same"), (8, "_law_names"), (18, "_law_is_letter"), (22, "_law_holes"), (33, "_law_count"), (19, "_law_places"), (46, "_law_sums"), (47, "_law_numbers"), (14, "law"), (0, "SMALL"), (2, "MOST_NAME"), (3, "LETTERS"), (12, "MOST_PLACES"), (13, "MOST_HOLES")]
def g : Gx := ⟨fun k => gls.lookup k, fun f => tab.lookup f, fun k => (nms.lookup k).getD "", fun k => (nms.lookup k).getD "", 1000, none, false⟩
def d0 : He5.DefA := ⟨fun K => He.fAd K ("is_word", none), "is_word", "is_word", defArgs (top 15), defBody (top 15), defScope (top 15), [], []⟩
def d1 : He5.DefA := ⟨fun K => He.fAd K ("is_hole", none), "is_hole", "is_hole", defArgs (top 16), defBody (top 16), defScope (top 16), [], []⟩
def d2 : He5.DefA := ⟨fun K => He.fAd K ("is_letter", none), "is_letter", "is_letter", defArgs (top 17), defBody (top 17), defScope (top 17), [], []⟩
def d3 : He5.DefA := ⟨fun K => He.fAd K ("is_number", none), "is_number", "is_number", defArgs (top 18), defBody (top 18), defScope (top 18), [], []⟩
def d4 : He5.DefA := ⟨fun K => He.fAd K ("need_size", none), "need_size", "need_size", defArgs (top 19), defBody (top 19), defScope (top 19), [], []⟩
def d5 : He5.DefA := ⟨fun K => He.fAd K ("holes_in", none), "holes_in", "holes_in", defArgs (top 20), defBody (top 20), defScope (top 20), [], []⟩
def d6 : He5.DefA := ⟨fun K => He.fAd K ("made", none), "made", "made", defArgs (top 21), defBody (top 21), defScope (top 21), [], []⟩
def d7 : He5.DefA := ⟨fun K => He.fAd K ("counts", none), "counts", "counts", defArgs (top 26), defBody (top 26), defScope (top 26), [], []⟩
def d8 : He5.DefA := ⟨fun K => He.fAd K ("least_lengths", none), "least_lengths", "least_lengths", defArgs (top 27), defBody (top 27), defScope (top 27), [], []⟩
def d9 : He5.DefA := ⟨fun K => He.fAd K ("is_sum", none), "is_sum", "is_sum", defArgs (top 28), defBody (top 28), defScope (top 28), [], []⟩
def d10 : He5.DefA := ⟨fun K => He.fAd K ("needed_counts", none), "needed_counts", "needed_counts", defArgs (top 29), defBody (top 29), defScope (top 29), [], []⟩
def d11 : He5.DefA := ⟨fun K => He.fAd K ("_law_bag", none), "_law_bag", "_law_bag", defArgs (top 31), defBody (top 31), defScope (top 31), [], []⟩
def d12 : He5.DefA := ⟨fun K => He.fAd K ("_law_draw", none), "_law_draw", "_law_draw", defArgs (top 32), defBody (top 32), defScope (top 32), [], []⟩
def d13 : He5.DefA := ⟨fun K => He.fAd K ("_law_of", none), "_law_of", "_law_of", defArgs (top 33), defBody (top 33), defScope (top 33), [], []⟩
def d14 : He5.DefA := ⟨fun K => He.fAd K ("_law_mixed", none), "_law_mixed", "_law_mixed", defArgs (top 34), defBody (top 34), defScope (top 34), [], []⟩
def d15 : He5.DefA := ⟨fun K => He.fAd K ("_law_same", none), "_law_same", "_law_same", defArgs (top 35), defBody (top 35), defScope (top 35), [], []⟩
def d16 : He5.DefA := ⟨fun K => He.fAd K ("_law_names", none), "_law_names", "_law_names", defArgs (top 36), defBody (top 36), defScope (top 36), [], []⟩
def d17 : He5.DefA := ⟨fun K => He.fAd K ("_law_is_letter", none), "_law_is_letter", "_law_is_letter", defArgs (top 37), defBody (top 37), defScope (top 37), [], []⟩
def d18 : He5.DefA := ⟨fun K => He.fAd K ("_law_holes", none), "_law_holes", "_law_holes", defArgs (top 38), defBody (top 38), defScope (top 38), [], []⟩
def d19 : He5.DefA := ⟨fun K => He.fAd K ("_law_count", none), "_law_count", "_law_count", defArgs (top 39), defBody (top 39), defScope (top 39), [], []⟩
def d20 : He5.DefA := ⟨fun K => He.fAd K ("_law_places", none), "_law_places", "_law_places", defArgs (top 40), defBody (top 40), defScope (top 40), [], []⟩
def d21 : He5.DefA := ⟨fun K => He.fAd K ("_law_sums", none), "_law_sums", "_law_sums", defArgs (top 41), defBody (top 41), defScope (top 41), [], []⟩
def d22 : He5.DefA := ⟨fun K => He.fAd K ("_law_numbers", none), "_law_numbers", "_law_numbers", defArgs (top 42), defBody (top 42), defScope (top 42), [], []⟩
def d23 : He5.DefA := ⟨fun K => He.fAd K ("law", none), "law", "law", defArgs (top 43), defBody (top 43), defScope (top 43), [], []⟩
def d24 : He5.DefA := ⟨fun K => He.ma K (He.ga K (clsStr 21)) (atStr 0), "__init__", "Mask.__init__", defArgs (mem 23 1), defBody (mem 23 1), defScope (mem 23 1), [.adr (He.dflAt ("Mask", some "__init__") 0)], []⟩
def d25 : He5.DefA := ⟨fun K => He.ma K (He.ga K (clsStr 21)) (atStr 13), "check", "Mask.check", defArgs (mem 23 2), defBody (mem 23 2), defScope (mem 23 2), [], []⟩
def d26 : He5.DefA := ⟨fun K => He.ma K (He.ga K (clsStr 21)) (atStr 15), "places", "Mask.places", defArgs (mem 23 4), defBody (mem 23 4), defScope (mem 23 4), [], []⟩
def d27 : He5.DefA := ⟨fun K => He.ma K (He.ga K (clsStr 21)) (atStr 16), "holes", "Mask.holes", defArgs (mem 23 5), defBody (mem 23 5), defScope (mem 23 5), [], []⟩
def d28 : He5.DefA := ⟨fun K => He.ma K (He.ga K (clsStr 21)) (atStr 17), "count", "Mask.count", defArgs (mem 23 6), defBody (mem 23 6), defScope (mem 23 6), [], []⟩
def d29 : He5.DefA := ⟨fun K => He.ma K (He.ga K (clsStr 21)) (atStr 18), "__len__", "Mask.__len__", defArgs (mem 23 7), defBody (mem 23 7), defScope (mem 23 7), [], []⟩
def d30 : He5.DefA := ⟨fun K => He.ma K (He.ga K (clsStr 21)) (atStr 22), "__eq__", "Mask.__eq__", defArgs (mem 23 11), defBody (mem 23 11), defScope (mem 23 11), [], []⟩
def d31 : He5.DefA := ⟨fun K => He.ma K (He.ga K (clsStr 21)) (atStr 30), "__add__", "Mask.__add__", defArgs (mem 23 19), defBody (mem 23 19), defScope (mem 23 19), [], []⟩
def d32 : He5.DefA := ⟨fun K => He.ma K (He.ga K (clsStr 21)) (atStr 31), "__mul__", "Mask.__mul__", defArgs (mem 23 20), defBody (mem 23 20), defScope (mem 23 20), [], []⟩
def d33 : He5.DefA := ⟨fun K => He.ma K (He.ga K (clsStr 22)) (atStr 0), "__init__", "Mask.__init__", defArgs (mem 23 1), defBody (mem 23 1), defScope (mem 23 1), [.adr (He.dflAt ("Row", some "__init__") 0)], []⟩
def d34 : He5.DefA := ⟨fun K => He.ma K (He.ga K (clsStr 22)) (atStr 13), "check", "Row.check", defArgs (mem 24 2), defBody (mem 24 2), defScope (mem 24 2), [], []⟩
def d35 : He5.DefA := ⟨fun K => He.ma K (He.ga K (clsStr 22)) (atStr 15), "places", "Mask.places", defArgs (mem 23 4), defBody (mem 23 4), defScope (mem 23 4), [], []⟩
def d36 : He5.DefA := ⟨fun K => He.ma K (He.ga K (clsStr 22)) (atStr 16), "holes", "Mask.holes", defArgs (mem 23 5), defBody (mem 23 5), defScope (mem 23 5), [], []⟩
def d37 : He5.DefA := ⟨fun K => He.ma K (He.ga K (clsStr 22)) (atStr 17), "count", "Mask.count", defArgs (mem 23 6), defBody (mem 23 6), defScope (mem 23 6), [], []⟩
def d38 : He5.DefA := ⟨fun K => He.ma K (He.ga K (clsStr 22)) (atStr 18), "__len__", "Mask.__len__", defArgs (mem 23 7), defBody (mem 23 7), defScope (mem 23 7), [], []⟩
def d39 : He5.DefA := ⟨fun K => He.ma K (He.ga K (clsStr 22)) (atStr 22), "__eq__", "Mask.__eq__", defArgs (mem 23 11), defBody (mem 23 11), defScope (mem 23 11), [], []⟩
def d40 : He5.DefA := ⟨fun K => He.ma K (He.ga K (clsStr 22)) (atStr 30), "__add__", "Mask.__add__", defArgs (mem 23 19), defBody (mem 23 19), defScope (mem 23 19), [], []⟩
def d41 : He5.DefA := ⟨fun K => He.ma K (He.ga K (clsStr 22)) (atStr 31), "__mul__", "Mask.__mul__", defArgs (mem 23 20), defBody (mem 23 20), defScope (mem 23 20), [], []⟩
def d42 : He5.DefA := ⟨fun K => He.ma K (He.ga K (clsStr 2)) (atStr 0), "__init__", "InvalidHole.__init__", defArgs (mem 3 0), defBody (mem 3 0), defScope (mem 3 0), [], []⟩
def d43 : He5.DefA := ⟨fun K => He.ma K (He.ga K (clsStr 3)) (atStr 0), "__init__", "InvalidPlace.__init__", defArgs (mem 4 0), defBody (mem 4 0), defScope (mem 4 0), [], []⟩
def d44 : He5.DefA := ⟨fun K => He.ma K (He.ga K (clsStr 7)) (atStr 0), "__init__", "InvalidNumber.__init__", defArgs (mem 6 0), defBody (mem 6 0), defScope (mem 6 0), [], []⟩
def d45 : He5.DefA := ⟨fun K => He.ma K (He.ga K (clsStr 17)) (atStr 0), "__init__", "TooMany.__init__", defArgs (mem 7 0), defBody (mem 7 0), defScope (mem 7 0), [.str "places"], []⟩
def fn : List He5.DefA := [d0, d1, d2, d3, d4, d5, d6, d7, d8, d9, d10, d11, d12, d13, d14, d15, d16, d17, d18, d19, d20, d21, d22, d23, d24, d25, d26, d27, d28, d29, d30, d31, d32, d33, d34, d35, d36, d37, d38, d39, d40, d41, d42, d43, d44, d45]
def fl (K : PySem.W.Frag) : List Bool := [gloB K "is_word", gloB K "is_hole", gloB K "is_letter", gloB K "is_number", gloB K "need_size", gloB K "holes_in", gloB K "made", gloB K "counts", gloB K "least_lengths", gloB K "is_sum", gloB K "needed_counts", gloB K "_law_bag", gloB K "_law_draw", gloB K "_law_of", gloB K "_law_mixed", gloB K "_law_same", gloB K "_law_names", gloB K "_law_is_letter", gloB K "_law_holes", gloB K "_law_count", gloB K "_law_places", gloB K "_law_sums", gloB K "_law_numbers", gloB K "law", methB K 21 0, methB K 21 13, methB K 21 15, methB K 21 16, methB K 21 17, methB K 21 18, methB K 21 22, methB K 21 30, methB K 21 31, methB K 22 0, methB K 22 13, methB K 22 15, methB K 22 16, methB K 22 17, methB K 22 18, methB K 22 22, methB K 22 30, methB K 22 31, tupAB K (He.dflAt ("Mask", some "__init__") 0 K) [], tupAB K (He.dflAt ("Row", some "__init__") 0 K) []]
def fb (K : PySem.W.Frag) : Bool := factB (fun k => (nms.lookup k).getD "") gls K && (fl K).all id
theorem fl_at {K : PySem.W.Frag} (c : SaysO fb fn K) (i : Nat) {b : Bool} (h : (fl K)[i]? = some b) : b = true := by
  have h1 := c.fact
  unfold fb at h1
  rw [Bool.and_eq_true, List.all_eq_true] at h1
  exact h1.2 b (List.mem_of_getElem? h)
theorem ck0 : chkSs g.noL ["value", "most", "sign"] (defScope (top 15)) fd_is_word_1b0c.body (defBody (top 15)) = true := by decide +kernel
theorem sc0 : FnScope ["value", "most", "sign"] ["value", "most"] (defScope (top 15)) := ⟨rfl, rfl, rfl, by decide +kernel, rfl, by decide +kernel, by decide +kernel⟩
theorem df0 {K : PySem.W.Frag} {h : Heap} {mg : Str → Option Value} (X : K.In h) (G : h.Ns mainGlobals mg) (c : SaysO fb fn K) : DefAt g K mg 1 fd_is_word_1b0c := by
  obtain ⟨dat, F⟩ := c.def_ 0 (d := d0) rfl
  have B := bind_none (fd := fd_is_word_1b0c) (ps := ["value", "most"]) F rfl fun _ _ _ _ _ _ us hl => match us, hl with | [_, _], _ => rfl
  refine ⟨_, dat, _, _, _, _, _, _, _, ["value", "most", "sign"], ["value", "most"], ⟨F, sc0, rfl, rfl, ck0, He.glo_ok X G (fl_at c 0 rfl), B, ?_⟩⟩
  intro q hq; cases hq
theorem ck1 : chkSs g.noL ["value"] (defScope (top 16)) fd_is_hole_8881.body (defBody (top 16)) = true := by decide +kernel
theorem sc1 : FnScope ["value"] ["value"] (defScope (top 16)) := ⟨rfl, rfl, rfl, by decide +kernel, rfl, by decide +kernel, by decide +kernel⟩
theorem df1 {K : PySem.W.Frag} {h : Heap} {mg : Str → Option Value} (X : K.In h) (G : h.Ns mainGlobals mg) (c : SaysO fb fn K) : DefAt g K mg 10 fd_is_hole_8881 := by
  obtain ⟨dat, F⟩ := c.def_ 1 (d := d1) rfl
  have B := bind_none (fd := fd_is_hole_8881) (ps := ["value"]) F rfl fun _ _ _ _ _ _ us hl => match us, hl with | [_], _ => rfl
  refine ⟨_, dat, _, _, _, _, _, _, _, ["value"], ["value"], ⟨F, sc1, rfl, rfl, ck1, He.glo_ok X G (fl_at c 1 rfl), B, ?_⟩⟩
  intro q hq; cases hq
theorem ck2 : chkSs g.noL ["value"] (defScope (top 17)) fd_is_letter_1500.body (defBody (top 17)) = true := by decide +kernel
theorem sc2 : FnScope ["value"] ["value"] (defScope (top 17)) := ⟨rfl, rfl, rfl, by decide +kernel, rfl, by decide +kernel, by decide +kernel⟩
theorem df2 {K : PySem.W.Frag} {h : Heap} {mg : Str → Option Value} (X : K.In h) (G : h.Ns mainGlobals mg) (c : SaysO fb fn K) : DefAt g K mg 16 fd_is_letter_1500 := by
  obtain ⟨dat, F⟩ := c.def_ 2 (d := d2) rfl
  have B := bind_none (fd := fd_is_letter_1500) (ps := ["value"]) F rfl fun _ _ _ _ _ _ us hl => match us, hl with | [_], _ => rfl
  refine ⟨_, dat, _, _, _, _, _, _, _, ["value"], ["value"], ⟨F, sc2, rfl, rfl, ck2, He.glo_ok X G (fl_at c 2 rfl), B, ?_⟩⟩
  intro q hq; cases hq
theorem ck3 : chkSs g.noL ["value", "least", "most"] (defScope (top 18)) fd_is_number_2af7.body (defBody (top 18)) = true := by decide +kernel
theorem sc3 : FnScope ["value", "least", "most"] ["value", "least", "most"] (defScope (top 18)) := ⟨rfl, rfl, rfl, by decide +kernel, rfl, by decide +kernel, by decide +kernel⟩
theorem df3 {K : PySem.W.Frag} {h : Heap} {mg : Str → Option Value} (X : K.In h) (G : h.Ns mainGlobals mg) (c : SaysO fb fn K) : DefAt g K mg 27 fd_is_number_2af7 := by
  obtain ⟨dat, F⟩ := c.def_ 3 (d := d3) rfl
  have B := bind_none (fd := fd_is_number_2af7) (ps := ["value", "least", "most"]) F rfl fun _ _ _ _ _ _ us hl => match us, hl with | [_, _, _], _ => rfl
  refine ⟨_, dat, _, _, _, _, _, _, _, ["value", "least", "most"], ["value", "least", "most"], ⟨F, sc3, rfl, rfl, ck3, He.glo_ok X G (fl_at c 3 rfl), B, ?_⟩⟩
  intro q hq; cases hq
theorem ck4 : chkSs g.noL ["places"] (defScope (top 19)) fd_need_size_bf63.body (defBody (top 19)) = true := by decide +kernel
theorem sc4 : FnScope ["places"] ["places"] (defScope (top 19)) := ⟨rfl, rfl, rfl, by decide +kernel, rfl, by decide +kernel, by decide +kernel⟩
theorem df4 {K : PySem.W.Frag} {h : Heap} {mg : Str → Option Value} (X : K.In h) (G : h.Ns mainGlobals mg) (c : SaysO fb fn K) : DefAt g K mg 23 fd_need_size_bf63 := by
  obtain ⟨dat, F⟩ := c.def_ 4 (d := d4) rfl
  have B := bind_none (fd := fd_need_size_bf63) (ps := ["places"]) F rfl fun _ _ _ _ _ _ us hl => match us, hl with | [_], _ => rfl
  refine ⟨_, dat, _, _, _, _, _, _, _, ["places"], ["places"], ⟨F, sc4, rfl, rfl, ck4, He.glo_ok X G (fl_at c 4 rfl), B, ?_⟩⟩
  intro q hq; cases hq
theorem ck5 : chkSs g.noL ["places", "found", "place"] (defScope (top 20)) fd_holes_in_527e.body (defBody (top 20)) = true := by decide +kernel
theorem sc5 : FnScope ["places", "found", "place"] ["places"] (defScope (top 20)) := ⟨rfl, rfl, rfl, by decide +kernel, rfl, by decide +kernel, by decide +kernel⟩
theorem df5 {K : PySem.W.Frag} {h : Heap} {mg : Str → Option Value} (X : K.In h) (G : h.Ns mainGlobals mg) (c : SaysO fb fn K) : DefAt g K mg 15 fd_holes_in_527e := by
  obtain ⟨dat, F⟩ := c.def_ 5 (d := d5) rfl
  have B := bind_none (fd := fd_holes_in_527e) (ps := ["places"]) F rfl fun _ _ _ _ _ _ us hl => match us, hl with | [_], _ => rfl
  refine ⟨_, dat, _, _, _, _, _, _, _, ["places", "found", "place"], ["places"], ⟨F, sc5, rfl, rfl, ck5, He.glo_ok X G (fl_at c 5 rfl), B, ?_⟩⟩
  intro q hq; cases hq
theorem ck6 : chkSs g.noL ["places", "place"] (defScope (top 21)) fd_made_a94e.body (defBody (top 21)) = true := by decide +kernel
theorem sc6 : FnScope ["places", "place"] ["places"] (defScope (top 21)) := ⟨rfl, rfl, rfl, by decide +kernel, rfl, by decide +kernel, by decide +kernel⟩
theorem df6 {K : PySem.W.Frag} {h : Heap} {mg : Str → Option Value} (X : K.In h) (G : h.Ns mainGlobals mg) (c : SaysO fb fn K) : DefAt g K mg 25 fd_made_a94e := by
  obtain ⟨dat, F⟩ := c.def_ 6 (d := d6) rfl
  have B := bind_none (fd := fd_made_a94e) (ps := ["places"]) F rfl fun _ _ _ _ _ _ us hl => match us, hl with | [_], _ => rfl
  refine ⟨_, dat, _, _, _, _, _, _, _, ["places", "place"], ["places"], ⟨F, sc6, rfl, rfl, ck6, He.glo_ok X G (fl_at c 6 rfl), B, ?_⟩⟩
  intro q hq; cases hq
theorem ck7 : chkSs g.noL ["row", "found", "hole"] (defScope (top 26)) fd_counts_807e.body (defBody (top 26)) = true := by decide +kernel
theorem sc7 : FnScope ["row", "found", "hole"] ["row"] (defScope (top 26)) := ⟨rfl, rfl, rfl, by decide +kernel, rfl, by decide +kernel, by decide +kernel⟩
theorem df7 {K : PySem.W.Frag} {h : Heap} {mg : Str → Option Value} (X : K.In h) (G : h.Ns mainGlobals mg) (c : SaysO fb fn K) : DefAt g K mg 49 (fd_counts_807e.kb [(0, ["row"], [.kw 0])]) := by
  obtain ⟨dat, F⟩ := c.def_ 7 (d := d7) rfl
  have B := bind_none (fd := (fd_counts_807e.kb [(0, ["row"], [.kw 0])])) (ps := ["row"]) F rfl fun _ _ _ _ _ _ us hl => match us, hl with | [_], _ => rfl
  refine ⟨_, dat, _, _, _, _, _, _, _, ["row", "found", "hole"], ["row"], ⟨F, sc7, rfl, rfl, ck7, He.glo_ok X G (fl_at c 7 rfl), B, ?_⟩⟩
  intro q hq
  have hq : q = ((0, ["row"], [Src.kw 0]) : Nat × List Str × List Src) := by simpa [Fd.kb] using hq
  rcases hq with rfl
  · exact kb_none (fd := (fd_counts_807e.kb [(0, ["row"], [.kw 0])])) (ps := ["row"]) F (n := 0) (ks := ["row"]) (src := [.kw 0]) rfl rfl rfl fun _ _ _ _ _ _ us ws hu hw => match us, ws, hu, hw with | [], [_], _, _ => rfl
theorem ck8 : chkSs g.noL ["numbers", "modulus", "found", "turn", "rest", "number", "total"] (defScope (top 27)) fd_least_lengths_0b03.body (defBody (top 27)) = true := by decide +kernel
theorem sc8 : FnScope ["numbers", "modulus", "found", "turn", "rest", "number", "total"] ["numbers"] (defScope (top 27)) := ⟨rfl, rfl, rfl, by decide +kernel, rfl, by decide +kernel, by decide +kernel⟩
theorem df8 {K : PySem.W.Frag} {h : Heap} {mg : Str → Option Value} (X : K.In h) (G : h.Ns mainGlobals mg) (c : SaysO fb fn K) : DefAt g K mg 41 fd_least_lengths_0b03 := by
  obtain ⟨dat, F⟩ := c.def_ 8 (d := d8) rfl
  have B := bind_none (fd := fd_least_lengths_0b03) (ps := ["numbers"]) F rfl fun _ _ _ _ _ _ us hl => match us, hl with | [_], _ => rfl
  refine ⟨_, dat, _, _, _, _, _, _, _, ["numbers", "modulus", "found", "turn", "rest", "number", "total"], ["numbers"], ⟨F, sc8, rfl, rfl, ck8, He.glo_ok X G (fl_at c 8 rfl), B, ?_⟩⟩
  intro q hq; cases hq
theorem ck9 : chkSs g.noL ["numbers", "total", "least"] (defScope (top 28)) fd_is_sum_6d5f.body (defBody (top 28)) = true := by decide +kernel
theorem sc9 : FnScope ["numbers", "total", "least"] ["numbers", "total"] (defScope (top 28)) := ⟨rfl, rfl, rfl, by decide +kernel, rfl, by decide +kernel, by decide +kernel⟩
theorem df9 {K : PySem.W.Frag} {h : Heap} {mg : Str → Option Value} (X : K.In h) (G : h.Ns mainGlobals mg) (c : SaysO fb fn K) : DefAt g K mg 50 fd_is_sum_6d5f := by
  obtain ⟨dat, F⟩ := c.def_ 9 (d := d9) rfl
  have B := bind_none (fd := fd_is_sum_6d5f) (ps := ["numbers", "total"]) F rfl fun _ _ _ _ _ _ us hl => match us, hl with | [_, _], _ => rfl
  refine ⟨_, dat, _, _, _, _, _, _, _, ["numbers", "total", "least"], ["numbers", "total"], ⟨F, sc9, rfl, rfl, ck9, He.glo_ok X G (fl_at c 9 rfl), B, ?_⟩⟩
  intro q hq; cases hq
theorem ck10 : chkSs g.noL ["row", "found", "number"] (defScope (top 29)) fd_needed_counts_4b1d.body (defBody (top 29)) = true := by decide +kernel
theorem sc10 : FnScope ["row", "found", "number"] ["row"] (defScope (top 29)) := ⟨rfl, rfl, rfl, by decide +kernel, rfl, by decide +kernel, by decide +kernel⟩
theorem df10 {K : PySem.W.Frag} {h : Heap} {mg : Str → Option Value} (X : K.In h) (G : h.Ns mainGlobals mg) (c : SaysO fb fn K) : DefAt g K mg 55 (fd_needed_counts_4b1d.kb [(0, ["row"], [.kw 0])]) := by
  obtain ⟨dat, F⟩ := c.def_ 10 (d := d10) rfl
  have B := bind_none (fd := (fd_needed_counts_4b1d.kb [(0, ["row"], [.kw 0])])) (ps := ["row"]) F rfl fun _ _ _ _ _ _ us hl => match us, hl with | [_], _ => rfl
  refine ⟨_, dat, _, _, _, _, _, _, _, ["row", "found", "number"], ["row"], ⟨F, sc10, rfl, rfl, ck10, He.glo_ok X G (fl_at c 10 rfl), B, ?_⟩⟩
  intro q hq
  have hq : q = ((0, ["row"], [Src.kw 0]) : Nat × List Str × List Src) := by simpa [Fd.kb] using hq
  rcases hq with rfl
  · exact kb_none (fd := (fd_needed_counts_4b1d.kb [(0, ["row"], [.kw 0])])) (ps := ["row"]) F (n := 0) (ks := ["row"]) (src := [.kw 0]) rfl rfl rfl fun _ _ _ _ _ _ us ws hu hw => match us, ws, hu, hw with | [], [_], _, _ => rfl
theorem ck11 : chkSs g.noL ["_law_script", "_law_cells_z", "_law_cell", "_law_seed"] (defScope (top 31)) fd_law_bag_44ba.body (defBody (top 31)) = true := by decide +kernel
theorem sc11 : FnScope ["_law_script", "_law_cells_z", "_law_cell", "_law_seed"] ["_law_script"] (defScope (top 31)) := ⟨rfl, rfl, rfl, by decide +kernel, rfl, by decide +kernel, by decide +kernel⟩
theorem df11 {K : PySem.W.Frag} {h : Heap} {mg : Str → Option Value} (X : K.In h) (G : h.Ns mainGlobals mg) (c : SaysO fb fn K) : DefAt g K mg 7 fd_law_bag_44ba := by
  obtain ⟨dat, F⟩ := c.def_ 11 (d := d11) rfl
  have B := bind_none (fd := fd_law_bag_44ba) (ps := ["_law_script"]) F rfl fun _ _ _ _ _ _ us hl => match us, hl with | [_], _ => rfl
  refine ⟨_, dat, _, _, _, _, _, _, _, ["_law_script", "_law_cells_z", "_law_cell", "_law_seed"], ["_law_script"], ⟨F, sc11, rfl, rfl, ck11, He.glo_ok X G (fl_at c 11 rfl), B, ?_⟩⟩
  intro q hq; cases hq
theorem ck12 : chkSs g.noL ["_law_bag_here", "_law_many", "_law_cell", "_law_early", "_law_late", "_law_drawn"] (defScope (top 32)) fd_law_draw_1586.body (defBody (top 32)) = true := by decide +kernel
theorem sc12 : FnScope ["_law_bag_here", "_law_many", "_law_cell", "_law_early", "_law_late", "_law_drawn"] ["_law_bag_here", "_law_many"] (defScope (top 32)) := ⟨rfl, rfl, rfl, by decide +kernel, rfl, by decide +kernel, by decide +kernel⟩
theorem df12 {K : PySem.W.Frag} {h : Heap} {mg : Str → Option Value} (X : K.In h) (G : h.Ns mainGlobals mg) (c : SaysO fb fn K) : DefAt g K mg 4 fd_law_draw_1586 := by
  obtain ⟨dat, F⟩ := c.def_ 12 (d := d12) rfl
  have B := bind_none (fd := fd_law_draw_1586) (ps := ["_law_bag_here", "_law_many"]) F rfl fun _ _ _ _ _ _ us hl => match us, hl with | [_, _], _ => rfl
  refine ⟨_, dat, _, _, _, _, _, _, _, ["_law_bag_here", "_law_many", "_law_cell", "_law_early", "_law_late", "_law_drawn"], ["_law_bag_here", "_law_many"], ⟨F, sc12, rfl, rfl, ck12, He.glo_ok X G (fl_at c 12 rfl), B, ?_⟩⟩
  intro q hq; cases hq
theorem ck13 : chkSs g.noL ["_law_bag_here", "_law_items_z"] (defScope (top 33)) fd_law_of_2b71.body (defBody (top 33)) = true := by decide +kernel
theorem sc13 : FnScope ["_law_bag_here", "_law_items_z"] ["_law_bag_here", "_law_items_z"] (defScope (top 33)) := ⟨rfl, rfl, rfl, by decide +kernel, rfl, by decide +kernel, by decide +kernel⟩
theorem df13 {K : PySem.W.Frag} {h : Heap} {mg : Str → Option Value} (X : K.In h) (G : h.Ns mainGlobals mg) (c : SaysO fb fn K) : DefAt g K mg 6 fd_law_of_2b71 := by
  obtain ⟨dat, F⟩ := c.def_ 13 (d := d13) rfl
  have B := bind_none (fd := fd_law_of_2b71) (ps := ["_law_bag_here", "_law_items_z"]) F rfl fun _ _ _ _ _ _ us hl => match us, hl with | [_, _], _ => rfl
  refine ⟨_, dat, _, _, _, _, _, _, _, ["_law_bag_here", "_law_items_z"], ["_law_bag_here", "_law_items_z"], ⟨F, sc13, rfl, rfl, ck13, He.glo_ok X G (fl_at c 13 rfl), B, ?_⟩⟩
  intro q hq; cases hq
theorem ck14 : chkSs g.noL ["_law_bag_here", "_law_some", "_law_found", "_law_thing"] (defScope (top 34)) fd_law_mixed_3d7f.body (defBody (top 34)) = true := by decide +kernel
theorem sc14 : FnScope ["_law_bag_here", "_law_some", "_law_found", "_law_thing"] ["_law_bag_here", "_law_some"] (defScope (top 34)) := ⟨rfl, rfl, rfl, by decide +kernel, rfl, by decide +kernel, by decide +kernel⟩
theorem df14 {K : PySem.W.Frag} {h : Heap} {mg : Str → Option Value} (X : K.In h) (G : h.Ns mainGlobals mg) (c : SaysO fb fn K) : DefAt g K mg 54 fd_law_mixed_3d7f := by
  obtain ⟨dat, F⟩ := c.def_ 14 (d := d14) rfl
  have B := bind_none (fd := fd_law_mixed_3d7f) (ps := ["_law_bag_here", "_law_some"]) F rfl fun _ _ _ _ _ _ us hl => match us, hl with | [_, _], _ => rfl
  refine ⟨_, dat, _, _, _, _, _, _, _, ["_law_bag_here", "_law_some", "_law_found", "_law_thing"], ["_law_bag_here", "_law_some"], ⟨F, sc14, rfl, rfl, ck14, He.glo_ok X G (fl_at c 14 rfl), B, ?_⟩⟩
  intro q hq; cases hq
theorem ck15 : chkSs g.noL ["_law_found", "_law_due", "_law_key", "_law_a", "_law_b"] (defScope (top 35)) fd_law_same_18bd.body (defBody (top 35)) = true := by decide +kernel
theorem sc15 : FnScope ["_law_found", "_law_due", "_law_key", "_law_a", "_law_b"] ["_law_found", "_law_due"] (defScope (top 35)) := ⟨rfl, rfl, rfl, by decide +kernel, rfl, by decide +kernel, by decide +kernel⟩
theorem df15 {K : PySem.W.Frag} {h : Heap} {mg : Str → Option Value} (X : K.In h) (G : h.Ns mainGlobals mg) (c : SaysO fb fn K) : DefAt g K mg 5 fd_law_same_18bd := by
  obtain ⟨dat, F⟩ := c.def_ 15 (d := d15) rfl
  have B := bind_none (fd := fd_law_same_18bd) (ps := ["_law_found", "_law_due"]) F rfl fun _ _ _ _ _ _ us hl => match us, hl with | [_, _], _ => rfl
  refine ⟨_, dat, _, _, _, _, _, _, _, ["_law_found", "_law_due", "_law_key", "_law_a", "_law_b"], ["_law_found", "_law_due"], ⟨F, sc15, rfl, rfl, ck15, He.glo_ok X G (fl_at c 15 rfl), B, ?_⟩⟩
  intro q hq; cases hq
theorem ck16 : chkSs g.noL ["_law_bag_here", "_law_many", "_law_letters", "_law_stem", "_law_k", "_law_at", "_law_early", "_law_step"] (defScope (top 36)) fd_law_names_67b2.body (defBody (top 36)) = true := by decide +kernel
theorem sc16 : FnScope ["_law_bag_here", "_law_many", "_law_letters", "_law_stem", "_law_k", "_law_at", "_law_early", "_law_step"] ["_law_bag_here", "_law_many"] (defScope (top 36)) := ⟨rfl, rfl, rfl, by decide +kernel, rfl, by decide +kernel, by decide +kernel⟩
theorem df16 {K : PySem.W.Frag} {h : Heap} {mg : Str → Option Value} (X : K.In h) (G : h.Ns mainGlobals mg) (c : SaysO fb fn K) : DefAt g K mg 8 fd_law_names_67b2 := by
  obtain ⟨dat, F⟩ := c.def_ 16 (d := d16) rfl
  have B := bind_none (fd := fd_law_names_67b2) (ps := ["_law_bag_here", "_law_many"]) F rfl fun _ _ _ _ _ _ us hl => match us, hl with | [_, _], _ => rfl
  refine ⟨_, dat, _, _, _, _, _, _, _, ["_law_bag_here", "_law_many", "_law_letters", "_law_stem", "_law_k", "_law_at", "_law_early", "_law_step"], ["_law_bag_here", "_law_many"], ⟨F, sc16, rfl, rfl, ck16, He.glo_ok X G (fl_at c 16 rfl), B, ?_⟩⟩
  intro q hq; cases hq
theorem ck17 : chkSs g.noL ["_law_place"] (defScope (top 37)) fd_law_is_letter_94aa.body (defBody (top 37)) = true := by decide +kernel
theorem sc17 : FnScope ["_law_place"] ["_law_place"] (defScope (top 37)) := ⟨rfl, rfl, rfl, by decide +kernel, rfl, by decide +kernel, by decide +kernel⟩
theorem df17 {K : PySem.W.Frag} {h : Heap} {mg : Str → Option Value} (X : K.In h) (G : h.Ns mainGlobals mg) (c : SaysO fb fn K) : DefAt g K mg 18 fd_law_is_letter_94aa := by
  obtain ⟨dat, F⟩ := c.def_ 17 (d := d17) rfl
  have B := bind_none (fd := fd_law_is_letter_94aa) (ps := ["_law_place"]) F rfl fun _ _ _ _ _ _ us hl => match us, hl with | [_], _ => rfl
  refine ⟨_, dat, _, _, _, _, _, _, _, ["_law_place"], ["_law_place"], ⟨F, sc17, rfl, rfl, ck17, He.glo_ok X G (fl_at c 17 rfl), B, ?_⟩⟩
  intro q hq; cases hq
theorem ck18 : chkSs g.noL ["_law_places_here", "_law_found", "_law_place"] (defScope (top 38)) fd_law_holes_ad8c.body (defBody (top 38)) = true := by decide +kernel
theorem sc18 : FnScope ["_law_places_here", "_law_found", "_law_place"] ["_law_places_here"] (defScope (top 38)) := ⟨rfl, rfl, rfl, by decide +kernel, rfl, by decide +kernel, by decide +kernel⟩
theorem df18 {K : PySem.W.Frag} {h : Heap} {mg : Str → Option Value} (X : K.In h) (G : h.Ns mainGlobals mg) (c : SaysO fb fn K) : DefAt g K mg 22 fd_law_holes_ad8c := by
  obtain ⟨dat, F⟩ := c.def_ 18 (d := d18) rfl
  have B := bind_none (fd := fd_law_holes_ad8c) (ps := ["_law_places_here"]) F rfl fun _ _ _ _ _ _ us hl => match us, hl with | [_], _ => rfl
  refine ⟨_, dat, _, _, _, _, _, _, _, ["_law_places_here", "_law_found", "_law_place"], ["_law_places_here"], ⟨F, sc18, rfl, rfl, ck18, He.glo_ok X G (fl_at c 18 rfl), B, ?_⟩⟩
  intro q hq; cases hq
theorem ck19 : chkSs g.noL ["_law_places_here", "_law_one", "_law_place"] (defScope (top 39)) fd_law_count_6fd4.body (defBody (top 39)) = true := by decide +kernel
theorem sc19 : FnScope ["_law_places_here", "_law_one", "_law_place"] ["_law_places_here", "_law_one"] (defScope (top 39)) := ⟨rfl, rfl, rfl, by decide +kernel, rfl, by decide +kernel, by decide +kernel⟩
theorem df19 {K : PySem.W.Frag} {h : Heap} {mg : Str → Option Value} (X : K.In h) (G : h.Ns mainGlobals mg) (c : SaysO fb fn K) : DefAt g K mg 33 fd_law_count_6fd4 := by
  obtain ⟨dat, F⟩ := c.def_ 19 (d := d19) rfl
  have B := bind_none (fd := fd_law_count_6fd4) (ps := ["_law_places_here", "_law_one"]) F rfl fun _ _ _ _ _ _ us hl => match us, hl with | [_, _], _ => rfl
  refine ⟨_, dat, _, _, _, _, _, _, _, ["_law_places_here", "_law_one", "_law_place"], ["_law_places_here", "_law_one"], ⟨F, sc19, rfl, rfl, ck19, He.glo_ok X G (fl_at c 19 rfl), B, ?_⟩⟩
  intro q hq; cases hq
theorem ck20 : chkSs g.noL ["_law_bag_here", "_law_names_here", "_law_least", "_law_most", "_law_found", "_law_k"] (defScope (top 40)) fd_law_places_aaf2.body (defBody (top 40)) = true := by decide +kernel
theorem sc20 : FnScope ["_law_bag_here", "_law_names_here", "_law_least", "_law_most", "_law_found", "_law_k"] ["_law_bag_here", "_law_names_here", "_law_least", "_law_most"] (defScope (top 40)) := ⟨rfl, rfl, rfl, by decide +kernel, rfl, by decide +kernel, by decide +kernel⟩
theorem df20 {K : PySem.W.Frag} {h : Heap} {mg : Str → Option Value} (X : K.In h) (G : h.Ns mainGlobals mg) (c : SaysO fb fn K) : DefAt g K mg 19 fd_law_places_aaf2 := by
  obtain ⟨dat, F⟩ := c.def_ 20 (d := d20) rfl
  have B := bind_none (fd := fd_law_places_aaf2) (ps := ["_law_bag_here", "_law_names_here", "_law_least", "_law_most"]) F rfl fun _ _ _ _ _ _ us hl => match us, hl with | [_, _, _, _], _ => rfl
  refine ⟨_, dat, _, _, _, _, _, _, _, ["_law_bag_here", "_law_names_here", "_law_least", "_law_most", "_law_found", "_law_k"], ["_law_bag_here", "_law_names_here", "_law_least", "_law_most"], ⟨F, sc20, rfl, rfl, ck20, He.glo_ok X G (fl_at c 20 rfl), B, ?_⟩⟩
  intro q hq; cases hq
theorem ck21 : chkSs g.noL ["_law_numbers_here", "_law_top", "_law_found", "_law_total", "_law_number"] (defScope (top 41)) fd_law_sums_0c3d.body (defBody (top 41)) = true := by decide +kernel
theorem sc21 : FnScope ["_law_numbers_here", "_law_top", "_law_found", "_law_total", "_law_number"] ["_law_numbers_here", "_law_top"] (defScope (top 41)) := ⟨rfl, rfl, rfl, by decide +kernel, rfl, by decide +kernel, by decide +kernel⟩
theorem df21 {K : PySem.W.Frag} {h : Heap} {mg : Str → Option Value} (X : K.In h) (G : h.Ns mainGlobals mg) (c : SaysO fb fn K) : DefAt g K mg 46 fd_law_sums_0c3d := by
  obtain ⟨dat, F⟩ := c.def_ 21 (d := d21) rfl
  have B := bind_none (fd := fd_law_sums_0c3d) (ps := ["_law_numbers_here", "_law_top"]) F rfl fun _ _ _ _ _ _ us hl => match us, hl with | [_, _], _ => rfl
  refine ⟨_, dat, _, _, _, _, _, _, _, ["_law_numbers_here", "_law_top", "_law_found", "_law_total", "_law_number"], ["_law_numbers_here", "_law_top"], ⟨F, sc21, rfl, rfl, ck21, He.glo_ok X G (fl_at c 21 rfl), B, ?_⟩⟩
  intro q hq; cases hq
theorem ck22 : chkSs g.noL ["_law_places_here", "_law_hole"] (defScope (top 42)) fd_law_numbers_e0f1.body (defBody (top 42)) = true := by decide +kernel
theorem sc22 : FnScope ["_law_places_here", "_law_hole"] ["_law_places_here"] (defScope (top 42)) := ⟨rfl, rfl, rfl, by decide +kernel, rfl, by decide +kernel, by decide +kernel⟩
theorem df22 {K : PySem.W.Frag} {h : Heap} {mg : Str → Option Value} (X : K.In h) (G : h.Ns mainGlobals mg) (c : SaysO fb fn K) : DefAt g K mg 47 fd_law_numbers_e0f1 := by
  obtain ⟨dat, F⟩ := c.def_ 22 (d := d22) rfl
  have B := bind_none (fd := fd_law_numbers_e0f1) (ps := ["_law_places_here"]) F rfl fun _ _ _ _ _ _ us hl => match us, hl with | [_], _ => rfl
  refine ⟨_, dat, _, _, _, _, _, _, _, ["_law_places_here", "_law_hole"], ["_law_places_here"], ⟨F, sc22, rfl, rfl, ck22, He.glo_ok X G (fl_at c 22 rfl), B, ?_⟩⟩
  intro q hq; cases hq
theorem ck23 : chkSs g ["_law_script", "_law_bag_here", "_law_turn", "_law_names_here", "_law_some", "_law_row_z", "_law_due", "_law_few", "_law_again", "_law_found", "_law_k"] (defScope (top 43)) fd_law_faef.body (defBody (top 43)) = true := by decide +kernel
theorem sc23 : FnScope ["_law_script", "_law_bag_here", "_law_turn", "_law_names_here", "_law_some", "_law_row_z", "_law_due", "_law_few", "_law_again", "_law_found", "_law_k"] ["_law_script"] (defScope (top 43)) := ⟨rfl, rfl, rfl, by decide +kernel, rfl, by decide +kernel, by decide +kernel⟩
theorem ck24 : chkSs g.noL ["self", "places"] (defScope (mem 23 1)) fd_Mask_init_9c3c.body (defBody (mem 23 1)) = true := by decide +kernel
theorem sc24 : FnScope ["self", "places"] ["self", "places"] (defScope (mem 23 1)) := ⟨rfl, rfl, rfl, by decide +kernel, rfl, by decide +kernel, by decide +kernel⟩
theorem df24 {K : PySem.W.Frag} {h : Heap} {mg : Str → Option Value} (X : K.In h) (G : h.Ns mainGlobals mg) (c : SaysO fb fn K) : DefAt g K mg 5200 fd_Mask_init_9c3c := by
  obtain ⟨dat, F⟩ := c.def_ 24 (d := d24) rfl
  have R : ∀ L H, Reps K L H (d24.dvs K) fd_Mask_init_9c3c.dfl := fun L H => .cons (.tup (.inr ⟨tupAB_ok (fl_at c 42 rfl), rfl⟩) .nil) (.nil)
  have B := bind_dfl (fd := fd_Mask_init_9c3c) (ps := ["self", "places"]) F (by intro z; cases z) R (Nat.le_of_ble_eq_true rfl) fun k hk T kV doc pm an cdv ct us its hu hi => by
    have hk : k ≤ 1 := hk
    have : k = 0 ∨ k = 1 := by omega
    rcases this with rfl | rfl
    · exact match us, its, hu, hi with | [_], [_], _, _ => ⟨_, rfl, rfl⟩
    · exact match us, its, hu, hi with | [_, _], [_], _, _ => ⟨_, rfl, rfl⟩
  refine ⟨_, dat, _, _, _, _, _, _, _, ["self", "places"], ["self", "places"], ⟨F, sc24, rfl, rfl, ck24, methB_ok (fl_at c 24 rfl), B, ?_⟩⟩
  intro q hq; cases hq
theorem ck25 : chkSs g.noL ["self", "places", "at", "place"] (defScope (mem 23 2)) fd_Mask_check_4d1c.body (defBody (mem 23 2)) = true := by decide +kernel
theorem sc25 : FnScope ["self", "places", "at", "place"] ["self", "places"] (defScope (mem 23 2)) := ⟨rfl, rfl, rfl, by decide +kernel, rfl, by decide +kernel, by decide +kernel⟩
theorem df25 {K : PySem.W.Frag} {h : Heap} {mg : Str → Option Value} (X : K.In h) (G : h.Ns mainGlobals mg) (c : SaysO fb fn K) : DefAt g K mg 5213 fd_Mask_check_4d1c := by
  obtain ⟨dat, F⟩ := c.def_ 25 (d := d25) rfl
  have B := bind_none (fd := fd_Mask_check_4d1c) (ps := ["self", "places"]) F rfl fun _ _ _ _ _ _ us hl => match us, hl with | [_, _], _ => rfl
  refine ⟨_, dat, _, _, _, _, _, _, _, ["self", "places", "at", "place"], ["self", "places"], ⟨F, sc25, rfl, rfl, ck25, methB_ok (fl_at c 25 rfl), B, ?_⟩⟩
  intro q hq; cases hq
theorem ck26 : chkSs g.noL ["self"] (defScope (mem 23 4)) fd_Mask_places_5024.body (defBody (mem 23 4)) = true := by decide +kernel
theorem sc26 : FnScope ["self"] ["self"] (defScope (mem 23 4)) := ⟨rfl, rfl, rfl, by decide +kernel, rfl, by decide +kernel, by decide +kernel⟩
theorem df26 {K : PySem.W.Frag} {h : Heap} {mg : Str → Option Value} (X : K.In h) (G : h.Ns mainGlobals mg) (c : SaysO fb fn K) : DefAt g K mg 5215 fd_Mask_places_5024 := by
  obtain ⟨dat, F⟩ := c.def_ 26 (d := d26) rfl
  have B := bind_none (fd := fd_Mask_places_5024) (ps := ["self"]) F rfl fun _ _ _ _ _ _ us hl => match us, hl with | [_], _ => rfl
  refine ⟨_, dat, _, _, _, _, _, _, _, ["self"], ["self"], ⟨F, sc26, rfl, rfl, ck26, methB_ok (fl_at c 26 rfl), B, ?_⟩⟩
  intro q hq; cases hq
theorem ck27 : chkSs g.noL ["self"] (defScope (mem 23 5)) fd_Mask_holes_c1a6.body (defBody (mem 23 5)) = true := by decide +kernel
theorem sc27 : FnScope ["self"] ["self"] (defScope (mem 23 5)) := ⟨rfl, rfl, rfl, by decide +kernel, rfl, by decide +kernel, by decide +kernel⟩
theorem df27 {K : PySem.W.Frag} {h : Heap} {mg : Str → Option Value} (X : K.In h) (G : h.Ns mainGlobals mg) (c : SaysO fb fn K) : DefAt g K mg 5216 fd_Mask_holes_c1a6 := by
  obtain ⟨dat, F⟩ := c.def_ 27 (d := d27) rfl
  have B := bind_none (fd := fd_Mask_holes_c1a6) (ps := ["self"]) F rfl fun _ _ _ _ _ _ us hl => match us, hl with | [_], _ => rfl
  refine ⟨_, dat, _, _, _, _, _, _, _, ["self"], ["self"], ⟨F, sc27, rfl, rfl, ck27, methB_ok (fl_at c 27 rfl), B, ?_⟩⟩
  intro q hq; cases hq
theorem ck28 : chkSs g.noL ["self", "place", "one"] (defScope (mem 23 6)) fd_Mask_count_d5a7.body (defBody (mem 23 6)) = true := by decide +kernel
theorem sc28 : FnScope ["self", "place", "one"] ["self", "place"] (defScope (mem 23 6)) := ⟨rfl, rfl, rfl, by decide +kernel, rfl, by decide +kernel, by decide +kernel⟩
theorem df28 {K : PySem.W.Frag} {h : Heap} {mg : Str → Option Value} (X : K.In h) (G : h.Ns mainGlobals mg) (c : SaysO fb fn K) : DefAt g K mg 5217 fd_Mask_count_d5a7 := by
  obtain ⟨dat, F⟩ := c.def_ 28 (d := d28) rfl
  have B := bind_none (fd := fd_Mask_count_d5a7) (ps := ["self", "place"]) F rfl fun _ _ _ _ _ _ us hl => match us, hl with | [_, _], _ => rfl
  refine ⟨_, dat, _, _, _, _, _, _, _, ["self", "place", "one"], ["self", "place"], ⟨F, sc28, rfl, rfl, ck28, methB_ok (fl_at c 28 rfl), B, ?_⟩⟩
  intro q hq; cases hq
theorem ck29 : chkSs g.noL ["self"] (defScope (mem 23 7)) fd_Mask_len_7ef1.body (defBody (mem 23 7)) = true := by decide +kernel
theorem sc29 : FnScope ["self"] ["self"] (defScope (mem 23 7)) := ⟨rfl, rfl, rfl, by decide +kernel, rfl, by decide +kernel, by decide +kernel⟩
theorem df29 {K : PySem.W.Frag} {h : Heap} {mg : Str → Option Value} (X : K.In h) (G : h.Ns mainGlobals mg) (c : SaysO fb fn K) : DefAt g K mg 5218 fd_Mask_len_7ef1 := by
  obtain ⟨dat, F⟩ := c.def_ 29 (d := d29) rfl
  have B := bind_none (fd := fd_Mask_len_7ef1) (ps := ["self"]) F rfl fun _ _ _ _ _ _ us hl => match us, hl with | [_], _ => rfl
  refine ⟨_, dat, _, _, _, _, _, _, _, ["self"], ["self"], ⟨F, sc29, rfl, rfl, ck29, methB_ok (fl_at c 29 rfl), B, ?_⟩⟩
  intro q hq; cases hq
theorem ck30 : chkSs g.noL ["self", "other"] (defScope (mem 23 11)) fd_Mask_eq_7551.body (defBody (mem 23 11)) = true := by decide +kernel
theorem sc30 : FnScope ["self", "other"] ["self", "other"] (defScope (mem 23 11)) := ⟨rfl, rfl, rfl, by decide +kernel, rfl, by decide +kernel, by decide +kernel⟩
theorem df30 {K : PySem.W.Frag} {h : Heap} {mg : Str → Option Value} (X : K.In h) (G : h.Ns mainGlobals mg) (c : SaysO fb fn K) : DefAt g K mg 5222 fd_Mask_eq_7551 := by
  obtain ⟨dat, F⟩ := c.def_ 30 (d := d30) rfl
  have B := bind_none (fd := fd_Mask_eq_7551) (ps := ["self", "other"]) F rfl fun _ _ _ _ _ _ us hl => match us, hl with | [_, _], _ => rfl
  refine ⟨_, dat, _, _, _, _, _, _, _, ["self", "other"], ["self", "other"], ⟨F, sc30, rfl, rfl, ck30, methB_ok (fl_at c 30 rfl), B, ?_⟩⟩
  intro q hq; cases hq
theorem ck31 : chkSs g.noL ["self", "other"] (defScope (mem 23 19)) fd_Mask_add_1a55.body (defBody (mem 23 19)) = true := by decide +kernel
theorem sc31 : FnScope ["self", "other"] ["self", "other"] (defScope (mem 23 19)) := ⟨rfl, rfl, rfl, by decide +kernel, rfl, by decide +kernel, by decide +kernel⟩
theorem df31 {K : PySem.W.Frag} {h : Heap} {mg : Str → Option Value} (X : K.In h) (G : h.Ns mainGlobals mg) (c : SaysO fb fn K) : DefAt g K mg 5230 fd_Mask_add_1a55 := by
  obtain ⟨dat, F⟩ := c.def_ 31 (d := d31) rfl
  have B := bind_none (fd := fd_Mask_add_1a55) (ps := ["self", "other"]) F rfl fun _ _ _ _ _ _ us hl => match us, hl with | [_, _], _ => rfl
  refine ⟨_, dat, _, _, _, _, _, _, _, ["self", "other"], ["self", "other"], ⟨F, sc31, rfl, rfl, ck31, methB_ok (fl_at c 31 rfl), B, ?_⟩⟩
  intro q hq; cases hq
theorem ck32 : chkSs g.noL ["self", "number"] (defScope (mem 23 20)) fd_Mask_mul_a763.body (defBody (mem 23 20)) = true := by decide +kernel
theorem sc32 : FnScope ["self", "number"] ["self", "number"] (defScope (mem 23 20)) := ⟨rfl, rfl, rfl, by decide +kernel, rfl, by decide +kernel, by decide +kernel⟩
theorem df32 {K : PySem.W.Frag} {h : Heap} {mg : Str → Option Value} (X : K.In h) (G : h.Ns mainGlobals mg) (c : SaysO fb fn K) : DefAt g K mg 5231 fd_Mask_mul_a763 := by
  obtain ⟨dat, F⟩ := c.def_ 32 (d := d32) rfl
  have B := bind_none (fd := fd_Mask_mul_a763) (ps := ["self", "number"]) F rfl fun _ _ _ _ _ _ us hl => match us, hl with | [_, _], _ => rfl
  refine ⟨_, dat, _, _, _, _, _, _, _, ["self", "number"], ["self", "number"], ⟨F, sc32, rfl, rfl, ck32, methB_ok (fl_at c 32 rfl), B, ?_⟩⟩
  intro q hq; cases hq
theorem ck33 : chkSs g.noL ["self", "places"] (defScope (mem 23 1)) fd_Mask_init_9c3c.body (defBody (mem 23 1)) = true := by decide +kernel
theorem sc33 : FnScope ["self", "places"] ["self", "places"] (defScope (mem 23 1)) := ⟨rfl, rfl, rfl, by decide +kernel, rfl, by decide +kernel, by decide +kernel⟩
theorem df33 {K : PySem.W.Frag} {h : Heap} {mg : Str → Option Value} (X : K.In h) (G : h.Ns mainGlobals mg) (c : SaysO fb fn K) : DefAt g K mg 5400 fd_Mask_init_9c3c := by
  obtain ⟨dat, F⟩ := c.def_ 33 (d := d33) rfl
  have R : ∀ L H, Reps K L H (d33.dvs K) fd_Mask_init_9c3c.dfl := fun L H => .cons (.tup (.inr ⟨tupAB_ok (fl_at c 43 rfl), rfl⟩) .nil) (.nil)
  have B := bind_dfl (fd := fd_Mask_init_9c3c) (ps := ["self", "places"]) F (by intro z; cases z) R (Nat.le_of_ble_eq_true rfl) fun k hk T kV doc pm an cdv ct us its hu hi => by
    have hk : k ≤ 1 := hk
    have : k = 0 ∨ k = 1 := by omega
    rcases this with rfl | rfl
    · exact match us, its, hu, hi with | [_], [_], _, _ => ⟨_, rfl, rfl⟩
    · exact match us, its, hu, hi with | [_, _], [_], _, _ => ⟨_, rfl, rfl⟩
  refine ⟨_, dat, _, _, _, _, _, _, _, ["self", "places"], ["self", "places"], ⟨F, sc33, rfl, rfl, ck33, methB_ok (fl_at c 33 rfl), B, ?_⟩⟩
  intro q hq; cases hq
theorem ck34 : chkSs g.noL ["self", "places", "at", "place"] (defScope (mem 24 2)) fd_Row_check_97a0.body (defBody (mem 24 2)) = true := by decide +kernel
theorem sc34 : FnScope ["self", "places", "at", "place"] ["self", "places"] (defScope (mem 24 2)) := ⟨rfl, rfl, rfl, by decide +kernel, rfl, by decide +kernel, by decide +kernel⟩
theorem df34 {K : PySem.W.Frag} {h : Heap} {mg : Str → Option Value} (X : K.In h) (G : h.Ns mainGlobals mg) (c : SaysO fb fn K) : DefAt g K mg 5413 fd_Row_check_97a0 := by
  obtain ⟨dat, F⟩ := c.def_ 34 (d := d34) rfl
  have B := bind_none (fd := fd_Row_check_97a0) (ps := ["self", "places"]) F rfl fun _ _ _ _ _ _ us hl => match us, hl with | [_, _], _ => rfl
  refine ⟨_, dat, _, _, _, _, _, _, _, ["self", "places", "at", "place"], ["self", "places"], ⟨F, sc34, rfl, rfl, ck34, methB_ok (fl_at c 34 rfl), B, ?_⟩⟩
  intro q hq; cases hq
theorem ck35 : chkSs g.noL ["self"] (defScope (mem 23 4)) fd_Mask_places_5024.body (defBody (mem 23 4)) = true := by decide +kernel
theorem sc35 : FnScope ["self"] ["self"] (defScope (mem 23 4)) := ⟨rfl, rfl, rfl, by decide +kernel, rfl, by decide +kernel, by decide +kernel⟩
theorem df35 {K : PySem.W.Frag} {h : Heap} {mg : Str → Option Value} (X : K.In h) (G : h.Ns mainGlobals mg) (c : SaysO fb fn K) : DefAt g K mg 5415 fd_Mask_places_5024 := by
  obtain ⟨dat, F⟩ := c.def_ 35 (d := d35) rfl
  have B := bind_none (fd := fd_Mask_places_5024) (ps := ["self"]) F rfl fun _ _ _ _ _ _ us hl => match us, hl with | [_], _ => rfl
  refine ⟨_, dat, _, _, _, _, _, _, _, ["self"], ["self"], ⟨F, sc35, rfl, rfl, ck35, methB_ok (fl_at c 35 rfl), B, ?_⟩⟩
  intro q hq; cases hq
theorem ck36 : chkSs g.noL ["self"] (defScope (mem 23 5)) fd_Mask_holes_c1a6.body (defBody (mem 23 5)) = true := by decide +kernel
theorem sc36 : FnScope ["self"] ["self"] (defScope (mem 23 5)) := ⟨rfl, rfl, rfl, by decide +kernel, rfl, by decide +kernel, by decide +kernel⟩
theorem df36 {K : PySem.W.Frag} {h : Heap} {mg : Str → Option Value} (X : K.In h) (G : h.Ns mainGlobals mg) (c : SaysO fb fn K) : DefAt g K mg 5416 fd_Mask_holes_c1a6 := by
  obtain ⟨dat, F⟩ := c.def_ 36 (d := d36) rfl
  have B := bind_none (fd := fd_Mask_holes_c1a6) (ps := ["self"]) F rfl fun _ _ _ _ _ _ us hl => match us, hl with | [_], _ => rfl
  refine ⟨_, dat, _, _, _, _, _, _, _, ["self"], ["self"], ⟨F, sc36, rfl, rfl, ck36, methB_ok (fl_at c 36 rfl), B, ?_⟩⟩
  intro q hq; cases hq
theorem ck37 : chkSs g.noL ["self", "place", "one"] (defScope (mem 23 6)) fd_Mask_count_d5a7.body (defBody (mem 23 6)) = true := by decide +kernel
theorem sc37 : FnScope ["self", "place", "one"] ["self", "place"] (defScope (mem 23 6)) := ⟨rfl, rfl, rfl, by decide +kernel, rfl, by decide +kernel, by decide +kernel⟩
theorem df37 {K : PySem.W.Frag} {h : Heap} {mg : Str → Option Value} (X : K.In h) (G : h.Ns mainGlobals mg) (c : SaysO fb fn K) : DefAt g K mg 5417 fd_Mask_count_d5a7 := by
  obtain ⟨dat, F⟩ := c.def_ 37 (d := d37) rfl
  have B := bind_none (fd := fd_Mask_count_d5a7) (ps := ["self", "place"]) F rfl fun _ _ _ _ _ _ us hl => match us, hl with | [_, _], _ => rfl
  refine ⟨_, dat, _, _, _, _, _, _, _, ["self", "place", "one"], ["self", "place"], ⟨F, sc37, rfl, rfl, ck37, methB_ok (fl_at c 37 rfl), B, ?_⟩⟩
  intro q hq; cases hq
theorem ck38 : chkSs g.noL ["self"] (defScope (mem 23 7)) fd_Mask_len_7ef1.body (defBody (mem 23 7)) = true := by decide +kernel
theorem sc38 : FnScope ["self"] ["self"] (defScope (mem 23 7)) := ⟨rfl, rfl, rfl, by decide +kernel, rfl, by decide +kernel, by decide +kernel⟩
theorem df38 {K : PySem.W.Frag} {h : Heap} {mg : Str → Option Value} (X : K.In h) (G : h.Ns mainGlobals mg) (c : SaysO fb fn K) : DefAt g K mg 5418 fd_Mask_len_7ef1 := by
  obtain ⟨dat, F⟩ := c.def_ 38 (d := d38) rfl
  have B := bind_none (fd := fd_Mask_len_7ef1) (ps := ["self"]) F rfl fun _ _ _ _ _ _ us hl => match us, hl with | [_], _ => rfl
  refine ⟨_, dat, _, _, _, _, _, _, _, ["self"], ["self"], ⟨F, sc38, rfl, rfl, ck38, methB_ok (fl_at c 38 rfl), B, ?_⟩⟩
  intro q hq; cases hq
theorem ck39 : chkSs g.noL ["self", "other"] (defScope (mem 23 11)) fd_Mask_eq_7551.body (defBody (mem 23 11)) = true := by decide +kernel
theorem sc39 : FnScope ["self", "other"] ["self", "other"] (defScope (mem 23 11)) := ⟨rfl, rfl, rfl, by decide +kernel, rfl, by decide +kernel, by decide +kernel⟩
theorem df39 {K : PySem.W.Frag} {h : Heap} {mg : Str → Option Value} (X : K.In h) (G : h.Ns mainGlobals mg) (c : SaysO fb fn K) : DefAt g K mg 5422 fd_Mask_eq_7551 := by
  obtain ⟨dat, F⟩ := c.def_ 39 (d := d39) rfl
  have B := bind_none (fd := fd_Mask_eq_7551) (ps := ["self", "other"]) F rfl fun _ _ _ _ _ _ us hl => match us, hl with | [_, _], _ => rfl
  refine ⟨_, dat, _, _, _, _, _, _, _, ["self", "other"], ["self", "other"], ⟨F, sc39, rfl, rfl, ck39, methB_ok (fl_at c 39 rfl), B, ?_⟩⟩
  intro q hq; cases hq
theorem ck40 : chkSs g.noL ["self", "other"] (defScope (mem 23 19)) fd_Mask_add_1a55.body (defBody (mem 23 19)) = true := by decide +kernel
theorem sc40 : FnScope ["self", "other"] ["self", "other"] (defScope (mem 23 19)) := ⟨rfl, rfl, rfl, by decide +kernel, rfl, by decide +kernel, by decide +kernel⟩
theorem df40 {K : PySem.W.Frag} {h : Heap} {mg : Str → Option Value} (X : K.In h) (G : h.Ns mainGlobals mg) (c : SaysO fb fn K) : DefAt g K mg 5430 fd_Mask_add_1a55 := by
  obtain ⟨dat, F⟩ := c.def_ 40 (d := d40) rfl
  have B := bind_none (fd := fd_Mask_add_1a55) (ps := ["self", "other"]) F rfl fun _ _ _ _ _ _ us hl => match us, hl with | [_, _], _ => rfl
  refine ⟨_, dat, _, _, _, _, _, _, _, ["self", "other"], ["self", "other"], ⟨F, sc40, rfl, rfl, ck40, methB_ok (fl_at c 40 rfl), B, ?_⟩⟩
  intro q hq; cases hq
theorem ck41 : chkSs g.noL ["self", "number"] (defScope (mem 23 20)) fd_Mask_mul_a763.body (defBody (mem 23 20)) = true := by decide +kernel
theorem sc41 : FnScope ["self", "number"] ["self", "number"] (defScope (mem 23 20)) := ⟨rfl, rfl, rfl, by decide +kernel, rfl, by decide +kernel, by decide +kernel⟩
theorem df41 {K : PySem.W.Frag} {h : Heap} {mg : Str → Option Value} (X : K.In h) (G : h.Ns mainGlobals mg) (c : SaysO fb fn K) : DefAt g K mg 5431 fd_Mask_mul_a763 := by
  obtain ⟨dat, F⟩ := c.def_ 41 (d := d41) rfl
  have B := bind_none (fd := fd_Mask_mul_a763) (ps := ["self", "number"]) F rfl fun _ _ _ _ _ _ us hl => match us, hl with | [_, _], _ => rfl
  refine ⟨_, dat, _, _, _, _, _, _, _, ["self", "number"], ["self", "number"], ⟨F, sc41, rfl, rfl, ck41, methB_ok (fl_at c 41 rfl), B, ?_⟩⟩
  intro q hq; cases hq
theorem sc42 : FnScope ["self", "at"] ["self", "at"] (defScope (mem 3 0)) := ⟨rfl, rfl, rfl, by decide +kernel, rfl, by decide +kernel, by decide +kernel⟩
def xf2 : Fd := ⟨2, 2, [], [], []⟩
theorem ck42 : chkXi (xNm 2) ["self", "at"] (defScope (mem 3 0)) 1 (xAs 2) (defBody (mem 3 0)) = true := by decide +kernel
theorem xc2 {K : PySem.W.Frag} {h : Heap} {mg : Str → Option Value} (X : K.In h) (G : h.Ns mainGlobals mg) (c : SaysO fb fn K) : XcAt K mg 2 := by
  obtain ⟨dat, F⟩ := c.def_ 42 (d := d42) rfl
  have h1 := c.fact
  unfold fb at h1
  rw [Bool.and_eq_true] at h1
  have B := bind_none (fd := xf2) (ps := ["self", "at"]) F rfl fun _ _ _ _ _ _ us hl => match us, hl with | [_, _], _ => rfl
  exact xcAt_of (fd := xf2) X G (xc_ent h1.1 (by decide +kernel)) (by decide +kernel) F sc42 rfl rfl (by decide) ck42 B
theorem sc43 : FnScope ["self", "at"] ["self", "at"] (defScope (mem 4 0)) := ⟨rfl, rfl, rfl, by decide +kernel, rfl, by decide +kernel, by decide +kernel⟩
def xf3 : Fd := ⟨2, 2, [], [], []⟩
theorem ck43 : chkXi (xNm 3) ["self", "at"] (defScope (mem 4 0)) 1 (xAs 3) (defBody (mem 4 0)) = true := by decide +kernel
theorem xc3 {K : PySem.W.Frag} {h : Heap} {mg : Str → Option Value} (X : K.In h) (G : h.Ns mainGlobals mg) (c : SaysO fb fn K) : XcAt K mg 3 := by
  obtain ⟨dat, F⟩ := c.def_ 43 (d := d43) rfl
  have h1 := c.fact
  unfold fb at h1
  rw [Bool.and_eq_true] at h1
  have B := bind_none (fd := xf3) (ps := ["self", "at"]) F rfl fun _ _ _ _ _ _ us hl => match us, hl with | [_, _], _ => rfl
  exact xcAt_of (fd := xf3) X G (xc_ent h1.1 (by decide +kernel)) (by decide +kernel) F sc43 rfl rfl (by decide) ck43 B
theorem sc44 : FnScope ["self", "given"] ["self", "given"] (defScope (mem 6 0)) := ⟨rfl, rfl, rfl, by decide +kernel, rfl, by decide +kernel, by decide +kernel⟩
def xf7 : Fd := ⟨2, 2, [], [], []⟩
theorem ck44 : chkXi (xNm 7) ["self", "given"] (defScope (mem 6 0)) 1 (xAs 7) (defBody (mem 6 0)) = true := by decide +kernel
theorem xc7 {K : PySem.W.Frag} {h : Heap} {mg : Str → Option Value} (X : K.In h) (G : h.Ns mainGlobals mg) (c : SaysO fb fn K) : XcAt K mg 7 := by
  obtain ⟨dat, F⟩ := c.def_ 44 (d := d44) rfl
  have h1 := c.fact
  unfold fb at h1
  rw [Bool.and_eq_true] at h1
  have B := bind_none (fd := xf7) (ps := ["self", "given"]) F rfl fun _ _ _ _ _ _ us hl => match us, hl with | [_, _], _ => rfl
  exact xcAt_of (fd := xf7) X G (xc_ent h1.1 (by decide +kernel)) (by decide +kernel) F sc44 rfl rfl (by decide) ck44 B
theorem sc45 : FnScope ["self", "most", "subject"] ["self", "most", "subject"] (defScope (mem 7 0)) := ⟨rfl, rfl, rfl, by decide +kernel, rfl, by decide +kernel, by decide +kernel⟩
def xf17 : Fd := ⟨3, 3, [.str [112, 108, 97, 99, 101, 115]], [], []⟩
theorem ck45 : chkXi (xNm 17) ["self", "most", "subject"] (defScope (mem 7 0)) 2 (xAs 17) (defBody (mem 7 0)) = true := by decide +kernel
theorem xc17 {K : PySem.W.Frag} {h : Heap} {mg : Str → Option Value} (X : K.In h) (G : h.Ns mainGlobals mg) (c : SaysO fb fn K) : XcAt K mg 17 := by
  obtain ⟨dat, F⟩ := c.def_ 45 (d := d45) rfl
  have h1 := c.fact
  unfold fb at h1
  rw [Bool.and_eq_true] at h1
  have R : ∀ L H, Reps K L H (d45.dvs K) xf17.dfl := fun L H => .cons (.str _ (by unfold okT; decide)) (.nil)
  have B := bind_dfl (fd := xf17) (ps := ["self", "most", "subject"]) F (by intro z; cases z) R (Nat.le_of_ble_eq_true rfl) fun k hk T kV doc pm an cdv ct us its hu hi => by
    have hk : k ≤ 1 := hk
    have : k = 0 ∨ k = 1 := by omega
    rcases this with rfl | rfl
    · exact match us, its, hu, hi with | [_, _], [_], _, _ => ⟨_, rfl, rfl⟩
    · exact match us, its, hu, hi with | [_, _, _], [_], _, _ => ⟨_, rfl, rfl⟩
  exact xcAt_of (fd := xf17) X G (xc_ent h1.1 (by decide +kernel)) (by decide +kernel) F sc45 rfl rfl (by decide) ck45 B
theorem xc_all {K : PySem.W.Frag} {h : Heap} {mg : Str → Option Value} (X : K.In h) (G : h.Ns mainGlobals mg) (cc : SaysO fb fn K) : ∀ c, isXc (g.G (mnum c 0)) = true → XcAt K mg c := fun c h => by
  have h1 := lookup_mem' (isXc_eq h)
  have h2 : ∀ q ∈ gls, isXc (some q.2) = true → q.1 = mnum 2 0 ∨ q.1 = mnum 3 0 ∨ q.1 = mnum 7 0 ∨ q.1 = mnum 17 0 := by decide +kernel
  have h3 := h2 _ h1 rfl
  simp only [mnum] at h3
  have h4 : c = 2 ∨ c = 3 ∨ c = 7 ∨ c = 17 := by omega
  rcases h4 with rfl | rfl | rfl | rfl
  · exact xc2 X G cc
  · exact xc3 X G cc
  · exact xc7 X G cc
  · exact xc17 X G cc
theorem mth_ok : ∀ c f, f < manyAt → isFn (g.G (mnum c f)) = true → ∃ fd, g.T (mnum c f) = some fd := fun c f _ h => by
  have h1 := lookup_mem' (isFn_eq h)
  have h2 : ∀ q ∈ gls, isFn (some q.2) = true → (tab.lookup q.1).isSome = true := by decide +kernel
  exact Option.isSome_iff_exists.mp (h2 _ h1 rfl)
theorem wd {K : PySem.W.Frag} {h : Heap} {mg : Str → Option Value} (X : K.In h) (G : h.Ns mainGlobals mg) (c : SaysO fb fn K) : Wd g K mg := by
  have h1 := c.fact
  unfold fb at h1
  rw [Bool.and_eq_true] at h1
  have F := factB_ok X G h1.1
  exact {
    glb := F.glb, blt := F.blt, con := F.con, mth := fun c f hf h => ⟨F.bnd c f hf h, mth_ok c f hf h⟩, cmt := F.cmt, mks := F.mks, kit := F.kit, xcs := xc_all X G c, why := fun q hq => (by cases hq),
    defs := lookup_all (l := tab) (p := fun f fd => DefAt g K mg f fd) (by
      unfold tab; simp only [List.forall_mem_cons]
      exact ⟨df0 X G c, df1 X G c, df2 X G c, df3 X G c, df4 X G c, df5 X G c, df6 X G c, df7 X G c, df8 X G c, df9 X G c, df10 X G c, df11 X G c, df12 X G c, df13 X G c, df14 X G c, df15 X G c, df16 X G c, df17 X G c, df18 X G c, df19 X G c, df20 X G c, df21 X G c, df22 X G c, df24 X G c, df25 X G c, df26 X G c, df27 X G c, df28 X G c, df29 X G c, df30 X G c, df31 X G c, df32 X G c, df33 X G c, df34 X G c, df35 X G c, df36 X G c, df37 X G c, df38 X G c, df39 X G c, df40 X G c, df41 X G c, by simp⟩) }
abbrev R : PySem.W.OpenRow := PySem.W.OpenLaw.row PySem.Challenge.rw_onlyholes_k20_counts_of_rows
abbrev hk : PySem.W.Hook := hookO 5 fb fn
def ob (s : PySem.W.SharedT) : AlO := obsOG 5 fb fn (HandSHeadRun.getT s)
theorem ob_eq (s : PySem.W.SharedT) : ob s = hk.obs s.abs := obsOG_eq (HandSHeadRun.getT_eq s)
def loose : List Str := [("_wall" : Str), ("HoleError" : Str), ("InvalidHole" : Str), ("InvalidPlace" : Str), ("InvalidRow" : Str), ("InvalidNumber" : Str), ("TooMany" : Str), ("LETTERS" : Str), ("SMALL" : Str), ("MOST_PLACES" : Str), ("MOST_HOLES" : Str), ("MOST_NAME" : Str), ("EMPTY" : Str), ("is_word" : Str), ("is_hole" : Str), ("is_letter" : Str), ("is_number" : Str), ("need_size" : Str), ("holes_in" : Str), ("made" : Str), ("places_in" : Str), ("Mask" : Str), ("Row" : Str), ("counts" : Str), ("least_lengths" : Str), ("is_sum" : Str), ("needed_counts" : Str), ("_law_bag" : Str), ("_law_draw" : Str), ("_law_of" : Str), ("_law_mixed" : Str), ("_law_same" : Str), ("_law_names" : Str), ("_law_is_letter" : Str), ("_law_holes" : Str), ("_law_count" : Str), ("_law_places" : Str), ("_law_sums" : Str), ("_law_numbers" : Str)]
theorem hrun (w : World) : HandSHeadRun.RunEq R (PySem.W.view R.prog [43]) hk ob 12000 loose w := by
  intro os
  kernel_rfl
def Law : Prop := ∀ ns : List Int, ns.length ≤ 63 → ∃ m, Oh.runFd g.G (Oh.run g.G g.T g.K 19) g.K fd_law_faef [.p (.scr ns)] [] = .ok (.p (.bl true)) m
theorem facts (Z : Law) {P : Program} {w : World} {K : PySem.W.Frag} {h : Heap} {mg : Str → Option Value} {f : Addr} (X : K.In h) (G : h.Ns mainGlobals mg) (hfa : mg ("law" : Str) = some (.ref f)) (c : SaysO fb fn K) :
    ∃ fd : FuncData, (∀ (s : Shared) (v : Value), BindsTo s fd ⟨[v], []⟩ [("_law_script", v)]) ∧ ∀ base : Heap, K.In base → base.Ns mainGlobals mg → FnOk P w K mg base L2.CX0 100 f fd ["_law_script"] (spD0 K (fun ws m => Oh.runFd g.G (Oh.run g.G g.T g.K 19) g.K fd_law_faef ws m) 1) := by
  obtain ⟨fd, F⟩ := c.def_ 23 (d := d23) rfl
  have e := hfa.symm.trans (He.glo_ok X G (fl_at c 23 rfl))
  cases e
  have b := FunD.bindsA (ps := ["_law_script"]) F fun _ _ _ _ _ _ us hl => match us, hl with | [_], _ => rfl
  exact ⟨fd, fun s v => b s [v] rfl, fun base _ _ => fn_top (fd := fd_law_faef) (wd X G c) 19 F sc23 rfl rfl ck23 fun q hq => by cases hq⟩
end K20
open PySem PySem.W PySem.Calls PyProof.Rows
theorem K20.holds_of (Z : K20.Law) : PySem.Challenge.rw_onlyholes_k20_counts_of_rows.Holds := by
  w_on; o_law
  refine HandSHeadRun.head_any (r := OpenLaw.row PySem.Challenge.rw_onlyholes_k20_counts_of_rows) (q := view (OpenLaw.row PySem.Challenge.rw_onlyholes_k20_counts_of_rows).prog [43]) (H := K20.hk) (ob := K20.ob) (M := 12000) (loose := K20.loose) (d := HandSHeadRun.topDef (OpenLaw.row PySem.Challenge.rw_onlyholes_k20_counts_of_rows).prog 43) (kwd := []) K20.ob_eq
    (by kernel_rfl) (fun s => by kernel_rfl) K20.hrun (by kernel_rfl) (by kernel_rfl) (by kernel_rfl) (by rfl) (by first | assumption | decide +kernel) (by decide +kernel) ⟨rfl, rfl, rfl, rfl, rfl, by decide +kernel⟩ ?hw ?hc
  case hw => w_witness2
  case hc =>
    refine L2.walk_ofE (l := PySem.Challenge.rw_onlyholes_k20_counts_of_rows) (n := 63) (k := 100) (x := "_law_script") (CX := L2.CX0) rfl (by decide) (by kernel_rfl) ⟨rfl, by decide, by decide⟩ ?F (fun _ _ _ _ z => z)
    intro w mg fa h Y G hmg0
    obtain ⟨K, KX, c⟩ := Y
    have hmg : mg ("law" : PySem.Str) = some (.ref fa) := by
      have e : (HandSHeadRun.topDef (OpenLaw.row PySem.Challenge.rw_onlyholes_k20_counts_of_rows).prog 43).name = ("law" : PySem.Str) := by kernel_rfl
      rw [← e]
      exact hmg0
    obtain ⟨fd, hb, hF⟩ := K20.facts Z (P := (PySem.Challenge.rw_onlyholes_k20_counts_of_rows).prog) (w := w) KX G hmg c
    exact ⟨K, fd, _, KX, hb, fun H a ns hl _ hS => Oh.law_sp hS (Z ns hl), hF⟩

set_option Elab.async false
set_option linter.all false
set_option maxRecDepth 100000
set_option maxHeartbeats 4000000
namespace K20
open Oh
theorem has : Has20 K20.g := by
  constructor <;> first | rfl | exact ⟨_, rfl⟩ | decide | skip
  all_goals repeat' (first | rfl | exact ⟨_, rfl⟩ | exact .inl rfl | exact .inr rfl | decide | constructor)
theorem law : Law := fun ns _ => by
  obtain ⟨w, m, e, rfl⟩ := (law_ok has ns).ex
  exact ⟨m, e⟩
end K20
theorem PySem.Challenge.cw_onlyholes_k20_counts_of_rows_holds : PySem.Challenge.rw_onlyholes_k20_counts_of_rows.Holds := by
  exact K20.holds_of K20.law
