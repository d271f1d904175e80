import PyProof.Rows.All
import Wide.All
import OpenK.AllK
import Wide.FinOn
import PySem.Str
import PyProof.StrBlock
import PyProof.StrBlockL
import HandS.Text
import PyProof.SliceList
import HandS.ForMost
import HandS.Deep
import HandS.TupAny
import HandS.TupMul
import HandS.TupLe
import HandS.Gcd
import HandS.Wide
import HandS.Conv
import HandS.Style
import HandS.Zip
import HandS.IsInst
import HandS.Star
import HandS.CallLocal
import HandS.DictComp
import HandS.More
import HandS.Strs
import HandS.Defaults
import KE.DataMinMax
import KE.GoesEnum
import KE.SortCalls
import HandS.TupSets
import HandS.Exc
import HandS.ExcOwn
import HandS.WordsExc
import HandS.TryOnly
import HandS.ExcInit
import HandS.Words
import HandS.Head0
import HandS.Head1
import HandS.Head2
import HandS.Head3
import HandS.HeadEnd
import HandS.HeadHook1
import PyProof.TableCode
import PySem.Challenge.RW_bidboards_k78_whole_small_boards
set_option linter.all false
set_option maxRecDepth 100000
/-! Ev0: a small evaluator for a part of Python: data, syntax with slots, stores of cells. -/
namespace Ev
open PySem

abbrev Ky := Sum Int Str
/-- the longest list, tuple -/
def line : Nat := 16777216

/-- data. cel k: the list or dict that stands in the store's cell k (it may be changed); all else never changes -/
inductive D where
  | non | bl (b : Bool) | int (i : Int) | str (s : Str) | tup (l : List D) | lst (l : List D)
  | dK (l : List (Ky × D)) | dT (l : List (List Ky × D)) | scr (l : List D)
  | cel (k : Nat) | fn (k : Nat) | ty (n : String)
  deriving Inhabited

abbrev Sto := List D
abbrev Fr := List (Option D)

/-! ### == of data -/
mutual
/-- none, bools, ints, texts, tuples and lists of such, no deeper than n -/
def D.ok : D → Nat → Bool
  | .non, _ => true
  | .bl _, _ => true
  | .int _, _ => true
  | .str s, _ => s.cps.all (· < 0x110000)
  | .tup l, n => match n with | 0 => false | n + 1 => okL l n
  | .lst l, n => match n with | 0 => false | n + 1 => okL l n
  | .dK _, _ => false
  | .dT _, _ => false
  | .scr _, _ => false
  | .cel _, _ => false
  | .fn _, _ => false
  | .ty _, _ => false
def okL : List D → Nat → Bool
  | [], _ => true
  | d :: r, n => d.ok n && okL r n
end
mutual
def D.eqb : D → D → Bool
  | .non, e => match e with | .non => true | _ => false
  | .bl a, e => match e with | .bl b => a == b | .int j => (if a then 1 else 0) == j | _ => false
  | .int i, e => match e with | .bl b => i == (if b then 1 else 0) | .int j => i == j | _ => false
  | .str x, e => match e with | .str y => x == y | _ => false
  | .tup l, e => match e with | .tup m => eqbL l m | _ => false
  | .lst l, e => match e with | .lst m => eqbL l m | _ => false
  | .dK _, _ => false
  | .dT _, _ => false
  | .scr _, _ => false
  | .cel _, _ => false
  | .fn _, _ => false
  | .ty _, _ => false
def eqbL : List D → List D → Bool
  | [], m => match m with | [] => true | _ :: _ => false
  | d :: r, m => match m with | [] => false | e :: s => d.eqb e && eqbL r s
end
def eqD (a b : D) : Option Bool := if a.ok 64 && b.ok 64 then some (a.eqb b) else none
/-- x in l -/
def inD (x : D) (l : List D) : Option Bool := if x.ok 64 && okL l 63 then some (l.any fun y => y.eqb x) else none

/-! ### keys -/
def keyOf : D → Option Ky
  | .int i => some (.inl i)
  | .str s => if s.cps.all (· < 0x110000) then some (.inr s) else none
  | _ => none
def keysOf : List D → Option (List Ky)
  | [] => some []
  | d :: r => match keyOf d with
    | some k => (match keysOf r with | some ks => some (k :: ks) | none => none)
    | none => none
def tkeyOf : D → Option (List Ky)
  | .tup l => keysOf l
  | _ => none
def look {κ : Type} [DecidableEq κ] (l : List (κ × D)) (k : κ) : Option D := match l with
  | [] => none
  | (a, d) :: r => if a = k then some d else look r k
/-- d[k] = v: in place, or behind -/
def put {κ : Type} [DecidableEq κ] (l : List (κ × D)) (k : κ) (v : D) : List (κ × D) :=
  if (l.any fun p => decide (p.1 = k)) = true then l.map (fun p => if p.1 = k then (p.1, v) else p) else l ++ [(k, v)]

/-! ### lists -/
/-- an index of any sign -/
def ixN (n : Nat) (i : Int) : Option Nat := if 0 ≤ i then (if i < n then some i.toNat else none) else if -(n : Int) ≤ i then some (i + n).toNat else none
def atI (l : List D) (i : Int) : Option D := match ixN l.length i with
  | some j => l[j]?
  | none => none
/-- a slice's bound -/
def sIx (n d : Nat) : Option Int → Nat
  | none => d
  | some v => if v < 0 then (v + (n : Int)).toNat else min v.toNat n
def cut (l : List D) (lo hi : Option Int) : List D := (l.drop (sIx l.length 0 lo)).take (sIx l.length l.length hi - sIx l.length 0 lo)

/-! ### the small syntax -/
inductive B2 where | add | sub | mul | fdiv | mod | pow
inductive C2 where | eq | ne | lt | le | gt | ge | isI | isNot | inI | notIn
inductive Blt where | len | abs | min | max | all | any | sum | list | tuple | int | divmod | gcd | isinst | str | sorted | lenset
inductive Mt where | append | extend | insert | pop | index | update | join | split | endswith
/-- what is walked: a list or tuple, range(..), enumerate(..), zip(.., ..) -/
inductive Wk where | seq | range | enum | zip
/-- a comprehension's target: a name, a tuple of names (by slots) -/
inductive CT where | one (i : Nat) | many (l : List Nat)

inductive Ex where
  | var (i : Nat) | glob (k : Nat) | bty (n : String)
  | non | bl (b : Bool) | int (i : Int) | str (s : Str)
  | tup (es : List Ex) | lst (es : List Ex) | star (e : Ex)
  | neg (e : Ex)
  | bin (o : B2) (a b : Ex)
  | cmp (o : C2) (a b : Ex)
  | chain (o o' : C2) (a b c : Ex)
  | and (es : List Ex) | or (es : List Ex) | not (e : Ex)
  | ife (c a b : Ex)
  | ix (a i : Ex)
  | sl (a : Ex) (lo hi : List Ex)
  | rev (a : Ex)
  | slk (a lo : Ex) (k : Nat)
  | call (k : Nat) (es : List Ex)
  | callv (i : Nat) (es : List Ex)
  | blt (b : Blt) (es : List Ex)
  | listRg (es : List Ex) | tupRg (es : List Ex)
  | mt (m : Mt) (o : Ex) (es : List Ex)
  | dnewK | dnewT
  | dspK (es : List Ex)
  | comp (own : List Nat) (t : CT) (w : Wk) (src : List Ex) (ifs : List Ex) (e : Ex)
  | dcomp (own : List Nat) (t : CT) (w : Wk) (src : List Ex) (ifs : List Ex) (k v : Ex)
  | comp2 (own : List Nat) (t : CT) (w : Wk) (src : List Ex) (t2 : CT) (w2 : Wk) (src2 : List Ex) (e : Ex)
  | mk (e : Ex)
  deriving Inhabited

inductive Tg where
  | nm (i : Nat) | tup (ts : List Tg) | sub (o i : Ex)

inductive St where
  | asg (t : Tg) (e : Ex)
  | par (is : List Nat) (es : List Ex)
  | ex (e : Ex)
  | ret (e : Ex) | retC (e : Ex)
  | ife (c : Ex) (a b : List St)
  | whl (c : Ex) (b : List St)
  | for_ (t : CT) (w : Wk) (src : List Ex) (b : List St)
  | raise_
  | raiseX (c : Nat) (es : List Ex)
  | tryE (b : List St) (c : Nat) (h : List St)
  deriving Inhabited

/-! ### what an operation gives -/
def small (i : Int) : Bool := decide (i.natAbs.log2 < 400000)
def intsOf : List D → Option (List Int)
  | [] => some []
  | d :: r => match d with
    | .int i => (match intsOf r with | some l => some (i :: l) | none => none)
    | _ => none
def boolsOf : List D → Option (List Bool)
  | [] => some []
  | d :: r => match d with
    | .bl b => (match boolsOf r with | some l => some (b :: l) | none => none)
    | _ => none
def lexLt : List Int → List Int → Bool
  | [], [] => false
  | [], _ :: _ => true
  | _ :: _, [] => false
  | x :: xs, y :: ys => if x = y then lexLt xs ys else decide (x < y)

/-- the store's cell, if it is one -/
def dr (st : Sto) : D → D
  | .cel k => st.getD k .non
  | d => d
def seqOf (st : Sto) (d : D) : Option (List D) := match dr st d with
  | .tup l => some l
  | .lst l => some l
  | .scr l => some l
  | _ => none

/-! sorted -/
def int1 : D → Option (List Int)
  | .tup l => intsOf l
  | _ => none
def ints1 : List D → Option (List (List Int))
  | [] => some []
  | d :: r => match int1 d with
    | some i => (match ints1 r with | some l => some (i :: l) | none => none)
    | none => none
def int2 : D → Option (List (List Int))
  | .tup l => ints1 l
  | _ => none
def ints2 : List D → Option (List (List (List Int)))
  | [] => some []
  | d :: r => match int2 d with
    | some i => (match ints2 r with | some l => some (i :: l) | none => none)
    | none => none
def lex2 : List (List Int) → List (List Int) → Bool
  | [], [] => false
  | [], _ :: _ => true
  | _ :: _, [] => false
  | x :: xs, y :: ys => if x = y then lex2 xs ys else lexLt x y
def insBy {α : Type} (le : α → α → Bool) (x : α) : List α → List α
  | [] => [x]
  | y :: r => if le x y then x :: y :: r else y :: insBy le x r
def sortBy {α : Type} (le : α → α → Bool) : List α → List α
  | [] => []
  | x :: r => insBy le x (sortBy le r)
def t1 (l : List Int) : D := .tup (l.map .int)
def t2 (l : List (List Int)) : D := .tup (l.map t1)
def leI (a b : Int) : Bool := !decide (b < a)
def le1 (a b : List Int) : Bool := !lexLt b a
def le2 (a b : List (List Int)) : Bool := !lex2 b a
/-- all have items, or the first one has none -/
def firsts {α : Type} (l : List (List α)) : Bool := l.all (fun x => !x.isEmpty) || (match l with | [] => true | x :: _ => x.isEmpty)
def sortedD (l : List D) : Option D := match intsOf l with
  | some is => some (.lst ((sortBy leI is).map .int))
  | none => (match ints1 l with
    | some is => if firsts is then some (.lst ((sortBy le1 is).map t1)) else none
    | none => (match ints2 l with
      | some is => if firsts is then some (.lst ((sortBy le2 is).map t2)) else none
      | none => none))
/-- unlike ones -/
def unlike : List (List Int) → List (List Int)
  | [] => []
  | k :: r => if (unlike r).any (fun e => decide (e = k)) then unlike r else k :: unlike r
def lensetD (l : List D) : Option D := match ints1 l with
  | some ks => if ks.length < 64 then some (.int (unlike ks).length) else none
  | none => none
def strsOf : List D → Option (List Str)
  | [] => some []
  | d :: r => match d with
    | .str s => (match strsOf r with | some l => some (s :: l) | none => none)
    | _ => none
/-- lists one behind another -/
def catL : List D → Option (List D)
  | [] => some []
  | d :: r => match d with
    | .lst l => (match catL r with | some m => some (l ++ m) | none => none)
    | _ => none
def binD (st : Sto) : B2 → D → D → Option D
  | .add, a, b => match dr st a, dr st b with
    | .int i, .int j => some (.int (i + j))
    | .tup l, .tup m => if l.length + m.length ≤ line then some (.tup (l ++ m)) else none
    | .lst l, .lst m => if l.length + m.length ≤ line then some (.lst (l ++ m)) else none
    | .str x, .str y => if x.cps.size + y.cps.size ≤ line then some (.str ⟨x.cps ++ y.cps⟩) else none
    | _, _ => none
  | .sub, a, b => match a, b with
    | .int i, .int j => some (.int (i - j))
    | _, _ => none
  | .mul, a, b => match a, b with
    | .int i, .int j => if small i && small j then some (.int (i * j)) else none
    | _, _ => none
  | .fdiv, a, b => match a, b with
    | .int i, .int j => if 0 < j ∧ j.natAbs.log2 < 9000 then some (.int (i / j)) else none
    | _, _ => none
  | .mod, a, b => match a, b with
    | .int i, .int j => if 0 < j then some (.int (i % j)) else none
    | _, _ => none
  | .pow, a, b => match a, b with
    | .int i, .int j => if 0 ≤ j ∧ j ≤ 1000 ∧ i.natAbs < 1000 then some (.int (i ^ j.toNat)) else none
    | _, _ => none

def cmpD (st : Sto) : C2 → D → D → Option Bool
  | .eq, a, b => eqD (dr st a) (dr st b)
  | .ne, a, b => (eqD (dr st a) (dr st b)).map (!·)
  | .lt, a, b => match a, b with
    | .int i, .int j => some (decide (i < j))
    | .tup l, .tup m => (match intsOf l, intsOf m with
      | some x, some y => some (lexLt x y)
      | _, _ => none)
    | _, _ => none
  | .le, a, b => match a, b with
    | .int i, .int j => some (decide (i ≤ j))
    | .tup l, .tup m => (match intsOf l, intsOf m with
      | some x, some y => some (!lexLt y x)
      | _, _ => none)
    | _, _ => none
  | .gt, a, b => match a, b with
    | .int i, .int j => some (decide (j < i))
    | _, _ => none
  | .ge, a, b => match a, b with
    | .int i, .int j => some (decide (j ≤ i))
    | _, _ => none
  | .isI, a, b => match b with
    | .non => some (match a with | .non => true | _ => false)
    | .bl y => (match a with | .bl x => some (decide (x = y)) | _ => none)
    | _ => none
  | .isNot, a, b => match b with
    | .non => some (match a with | .non => false | _ => true)
    | .bl y => (match a with | .bl x => some (!decide (x = y)) | _ => none)
    | _ => none
  | .inI, a, b => match dr st b with
    | .tup l => inD a l
    | .lst l => inD a l
    | .dK l => (keyOf a).map fun k => (look l k).isSome
    | .str t => (match a with | .str s => some (!(Builtin.Str.occurrences t s 0 t.length 1).isEmpty) | _ => none)
    | _ => none
  | .notIn, a, b => match dr st b with
    | .tup l => (inD a l).map (!·)
    | .lst l => (inD a l).map (!·)
    | .dK l => (keyOf a).map fun k => !(look l k).isSome
    | .str t => (match a with | .str s => some (Builtin.Str.occurrences t s 0 t.length 1).isEmpty | _ => none)
    | _ => none

def ixD (st : Sto) (a i : D) : Option D := match dr st a with
  | .tup l => (match i with | .int i => atI l i | _ => none)
  | .lst l => (match i with | .int i => atI l i | _ => none)
  | .scr l => (match i with | .int i => atI l i | _ => none)
  | .dK l => (match keyOf i with | some k => look l k | none => none)
  | .str z => (match i with | .int i => if z.length ≤ line then (match L2.atI z.cps.toList i with | some c => some (.str ⟨#[c]⟩) | none => none) else none | _ => none)
  | _ => none
def slkD (st : Sto) (a : D) (lo : Int) (k : Nat) : Option D := match dr st a with
  | .lst l => if 0 < k then (let b := sliceBounds (some lo) none (some (k : Int)) l.length
      let r := (sliceRange b.1 b.2.1 b.2.2).filterMap fun i => l[i]?
      if r.length ≤ line then some (.lst r) else none) else none
  | _ => none
def slD (st : Sto) (a : D) (lo hi : Option Int) : Option D := match dr st a with
  | .tup l => some (.tup (cut l lo hi))
  | .lst l => some (.lst (cut l lo hi))
  | .scr l => some (.lst (cut l lo hi))
  | .str z => if z.length ≤ line then some (.str (L2.cutS z lo hi)) else none
  | _ => none
def revD (st : Sto) (a : D) : Option D := match dr st a with
  | .tup l => some (.tup l.reverse)
  | .lst l => some (.lst l.reverse)
  | _ => none

/-- the name of a value's class -/
def tyName (st : Sto) (d : D) : Option String := match dr st d with
  | .non => some "NoneType" | .bl _ => some "bool" | .int _ => some "int" | .str _ => some "str"
  | .tup _ => some "tuple" | .lst _ => some "list" | .dK _ => some "dict" | .dT _ => some "dict" | .scr _ => some "list"
  | _ => none
def isTy (t c : String) : Option Bool :=
  if c = "int" then some (t == "int" || t == "bool")
  else if c = "bool" then some (t == "bool")
  else if c = "str" then some (t == "str")
  else if c = "tuple" then some (t == "tuple")
  else if c = "list" then some (t == "list")
  else if c = "dict" then some (t == "dict")
  else none
def isTys (t : String) : List D → Option Bool
  | [] => some false
  | d :: r => match d with
    | .ty c => (match isTy t c, isTys t r with | some a, some b => some (a || b) | _, _ => none)
    | _ => none

def maxI : List Int → Int
  | [] => 0
  | i :: r => r.foldl max i
def minI : List Int → Int
  | [] => 0
  | i :: r => r.foldl min i

def bltD (st : Sto) : Blt → List D → Option D
  | .len, [d] => (match dr st d with
    | .tup l => some (.int l.length)
    | .lst l => some (.int l.length)
    | .scr l => some (.int l.length)
    | _ => none)
  | .abs, [.int i] => some (.int (if i < 0 then -i else i))
  | .min, [.int i, .int j] => some (.int (if j < i then j else i))
  | .max, [.int i, .int j] => some (.int (if j > i then j else i))
  | .min, [d] => (match dr st d with
    | .lst l => (match intsOf l with | some (i :: r) => some (.int (minI (i :: r))) | _ => none)
    | .tup l => (match intsOf l with | some (i :: r) => some (.int (minI (i :: r))) | _ => none)
    | _ => none)
  | .max, [d] => (match dr st d with
    | .lst l => (match intsOf l with | some (i :: r) => some (.int (maxI (i :: r))) | _ => none)
    | .tup l => (match intsOf l with | some (i :: r) => some (.int (maxI (i :: r))) | _ => none)
    | _ => none)
  | .all, [d] => (match dr st d with | .lst l => (boolsOf l).map fun bs => .bl (bs.all id) | _ => none)
  | .any, [d] => (match dr st d with | .lst l => (boolsOf l).map fun bs => .bl (bs.any id) | _ => none)
  | .sum, [d, .lst []] => (match dr st d with | .lst l => (match catL l with | some m => if m.length ≤ line then some (.lst m) else none | none => none) | _ => none)
  | .sorted, [d] => (match dr st d with | .lst l => sortedD l | .tup l => sortedD l | _ => none)
  | .lenset, [d] => (match dr st d with | .lst l => lensetD l | .tup l => lensetD l | _ => none)
  | .str, [.int i] => if i.natAbs.log2 < 1920 then some (.str (toString i)) else none
  | .int, [.str s] => if s.length ≤ 640 then (match PySem.intText? s with | some n => some (.int n) | none => none) else none
  | .sum, [d] => (match dr st d with | .lst l => (intsOf l).map fun is => .int is.sum | _ => none)
  | .list, [d] => (match dr st d with | .tup l => some (.lst l) | .lst l => some (.lst l) | _ => none)
  | .tuple, [d] => (match dr st d with | .tup l => some (.tup l) | .lst l => some (.tup l) | _ => none)
  | .int, [.int i] => some (.int i)
  | .int, [.bl b] => some (.int (if b then 1 else 0))
  | .divmod, [.int i, .int j] => if 0 < j ∧ j < 1073741824 then some (.tup [.int (i / j), .int (i % j)]) else none
  | .gcd, [.int i, .int j] => some (.int ((Nat.gcd i.natAbs j.natAbs : Nat) : Int))
  | .isinst, [d, c] => (match tyName st d with
    | some t => (match c with
      | .ty n => (isTy t n).map .bl
      | .tup l => (isTys t l).map .bl
      | _ => none)
    | none => none)
  | _, _ => none

def setCell (st : Sto) (k : Nat) (d : D) : Sto := st.set k d

/-- the receiver's class, as it stands ahead of the arguments -/
def mtT (st : Sto) : Mt → D → Option String
  | .append, .cel k => (match st[k]? with | some (.lst _) => some "list" | _ => none)
  | .extend, .cel k => (match st[k]? with | some (.lst _) => some "list" | _ => none)
  | .insert, .cel k => (match st[k]? with | some (.lst _) => some "list" | _ => none)
  | .pop, .cel k => (match st[k]? with | some (.lst _) => some "list" | _ => none)
  | .index, d => (match dr st d with | .tup _ => some "tuple" | .lst _ => some "list" | _ => none)
  | .update, .cel k => (match st[k]? with | some (.dK _) => some "dict" | _ => none)
  | .join, .str _ => some "str"
  | .split, .str _ => some "str"
  | .endswith, .str _ => some "str"
  | _, _ => none
/-- a method's call: its answer, the store behind it -/
def mtD (st : Sto) : Mt → D → List D → Option (D × Sto)
  | .append, .cel k, [x] => (match st[k]? with
    | some (.lst l) => if l.length < line then some (.non, st.set k (.lst (l ++ [x]))) else none
    | _ => none)
  | .extend, .cel k, [x] => (match st[k]?, x with
    | some (.lst l), .lst m => if l.length + m.length ≤ line then some (.non, st.set k (.lst (l ++ m))) else none
    | _, _ => none)
  | .insert, .cel k, [.int i, x] => (match st[k]? with
    | some (.lst l) => if 0 ≤ i ∧ i ≤ l.length ∧ l.length < line then some (.non, st.set k (.lst (l.take i.toNat ++ x :: l.drop i.toNat))) else none
    | _ => none)
  | .pop, .cel k, [.int i] => (match st[k]? with
    | some (.lst l) => (match ixN l.length i with
      | some j => (match l[j]? with
        | some d => some (d, st.set k (.lst (l.eraseIdx j)))
        | none => none)
      | none => none)
    | _ => none)
  | .index, d, [x] => (match dr st d with
    | .tup l => if x.ok 64 && okL l 63 then (match l.findIdx? fun y => y.eqb x with | some j => some (.int j, st) | none => none) else none
    | .lst l => if x.ok 64 && okL l 63 then (match l.findIdx? fun y => y.eqb x with | some j => some (.int j, st) | none => none) else none
    | _ => none)
  | .update, .cel k, [x] => (match st[k]?, x with
    | some (.dK l), .dK m => if l.length + m.length ≤ line then some (.non, st.set k (.dK (m.foldl (fun a p => put a p.1 p.2) l))) else none
    | _, _ => none)
  | .join, .str a, [d] => (match dr st d with
    | .lst l => (match strsOf l with | some ys => if (ys.map (·.length)).sum + ys.length * a.length ≤ 16777216 then some (.str (Txt.join a ys), st) else none | none => none)
    | .tup l => (match strsOf l with | some ys => if (ys.map (·.length)).sum + ys.length * a.length ≤ 16777216 then some (.str (Txt.join a ys), st) else none | none => none)
    | _ => none)
  | .split, .str a, [.str b] => if (b.length == 0) = false ∧ a.length + 2 ≤ line then some (.lst ((Txt.split a b).map .str), st) else none
  | .endswith, .str a, [.str b] => some (.bl (Txt.endswith a b), st)
  | _, _, _ => none

/-- o[i] = v -/
def setD (st : Sto) (o i v : D) : Option Sto := match o with
  | .cel k => (match st[k]? with
    | some (.lst l) => (match i with
      | .int i => (match ixN l.length i with
        | some j => some (st.set k (.lst (l.set j v)))
        | none => none)
      | _ => none)
    | some (.dK l) => (match keyOf i with
      | some q => if l.length < line then some (st.set k (.dK (put l q v))) else none
      | none => none)
    | _ => none)
  | _ => none

/-! ### what is walked -/
def rangeD (lo hi : Int) : Option (List D) := if -(2 ^ 61) ≤ lo ∧ lo < 2 ^ 61 ∧ -(2 ^ 61) ≤ hi ∧ hi < 2 ^ 61 ∧ (hi - lo).toNat ≤ line then
    some ((List.range (hi - lo).toNat).map fun (i : Nat) => D.int (lo + i)) else none
def rangeOf : List D → Option (List D)
  | [.int n] => rangeD 0 n
  | [.int a, .int b] => rangeD a b
  | _ => none
/-- the items of what is walked (no cell: what changes is not walked) -/
def itemsOf : Wk → List D → Option (List D)
  | .seq, [.tup l] => some l
  | .seq, [.lst l] => some l
  | .seq, [.str s] => some (s.cps.toList.map fun c => .str ⟨#[c]⟩)
  | .range, l => rangeOf l
  | .enum, [.tup l] => some (l.mapIdx fun i d => .tup [.int (i : Nat), d])
  | .enum, [.lst l] => some (l.mapIdx fun i d => .tup [.int (i : Nat), d])
  | .zip, [.tup l, .tup m] => some (List.zipWith (fun a b => .tup [a, b]) l m)
  | .zip, [.lst l, .lst m] => some (List.zipWith (fun a b => .tup [a, b]) l m)
  | _, _ => none

def setAll (φ : Fr) : List Nat → List D → Option Fr
  | [], [] => some φ
  | i :: is, d :: ds => setAll (φ.set i (some d)) is ds
  | _, _ => none
def bindCT (φ : Fr) : CT → D → Option Fr
  | .one i, d => some (φ.set i (some d))
  | .many is, .tup l => setAll φ is l
  | .many _, _ => none
def CT.slots : CT → List Nat
  | .one i => [i]
  | .many is => is
def wipe (φ : Fr) : List Nat → Fr
  | [] => φ
  | i :: is => (wipe φ is).set i none

/-- a def's results by its number -/
abbrev Cl := Nat → List D → Sto → Option (D × Sto)
structure En where
  G : List D
  call : Cl
  xc : Nat → List D → Sto → Option (Nat × Sto) := fun _ _ _ => none
  sub : Nat → Nat → Bool := fun _ _ => false

/-- keys and values in turn -/
def pairsOf : List D → Option (List (Ky × D))
  | [] => some []
  | k :: r => match r with
    | [] => none
    | v :: r => match keyOf k, pairsOf r with
      | some q, some l => some ((q, v) :: l)
      | _, _ => none
/-- pairs of a key and a value, one behind another -/
def dictOf : List D → Option (List (Ky × D))
  | [] => some []
  | d :: r => match d with
    | .tup [k, v] => (match keyOf k, dictOf r with
      | some q, some l => some ((q, v) :: l)
      | _, _ => none)
    | _ => none

/-- a cell that is walked: its list as it stands at each turn -/
def cellAt (st : Sto) (k i : Nat) : Option (Option D) := match st[k]? with
  | some (.lst l) => some l[i]?
  | _ => none
/-- .. with the turn's number -/
def cellEn (st : Sto) (k i : Nat) : Option (Option D) := match st[k]? with
  | some (.lst l) => some (l[i]?.map fun d => .tup [.int (i : Nat), d])
  | _ => none
def overC (src : Sto → Nat → Option (Option D)) (f : D → Sto → Option (Option D × Sto)) : Nat → Nat → Sto → Option (List D × Sto)
  | 0, i, st => match src st i with
    | some none => some ([], st)
    | _ => none
  | n + 1, i, st => match src st i with
    | some none => some ([], st)
    | some (some d) => (match f d st with
      | some (o, st1) => (match overC src f n (i + 1) st1 with
        | some (ys, st2) => some (o.toList ++ ys, st2)
        | none => none)
      | none => none)
    | none => none
/-- what is walked: as many turns as at the start, the item at each turn -/
def srcOf (st : Sto) : Wk → List D → Option (Nat × (Sto → Nat → Option (Option D)))
  | .seq, [.cel k] => (match st[k]? with | some (.lst l) => some (l.length, fun s i => cellAt s k i) | _ => none)
  | .enum, [.cel k] => (match st[k]? with | some (.lst l) => some (l.length, fun s i => cellEn s k i) | _ => none)
  | w, ds => match itemsOf w ds with
    | some items => some (items.length, fun _ i => some items[i]?)
    | none => none
/-- over what is walked -/
def overW (f : D → Sto → Option (Option D × Sto)) (w : Wk) (ds : List D) (st : Sto) : Option (List D × Sto) := match srcOf st w ds with
  | some (n, src) => if n ≤ line then overC src f n 0 st else none
  | none => none

mutual
/-- no cell from n on -/
def D.und : D → Nat → Bool
  | .non, _ => true
  | .bl _, _ => true
  | .int _, _ => true
  | .str _, _ => true
  | .tup l, n => undL l n
  | .lst l, n => undL l n
  | .dK l, n => undK l n
  | .dT l, n => undT l n
  | .scr l, n => undL l n
  | .cel k, n => decide (k < n)
  | .fn _, _ => true
  | .ty _, _ => true
def undL : List D → Nat → Bool
  | [], _ => true
  | d :: r, n => d.und n && undL r n
def undK : List (Ky × D) → Nat → Bool
  | [], _ => true
  | p :: r, n => p.2.und n && undK r n
def undT : List (List Ky × D) → Nat → Bool
  | [], _ => true
  | p :: r, n => p.2.und n && undT r n
end
/-- behind a turn: the cells that it made are dropped, if nothing holds them -/
def trimS (n : Nat) (y : D) (s : Sto) : Sto := if n < s.length then (if y.und n && undL (s.take n) n then s.take n else s) else s

def fresh : Ex → Bool
  | .lst _ => true
  | .comp .. => true
  | .listRg _ => true
  | .dnewK => true
  | .dspK _ => true
  | .dcomp .. => true
  | .comp2 .. => true
  | _ => false

section
variable (E : En)
mutual
def evE : Ex → Fr → Sto → Option (D × Sto)
  | .var i, φ, st => match φ[i]? with
    | some (some d) => some (d, st)
    | _ => none
  | .glob k, _, st => match E.G[k]? with
    | some d => some (d, st)
    | none => none
  | .bty n, _, st => some (.ty n, st)
  | .non, _, st => some (.non, st)
  | .bl b, _, st => some (.bl b, st)
  | .int i, _, st => some (.int i, st)
  | .str s, _, st => some (.str s, st)
  | .tup es, φ, st => match evEs es φ st with
    | some (ds, st1) => if ds.length ≤ line then some (.tup ds, st1) else none
    | none => none
  | .lst es, φ, st => match evEs es φ st with
    | some (ds, st1) => if ds.length ≤ line then some (.lst ds, st1) else none
    | none => none
  | .star _, _, _ => none
  | .neg e, φ, st => match evE e φ st with
    | some (.int i, st1) => some (.int (-i), st1)
    | _ => none
  | .bin o a b, φ, st => match evE a φ st with
    | some (x, st1) => (match evE b φ st1 with
      | some (y, st2) => (match binD st2 o x y with
        | some d => some (d, st2)
        | none => none)
      | none => none)
    | none => none
  | .cmp o a b, φ, st => match evE a φ st with
    | some (x, st1) => (match evE b φ st1 with
      | some (y, st2) => (match cmpD st2 o x y with
        | some d => some (.bl d, st2)
        | none => none)
      | none => none)
    | none => none
  | .chain o o' a b c, φ, st => match evE a φ st with
    | some (x, st1) => (match evE b φ st1 with
      | some (y, st2) => (match cmpD st2 o x y with
        | some true => (match evE c φ st2 with
          | some (z, st3) => (match cmpD st3 o' y z with
            | some d => some (.bl d, st3)
            | none => none)
          | none => none)
        | some false => some (.bl false, st2)
        | none => none)
      | none => none)
    | none => none
  | .and es, φ, st => evAnd es φ st
  | .or es, φ, st => evOr es φ st
  | .not e, φ, st => match evE e φ st with
    | some (.bl b, st1) => some (.bl (!b), st1)
    | _ => none
  | .ife c a b, φ, st => match evE c φ st with
    | some (.bl true, st1) => evE a φ st1
    | some (.bl false, st1) => evE b φ st1
    | _ => none
  | .ix a i, φ, st => match evE a φ st with
    | some (x, st1) => (match evE i φ st1 with
      | some (y, st2) => (match ixD st2 x y with
        | some d => some (d, st2)
        | none => none)
      | none => none)
    | none => none
  | .sl a lo hi, φ, st => match evE a φ st with
    | some (x, st1) => (match evO lo φ st1 with
      | some (l, st2) => (match evO hi φ st2 with
        | some (h, st3) => (match slD st3 x l h with
          | some d => some (d, st3)
          | none => none)
        | none => none)
      | none => none)
    | none => none
  | .rev a, φ, st => match evE a φ st with
    | some (x, st1) => (match revD st1 x with
      | some d => some (d, st1)
      | none => none)
    | none => none
  | .slk a lo k, φ, st => match evE a φ st with
    | some (x, st1) => (match evE lo φ st1 with
      | some (.int l, st2) => (match slkD st2 x l k with
        | some d => some (d, st2)
        | none => none)
      | _ => none)
    | none => none
  | .call k es, φ, st => match evEs es φ st with
    | some (ds, st1) => E.call k ds st1
    | none => none
  | .callv i es, φ, st => match φ[i]? with
    | some (some (.fn k)) => (match evEs es φ st with
      | some (ds, st1) => E.call k ds st1
      | none => none)
    | _ => none
  | .blt b es, φ, st => match evEs es φ st with
    | some (ds, st1) => (match bltD st1 b ds with
      | some d => some (d, st1)
      | none => none)
    | none => none
  | .listRg es, φ, st => match evEs es φ st with
    | some (ds, st1) => (match rangeOf ds with
      | some l => some (.lst l, st1)
      | none => none)
    | none => none
  | .tupRg es, φ, st => match evEs es φ st with
    | some (ds, st1) => (match rangeOf ds with
      | some l => some (.tup l, st1)
      | none => none)
    | none => none
  | .mt m o es, φ, st => match evE o φ st with
    | some (x, st1) => (match mtT st1 m x with
      | some _ => (match evEs es φ st1 with
        | some (ds, st2) => mtD st2 m x ds
        | none => none)
      | none => none)
    | none => none
  | .dnewK, _, st => some (.dK [], st)
  | .dnewT, _, st => some (.dT [], st)
  | .dspK es, φ, st => match evEs es φ st with
    | some (ds, st1) => (match pairsOf ds with
      | some l => some (.dK (l.foldl (fun a p => put a p.1 p.2) []), st1)
      | none => none)
    | none => none
  | .comp own t w src ifs e, φ, st => match evEs src φ st with
    | some (ds, st1) => (match overW (fun d s => match bindCT (wipe φ own) t d with
          | some φ1 => (match evIfs ifs φ1 s with
            | some (true, s1) => (match evE e φ1 s1 with
              | some (y, s2) => some (some y, trimS s.length y s2)
              | none => none)
            | some (false, s1) => some (none, s1)
            | none => none)
          | none => none) w ds st1 with
      | some (ys, st2) => some (.lst ys, st2)
      | none => none)
    | none => none
  | .dcomp own t w src ifs k v, φ, st => match evEs src φ st with
    | some (ds, st1) => (match overW (fun d s => match bindCT (wipe φ own) t d with
          | some φ1 => (match evIfs ifs φ1 s with
            | some (true, s1) => (match evE k φ1 s1 with
              | some (x, s2) => (match evE v φ1 s2 with
                | some (y, s3) => some (some (.tup [x, y]), s3)
                | none => none)
              | none => none)
            | some (false, s1) => some (none, s1)
            | none => none)
          | none => none) w ds st1 with
      | some (ys, st2) => (match dictOf ys with
        | some l => some (.dK (l.foldl (fun a p => put a p.1 p.2) []), st2)
        | none => none)
      | none => none)
    | none => none
  | .comp2 own t w src t2 w2 src2 e, φ, st => match evEs src φ st with
    | some (ds, st1) => (match overW (fun d s => match bindCT (wipe φ own) t d with
          | some φ1 => (match evEs src2 φ1 s with
            | some (ds2, s1) => (match overW (fun d2 s => match bindCT (wipe φ1 t2.slots) t2 d2 with
                | some φ2 => (match evE e φ2 s with
                  | some (y, s2) => some (some y, s2)
                  | none => none)
                | none => none) w2 ds2 s1 with
              | some (ys, s2) => some (some (.lst ys), s2)
              | none => none)
            | none => none)
          | none => none) w ds st1 with
      | some (yss, st2) => (match catL yss with
        | some ys => if ys.length ≤ line then some (.lst ys, st2) else none
        | none => none)
      | none => none)
    | none => none
  | .mk e, φ, st => if fresh e then (match evE e φ st with
      | some (d, st1) => some (.cel st1.length, st1 ++ [d])
      | none => none) else none
def evEs : List Ex → Fr → Sto → Option (List D × Sto)
  | [], _, st => some ([], st)
  | e :: es, φ, st => match e with
    | .star a => (match evE a φ st with
      | some (x, st1) => (match x with
        | .tup l => (match evEs es φ st1 with
          | some (ds, st2) => some (l ++ ds, st2)
          | none => none)
        | _ => none)
      | none => none)
    | e => (match evE e φ st with
      | some (d, st1) => (match evEs es φ st1 with
        | some (ds, st2) => some (d :: ds, st2)
        | none => none)
      | none => none)
def evAnd : List Ex → Fr → Sto → Option (D × Sto)
  | [], _, _ => none
  | [e], φ, st => evE e φ st
  | e :: e2 :: es, φ, st => match evE e φ st with
    | some (.bl true, st1) => evAnd (e2 :: es) φ st1
    | some (.bl false, st1) => some (.bl false, st1)
    | _ => none
def evOr : List Ex → Fr → Sto → Option (D × Sto)
  | [], _, _ => none
  | [e], φ, st => evE e φ st
  | e :: e2 :: es, φ, st => match evE e φ st with
    | some (.bl false, st1) => evOr (e2 :: es) φ st1
    | some (.bl true, st1) => some (.bl true, st1)
    | _ => none
/-- an optional part of a slice -/
def evO : List Ex → Fr → Sto → Option (Option Int × Sto)
  | [], _, st => some (none, st)
  | [e], φ, st => (match evE e φ st with
    | some (.int i, st1) => some (some i, st1)
    | _ => none)
  | _ :: _ :: _, _, _ => none
/-- a clause's test, if there is one -/
def evIfs : List Ex → Fr → Sto → Option (Bool × Sto)
  | [], _, st => some (true, st)
  | [e], φ, st => (match evE e φ st with
    | some (.bl b, st1) => some (b, st1)
    | _ => none)
  | _ :: _ :: _, _, _ => none
end

/-- the exception that a call lets out -/
def xE (E : En) : Ex → Fr → Sto → Option (Nat × Sto)
  | .call k es, φ, st => match evEs E es φ st with
    | some (ds, st1) => E.xc k ds st1
    | none => none
  | .callv i es, φ, st => match φ[i]? with
    | some (some (.fn k)) => (match evEs E es φ st with
      | some (ds, st1) => E.xc k ds st1
      | none => none)
    | _ => none
  | _, _, _ => none
/-! ### statements -/
inductive Out where | nx | ret (d : D) | retC (d : D)

def whileF (test : Fr → Sto → Option (D × Sto)) (body : Fr → Sto → Option (Out × Fr × Sto)) : Nat → Fr → Sto → Option (Out × Fr × Sto)
  | 0, _, _ => none
  | n + 1, φ, st => match test φ st with
    | some (.bl false, st1) => some (.nx, φ, st1)
    | some (.bl true, st1) => (match body φ st1 with
      | some (.nx, φ2, st2) => whileF test body n φ2 st2
      | some (.ret d, φ2, st2) => some (.ret d, φ2, st2)
      | some (.retC d, φ2, st2) => some (.retC d, φ2, st2)
      | none => none)
    | _ => none
def forC (src : Sto → Nat → Option (Option D)) (f : D → Fr → Sto → Option (Out × Fr × Sto)) : Nat → Nat → Fr → Sto → Option (Out × Fr × Sto)
  | 0, i, φ, st => match src st i with
    | some none => some (.nx, φ, st)
    | _ => none
  | n + 1, i, φ, st => match src st i with
    | some none => some (.nx, φ, st)
    | some (some d) => (match f d φ st with
      | some (.nx, φ2, st2) => forC src f n (i + 1) φ2 st2
      | some (.ret d, φ2, st2) => some (.ret d, φ2, st2)
      | some (.retC d, φ2, st2) => some (.retC d, φ2, st2)
      | none => none)
    | none => none
/-- more turns than any while here takes -/
def turns : Nat := 2 ^ 80

mutual
def evTg : Tg → D → Fr → Sto → Option (Fr × Sto)
  | .nm i, d, φ, st => some (φ.set i (some d), st)
  | .tup ts, d, φ, st => match d with
    | .tup l => evTgs ts l φ st
    | _ => none
  | .sub o i, d, φ, st => match evE E o φ st with
    | some (x, st1) => (match evE E i φ st1 with
      | some (y, st2) => (match setD st2 x y d with
        | some st3 => some (φ, st3)
        | none => none)
      | none => none)
    | none => none
def evTgs : List Tg → List D → Fr → Sto → Option (Fr × Sto)
  | [], l, φ, st => match l with | [] => some (φ, st) | _ :: _ => none
  | t :: ts, l, φ, st => match l with
    | [] => none
    | d :: r => match evTg t d φ st with
      | some (φ1, st1) => evTgs ts r φ1 st1
      | none => none
end
mutual
def evS : St → Fr → Sto → Option (Out × Fr × Sto)
  | .asg t e, φ, st => match evE E e φ st with
    | some (d, st1) => (match evTg E t d φ st1 with
      | some (φ2, st2) => some (.nx, φ2, st2)
      | none => none)
    | none => none
  | .par is es, φ, st => match evEs E es φ st with
    | some (ds, st1) => (match setAll φ is ds with
      | some φ2 => some (.nx, φ2, st1)
      | none => none)
    | none => none
  | .ex e, φ, st => match evE E e φ st with
    | some (_, st1) => some (.nx, φ, st1)
    | none => none
  | .ret e, φ, st => match evE E e φ st with
    | some (d, st1) => some (.ret d, φ, st1)
    | none => none
  | .retC e, φ, st => match evE E e φ st with
    | some (d, st1) => some (.retC d, φ, st1)
    | none => none
  | .ife c a b, φ, st => match evE E c φ st with
    | some (.bl true, st1) => evSs a φ st1
    | some (.bl false, st1) => evSs b φ st1
    | _ => none
  | .whl c b, φ, st => whileF (evE E c) (evSs b) turns φ st
  | .for_ t w src b, φ, st => match evEs E src φ st with
    | some (ds, st1) => (match srcOf st1 w ds with
      | some (n, src) => forC src (fun d φ s => match bindCT φ t d with
          | some φ1 => evSs b φ1 s
          | none => none) n 0 φ st1
      | none => none)
    | none => none
  | .raise_, _, _ => none
  | .raiseX _ _, _, _ => none
  | .tryE b c h, φ, st => match evSs b φ st with
    | some r => some r
    | none => match xSs b φ st with
      | some (x, φ1, st1) => if E.sub x c then evSs h φ1 st1 else none
      | none => none
/-- the exception that a statement lets out: its class, the frame and the store behind it -/
def xS : St → Fr → Sto → Option (Nat × Fr × Sto)
  | .ex e, φ, st => (xE E e φ st).map fun r => (r.1, φ, r.2)
  | .ret e, φ, st => (xE E e φ st).map fun r => (r.1, φ, r.2)
  | .asg _ e, φ, st => (xE E e φ st).map fun r => (r.1, φ, r.2)
  | .raiseX c es, φ, st => match evEs E es φ st with
    | some (_, st1) => some (c, φ, st1)
    | none => none
  | .ife c a b, φ, st => match evE E c φ st with
    | some (.bl true, st1) => xSs a φ st1
    | some (.bl false, st1) => xSs b φ st1
    | _ => none
  | _, _, _ => none
def xSs : List St → Fr → Sto → Option (Nat × Fr × Sto)
  | [], _, _ => none
  | s :: r, φ, st => match evS s φ st with
    | some (.nx, φ2, st2) => xSs r φ2 st2
    | some _ => none
    | none => xS s φ st
def evSs : List St → Fr → Sto → Option (Out × Fr × Sto)
  | [], φ, st => some (.nx, φ, st)
  | s :: r, φ, st => match evS s φ st with
    | some (.nx, φ2, st2) => evSs r φ2 st2
    | some (.ret d, φ2, st2) => some (.ret d, φ2, st2)
    | some (.retC d, φ2, st2) => some (.retC d, φ2, st2)
    | none => none
end
end

/-! ### defs -/
/-- a def is left: its own cells (from n on) are cells no more -/
def leave (n : Nat) (st : Sto) (d : D) : Option (D × Sto) :=
  if st.length ≤ n then some (d, st)
  else if undL (st.take n) n then
    (if d.und n then some (d, st.take n)
    else match d with
      | .cel k => (match st[k]? with
        | some c => if c.und n then some (c, st.take n) else none
        | none => none)
      | _ => none)
  else none
/-- .. and hands back one of them -/
def leaveC (n : Nat) (st : Sto) (d : D) : Option (D × Sto) := match d with
  | .cel k => if n ≤ k ∧ undL (st.take n) n then (match st[k]? with
      | some c => if c.und n then some (.cel n, st.take n ++ [c]) else none
      | none => none) else none
  | _ => none

/-- a def: its parameters' number, its slots' number, its body -/
structure FnI where
  np : Nat
  ns : Nat
  body : List St
  deriving Inhabited
def startF (ns : Nat) (args : List D) : Fr := args.map some ++ List.replicate (ns - args.length) none
mutual
def run (prog : List (Option FnI)) (G : List D) (sub : Nat → Nat → Bool) : Nat → Cl
  | 0 => fun _ _ _ => none
  | n + 1 => fun k args st => match prog[k]? with
    | some (some f) => if args.length = f.np then
        (match evSs ⟨G, run prog G sub n, xrun prog G sub n, sub⟩ f.body (startF f.ns args) st with
        | some (.ret d, _, st1) => leave st.length st1 d
        | some (.nx, _, st1) => leave st.length st1 .non
        | some (.retC d, _, st1) => leaveC st.length st1 d
        | none => none)
      else none
    | _ => none
/-- the exception that a call lets out -/
def xrun (prog : List (Option FnI)) (G : List D) (sub : Nat → Nat → Bool) : Nat → Nat → List D → Sto → Option (Nat × Sto)
  | 0 => fun _ _ _ => none
  | n + 1 => fun k args st => match prog[k]? with
    | some (some f) => if args.length = f.np then
        (match xSs ⟨G, run prog G sub n, xrun prog G sub n, sub⟩ f.body (startF f.ns args) st with
        | some (x, _, st1) => (match leave st.length st1 .non with | some (_, st2) => some (x, st2) | none => none)
        | none => none)
      else none
    | _ => none
end
end Ev


set_option Elab.async false
set_option linter.all false
set_option maxRecDepth 100000
/-! EvR: what stands in the heap for data, cells, a frame. -/
namespace Ev
open PySem PySem.Spec PyProof.Rows L2

/-- the written part, the defs' addresses -/
structure Wr where
  K : PySem.W.Frag
  fa : Nat → Addr

section
variable (W : Wr)
mutual
inductive Rp (κ : List Addr) (G : Hp) : V → D → Prop
  | non : Rp κ G .non .non
  | bl (b : Bool) : Rp κ G (.bl b) (.bl b)
  | int (i : Int) : Rp κ G (.int i) (.int i)
  | str (x : Str) : Rp κ G (.str x) (.str x)
  | tup {a : Addr} {o : Obj} {vs : List V} {ds : List D} : a ∉ κ → G a = some (.frz o (.tup vs)) → o.dict = none → RpL κ G vs ds → Rp κ G (.ref a) (.tup ds)
  | ktup {a : Addr} {vs : List V} {ds : List D} {o : Obj} {its : Array Value} {n : Nat} : W.K.lookup a = some o → o.cls = .type "tuple" → o.dict = none → o.data = .seq its n → its.size ≤ sizeLine → Vals vs its.toList → RpL κ G vs ds → Rp κ G (.ref a) (.tup ds)
  | lst {a : Addr} {vs : List V} {ds : List D} : a ∉ κ → G a = some (.lst vs) → RpL κ G vs ds → Rp κ G (.ref a) (.lst ds)
  | scr {a : Addr} {vs : List V} {ds : List D} : a ∉ κ → Rd G a (.lst vs) → RpL κ G vs ds → Rp κ G (.ref a) (.scr ds)
  | kscr {a : Addr} {vs : List V} {ds : List D} {o : Obj} {its : Array Value} {n : Nat} : W.K.lookup a = some o → o.cls = .type "list" → o.dict = none → o.data = .seq its n → its.size ≤ sizeLine → Vals vs its.toList → RpL κ G vs ds → Rp κ G (.ref a) (.scr ds)
  | dK {a : Addr} {kvs : List (L2.Key × V)} {l : List (Ky × D)} : a ∉ κ → G a = some (.dK kvs) → RpK κ G kvs l → Rp κ G (.ref a) (.dK l)
  | dT {a : Addr} {kvs : List (List L2.Key × V)} {l : List (List Ky × D)} : a ∉ κ → G a = some (.dT kvs) → RpT κ G kvs l → Rp κ G (.ref a) (.dT l)
  | cel {a : Addr} {k : Nat} : κ[k]? = some a → Rp κ G (.ref a) (.cel k)
  | fn (k : Nat) : Rp κ G (.ref (W.fa k)) (.fn k)
  | ty (n : String) : Rp κ G (.ty n) (.ty n)
inductive RpL (κ : List Addr) (G : Hp) : List V → List D → Prop
  | nil : RpL κ G [] []
  | cons {v : V} {vs : List V} {d : D} {ds : List D} : Rp κ G v d → RpL κ G vs ds → RpL κ G (v :: vs) (d :: ds)
inductive RpK (κ : List Addr) (G : Hp) : List (L2.Key × V) → List (Ky × D) → Prop
  | nil : RpK κ G [] []
  | cons {q : Ky} {v : V} {vs : List (L2.Key × V)} {d : D} {ds : List (Ky × D)} : Rp κ G v d → RpK κ G vs ds → RpK κ G ((q, v) :: vs) ((q, d) :: ds)
inductive RpT (κ : List Addr) (G : Hp) : List (List L2.Key × V) → List (List Ky × D) → Prop
  | nil : RpT κ G [] []
  | cons {q : List Ky} {v : V} {vs : List (List L2.Key × V)} {d : D} {ds : List (List Ky × D)} : Rp κ G v d → RpT κ G vs ds → RpT κ G ((q, v) :: vs) ((q, d) :: ds)
end
/-- a cell's content at a -/
def CellOk (κ : List Addr) (G : Hp) (a : Addr) : D → Prop
  | .lst ds => ∃ vs, G a = some (.lst vs) ∧ RpL W κ G vs ds
  | .dK l => ∃ kvs, G a = some (.dK kvs) ∧ RpK W κ G kvs l
  | .dT l => ∃ kvs, G a = some (.dT kvs) ∧ RpT W κ G kvs l
  | _ => False
/-- the store: cell k at κ[k]; G: what is seen, a part of the heap H -/
structure Ok (κ : List Addr) (st : Sto) (G H : Hp) : Prop where
  sub : ∀ a o, G a = some o → H a = some o
  len : κ.length = st.length
  nd : κ.Nodup
  cell : ∀ (k : Nat) (a : Addr) (c : D), κ[k]? = some a → st[k]? = some c → CellOk W κ G a c
end
/-- from one state on: cells and objects more, what was seen stays but for the cells, what was hidden stays hidden -/
structure Stp (κ : List Addr) (G H : Hp) (κ' : List Addr) (G' H' : Hp) : Prop where
  pre : ∃ e, κ' = κ ++ e ∧ ∀ a ∈ e, H a = none
  keep : ∀ a o, G a = some o → a ∉ κ → G' a = some o
  hid : ∀ a o, H a = some o → G a = none → H' a = some o ∧ G' a = none
  there : ∀ a o, H a = some o → ∃ o', H' a = some o'

section
variable {W : Wr} {κ κ' κ2 : List Addr} {st st' st2 : Sto} {G G' G2 H H' H2 : Hp}
theorem Stp.refl : Stp κ G H κ G H := ⟨⟨[], by simp, by simp⟩, fun _ _ h _ => h, fun _ _ h g => ⟨h, g⟩, fun _ o h => ⟨o, h⟩⟩
theorem Stp.trans (O : Ok W κ st G H) (a : Stp κ G H κ' G' H') (b : Stp κ' G' H' κ2 G2 H2) : Stp κ G H κ2 G2 H2 := by
  obtain ⟨e, rfl, he⟩ := a.pre
  obtain ⟨f, rfl, hf⟩ := b.pre
  refine ⟨⟨e ++ f, by simp, fun x hx => ?_⟩, fun x o h hx => ?_, fun x o h g => ?_, fun x o h => ?_⟩
  · rcases List.mem_append.mp hx with hx | hx
    · exact he x hx
    · cases q : H x with
      | none => rfl
      | some o => obtain ⟨o', z⟩ := a.there x o q; rw [hf x hx] at z; cases z
  · refine b.keep x o (a.keep x o h hx) fun hm => ?_
    rcases List.mem_append.mp hm with z | z
    · exact hx z
    · have := he x z; rw [O.sub x o h] at this; cases this
  · obtain ⟨h1, g1⟩ := a.hid x o h g
    exact b.hid x o h1 g1
  · obtain ⟨o1, h1⟩ := a.there x o h
    exact b.there x o1 h1
theorem Stp.notin (O : Ok W κ st G H) (a : Stp κ G H κ' G' H') {x : Addr} {o : HO} (h : G x = some o) (hx : x ∉ κ) : x ∉ κ' := by
  obtain ⟨e, rfl, he⟩ := a.pre
  intro hm
  rcases List.mem_append.mp hm with z | z
  · exact hx z
  · have := he x z; rw [O.sub x o h] at this; cases this

theorem Rd.keep (O : Ok W κ st G H) (a : Stp κ G H κ' G' H') {x : Addr} {u : HO} (h : Rd G x u) (hx : x ∉ κ) : Rd G' x u ∧ x ∉ κ' := by
  rcases h with h | ⟨o, h⟩
  · exact ⟨.inl (a.keep x _ h hx), a.notin O h hx⟩
  · exact ⟨.inr ⟨o, a.keep x _ h hx⟩, a.notin O h hx⟩
end
section
variable {W : Wr} {κ κ' : List Addr} {st : Sto} {G G' H H' : Hp}
mutual
theorem Rp.mono (O : Ok W κ st G H) (a : Stp κ G H κ' G' H') : ∀ {d : D} {v : V}, Rp W κ G v d → Rp W κ' G' v d
  | .non, _, h => by cases h; exact .non
  | .bl _, _, h => by cases h; exact .bl _
  | .int _, _, h => by cases h; exact .int _
  | .str _, _, h => by cases h; exact .str _
  | .tup ds, _, h => by
    cases h with
    | tup h1 h2 hd h3 => exact .tup (a.notin O h2 h1) (a.keep _ _ h2 h1) hd (RpL.mono O a h3)
    | ktup h1 h2 hd h3 h4 h5 h6 => exact .ktup h1 h2 hd h3 h4 h5 (RpL.mono O a h6)
  | .lst ds, _, h => by
    cases h with
    | lst h1 h2 h3 => exact .lst (a.notin O h2 h1) (a.keep _ _ h2 h1) (RpL.mono O a h3)
  | .scr ds, _, h => by
    cases h with
    | scr h1 h2 h3 =>
      obtain ⟨q1, q2⟩ := Rd.keep O a h2 h1
      exact .scr q2 q1 (RpL.mono O a h3)
    | kscr h1 h2 h3 h4 h5 h6 h7 => exact .kscr h1 h2 h3 h4 h5 h6 (RpL.mono O a h7)
  | .dK l, _, h => by
    cases h with
    | dK h1 h2 h3 => exact .dK (a.notin O h2 h1) (a.keep _ _ h2 h1) (RpK.mono O a h3)
  | .dT l, _, h => by
    cases h with
    | dT h1 h2 h3 => exact .dT (a.notin O h2 h1) (a.keep _ _ h2 h1) (RpT.mono O a h3)
  | .cel k, _, h => by
    cases h with
    | cel h1 =>
      obtain ⟨e, rfl, _⟩ := a.pre
      exact .cel (by rw [List.getElem?_append_left (List.getElem?_eq_some_iff.mp h1).1]; exact h1)
  | .fn _, _, h => by cases h; exact .fn _
  | .ty _, _, h => by cases h; exact .ty _
theorem RpL.mono (O : Ok W κ st G H) (a : Stp κ G H κ' G' H') : ∀ {ds : List D} {vs : List V}, RpL W κ G vs ds → RpL W κ' G' vs ds
  | [], _, h => by cases h; exact .nil
  | d :: ds, _, h => by cases h with | cons h1 h2 => exact .cons (Rp.mono O a h1) (RpL.mono O a h2)
theorem RpK.mono (O : Ok W κ st G H) (a : Stp κ G H κ' G' H') : ∀ {ds : List (Ky × D)} {vs : List (L2.Key × V)}, RpK W κ G vs ds → RpK W κ' G' vs ds
  | [], _, h => by cases h; exact .nil
  | (q, d) :: ds, _, h => by cases h with | cons h1 h2 => exact .cons (Rp.mono O a h1) (RpK.mono O a h2)
theorem RpT.mono (O : Ok W κ st G H) (a : Stp κ G H κ' G' H') : ∀ {ds : List (List Ky × D)} {vs : List (List L2.Key × V)}, RpT W κ G vs ds → RpT W κ' G' vs ds
  | [], _, h => by cases h; exact .nil
  | (q, d) :: ds, _, h => by cases h with | cons h1 h2 => exact .cons (Rp.mono O a h1) (RpT.mono O a h2)
end
end

theorem nodup_ixA {N : List Addr} (hN : N.Nodup) {i j : Nat} {x : Addr} (a : N[i]? = some x) (b : N[j]? = some x) : i = j := by
  obtain ⟨h1, e1⟩ := List.getElem?_eq_some_iff.mp a
  obtain ⟨h2, e2⟩ := List.getElem?_eq_some_iff.mp b
  exact (List.getElem_inj hN).mp (e1.trans e2.symm)
/-- a frame: what is told of a slot stands there -/
structure FrOk (W : Wr) (κ : List Addr) (G : Hp) (φ : Fr) (σ : L2.St) : Prop where
  len : φ.length = σ.length
  at_ : ∀ (i : Nat) (d : D), φ[i]? = some (some d) → ∃ v, σ[i]? = some (some v) ∧ Rp W κ G v d
/-- an object's content by data -/
inductive HoRp (W : Wr) (κ : List Addr) (G : Hp) : HO → D → Prop
  | tup {o : Obj} {vs ds} : o.dict = none → RpL W κ G vs ds → HoRp W κ G (.frz o (.tup vs)) (.tup ds)
  | lst {vs ds} : RpL W κ G vs ds → HoRp W κ G (.lst vs) (.lst ds)
  | dK {kvs l} : RpK W κ G kvs l → HoRp W κ G (.dK kvs) (.dK l)
  | dT {kvs l} : RpT W κ G kvs l → HoRp W κ G (.dT kvs) (.dT l)
section
variable {W : Wr} {κ κ' : List Addr} {st : Sto} {G G' H H' : Hp} {φ : Fr} {σ : L2.St} {p : Addr} {o : HO} {c : D}
theorem FrOk.mono (F : FrOk W κ G φ σ) (O : Ok W κ st G H) (a : Stp κ G H κ' G' H') : FrOk W κ' G' φ σ :=
  ⟨F.len, fun i d e => let ⟨v, h1, h2⟩ := F.at_ i d e; ⟨v, h1, h2.mono O a⟩⟩
theorem FrOk.set (F : FrOk W κ G φ σ) {v : V} {d : D} (i : Nat) (r : Rp W κ G v d) : FrOk W κ G (φ.set i (some d)) (σ.set i (some v)) := by
  refine ⟨by simp [F.len], fun j e h => ?_⟩
  by_cases q : j = i
  · subst q
    by_cases l : j < φ.length
    · rw [List.getElem?_set_self l] at h
      cases h
      exact ⟨v, List.getElem?_set_self (by rw [← F.len]; exact l), r⟩
    · rw [List.getElem?_eq_none (by simpa using l)] at h
      cases h
  · rw [List.getElem?_set_ne (Ne.symm q)] at h
    obtain ⟨u, h1, h2⟩ := F.at_ j e h
    exact ⟨u, by rw [List.getElem?_set_ne (Ne.symm q)]; exact h1, h2⟩
theorem FrOk.unset (F : FrOk W κ G φ σ) (i : Nat) : FrOk W κ G (φ.set i none) (σ.set i none) := by
  refine ⟨by simp [F.len], fun j e h => ?_⟩
  by_cases q : j = i
  · subst q
    by_cases l : j < φ.length
    · rw [List.getElem?_set_self l] at h; cases h
    · rw [List.getElem?_eq_none (by simpa using l)] at h; cases h
  · rw [List.getElem?_set_ne (Ne.symm q)] at h
    obtain ⟨u, h1, h2⟩ := F.at_ j e h
    exact ⟨u, by rw [List.getElem?_set_ne (Ne.symm q)]; exact h1, h2⟩
theorem FrOk.wipe (F : FrOk W κ G φ σ) : ∀ is : List Nat, FrOk W κ G (Ev.wipe φ is) (L2.wipe σ is)
  | [] => F
  | i :: is => (FrOk.wipe F is).unset i
/-- a new object, not seen yet -/
theorem Ok.hide (O : Ok W κ st G H) (hp : H p = none) : Ok W κ st G (upd H p o) ∧ Stp κ G H κ G (upd H p o) := by
  have gp : G p = none := by
    cases q : G p with
    | none => rfl
    | some u => have := O.sub p u q; rw [hp] at this; cases this
  have ne : ∀ a u, H a = some u → a ≠ p := fun a u h e => by rw [e, hp] at h; cases h
  refine ⟨⟨fun a u h => by rw [upd_ne (ne a u (O.sub a u h))]; exact O.sub a u h, O.len, O.nd, O.cell⟩, ⟨⟨[], by simp, by simp⟩, fun _ _ h _ => h, fun a u h g => ⟨by rw [upd_ne (ne a u h)]; exact h, g⟩, fun a u h => ⟨u, by rw [upd_ne (ne a u h)]; exact h⟩⟩⟩
theorem Ok.cellIn (O : Ok W κ st G H) {a : Addr} (ha : a ∈ κ) : ∃ u, G a = some u := by
  obtain ⟨k, hk⟩ := List.mem_iff_getElem?.mp ha
  have hl : k < st.length := by rw [← O.len]; exact (List.getElem?_eq_some_iff.mp hk).1
  have := O.cell k a _ hk (List.getElem?_eq_getElem hl)
  generalize st[k] = c at this
  cases c <;> first | exact this.elim | (obtain ⟨vs, h, _⟩ := this; exact ⟨_, h⟩)
/-- .. is seen from now on -/
theorem Ok.show (O : Ok W κ st G H) (hg : G p = none) (hp : H p = some o) : Ok W κ st (upd G p o) H ∧ Stp κ G (fun a => if a = p then none else H a) κ (upd G p o) H := by
  have ne : ∀ a u, G a = some u → a ≠ p := fun a u h e => by rw [e, hg] at h; cases h
  have S : Stp κ G (fun a => if a = p then none else H a) κ (upd G p o) H := by
    refine ⟨⟨[], by simp, by simp⟩, fun a u h _ => by rw [upd_ne (ne a u h)]; exact h, fun a u h g => ?_, fun a u h => ?_⟩
    · by_cases e : a = p
      · simp [e] at h
      · simp only [if_neg e] at h
        exact ⟨h, by rw [upd_ne e]; exact g⟩
    · by_cases e : a = p
      · simp [e] at h
      · simp only [if_neg e] at h
        exact ⟨u, h⟩
  have O' : Ok W κ st G (fun a => if a = p then none else H a) := ⟨fun a u h => by simp only [if_neg (ne a u h)]; exact O.sub a u h, O.len, O.nd, O.cell⟩
  refine ⟨⟨fun a u h => ?_, O.len, O.nd, fun k a c e1 e2 => ?_⟩, S⟩
  · by_cases e : a = p
    · subst e; rw [upd_same] at h; cases h; exact hp
    · rw [upd_ne e] at h; exact O.sub a u h
  · have := O.cell k a c e1 e2
    have na : a ≠ p := by obtain ⟨u, hu⟩ := O.cellIn (List.mem_of_getElem? e1); exact ne a u hu
    cases c <;> first | exact this.elim | skip
    · obtain ⟨vs, h1, h2⟩ := this; exact ⟨vs, by rw [upd_ne na]; exact h1, h2.mono O' S⟩
    · obtain ⟨vs, h1, h2⟩ := this; exact ⟨vs, by rw [upd_ne na]; exact h1, h2.mono O' S⟩
    · obtain ⟨vs, h1, h2⟩ := this; exact ⟨vs, by rw [upd_ne na]; exact h1, h2.mono O' S⟩
theorem HoRp.mono (O : Ok W κ st G H) (a : Stp κ G H κ' G' H') (h : HoRp W κ G o c) : HoRp W κ' G' o c := by
  cases h with
  | tup hd h => exact .tup hd (h.mono O a)
  | lst h => exact .lst (h.mono O a)
  | dK h => exact .dK (h.mono O a)
  | dT h => exact .dT (h.mono O a)
theorem HoRp.rp (h : HoRp W κ G o c) (hp : G p = some o) (hk : p ∉ κ) : Rp W κ G (.ref p) c := by
  cases h with
  | tup hd h => exact .tup hk hp hd h
  | lst h => exact .lst hk hp h
  | dK h => exact .dK hk hp h
  | dT h => exact .dT hk hp h
/-- what a fresh object gives as data: from a state in which it is hidden -/
theorem reveal {κ0 : List Addr} {G0 H0 : Hp} {st0 : Sto} (O0 : Ok W κ0 st0 G0 H0) (S : Stp κ0 G0 H0 κ G H) (O : Ok W κ st G H) (hg : G p = none) (h0 : H0 p = none) (hk : p ∉ κ) (hp : H p = some o) (r : HoRp W κ G o c) :
    ∃ G', Ok W κ st G' H ∧ Stp κ0 G0 H0 κ G' H ∧ Rp W κ G' (.ref p) c := by
  obtain ⟨O1, S1⟩ := O.show hg hp
  have O' : Ok W κ st G (fun a => if a = p then none else H a) := ⟨fun a u h => by
    have : a ≠ p := fun e => by rw [e, hg] at h; cases h
    simp only [if_neg this]; exact O.sub a u h, O.len, O.nd, O.cell⟩
  refine ⟨upd G p o, O1, ⟨S.pre, fun a u h hx => ?_, fun a u h g => ?_, S.there⟩, (r.mono O' S1).rp upd_same hk⟩
  · have := S.keep a u h hx
    rw [upd_ne (fun e => by rw [e, hg] at this; cases this)]; exact this
  · obtain ⟨h1, h2⟩ := S.hid a u h g
    exact ⟨h1, by rw [upd_ne (fun e => by rw [e, h0] at h; cases h)]; exact h2⟩
/-- .. as a cell -/
theorem recell {κ0 : List Addr} {G0 H0 : Hp} {st0 : Sto} (O0 : Ok W κ0 st0 G0 H0) (S : Stp κ0 G0 H0 κ G H) (O : Ok W κ st G H) (hg : G p = none) (h0 : H0 p = none) (hk : p ∉ κ) (hp : H p = some o) (r : HoRp W κ G o c) (hc : ∀ ds, c ≠ .tup ds) :
    ∃ G', Ok W (κ ++ [p]) (st ++ [c]) G' H ∧ Stp κ0 G0 H0 (κ ++ [p]) G' H ∧ Rp W (κ ++ [p]) G' (.ref p) (.cel st.length) := by
  have O' : Ok W κ st G (fun a => if a = p then none else H a) := ⟨fun a u h => by
    have : a ≠ p := fun e => by rw [e, hg] at h; cases h
    simp only [if_neg this]; exact O.sub a u h, O.len, O.nd, O.cell⟩
  have ne : ∀ a u, G a = some u → a ≠ p := fun a u h e => by rw [e, hg] at h; cases h
  have S1 : Stp κ G (fun a => if a = p then none else H a) (κ ++ [p]) (upd G p o) H := by
    refine ⟨⟨[p], rfl, by simp⟩, fun a u h _ => by rw [upd_ne (ne a u h)]; exact h, fun a u h g => ?_, fun a u h => ?_⟩
    · by_cases e : a = p
      · simp [e] at h
      · simp only [if_neg e] at h
        exact ⟨h, by rw [upd_ne e]; exact g⟩
    · by_cases e : a = p
      · simp [e] at h
      · simp only [if_neg e] at h
        exact ⟨u, h⟩
  have cellmono : ∀ a d, a ≠ p → CellOk W κ G a d → CellOk W (κ ++ [p]) (upd G p o) a d := fun a d na h => by
    cases d <;> first | exact h.elim | skip
    · obtain ⟨vs, h1, h2⟩ := h; exact ⟨vs, by rw [upd_ne na]; exact h1, h2.mono O' S1⟩
    · obtain ⟨vs, h1, h2⟩ := h; exact ⟨vs, by rw [upd_ne na]; exact h1, h2.mono O' S1⟩
    · obtain ⟨vs, h1, h2⟩ := h; exact ⟨vs, by rw [upd_ne na]; exact h1, h2.mono O' S1⟩
  refine ⟨upd G p o, ⟨fun a u h => ?_, by simp [O.len], ?_, fun k a d e1 e2 => ?_⟩, ⟨?_, fun a u h hx => ?_, fun a u h g => ?_, S.there⟩, .cel ?_⟩
  · by_cases e : a = p
    · subst e; rw [upd_same] at h; cases h; exact hp
    · rw [upd_ne e] at h; exact O.sub a u h
  · rw [List.nodup_append]
    exact ⟨O.nd, by simp, fun a ha b hb e => by simp at hb; subst hb; subst e; exact hk ha⟩
  · by_cases l : k < κ.length
    · rw [List.getElem?_append_left l] at e1
      rw [List.getElem?_append_left (by rw [← O.len]; exact l)] at e2
      refine cellmono a d ?_ (O.cell k a d e1 e2)
      obtain ⟨u, hu⟩ := O.cellIn (List.mem_of_getElem? e1)
      exact ne a u hu
    · have l' : k = κ.length := by
        have := (List.getElem?_eq_some_iff.mp e1).1
        simp at this; omega
      subst l'
      rw [List.getElem?_append_right (Nat.le_refl _)] at e1
      rw [O.len, List.getElem?_append_right (Nat.le_refl _)] at e2
      simp at e1 e2
      subst e1 e2
      have r1 := r.mono O' S1
      cases r1 with
      | tup _ h => exact absurd rfl (hc _)
      | lst h => exact ⟨_, upd_same, h⟩
      | dK h => exact ⟨_, upd_same, h⟩
      | dT h => exact ⟨_, upd_same, h⟩
  · obtain ⟨e, rfl, he⟩ := S.pre
    refine ⟨e ++ [p], by simp, fun a ha => ?_⟩
    rcases List.mem_append.mp ha with z | z
    · exact he a z
    · simp at z; subst z; exact h0
  · have := S.keep a u h hx
    rw [upd_ne (fun e => by rw [e, hg] at this; cases this)]; exact this
  · obtain ⟨h1, h2⟩ := S.hid a u h g
    exact ⟨h1, by rw [upd_ne (fun e => by rw [e, h0] at h; cases h)]; exact h2⟩
  · rw [← O.len, List.getElem?_append_right (Nat.le_refl _)]; simp
/-- a cell is written -/
theorem Ok.write (O : Ok W κ st G H) {a : Addr} {k : Nat} (hk : κ[k]? = some a) (r : HoRp W κ G o c) (hc : ∀ ds, c ≠ .tup ds) : Ok W κ (st.set k c) (upd G a o) (upd H a o) ∧ Stp κ G H κ (upd G a o) (upd H a o) := by
  obtain ⟨u0, g0⟩ := O.cellIn (List.mem_of_getElem? hk)
  have S : Stp κ G H κ (upd G a o) (upd H a o) := by
    refine ⟨⟨[], by simp, by simp⟩, fun b u h hb => ?_, fun b u h g => ?_, fun b u h => ?_⟩
    · have : b ≠ a := fun e => hb (by rw [e]; exact List.mem_of_getElem? hk)
      rw [upd_ne this]; exact h
    · have : b ≠ a := fun e => by rw [e, g0] at g; cases g
      rw [upd_ne this, upd_ne this]; exact ⟨h, g⟩
    · by_cases e : b = a
      · subst e; exact ⟨o, upd_same⟩
      · exact ⟨u, by rw [upd_ne e]; exact h⟩
  refine ⟨⟨fun b u h => ?_, by simp [O.len], O.nd, fun j b d e1 e2 => ?_⟩, S⟩
  · by_cases e : b = a
    · subst e; rw [upd_same] at h ⊢; exact h
    · rw [upd_ne e] at h ⊢; exact O.sub b u h
  · by_cases e : j = k
    · subst e
      rw [hk] at e1; cases e1
      have l : j < st.length := by rw [← O.len]; exact (List.getElem?_eq_some_iff.mp hk).1
      rw [List.getElem?_set_self l] at e2
      cases e2
      have r1 := r.mono O S
      cases r1 with
      | tup _ h => exact absurd rfl (hc _)
      | lst h => exact ⟨_, upd_same, h⟩
      | dK h => exact ⟨_, upd_same, h⟩
      | dT h => exact ⟨_, upd_same, h⟩
    · rw [List.getElem?_set_ne (Ne.symm e)] at e2
      have nb : b ≠ a := fun q => e (nodup_ixA O.nd e1 (q ▸ hk))
      have := O.cell j b d e1 e2
      cases d <;> first | exact this.elim | skip
      · obtain ⟨vs, h1, h2⟩ := this; exact ⟨vs, by rw [upd_ne nb]; exact h1, h2.mono O S⟩
      · obtain ⟨vs, h1, h2⟩ := this; exact ⟨vs, by rw [upd_ne nb]; exact h1, h2.mono O S⟩
      · obtain ⟨vs, h1, h2⟩ := this; exact ⟨vs, by rw [upd_ne nb]; exact h1, h2.mono O S⟩
end
end Ev


set_option Elab.async false
set_option linter.all false
set_option maxRecDepth 100000
set_option maxHeartbeats 1000000
/-! EvO: what the operations give, by data. -/
namespace Ev
open PySem PySem.Spec PyProof.Rows L2

/-- what is told of a def's surroundings: the defs' addresses, the module's names, their values, the defs -/
structure Tab where
  fa : Nat → Addr
  gn : List Str
  G : List D
  prog : List (Option FnI)
  fd : Nat → FuncData
  ps : Nat → List Str
  /-- the exceptions' classes: addresses, names, order -/
  ca : Nat → Addr := fun _ => 0
  cn : List Str := []
  sub : Nat → Nat → Bool := fun _ _ => false
/-- the table's Wr over a context -/
abbrev Tab.W (T : Tab) (K : PySem.W.Frag) : Wr := ⟨K, T.fa⟩

section
variable (W : Wr)
def KQ (κ : List Addr) (G H : Hp) (st : Sto) (d : D) (Q : VK) : Prop := ∀ v κ' G' H', Stp κ G H κ' G' H' → Ok W κ' st G' H' → Rp W κ' G' v d → Q v H'
def KA (κ : List Addr) (G H : Hp) (st : Sto) (ds : List D) (Q : List V → Hp → Prop) : Prop := ∀ vs κ' G' H', Stp κ G H κ' G' H' → Ok W κ' st G' H' → RpL W κ' G' vs ds → Q vs H'
def KT (κ : List Addr) (G H : Hp) (st : Sto) (b : Bool) (Q : Bool → Hp → Prop) : Prop := ∀ κ' G' H', Stp κ G H κ' G' H' → Ok W κ' st G' H' → Q b H'
def tD (f : Fr → Sto → Option (D × Sto)) : TE := fun σ H Q => ∃ φ st κ G d st', FrOk W κ G φ σ ∧ Ok W κ st G H ∧ f φ st = some (d, st') ∧ KQ W κ G H st' d Q
def tA (f : Fr → Sto → Option (List D × Sto)) : TA := fun σ H Q => ∃ φ st κ G ds st', FrOk W κ G φ σ ∧ Ok W κ st G H ∧ f φ st = some (ds, st') ∧ KA W κ G H st' ds Q
/-- a test: the value is a bool -/
def tDT (f : Fr → Sto → Option (D × Sto)) : TT := fun σ H Q => ∃ φ st κ G b st', FrOk W κ G φ σ ∧ Ok W κ st G H ∧ f φ st = some (.bl b, st') ∧ KT W κ G H st' b Q
/-- an operation on two values, on arguments, by data -/
def rD (k : Sto → D → D → Option D) : R2 := fun x y H Q => ∃ κ G st dx dy d, Ok W κ st G H ∧ Rp W κ G x dx ∧ Rp W κ G y dy ∧ k st dx dy = some d ∧ KQ W κ G H st d Q
def rDL (k : Sto → List D → Option D) : List V → Hp → VK → Prop := fun xs H Q => ∃ κ G st ds d, Ok W κ st G H ∧ RpL W κ G xs ds ∧ k st ds = some d ∧ KQ W κ G H st d Q
end

theorem sizeLine_is : sizeLine = line := rfl
theorem PE.imp {X : Cx} {e : Expr} {t t' : TE} (h : PE X e t) (i : ∀ σ H Q, t' σ H Q → t σ H Q) : PE X e t' := ⟨fun pins s σ H Q I q => h.run pins s σ H Q I (i σ H Q q)⟩
theorem PT.imp {X : Cx} {e : Expr} {t t' : TT} (h : PT X e t) (i : ∀ σ H Q, t' σ H Q → t σ H Q) : PT X e t' := ⟨fun pins s σ H Q I q => h.run pins s σ H Q I (i σ H Q q)⟩
theorem PA.imp {X : Cx} {e : List Expr} {t t' : TA} (h : PA X e t) (i : ∀ σ H Q, t' σ H Q → t σ H Q) : PA X e t' := ⟨fun pos pins s σ H Q I q => h.run pos pins s σ H Q I (i σ H Q q)⟩
/-- every list and tuple that is tracked has a length within the line -/
def HLen (H : Hp) : Prop := (∀ a xs, H a = some (.lst xs) → xs.length ≤ sizeLine) ∧ ∀ a xs, H a = some (.tup xs) → xs.length ≤ sizeLine
theorem hlen_of {X : Cx} {pins : List (Addr × Obj)} {σ : L2.St} {H : Hp} {s : Shared} (I : Inv X pins σ H s) : HLen H :=
  ⟨fun a xs h => (I.hok a _ h).1, fun a xs h => (I.hok a _ h).1⟩
theorem PE.impL {X : Cx} {e : Expr} {t t' : TE} (h : PE X e t) (i : ∀ σ H Q, HLen H → t' σ H Q → t σ H Q) : PE X e t' := ⟨fun pins s σ H Q I q => h.run pins s σ H Q I (i σ H Q (hlen_of I) q)⟩

section
variable {W : Wr} {κ κ0 : List Addr} {st st0 : Sto} {G H G0 H0 : Hp} {x y : V} {d e : D} {ds : List D} {Q : VK}
theorem KQ.now (k : KQ W κ G H st d Q) (O : Ok W κ st G H) {v : V} (r : Rp W κ G v d) : Q v H := k v κ G H Stp.refl O r
theorem KQ.from {st1 : Sto} {κ1 : List Addr} {G1 H1 : Hp} (k : KQ W κ G H st d Q) (O : Ok W κ st1 G H) (S : Stp κ G H κ1 G1 H1) : KQ W κ1 G1 H1 st d Q :=
  fun v κ' G' H' S' O' r => k v κ' G' H' (S.trans O S') O' r
/-- a new object ends an operation -/
theorem KQ.new {p : Addr} {o : HO} (k : KQ W κ G H st d Q) (O : Ok W κ st G H) (r : HoRp W κ G o d) (hp : H p = none) : Q (.ref p) (upd H p o) := by
  obtain ⟨O1, S1⟩ := O.hide (o := o) hp
  have gp : G p = none := by
    cases q : G p with
    | none => rfl
    | some u => have := O.sub p u q; rw [hp] at this; cases this
  have hk : p ∉ κ := fun hm => by
    obtain ⟨u, hu⟩ := O.cellIn hm
    rw [gp] at hu; cases hu
  obtain ⟨G', O2, S2, r2⟩ := reveal O S1 O1 gp hp hk upd_same r
  exact k _ _ _ _ S2 O2 r2

theorem RpL.length : ∀ {vs : List V} {ds : List D}, RpL W κ G vs ds → vs.length = ds.length
  | _, _, .nil => rfl
  | _, _, .cons _ h => by simp [RpL.length h]
theorem RpL.append : ∀ {vs us : List V} {ds es : List D}, RpL W κ G vs ds → RpL W κ G us es → RpL W κ G (vs ++ us) (ds ++ es)
  | _, _, _, _, .nil, h => h
  | _, _, _, _, .cons a h, h' => .cons a (RpL.append h h')
theorem RpL.drop : ∀ {vs : List V} {ds : List D} (n : Nat), RpL W κ G vs ds → RpL W κ G (vs.drop n) (ds.drop n)
  | _, _, 0, h => h
  | _, _, n + 1, .nil => .nil
  | _, _, n + 1, .cons a h => RpL.drop n h
theorem RpL.take : ∀ {vs : List V} {ds : List D} (n : Nat), RpL W κ G vs ds → RpL W κ G (vs.take n) (ds.take n)
  | _, _, 0, h => .nil
  | _, _, n + 1, .nil => .nil
  | _, _, n + 1, .cons a h => .cons a (RpL.take n h)
theorem RpL.reverse {vs : List V} {ds : List D} (h : RpL W κ G vs ds) : RpL W κ G vs.reverse ds.reverse := by
  induction h using RpL.rec (motive_1 := fun _ _ _ => True) (motive_3 := fun _ _ _ => True) (motive_4 := fun _ _ _ => True) with
  | nil => exact .nil
  | cons a h _ ih => simp only [List.reverse_cons]; exact ih.append (.cons a .nil)
  | _ => trivial
theorem RpL.get : ∀ {vs : List V} {ds : List D} {i : Nat} {d : D}, RpL W κ G vs ds → ds[i]? = some d → ∃ v, vs[i]? = some v ∧ Rp W κ G v d
  | _, _, _, _, .nil, h => by simp at h
  | _, _, 0, _, .cons a _, h => by simp at h; subst h; exact ⟨_, rfl, a⟩
  | _, _, i + 1, d, .cons _ h, e => by
    obtain ⟨v, h1, h2⟩ := RpL.get (i := i) (d := d) h (by simpa using e)
    exact ⟨v, by simpa using h1, h2⟩
theorem RpL.set {v : V} {d : D} (r : Rp W κ G v d) : ∀ {vs : List V} {ds : List D} (i : Nat), RpL W κ G vs ds → RpL W κ G (vs.set i v) (ds.set i d)
  | _, _, _, .nil => .nil
  | _, _, 0, .cons _ h => .cons r h
  | _, _, i + 1, .cons a h => .cons a (RpL.set r i h)
theorem RpL.eraseIdx : ∀ {vs : List V} {ds : List D} (i : Nat), RpL W κ G vs ds → RpL W κ G (vs.eraseIdx i) (ds.eraseIdx i)
  | _, _, _, .nil => .nil
  | _, _, 0, .cons _ h => h
  | _, _, i + 1, .cons a h => .cons a (RpL.eraseIdx i h)

/-- what a value reads as, its cell looked up -/
theorem read_tup (O : Ok W κ st G H) (r : Rp W κ G x d) (h : dr st d = .tup ds) : ∃ a vs, x = .ref a ∧ SqT W.K H a vs ∧ RpL W κ G vs ds := by
  cases d with
  | tup l =>
    cases (show D.tup l = .tup ds from h)
    cases r with
    | tup h1 h2 hd h3 => exact ⟨_, _, rfl, .inl (.inr ⟨_, O.sub _ _ h2⟩), h3⟩
    | ktup h1 h2 hd h3 h4 h5 h6 => exact ⟨_, _, rfl, .inr ⟨_, _, _, h1, h2, h3, h4, h5⟩, h6⟩
  | cel k =>
    cases r with
    | cel hk =>
      have hl : k < st.length := by rw [← O.len]; exact (List.getElem?_eq_some_iff.mp hk).1
      have e : st[k]? = some (.tup ds) := by
        have : st.getD k .non = .tup ds := h
        rw [List.getD_eq_getElem?_getD, List.getElem?_eq_getElem hl] at this
        rw [List.getElem?_eq_getElem hl]; exact congrArg some this
      exact (O.cell k _ _ hk e).elim
  | _ => cases h
theorem read_tup_cel {k : Nat} (O : Ok W κ st G H) (r : Rp W κ G x (.cel k)) (h : dr st (.cel k) = .tup ds) : False := by
  cases r with
  | cel hk =>
    have hl : k < st.length := by rw [← O.len]; exact (List.getElem?_eq_some_iff.mp hk).1
    have e : st[k]? = some (.tup ds) := by
      have : st.getD k .non = .tup ds := h
      rw [List.getD_eq_getElem?_getD, List.getElem?_eq_getElem hl] at this
      rw [List.getElem?_eq_getElem hl]; exact congrArg some this
    exact (O.cell k _ _ hk e).elim
theorem read_lst (O : Ok W κ st G H) (r : Rp W κ G x d) (h : dr st d = .lst ds) : ∃ a vs, x = .ref a ∧ H a = some (.lst vs) ∧ RpL W κ G vs ds := by
  cases d with
  | lst l =>
    cases (show D.lst l = .lst ds from h)
    cases r with
    | lst h1 h2 h3 => exact ⟨_, _, rfl, O.sub _ _ h2, h3⟩
  | cel k =>
    cases r with
    | cel hk =>
      have hl : k < st.length := by rw [← O.len]; exact (List.getElem?_eq_some_iff.mp hk).1
      have e : st[k]? = some (.lst ds) := by
        have : st.getD k .non = .lst ds := h
        rw [List.getD_eq_getElem?_getD, List.getElem?_eq_getElem hl] at this
        rw [List.getElem?_eq_getElem hl]; exact congrArg some this
      obtain ⟨vs, h1, h2⟩ := O.cell k _ _ hk e
      exact ⟨_, vs, rfl, O.sub _ _ h1, h2⟩
  | _ => cases h
theorem read_dK {l : List (Ky × D)} (O : Ok W κ st G H) (r : Rp W κ G x d) (h : dr st d = .dK l) : ∃ a kvs, x = .ref a ∧ H a = some (.dK kvs) ∧ RpK W κ G kvs l := by
  cases d with
  | dK l' =>
    cases (show D.dK l' = .dK l from h)
    cases r with
    | dK h1 h2 h3 => exact ⟨_, _, rfl, O.sub _ _ h2, h3⟩
  | cel k =>
    cases r with
    | cel hk =>
      have hl : k < st.length := by rw [← O.len]; exact (List.getElem?_eq_some_iff.mp hk).1
      have e : st[k]? = some (.dK l) := by
        have : st.getD k .non = .dK l := h
        rw [List.getD_eq_getElem?_getD, List.getElem?_eq_getElem hl] at this
        rw [List.getElem?_eq_getElem hl]; exact congrArg some this
      obtain ⟨vs, h1, h2⟩ := O.cell k _ _ hk e
      exact ⟨_, vs, rfl, O.sub _ _ h1, h2⟩
  | _ => cases h
theorem read_dT {l : List (List Ky × D)} (O : Ok W κ st G H) (r : Rp W κ G x d) (h : dr st d = .dT l) : ∃ a kvs, x = .ref a ∧ H a = some (.dT kvs) ∧ RpT W κ G kvs l := by
  cases d with
  | dT l' =>
    cases (show D.dT l' = .dT l from h)
    cases r with
    | dT h1 h2 h3 => exact ⟨_, _, rfl, O.sub _ _ h2, h3⟩
  | cel k =>
    cases r with
    | cel hk =>
      have hl : k < st.length := by rw [← O.len]; exact (List.getElem?_eq_some_iff.mp hk).1
      have e : st[k]? = some (.dT l) := by
        have : st.getD k .non = .dT l := h
        rw [List.getD_eq_getElem?_getD, List.getElem?_eq_getElem hl] at this
        rw [List.getElem?_eq_getElem hl]; exact congrArg some this
      obtain ⟨vs, h1, h2⟩ := O.cell k _ _ hk e
      exact ⟨_, vs, rfl, O.sub _ _ h1, h2⟩
  | _ => cases h
theorem read_scr (O : Ok W κ st G H) (r : Rp W κ G x d) (h : dr st d = .scr ds) : ∃ a vs, x = .ref a ∧ SqL W.K H a vs ∧ RpL W κ G vs ds := by
  cases d with
  | scr l =>
    cases (show D.scr l = .scr ds from h)
    cases r with
    | scr h1 h2 h3 =>
      refine ⟨_, _, rfl, .inl ?_, h3⟩
      rcases h2 with z | ⟨o, z⟩
      · exact .inl (O.sub _ _ z)
      · exact .inr ⟨o, O.sub _ _ z⟩
    | kscr h1 h2 h3 h4 h5 h6 h7 => exact ⟨_, _, rfl, .inr ⟨_, _, _, h1, h2, h3, h4, h5, h6⟩, h7⟩
  | cel k =>
    cases r with
    | cel hk =>
      have hl : k < st.length := by rw [← O.len]; exact (List.getElem?_eq_some_iff.mp hk).1
      have e : st[k]? = some (.scr ds) := by
        have : st.getD k .non = .scr ds := h
        rw [List.getD_eq_getElem?_getD, List.getElem?_eq_getElem hl] at this
        rw [List.getElem?_eq_getElem hl]; exact congrArg some this
      exact (O.cell k _ _ hk e).elim
  | _ => cases h
theorem dr_int (O : Ok W κ st G H) (r : Rp W κ G x d) {i : Int} (h : dr st d = .int i) : d = .int i := by
  cases d with
  | cel k =>
    cases r with
    | cel hk =>
      have hl : k < st.length := by rw [← O.len]; exact (List.getElem?_eq_some_iff.mp hk).1
      have e : st[k]? = some (.int i) := by
        have : st.getD k .non = .int i := h
        rw [List.getD_eq_getElem?_getD, List.getElem?_eq_getElem hl] at this
        rw [List.getElem?_eq_getElem hl]; exact congrArg some this
      exact (O.cell k _ _ hk e).elim
  | _ => first | exact h | cases h
theorem dr_str (O : Ok W κ st G H) (r : Rp W κ G x d) {i : Str} (h : dr st d = .str i) : d = .str i := by
  cases d with
  | cel k =>
    cases r with
    | cel hk =>
      have hl : k < st.length := by rw [← O.len]; exact (List.getElem?_eq_some_iff.mp hk).1
      have e : st[k]? = some (.str i) := by
        have : st.getD k .non = .str i := h
        rw [List.getD_eq_getElem?_getD, List.getElem?_eq_getElem hl] at this
        rw [List.getElem?_eq_getElem hl]; exact congrArg some this
      exact (O.cell k _ _ hk e).elim
  | _ => first | exact h | cases h
end
end Ev


set_option Elab.async false
set_option linter.all false
set_option maxRecDepth 100000
set_option maxHeartbeats 1000000
/-! EvG: fewer cells. -/
namespace Ev
open PySem PySem.Spec PyProof.Rows L2
section
variable {W : Wr} {κ κ' : List Addr} {G : Hp} {n : Nat}
mutual
/-- fewer cells -/
theorem Rp.weak (hs : ∀ x, x ∈ κ → x ∈ κ') (hi : ∀ (k : Nat) a, k < n → κ'[k]? = some a → κ[k]? = some a) : ∀ {d : D} {v : V}, d.und n = true → Rp W κ' G v d → Rp W κ G v d
  | .non, _, _, h => by cases h; exact .non
  | .bl _, _, _, h => by cases h; exact .bl _
  | .int _, _, _, h => by cases h; exact .int _
  | .str _, _, _, h => by cases h; exact .str _
  | .tup ds, _, u, h => by
    have u : undL ds n = true := by simpa [D.und] using u
    cases h with
    | tup h1 h2 hd h3 => exact .tup (fun q => h1 (hs _ q)) h2 hd (RpL.weak hs hi u h3)
    | ktup h1 h2 hd h3 h4 h5 h6 => exact .ktup h1 h2 hd h3 h4 h5 (RpL.weak hs hi u h6)
  | .lst ds, _, u, h => by
    have u : undL ds n = true := by simpa [D.und] using u
    cases h with
    | lst h1 h2 h3 => exact .lst (fun q => h1 (hs _ q)) h2 (RpL.weak hs hi u h3)
  | .scr ds, _, u, h => by
    have u : undL ds n = true := by simpa [D.und] using u
    cases h with
    | scr h1 h2 h3 => exact .scr (fun q => h1 (hs _ q)) h2 (RpL.weak hs hi u h3)
    | kscr h1 h2 h3 h4 h5 h6 h7 => exact .kscr h1 h2 h3 h4 h5 h6 (RpL.weak hs hi u h7)
  | .dK l, _, u, h => by
    have u : undK l n = true := by simpa [D.und] using u
    cases h with
    | dK h1 h2 h3 => exact .dK (fun q => h1 (hs _ q)) h2 (RpK.weak hs hi u h3)
  | .dT l, _, u, h => by
    have u : undT l n = true := by simpa [D.und] using u
    cases h with
    | dT h1 h2 h3 => exact .dT (fun q => h1 (hs _ q)) h2 (RpT.weak hs hi u h3)
  | .cel k, _, u, h => by
    have u : k < n := by simpa [D.und] using u
    cases h with
    | cel h1 => exact .cel (hi k _ u h1)
  | .fn _, _, _, h => by cases h; exact .fn _
  | .ty _, _, _, h => by cases h; exact .ty _
theorem RpL.weak (hs : ∀ x, x ∈ κ → x ∈ κ') (hi : ∀ (k : Nat) a, k < n → κ'[k]? = some a → κ[k]? = some a) : ∀ {ds : List D} {vs : List V}, undL ds n = true → RpL W κ' G vs ds → RpL W κ G vs ds
  | [], _, _, h => by cases h; exact .nil
  | d :: ds, _, u, h => by
    simp only [undL, Bool.and_eq_true] at u
    cases h with | cons h1 h2 => exact .cons (Rp.weak hs hi u.1 h1) (RpL.weak hs hi u.2 h2)
theorem RpK.weak (hs : ∀ x, x ∈ κ → x ∈ κ') (hi : ∀ (k : Nat) a, k < n → κ'[k]? = some a → κ[k]? = some a) : ∀ {ds : List (Ky × D)} {vs : List (L2.Key × V)}, undK ds n = true → RpK W κ' G vs ds → RpK W κ G vs ds
  | [], _, _, h => by cases h; exact .nil
  | (q, d) :: ds, _, u, h => by
    simp only [undK, Bool.and_eq_true] at u
    cases h with | cons h1 h2 => exact .cons (Rp.weak hs hi u.1 h1) (RpK.weak hs hi u.2 h2)
theorem RpT.weak (hs : ∀ x, x ∈ κ → x ∈ κ') (hi : ∀ (k : Nat) a, k < n → κ'[k]? = some a → κ[k]? = some a) : ∀ {ds : List (List Ky × D)} {vs : List (List L2.Key × V)}, undT ds n = true → RpT W κ' G vs ds → RpT W κ G vs ds
  | [], _, _, h => by cases h; exact .nil
  | (q, d) :: ds, _, u, h => by
    simp only [undT, Bool.and_eq_true] at u
    cases h with | cons h1 h2 => exact .cons (Rp.weak hs hi u.1 h1) (RpT.weak hs hi u.2 h2)
end
theorem CellOk.weak (hs : ∀ x, x ∈ κ → x ∈ κ') (hi : ∀ (k : Nat) a, k < n → κ'[k]? = some a → κ[k]? = some a) {a : Addr} {c : D} (u : c.und n = true) (h : CellOk W κ' G a c) : CellOk W κ G a c := by
  cases c <;> first | exact h.elim | skip
  · obtain ⟨vs, h1, h2⟩ := h; exact ⟨vs, h1, h2.weak hs hi (by simpa [D.und] using u)⟩
  · obtain ⟨vs, h1, h2⟩ := h; exact ⟨vs, h1, h2.weak hs hi (by simpa [D.und] using u)⟩
  · obtain ⟨vs, h1, h2⟩ := h; exact ⟨vs, h1, h2.weak hs hi (by simpa [D.und] using u)⟩
theorem undL_at : ∀ {l : List D} {k : Nat} {c : D}, undL l n = true → l[k]? = some c → c.und n = true
  | [], _, _, _, h => by simp at h
  | d :: l, 0, c, u, h => by simp only [undL, Bool.and_eq_true] at u; simp at h; subst h; exact u.1
  | d :: l, k + 1, c, u, h => by simp only [undL, Bool.and_eq_true] at u; exact undL_at u.2 (by simpa using h)
end
section
variable {W : Wr} {κ κ' : List Addr} {st st1 st' : Sto} {G H G' H' : Hp} {v : V} {d1 d : D}
theorem take_cells (O : Ok W κ st G H) (S : Stp κ G H κ' G' H') (O' : Ok W κ' st1 G' H') (u : undL (st1.take st.length) st.length = true) :
    Ok W κ (st1.take st.length) G' H' ∧ Stp κ G H κ G' H' ∧ (∀ x, x ∈ κ → x ∈ κ') ∧ (∀ (k : Nat) a, k < st.length → κ'[k]? = some a → κ[k]? = some a) := by
  obtain ⟨e, rfl, he⟩ := S.pre
  have hs : ∀ x, x ∈ κ → x ∈ κ ++ e := fun x hx => List.mem_append_left _ hx
  have hi : ∀ (k : Nat) a, k < st.length → (κ ++ e)[k]? = some a → κ[k]? = some a := fun k a hk h => by
    rw [List.getElem?_append_left (by rw [O.len]; exact hk)] at h; exact h
  have hl : st1.length = st.length + e.length := by rw [← O'.len, List.length_append, O.len]
  refine ⟨⟨O'.sub, by rw [List.length_take, O.len]; omega, ((List.nodup_append.mp O'.nd).1), fun k a c h1 h2 => ?_⟩, ⟨⟨[], by simp, by simp⟩, S.keep, S.hid, S.there⟩, hs, hi⟩
  have hk : k < st.length := by rw [← O.len]; exact (List.getElem?_eq_some_iff.mp h1).1
  have h3 : st1[k]? = some c := by rw [List.getElem?_take_of_lt hk] at h2; exact h2
  refine CellOk.weak hs hi (undL_at u h2) (O'.cell k a c ?_ h3)
  rw [List.getElem?_append_left (by rw [O.len]; exact hk)]; exact h1
theorem trim_go {y : D} (O : Ok W κ st G H) (S : Stp κ G H κ' G' H') (O' : Ok W κ' st1 G' H') (r : Rp W κ' G' v y) : ∃ κ2, Ok W κ2 (trimS st.length y st1) G' H' ∧ Stp κ G H κ2 G' H' ∧ Rp W κ2 G' v y := by
  unfold trimS
  split
  · split
    · rename_i u
      simp only [Bool.and_eq_true] at u
      obtain ⟨O2, S2, hs, hi⟩ := take_cells O S O' u.2
      exact ⟨κ, O2, S2, r.weak hs hi u.1⟩
    · exact ⟨κ', O', S, r⟩
  · exact ⟨κ', O', S, r⟩
end
/-- from one state on, of what is seen alone -/
structure VSt (κ : List Addr) (G : Hp) (κ' : List Addr) (G' : Hp) : Prop where
  pre : ∃ e, κ' = κ ++ e ∧ ∀ a ∈ e, G a = none
  keep : ∀ a o, G a = some o → a ∉ κ → G' a = some o
section
variable {W : Wr} {κ κ' κ2 : List Addr} {G G' G2 H H' : Hp} {st st' : Sto}
theorem VSt.refl : VSt κ G κ G := ⟨⟨[], by simp, by simp⟩, fun _ _ h _ => h⟩
theorem VSt.notin (a : VSt κ G κ' G') {x : Addr} {o : HO} (h : G x = some o) (hx : x ∉ κ) : x ∉ κ' := by
  obtain ⟨e, rfl, he⟩ := a.pre
  intro hm
  rcases List.mem_append.mp hm with z | z
  · exact hx z
  · have := he x z; rw [h] at this; cases this
theorem Stp.v (O : Ok W κ st G H) (S : Stp κ G H κ' G' H') : VSt κ G κ' G' := by
  obtain ⟨e, rfl, he⟩ := S.pre
  refine ⟨⟨e, rfl, fun a ha => ?_⟩, S.keep⟩
  cases q : G a with
  | none => rfl
  | some o => have := O.sub a o q; rw [he a ha] at this; cases this
theorem VSt.step (a : VSt κ G κ' G') (O : Ok W κ' st' G' H) (O0 : ∀ x ∈ κ, ∃ o, G x = some o) (b : Stp κ' G' H κ2 G2 H') : VSt κ G κ2 G2 := by
  obtain ⟨e, rfl, he⟩ := a.pre
  obtain ⟨f, rfl, hf⟩ := b.pre
  refine ⟨⟨e ++ f, by simp, fun x hx => ?_⟩, fun x o h hx => b.keep x o (a.keep x o h hx) (a.notin h hx)⟩
  rcases List.mem_append.mp hx with hx | hx
  · exact he x hx
  · cases q : G x with
    | none => rfl
    | some o =>
      by_cases z : x ∈ κ
      · have : x ∈ κ ++ e := List.mem_append_left _ z
        obtain ⟨u, hu⟩ := O.cellIn this
        have := O.sub x u hu
        rw [hf x hx] at this; cases this
      · have := O.sub x o (a.keep x o q z)
        rw [hf x hx] at this; cases this
mutual
theorem Rp.vmono (a : VSt κ G κ' G') : ∀ {d : D} {v : V}, Rp W κ G v d → Rp W κ' G' v d
  | .non, _, h => by cases h; exact .non
  | .bl _, _, h => by cases h; exact .bl _
  | .int _, _, h => by cases h; exact .int _
  | .str _, _, h => by cases h; exact .str _
  | .tup ds, _, h => by
    cases h with
    | tup h1 h2 hd h3 => exact .tup (a.notin h2 h1) (a.keep _ _ h2 h1) hd (RpL.vmono a h3)
    | ktup h1 h2 hd h3 h4 h5 h6 => exact .ktup h1 h2 hd h3 h4 h5 (RpL.vmono a h6)
  | .lst ds, _, h => by
    cases h with
    | lst h1 h2 h3 => exact .lst (a.notin h2 h1) (a.keep _ _ h2 h1) (RpL.vmono a h3)
  | .scr ds, _, h => by
    cases h with
    | scr h1 h2 h3 =>
      rcases h2 with z | ⟨o, z⟩
      · exact .scr (a.notin z h1) (.inl (a.keep _ _ z h1)) (RpL.vmono a h3)
      · exact .scr (a.notin z h1) (.inr ⟨o, a.keep _ _ z h1⟩) (RpL.vmono a h3)
    | kscr h1 h2 h3 h4 h5 h6 h7 => exact .kscr h1 h2 h3 h4 h5 h6 (RpL.vmono a h7)
  | .dK l, _, h => by
    cases h with
    | dK h1 h2 h3 => exact .dK (a.notin h2 h1) (a.keep _ _ h2 h1) (RpK.vmono a h3)
  | .dT l, _, h => by
    cases h with
    | dT h1 h2 h3 => exact .dT (a.notin h2 h1) (a.keep _ _ h2 h1) (RpT.vmono a h3)
  | .cel k, _, h => by
    cases h with
    | cel h1 =>
      obtain ⟨e, rfl, _⟩ := a.pre
      exact .cel (by rw [List.getElem?_append_left (List.getElem?_eq_some_iff.mp h1).1]; exact h1)
  | .fn _, _, h => by cases h; exact .fn _
  | .ty _, _, h => by cases h; exact .ty _
theorem RpL.vmono (a : VSt κ G κ' G') : ∀ {ds : List D} {vs : List V}, RpL W κ G vs ds → RpL W κ' G' vs ds
  | [], _, h => by cases h; exact .nil
  | d :: ds, _, h => by cases h with | cons h1 h2 => exact .cons (Rp.vmono a h1) (RpL.vmono a h2)
theorem RpK.vmono (a : VSt κ G κ' G') : ∀ {ds : List (Ky × D)} {vs : List (L2.Key × V)}, RpK W κ G vs ds → RpK W κ' G' vs ds
  | [], _, h => by cases h; exact .nil
  | (q, d) :: ds, _, h => by cases h with | cons h1 h2 => exact .cons (Rp.vmono a h1) (RpK.vmono a h2)
theorem RpT.vmono (a : VSt κ G κ' G') : ∀ {ds : List (List Ky × D)} {vs : List (List L2.Key × V)}, RpT W κ G vs ds → RpT W κ' G' vs ds
  | [], _, h => by cases h; exact .nil
  | (q, d) :: ds, _, h => by cases h with | cons h1 h2 => exact .cons (Rp.vmono a h1) (RpT.vmono a h2)
end
end
end Ev


set_option Elab.async false
set_option linter.all false
set_option maxRecDepth 100000
set_option maxHeartbeats 4000000
/-! EvT: rules that HandS lacks: tuples whose object is known; t[::-1]; t.index; min, max, enumerate of a tuple; d.update(e). -/
namespace Ev
open PySem PySem.Spec PyProof.Rows L2

/-- a new tuple, its object known -/
def NT (xs : List V) (H : Hp) (Q : VK) : Prop := ∀ p o, o.dict = none → H p = none → Q (.ref p) (upd H p (.frz o (.tup xs)))
theorem okF {P : Program} {w : World} {H : Hp} {h : Heap} {xs : List V} {us : List Value} (z : xs.length ≤ sizeLine) (r : Vals xs us) :
    ObjOk P w H (h.push { cls := .type "tuple", data := .seq us.toArray }) h.objs.size (.frz { cls := .type "tuple", data := .seq us.toArray } (.tup xs)) :=
  ⟨Heap.get?_push_size _ rfl, z, us, r, IsTup.new _ _⟩
section
variable {X : Cx}
theorem newF {pins : List (Addr × Obj)} {σ : L2.St} {H : Hp} {s : Shared} {xs : List V} {us : List Value} {Q : VK} {tk : Nat} (I : Inv X pins σ H s) (z : xs.length ≤ sizeLine) (r : Vals xs us) (q : NT xs H Q) :
    EP X pins σ Q (.ref s.heap.objs.size) { s with heap := s.heap.push { cls := .type "tuple", data := .seq us.toArray }, toks := tk } :=
  ⟨.ref s.heap.objs.size, _, I.laid (t' := tk) (fun b ob q => Heap.get?_push_of_some _ q) (Nat.le_refl _) (okF z r), rfl, q _ _ rfl (I.hok.fresh (Nat.le_refl _))⟩
/-- (e, ..) -/
theorem peF_tup {es : List Expr} {t : TA} {x1 : Nat} {pos : Pos} (h : PA X es t) : PE X (.Tuple es x1 pos) (fun σ H Q => t σ H fun xs H1 => xs.length ≤ sizeLine ∧ NT xs H1 Q) := by
  refine ⟨fun pins s σ H Q I hq => ?_⟩
  exact wpAny_Tuple_spliced (thn (h.run pos pins s σ H _ I hq) fun us s1 ⟨xs, H1, I1, r, z, q⟩ => ⟨by rw [← r.length]; exact z, newF (tk := s1.toks) I1 z r q⟩)
/-- t + u -/
theorem opF_cat : OpR X (binaryOp .Add) (fun x y H Q => ∃ a b xs ys, x = .ref a ∧ y = .ref b ∧ SqT X.K H a xs ∧ SqT X.K H b ys ∧ xs.length + ys.length ≤ sizeLine ∧
    (xs = [] → Q (.ref b) H) ∧ (xs ≠ [] → ys = [] → Q (.ref a) H) ∧ NT (xs ++ ys) H Q) := by
  intro pins s σ H x y v u Q I rx ry h
  obtain ⟨a, b, xs, ys, rfl, rfl, ha, hb, hz, q0, q1, q2⟩ := h
  cases rx
  cases ry
  obtain ⟨its, r1, p1, _⟩ := I.tuple ha
  obtain ⟨its2, r2, p2, _⟩ := I.tuple hb
  by_cases hx : xs = []
  · subst hx
    cases r1
    exact cat_tup0 p1 p2 ⟨.ref b, H, I, rfl, q0 rfl⟩
  · exact HT.cat_tup p1 p2 (fun z => hx (r1.nil_iff.mp z)) (fun z => ⟨.ref a, H, I, rfl, q1 hx (r2.nil_iff.mp z)⟩) (fun z => newF (tk := s.toks) I (by rw [List.length_append]; exact hz) (r1.append r2) q2) (by rw [← r1.length, ← r2.length]; exact hz)
/-- t[a:b] -/
theorem slF_tup : SlR X (fun x lo hi H Q => ∃ a xs, x = .ref a ∧ SqT X.K H a xs ∧ (HT.sIx xs.length 0 lo = 0 ∧ HT.sIx xs.length xs.length hi = xs.length → Q (.ref a) H) ∧ NT (cutV xs lo hi) H Q) := by
  intro pins s σ H x v vl vu lo hi sl Q I rx hs pl pu h
  obtain ⟨a, xs, rfl, hx, q1, q2⟩ := h
  cases rx
  obtain ⟨its, r, ht, hz⟩ := I.tuple hx
  have hlen : its.toArray.size = xs.length := by rw [List.size_toArray]; exact r.length.symm
  refine ⟨"tuple", _, PyProof.Rows.slot_tuple_getitem.lookup, ht.typeIs, ?_⟩
  by_cases hw : HT.sIx xs.length 0 lo = 0 ∧ HT.sIx xs.length xs.length hi = xs.length
  · refine getItem_tuple_whole ht hs pl pu (by rw [hlen]; exact hw) ⟨.ref a, H, I, rfl, q1 hw⟩
  · refine HT.getItem_tuple_cut ht hs pl pu (by rw [hlen]; exact hw) ?_ (by rw [hlen]; exact hz)
    rw [hlen]
    exact newF (tk := s.toks) I (Nat.le_trans (cutV_length xs lo hi) hz) ((r.drop (HT.sIx xs.length 0 lo)).take (HT.sIx xs.length xs.length hi - HT.sIx xs.length 0 lo)) q2
/-- tuple(x) -/
theorem callF_tuple : CallR X (.type "tuple") (fun xs H Q => ∃ p ys, xs = [.ref p] ∧ ((SqL X.K H p ys ∧ NT ys H Q) ∨ (SqT X.K H p ys ∧ Q (.ref p) H))) := by
  intro pins s σ H xs us Q I r h
  obtain ⟨p, ys, rfl, h⟩ := h
  obtain ⟨u, rfl, rx⟩ := vals1 r
  cases rx
  rcases h with ⟨hq, q⟩ | ⟨hq, q⟩
  · obtain ⟨its, r', pl, hz⟩ := I.list hq
    have hlen := r'.length
    refine call_tuple_list pl.isList (fun h' kp => ?_) (by simp only [List.size_toArray] <;> omega)
    have I1 : Inv X pins σ H { s with heap := h' } := I.kept (t' := s.toks) kp
    exact newF (tk := s.toks) I1 hz r' q
  · obtain ⟨its, r', pl, hz⟩ := I.tuple hq
    exact call_tuple_same pl ⟨.ref p, H, I, rfl, q⟩
/-- tuple(range(..)) -/
theorem peF_tupRg {e : Expr} {te : L2.St → Hp → (Int → Int → Hp → Prop) → Prop} {p pos : Pos} (hc : X.calm = true) (hg : Gl X "tuple") (hm : X.mg "tuple" = none) (he : PRg X e te) (na : starEach [e] X.env = (false, eval e X.env) :: starEach [] X.env) :
    PE X (.Call (.Name "tuple" p) [e] [] pos) (fun σ H Q => te σ H fun a b H1 => RgOk a b ∧ NT (rgV a b) H1 Q) := by
  refine ⟨fun pins s σ H Q I h => ?_⟩
  refine Call_ (ld_blt I hg hm boot_tuple (PyProof.Rows.callWith_type1 (args_cons (thn (he pins s σ H _ I h) fun x s1 ⟨r, a, b, t, u, v, H1, ex, hr, I1, ok, q⟩ => args_nil ?_) na) na))
  subst ex
  obtain ⟨b1, b2, b3, b4, b5⟩ := ok
  refine call_tuple_range (n := (b - a).toNat) (I1.ok.hd hc) hr (small_one b1 b2 b3 b4) (rangeSize_nat a b) b5 fun h' tk acc hk hi => ?_
  have I2 : Inv X pins σ H1 { s1 with heap := h', toks := tk } := I1.kept hk
  have := newF (tk := tk) I2 (by rw [rgV_length, sizeLine_eq]; omega) (vals_rg hi) q
  rw [Array.toArray_toList] at this
  exact this
/-- divmod -/
theorem callF_divmod : CallR X (.builtin "divmod") (fun xs H Q => ∃ i j, xs = [.int i, .int j] ∧ CDiv i j ∧ NT [.int (i / j), .int (i % j)] H Q) := by
  intro pins s σ H xs us Q I r h
  obtain ⟨i, j, rfl, ⟨h1, h2⟩, q⟩ := h
  obtain ⟨u, w', rfl, ⟨t, rfl⟩, ⟨t', rfl⟩⟩ := vals2 r
  refine divmod_int (by omega) ?_ (.inl (PyProof.noPylong_small (by omega)))
  rw [Int.fdiv_eq_ediv_of_nonneg i (by omega), Int.fmod_eq_emod_of_nonneg i (by omega)]
  exact newF (xs := [.int (i / j), .int (i % j)]) (us := [.int (i / j) s.toks, .int (i % j) (s.toks + 1)]) I (by simp only [List.length_cons, List.length_nil]; rw [sizeLine_eq]; decide) (.cons ⟨_, rfl⟩ (.cons ⟨_, rfl⟩ .nil)) q
/-- isinstance(x, (c, ..)) -/
theorem callF_isiT : CallR X (.builtin "isinstance") (fun xs H Q => ∃ (x : V) (tp : Addr) (o : Obj) (cs : List V) (t : Value) (us : List Value) (b : Bool), xs = [x, .ref tp] ∧ H tp = some (.frz o (.tup cs)) ∧ Paired ClsV cs us ∧ TyX X.K H x t ∧ PySem.W.kitAny X.K t us = some b ∧ Q (.bl b) H) := by
  intro pins s σ H xs us Q I r h
  obtain ⟨x, tp, oo, cs, t, ws, b, rfl, hT, k, ty, e, q⟩ := h
  obtain ⟨u1, u2, rfl, r1, r2⟩ := vals2 r
  cases (show u2 = Value.ref tp from r2)
  obtain ⟨P, Z, p, hx⟩ := kit_of I r1 ty
  obtain ⟨_, _, its, rv, o, h1, h2, n, h3⟩ := (show ObjOk X.prog X.w H s.heap tp (.frz oo (.tup cs)) from I.hok tp _ hT)
  have e3 := ClsV.all k rv
  subst e3
  obtain ⟨oc, od, dt, sl⟩ := o
  simp only at h2 h3
  subst h2 h3
  exact PySem.W.kia_tup Z I.kIn p h1 e hx fun tk => ⟨.bl b, H, I.tok tk, rfl, q⟩
end

/-! ### t[::-1] -/
section
variable {prog : Program} {w : World} {A : Around} {E : Value → Shared → Prop} {s : Shared}
theorem sliceApplied_rev {sl : Addr} {vk : Value} {n : Nat} {Q : Int × Int × Nat → Shared → Prop} (hs : s.heap.IsSliceOf sl .none .none vk) (pk : IsPart vk (some (-1)))
    (h : Q ((n : Int) - 1, -1, n) s) : wpAny (model prog w) A (Builtin.Slice.sliceApplied (.ref sl) (pure (n : Int))) Q E s := by
  obtain ⟨os, hos, hcs, hds⟩ := id hs
  unfold Builtin.Slice.sliceApplied Builtin.Slice.sliceFields
  refine wpAny_bind (wpAny_bind (wpAny_field hos hds (x := .none) rfl (wpAny_bind (wpAny_field hos hds (x := .none) rfl (wpAny_bind (wpAny_field hos hds (x := vk) rfl (wpAny_pure ?_)))))))
  refine wpAny_bind (HT.slicePart_ pk ?_)
  show wpAny _ _ (if ((-1 : Int) == 0) = true then _ else _) _ _ s
  rw [if_neg (by decide)]
  refine wpAny_bind (slicePart_none (wpAny_bind (slicePart_none (wpAny_bind (wpAny_pure ?_)))))
  have e1 : Builtin.Slice.sliceAdjust none none (-1) (n : Int) = ((n : Int) - 1, -1) := by
    unfold Builtin.Slice.sliceAdjust
    simp
  have e2 : Builtin.Slice.slicePlaces ((n : Int) - 1) (-1) (-1) = n := by
    unfold Builtin.Slice.slicePlaces
    have h1 : ¬ ((-1 : Int) > 0) := by decide
    simp only [h1, if_false]
    by_cases q : (n : Int) - 1 > -1
    · simp only [q, if_true]
      have : ((n : Int) - 1 - -1 - 1) / (- -1) = (n : Int) - 1 := by
        rw [show (- -1 : Int) = 1 by decide, Int.ediv_one]; omega
      rw [this]; omega
    · simp only [q, if_false]; omega
  show wpAny _ _ (match Builtin.Slice.sliceAdjust none none (-1) (n : Int) with | (lo, hi) => pure (lo, (-1 : Int), Builtin.Slice.slicePlaces lo hi (-1))) _ _ s
  rw [e1]
  show wpAny _ _ (pure ((n : Int) - 1, (-1 : Int), Builtin.Slice.slicePlaces ((n : Int) - 1) (-1) (-1))) _ _ s
  rw [e2]
  exact wpAny_pure h
theorem pick_rev (xs : Array Value) : ((List.range xs.size).filterMap fun (m : Nat) => xs[(((xs.size : Int) - 1) + (m : Int) * -1).toNat]?).toArray = xs.toList.reverse.toArray := by
  have e : ∀ m ∈ List.range xs.size, (fun (m : Nat) => xs[(((xs.size : Int) - 1) + (m : Int) * -1).toNat]?) m = (fun k => xs[k]?) ((fun k => xs.size - 1 - k) m) := by
    intro m hm
    have := List.mem_range.mp hm
    have : (((xs.size : Int) - 1) + (m : Int) * -1).toNat = xs.size - 1 - m := by omega
    simp only [this]
  have e2 : (List.range xs.size).filterMap (fun (m : Nat) => xs[(((xs.size : Int) - 1) + (m : Int) * -1).toNat]?) = ((List.range xs.size).map fun k => xs.size - 1 - k).filterMap (fun k => xs[k]?) := by
    rw [List.filterMap_map]
    have : ∀ l : List Nat, (∀ m ∈ l, (fun (m : Nat) => xs[(((xs.size : Int) - 1) + (m : Int) * -1).toNat]?) m = (fun k => xs[k]?) ((fun k => xs.size - 1 - k) m)) → l.filterMap (fun (m : Nat) => xs[(((xs.size : Int) - 1) + (m : Int) * -1).toNat]?) = l.filterMap ((fun k => xs[k]?) ∘ fun k => xs.size - 1 - k) := by
      intro l
      induction l with
      | nil => intro _; rfl
      | cons a l ih =>
        intro h
        have h1 := h a List.mem_cons_self
        have h2 := ih fun m hm => h m (List.mem_cons_of_mem _ hm)
        simp only [List.filterMap_cons, h2, Function.comp]
        simp only at h1
        rw [h1]
    exact this _ e
  rw [e2, PySem.W.krv_range, List.filterMap_reverse, PySem.W.krv_all]
theorem getItem_tuple_rev {t sl : Addr} {items : Array Value} {vk : Value} {Q : Value → Shared → Prop} (ht : IsTup s.heap t items) (hs : s.heap.IsSliceOf sl .none .none vk) (pk : IsPart vk (some (-1)))
    (h : Q (.ref s.heap.objs.size) { s with heap := s.heap.push { cls := .type "tuple", data := .seq items.toList.reverse.toArray } })
    (hsz : items.size ≤ sizeLine) : wpAny (model prog w) A (getItem (.ref t) (.ref sl)) Q E s := by
  have htake : sizeOk (.seq items.toList.reverse.toArray) := by
    show items.toList.reverse.toArray.size ≤ sizeLine
    rw [List.size_toArray, List.length_reverse, Array.length_toList]
    exact hsz
  obtain ⟨os, hos, hcs, hds⟩ := id hs
  have hTs : s.TypeIs (.ref sl) "slice" := ⟨os, hos, hcs⟩
  unfold getItem
  try with_reducible refine wpAny_holding ?_
  first | refine wpAny_bind (wpAny_pure ?_) | skip
  refine wpAny_bind (wpAny_sequenceKey ht.typeIs (by decide) ?_)
  refine wpAny_bind (wpAny_callSpecial?_slot (name := Str.ofString "__getitem__") ht.typeIs PyProof.Rows.slot_tuple_getitem
    (wpAny_call_entry PyProof.Rows.slot_tuple_getitem ht.typeIs entry_tuple_getitem ?_ (args_tuple_getitem _ _)))
  show wpAny _ _ (Builtin.Tuple.tupleItemsOf (.ref t) >>= _) _ _ s
  refine wpAny_bind (tupleItemsOf_ ht ?_)
  refine wpAny_bind (wpAny_typeOf hTs ?_)
  rw [if_pos (by decide)]
  refine wpAny_bind (sliceApplied_rev hs pk ?_)
  have hno : ¬ ((((items.size : Int) - 1) == 0 && (-1 : Int) == 1 && items.size == items.size) = true) := by
    intro q
    rw [Bool.and_eq_true, Bool.and_eq_true] at q
    exact absurd (eq_of_beq q.1.2) (by decide)
  show wpAny _ _ (if (((items.size : Int) - 1) == 0 && (-1 : Int) == 1 && items.size == items.size) = true then _ else _) _ _ s
  rw [if_neg hno, pick_rev]
  first
    | exact wpAny_bind (m := Builtin.Tuple.tupleExact _) (wpAny_newObj_type (wpAny_pure ⟨_, rfl, wpAny_pure h⟩) htake)
    | exact wpAny_bind (m := Builtin.Tuple.tupleExact _) (wpAny_newObj_type (wpAny_bind (wpAny_pure (wpAny_pure ⟨_, rfl, wpAny_pure h⟩))) htake)
    | exact wpAny_bind (wpAny_bind (m := Builtin.Tuple.tupleExact _) (wpAny_newObj_type (wpAny_pure (wpAny_pure ⟨_, rfl, wpAny_pure h⟩)) htake))
    | exact wpAny_bind (wpAny_bind (m := Builtin.Tuple.tupleExact _) (wpAny_newObj_type (wpAny_pure ⟨_, rfl, wpAny_pure h⟩) htake))
end
section
variable {X : Cx}
/-- x[::-1] of a list or a tuple: new -/
def tRevA (K : PySem.W.Frag) (te : TE) : TE := fun σ H Q => te σ H fun x H1 => ∃ a xs, x = .ref a ∧ ((SqL K H1 a xs ∧ ∀ p, H1 p = none → Q (.ref p) (upd H1 p (.lst xs.reverse))) ∨ (SqT K H1 a xs ∧ NT xs.reverse H1 Q))
theorem pe_revA {e : Expr} {te : TE} {k : Nat} {p1 p2 p3 pos : Pos} (he : PE X e te) : PE X (.Subscript e (.Slice none none (some (.UnaryOp .USub (.Constant (.int 1) k p1) p2)) p3) pos) (tRevA X.K te) := by
  refine ⟨fun pins s σ H Q I h => ?_⟩
  refine Subscript_ (thn (he.run pins s σ H _ I h) fun v s1 ⟨x, H1, I1, r1, q1⟩ => ?_)
  obtain ⟨a, xs, ex, q⟩ := q1
  subst ex
  cases r1
  have hst : PO X (some (.UnaryOp .USub (.Constant (.int 1) k p1) p2)) (tPart (tUn (rU fun i => .int (-i)) (tC (.int 1)))) := po_some (pe_un un_neg pe_int)
  refine wpAny_Slice (thn (po_none.run pins s1 σ H1 (fun o H2 => o = none ∧ H2 = H1) I1 ⟨rfl, rfl⟩) fun vl s2 ⟨l, H2, I2, pl, el, e2⟩ => ?_)
  subst el e2
  refine thn (po_none.run pins s2 σ H2 (fun o H3 => o = none ∧ H3 = H2) I2 ⟨rfl, rfl⟩) fun vu s3 ⟨u, H3, I3, pu, eu, e3⟩ => ?_
  subst eu e3
  refine thn (hst.run pins s3 σ H3 (fun o H4 => o = some (-1) ∧ H4 = H3) I3 ⟨1, rfl, -1, rfl, rfl, rfl⟩) fun vs s4 ⟨o, H4, I4, ps, eo, e4⟩ => ?_
  subst eo e4
  have I5 : Inv X pins σ H4 { s4 with heap := s4.heap.push { cls := .type "slice", data := .fields #[vl, vu, vs] } } := I4.kept (t' := s4.toks) fun b ob q => Heap.get?_push_of_some _ q
  show wpAny (model X.prog X.w) X.A (subscriptTail e (.Slice none none (some (.UnaryOp .USub (.Constant (.int 1) k p1) p2)) p3) (.ref a) (.ref s4.heap.objs.size)) (EP X pins σ Q) X.xe { s4 with heap := s4.heap.push { cls := .type "slice", data := .fields #[vl, vu, vs] } }
  rcases q with ⟨hx, q⟩ | ⟨hx, q⟩
  · obtain ⟨its, r, ht, hz⟩ := I5.list hx
    have hlen := r.length
    refine tail_any (ops := [.ref a, .ref s4.heap.objs.size]) ht.isList.typeIs (PySem.slot_list_getitem.lookup) ?_ (by with_unfolding_all rfl)
    refine wpAny_getItem_list_slice ht.isList (Heap.IsSliceOf.new _ vl vu vs) pl pu ps (by decide) ?_ (by rw [List.size_toArray]; omega)
    rw [PySem.W.krv_pick]
    refine ⟨.ref _, _, I5.laid (t' := s4.toks) (o := .lst xs.reverse) (fun b ob q => Heap.get?_push_of_some _ q) (Nat.le_refl _) ?_, rfl, q _ (I5.hok.fresh (Nat.le_refl _))⟩
    exact ⟨by rw [List.length_reverse]; exact hz, _, 0, r.reverse, Heap.get?_push_size _ rfl⟩
  · obtain ⟨its, r, ht, hz⟩ := I5.tuple hx
    have hlen := r.length
    refine tail_any (ops := [.ref a, .ref s4.heap.objs.size]) ht.typeIs (PyProof.Rows.slot_tuple_getitem.lookup) ?_ (by with_unfolding_all rfl)
    cases pl
    cases pu
    refine getItem_tuple_rev ht (Heap.IsSliceOf.new _ .none .none vs) ps ?_ (by rw [List.size_toArray]; omega)
    exact newF (tk := s4.toks) I5 (by rw [List.length_reverse]; exact hz) r.reverse q
end

/-! ### t.index(x) -/
section
variable {X : Cx}
theorem mt_indexT (hu : X.A.units + 65 < cLine) : MtR X "tuple.index" (fun x xs H Q => ∃ (a : Addr) (y : V) (d : PyData) (ds : List PyData) (j : Nat) (z : PyData), x = V.ref a ∧ xs = [y] ∧ Dp X.K H (V.ref a) (.tuple ds) ∧ Dp X.K H y d ∧
  SeqAt.shaped (.tuple ds) = true ∧ SeqAt.shaped d = true ∧ ds[j]? = some z ∧ PyData.eqv z d = true ∧ (∀ (m : Nat) (z' : PyData), m < j → ds[m]? = some z' → PyData.eqv z' d = false) ∧ Q (.int (j : Nat)) H) := by
  intro pins s σ H x xs v us Q I rx rxs h
  obtain ⟨a, y, d, ds, j, z, rfl, rfl, hl, hy, sl, sd, hz, hzj, hno, q⟩ := h
  cases rx
  cases rxs with
  | cons ry rt =>
    rename_i uy ut
    cases rt
    obtain ⟨bs, r1⟩ := Dp.reads I d y uy hy ry
    have hxs : PyData.canLayAll0 ds = true := SeqAt.canLay_of_shaped sl
    have hroom : X.A.units + 1 + min (PyData.depthAll ds) d.depth < cLine := room_in_shaped sd hu
    cases hl with
    | tup hs ha =>
      obtain ⟨its, rv, ⟨⟨cls, dd, data, sls⟩, ho, hc, n, hdt⟩, hlen⟩ := I.tuple hs
      simp only at hc hdt
      subst hc hdt
      obtain ⟨as, h4⟩ := Dp.readsAll I ds _ its ha rv
      have hn : its.length = ds.length := SeqAt.ReadsAll.length ds its as h4
      have hmap : its.map (SeqAt.readOf s.heap) = ds := SeqAt.readsAll_map ds its as hxs h4
      have hvl := rv.length
      have hsl := sizeLine_eq
      obtain ⟨hjd, _⟩ := List.getElem?_eq_some_iff.mp hz
      have hjl : j < its.length := by omega
      have hj : j < its.toArray.size := by simpa using hjl
      have at_ : ∀ (m : Nat) (hm : m < its.toArray.size) (z' : PyData), ds[m]? = some z' → SeqAt.readOf s.heap its.toArray[m] = z' := by
        intro m hm z' hz'
        have hml : m < its.length := by simpa using hm
        rw [← hmap, List.getElem?_map, List.getElem?_eq_getElem hml] at hz'
        have e1 : SeqAt.readOf s.heap its[m] = z' := Option.some.inj (show some (SeqAt.readOf s.heap its[m]) = some z' from hz')
        simpa using e1
      refine call_meets PySem.F.slot_tuple_index ⟨_, ho, rfl⟩ PySem.F.entry_tuple_index (PySem.F.args_tuple_index_2 _ _)
        (TI.tuple_indexAt a its.toArray n dd sls uy (fun u => PyData.eqv (SeqAt.readOf s.heap u) d) j hj ?_ ?_) ⟨ho, SeqAt.items_eqAt (vs := its.toArray) (show ReadsAll s.heap its.toArray.toList ds as from h4) r1 hxs (SeqAt.canLay_of_shaped sd) hroom, ?_⟩
      · show PyData.eqv (SeqAt.readOf s.heap its.toArray[j]) d = true
        rw [at_ j hj z hz]
        exact hzj
      · intro m hm hmj
        have hmd : m < ds.length := by omega
        have hz' : ds[m]? = some ds[m] := List.getElem?_eq_getElem hmd
        show PyData.eqv (SeqAt.readOf s.heap its.toArray[m]) d = false
        rw [at_ m hm _ hz']
        exact hno m _ hmj hz'
      · exact ⟨.int (j : Nat), H, I.tok _, ⟨_, rfl⟩, q⟩
/-- d.update(e) -/
theorem mt_update : MtR X "dict.update" (fun x xs H Q => ∃ (a b : Addr) (kvs more : List (L2.Key × V)), x = V.ref a ∧ xs = [.ref b] ∧ a ≠ b ∧ H a = some (.dK kvs) ∧ H b = some (.dK more) ∧ kvs.length + more.length ≤ sizeLine ∧ Q .non (upd H a (.dK (mergeK kvs more)))) := by
  intro pins s σ H x xs v us Q I rx rxs h
  obtain ⟨a, b, kvs, more, rfl, rfl, hne, ha, hb, hz, q⟩ := h
  cases rx
  obtain ⟨u, rfl, ru⟩ := rxs.one
  cases ru
  obtain ⟨z, hd, vs, rel, dd⟩ := dk_of I.hok ha
  obtain ⟨z2, hd2, ws, rel2, dd2⟩ := dk_of I.hok hb
  refine call_meetsIn PySem.F.slot_dict_update dd.typeIs PySem.F.entry_dict_update (PySem.F.args_dict_update_2 _ _) (meets_dict_update (mixKind X.prog X.w) a b hne hd2)
    ⟨vs, ws, dd, dd2, by rw [← rel.length, ← rel2.length]; exact hz, fun h' hmm _ hs => ?_⟩
  have hl : (mergeK kvs more).length ≤ sizeLine := Nat.le_trans (length_mergeK more kvs) hz
  have he : ∃ o, h'.get? a = some o := let ⟨o, _, _, ho, _⟩ := hmm; ⟨o, ho⟩
  exact ⟨.non, _, d_write (t' := s.toks) I (by rw [ha]; exact True.intro) hs he (dk_new hl hd (rel2.merge rel) hmm), rfl, q⟩

/-! ### max(t), min(t) of ints -/
theorem reads_ints {h : Heap} : ∀ {ns : List Int} {us : List Value}, IntsAre us ns → ReadsAll h us (ns.map .int) []
  | _, _, r => by exact r.reads h
theorem alike_ints (ns : List Int) : PySem.W.AlikeAll (ns.map PyData.int) := by
  constructor
  · intro x hx y hy
    obtain ⟨i, _, rfl⟩ := List.mem_map.mp hx
    obtain ⟨j, _, rfl⟩ := List.mem_map.mp hy
    rfl
  · intro x hx
    obtain ⟨i, _, rfl⟩ := List.mem_map.mp hx
    exact nofun
theorem depth_ints : ∀ ns : List Int, PyData.depthAll (ns.map PyData.int) = 0
  | [] => rfl
  | n :: ns => by simp only [List.map_cons, PyData.depthAll, PyData.depth, depth_ints ns]; rfl
theorem cr_maxT (hc : X.calm = true) (hu : X.A.units + 1 < cLine) : CallR X (.builtin "max") (fun vs H Q => ∃ (a : Addr) (n : Int) (ns : List Int), vs = [V.ref a] ∧ SqT X.K H a ((n :: ns).map V.int) ∧ Q (.int (ns.foldl max n)) H) := by
  intro pins s σ H vs us Q I r h
  obtain ⟨a, n, ns, rfl, hs, q⟩ := h
  obtain ⟨its, rv, hl, _⟩ := I.tuple hs
  rw [Vals.ref1 r]
  refine PySem.W.max_tuple_data (x := .int n) (xs := ns.map .int) (as := []) (I.ok.hd hc) hl (by rw [List.toList_toArray]; exact reads_ints rv.ints) (alike_ints (n :: ns)) (by have := depth_ints (n :: ns); rw [show PyData.int n :: ns.map PyData.int = (n :: ns).map PyData.int from rfl, this]; omega) fun i v h' tk bs hv hr hk => ?_
  rw [PySem.W.maxD_ints] at hr
  obtain ⟨t, rfl, _⟩ := reads_int_inv hr
  exact ⟨.int _, H, I.kept hk, ⟨_, rfl⟩, q⟩
theorem cr_minT (hc : X.calm = true) (hu : X.A.units + 1 < cLine) : CallR X (.builtin "min") (fun vs H Q => ∃ (a : Addr) (n : Int) (ns : List Int), vs = [V.ref a] ∧ SqT X.K H a ((n :: ns).map V.int) ∧ Q (.int (ns.foldl min n)) H) := by
  intro pins s σ H vs us Q I r h
  obtain ⟨a, n, ns, rfl, hs, q⟩ := h
  obtain ⟨its, rv, hl, _⟩ := I.tuple hs
  rw [Vals.ref1 r]
  refine PySem.W.min_tuple_data (x := .int n) (xs := ns.map .int) (as := []) (I.ok.hd hc) hl (by rw [List.toList_toArray]; exact reads_ints rv.ints) (alike_ints (n :: ns)) (by have := depth_ints (n :: ns); rw [show PyData.int n :: ns.map PyData.int = (n :: ns).map PyData.int from rfl, this]; omega) fun i v h' tk bs hv hr hk => ?_
  rw [PySem.W.minD_ints] at hr
  obtain ⟨t, rfl, _⟩ := reads_int_inv hr
  exact ⟨.int _, H, I.kept hk, ⟨_, rfl⟩, q⟩

/-! ### enumerate(t) -/
set_option maxHeartbeats 4000000 in
theorem meets_enum1 {v : Value} {o : Obj} {H : Heap → Prop} (B : Begins v o H) :
    Meets (Builtin.«enumerate.__new__» ⟨[.type "enumerate", v], []⟩) (fun _ R s => H s.heap ∧
      R (.ok (.ret (.ref (s.heap.push o).objs.size))) { s with heap := (s.heap.push o).push { cls := .type "enumerate", data := .fields #[.none, .bool false, .ref s.heap.objs.size, rawInt 0, .none, .none] } }) :=
  .of_wp fun prog w A R s h => by
    obtain ⟨hp, g, d, tk, os⟩ := s; obtain ⟨h1, h⟩ := h
    have hsub := sub_enumerate
    have q1 : ∀ {A' : Around} {E : Value → Shared → Prop} {Q : Value → Shared → Prop}, Q (.ref hp.objs.size) ⟨hp.push o, g, d, tk, os⟩ → wpAny (model prog w) A' (pyIter v) Q E ⟨hp, g, d, tk, os⟩ :=
      fun q => B.iter prog w _ _ ⟨hp, g, d, tk, os⟩ _ h1 q
    wp_walk using q1
    refine wpAny_stack_any fun st => wpAny_pure ?_
    split
    · rename_i c _ _ _ _ _
      cases (c == Value.type "enumerate")
      · wp_walk using q1
        exact ⟨_, rfl, h⟩
      · wp_walk using q1
        exact ⟨_, rfl, h⟩
    · wp_walk using q1
      exact ⟨_, rfl, h⟩
theorem call_enumerate_B {prog : Program} {w : World} {A : Around} {E : Value → Shared → Prop} {s : Shared} {v : Value} {o : Obj} {H : Heap → Prop} {Q : Value → Shared → Prop} (B : Begins v o H) (h1 : H s.heap)
    (h : ∀ h', IsEnum h' (s.heap.objs.size + 1) s.heap.objs.size 0 .none → h'.get? s.heap.objs.size = some o → h'.objs.size = s.heap.objs.size + 2 →
      (∀ b o, s.heap.get? b = some o → h'.get? b = some o) → Q (.ref (s.heap.objs.size + 1)) { s with heap := h' }) :
    wpAny (model prog w) A (call (.type "enumerate") [v]) Q E s := by
  refine callType_new F.called_enumerate (by decide) (F.typeCall_enumerate_1 _) (F.newCall_enumerate_1 _) (fun obj => F.args_object_init_2 obj _) F.entry_enumerate_new
    (meets_enum1 B) ⟨h1, ?_⟩
  have hz : (s.heap.push o).objs.size = s.heap.objs.size + 1 := Heap.size_push ..
  show _ ∧ _
  rw [hz]
  have he : IsEnum ((s.heap.push o).push { cls := .type "enumerate", data := .fields #[.none, .bool false, .ref s.heap.objs.size, rawInt 0, .none, .none] }) (s.heap.objs.size + 1) s.heap.objs.size 0 .none := by
    have := Heap.get?_push_size (s.heap.push o) (o := { cls := .type "enumerate", data := .fields #[.none, .bool false, .ref s.heap.objs.size, rawInt 0, .none, .none] }) rfl
    rw [hz] at this; exact this
  refine ⟨⟨_, he, rfl⟩, h _ he (Heap.get?_push_of_some _ (Heap.get?_push_size _ B.free)) (by rw [Heap.size_push, hz]) fun b o x => Heap.get?_push_of_some _ (Heap.get?_push_of_some _ x)⟩
theorem enum_endT {prog : Program} {w : World} {A : Around} {E : Value → Shared → Prop} {s : Shared} {e it l : Addr} {i : Nat} {items : Array Value} {old : Value} {Q : Option Value → Shared → Prop} (hh : A.handled = none)
    (he : IsEnum s.heap e it i old) (hit : s.heap.IsTupleIter it l i) (hl : s.heap.IsTuple l items) (hx : items[i]? = none)
    (hQ : ∀ h', Heap.ExtBut it s.heap h' → Q none { s with heap := h' }) : wpAny (model prog w) A (pyNext (.ref e)) Q E s := by
  have hT : s.TypeIs (.ref e) "enumerate" := ⟨_, he, rfl⟩
  unfold pyNext
  refine wpAny_bind (wpAny_attempt (wpAny_callSpecial?_slot (name := Str.ofString "__next__") hT F.slot_enumerate_next
    (wpAny_call_entry F.slot_enumerate_next hT F.entry_enumerate_next ?_ (F.args_enumerate_next_1 _))))
  show wpAny _ _ (field (.ref e) 2 >>= _) _ _ _
  refine wpAny_bind (wpAny_field he rfl (x := .ref it) rfl ?_)
  refine wpAny_bind (wpAny_nextOf_tuple_end (A := A.in1) hh hit hl hx fun h' x he' hx' => ?_)
  obtain ⟨o, ho, hc⟩ := hx'
  refine wpAny_bind (wpAny_isInstance (T := "StopIteration") (b := true) ⟨o, ho, hc⟩ isSubtype_stop ?_)
  exact wpAny_pure (hQ _ he')
/-- the tuple at a as it stands at each turn, each item in a new pair -/
def IteT (K : PySem.W.Frag) (a : Addr) : It :=
  ⟨fun i H => ∃ (xs : List V) (x : V), SqT K H a xs ∧ xs[i]? = some x, fun i H v H' => ∃ T x, v = .ref T ∧ H T = none ∧ H' = upd H T (.tup [.int (i : Nat), x]) ∧ ∀ xs, SqT K H a xs → xs[i]? = some x, fun i H => ∃ xs : List V, SqT K H a xs ∧ xs.length ≤ i⟩
theorem turn_enumT {P : Program} {w : World} {K : PySem.W.Frag} {elts : List Expr} {kk : Nat} {tpos : Pos} (a e it : Addr) (hai : a ≠ it) (hae : a ≠ e) :
    Turn P w K (.Tuple elts kk tpos) (IteT K a) [e, it] e (fun i h => (∃ old, IsEnum h e it ((i : Nat) : Int) old) ∧ h.IsTupleIter it a i ∧ e ≠ it) where
  mem := by simp
  obj := fun i h st b hb => by
    obtain ⟨⟨old, he⟩, ⟨o, ho, hc, hd⟩, _⟩ := st
    have e' : b = e ∨ b = it := by simpa using hb
    rcases e' with z | z
    · rw [z]; exact ⟨_, he, fun v q => nomatch q⟩
    · rw [z]; exact ⟨o, ho, fun v q => by rw [hd] at q; cases q⟩
  keep := fun i h h' st k => let ⟨⟨old, he⟩, hi, hne⟩ := st; ⟨⟨old, k e (by simp) _ he⟩, hi.at fun o q => k it (by simp) o q, hne⟩
  item := by
    intro X hP hw hK hc i pins s σ H E I hf st hg
    subst hP hw hK
    obtain ⟨⟨old, he⟩, hit, hne⟩ := st
    obtain ⟨xs, x, hq, hx⟩ := hg
    obtain ⟨its, rv, p, hz⟩ := I.tuple hq
    obtain ⟨u, hu, ru⟩ := rv.get hx
    have hel : e < s.heap.objs.size := Heap.lt_size he
    have hil : it < s.heap.objs.size := by obtain ⟨_, q, _⟩ := hit; exact Heap.lt_size q
    have hlt : i < its.toArray.size := by
      have := (List.getElem?_eq_some_iff.mp hu).1
      simpa using this
    refine wpAny_pyNext_enum_itemD (Draws.tuple (A := X.A.in1) (I.ok.hd hc) it a hai its.toArray) he ⟨hit, p⟩ hlt hne (by simp [hne, Ne.symm hae]) fun u' h' tk hu' ho hst' hT hsz hk => ?_
    obtain rfl : u' = u := by
      rw [show its.toArray[i]? = its[i]? by simp, hu] at hu'
      exact (Option.some.inj hu').symm
    refine ⟨_, rfl, wpAny_letOwnedTupleGo_enum (s := { s with heap := h', toks := tk + 1 }) ho fun h'' he' sb => ?_⟩
    have hT2 : h''.get? s.heap.objs.size = some { cls := .type "tuple", data := .seq #[.int i tk, u'] } := (sb.2 _ (Nat.ne_of_gt hel)).trans hT
    have new : ObjOk X.prog X.w (upd H s.heap.objs.size (.tup [.int (i : Nat), x])) h'' s.heap.objs.size (.tup [.int (i : Nat), x]) :=
      ⟨by show 2 ≤ sizeLine; decide, [.int i tk, u'], .cons ⟨_, rfl⟩ (.cons ru .nil), ⟨_, hT2, rfl, _, rfl⟩⟩
    have I1 : Inv X pins σ (upd H s.heap.objs.size (.tup [.int (i : Nat), x])) { s with heap := h'', toks := tk + 1 } :=
      I.turnedNew (ch := [e, it]) (fun b ob hb q => (sb.2 b (fun z => hb (by simp [z]))).trans (hk b ob (fun z => hb (by simp [z])) (fun z => hb (by simp [z])) q)) hf (Nat.le_refl _) new
    refine ⟨.ref s.heap.objs.size, _, I1, rfl, ⟨_, x, rfl, I.hok.fresh (Nat.le_refl _), rfl, fun ys hy => by rw [I.tuple_inj hy hq]; exact hx⟩, ⟨⟨u', ?_⟩, hst'.1.at fun o q => (sb.2 it (Ne.symm hne)).trans q, hne⟩, fun b hb => ?_⟩
    · have e1 : ((i + 1 : Nat) : Int) = (i : Int) + 1 := by omega
      rw [e1]; exact he'
    · have hb' : b < s.heap.objs.size := by
        have e' : b = e ∨ b = it := by simpa using hb
        rcases e' with z | z
        · rw [z]; exact hel
        · rw [z]; exact hil
      rw [upd_ne (Nat.ne_of_lt hb')]
      exact (hf b hb).1
  done := by
    intro X hP hw hK hc i pins s σ H E I hf st hg
    subst hP hw hK
    obtain ⟨⟨old, he⟩, hit, hne⟩ := st
    obtain ⟨xs, hq, hx⟩ := hg
    obtain ⟨its, rv, p, hz⟩ := I.tuple hq
    obtain ⟨f0, f1, f2, f3, f4, f5⟩ := hf it (by simp)
    have hl := rv.length
    exact enum_endT (I.ok.hd hc) he hit p (by simp; omega) fun h' eb => ⟨rfl, I.turned (t' := s.toks) (fun b o hb q => eb b o hb q) f0 f1 f3 f4 f5⟩
  self := fun A i s Q E st h => let ⟨⟨_, he⟩, _⟩ := st; wpAny_pyIter_enum he h
/-- enumerate(x), x a list or a tuple -/
def iEnumA (K : PySem.W.Frag) (ta : TA) : TI := fun σ H R => ta σ H fun vs H1 => ∃ a xs, vs = [.ref a] ∧ ((SqL K H1 a xs ∧ R (Ite K a) H1) ∨ (SqT K H1 a xs ∧ R (IteT K a) H1))
theorem pi_enumA {e : Expr} {ta : TA} {p pos tpos : Pos} {elts : List Expr} {kk : Nat} (hg : Gl X "enumerate") (hm : X.mg "enumerate" = none) (ha : PA X [e] ta) (hs : starEach [e] X.env = [(false, eval e X.env)]) :
    PI X (.Tuple elts kk tpos) (.Call (.Name "enumerate" p) [e] [] pos) (iEnumA X.K ta) := by
  refine ⟨fun pins s σ H R I h => ?_⟩
  refine Call_ (ld_blt I hg hm boot_enumerate (PyProof.Rows.callWith_type1 (thn (ha.run pos pins s σ H _ I h) fun us s1 ⟨vs, H1, I1, r1, q1⟩ => ?_) hs rfl))
  obtain ⟨a, xs, ex, q1⟩ := q1
  subst ex
  cases r1 with
  | cons r rr =>
    cases rr
    cases r
    have fresh2 : ∀ b ∈ [s1.heap.objs.size + 1, s1.heap.objs.size], FpOk X pins H1 b := fun b hb => by
      have e' : b = s1.heap.objs.size + 1 ∨ b = s1.heap.objs.size := by simpa using hb
      have hle : s1.heap.objs.size ≤ b := by
        rcases e' with z | z
        · rw [z]; exact Nat.le_add_right _ _
        · rw [z]; exact Nat.le_refl _
      exact I1.fpOk hle (I1.hok.fresh hle)
    rcases q1 with ⟨hq, q⟩ | ⟨hq, q⟩
    · obtain ⟨its, rv, p', hz⟩ := I1.list hq
      refine call_enumerate_list p'.isList fun h' he hit hsz hk => wpAny_pyIter_enum he ?_
      have I2 : Inv X pins σ H1 { s1 with heap := h' } := I1.kept (t' := s1.toks) hk
      exact ⟨s1.heap.objs.size + 1, [s1.heap.objs.size + 1, s1.heap.objs.size], _, _, H1, rfl, I2, turn_enum a (s1.heap.objs.size + 1) s1.heap.objs.size, ⟨⟨.none, he⟩, hit, Nat.succ_ne_self _⟩, fresh2, q⟩
    · obtain ⟨its, rv, p', hz⟩ := I1.tuple hq
      have hal : a < s1.heap.objs.size := by obtain ⟨o, ho, _⟩ := p'; exact Heap.lt_size ho
      refine call_enumerate_B (begins_tuple a its.toArray) p' fun h' he hit hsz hk => wpAny_pyIter_enum he ?_
      have I2 : Inv X pins σ H1 { s1 with heap := h' } := I1.kept (t' := s1.toks) hk
      exact ⟨s1.heap.objs.size + 1, [s1.heap.objs.size + 1, s1.heap.objs.size], _, _, H1, rfl, I2, turn_enumT a (s1.heap.objs.size + 1) s1.heap.objs.size (Nat.ne_of_lt hal) (Nat.ne_of_lt (Nat.lt_succ_of_lt hal)), ⟨⟨.none, he⟩, ⟨_, hit, rfl, rfl⟩, Nat.succ_ne_self _⟩, fresh2, q⟩
end
end Ev


set_option Elab.async false
set_option linter.all false
set_option maxRecDepth 100000
set_option maxHeartbeats 1000000
/-! EvP: operators and comparisons, by data. -/
namespace Ev
open PySem PySem.Spec PyProof.Rows L2

mutual
def D.py : D → PyData
  | .non => .none
  | .bl b => .bool b
  | .int i => .int i
  | .str s => .str s
  | .tup l => .tuple (pyL l)
  | .lst l => .list (pyL l)
  | .dK _ => .none
  | .dT _ => .none
  | .scr _ => .none
  | .cel _ => .none
  | .fn _ => .none
  | .ty _ => .none
def pyL : List D → List PyData
  | [] => []
  | d :: r => d.py :: pyL r
end
mutual
theorem D.ok_lay : ∀ (d : D) (n : Nat), d.ok n = true → d.py.canLay0 = true ∧ d.py.depth ≤ n
  | .non, n, _ => ⟨rfl, Nat.zero_le _⟩
  | .bl _, n, _ => ⟨rfl, Nat.zero_le _⟩
  | .int _, n, _ => ⟨rfl, Nat.zero_le _⟩
  | .str s, n, h => ⟨by simpa [D.py, PyData.canLay0, PyData.strOk, D.ok] using h, Nat.zero_le _⟩
  | .tup l, 0, h => by simp [D.ok] at h
  | .tup l, n + 1, h => by
    obtain ⟨h1, h2⟩ := okL_lay l n (by simpa [D.ok] using h)
    exact ⟨by simpa [D.py, PyData.canLay0] using h1, by simp only [D.py, PyData.depth]; omega⟩
  | .lst l, 0, h => by simp [D.ok] at h
  | .lst l, n + 1, h => by
    obtain ⟨h1, h2⟩ := okL_lay l n (by simpa [D.ok] using h)
    exact ⟨by simpa [D.py, PyData.canLay0] using h1, by simp only [D.py, PyData.depth]; omega⟩
  | .dK _, n, h => by simp [D.ok] at h
  | .dT _, n, h => by simp [D.ok] at h
  | .scr _, n, h => by simp [D.ok] at h
  | .cel _, n, h => by simp [D.ok] at h
  | .fn _, n, h => by simp [D.ok] at h
  | .ty _, n, h => by simp [D.ok] at h
theorem okL_lay : ∀ (l : List D) (n : Nat), okL l n = true → PyData.canLayAll0 (pyL l) = true ∧ PyData.depthAll (pyL l) ≤ n
  | [], n, _ => ⟨rfl, Nat.zero_le _⟩
  | d :: r, n, h => by
    simp only [okL, Bool.and_eq_true] at h
    obtain ⟨h1, h2⟩ := D.ok_lay d n h.1
    obtain ⟨h3, h4⟩ := okL_lay r n h.2
    exact ⟨by simp only [pyL, PyData.canLayAll0, h1, h3, Bool.and_true], by simp only [pyL, PyData.depthAll]; omega⟩
end
theorem D.ok_shaped {d : D} {n : Nat} (h : d.ok n = true) (hn : n ≤ 64) : SeqAt.shaped d.py = true := by
  obtain ⟨h1, h2⟩ := D.ok_lay d n h
  unfold SeqAt.shaped
  simp only [h1, Bool.true_and, decide_eq_true_eq]
  omega
mutual
theorem D.eqb_py : ∀ (d e : D) (n m : Nat), d.ok n = true → e.ok m = true → PyData.eqv d.py e.py = d.eqb e
  | .non, e, n, m, _, h => by cases e <;> first | rfl | simp [D.ok] at h
  | .bl _, e, n, m, _, h => by cases e <;> first | rfl | simp [D.ok] at h
  | .int _, e, n, m, _, h => by cases e <;> first | rfl | simp [D.ok] at h
  | .str _, e, n, m, _, h => by cases e <;> first | rfl | simp [D.ok] at h
  | .tup l, e, 0, m, h, _ => by simp [D.ok] at h
  | .tup l, e, n + 1, m, h, h' => by
    cases e with
    | tup k =>
      cases m with
      | zero => simp [D.ok] at h'
      | succ m => simp only [D.py, PyData.eqv, D.eqb]; exact eqbL_py l k n m (by simpa [D.ok] using h) (by simpa [D.ok] using h')
    | _ => first | rfl | simp [D.ok] at h'
  | .lst l, e, 0, m, h, _ => by simp [D.ok] at h
  | .lst l, e, n + 1, m, h, h' => by
    cases e with
    | lst k =>
      cases m with
      | zero => simp [D.ok] at h'
      | succ m => simp only [D.py, PyData.eqv, D.eqb]; exact eqbL_py l k n m (by simpa [D.ok] using h) (by simpa [D.ok] using h')
    | _ => first | rfl | simp [D.ok] at h'
  | .dK _, e, n, m, h, _ => by simp [D.ok] at h
  | .dT _, e, n, m, h, _ => by simp [D.ok] at h
  | .scr _, e, n, m, h, _ => by simp [D.ok] at h
  | .cel _, e, n, m, h, _ => by simp [D.ok] at h
  | .fn _, e, n, m, h, _ => by simp [D.ok] at h
  | .ty _, e, n, m, h, _ => by simp [D.ok] at h
theorem eqbL_py : ∀ (l k : List D) (n m : Nat), okL l n = true → okL k m = true → PyData.eqvAll (pyL l) (pyL k) = eqbL l k
  | [], [], n, m, _, _ => rfl
  | [], _ :: _, n, m, _, _ => rfl
  | _ :: _, [], n, m, _, _ => rfl
  | d :: r, e :: s, n, m, h, h' => by
    simp only [okL, Bool.and_eq_true] at h h'
    simp only [pyL, PyData.eqvAll, eqbL, D.eqb_py d e n m h.1 h'.1, eqbL_py r s n m h.2 h'.2]
end
section
variable {W : Wr} {κ : List Addr} {st : Sto} {G H : Hp}
mutual
theorem Rp.dp (O : Ok W κ st G H) : ∀ (d : D) (n : Nat) (v : V), d.ok n = true → Rp W κ G v d → Dp W.K H v d.py
  | .non, n, _, _, r => by cases r; exact .non
  | .bl _, n, _, _, r => by cases r; exact .bl _
  | .int _, n, _, _, r => by cases r; exact .int _
  | .str _, n, _, _, r => by cases r; exact .str _
  | .tup l, 0, _, h, _ => by simp [D.ok] at h
  | .tup l, n + 1, _, h, r => by
    have h' : okL l n = true := by simpa [D.ok] using h
    cases r with
    | tup h1 h2 hd h3 => exact .tup (.inl (.inr ⟨_, O.sub _ _ h2⟩)) (RpL.dp O l n _ h' h3)
    | ktup h1 h2 hd h3 h4 h5 h6 => exact .tup (.inr ⟨_, _, _, h1, h2, h3, h4, h5⟩) (RpL.dp O l n _ h' h6)
  | .lst l, 0, _, h, _ => by simp [D.ok] at h
  | .lst l, n + 1, _, h, r => by
    have h' : okL l n = true := by simpa [D.ok] using h
    cases r with
    | lst h1 h2 h3 => exact .lst (.inl (.inl (O.sub _ _ h2))) (RpL.dp O l n _ h' h3)
  | .dK _, n, _, h, _ => by simp [D.ok] at h
  | .dT _, n, _, h, _ => by simp [D.ok] at h
  | .scr _, n, _, h, _ => by simp [D.ok] at h
  | .cel _, n, _, h, _ => by simp [D.ok] at h
  | .fn _, n, _, h, _ => by simp [D.ok] at h
  | .ty _, n, _, h, _ => by simp [D.ok] at h
theorem RpL.dp (O : Ok W κ st G H) : ∀ (l : List D) (n : Nat) (vs : List V), okL l n = true → RpL W κ G vs l → DpAll W.K H vs (pyL l)
  | [], n, _, _, r => by cases r; exact .nil
  | d :: l, n, _, h, r => by
    simp only [okL, Bool.and_eq_true] at h
    cases r with
    | cons r1 r2 => exact .cons (Rp.dp O d n _ h.1 r1) (RpL.dp O l n _ h.2 r2)
end
theorem pyL_any (f : D → Bool) (g : PyData → Bool) : ∀ (l : List D), (∀ d ∈ l, g d.py = f d) → (pyL l).any g = l.any f
  | [], _ => rfl
  | d :: r, h => by
    simp only [pyL, List.any_cons, h d List.mem_cons_self, pyL_any f g r fun e he => h e (List.mem_cons_of_mem _ he)]
theorem okL_mem : ∀ {l : List D} {n : Nat}, okL l n = true → ∀ d ∈ l, d.ok n = true
  | [], _, _, _, h => by cases h
  | d :: r, n, h, e, he => by
    simp only [okL, Bool.and_eq_true] at h
    rcases List.mem_cons.mp he with z | z
    · subst z; exact h.1
    · exact okL_mem h.2 e z
theorem RpL.lex : ∀ {l : List D} {is : List Int} {vs : List V}, intsOf l = some is → RpL W κ G vs l → vs = is.map V.int
  | [], _, _, h, r => by cases h; cases r; rfl
  | d :: l, is, _, h, r => by
    cases r with
    | cons r1 r2 =>
      cases d <;> simp [intsOf] at h
      rename_i i
      cases e : intsOf l with
      | none => rw [e] at h; cases h
      | some js => rw [e] at h; cases h; cases r1; rw [RpL.lex e r2]; rfl
theorem RpL.bools : ∀ {l : List D} {bs : List Bool} {vs : List V}, boolsOf l = some bs → RpL W κ G vs l → vs = bs.map V.bl
  | [], _, _, h, r => by cases h; cases r; rfl
  | d :: l, is, _, h, r => by
    cases r with
    | cons r1 r2 =>
      cases d <;> simp [boolsOf] at h
      rename_i i
      cases e : boolsOf l with
      | none => rw [e] at h; cases h
      | some js => rw [e] at h; cases h; cases r1; rw [RpL.bools e r2]; rfl
theorem Rp.key {v : V} {d : D} {q : Ky} (r : Rp W κ G v d) (h : keyOf d = some q) : v = kV q := by
  cases d <;> simp [keyOf] at h
  · cases r; subst h; rfl
  · cases r; obtain ⟨_, h⟩ := h; subst h; rfl
theorem RpL.keys : ∀ {l : List D} {qs : List Ky} {vs : List V}, keysOf l = some qs → RpL W κ G vs l → vs = qs.map kV
  | [], _, _, h, r => by cases h; cases r; rfl
  | d :: l, is, _, h, r => by
    cases r with
    | cons r1 r2 =>
      unfold keysOf at h
      cases e1 : keyOf d with
      | none => rw [e1] at h; cases h
      | some k =>
        cases e : keysOf l with
        | none => rw [e1, e] at h; cases h
        | some js => rw [e1, e] at h; cases h; rw [RpL.keys e r2, r1.key e1]; rfl
end
theorem lexLt_is : ∀ a b : List Int, HT.lexLt a b = lexLt a b
  | [], [] => rfl
  | [], _ :: _ => rfl
  | _ :: _, [] => rfl
  | x :: xs, y :: ys => by unfold HT.lexLt lexLt; rw [lexLt_is xs ys]


section
variable {W : Wr} {κ : List Addr} {st : Sto} {G H : Hp}
/-- what is no cell reads as itself -/
theorem dr_self (O : Ok W κ st G H) {v : V} {d : D} (r : Rp W κ G v d) (h1 : ∀ l, dr st d ≠ .lst l) (h2 : ∀ l, dr st d ≠ .dK l) (h3 : ∀ l, dr st d ≠ .dT l) : dr st d = d := by
  cases d with
  | cel k =>
    cases r with
    | cel hk =>
      have hl : k < st.length := by rw [← O.len]; exact (List.getElem?_eq_some_iff.mp hk).1
      have e : st[k]? = some (dr st (.cel k)) := by
        show st[k]? = some (st.getD k .non)
        rw [List.getD_eq_getElem?_getD, List.getElem?_eq_getElem hl]; rfl
      have c := O.cell k _ _ hk e
      generalize dr st (.cel k) = x at *
      cases x <;> first | exact c.elim | exact absurd rfl (h1 _) | exact absurd rfl (h2 _) | exact absurd rfl (h3 _)
  | _ => rfl
theorem Rp.dpr (O : Ok W κ st G H) {v : V} {d : D} {n : Nat} (r : Rp W κ G v d) (h : (dr st d).ok n = true) : Dp W.K H v (dr st d).py := by
  cases e : dr st d with
  | lst l =>
    rw [e] at h
    obtain ⟨a, vs, rfl, ha, ra⟩ := read_lst O r e
    cases n with
    | zero => simp [D.ok] at h
    | succ n => exact .lst (SqL.of ha) (RpL.dp O l n _ (by simpa [D.ok] using h) ra)
  | dK l => rw [e] at h; simp [D.ok] at h
  | dT l => rw [e] at h; simp [D.ok] at h
  | _ =>
    have e2 := dr_self O r (by rw [e]; exact nofun) (by rw [e]; exact nofun) (by rw [e]; exact nofun)
    rw [e2] at e
    rw [e2] at h
    rw [e] at r h
    exact Rp.dp O _ n v h r
def D.isNon : D → Bool
  | .non => true
  | _ => false
theorem Rp.non_iff {v : V} {d : D} (r : Rp W κ G v d) : decide (v = .non) = d.isNon := by
  cases r <;> rfl
theorem RpK.look {kvs : List (L2.Key × V)} {l : List (Ky × D)} {k : Ky} (r : RpK W κ G kvs l) : (∀ d, look l k = some d → ∃ v, valV kvs k = some v ∧ Rp W κ G v d) ∧ (look l k = none → valV kvs k = none) := by
  induction l generalizing kvs with
  | nil => cases r; exact ⟨fun d h => by simp [Ev.look] at h, fun _ => rfl⟩
  | cons p l ih =>
    obtain ⟨q, d⟩ := p
    cases r with
    | cons h1 h2 =>
      unfold Ev.look
      by_cases e : q = k
      · rw [if_pos e]
        exact ⟨fun d' hd => by cases hd; exact ⟨_, valV_pos e, h1⟩, fun hd => by cases hd⟩
      · rw [if_neg e, valV_neg e]
        exact ih h2
theorem RpK.isSome {kvs : List (L2.Key × V)} {l : List (Ky × D)} {k : Ky} (r : RpK W κ G kvs l) : (valV kvs k).isSome = (Ev.look l k).isSome := by
  cases e : Ev.look l k with
  | none => rw [r.look.2 e]; rfl
  | some d => obtain ⟨v, h, _⟩ := r.look.1 d e; rw [h]; rfl
theorem RpK.length : ∀ {kvs : List (L2.Key × V)} {l : List (Ky × D)}, RpK W κ G kvs l → kvs.length = l.length
  | _, _, .nil => rfl
  | _, _, .cons _ h => by simp [RpK.length h]
theorem RpK.any {kvs : List (L2.Key × V)} {l : List (Ky × D)} {k : Ky} (r : RpK W κ G kvs l) : (kvs.any fun p => decide (p.1 = k)) = l.any fun p => decide (p.1 = k) := by
  induction l generalizing kvs with
  | nil => cases r; rfl
  | cons p l ih =>
    obtain ⟨q, d⟩ := p
    cases r with
    | cons h1 h2 => simp only [List.any_cons, ih h2]
theorem RpK.repl {kvs : List (L2.Key × V)} {l : List (Ky × D)} {k : Ky} {v : V} {d : D} (rd : Rp W κ G v d) (r : RpK W κ G kvs l) :
    RpK W κ G (kvs.map fun p => if p.1 = k then (p.1, v) else p) (l.map fun p => if p.1 = k then (p.1, d) else p) := by
  induction l generalizing kvs with
  | nil => cases r; exact .nil
  | cons p l ih =>
    obtain ⟨q, d'⟩ := p
    cases r with
    | cons h1 h2 =>
      simp only [List.map_cons]
      by_cases e : q = k
      · rw [if_pos e, if_pos e]; exact .cons rd (ih h2)
      · rw [if_neg e, if_neg e]; exact .cons h1 (ih h2)
theorem RpK.snoc {kvs : List (L2.Key × V)} {l : List (Ky × D)} {k : Ky} {v : V} {d : D} (rd : Rp W κ G v d) (r : RpK W κ G kvs l) : RpK W κ G (kvs ++ [(k, v)]) (l ++ [(k, d)]) := by
  induction l generalizing kvs with
  | nil => cases r; exact .cons rd .nil
  | cons p l ih =>
    cases r with
    | cons h1 h2 => exact .cons h1 (ih h2)
theorem RpK.put {kvs : List (L2.Key × V)} {l : List (Ky × D)} {k : Ky} {v : V} {d : D} (r : RpK W κ G kvs l) (rd : Rp W κ G v d) : RpK W κ G (putK kvs k v) (Ev.put l k d) := by
  unfold putK Ev.put
  rw [r.any]
  split
  · exact r.repl rd
  · exact r.snoc rd
end

/-! ### operators -/
section
variable {X : Cx} {T : Tab}
theorem OpR.d {f : Value → Value → Sem Value} {r : R2} {k : Sto → D → D → Option D} (h : OpR X f r) (i : ∀ x y H Q, HLen H → rD (T.W X.K) k x y H Q → r x y H Q) : OpR X f (rD (T.W X.K) k) :=
  fun pins s σ H x y v u Q I rx ry q => h pins s σ H x y v u Q I rx ry (i x y H Q (hlen_of I) q)
theorem OpR.case {f : Value → Value → Sem Value} {k : Sto → D → D → Option D}
    (h : ∀ (κ : List Addr) (G : Hp) (st : Sto) (dx dy d : D) (x y : V) (H : Hp) (Q : VK), HLen H → Ok (T.W X.K) κ st G H → Rp (T.W X.K) κ G x dx → Rp (T.W X.K) κ G y dy → k st dx dy = some d → KQ (T.W X.K) κ G H st d Q → ∃ r : R2, OpR X f r ∧ r x y H Q) : OpR X f (rD (T.W X.K) k) := by
  intro pins s σ H x y v u Q I rx ry q
  obtain ⟨κ, G, st, dx, dy, d, O, r1, r2, e, kq⟩ := q
  obtain ⟨r, o, q⟩ := h κ G st dx dy d x y H Q (hlen_of I) O r1 r2 e kq
  exact o pins s σ H x y v u Q I rx ry q
theorem op_addD : OpR X (binaryOp .Add) (rD (T.W X.K) fun st => binD st .add) := by
  refine OpR.case fun κ G st dx dy d x y H Q hL O r1 r2 e k => ?_
  simp only [binD] at e
  split at e
  · rename_i i j e1 e2
    cases e
    cases dr_int O r1 e1; cases dr_int O r2 e2
    cases r1; cases r2
    exact ⟨_, op_add, _, _, rfl, rfl, k.now O (.int _)⟩
  · rename_i l m e1 e2
    split at e
    case isFalse => cases e
    rename_i hl
    cases e
    obtain ⟨a, xs, rfl, ha, ra⟩ := read_tup O r1 e1
    obtain ⟨b, ys, rfl, hb, rb⟩ := read_tup O r2 e2
    have l1 := ra.length
    have l2 := rb.length
    refine ⟨_, opF_cat, a, b, xs, ys, rfl, rfl, ha, hb, by rw [sizeLine_is]; omega, fun q => ?_, fun q q2 => ?_, fun p o hd hp => ?_⟩
    · have : l = [] := by cases l with | nil => rfl | cons _ _ => subst q; simp at l1
      subst this
      cases dy with
      | tup m' =>
        cases (show D.tup m' = .tup m from e2)
        exact k.now O r2
      | cel kk => exact (read_tup_cel O r2 e2).elim
      | _ => cases e2
    · have : m = [] := by cases m with | nil => rfl | cons _ _ => subst q2; simp at l2
      subst this
      cases dx with
      | tup m' =>
        cases (show D.tup m' = .tup l from e1)
        rw [List.append_nil] at k
        exact k.now O r1
      | cel kk => exact (read_tup_cel O r1 e1).elim
      | _ => cases e1
    · exact k.new O (.tup hd (ra.append rb)) hp
  · rename_i l m e1 e2
    split at e
    case isFalse => cases e
    rename_i hl
    cases e
    obtain ⟨a, xs, rfl, ha, ra⟩ := read_lst O r1 e1
    obtain ⟨b, ys, rfl, hb, rb⟩ := read_lst O r2 e2
    have l1 := ra.length
    have l2 := rb.length
    exact ⟨_, op_cat, a, b, xs, ys, rfl, rfl, ha, hb, by rw [sizeLine_is]; omega, fun p hp => k.new O (.lst (ra.append rb)) hp⟩
  · rename_i i j e1 e2
    split at e
    case isFalse => cases e
    rename_i hl
    cases e
    cases dr_str O r1 e1; cases dr_str O r2 e2
    cases r1; cases r2
    exact ⟨_, op_add_str, _, _, rfl, rfl, hl, k.now O (.str _)⟩
  · cases e

theorem log2_lt {i : Int} {n : Nat} (h : i.natAbs.log2 < n) : i.natAbs.log2 < n := h
theorem op_subD : OpR X (binaryOp .Sub) (rD (T.W X.K) fun st => binD st .sub) := by
  refine OpR.case fun κ G st dx dy d x y H Q hL O r1 r2 e k => ?_
  simp only [binD] at e
  split at e
  · cases e; cases r1; cases r2
    exact ⟨_, op_sub, _, _, rfl, rfl, k.now O (.int _)⟩
  · cases e
theorem op_mulD : OpR X (binaryOp .Mult) (rD (T.W X.K) fun st => binD st .mul) := by
  refine OpR.case fun κ G st dx dy d x y H Q hL O r1 r2 e k => ?_
  simp only [binD] at e
  split at e
  · split at e
    · rename_i h
      cases e; cases r1; cases r2
      simp only [small, Bool.and_eq_true, decide_eq_true_eq] at h
      refine ⟨_, op_mulW, _, _, rfl, rfl, ?_, k.now O (.int _)⟩
      show _ + _ < 1000000
      omega
    · cases e
  · cases e
theorem op_fdivD : OpR X (binaryOp .FloorDiv) (rD (T.W X.K) fun st => binD st .fdiv) := by
  refine OpR.case fun κ G st dx dy d x y H Q hL O r1 r2 e k => ?_
  simp only [binD] at e
  split at e
  · split at e
    · rename_i h
      cases e; cases r1; cases r2
      exact ⟨_, op_fdivW, _, _, rfl, rfl, h, k.now O (.int _)⟩
    · cases e
  · cases e
theorem op_modD : OpR X (binaryOp .Mod) (rD (T.W X.K) fun st => binD st .mod) := by
  refine OpR.case fun κ G st dx dy d x y H Q hL O r1 r2 e k => ?_
  simp only [binD] at e
  split at e
  · split at e
    · rename_i h
      cases e; cases r1; cases r2
      exact ⟨_, op_mod, _, _, rfl, rfl, h, k.now O (.int _)⟩
    · cases e
  · cases e
theorem op_powD : OpR X (binaryOp .Pow) (rD (T.W X.K) fun st => binD st .pow) := by
  refine OpR.case fun κ G st dx dy d x y H Q hL O r1 r2 e k => ?_
  simp only [binD] at e
  split at e
  · split at e
    · rename_i h
      cases e; cases r1; cases r2
      obtain ⟨h1, h2, h3⟩ := h
      refine ⟨_, op_pow, _, _, rfl, rfl, ⟨h1, by omega, ?_⟩, k.now O (.int _)⟩
      exact Nat.lt_trans h3 (by decide)
    · cases e
  · cases e
/-- the operators by their signs -/
def opOf : B2 → Operator
  | .add => .Add | .sub => .Sub | .mul => .Mult | .fdiv => .FloorDiv | .mod => .Mod | .pow => .Pow
theorem op_binD : ∀ o : B2, OpR X (binaryOp (opOf o)) (rD (T.W X.K) fun st => binD st o)
  | .add => op_addD | .sub => op_subD | .mul => op_mulD | .fdiv => op_fdivD | .mod => op_modD | .pow => op_powD

/-! ### comparisons -/
def cmpV (k : Sto → D → D → Option Bool) : Sto → D → D → Option D := fun st a b => (k st a b).map .bl

theorem cmp_case {f : Value → Value → Sem Value} {k : Sto → D → D → Option Bool}
    (h : ∀ (κ : List Addr) (G : Hp) (st : Sto) (dx dy : D) (b : Bool) (x y : V) (H : Hp) (Q : VK), HLen H → Ok (T.W X.K) κ st G H → Rp (T.W X.K) κ G x dx → Rp (T.W X.K) κ G y dy → k st dx dy = some b → Q (.bl b) H → ∃ r : R2, OpR X f r ∧ r x y H Q) : OpR X f (rD (T.W X.K) (cmpV k)) := by
  refine OpR.case fun κ G st dx dy d x y H Q hL O r1 r2 e kq => ?_
  unfold cmpV at e
  cases e1 : k st dx dy with
  | none => rw [e1] at e; cases e
  | some b =>
    rw [e1] at e
    cases e
    exact h κ G st dx dy b x y H Q hL O r1 r2 e1 (kq.now O (.bl b))
theorem eqD_some {a b : D} {k : Bool} (h : eqD a b = some k) : a.ok 64 = true ∧ b.ok 64 = true ∧ k = a.eqb b := by
  unfold eqD at h
  split at h
  · rename_i q
    simp only [Bool.and_eq_true] at q
    cases h
    exact ⟨q.1, q.2, rfl⟩
  · cases h
theorem op_eqDD (hu : X.A.units + 64 < cLine) : OpR X (compareOp .Eq) (rD (T.W X.K) (cmpV fun st => cmpD st .eq)) := by
  refine cmp_case fun κ G st dx dy b x y H Q hL O r1 r2 e q => ?_
  obtain ⟨h1, h2, rfl⟩ := eqD_some (show eqD (dr st dx) (dr st dy) = some b from e)
  refine ⟨_, op_eqD hu, _, _, Rp.dpr O r1 h1, Rp.dpr O r2 h2, D.ok_shaped h1 (Nat.le_refl _), D.ok_shaped h2 (Nat.le_refl _), ?_⟩
  rw [D.eqb_py _ _ 64 64 h1 h2]
  exact q
theorem op_neDD (hu : X.A.units + 64 < cLine) : OpR X (compareOp .NotEq) (rD (T.W X.K) (cmpV fun st => cmpD st .ne)) := by
  refine cmp_case fun κ G st dx dy b x y H Q hL O r1 r2 e q => ?_
  have e : (eqD (dr st dx) (dr st dy)).map (!·) = some b := e
  cases e1 : eqD (dr st dx) (dr st dy) with
  | none => rw [e1] at e; cases e
  | some c =>
    rw [e1] at e
    cases e
    obtain ⟨h1, h2, rfl⟩ := eqD_some e1
    refine ⟨_, op_neD hu, _, _, Rp.dpr O r1 h1, Rp.dpr O r2 h2, D.ok_shaped h1 (Nat.le_refl _), D.ok_shaped h2 (Nat.le_refl _), ?_⟩
    rw [D.eqb_py _ _ 64 64 h1 h2]
    exact q
theorem read_tup0 {W : Wr} {κ : List Addr} {st : Sto} {G H : Hp} {x : V} {ds : List D} (O : Ok W κ st G H) (r : Rp W κ G x (.tup ds)) : ∃ a vs, x = .ref a ∧ SqT W.K H a vs ∧ RpL W κ G vs ds := read_tup O (st := st) r rfl
theorem op_ltDD (hu : X.A.units < cLine) : OpR X (compareOp .Lt) (rD (T.W X.K) (cmpV fun st => cmpD st .lt)) := by
  refine cmp_case fun κ G st dx dy b x y H Q hL O r1 r2 e q => ?_
  simp only [cmpD] at e
  split at e
  · cases e; cases r1; cases r2
    exact ⟨_, op_lt, _, _, rfl, rfl, q⟩
  · rename_i l m
    split at e
    · rename_i a c ea ec
      cases e
      obtain ⟨p, vs, rfl, hp, rp⟩ := read_tup0 O r1
      obtain ⟨p2, ws, rfl, hp2, rp2⟩ := read_tup0 O r2
      rw [RpL.lex ea rp] at hp
      rw [RpL.lex ec rp2] at hp2
      exact ⟨_, op_ltT hu, p, p2, a, c, rfl, rfl, hp, hp2, by rw [lexLt_is]; exact q⟩
    · cases e
  · cases e
theorem lexAt_le : ∀ (a b c d : List Int) (i : Nat), c.length = i → d.length = i →
    Ob.lexAt (fun j => decide ((c ++ a).getD j 0 = (d ++ b).getD j 0)) (fun j => decide ((c ++ a).getD j 0 ≤ (d ++ b).getD j 0)) (decide ((c ++ a).length ≤ (d ++ b).length)) i (min a.length b.length) = !lexLt b a
  | [], [], c, d, i, hc, hd => by
    show decide _ = _
    simp [hc, hd, lexLt]
  | [], _ :: _, c, d, i, hc, hd => by
    simp only [List.length_nil, Nat.zero_min]
    show decide _ = _
    simp [hc, hd, lexLt]
  | _ :: _, [], c, d, i, hc, hd => by
    simp only [List.length_nil, Nat.min_zero]
    show decide _ = _
    simp [hc, hd, lexLt]
  | x :: xs, y :: ys, c, d, i, hc, hd => by
    simp only [List.length_cons, Nat.succ_min_succ]
    rw [Ob.lexAt_succ]
    have e1 : (c ++ x :: xs).getD i 0 = x := by
      rw [List.getD_eq_getElem?_getD, List.getElem?_append_right (by omega)]; simp [hc]
    have e2 : (d ++ y :: ys).getD i 0 = y := by
      rw [List.getD_eq_getElem?_getD, List.getElem?_append_right (by omega)]; simp [hd]
    have ih := lexAt_le xs ys (c ++ [x]) (d ++ [y]) (i + 1) (by simp [hc]) (by simp [hd])
    simp only [List.append_assoc, List.singleton_append] at ih
    rw [e1, e2]
    by_cases q : x = y
    · rw [if_pos (by simpa using q), ih]
      unfold lexLt
      rw [if_pos q.symm]
      cases ys <;> cases xs <;> rfl
    · rw [if_neg (by simpa using q)]
      unfold lexLt
      rw [if_neg (Ne.symm q)]
      by_cases z : x ≤ y
      · rw [decide_eq_true z, decide_eq_false (by omega)]; rfl
      · rw [decide_eq_false z, decide_eq_true (by omega)]; rfl
theorem op_leDD (hu : X.A.units < cLine) : OpR X (compareOp .LtE) (rD (T.W X.K) (cmpV fun st => cmpD st .le)) := by
  refine cmp_case fun κ G st dx dy b x y H Q hL O r1 r2 e q => ?_
  simp only [cmpD] at e
  split at e
  · cases e; cases r1; cases r2
    exact ⟨_, op_le, _, _, rfl, rfl, q⟩
  · rename_i l m
    split at e
    · rename_i a c ea ec
      cases e
      obtain ⟨p, vs, rfl, hp, rp⟩ := read_tup0 O r1
      obtain ⟨p2, ws, rfl, hp2, rp2⟩ := read_tup0 O r2
      rw [RpL.lex ea rp] at hp
      rw [RpL.lex ec rp2] at hp2
      refine ⟨_, op_leT hu, p, p2, a, c, rfl, rfl, hp, hp2, ?_⟩
      have := lexAt_le a c [] [] 0 rfl rfl
      simp only [List.nil_append] at this
      rw [this]; exact q
    · cases e
  · cases e
theorem op_gtDD : OpR X (compareOp .Gt) (rD (T.W X.K) (cmpV fun st => cmpD st .gt)) := by
  refine cmp_case fun κ G st dx dy b x y H Q hL O r1 r2 e q => ?_
  simp only [cmpD] at e
  split at e
  · cases e; cases r1; cases r2
    exact ⟨_, op_gt, _, _, rfl, rfl, q⟩
  · cases e
theorem op_geDD : OpR X (compareOp .GtE) (rD (T.W X.K) (cmpV fun st => cmpD st .ge)) := by
  refine cmp_case fun κ G st dx dy b x y H Q hL O r1 r2 e q => ?_
  simp only [cmpD] at e
  split at e
  · cases e; cases r1; cases r2
    exact ⟨_, op_ge, _, _, rfl, rfl, q⟩
  · cases e
theorem op_isDD : OpR X (compareOp .Is) (rD (T.W X.K) (cmpV fun st => cmpD st .isI)) := by
  refine cmp_case fun κ G st dx dy b x y H Q hL O r1 r2 e q => ?_
  simp only [cmpD] at e
  split at e
  · cases e; cases r2
    refine ⟨_, op_isN, rfl, ?_⟩
    rw [r1.non_iff]
    cases dx <;> exact q
  · split at e
    · cases e; cases r1; cases r2
      exact ⟨_, op_is_bl, _, _, rfl, rfl, q⟩
    · cases e
  · cases e
theorem op_isNotDD : OpR X (compareOp .IsNot) (rD (T.W X.K) (cmpV fun st => cmpD st .isNot)) := by
  refine cmp_case fun κ G st dx dy b x y H Q hL O r1 r2 e q => ?_
  simp only [cmpD] at e
  split at e
  · cases e; cases r2
    refine ⟨_, op_notN, rfl, ?_⟩
    rw [r1.non_iff]
    cases dx <;> exact q
  · split at e
    · cases e; cases r1; cases r2
      exact ⟨_, op_isnot_bl, _, _, rfl, rfl, q⟩
    · cases e
  · cases e
/-- x in a tuple of data; in a dict -/
theorem op_inTD (hu : X.A.units + 65 < cLine) : OpR X (compareOp .In) (fun x y H Q => ∃ d ds, Dp X.K H x d ∧ Dp X.K H y (.tuple ds) ∧ SeqAt.shaped d = true ∧ SeqAt.shaped (.tuple ds) = true ∧ Q (.bl (ds.any fun z => PyData.eqv z d)) H) := by
  intro pins s σ H x y v u Q I rx ry h
  obtain ⟨d, ds, hd, he, sd, se, q⟩ := h
  obtain ⟨as, r1⟩ := Dp.reads I d x v hd rx
  obtain ⟨bs, r2⟩ := Dp.reads I (.tuple ds) y u he ry
  exact SeqAt.in_tuple_reads r2 r1 (SeqAt.canLay_of_shaped se) (SeqAt.canLay_of_shaped sd) (room_in_shaped sd hu) ⟨.bl _, H, I, rfl, q⟩
theorem op_notInTD (hu : X.A.units + 65 < cLine) : OpR X (compareOp .NotIn) (fun x y H Q => ∃ d ds, Dp X.K H x d ∧ Dp X.K H y (.tuple ds) ∧ SeqAt.shaped d = true ∧ SeqAt.shaped (.tuple ds) = true ∧ Q (.bl (!ds.any fun z => PyData.eqv z d)) H) := by
  intro pins s σ H x y v u Q I rx ry h
  obtain ⟨d, ds, hd, he, sd, se, q⟩ := h
  obtain ⟨as, r1⟩ := Dp.reads I d x v hd rx
  obtain ⟨bs, r2⟩ := Dp.reads I (.tuple ds) y u he ry
  exact SeqAt.notIn_tuple_reads r2 r1 (SeqAt.canLay_of_shaped se) (SeqAt.canLay_of_shaped sd) (room_in_shaped sd hu) ⟨.bl _, H, I, rfl, q⟩
theorem op_inG (hu : X.A.units + 65 < cLine) : OpR X (compareOp .In) (fun x y H Q => ∃ a o, y = .ref a ∧ DGet H a x o ∧ Q (.bl o.isSome) H) := by
  intro pins s σ H x y v u Q I rx ry h
  obtain ⟨a, o, rfl, g, q⟩ := h
  obtain rfl : u = Value.ref a := ry
  exact d_in (by omega) I g rx fun s3 I3 => ⟨.bl o.isSome, H, I3, rfl, q⟩
theorem op_notInG (hu : X.A.units + 65 < cLine) : OpR X (compareOp .NotIn) (fun x y H Q => ∃ a o, y = .ref a ∧ DGet H a x o ∧ Q (.bl (!o.isSome)) H) := by
  intro pins s σ H x y v u Q I rx ry h
  obtain ⟨a, o, rfl, g, q⟩ := h
  obtain rfl : u = Value.ref a := ry
  exact d_notIn (by omega) I g rx fun s3 I3 => ⟨.bl (!o.isSome), H, I3, rfl, q⟩
theorem inD_some {x : D} {l : List D} {k : Bool} (h : inD x l = some k) : x.ok 64 = true ∧ okL l 63 = true ∧ k = (pyL l).any fun z => PyData.eqv z x.py := by
  unfold inD at h
  split at h
  · rename_i q
    simp only [Bool.and_eq_true] at q
    cases h
    refine ⟨q.1, q.2, ?_⟩
    exact (pyL_any (fun y => y.eqb x) (fun z => PyData.eqv z x.py) l fun d hd => D.eqb_py d x 63 64 (okL_mem q.2 d hd) q.1).symm
  · cases h
theorem ok_tup {l : List D} (h : okL l 63 = true) : (D.tup l).ok 64 = true := by simpa [D.ok] using h
theorem ok_lst {l : List D} (h : okL l 63 = true) : (D.lst l).ok 64 = true := by simpa [D.ok] using h
theorem op_inDD (hu : X.A.units + 65 < cLine) : OpR X (compareOp .In) (rD (T.W X.K) (cmpV fun st => cmpD st .inI)) := by
  refine cmp_case fun κ G st dx dy b x y H Q hL O r1 r2 e q => ?_
  simp only [cmpD] at e
  split at e
  · rename_i l el
    obtain ⟨h1, h2, rfl⟩ := inD_some e
    have dp := Rp.dpr O r2 (n := 64) (by rw [el]; exact ok_tup h2)
    rw [el] at dp
    exact ⟨_, op_inTD hu, _, _, Rp.dp O _ 64 _ h1 r1, dp, D.ok_shaped h1 (Nat.le_refl _), D.ok_shaped (d := .tup l) (ok_tup h2) (Nat.le_refl _), q⟩
  · rename_i l el
    obtain ⟨h1, h2, rfl⟩ := inD_some e
    have dp := Rp.dpr O r2 (n := 64) (by rw [el]; exact ok_lst h2)
    rw [el] at dp
    exact ⟨_, op_inD hu, _, _, Rp.dp O _ 64 _ h1 r1, dp, D.ok_shaped h1 (Nat.le_refl _), D.ok_shaped (d := .lst l) (ok_lst h2) (Nat.le_refl _), q⟩
  · rename_i l el
    obtain ⟨a, kvs, rfl, ha, ra⟩ := read_dK O r2 el
    cases ek : keyOf dx with
    | none => rw [ek] at e; cases e
    | some k =>
      rw [ek] at e
      cases e
      obtain rfl := r1.key ek
      refine ⟨_, op_inG hu, a, _, rfl, DGet.k ha, ?_⟩
      rw [ra.isSome]; exact q
  · rename_i z el
    split at e
    · rename_i s
      cases e
      have e2 := dr_str O r2 el
      subst e2
      cases r1; cases r2
      exact ⟨_, op_in_str, _, _, rfl, rfl, q⟩
    · cases e
  · cases e
theorem op_notInDD (hu : X.A.units + 65 < cLine) : OpR X (compareOp .NotIn) (rD (T.W X.K) (cmpV fun st => cmpD st .notIn)) := by
  refine cmp_case fun κ G st dx dy b x y H Q hL O r1 r2 e q => ?_
  simp only [cmpD] at e
  split at e
  · rename_i l el
    cases e1 : inD dx l with
    | none => rw [e1] at e; cases e
    | some c =>
      rw [e1] at e
      cases e
      obtain ⟨h1, h2, rfl⟩ := inD_some e1
      have dp := Rp.dpr O r2 (n := 64) (by rw [el]; exact ok_tup h2)
      rw [el] at dp
      exact ⟨_, op_notInTD hu, _, _, Rp.dp O _ 64 _ h1 r1, dp, D.ok_shaped h1 (Nat.le_refl _), D.ok_shaped (d := .tup l) (ok_tup h2) (Nat.le_refl _), q⟩
  · rename_i l el
    cases e1 : inD dx l with
    | none => rw [e1] at e; cases e
    | some c =>
      rw [e1] at e
      cases e
      obtain ⟨h1, h2, rfl⟩ := inD_some e1
      have dp := Rp.dpr O r2 (n := 64) (by rw [el]; exact ok_lst h2)
      rw [el] at dp
      exact ⟨_, op_notInD hu, _, _, Rp.dp O _ 64 _ h1 r1, dp, D.ok_shaped h1 (Nat.le_refl _), D.ok_shaped (d := .lst l) (ok_lst h2) (Nat.le_refl _), q⟩
  · rename_i l el
    obtain ⟨a, kvs, rfl, ha, ra⟩ := read_dK O r2 el
    cases ek : keyOf dx with
    | none => rw [ek] at e; cases e
    | some k =>
      rw [ek] at e
      cases e
      obtain rfl := r1.key ek
      refine ⟨_, op_notInG hu, a, _, rfl, DGet.k ha, ?_⟩
      rw [ra.isSome]; exact q
  · rename_i z el
    split at e
    · rename_i s
      cases e
      have e2 := dr_str O r2 el
      subst e2
      cases r1; cases r2
      exact ⟨_, op_notin_str, _, _, rfl, rfl, by rw [Bool.not_not]; exact q⟩
    · cases e
  · cases e
def cmOf : C2 → CmpOp
  | .eq => .Eq | .ne => .NotEq | .lt => .Lt | .le => .LtE | .gt => .Gt | .ge => .GtE | .isI => .Is | .isNot => .IsNot | .inI => .In | .notIn => .NotIn
theorem op_cmpD (hu : X.A.units + 65 < cLine) : ∀ o : C2, OpR X (compareOp (cmOf o)) (rD (T.W X.K) (cmpV fun st => cmpD st o))
  | .eq => op_eqDD (by omega) | .ne => op_neDD (by omega) | .lt => op_ltDD (by omega) | .le => op_leDD (by omega) | .gt => op_gtDD | .ge => op_geDD
  | .isI => op_isDD | .isNot => op_isNotDD | .inI => op_inDD hu | .notIn => op_notInDD hu
end
end Ev


set_option Elab.async false
set_option linter.all false
set_option maxRecDepth 100000
set_option maxHeartbeats 4000000
/-! EvK: sorted of lists and tuples of data. -/
namespace Ev
open PySem PySem.Spec PySem.W PyProof.Rows PySem.SeqAt

section
variable {prog : Program} {w : World} {A : Around} {E : Value → Shared → Prop} {s : Shared}
theorem call_tuple_lt {Q : Value → Shared → Prop} {l b : Addr} {items items2 : Array Value} {e r : Nat → Bool} (hl : s.heap.IsTuple l items) (hb : s.heap.IsTuple b items2)
    (he : ∀ j (h1 : j < items.size) (h2 : j < items2.size), EqAt A.in1 s items[j] items2[j] (e j)) (hr : ∀ j (h1 : j < items.size) (h2 : j < items2.size), e j = false → RcLt A.in1 s items[j] items2[j] (r j))
    (h : Q (.bool (firstLt e r (decide (items.size < items2.size)) (List.range (min items.size items2.size)))) s) : wpAny (model prog w) A (call (.builtin "tuple.__lt__") [.ref l, .ref b]) Q E s := by
  obtain ⟨⟨cls, dd, data, sl⟩, ho, hc, n, hd⟩ := id hl
  obtain ⟨⟨cls2, dd2, data2, sl2⟩, ho2, hc2, n2, hd2⟩ := id hb
  simp only at hc hd hc2 hd2
  subst hc hd hc2 hd2
  exact call_meets F.slot_tuple_lt ⟨_, ho, rfl⟩ F.entry_tuple_lt (F.args_tuple_lt_2 _ _) (tuple_ltAt l b items items2 n n2 dd dd2 sl sl2 e r) ⟨ho, ho2, he, hr, h⟩
theorem oneLt_tup {xs ys : List PyData} {a b : Value} {as bs : List Addr} {Q : Bool → Shared → Prop} (ra : Reads s.heap a (.tuple xs) as) (rb : Reads s.heap b (.tuple ys) bs) (h : alike (.tuple xs) (.tuple ys) = true)
    (hu : A.units + min (PyData.tuple xs).depth (PyData.tuple ys).depth < cLine) (hq : Q (dataLt (.tuple xs) (.tuple ys)) s) : wpAny (model prog w) A (oneLt' true a b) Q E s := by
  have hal : alikeAll xs ys = true := by simpa [alike] using h
  cases ra with
  | @tuple l o vs n _ as₁ h1 h2 h3 h4 =>
    cases rb with
    | @tuple l' o' vs' n' _ bs₁ k1 k2 k3 k4 =>
      have n1 : vs.size = xs.length := by simpa using ReadsAll.length _ _ _ h4
      have n2 : vs'.size = ys.length := by simpa using ReadsAll.length _ _ _ k4
      rw [dataLt_tuple, ← firstLt_toks xs ys hal, ← n1, ← n2] at hq
      rw [oneLt'_eq]
      simp only [if_true]
      refine wpAny_bind (wpAny_cRoomFor (room_here hu) ?_)
      refine wpAny_bind (wpAny_callSpecialIfBound?_slot (T := "tuple") ⟨_, h1, h2⟩ F.slot_tuple_lt (call_tuple_lt (e := pairEq xs ys) (r := fun j => dataLt (xs.getD j .none) (ys.getD j .none)) ⟨_, h1, h2, _, h3⟩ ⟨_, k1, k2, _, k3⟩ (fun j j1 j2 => ?_) (fun j j1 j2 hj => ?_) ?_))
      · have := eqAt_alikeAll xs ys A.in1 s vs.toList vs'.toList _ _ h4 k4 hal (room_in hu) j (by simpa using j1) (by simpa using j2)
        simpa using this
      · have := rcLt_alikeAll xs ys A.in1 s vs.toList vs'.toList _ _ h4 k4 hal (room_in hu) j (by simpa using j1) (by simpa using j2) hj
        simpa using this
      · exact wpAny_truthy_bool hq
end
section
variable {M : Model} {A : Around} {E : Value → Shared → Prop} {s : Shared}
theorem firsts_tups : ∀ (vs : List Value) (ds : List PyData) {Q : List (Option Value) → Shared → Prop}, EachIs (fun v d => ∃ as, Reads s.heap v d as) vs ds → (∀ d ∈ ds, ∃ xs, d = .tuple xs) →
    (∀ fs, fs.length = vs.length → (∀ xs r, ds = .tuple xs :: r → xs = [] → ∃ t, fs = none :: t) → Q fs s) → wpAny M A (vs.mapM firstOfTuple') Q E s
  | [], ds, Q, e, ht, h => by rw [List.mapM_nil]; cases e; exact wpAny_pure (h [] rfl fun xs r q => by cases q)
  | v :: vs, _, Q, .cons (b := d) ⟨as, r⟩ t, ht, h => by
    rw [List.mapM_cons]
    obtain ⟨xs, rfl⟩ := ht d (List.mem_cons_self ..)
    cases r with
    | @tuple a o us n _ _ ho hc hd hr =>
      refine wpAny_bind ?_
      rw [kas_first_eq]
      refine wpAny_bind (Looks.here (show Looks M s.heap (typeOf (.ref a)) o.cls from (Looks.ld ho).andThen .now) ?_)
      rw [hc, if_neg (by first | decide | simp)]
      refine wpAny_bind (listItems_at ho hd (wpAny_pure ?_))
      refine wpAny_bind (firsts_tups vs _ (Q := fun bs s' => wpAny M A (pure (us[0]? :: bs)) Q E s') t (fun d hd => ht d (List.mem_cons_of_mem _ hd)) fun fs hl _ => wpAny_pure (h _ (by simp [hl]) fun ys r q e0 => ?_))
      cases q
      subst e0
      have : us.toList = [] := by
        cases q : us.toList with
        | nil => rfl
        | cons f fr => rw [q] at hr; cases hr
      exact ⟨fs, by rw [show us[0]? = none by rw [← Array.getElem?_toList, this]; rfl]⟩
/-- tuples, the first one empty -/
theorem kind_empty {vs : List Value} {ds : List PyData} {Q : SortKind → Shared → Prop} (h2 : 2 ≤ vs.length) (e : EachIs (fun v d => ∃ as, Reads s.heap v d as) vs ds) (ht : ∀ d ∈ ds, ∃ xs, d = .tuple xs) (h0 : ∃ r, ds = .tuple [] :: r) (h : Q oneType' s) :
    wpAny M A (keyKind' vs.toArray) Q E s := by
  rw [keyKind'_eq, List.mapM_toArray, map_eq_pure_bind]
  refine wpAny_bind (wpAny_bind (firsts_tups vs ds e ht fun fs hl hf => wpAny_pure ?_))
  obtain ⟨r, rfl⟩ := h0
  obtain ⟨t, rfl⟩ := hf [] r rfl rfl
  rw [if_neg (by simp), if_neg (by simp)]
  rw [oneTypeOnly'_eq, List.mapM_toArray, map_eq_pure_bind]
  have hT : ∀ v ∈ vs, Looks M s.heap (typeOf v) (Value.type "tuple") := fun v hv => by
    obtain ⟨d, hd, as, q⟩ := e.left v hv
    obtain ⟨xs, rfl⟩ := ht d hd
    exact looks_reads q
  refine wpAny_bind (wpAny_bind (wpAny_bind (kas_mapM (r := Value.type "tuple") _ (fun v hv Q' hq => (hT v hv).here hq) (wpAny_pure ?_))))
  have hall : ((List.map (fun _ => Value.type "tuple") vs).toArray.all fun x => x == Value.type "tuple") = true := by
    simp only [List.all_toArray, List.all_map, List.all_eq_true]
    intro _ _
    rfl
  have h0 : (List.map (fun _ => Value.type "tuple") vs).toArray[0]? = some (Value.type "tuple") := by
    match vs, h2 with
    | v :: vs, _ => simp
  rw [h0]
  simp only [hall, if_true]
  exact wpAny_pure (wpAny_pure h)
end
section
variable {prog : Program} {w : World} {A : Around} {s : Shared}
def SortableE (ds : List PyData) : Prop := (∀ d ∈ ds, ∃ xs, d = .tuple xs) ∧ ∃ r, ds = .tuple [] :: r
theorem sortsAt_empty {vs : List Value} {ds : List PyData} (e : EachIs (fun v d => ∃ as, Reads s.heap v d as) vs ds) (hal : AllAlike ds) (hk : SortableE ds) (hu : ∀ d, d ∈ ds → A.units + d.depth < cLine) : SortsAt prog w A s (dataKind s.heap ds) vs := by
  have room : ∀ {d d' : PyData}, d ∈ ds → A.units + min d.depth d'.depth < cLine := fun {d d'} hd => Nat.lt_of_le_of_lt (Nat.add_le_add_left (Nat.min_le_left _ _) _) (hu d hd)
  refine ⟨fun v hv => ?_, oneType', ?_, fun h2 E Q hq => kind_empty h2 e hk.1 hk.2 hq⟩
  · obtain ⟨d, hd, as, r⟩ := e.left v hv
    exact ⟨_, dataKind_some hal hd r⟩
  · intro E x y a b Q ha hb hq
    obtain ⟨d, as, hd, ra, rfl⟩ := dataKind_inv ha
    obtain ⟨d', as', hd', rb, rfl⟩ := dataKind_inv hb
    obtain ⟨xs, rfl⟩ := hk.1 d hd
    obtain ⟨ys, rfl⟩ := hk.1 d' hd'
    rw [keyLt'_oneType]
    exact oneLt_tup ra rb (hal _ hd _ hd') (room hd) hq
end
section
variable {prog : Program} {w : World} {A : Around} {E : Value → Shared → Prop} {s : Shared}
theorem collect_tuple {l : Addr} {vs : List Value} {Q : List Value → Shared → Prop} (hl : s.heap.IsTuple l vs.toArray)
    (h : Q vs { s with heap := (s.heap.push (seqObj "list" #[] 0)).update s.heap.objs.size (Obj.mapSeq (· ++ vs.toArray)) }) (hsz : vs.length ≤ sizeLine) :
    wpAny (model prog w) A (collect (.ref l)) Q E s := by
  obtain ⟨o, ho, hc, n, hd⟩ := id hl
  unfold collect
  refine wpAny_bind (wpAny_runValue (codeAny_builtin entry_proto_collect' ?_))
  show wpAny _ _ (do again (.builtin "list.__iadd__" ⟨[← newList [], .ref l], []⟩)) _ _ s
  refine wpAny_bind (wpAny_newList (wpAny_pure ⟨Code.quiet_builtin _ (by decide +kernel), codeAny_builtin entry_list_iadd' ?_⟩))
  show wpAny _ _ (Builtin.List.listExtendWith (.ref s.heap.objs.size) (.ref l) (.ref s.heap.objs.size)) _ _ { s with heap := s.heap.push (seqObj "list" #[] 0) }
  unfold Builtin.List.listExtendWith
  have ho' : (s.heap.push (seqObj "list" #[] 0)).get? l = some o := Heap.get?_push_of_some _ ho
  refine wpAny_bind (wpAny_typeOf (T := "tuple") ⟨o, ho', hc⟩ ?_)
  have ht : (Value.type "tuple" == Value.type "tuple") = true := by rfl
  rw [if_pos (by rw [ht]; simp)]
  refine wpAny_bind (listItems_at ho' hd ?_)
  refine wpAny_bind (listItems_at (xs := #[]) (n := 0) (Heap.get?_push_size _ rfl) rfl ?_)
  rw [if_neg (by simp)]
  refine wpAny_bind (listUpdate_at (xs := #[]) (n := 0) (Heap.get?_push_size _ rfl) rfl ?_ (Nat.zero_le _) (by show (#[] ++ vs.toArray).size ≤ sizeLine + 1; simp only [Array.size_append, List.size_toArray, List.length_nil]; omega))
  refine wpAny_pure ?_
  show wpAny (model prog w) A (do
      let o ← load s.heap.objs.size
      match o.data with
      | .seq xs _ => pure xs.toList
      | _ => unsupported "internal:collect") Q E { s with heap := (s.heap.push (seqObj "list" #[] 0)).update s.heap.objs.size (Obj.mapSeq (· ++ vs.toArray)) }
  refine wpAny_bind (wpAny_load (get?_update_seq (Heap.get?_push_size _ rfl) _) ?_)
  show wpAny _ _ (pure ((#[] : Array Value) ++ vs.toArray).toList) Q E _
  rw [show ((#[] : Array Value) ++ vs.toArray).toList = vs by simp]
  exact wpAny_pure h
theorem sorted_either {l : Addr} {vs : List Value} {κ : PyProof.Rows.KeyKind} {Q : Value → Shared → Prop} (hl : s.heap.IsList l vs.toArray ∨ s.heap.IsTuple l vs.toArray) (S : SortsAt prog w A.in1.in1 { s with heap := sortingHeap (copyHeap s.heap vs) (s.heap.objs.size + 1) vs } κ vs) (hL : vs.length ≤ sizeLine)
    (h : Q (.ref (s.heap.objs.size + 1)) { s with heap := sortedAll s.heap vs (sortVals κ false vs vs).toArray }) : wpAny (model prog w) A (call (.builtin "sorted") [.ref l]) Q E s := by
  rcases hl with hl | hl
  · exact sorted_vals hl S hL h
  · refine PyProof.Rows.call_function_entry_kw kind_sorted plain_sorted entry_sorted (args_sorted1 _) ?_
    unfold Builtin.«sorted»
    refine wpAny_bind (m := checkCount "sorted" 1 1 _) (wpAny_pure ?_)
    refine wpAny_bind (collect_tuple hl ?_ hL)
    refine wpAny_bind (wpAny_newList ?_ hL)
    have hsz : ((s.heap.push (seqObj "list" #[] 0)).update s.heap.objs.size (Obj.mapSeq (· ++ vs.toArray))).objs.size = s.heap.objs.size + 1 := by
      rw [Heap.size_update, size_push']
    show wpAny _ _ _ _ _ { s with heap := copyHeap s.heap vs }
    rw [hsz]
    refine wpAny_bind (wpAny_holding (wpAny_call_entry_kw slot_list_sort ⟨_, copyHeap_at s.heap vs, rfl⟩ entry_list_sort ?body (args_list_sort _)))
    case body =>
      show wpAny (model prog w) A.in1.in1 (Builtin.«list.sort» ⟨[.ref (s.heap.objs.size + 1)], []⟩) _ _ _
      exact list_sort_vals (s := { s with heap := copyHeap s.heap vs }) (copyHeap_at s.heap vs) S hL ⟨_, rfl, wpAny_pure ⟨_, rfl, h⟩⟩
end
section
open L2
variable {X : Cx}
/-- sorted(xs), xs a list or a tuple of data -/
def rSortD (K : PySem.W.Frag) : List V → Hp → VK → Prop := fun xs H Q => ∃ (a : Addr) (vs : List V) (ds : List PyData), xs = [.ref a] ∧ (SqL K H a vs ∨ SqT K H a vs) ∧ DpAll K H vs ds ∧ AllAlike ds ∧ (Sortable ds ∨ SortableE ds) ∧ (∀ d ∈ ds, d.depth ≤ 64) ∧
  ∀ p, H p = none → Q (.ref p) (upd H p (.lst (((vs.zip ds).mergeSort (sortLe (listOrd itemOrd) false fun q : V × PyData => keyToks q.2)).map Prod.fst)))
theorem DpAll.each {pins : List (Addr × Obj)} {σ : L2.St} {H : Hp} {s : Shared} (I : Inv X pins σ H s) : ∀ {ds : List PyData} {vs : List V} {us : List Value}, DpAll X.K H vs ds → Vals vs us → EachIs (fun u (b : V × PyData) => RelV b.1 u ∧ ∃ as, Reads s.heap u b.2 as) us (vs.zip ds)
  | _, _, _, .nil, .nil => .nil
  | _, _, _, .cons h1 h2, .cons r1 r2 => .cons ⟨r1, Dp.reads I _ _ _ h1 r1⟩ (DpAll.each I h2 r2)
theorem each_snd {h : Heap} : ∀ {us : List Value} {bs : List (V × PyData)}, EachIs (fun u (b : V × PyData) => RelV b.1 u ∧ ∃ as, Reads h u b.2 as) us bs → EachIs (fun u d => ∃ as, Reads h u d as) us (bs.map Prod.snd)
  | _, _, .nil => .nil
  | _, _, .cons a b => .cons a.2 (each_snd b)
theorem each_vals {h : Heap} : ∀ {us : List Value} {bs : List (V × PyData)}, EachIs (fun u (b : V × PyData) => RelV b.1 u ∧ ∃ as, Reads h u b.2 as) us bs → Vals (bs.map Prod.fst) us
  | _, _, .nil => .nil
  | _, _, .cons a b => .cons a.1 (each_vals b)
theorem DpAll.len {K : PySem.W.Frag} {H : Hp} : ∀ {ds : List PyData} {vs : List V}, DpAll K H vs ds → vs.length = ds.length
  | _, _, .nil => rfl
  | _, _, .cons _ h => by simp [DpAll.len h]
theorem cr_sortedData (hu : X.A.units + 70 < cLine) : CallR X (.builtin "sorted") (rSortD X.K) := by
  intro pins s σ H xs us Q I r h
  obtain ⟨a, vs, ds, rfl, hs, hd, hal, hk, hdep, q⟩ := h
  rw [Vals.ref1 r]
  have hlen := DpAll.len hd
  have seq : ∃ its : List Value, Vals vs its ∧ (s.heap.IsList a its.toArray ∨ s.heap.IsTuple a its.toArray) ∧ its.length ≤ sizeLine := by
    rcases hs with hs | hs
    · obtain ⟨its, rv, hl, hz⟩ := I.list hs
      exact ⟨its, rv, .inl hl.isList, by rw [← rv.length]; exact hz⟩
    · obtain ⟨its, rv, hl, hz⟩ := I.tuple hs
      exact ⟨its, rv, .inr hl, by rw [← rv.length]; exact hz⟩
  obtain ⟨its, rv, hl, hz⟩ := seq
  have e0 := DpAll.each I hd rv
  have zs : (vs.zip ds).map Prod.snd = ds := List.map_snd_zip (by omega)
  let h2 := sortingHeap (copyHeap s.heap its) (s.heap.objs.size + 1) its
  have e2 : EachIs (fun u (b : V × PyData) => RelV b.1 u ∧ ∃ as, Reads h2 u b.2 as) its (vs.zip ds) :=
    e0.mono fun u b z => ⟨z.1, z.2.elim fun as q => ⟨as, Reads.keeps (fun b o e => sorting_copy_old e) q⟩⟩
  have e3 := each_snd e2
  rw [zs] at e3
  have S : SortsAt X.prog X.w X.A.in1.in1 { s with heap := h2 } (dataKind h2 ds) its := by
    have hu' : ∀ d, d ∈ ds → X.A.in1.in1.units + d.depth < cLine := fun d hd => by
      have := hdep d hd
      have : X.A.in1.in1.units ≤ X.A.units + 2 := by first | exact Nat.le_refl _ | (show X.A.units + 1 + 1 ≤ _; omega) | simp [Around.in1]
      omega
    rcases hk with hk | hk
    · exact SortsAt.data (s := { s with heap := h2 }) e3 hal hk hu'
    · exact sortsAt_empty (s := { s with heap := h2 }) e3 hal hk hu'
  refine sorted_either hl S hz ?_
  have ek : EachIs (fun v (b : V × PyData) => (dataKind h2 ds).keyOf v = some (keyToks b.2)) its (vs.zip ds) := by
    have : ∀ {us : List Value} {bs : List (V × PyData)}, (∀ b ∈ bs, b.2 ∈ ds) → EachIs (fun u (b : V × PyData) => RelV b.1 u ∧ ∃ as, Reads h2 u b.2 as) us bs → EachIs (fun v (b : V × PyData) => (dataKind h2 ds).keyOf v = some (keyToks b.2)) us bs := by
      intro us bs hb e
      induction e with
      | nil => exact .nil
      | cons a b ih =>
        obtain ⟨_, as, q⟩ := a
        exact .cons (dataKind_some hal (hb _ List.mem_cons_self) q) (ih fun b hb' => hb b (List.mem_cons_of_mem _ hb'))
    exact this (fun b hb => (List.of_mem_zip hb).2) e2
  have es := sortVals_each (κ := dataKind h2 ds) (rev := false) (fun b : V × PyData => keyToks b.2) e0 ek
  have ev := each_vals es
  obtain ⟨ep, he'⟩ := PyProof.Rows.sortedAll_at s.heap its (sortVals (dataKind h2 ds) false its its).toArray
  have hlen2 : (((vs.zip ds).mergeSort (sortLe (listOrd itemOrd) false fun q : V × PyData => keyToks q.2)).map Prod.fst).length ≤ sizeLine := by
    rw [List.length_map, (List.mergeSort_perm _ _).length_eq, List.length_zip]
    have := rv.length
    omega
  exact ⟨.ref _, upd H (s.heap.objs.size + 1) (.lst _), I.laid (t' := s.toks) (fun _ _ => PyProof.Rows.sortedAll_old) (Nat.le_succ _) ⟨hlen2, _, ep, ev, by simpa using he'⟩, rfl, q _ (I.hok.fresh (Nat.le_succ _))⟩
end
end Ev


set_option Elab.async false
set_option linter.all false
set_option maxRecDepth 100000
set_option maxHeartbeats 4000000
/-! EvW: len(set(..)) of lists and tuples of data. -/
namespace L2
open PySem PySem.Spec PyProof.Rows
section
variable {P : Program} {w : World} {A : Around} {E : Value → Shared → Prop} {s : Shared}
theorem call_set_tupsT {l : Addr} {items : Array Value} (ks : List (Addr × List Int)) {Q : Value → Shared → Prop} (hh : A.handled = none) (hl : s.heap.IsTuple l items) (hit : items.toList = ks.map fun p => Value.ref p.1)
    (hk : ∀ p ∈ ks, IsT P w s.heap p.2 p.1) (hfew : ks.length < 64) (hu : A.units + 3 < cLine)
    (h : ∀ (h' : Heap) (tk : Nat) L es ep t, SetTR P w h' s.heap.objs.size L es ep t → Got ks ks.length L → (∀ b o, s.heap.get? b = some o → h'.get? b = some o) → Q (.ref s.heap.objs.size) { s with heap := h', toks := tk }) :
    wpAny (model P w) A (call (.type "set") [.ref l]) Q E s := by
  have hisz : items.size = ks.length := by
    have q := congrArg List.length hit
    rw [Array.length_toList, List.length_map] at q
    exact q
  obtain ⟨c, tl, hmro⟩ := F.called_set.mro
  have hmade := F.called_set.made
  have hsub := F.called_set.sub
  refine wpAny_call (codeAny_of_tree ?_)
  show wpAny _ _ (callAny (.type "set") _) _ _ _
  refine wpAny_pure ⟨Code.quiet_builtin _ (by decide +kernel), codeAny_builtin F.entry_type_call ?_⟩
  rw [Around.under_plain (weight_type_call_type "set" [.ref l] []) rfl]
  have h1 := F.called_set.notType
  have h2 := F.called_set.canCreate
  have hct := F.typeCall_set_1 (.ref l)
  repeat (any_goals (first | assumption | wp_step))

  refine codeAny_mono (code_set_led1 (.ref l) (E := E) (Q₁ := fun obj s₁ => obj = .ref s.heap.objs.size ∧ s₁ = { s with heap := s.heap.push { cls := .type "set", dict := none, data := .set #[] 0 (.fresh 0 0 (!w.params.followText "set-order")) } }) ⟨rfl, rfl⟩) fun r s₁ hr => ?_
  cases r with
  | error e => exact hr
  | ok fl =>
    cases fl with
    | ret obj =>
      obtain ⟨rfl, rfl⟩ := hr
      have hS : (s.heap.push { cls := .type "set", dict := none, data := .set #[] 0 (.fresh 0 0 (!w.params.followText "set-order")) }).get? s.heap.objs.size = some { cls := .type "set", dict := none, data := .set #[] 0 (.fresh 0 0 (!w.params.followText "set-order")) } := Heap.get?_push_size _ rfl
      have hT : Shared.TypeIs { s with heap := s.heap.push { cls := .type "set", dict := none, data := .set #[] 0 (.fresh 0 0 (!w.params.followText "set-order")) } } (.ref s.heap.objs.size) "set" := ⟨_, hS, rfl⟩
      have hli := F.called_set.init.lookup
      have hbi := F.called_set.init.bind (.ref s.heap.objs.size)
      repeat (any_goals (first | assumption | wp_step))

      refine codeAny_mono (codeAny_call_builtin (R := wants (fun r s₂ => r = .none ∧ ∃ h' tk L es ep t, s₂ = { s with heap := h', toks := tk } ∧ SetTR P w h' s.heap.objs.size L es ep t ∧ Got ks ks.length L ∧
          (∀ b o, s.heap.get? b = some o → h'.get? b = some o)) E) F.called_set.init.plain F.entry_set_init (check_set_init_1 hT ?_)) fun r₂ s₂ hr₂ => ?_
      · obtain ⟨ol, hol, hcl, nl, hdl⟩ := hl
        obtain ⟨ocls, odict, odata, oslots⟩ := ol
        simp only at hcl hdl
        subst hcl; subst hdl
        have hol' : (s.heap.push { cls := .type "set", dict := none, data := .set #[] 0 (.fresh 0 0 (!w.params.followText "set-order")) }).get? l = some { cls := .type "tuple", dict := odict, data := .seq items nl, slots := oslots } := Heap.get?_push_of_some _ hol
        have hsls := F.sub_tuple_set
        have hslf := F.sub_tuple_frozenset
        have hne : (Value.type "tuple" == Value.type "dict") = false := by decide
        have hl1 : (s.heap.push { cls := .type "set", dict := none, data := .set #[] 0 (.fresh 0 0 (!w.params.followText "set-order")) }).IsTuple l items := ⟨_, hol', rfl, nl, rfl⟩
        unfold Builtin.«set.__init__» noKeywords Builtin.Frozenset.updateFrom
        generalize hPI : pyIter = PI
        wp_walk
        subst hPI

        refine wpAny_pyIter_tuple hl1 ?_
        refine wpAny_bind (wpAny_runValue ?_)
        have hlS : l < s.heap.objs.size := Heap.lt_size hol
        have hh3 : A.in1.in1.in1.handled = none := by simp [hh]
        have hz1 : (s.heap.push { cls := .type "set", dict := none, data := .set #[] 0 (.fresh 0 0 (!w.params.followText "set-order")) }).objs.size = s.heap.objs.size + 1 := Heap.size_push ..
        have hneI : l ≠ (s.heap.push { cls := .type "set", dict := none, data := .set #[] 0 (.fresh 0 0 (!w.params.followText "set-order")) }).objs.size := by
          rw [Heap.size_push]; exact Nat.ne_of_lt (Nat.lt_succ_of_lt hlS)
        have hSf : s.heap.objs.size ∉ [(s.heap.push { cls := .type "set", dict := none, data := .set #[] 0 (.fresh 0 0 (!w.params.followText "set-order")) }).objs.size, l] := by
          rw [Heap.size_push]; simp only [List.mem_cons, List.mem_singleton, List.not_mem_nil, or_false, not_or]
          exact ⟨Nat.ne_of_lt (Nat.lt_succ_self _), Nat.ne_of_gt hlS⟩
        have hval : ∀ (i : Nat) (v : Value), items[i]? = some v → ∃ p, ks[i]? = some p ∧ v = .ref p.1 := fun i v hv => by
          have q : items.toList[i]? = some v := by rw [Array.getElem?_toList]; exact hv
          rw [hit, List.getElem?_map] at q
          cases hq : ks[i]? with
          | none => rw [hq] at q; cases q
          | some p =>
            rw [hq] at q
            exact ⟨p, rfl, (Option.some.inj q).symm⟩
        have none_of : ∀ b, s.heap.objs.size ≤ b → s.heap.get? b = none := fun b hb => by
          cases q : s.heap.get? b with
          | none => rfl
          | some o => exact absurd (Nat.lt_of_lt_of_le (Heap.lt_size q) hb) (Nat.lt_irrefl _)
        refine set_update_tups ((Walks.tuple hh3 _ l hneI items).toS) s.heap.objs.size
          hSf ks hisz hfew hval s.heap hk (none_of _ (Nat.le_refl _)) (fun b hb => none_of b (by
            rw [List.mem_singleton.mp hb, Heap.size_push]
            exact Nat.le_succ _)) hu (items.size - 0) 0 _ (by omega) (Nat.zero_le _)
          ⟨⟨_, Heap.get?_push_size _ rfl, rfl, rfl⟩, (hl1.push _)⟩ (fun b o e => Heap.get?_push_of_some _ (Heap.get?_push_of_some _ e)) ?hS0 ?hR
        case hS0 =>
          have hget : ((s.heap.push { cls := .type "set", dict := none, data := .set #[] 0 (.fresh 0 0 (!w.params.followText "set-order")) }).push { cls := .type "tuple_iterator", data := .fields #[.ref l, .int 0 0] }).get? s.heap.objs.size
              = some { cls := .type "set", dict := none, data := .set #[] 0 (.fresh 0 0 (!w.params.followText "set-order")) } := Heap.get?_push_of_some _ hS
          exact ⟨[], #[], 0, _, setTR_fresh hget, Got.zero ks⟩
        case hR =>
          intro s' L es ep t hm hS' g' hkp
          obtain ⟨h', g2, d', tk', os'⟩ := s'
          have eg : g2 = s.gens := hm.gens
          have ed : d' = s.drawn := hm.drawn
          have eo : os' = s.os := hm.os
          subst eg; subst ed; subst eo
          show wpAny _ _ _ _ _ _
          refine wpAny_pure ?_
          show wpAny _ _ (ret Value.none) _ _ _
          rw [hisz] at g'
          exact wpAny_pure ⟨rfl, h', tk', L, es, ep, t, rfl, hS', g', hkp⟩

      · cases r₂ with
        | error e => exact hr₂
        | ok fl₂ =>
          cases fl₂ with
          | ret r =>
            obtain ⟨rfl, h', tk, L, es, ep, t, rfl, hS', g', hk'⟩ := hr₂
            repeat (any_goals (first | assumption | wp_step))
            exact h _ _ _ _ _ _ hS' g' hk'
          | _ => exact hr₂.elim
    | _ => exact hr.elim

/-- len(set(xs)), xs a list or a tuple of tuples of ints -/
def rLenSetT (K : PySem.W.Frag) : V → Hp → VK → Prop := fun x H Q => ∃ (l : Addr) (ks : List (Addr × List Int)), x = V.ref l ∧ (SqL K H l (ks.map fun p => V.ref p.1) ∨ SqT K H l (ks.map fun p => V.ref p.1)) ∧ (∀ p ∈ ks, SqT K H p.1 (p.2.map V.int)) ∧ ks.length < 64 ∧
  ∀ L : List (List Int), L.Nodup → (∀ k ∈ L, k ∈ ks.map (·.2)) → (∀ p ∈ ks, p.2 ∈ L) → Q (.int L.length) H
def tLenSetT (K : PySem.W.Frag) (ta : TE) : TE := fun σ H Q => ta σ H fun x H1 => rLenSetT K x H1 Q
end
section
variable {X : Cx}
theorem pe_lenSetT {a : Expr} {ta : TE} {p p2 q pos : Pos} (hc : X.calm = true) (hu : X.A.units + 64 < cLine) (hg : Gl X "len") (hm : X.mg "len" = none) (hg2 : Gl X "set") (hm2 : X.mg "set" = none) (ha : PE X a ta)
    (na : starEach [a] X.env = (false, eval a X.env) :: starEach [] X.env) : PE X (.Call (.Name "len" p) [.Call (.Name "set" p2) [a] [] q] [] pos) (tLenSetT X.K ta) := by
  refine ⟨fun pins s σ H Q I h => ?_⟩
  refine Call_ (ld_blt I hg hm boot_len ?_)
  refine PyProof.Rows.callWith_builtin1 (PyProof.Rows.args_cons ?_ rfl) rfl rfl
  refine Call_ (ld_blt I hg2 hm2 boot_set ?_)
  refine PyProof.Rows.callWith_type1 (PyProof.Rows.args_cons (thn (ha.run pins s σ H _ I h) fun v s1 ⟨x, H1, I1, r1, q1⟩ => PyProof.Rows.args_nil ?_) na) na rfl
  obtain ⟨l, ks, rfl, hq, hk, hf, q1⟩ := q1
  cases r1
  have fin : ∀ (h' : Heap) (tk : Nat) L es ep t, SetTR X.prog X.w h' s1.heap.objs.size L es ep t → Got ks ks.length L → (∀ b o, s1.heap.get? b = some o → h'.get? b = some o) →
      wpAny (model X.prog X.w) X.A (spliced (backTo pos (starEach [] X.env))) (fun vs s₂ => wpAny (model X.prog X.w) X.A (call (.builtin "len") (Value.ref s1.heap.objs.size :: vs)) (EP X pins σ Q) X.xe s₂) X.xe { s1 with heap := h', toks := tk } := by
    intro h' tk L es ep t R g k
    refine PyProof.Rows.args_nil ?_
    have I2 : Inv X pins σ H1 { s1 with heap := h', toks := tk } := I1.kept k
    obtain ⟨o, ho, hex, hd⟩ := R.ob
    have hsz : es.size = L.length := by
      have := congrArg List.length R.rows
      rw [Array.length_toList] at this
      rw [this]
      unfold rowsOf
      simp
    refine call_len_set ho hex hd (SetTR.fits (s := { s1 with heap := h', toks := tk }) R) (by rw [hsz]; have := R.few; omega) ⟨.int L.length, H1, I2.tok _, ⟨_, by rw [hsz]⟩, ?_⟩
    have := q1 (L.map (·.2)) R.nd (fun k hk => by
      obtain ⟨p, hp, rfl⟩ := List.mem_map.mp hk
      exact List.mem_map.mpr ⟨p, List.mem_of_mem_take (g.sub p hp), rfl⟩) (fun p hp => g.all p (by rw [List.take_length]; exact hp))
    rw [List.length_map] at this
    exact this
  rcases hq with hq | hq
  · obtain ⟨its, rv, pl, hz⟩ := I1.list hq
    exact call_set_tups (P := X.prog) (w := X.w) ks (I1.ok.hd hc) pl.isList (by simpa using refs_of_vals rv) (fun p hp => I1.isT (hk p hp)) hf (by omega) fun h' tk L es ep t R g k => fin h' tk L es ep t R g k
  · obtain ⟨its, rv, pl, hz⟩ := I1.tuple hq
    exact call_set_tupsT (P := X.prog) (w := X.w) ks (I1.ok.hd hc) pl (by simpa using refs_of_vals rv) (fun p hp => I1.isT (hk p hp)) hf (by omega) fun h' tk L es ep t R g k => fin h' tk L es ep t R g k
end
end L2


set_option Elab.async false
set_option linter.all false
set_option maxRecDepth 100000
set_option maxHeartbeats 4000000
/-! EvK2: the sorted list as plain data. -/
namespace Ev
open PySem PySem.W PyProof.Rows

section
variable {α : Type} {le : α → α → Bool}
theorem insBy_mem {x : α} : ∀ {l : List α} {y : α}, y ∈ insBy le x l → y = x ∨ y ∈ l
  | [], y, h => by simpa [insBy] using h
  | z :: r, y, h => by
    unfold insBy at h
    split at h
    · simpa using h
    · rcases List.mem_cons.mp h with h | h
      · exact .inr (by rw [h]; exact List.mem_cons_self)
      · rcases insBy_mem h with h | h
        · exact .inl h
        · exact .inr (List.mem_cons_of_mem _ h)
theorem insBy_pw (T : TotalLe le) (x : α) : ∀ {l : List α}, l.Pairwise (fun a b => le a b = true) → (insBy le x l).Pairwise (fun a b => le a b = true)
  | [], _ => by simp [insBy]
  | y :: r, h => by
    unfold insBy
    have h' := List.pairwise_cons.mp h
    split
    · rename_i q
      refine List.pairwise_cons.mpr ⟨fun z hz => ?_, h⟩
      rcases List.mem_cons.mp hz with e | hz
      · rw [e]; exact q
      · exact T.trans _ _ _ q (h'.1 z hz)
    · rename_i q
      refine List.pairwise_cons.mpr ⟨fun z hz => ?_, insBy_pw T x h'.2⟩
      rcases insBy_mem hz with e | hz
      · rw [e]
        rcases T.total y x with z | z
        · exact z
        · exact absurd z q
      · exact h'.1 z hz
theorem insBy_filter (T : TotalLe le) (x c : α) : ∀ l : List α, (insBy le x l).filter (sameRank le c) = (x :: l).filter (sameRank le c)
  | [] => rfl
  | y :: r => by
    unfold insBy
    split
    · rfl
    · rename_i q
      rw [List.filter_cons, insBy_filter T x c r]
      by_cases h1 : sameRank le c x = true
      · by_cases h2 : sameRank le c y = true
        · unfold sameRank at h1 h2
          simp only [Bool.and_eq_true] at h1 h2
          exact absurd (T.trans _ _ _ h1.2 h2.1) q
        · simp [List.filter_cons, h1, h2]
      · simp [List.filter_cons, h1]
theorem sortBy_pw (T : TotalLe le) : ∀ l : List α, (sortBy le l).Pairwise (fun a b => le a b = true)
  | [] => .nil
  | x :: r => insBy_pw T x (sortBy_pw T r)
theorem sortBy_filter (T : TotalLe le) (c : α) : ∀ l : List α, (sortBy le l).filter (sameRank le c) = l.filter (sameRank le c)
  | [] => rfl
  | x :: r => by
    unfold sortBy
    rw [insBy_filter T, List.filter_cons, sortBy_filter T c r, List.filter_cons]
theorem sortBy_is (T : TotalLe le) (l : List α) : l.mergeSort le = sortBy le l := (sort_unique T (sortBy_pw T l) fun c => sortBy_filter T c l).symm
end

def pI (i : Int) : PyData := .int i
def p1 (l : List Int) : PyData := .tuple (l.map pI)
def p2 (l : List (List Int)) : PyData := .tuple (l.map p1)
theorem pyL_map {α : Type} (f : α → D) (g : α → PyData) (h : ∀ a, (f a).py = g a) : ∀ l : List α, pyL (l.map f) = l.map g
  | [] => rfl
  | a :: r => by simp only [List.map_cons, pyL, h a, pyL_map f g h r]
theorem t1_py (l : List Int) : (t1 l).py = p1 l := by
  unfold t1 p1
  simp only [D.py]
  rw [pyL_map .int pI fun _ => rfl]
theorem t2_py (l : List (List Int)) : (t2 l).py = p2 l := by
  unfold t2 p2
  simp only [D.py]
  rw [pyL_map t1 p1 t1_py]
theorem okL_map {α : Type} (f : α → D) (n : Nat) (h : ∀ a, (f a).ok n = true) : ∀ l : List α, okL (l.map f) n = true
  | [] => rfl
  | a :: r => by simp only [List.map_cons, okL, h a, okL_map f n h r, Bool.and_true]
theorem t1_ok (l : List Int) : (t1 l).ok 1 = true := by unfold t1; simp only [D.ok]; exact okL_map _ 0 (fun _ => rfl) l
theorem t2_ok (l : List (List Int)) : (t2 l).ok 2 = true := by unfold t2; simp only [D.ok]; exact okL_map _ 1 t1_ok l
theorem p1_depth (l : List Int) : (p1 l).depth ≤ 1 := by have := (D.ok_lay _ _ (t1_ok l)).2; rwa [t1_py] at this
theorem p2_depth (l : List (List Int)) : (p2 l).depth ≤ 2 := by have := (D.ok_lay _ _ (t2_ok l)).2; rwa [t2_py] at this

theorem alikeAll_map {α : Type} (g : α → PyData) (h : ∀ a b, alike (g a) (g b) = true) : ∀ l m : List α, alikeAll (l.map g) (m.map g) = true
  | [], m => by cases m <;> rfl
  | a :: r, [] => rfl
  | a :: r, b :: s => by
    simp only [List.map_cons, alikeAll, h a b, Bool.true_and]
    exact alikeAll_map g h r s
theorem p1_alike (l m : List Int) : alike (p1 l) (p1 m) = true := by unfold p1; simp only [alike]; exact alikeAll_map pI (fun _ _ => rfl) l m
theorem p2_alike (l m : List (List Int)) : alike (p2 l) (p2 m) = true := by unfold p2; simp only [alike]; exact alikeAll_map p1 p1_alike l m

def lexG {α : Type} [DecidableEq α] (lt : α → α → Bool) : List α → List α → Bool
  | [], [] => false
  | [], _ :: _ => true
  | _ :: _, [] => false
  | x :: xs, y :: ys => if x = y then lexG lt xs ys else lt x y
theorem lexLt_g : ∀ a b : List Int, lexLt a b = lexG (fun x y => decide (x < y)) a b
  | [], [] => rfl
  | [], _ :: _ => rfl
  | _ :: _, [] => rfl
  | x :: xs, y :: ys => by unfold lexLt lexG; rw [lexLt_g xs ys]
theorem lex2_g : ∀ a b : List (List Int), lex2 a b = lexG lexLt a b
  | [], [] => rfl
  | [], _ :: _ => rfl
  | _ :: _, [] => rfl
  | x :: xs, y :: ys => by unfold lex2 lexG; rw [lex2_g xs ys]
theorem dataLt_map {α : Type} [DecidableEq α] (g : α → PyData) (lt : α → α → Bool) (ha : ∀ a b, alike (g a) (g b) = true) (he : ∀ a b, PyData.eqv (g a) (g b) = decide (a = b)) (hl : ∀ a b, dataLt (g a) (g b) = lt a b) :
    ∀ l m : List α, PyProof.Rows.lexLt itemOrd (keyToksAll (l.map g)) (keyToksAll (m.map g)) = lexG lt l m
  | [], [] => by simp only [List.map_nil, lexG]; exact PyProof.Rows.lex_irrefl (O := itemOrd) _
  | [], b :: s => by
    simp only [List.map_nil, List.map_cons, lexG, keyToksAll]
    rfl
  | a :: r, [] => by
    simp only [List.map_nil, List.map_cons, lexG, keyToksAll]
    rfl
  | a :: r, b :: s => by
    simp only [List.map_cons, lexG]
    by_cases q : a = b
    · rw [if_pos q, dataLt_all_yes (ha a b) (by rw [he]; exact decide_eq_true q)]
      exact dataLt_map g lt ha he hl r s
    · rw [if_neg q, dataLt_all_no (ha a b) (by rw [he]; exact decide_eq_false q)]
      exact hl a b
theorem eqvAll_map {α : Type} [DecidableEq α] (g : α → PyData) (he : ∀ a b, PyData.eqv (g a) (g b) = decide (a = b)) : ∀ l m : List α, PyData.eqvAll (l.map g) (m.map g) = decide (l = m)
  | [], [] => rfl
  | [], _ :: _ => by simp [PyData.eqvAll]
  | _ :: _, [] => by simp [PyData.eqvAll]
  | a :: r, b :: s => by
    simp only [List.map_cons, PyData.eqvAll, he a b, eqvAll_map g he r s]
    by_cases q : a = b
    · subst q; simp
    · simp [q]
theorem pI_eqv (a b : Int) : PyData.eqv (pI a) (pI b) = decide (a = b) := by unfold pI; simp only [PyData.eqv]; rfl
theorem p1_eqv (a b : List Int) : PyData.eqv (p1 a) (p1 b) = decide (a = b) := by unfold p1; simp only [PyData.eqv]; exact eqvAll_map pI pI_eqv a b
theorem pI_lt (a b : Int) : dataLt (pI a) (pI b) = decide (a < b) := dataLt_int a b
theorem p1_lt (a b : List Int) : dataLt (p1 a) (p1 b) = lexLt a b := by
  unfold p1
  rw [dataLt_tuple, lexLt_g]
  exact dataLt_map pI _ (fun _ _ => rfl) pI_eqv pI_lt a b
theorem p2_lt (a b : List (List Int)) : dataLt (p2 a) (p2 b) = lex2 a b := by
  unfold p2
  rw [dataLt_tuple, lex2_g]
  exact dataLt_map p1 _ p1_alike p1_eqv p1_lt a b

section
open L2
variable {W : Wr} {κ : List Addr} {G : Hp}
theorem RpL.ofEach {β : Type} {f : β → D} {emb : β → PyData} : ∀ {ps : List (V × PyData)} {bs : List β}, EachIs (fun (p : V × PyData) b => p.2 = emb b ∧ Rp W κ G p.1 (f b)) ps bs → RpL W κ G (ps.map Prod.fst) (bs.map f)
  | _, _, .nil => .nil
  | _, _, .cons a b => .cons a.2 (RpL.ofEach b)
theorem RpL.each {β : Type} {f : β → D} {emb : β → PyData} : ∀ {bs : List β} {vs : List V}, RpL W κ G vs (bs.map f) → EachIs (fun (p : V × PyData) b => p.2 = emb b ∧ Rp W κ G p.1 (f b)) (vs.zip (bs.map emb)) bs
  | [], _, .nil => .nil
  | b :: bs, _, .cons a r => .cons ⟨rfl, a⟩ (RpL.each r)
/-- the values sorted by what they stand for -/
theorem RpL.sort {β : Type} {f : β → D} {emb : β → PyData} {le : β → β → Bool} {bs : List β} {vs : List V} (hle : ∀ a b, (!dataLt (emb b) (emb a)) = le a b) (r : RpL W κ G vs (bs.map f)) :
    RpL W κ G (((vs.zip (bs.map emb)).mergeSort (sortLe (listOrd itemOrd) false fun q : V × PyData => keyToks q.2)).map Prod.fst) ((sortBy le bs).map f) := by
  have e := sort_each (r := sortLe (listOrd itemOrd) false fun q : V × PyData => keyToks q.2) (s := sortLe (listOrd itemOrd) false fun b : β => keyToks (emb b)) (RpL.each (emb := emb) r) fun p hp q hq => by
    have h1 := ((RpL.each (emb := emb) r).zip p hp).1
    have h2 := ((RpL.each (emb := emb) r).zip q hq).1
    unfold sortLe
    dsimp only
    rw [h1, h2]
  have e2 : (sortLe (listOrd itemOrd) false fun b : β => keyToks (emb b)) = le := by
    funext a b
    exact hle a b
  rw [sortBy_is (sortLe_total (listOrd itemOrd) false fun b : β => keyToks (emb b)), e2] at e
  exact RpL.ofEach e
end

theorem intsOf_map : ∀ {l : List D} {is : List Int}, intsOf l = some is → l = is.map .int
  | [], _, h => by cases h; rfl
  | d :: r, _, h => by
    cases d <;> simp only [intsOf] at h <;> try contradiction
    cases e : intsOf r with
    | none => rw [e] at h; cases h
    | some js => rw [e] at h; cases h; rw [intsOf_map e]; rfl
theorem int1_t {d : D} {i : List Int} (h : int1 d = some i) : d = t1 i := by
  cases d <;> simp only [int1] at h <;> try contradiction
  unfold t1; rw [intsOf_map h]
theorem ints1_map : ∀ {l : List D} {is : List (List Int)}, ints1 l = some is → l = is.map t1
  | [], _, h => by cases h; rfl
  | d :: r, _, h => by
    unfold ints1 at h
    cases e1 : int1 d with
    | none => rw [e1] at h; cases h
    | some i =>
      rw [e1] at h
      cases e : ints1 r with
      | none => rw [e] at h; cases h
      | some js => rw [e] at h; cases h; rw [ints1_map e, int1_t e1]; rfl
theorem int2_t {d : D} {i : List (List Int)} (h : int2 d = some i) : d = t2 i := by
  cases d <;> simp only [int2] at h <;> try contradiction
  unfold t2; rw [ints1_map h]
theorem ints2_map : ∀ {l : List D} {is : List (List (List Int))}, ints2 l = some is → l = is.map t2
  | [], _, h => by cases h; rfl
  | d :: r, _, h => by
    unfold ints2 at h
    cases e1 : int2 d with
    | none => rw [e1] at h; cases h
    | some i =>
      rw [e1] at h
      cases e : ints2 r with
      | none => rw [e] at h; cases h
      | some js => rw [e] at h; cases h; rw [ints2_map e, int2_t e1]; rfl

theorem unlike_nodup : ∀ l : List (List Int), (unlike l).Nodup
  | [] => .nil
  | k :: r => by
    unfold unlike
    split
    · exact unlike_nodup r
    · rename_i q
      refine List.nodup_cons.mpr ⟨fun h => q ?_, unlike_nodup r⟩
      exact List.any_eq_true.mpr ⟨k, h, decide_eq_true rfl⟩
theorem unlike_mem : ∀ (l : List (List Int)) (k : List Int), k ∈ unlike l ↔ k ∈ l
  | [], k => Iff.rfl
  | x :: r, k => by
    unfold unlike
    split
    · rename_i q
      obtain ⟨e, he, q⟩ := List.any_eq_true.mp q
      have q := of_decide_eq_true q
      rw [unlike_mem r k, List.mem_cons]
      refine ⟨fun h => .inr h, fun h => h.elim (fun h => ?_) id⟩
      rw [h, ← q]; exact (unlike_mem r e).mp he
    · rw [List.mem_cons, List.mem_cons, unlike_mem r k]
end Ev


set_option Elab.async false
set_option linter.all false
set_option maxRecDepth 100000
set_option maxHeartbeats 4000000
/-! EvJ: sum(xs, []): lists one behind another. -/
namespace Ev
open PySem PySem.Spec PyProof.Rows
/-- a plain list object -/
def IsL0 (h : Heap) (l : Addr) (items : Array Value) (n : Nat) : Prop := h.get? l = some { cls := .type "list", dict := none, data := .seq items n, slots := #[] }
/-- the first n lists in a row -/
def preCat (val : Nat → List Value) : Nat → List Value
  | 0 => []
  | j + 1 => preCat val j ++ val j
theorem preCat_le (val : Nat → List Value) : ∀ {i n : Nat}, i ≤ n → (preCat val i).length ≤ (preCat val n).length
  | i, 0, h => by rw [Nat.le_zero.mp h]; exact Nat.le_refl _
  | i, n + 1, h => by
    rcases Nat.lt_or_ge n i with q | q
    · rw [show i = n + 1 by omega]; exact Nat.le_refl _
    · refine Nat.le_trans (preCat_le val q) ?_
      show _ ≤ (preCat val n ++ val n).length
      rw [List.length_append]; omega
section
variable {prog : Program} {w : World} {A : Around} {R : Result → Shared → Prop} {I ax : Addr}
theorem sum_loop_lists (hh : A.in1.handled = none) (hne : ax ≠ I) (items : Array Value) (val : Nat → List Value) (h0 : Heap) (hval : ∀ i v, items[i]? = some v → ∃ a n, v = .ref a ∧ IsL0 h0 a (val i).toArray n)
    (hI : h0.get? I = none) (S : Addr) (hSf : S ∉ [I, ax]) (hS0 : h0.get? S = none) (hsz : (preCat val items.size).length ≤ sizeLine) :
    ∀ (k i : Nat) (s : Shared) (a c n : Nat), items.size - i = k → i ≤ items.size → (s.heap.IsListIter I ax i ∧ s.heap.IsList ax items) → (∀ b o, h0.get? b = some o → s.heap.get? b = some o) →
    IsL0 s.heap a (preCat val i).toArray n → a ≠ I → a ≠ S → s.heap.get? S = some { cls := .type "list", dict := none, data := .seq #[.ref a] c, slots := #[] } →
    (∀ h' tk a' n', (∀ b o, h0.get? b = some o → h'.get? b = some o) → IsL0 h' a' (preCat val items.size).toArray n' → (i = items.size → a' = a) → (i ≠ items.size → S < a') → R (.ok (.ret (.ref a'))) { s with heap := h', toks := tk }) →
    codeAny (model prog w) A (.builtin "sum.loop" ⟨[.ref I, .ref S, rawInt 2, rawInt 0], []⟩) R s := by
  have W := Walks.list (prog := prog) (w := w) hh I ax hne items
  have hSI : S ≠ I := fun e => hSf (by rw [e]; simp)
  have hSx : S ≠ ax := fun e => hSf (by rw [e]; simp)
  intro k
  induction k with
  | zero =>
    intro i s a c n hk hi hst hkp hA haI haS hS hR
    have hin : i = items.size := by omega
    subst hin
    refine codeAny_builtin F.entry_sum_loop ?_
    rw [Around.under_plainId F.plain_sum_loop _]
    show wpAny _ A.in1 (seqItems? (.ref S) >>= _) _ _ s
    refine wpAny_bind (wpAny_seqItems hS rfl ?_)
    show wpAny _ A.in1 (tryCatch (pyNext (.ref I)) _ >>= _) _ _ s
    refine wpAny_bind (wpAny_tryCatch (W.done s _ _ hst fun h' tk hk' => ?_))
    refine wpAny_pure (hR h' tk a n (fun b o e => hk' b o (fun hm => ?_) (hkp b o e)) (hk' a _ (by simpa using haI) hA) (fun _ => rfl) fun q => absurd rfl q)
    rw [List.mem_singleton.mp hm, hI] at e; cases e
  | succ k ih =>
    intro i s a c n hk hi hst hkp hA haI haS hS hR
    have hlt : i < items.size := by omega
    refine codeAny_builtin F.entry_sum_loop ?_
    rw [Around.under_plainId F.plain_sum_loop _]
    show wpAny _ A.in1 (seqItems? (.ref S) >>= _) _ _ s
    refine wpAny_bind (wpAny_seqItems hS rfl ?_)
    show wpAny _ A.in1 (tryCatch (pyNext (.ref I)) _ >>= _) _ _ s
    refine wpAny_bind (wpAny_tryCatch (W.item i s _ _ hlt hst fun v h' tk hP hst' hk' => ?_))
    obtain ⟨b, m, rfl, hb⟩ := hval i v hP
    have kp' : ∀ b o, h0.get? b = some o → h'.get? b = some o := fun b o e => hk' b o (fun hm => by rw [List.mem_singleton.mp hm, hI] at e; cases e) (hkp b o e)
    have hS' := hk' S _ (by simpa using hSI) hS
    have hA' : IsL0 h' a (preCat val i).toArray n := hk' a _ (by simpa using haI) hA
    have hB' : IsL0 h' b (val i).toArray m := kp' b _ hb
    show wpAny _ A.in1 ((holding [Value.ref b] (binaryOp .Add (.ref a) (.ref b))).attempt >>= _) _ _ _
    refine wpAny_bind (wpAny_attempt (wpAny_holding (PySem.P.add_list hA' hB' ?_ ?_)))
    case refine_2 =>
      have := preCat_le val (show i + 1 ≤ items.size from hlt)
      have e : (preCat val (i + 1)).length = (preCat val i).length + (val i).length := by
        show (preCat val i ++ val i).length = _
        rw [List.length_append]
      simp only [List.size_toArray]
      omega
    have ea : (preCat val i).toArray ++ (val i).toArray = (preCat val (i + 1)).toArray := by
      show _ = (preCat val i ++ val i).toArray
      simp
    rw [ea]
    generalize hq : h'.objs.size = q
    have hnew : h'.get? q = none := by
      cases z : h'.get? q with
      | none => rfl
      | some o => exact absurd (Heap.lt_size z) (by rw [hq]; exact Nat.lt_irrefl _)
    have qS : S ≠ q := fun e => by rw [e, hnew] at hS'; cases hS'
    have qI : I ≠ q := fun e => by
      obtain ⟨o, ho, _⟩ := hst'.1
      rw [e, hnew] at ho; cases ho
    have qx : ax ≠ q := fun e => by
      obtain ⟨o, ho, _⟩ := hst'.2
      rw [e, hnew] at ho; cases ho
    let h1 := h'.push { cls := .type "list", data := .seq (preCat val (i + 1)).toArray }
    have k1 : ∀ b o, h'.get? b = some o → h1.get? b = some o := fun b o e => Heap.get?_push_of_some _ e
    have hS1 : h1.get? S = some { cls := .type "list", dict := none, data := .seq #[.ref a] c, slots := #[] } := k1 _ _ hS'
    show wpAny _ A.in1 (updateSeq S (fun _ => #[.ref q]) >>= _) _ _ { s with heap := h1, toks := tk }
    refine wpAny_bind (wpAny_updateSeq hS1 rfl ?_)
    have hS₂ := Heap.get?_update_self (Obj.mapSeq fun _ => #[Value.ref q]) hS1 rfl
    refine wpAny_bind (wpAny_letGo ?_)
    refine wpAny_bind (wpAny_updateSeq hS₂ rfl (wpAny_pure ⟨plainId_quiet F.plain_sum_loop _, ?_⟩))
    have k3 : ∀ b o, b ≠ S → h1.get? b = some o → ((h1.update S (Obj.mapSeq fun _ => #[Value.ref q])).update S (Obj.mapSeq fun _ => #[Value.ref q])).get? b = some o := fun b o hbS e =>
      (Heap.get?_update_other _ _ (Ne.symm hbS)).trans ((Heap.get?_update_other _ _ (Ne.symm hbS)).trans e)
    refine ih (i + 1) _ q _ 0 (by omega) hlt (W.frame _ _ _ hst' fun b hb o e => k3 b o (fun z => hSf (by rw [← z]; exact hb)) (k1 b o e)) (fun b o e => k3 b o (fun z => by rw [z, hS0] at e; cases e) (k1 b o (kp' b o e)))
      (k3 q _ (Ne.symm qS) (by subst hq; exact Heap.get?_push_size _ rfl)) (Ne.symm qI) (Ne.symm qS) (Heap.get?_update_self _ hS₂ rfl) fun h2 tk2 a2 n2 g1 g2 g3 g4 => hR h2 tk2 a2 n2 g1 g2 (fun z => by omega) fun _ => ?_
    by_cases z : i + 1 = items.size
    · rw [g3 z]
      have := Heap.lt_size hS'
      rw [hq] at this
      exact this
    · exact g4 z
end
section
variable {prog : Program} {w : World} {A : Around} {E : Value → Shared → Prop} {s : Shared}
theorem args_sum2 (a b : Value) : argsOk "sum" ⟨[a, b], []⟩ := by unfold argsOk; kernel_rfl
theorem call_sum_lists {l a : Addr} {items : Array Value} {Q : Value → Shared → Prop} (hh : A.handled = none) (val : Nat → List Value) (hl : s.heap.IsList l items) (hval : ∀ i v, items[i]? = some v → ∃ a n, v = .ref a ∧ IsL0 s.heap a (val i).toArray n) {n : Nat} (ha : IsL0 s.heap a #[] n)
    (hsz : (preCat val items.size).length ≤ sizeLine)
    (h : ∀ h' tk a' n', (∀ b o, s.heap.get? b = some o → h'.get? b = some o) → IsL0 h' a' (preCat val items.size).toArray n' → (items.size = 0 → a' = a) → (items.size ≠ 0 → s.heap.objs.size ≤ a') → Q (.ref a') { s with heap := h', toks := tk }) :
    wpAny (model prog w) A (call (.builtin "sum") [.ref l, .ref a]) Q E s := by
  refine PySem.call_function_tree F.kind_sum F.plain_sum F.entry_sum (args_sum2 _ _) ?_
  unfold Builtin.«sum»
  simp only [List.length_cons, List.length_nil]
  rw [if_neg (by decide)]
  refine wpAny_bind (wpAny_of_eq (show Builtin.Builtins.bindParams "sum" ["start"] 0 { pos := [.ref a] } = pure [some (.ref a)] from rfl) ?_)
  have hlt : l < s.heap.objs.size := by obtain ⟨_, e, _⟩ := id hl; exact Heap.lt_size e
  have hat : a < s.heap.objs.size := Heap.lt_size ha
  refine wpAny_bind (wpAny_pyIter_list hl ?_)
  have s1 : (s.heap.push { cls := .type "list_iterator", data := .fields #[.ref l, .int 0 0] }).objs.size = s.heap.objs.size + 1 := Heap.size_push ..
  have a1 : IsL0 (s.heap.push { cls := .type "list_iterator", data := .fields #[.ref l, .int 0 0] }) a #[] n := Heap.get?_push_of_some _ ha
  have k1 : ∀ b o, s.heap.get? b = some o → (s.heap.push { cls := .type "list_iterator", data := .fields #[.ref l, .int 0 0] }).get? b = some o := fun b o e => Heap.get?_push_of_some _ e
  have i1 : (s.heap.push { cls := .type "list_iterator", data := .fields #[.ref l, .int 0 0] }).get? s.heap.objs.size = some { cls := .type "list_iterator", data := .fields #[.ref l, .int 0 0] } := Heap.get?_push_size _ rfl
  have l1 : (s.heap.push { cls := .type "list_iterator", data := .fields #[.ref l, .int 0 0] }).IsList l items := hl.push _
  generalize s.heap.push { cls := .type "list_iterator", data := .fields #[.ref l, .int 0 0] } = h1 at *
  have tI : Shared.TypeIs { s with heap := h1 } (.ref a) "list" := ⟨_, a1, rfl⟩
  refine wpAny_bind (wpAny_pure ?_)
  simp only [List.forIn_cons, List.forIn_nil]
  refine wpAny_bind (wpAny_bind (wpAny_bind (wpAny_isInstance (T := "list") (b := false) tI PySem.F.sub_list_str ?_)))
  simp only [Bool.false_eq_true, if_false]
  refine wpAny_pure (wpAny_bind (wpAny_bind (wpAny_isInstance (T := "list") (b := false) tI PySem.F.sub_list_bytes ?_)))
  simp only [Bool.false_eq_true, if_false]
  refine wpAny_pure (wpAny_bind (wpAny_bind (wpAny_isInstance (T := "list") (b := false) tI PySem.F.sub_list_bytearray ?_)))
  simp only [Bool.false_eq_true, if_false]
  refine wpAny_pure (wpAny_pure ?_)
  refine wpAny_bind (wpAny_newObj_type ?_)
  have nn : ∀ b, s.heap.objs.size ≤ b → s.heap.get? b = none := fun b hb => by
    cases q : s.heap.get? b with
    | none => rfl
    | some o => exact absurd (Nat.lt_of_lt_of_le (Heap.lt_size q) hb) (Nat.lt_irrefl _)
  refine wpAny_pure ⟨plainId_quiet F.plain_sum_loop _, sum_loop_lists (A := _) (I := s.heap.objs.size) (ax := l) (by simp [hh]) (Nat.ne_of_lt hlt) items val s.heap hval (nn _ (Nat.le_refl _)) h1.objs.size (by
      rw [s1]; simp only [List.mem_cons, List.not_mem_nil, or_false, not_or]; exact ⟨Nat.succ_ne_self _, Nat.ne_of_gt (Nat.lt_succ_of_lt hlt)⟩) (nn _ (by rw [s1]; exact Nat.le_succ _)) hsz (items.size - 0) 0 _ a 0 n (by omega) (Nat.zero_le _)
    ⟨⟨_, Heap.get?_push_of_some _ i1, rfl, rfl⟩, l1.push _⟩ (fun b o e => Heap.get?_push_of_some _ (k1 b o e)) (Heap.get?_push_of_some _ a1) (Nat.ne_of_lt hat) (Nat.ne_of_lt (by rw [s1]; exact Nat.lt_succ_of_lt hat)) (Heap.get?_push_size _ rfl) fun h' tk a' n' g1 g2 g3 g4 => ?_⟩
  exact h h' tk a' n' g1 g2 (fun z => g3 z.symm) fun z => Nat.le_of_lt (Nat.lt_of_lt_of_le (Nat.lt_succ_self _) (Nat.le_trans (Nat.le_of_eq s1.symm) (Nat.le_of_lt (g4 (Ne.symm z)))))
end
section
open L2
variable {X : Cx}
/-- sum(xs, ys), xs a list of lists, ys a list of nothing -/
def rSumL (K : PySem.W.Frag) : List V → Hp → VK → Prop := fun xs H Q => ∃ (l a : Addr) (vs : List V) (xss : List (List V)), xs = [.ref l, .ref a] ∧ H l = some (.lst vs) ∧ H a = some (.lst []) ∧ Paired (fun v ys => ∃ b, v = .ref b ∧ H b = some (.lst ys)) vs xss ∧ xss.flatten.length ≤ sizeLine ∧
  (xss = [] → Q (.ref a) H) ∧ ∀ p, H p = none → Q (.ref p) (upd H p (.lst xss.flatten))
theorem lists_of {pins : List (Addr × Obj)} {σ : L2.St} {H : Hp} {s : Shared} (I : Inv X pins σ H s) : ∀ {vs : List V} {xss : List (List V)} {its : List Value}, Paired (fun v ys => ∃ b, v = .ref b ∧ H b = some (.lst ys)) vs xss → Vals vs its →
    ∃ uss : List (List Value), uss.length = its.length ∧ (∀ i u, its[i]? = some u → ∃ a n, u = .ref a ∧ IsL0 s.heap a (uss.getD i []).toArray n) ∧ Vals xss.flatten uss.flatten
  | _, _, _, .nil, .nil => ⟨[], rfl, fun i u h => by simp at h, .nil⟩
  | _, _, _, .cons ⟨b, e, hb⟩ t, .cons r rt => by
    subst e
    cases r
    obtain ⟨z, us, n, rv, hl, e⟩ := I.lstM hb
    obtain ⟨uss, h1, h2, h3⟩ := lists_of I t rt
    refine ⟨us :: uss, by simp [h1], fun i u h => ?_, ?_⟩
    · cases i with
      | zero =>
        simp only [List.getElem?_cons_zero, Option.some.injEq] at h
        exact ⟨b, n, h.symm, e⟩
      | succ i => exact h2 i u (by simpa using h)
    · simp only [List.flatten_cons]
      exact rv.append h3
theorem preCat_all (uss : List (List Value)) : ∀ n, preCat (fun i => uss.getD i []) n = (uss.take n).flatten
  | 0 => rfl
  | n + 1 => by
    show preCat _ n ++ uss.getD n [] = _
    rw [preCat_all uss n, List.take_succ, List.flatten_append]
    congr 1
    rw [List.getD_eq_getElem?_getD]
    cases uss[n]? <;> simp
theorem cr_sumL (hc : X.calm = true) : CallR X (.builtin "sum") (rSumL X.K) := by
  intro pins s σ H xs us Q I r h
  obtain ⟨l, a, vs, xss, rfl, hl, ha, hp, hz, q0, q⟩ := h
  obtain ⟨u1, u2, rfl, r1, r2⟩ := vals2 r
  cases (show u1 = Value.ref l from r1)
  cases (show u2 = Value.ref a from r2)
  obtain ⟨_, its, n, rv, hlen, e⟩ := I.lstM hl
  obtain ⟨_, its0, n0, rv0, _, e0⟩ := I.lstM ha
  cases rv0
  obtain ⟨uss, h1, h2, h3⟩ := lists_of I hp rv
  have el := h3.length
  refine call_sum_lists (I.ok.hd hc) (fun i => uss.getD i []) (items := its.toArray) ⟨_, e, rfl, n, rfl⟩ (fun i v hv => h2 i v (by simpa using hv)) (n := n0) e0 ?_ fun h' tk a' n' k1 k2 k3 k4 => ?_
  · rw [preCat_all, List.size_toArray, ← h1, List.take_length, ← el]; exact hz
  · rw [preCat_all, List.size_toArray, ← h1, List.take_length] at k2
    have I2 : Inv X pins σ H { s with heap := h', toks := tk } := I.kept k1
    have lx : xss.length = its.length := by
      have := Paired.length hp
      rw [← this]; exact rv.length
    by_cases z : its.toArray.size = 0
    · rw [k3 z]
      have : xss = [] := by
        rw [List.size_toArray, ← lx] at z
        exact List.eq_nil_of_length_eq_zero z
      exact ⟨.ref a, H, I2, rfl, q0 this⟩
    · have hn : H a' = none := I.hok.fresh (k4 z)
      exact ⟨.ref a', _, I.laid (t' := tk) (o := .lst xss.flatten) k1 (k4 z) ⟨hz, _, n', h3, k2⟩, rfl, q a' hn⟩
end
end Ev


set_option Elab.async false
set_option linter.all false
set_option maxRecDepth 100000
set_option maxHeartbeats 4000000
/-! EvQ: subscripts, slices, built-ins, methods, stores, by data. -/
namespace Ev
open PySem PySem.Spec PyProof.Rows L2
section
variable {X : Cx} {T : Tab}
theorem RpL.atI {W : Wr} {κ : List Addr} {G : Hp} {vs : List V} {l : List D} {i : Int} {d : D} (r : RpL W κ G vs l) (h : Ev.atI l i = some d) : ∃ v, L2.atI vs i = some v ∧ Rp W κ G v d := by
  unfold Ev.atI at h
  cases e : Ev.ixN l.length i with
  | none => rw [e] at h; cases h
  | some j =>
    rw [e] at h
    obtain ⟨v, h1, h2⟩ := r.get h
    refine ⟨v, ?_, h2⟩
    unfold L2.atI
    rw [r.length, show L2.ixN l.length i = some j from e]
    exact h1
theorem ix_case {k : Sto → D → D → Option D}
    (h : ∀ (κ : List Addr) (G : Hp) (st : Sto) (dx dy d : D) (x y : V) (H : Hp) (Q : VK), HLen H → Ok (T.W X.K) κ st G H → Rp (T.W X.K) κ G x dx → Rp (T.W X.K) κ G y dy → k st dx dy = some d → KQ (T.W X.K) κ G H st d Q → ∃ r : R2, IxR X r ∧ r x y H Q) : IxR X (rD (T.W X.K) k) := by
  intro value slice pins s σ H x y v u Q I rx ry q hs
  obtain ⟨κ, G, st, dx, dy, d, O, r1, r2, e, kq⟩ := q
  obtain ⟨r, o, q⟩ := h κ G st dx dy d x y H Q (hlen_of I) O r1 r2 e kq
  exact o value slice pins s σ H x y v u Q I rx ry q hs
theorem ix_dict (hu : X.A.units + 1 < cLine) : IxR X (fun x y H Q => ∃ a v, x = .ref a ∧ DGet H a y (some v) ∧ Q v H) := by
  intro value slice pins s σ H x y v u Q I rx ry h hs
  obtain ⟨a, z, rfl, g, q⟩ := h
  obtain rfl : v = Value.ref a := rx
  have hT := dict_typeIs I g
  unfold subscriptTail
  refine wpAny_bind ?_
  rw [getitemInPython_of_ne hT.not_modules]
  refine wpAny_bind (wpAny_specialOf hT PySem.F.slot_dict_getitem.lookup ?_)
  have fin : wpAny (model X.prog X.w) X.A (subscripted slice false (.ref a) u) (fun r s₃ => wpAny (model X.prog X.w) X.A (letTemporaryGo value (.ref a) r >>= fun _ => pure r) (EP X pins σ Q) X.xe s₃) X.xe s := by
    rw [hs]
    exact wpAny_operating (d_getItem hu I g ry fun w' s3 I3 rw' => wpAny_bind (wpAny_letTemporaryGo (wpAny_pure ⟨z, H, I3, rw', q⟩)))
  first
    | exact wpAny_pure (wpAny_bind fin)
    | exact wpAny_bind (wpAny_pure (wpAny_bind fin))
    | exact wpAny_bind fin
theorem ix_D (hu : X.A.units + 1 < cLine) : IxR X (rD (T.W X.K) ixD) := by
  refine ix_case fun κ G st dx dy d x y H Q hL O r1 r2 e k => ?_
  simp only [ixD] at e
  split at e
  · rename_i l el
    split at e
    · obtain ⟨a, vs, rfl, ha, ra⟩ := read_tup O r1 el
      obtain ⟨v, hv, rv⟩ := ra.atI e
      cases r2
      exact ⟨_, ix_tup, a, vs, _, v, rfl, rfl, ha, hv, k.now O rv⟩
    · cases e
  · rename_i l el
    split at e
    · obtain ⟨a, vs, rfl, ha, ra⟩ := read_lst O r1 el
      obtain ⟨v, hv, rv⟩ := ra.atI e
      cases r2
      exact ⟨_, ix_list, a, vs, _, v, rfl, rfl, SqL.of ha, hv, k.now O rv⟩
    · cases e
  · rename_i l el
    split at e
    · obtain ⟨a, vs, rfl, ha, ra⟩ := read_scr O r1 el
      obtain ⟨v, hv, rv⟩ := ra.atI e
      cases r2
      exact ⟨_, ix_list, a, vs, _, v, rfl, rfl, ha, hv, k.now O rv⟩
    · cases e
  · rename_i l el
    obtain ⟨a, kvs, rfl, ha, ra⟩ := read_dK O r1 el
    split at e
    · rename_i q eq
      obtain rfl := r2.key eq
      obtain ⟨v, hv, rv⟩ := ra.look.1 d e
      exact ⟨_, ix_dict hu, a, v, rfl, by rw [← hv]; exact DGet.k ha, k.now O rv⟩
    · cases e
  · rename_i z el
    split at e
    · split at e
      case isFalse => cases e
      rename_i hz
      split at e
      · rename_i c ec
        cases e
        have e2 := dr_str O r1 el
        subst e2
        cases r1; cases r2
        exact ⟨_, ix_str, _, _, c, rfl, rfl, hz, ec, k.now O (.str _)⟩
      · cases e
    · cases e
  · cases e

/-! ### slices -/
theorem sIx_is (n d : Nat) (o : Option Int) : HT.sIx n d o = Ev.sIx n d o := by cases o <;> rfl
theorem RpL.cut {W : Wr} {κ : List Addr} {G : Hp} {vs : List V} {l : List D} (r : RpL W κ G vs l) (lo hi : Option Int) : RpL W κ G (cutV vs lo hi) (Ev.cut l lo hi) := by
  unfold cutV Ev.cut
  rw [sIx_is, sIx_is, r.length]
  exact (r.drop _).take _
def rSlD (W : Wr) : V → Option Int → Option Int → Hp → VK → Prop := fun x lo hi H Q => ∃ κ G st dx d, Ok W κ st G H ∧ Rp W κ G x dx ∧ slD st dx lo hi = some d ∧ KQ W κ G H st d Q
theorem sl_D : SlR X (rSlD (T.W X.K)) := by
  intro pins s σ H x v vl vu lo hi sl Q I rx hs pl pu h
  obtain ⟨κ, G, st, dx, d, O, r1, e, k⟩ := h
  simp only [slD] at e
  split at e
  · rename_i l el
    cases e
    obtain ⟨a, vs, rfl, ha, ra⟩ := read_tup O r1 el
    refine slF_tup pins s σ H _ v vl vu lo hi sl Q I rx hs pl pu ⟨a, vs, rfl, ha, fun hw => ?_, fun p o hd hp => k.new O (.tup hd (ra.cut lo hi)) hp⟩
    have ec : Ev.cut l lo hi = l := by
      unfold Ev.cut
      rw [← ra.length, ← sIx_is, ← sIx_is, hw.1, hw.2, List.drop_zero, Nat.sub_zero, ra.length, List.take_length]
    rw [ec] at k
    cases dx with
    | tup m =>
      cases (show D.tup m = .tup l from el)
      exact k.now O r1
    | cel kk => exact (read_tup_cel O r1 el).elim
    | _ => cases el
  · rename_i l el
    cases e
    obtain ⟨a, vs, rfl, ha, ra⟩ := read_lst O r1 el
    exact sl_list pins s σ H _ v vl vu lo hi sl Q I rx hs pl pu ⟨a, vs, rfl, SqL.of ha, fun p hp => k.new O (.lst (ra.cut lo hi)) hp⟩
  · rename_i l el
    cases e
    obtain ⟨a, vs, rfl, ha, ra⟩ := read_scr O r1 el
    exact sl_list pins s σ H _ v vl vu lo hi sl Q I rx hs pl pu ⟨a, vs, rfl, ha, fun p hp => k.new O (.lst (ra.cut lo hi)) hp⟩
  · rename_i z el
    split at e
    case isFalse => cases e
    rename_i hz
    cases e
    have e2 := dr_str O r1 el
    subst e2
    cases r1
    exact sl_str pins s σ H _ v vl vu lo hi sl Q I rx hs pl pu ⟨_, rfl, hz, k.now O (.str _)⟩
  · cases e

/-- x[a::k] of a list: new -/
def SlkC (W : Wr) (x : V) (k : Nat) (o : Option Int) (H : Hp) (Q : VK) : Prop := ∃ l, o = some l ∧ ∃ κ G st dx d, Ok W κ st G H ∧ Rp W κ G x dx ∧ slkD st dx l k = some d ∧ KQ W κ G H st d Q
def tSlk (W : Wr) (te tl : TE) (k : Nat) : TE := fun σ H Q => te σ H fun x H1 => tl σ H1 fun y H2 => ∃ l, y = .int l ∧ SlkC W x k (some l) H2 Q
theorem RpL.pick {W : Wr} {κ : List Addr} {G : Hp} {vs : List V} {ds : List D} (r : RpL W κ G vs ds) : ∀ is : List Nat, RpL W κ G (is.filterMap fun i => vs[i]?) (is.filterMap fun i => ds[i]?)
  | [] => .nil
  | i :: is => by
    cases e : ds[i]? with
    | none =>
      have : vs[i]? = none := by
        rw [List.getElem?_eq_none_iff] at e ⊢
        rw [r.length]; exact e
      rw [List.filterMap_cons_none this, List.filterMap_cons_none e]
      exact RpL.pick r is
    | some d =>
      obtain ⟨v, h1, h2⟩ := r.get e
      rw [List.filterMap_cons_some h1, List.filterMap_cons_some e]
      exact .cons h2 (RpL.pick r is)
theorem vals_pick {vs : List V} {us : List Value} (r : Vals vs us) : ∀ is : List Nat, Vals (is.filterMap fun i => vs[i]?) (is.filterMap fun i => us[i]?)
  | [] => .nil
  | i :: is => by
    cases e : vs[i]? with
    | none =>
      have : us[i]? = none := by
        rw [List.getElem?_eq_none_iff] at e ⊢
        rw [← r.length]; exact e
      rw [List.filterMap_cons_none this, List.filterMap_cons_none e]
      exact vals_pick r is
    | some d =>
      obtain ⟨v, h1, h2⟩ := r.get e
      rw [List.filterMap_cons_some h1, List.filterMap_cons_some e]
      exact .cons h2 (vals_pick r is)
theorem pe_slk {e el : Expr} {te tl : TE} {k i : Nat} {p1 p3 pos : Pos} (he : PE X e te) (hl : PE X el tl) : PE X (.Subscript e (.Slice (some el) none (some (.Constant (.int k) i p1)) p3) pos) (tSlk (T.W X.K) te tl k) := by
  refine ⟨fun pins s σ H Q I h => ?_⟩
  refine Subscript_ (thn (he.run pins s σ H _ I h) fun v s1 ⟨x, H1, I1, r1, q1⟩ => ?_)
  refine wpAny_Slice (thn ((po_some hl).run pins s1 σ H1 (fun o H2 => SlkC (T.W X.K) x k o H2 Q) I1 q1) fun vl s2 ⟨o, H2, I2, pl, l, eo, κ, G, st, dx, d, O, rx, e, kq⟩ => ?_)
  subst eo
  refine thn (po_none.run pins s2 σ H2 (fun o H3 => o = none ∧ H3 = H2) I2 ⟨rfl, rfl⟩) fun vu s3 ⟨u, H3, I3, pu, eu, e3⟩ => ?_
  subst eu e3
  have hst : PO X (some (.Constant (.int k) i p1)) (tPart (tC (.int k))) := po_some pe_int
  refine thn (hst.run pins s3 σ H3 (fun o H4 => o = some (k : Int) ∧ H4 = H3) I3 ⟨k, rfl, rfl, rfl⟩) fun vs s4 ⟨o, H4, I4, ps, eo, e4⟩ => ?_
  subst eo e4
  have I5 : Inv X pins σ H4 { s4 with heap := s4.heap.push { cls := .type "slice", data := .fields #[vl, vu, vs] } } := I4.kept (t' := s4.toks) fun b ob q => Heap.get?_push_of_some _ q
  unfold slkD at e
  split at e
  · rename_i ds el
    split at e
    case isFalse => cases e
    rename_i hk
    simp only at e
    split at e
    case isFalse => cases e
    rename_i hz2
    cases e
    obtain ⟨a, xs, rfl, hx, ra⟩ := read_lst O rx el
    cases r1
    obtain ⟨its, r, ht, hz⟩ := I5.list (SqL.of hx)
    have hlen := r.length
    refine tail_any (ops := [.ref a, .ref s4.heap.objs.size]) ht.isList.typeIs (PySem.slot_list_getitem.lookup) ?_ (by with_unfolding_all rfl)
    refine wpAny_getItem_list_slice ht.isList (Heap.IsSliceOf.new _ vl vu vs) pl pu ps (by intro z; have : (k : Int) = 0 := Option.some.inj z; omega) ?_ (by rw [List.size_toArray]; omega)
    have hn : ds.length = its.length := by rw [← ra.length]; exact hlen
    have ep : slicePick its.toArray (some l) none (some (k : Int)) = ((sliceRange (sliceBounds (some l) none (some (k : Int)) ds.length).1 (sliceBounds (some l) none (some (k : Int)) ds.length).2.1 (sliceBounds (some l) none (some (k : Int)) ds.length).2.2).filterMap fun i => its[i]?).toArray := by
      unfold slicePick
      rw [List.size_toArray, hn]
      simp only [List.getElem?_toArray]
    rw [ep]
    refine ⟨.ref _, _, I5.laid (t' := s4.toks) (o := .lst (List.filterMap (fun i => xs[i]?) _)) (fun b ob q => Heap.get?_push_of_some _ q) (Nat.le_refl _) ⟨?_, _, 0, vals_pick r _, Heap.get?_push_size _ rfl⟩, rfl, kq.new O (.lst (ra.pick _)) (I5.hok.fresh (Nat.le_refl _))⟩
    rw [(ra.pick _).length]; exact hz2
  · cases e

/-! ### built-ins -/
def bltV : Blt → Value
  | .len => .builtin "len" | .abs => .builtin "abs" | .min => .builtin "min" | .max => .builtin "max" | .all => .builtin "all" | .any => .builtin "any" | .sum => .builtin "sum"
  | .sorted => .builtin "sorted" | .lenset => .builtin "len" | .list => .type "list" | .tuple => .type "tuple" | .int => .type "int" | .divmod => .builtin "divmod" | .gcd => .builtin "math.gcd" | .isinst => .builtin "isinstance" | .str => .type "str"
def CD (X : Cx) (T : Tab) (b : Blt) : Prop := CallR X (bltV b) (rDL (T.W X.K) fun st ds => bltD st b ds)
theorem cd_case {b : Blt}
    (h : ∀ (κ : List Addr) (G : Hp) (st : Sto) (ds : List D) (d : D) (xs : List V) (H : Hp) (Q : VK), HLen H → Ok (T.W X.K) κ st G H → RpL (T.W X.K) κ G xs ds → bltD st b ds = some d → KQ (T.W X.K) κ G H st d Q → ∃ r, CallR X (bltV b) r ∧ r xs H Q) : CD X T b := by
  intro pins s σ H xs us Q I rx q
  obtain ⟨κ, G, st, ds, d, O, r1, e, kq⟩ := q
  obtain ⟨r, o, q⟩ := h κ G st ds d xs H Q (hlen_of I) O r1 e kq
  exact o pins s σ H xs us Q I rx q
theorem RpL.one {W : Wr} {κ : List Addr} {G : Hp} {vs : List V} {d : D} (r : RpL W κ G vs [d]) : ∃ v, vs = [v] ∧ Rp W κ G v d := by
  cases r with | cons a b => cases b; exact ⟨_, rfl, a⟩
theorem RpL.two {W : Wr} {κ : List Addr} {G : Hp} {vs : List V} {d e : D} (r : RpL W κ G vs [d, e]) : ∃ v u, vs = [v, u] ∧ Rp W κ G v d ∧ Rp W κ G u e := by
  cases r with | cons a b => cases b with | cons b c => cases c; exact ⟨_, _, rfl, a, b⟩

theorem blt1 {st : Sto} {b : Blt} {ds : List D} {d : D} (hb : b = .len ∨ b = .all ∨ b = .any ∨ b = .sorted ∨ b = .list ∨ b = .tuple) (e : bltD st b ds = some d) : ∃ x, ds = [x] := by
  rcases ds with _ | ⟨x, _ | ⟨y, r⟩⟩
  · rcases hb with rfl | rfl | rfl | rfl | rfl | rfl <;> simp [bltD] at e
  · exact ⟨x, rfl⟩
  · rcases hb with rfl | rfl | rfl | rfl | rfl | rfl <;> simp [bltD] at e
theorem cd_len : CD X T .len := by
  refine cd_case fun κ G st ds d xs H Q hL O r e k => ?_
  obtain ⟨x, rfl⟩ := blt1 (.inl rfl) e
  obtain ⟨v, rfl, r1⟩ := r.one
  simp only [bltD] at e
  split at e
  · rename_i l el
    cases e
    obtain ⟨a, vs, rfl, ha, ra⟩ := read_tup O r1 el
    exact ⟨_, call_len_seq, a, vs, rfl, .inr ha, by rw [ra.length]; exact k.now O (.int _)⟩
  · rename_i l el
    cases e
    obtain ⟨a, vs, rfl, ha, ra⟩ := read_lst O r1 el
    exact ⟨_, call_len_seq, a, vs, rfl, .inl (SqL.of ha), by rw [ra.length]; exact k.now O (.int _)⟩
  · rename_i l el
    cases e
    obtain ⟨a, vs, rfl, ha, ra⟩ := read_scr O r1 el
    exact ⟨_, call_len_seq, a, vs, rfl, .inl ha, by rw [ra.length]; exact k.now O (.int _)⟩
  · cases e
theorem cd_abs : CD X T .abs := by
  refine cd_case fun κ G st ds d xs H Q hL O r e k => ?_
  rcases ds with _ | ⟨x, _ | ⟨y, s⟩⟩
  · simp [bltD] at e
  · cases x <;> simp only [bltD] at e <;> try contradiction
    cases e
    obtain ⟨v, rfl, r1⟩ := r.one
    cases r1
    exact ⟨_, call_abs, _, rfl, k.now O (.int _)⟩
  · cases x <;> simp [bltD] at e
theorem foldmax_mem : ∀ (r : List Int) (i : Int), r.foldl max i ∈ i :: r
  | [], i => List.mem_cons_self
  | j :: r, i => by
    rw [List.foldl_cons]
    have h := foldmax_mem r (max i j)
    rcases List.mem_cons.mp h with h | h
    · rw [h]
      rcases Int.le_total i j with q | q
      · rw [Int.max_eq_right q]; simp
      · rw [Int.max_eq_left q]; simp
    · exact List.mem_cons_of_mem _ (List.mem_cons_of_mem _ h)
theorem foldmax_ge : ∀ (r : List Int) (i : Int), ∀ a ∈ i :: r, a ≤ r.foldl max i
  | [], i, a, h => by cases h with | head => exact Int.le_refl _ | tail _ h => cases h
  | j :: r, i, a, h => by
    rw [List.foldl_cons]
    have h1 := foldmax_ge r (max i j) (max i j) List.mem_cons_self
    rcases List.mem_cons.mp h with h | h
    · rw [h]; exact Int.le_trans (Int.le_max_left _ _) h1
    · rcases List.mem_cons.mp h with h | h
      · rw [h]; exact Int.le_trans (Int.le_max_right _ _) h1
      · exact foldmax_ge r (max i j) a (List.mem_cons_of_mem _ h)
theorem foldmin_mem : ∀ (r : List Int) (i : Int), r.foldl min i ∈ i :: r
  | [], i => List.mem_cons_self
  | j :: r, i => by
    rw [List.foldl_cons]
    have h := foldmin_mem r (min i j)
    rcases List.mem_cons.mp h with h | h
    · rw [h]
      rcases Int.le_total i j with q | q
      · rw [Int.min_eq_left q]; simp
      · rw [Int.min_eq_right q]; simp
    · exact List.mem_cons_of_mem _ (List.mem_cons_of_mem _ h)
theorem foldmin_le : ∀ (r : List Int) (i : Int), ∀ a ∈ i :: r, r.foldl min i ≤ a
  | [], i, a, h => by cases h with | head => exact Int.le_refl _ | tail _ h => cases h
  | j :: r, i, a, h => by
    rw [List.foldl_cons]
    have h1 := foldmin_le r (min i j) (min i j) List.mem_cons_self
    rcases List.mem_cons.mp h with h | h
    · rw [h]; exact Int.le_trans h1 (Int.min_le_left _ _)
    · rcases List.mem_cons.mp h with h | h
      · rw [h]; exact Int.le_trans h1 (Int.min_le_right _ _)
      · exact foldmin_le r (min i j) a (List.mem_cons_of_mem _ h)
theorem cd_max (hc : X.calm = true) (hu : X.A.units + 1 < cLine) : CD X T .max := by
  refine cd_case fun κ G st ds d xs H Q hL O r e k => ?_
  rcases ds with _ | ⟨x, _ | ⟨y, _ | ⟨z, s⟩⟩⟩
  · simp [bltD] at e
  · obtain ⟨v, rfl, r1⟩ := r.one
    have e : (match dr st x with
    | .lst l => (match intsOf l with | some (i :: r) => some (.int (maxI (i :: r))) | _ => none)
    | .tup l => (match intsOf l with | some (i :: r) => some (.int (maxI (i :: r))) | _ => none)
    | _ => none) = some d := by rw [← e]; cases x <;> rfl
    split at e
    · rename_i l el
      split at e
      · rename_i i s ei
        cases e
        obtain ⟨a, vs, rfl, ha, ra⟩ := read_lst O r1 el
        rw [RpL.lex ei ra] at ha
        refine ⟨_, cr_max hc, a, i :: s, rfl, SqL.of ha, by simp, fun m h1 h2 => ?_⟩
        have : m = s.foldl max i := Int.le_antisymm (foldmax_ge s i m h1) (h2 _ (foldmax_mem s i))
        rw [this]; exact k.now O (.int _)
      · cases e
    · rename_i l el
      split at e
      · rename_i i s ei
        cases e
        obtain ⟨a, vs, rfl, ha, ra⟩ := read_tup O r1 el
        rw [RpL.lex ei ra] at ha
        exact ⟨_, cr_maxT hc hu, a, i, s, rfl, ha, k.now O (.int _)⟩
      · cases e
    · cases e
  · cases x <;> cases y <;> simp only [bltD] at e <;> try contradiction
    cases e
    obtain ⟨v, u, rfl, r1, r2⟩ := r.two
    cases r1; cases r2
    exact ⟨_, call_max2 hc, _, _, rfl, k.now O (.int _)⟩
  · cases x <;> cases y <;> simp [bltD] at e
theorem cd_min (hc : X.calm = true) (hu : X.A.units + 1 < cLine) : CD X T .min := by
  refine cd_case fun κ G st ds d xs H Q hL O r e k => ?_
  rcases ds with _ | ⟨x, _ | ⟨y, _ | ⟨z, s⟩⟩⟩
  · simp [bltD] at e
  · obtain ⟨v, rfl, r1⟩ := r.one
    have e : (match dr st x with
    | .lst l => (match intsOf l with | some (i :: r) => some (.int (minI (i :: r))) | _ => none)
    | .tup l => (match intsOf l with | some (i :: r) => some (.int (minI (i :: r))) | _ => none)
    | _ => none) = some d := by rw [← e]; cases x <;> rfl
    split at e
    · rename_i l el
      split at e
      · rename_i i s ei
        cases e
        obtain ⟨a, vs, rfl, ha, ra⟩ := read_lst O r1 el
        rw [RpL.lex ei ra] at ha
        refine ⟨_, cr_min hc, a, i :: s, rfl, SqL.of ha, by simp, fun m h1 h2 => ?_⟩
        have : m = s.foldl min i := Int.le_antisymm (h2 _ (foldmin_mem s i)) (foldmin_le s i m h1)
        rw [this]; exact k.now O (.int _)
      · cases e
    · rename_i l el
      split at e
      · rename_i i s ei
        cases e
        obtain ⟨a, vs, rfl, ha, ra⟩ := read_tup O r1 el
        rw [RpL.lex ei ra] at ha
        exact ⟨_, cr_minT hc hu, a, i, s, rfl, ha, k.now O (.int _)⟩
      · cases e
    · cases e
  · cases x <;> cases y <;> simp only [bltD] at e <;> try contradiction
    cases e
    obtain ⟨v, u, rfl, r1, r2⟩ := r.two
    cases r1; cases r2
    exact ⟨_, call_min2 hc, _, _, rfl, k.now O (.int _)⟩
  · cases x <;> cases y <;> simp [bltD] at e
theorem cd_all (hc : X.calm = true) : CD X T .all := by
  refine cd_case fun κ G st ds d xs H Q hL O r e k => ?_
  obtain ⟨x, rfl⟩ := blt1 (.inr (.inl rfl)) e
  obtain ⟨v, rfl, r1⟩ := r.one
  simp only [bltD] at e
  split at e
  · rename_i l el
    cases eb : boolsOf l with
    | none => rw [eb] at e; cases e
    | some bs =>
      rw [eb] at e; cases e
      obtain ⟨a, vs, rfl, ha, ra⟩ := read_lst O r1 el
      rw [RpL.bools eb ra] at ha
      exact ⟨_, cr_all hc, a, bs, rfl, SqL.of ha, k.now O (.bl _)⟩
  · cases e
theorem cd_any (hc : X.calm = true) : CD X T .any := by
  refine cd_case fun κ G st ds d xs H Q hL O r e k => ?_
  obtain ⟨x, rfl⟩ := blt1 (.inr (.inr (.inl rfl))) e
  obtain ⟨v, rfl, r1⟩ := r.one
  simp only [bltD] at e
  split at e
  · rename_i l el
    cases eb : boolsOf l with
    | none => rw [eb] at e; cases e
    | some bs =>
      rw [eb] at e; cases e
      obtain ⟨a, vs, rfl, ha, ra⟩ := read_lst O r1 el
      rw [RpL.bools eb ra] at ha
      exact ⟨_, cr_any hc, a, bs, rfl, SqL.of ha, k.now O (.bl _)⟩
  · cases e
theorem RpL.cat {W : Wr} {κ : List Addr} {st : Sto} {G H : Hp} (O : Ok W κ st G H) : ∀ {l m : List D} {vs : List V}, catL l = some m → RpL W κ G vs l → ∃ xss : List (List V), Paired (fun v ys => ∃ b, v = .ref b ∧ H b = some (.lst ys)) vs xss ∧ RpL W κ G xss.flatten m
  | [], _, _, h, r => by cases h; cases r; exact ⟨[], .nil, .nil⟩
  | d :: l, m, _, h, r => by
    cases r with
    | cons r1 r2 =>
      cases d <;> simp only [catL] at h <;> try contradiction
      rename_i ds
      cases e : catL l with
      | none => rw [e] at h; cases h
      | some m' =>
        rw [e] at h
        cases h
        obtain ⟨xss, h1, h2⟩ := RpL.cat O e r2
        cases r1 with
        | lst z1 z2 z3 => exact ⟨_ :: xss, .cons ⟨_, rfl, O.sub _ _ z2⟩ h1, by simp only [List.flatten_cons]; exact z3.append h2⟩
theorem cd_sum (hc : X.calm = true) : CD X T .sum := by
  refine cd_case fun κ G st ds d xs H Q hL O r e k => ?_
  rcases ds with _ | ⟨x, _ | ⟨y, _ | ⟨z, s⟩⟩⟩
  · simp [bltD] at e
  · obtain ⟨v, rfl, r1⟩ := r.one
    have e : (match dr st x with | .lst l => (intsOf l).map fun is => D.int is.sum | _ => none) = some d := by rw [← e]; cases x <;> rfl
    split at e
    · rename_i l el
      cases eb : intsOf l with
      | none => rw [eb] at e; cases e
      | some bs =>
        rw [eb] at e; cases e
        obtain ⟨a, vs, rfl, ha, ra⟩ := read_lst O r1 el
        rw [RpL.lex eb ra] at ha
        exact ⟨_, cr_sum hc, a, bs, rfl, SqL.of ha, k.now O (.int _)⟩
    · cases e
  · obtain ⟨v, u, rfl, r1, r2⟩ := r.two
    have ey : y = .lst [] := by
      cases y with
      | lst l => cases l with
        | nil => rfl
        | cons a b => simp [bltD] at e
      | _ => simp [bltD] at e
    subst ey
    have e : (match dr st x with | .lst l => (match catL l with | some m => if m.length ≤ line then some (D.lst m) else none | none => none) | _ => none) = some d := by rw [← e]; cases x <;> rfl
    split at e
    · rename_i l el
      split at e
      · rename_i m em
        split at e
        case isFalse => cases e
        rename_i hm
        cases e
        obtain ⟨a, vs, rfl, ha, ra⟩ := read_lst O r1 el
        obtain ⟨b, ws, rfl, hb, rb⟩ := read_lst O (st := st) r2 rfl
        cases rb
        obtain ⟨xss, h1, h2⟩ := RpL.cat O em ra
        refine ⟨_, cr_sumL hc, a, b, vs, xss, rfl, ha, hb, h1, by rw [h2.length]; exact hm, fun z => ?_, fun p hp => k.new O (.lst h2) hp⟩
        subst z
        cases h2
        exact k.now O r2
      · cases e
    · cases e
  · cases x <;> simp [bltD] at e
theorem cd_list : CD X T .list := by
  refine cd_case fun κ G st ds d xs H Q hL O r e k => ?_
  obtain ⟨x, rfl⟩ := blt1 (.inr (.inr (.inr (.inr (.inl rfl))))) e
  obtain ⟨v, rfl, r1⟩ := r.one
  simp only [bltD] at e
  split at e
  · rename_i l el
    cases e
    obtain ⟨a, vs, rfl, ha, ra⟩ := read_tup O r1 el
    exact ⟨_, call_list_of, a, vs, rfl, .inr ha, fun p hp => k.new O (.lst ra) hp⟩
  · rename_i l el
    cases e
    obtain ⟨a, vs, rfl, ha, ra⟩ := read_lst O r1 el
    exact ⟨_, call_list_of, a, vs, rfl, .inl (SqL.of ha), fun p hp => k.new O (.lst ra) hp⟩
  · cases e
theorem cd_tuple : CD X T .tuple := by
  refine cd_case fun κ G st ds d xs H Q hL O r e k => ?_
  obtain ⟨x, rfl⟩ := blt1 (.inr (.inr (.inr (.inr (.inr rfl))))) e
  obtain ⟨v, rfl, r1⟩ := r.one
  simp only [bltD] at e
  split at e
  · rename_i l el
    cases e
    obtain ⟨a, vs, rfl, ha, ra⟩ := read_tup O r1 el
    refine ⟨_, callF_tuple, a, vs, rfl, .inr ⟨ha, ?_⟩⟩
    cases x with
    | tup m => cases (show D.tup m = .tup l from el); exact k.now O r1
    | cel kk => exact (read_tup_cel O r1 el).elim
    | _ => cases el
  · rename_i l el
    cases e
    obtain ⟨a, vs, rfl, ha, ra⟩ := read_lst O r1 el
    exact ⟨_, callF_tuple, a, vs, rfl, .inl ⟨SqL.of ha, fun p o hd hp => k.new O (.tup hd ra) hp⟩⟩
  · cases e
theorem cd_int : CD X T .int := by
  refine cd_case fun κ G st ds d xs H Q hL O r e k => ?_
  rcases ds with _ | ⟨x, _ | ⟨y, s⟩⟩
  · simp [bltD] at e
  · obtain ⟨v, rfl, r1⟩ := r.one
    cases x <;> simp only [bltD] at e <;> try contradiction
    · cases e
      cases r1
      exact ⟨_, call_int1, .inr ⟨_, rfl, k.now O (.int _)⟩⟩
    · cases e
      cases r1
      exact ⟨_, call_int1, .inl ⟨_, rfl, k.now O (.int _)⟩⟩
    · split at e
      case isFalse => cases e
      rename_i hz
      split at e
      · rename_i n en
        cases e
        cases r1
        exact ⟨_, call_int_str, _, n, rfl, en, hz, k.now O (.int _)⟩
      · cases e
  · cases x <;> simp [bltD] at e
theorem cd_divmod : CD X T .divmod := by
  refine cd_case fun κ G st ds d xs H Q hL O r e k => ?_
  rcases ds with _ | ⟨x, _ | ⟨y, _ | ⟨z, s⟩⟩⟩
  · simp [bltD] at e
  · cases x <;> simp [bltD] at e
  · cases x <;> cases y <;> simp only [bltD] at e <;> try contradiction
    split at e
    · rename_i h
      cases e
      obtain ⟨v, u, rfl, r1, r2⟩ := r.two
      cases r1; cases r2
      exact ⟨_, callF_divmod, _, _, rfl, h, fun p o hd hp => k.new O (.tup hd (.cons (.int _) (.cons (.int _) .nil))) hp⟩
    · cases e
  · cases x <;> cases y <;> simp [bltD] at e
theorem cd_gcd : CD X T .gcd := by
  refine cd_case fun κ G st ds d xs H Q hL O r e k => ?_
  rcases ds with _ | ⟨x, _ | ⟨y, _ | ⟨z, s⟩⟩⟩
  · simp [bltD] at e
  · cases x <;> simp [bltD] at e
  · cases x <;> cases y <;> simp only [bltD] at e <;> try contradiction
    cases e
    obtain ⟨v, u, rfl, r1, r2⟩ := r.two
    cases r1; cases r2
    exact ⟨_, cr_gcd, _, _, rfl, k.now O (.int _)⟩
  · cases x <;> cases y <;> simp [bltD] at e
theorem cd_str : CD X T .str := by
  refine cd_case fun κ G st ds d xs H Q hL O r e k => ?_
  rcases ds with _ | ⟨x, _ | ⟨y, s⟩⟩
  · simp [bltD] at e
  · obtain ⟨v, rfl, r1⟩ := r.one
    cases x <;> simp only [bltD] at e <;> try contradiction
    split at e
    case isFalse => cases e
    rename_i hz
    cases e
    cases r1
    exact ⟨_, call_str_int, _, rfl, hz, k.now O (.str _)⟩
  · cases x <;> simp [bltD] at e
theorem firsts_ok {α β : Type} {l : List (List α)} {g : α → PyData} (h : firsts l = true) : PySem.W.Sortable (l.map fun x => PyData.tuple (x.map g)) ∨ SortableE (l.map fun x => PyData.tuple (x.map g)) := by
  unfold firsts at h
  rw [Bool.or_eq_true] at h
  rcases h with h | h
  · refine .inl (.inl fun d hd => ?_)
    obtain ⟨x, hx, rfl⟩ := List.mem_map.mp hd
    have := List.all_eq_true.mp h x hx
    cases x with
    | nil => simp at this
    | cons a r => exact ⟨g a, r.map g, by simp⟩
  · cases l with
    | nil => exact .inl (.inl fun d hd => by simp at hd)
    | cons x l =>
      refine .inr ⟨fun d hd => ?_, ?_⟩
      · obtain ⟨x, hx, rfl⟩ := List.mem_map.mp hd
        exact ⟨_, rfl⟩
      · have : x = [] := by simpa using h
        subst this
        exact ⟨_, rfl⟩
theorem RpL.dpa {W : Wr} {κ : List Addr} {st : Sto} {G H : Hp} {β : Type} {f : β → D} {emb : β → PyData} {n : Nat} (O : Ok W κ st G H) (hf : ∀ b, (f b).ok n = true) (hp : ∀ b, (f b).py = emb b) {bs : List β} {vs : List V} (r : RpL W κ G vs (bs.map f)) : DpAll W.K H vs (bs.map emb) := by
  have := RpL.dp O (bs.map f) n vs (okL_map f n hf bs) r
  rwa [pyL_map f emb hp bs] at this
theorem cd_sorted (hu : X.A.units + 70 < cLine) : CD X T .sorted := by
  refine cd_case fun κ G st ds d xs H Q hL O r e k => ?_
  obtain ⟨x, rfl⟩ := blt1 (.inr (.inr (.inr (.inl rfl)))) e
  obtain ⟨v, rfl, r1⟩ := r.one
  simp only [bltD] at e
  have key : ∀ (l : List D) (a : Addr) (vs : List V), sortedD l = some d → v = .ref a → (SqL X.K H a vs ∨ SqT X.K H a vs) → RpL (T.W X.K) κ G vs l → ∃ r, CallR X (bltV .sorted) r ∧ r [v] H Q := by
    intro l a vs e ev hs ra
    subst ev
    unfold sortedD at e
    split at e
    · rename_i is ei
      cases e
      have el := intsOf_map ei
      subst el
      refine ⟨_, cr_sortedData hu, a, vs, is.map pI, rfl, hs, ra.dpa (n := 0) O (fun _ => rfl) (fun _ => rfl), ?_, .inl (.inr ?_), ?_, fun p hp => k.new O (.lst (ra.sort fun a b => ?_)) hp⟩
      · intro d hd d' hd'
        obtain ⟨i, _, rfl⟩ := List.mem_map.mp hd
        obtain ⟨j, _, rfl⟩ := List.mem_map.mp hd'
        rfl
      · intro d hd
        obtain ⟨i, _, rfl⟩ := List.mem_map.mp hd
        exact ⟨nofun, nofun⟩
      · intro d hd
        obtain ⟨i, _, rfl⟩ := List.mem_map.mp hd
        exact Nat.zero_le _
      · rw [pI_lt]; rfl
    · split at e
      · rename_i is ei
        split at e
        case isFalse => cases e
        rename_i hf
        cases e
        have el := ints1_map ei
        subst el
        refine ⟨_, cr_sortedData hu, a, vs, is.map p1, rfl, hs, ra.dpa (n := 1) O t1_ok t1_py, ?_, firsts_ok (g := pI) (β := Int) hf, ?_, fun p hp => k.new O (.lst (ra.sort fun a b => ?_)) hp⟩
        · intro d hd d' hd'
          obtain ⟨i, _, rfl⟩ := List.mem_map.mp hd
          obtain ⟨j, _, rfl⟩ := List.mem_map.mp hd'
          exact p1_alike i j
        · intro d hd
          obtain ⟨i, _, rfl⟩ := List.mem_map.mp hd
          exact Nat.le_trans (p1_depth i) (by decide)
        · rw [p1_lt]; rfl
      · split at e
        · rename_i is ei
          split at e
          case isFalse => cases e
          rename_i hf
          cases e
          have el := ints2_map ei
          subst el
          refine ⟨_, cr_sortedData hu, a, vs, is.map p2, rfl, hs, ra.dpa (n := 2) O t2_ok t2_py, ?_, firsts_ok (g := p1) (β := Int) hf, ?_, fun p hp => k.new O (.lst (ra.sort fun a b => ?_)) hp⟩
          · intro d hd d' hd'
            obtain ⟨i, _, rfl⟩ := List.mem_map.mp hd
            obtain ⟨j, _, rfl⟩ := List.mem_map.mp hd'
            exact p2_alike i j
          · intro d hd
            obtain ⟨i, _, rfl⟩ := List.mem_map.mp hd
            exact Nat.le_trans (p2_depth i) (by decide)
          · rw [p2_lt]; rfl
        · cases e
  split at e
  · rename_i l el
    obtain ⟨a, vs, ev, ha, ra⟩ := read_lst O r1 el
    exact key l a vs e ev (.inl (SqL.of ha)) ra
  · rename_i l el
    obtain ⟨a, vs, ev, ha, ra⟩ := read_tup O r1 el
    exact key l a vs e ev (.inr ha) ra
  · cases e
/-- len(set(x)) -/
theorem lenset_r {κ : List Addr} {G H : Hp} {st : Sto} {x : D} {v : V} {n : D} {Q : VK} (OO : Ok (T.W X.K) κ st G H) (r : Rp (T.W X.K) κ G v x) (e : bltD st .lenset [x] = some n) (k : KQ (T.W X.K) κ G H st n Q) : rLenSetT X.K v H Q := by
  simp only [bltD] at e
  have key : ∀ (l : List D) (a : Addr) (vs : List V), lensetD l = some n → v = .ref a → (SqL X.K H a vs ∨ SqT X.K H a vs) → RpL (T.W X.K) κ G vs l → rLenSetT X.K v H Q := by
    intro l a vs e ev hs ra
    subst ev
    unfold lensetD at e
    split at e
    · rename_i is ei
      split at e
      case isFalse => cases e
      rename_i hf
      cases e
      have el := ints1_map ei
      subst el
      have : ∀ {is : List (List Int)} {vs : List V}, RpL (T.W X.K) κ G vs (is.map t1) → ∃ ks : List (Addr × List Int), vs = ks.map (fun p => V.ref p.1) ∧ is = ks.map (·.2) ∧ ∀ p ∈ ks, SqT X.K H p.1 (p.2.map V.int) := by
        intro is
        induction is with
        | nil => intro vs r; cases r; exact ⟨[], rfl, rfl, fun p hp => by simp at hp⟩
        | cons i is ih =>
          intro vs r
          cases r with
          | cons r1 r2 =>
            obtain ⟨ks, h1, h2, h3⟩ := ih r2
            obtain ⟨b, ws, rfl, hb, rb⟩ := read_tup0 OO r1
            have : ∀ {i : List Int} {ws : List V}, RpL (T.W X.K) κ G ws (i.map D.int) → ws = i.map V.int := by
              intro i
              induction i with
              | nil => intro ws r; cases r; rfl
              | cons j i ih => intro ws r; cases r with | cons a b => cases a; rw [ih b]; rfl
            rw [this rb] at hb
            refine ⟨(b, i) :: ks, by simp [h1], by simp [h2], fun p hp => ?_⟩
            rcases List.mem_cons.mp hp with z | z
            · rw [z]; exact hb
            · exact h3 p z
      obtain ⟨ks, rfl, rfl, h3⟩ := this ra
      refine ⟨a, ks, rfl, hs, h3, by simpa using hf, fun L nd h4 h5 => ?_⟩
      have : L.Perm (unlike (ks.map (·.2))) := by
        refine (List.perm_ext_iff_of_nodup nd (unlike_nodup _)).mpr fun k => ?_
        rw [unlike_mem]
        refine ⟨h4 k, fun h => ?_⟩
        obtain ⟨p, hp, rfl⟩ := List.mem_map.mp h
        exact h5 p hp
      rw [this.length_eq]
      exact k.now OO (.int _)
    · cases e
  split at e
  · rename_i l el
    obtain ⟨a, vs, ev, ha, ra⟩ := read_lst OO r el
    exact key l a vs e ev (.inl (SqL.of ha)) ra
  · rename_i l el
    obtain ⟨a, vs, ev, ha, ra⟩ := read_tup OO r el
    exact key l a vs e ev (.inr ha) ra
  · cases e

/-! ### isinstance -/
def tys7 : List String := ["NoneType", "bool", "int", "str", "tuple", "list", "dict"]
def tys6 : List String := ["int", "bool", "str", "tuple", "list", "dict"]
theorem kit_all : ∀ t ∈ tys7, ∀ c ∈ tys6, kitB t c = isTy t c := by decide +kernel
theorem isTy_mem {t c : String} {b : Bool} (h : isTy t c = some b) : c ∈ tys6 := by
  unfold isTy at h
  unfold tys6
  repeat' split at h
  all_goals first | (cases h; done) | (subst_vars; simp)
theorem TyX.of {W : Wr} {κ : List Addr} {st : Sto} {G H : Hp} {x : V} {d : D} {t : String} (O : Ok W κ st G H) (r : Rp W κ G x d) (e : tyName st d = some t) : TyX W.K H x (.type t) ∧ t ∈ tys7 := by
  unfold tyName at e
  split at e
  · rename_i el
    cases e
    have := dr_self O r (by rw [el]; exact nofun) (by rw [el]; exact nofun) (by rw [el]; exact nofun)
    rw [el] at this; subst this; cases r
    exact ⟨.base .non, by decide⟩
  · rename_i el
    cases e
    have := dr_self O r (by rw [el]; exact nofun) (by rw [el]; exact nofun) (by rw [el]; exact nofun)
    rw [el] at this; subst this; cases r
    exact ⟨.base (.bl _), by decide⟩
  · rename_i el
    cases e
    have := dr_self O r (by rw [el]; exact nofun) (by rw [el]; exact nofun) (by rw [el]; exact nofun)
    rw [el] at this; subst this; cases r
    exact ⟨.base (.int _), by decide⟩
  · rename_i el
    cases e
    have := dr_self O r (by rw [el]; exact nofun) (by rw [el]; exact nofun) (by rw [el]; exact nofun)
    rw [el] at this; subst this; cases r
    exact ⟨.base (.str _), by decide⟩
  · rename_i el
    cases e
    have := dr_self O r (by rw [el]; exact nofun) (by rw [el]; exact nofun) (by rw [el]; exact nofun)
    rw [el] at this; subst this
    refine ⟨?_, by decide⟩
    cases r with
    | tup h1 h2 hd h3 => exact .fTuple (O.sub _ _ h2)
    | ktup h1 h2 hd h3 h4 h5 h6 => exact .kTuple h1 h2
  · rename_i el
    cases e
    obtain ⟨a, vs, rfl, ha, ra⟩ := read_lst O r el
    exact ⟨.base (.lst ha), by decide⟩
  · rename_i el
    cases e
    obtain ⟨a, vs, rfl, ha, ra⟩ := read_dK O r el
    exact ⟨.base (.dK ha), by decide⟩
  · rename_i el
    cases e
    obtain ⟨a, vs, rfl, ha, ra⟩ := read_dT O r el
    exact ⟨.base (.dT ha), by decide⟩
  · rename_i el
    cases e
    have := dr_self O r (by rw [el]; exact nofun) (by rw [el]; exact nofun) (by rw [el]; exact nofun)
    rw [el] at this; subst this
    refine ⟨?_, by decide⟩
    cases r with
    | scr h1 h2 h3 =>
      rcases h2 with z | ⟨o, z⟩
      · exact .base (.lst (O.sub _ _ z))
      · exact .base (.frz (O.sub _ _ z))
    | kscr h1 h2 h3 h4 h5 h6 h7 => exact .kList h1 h2
  · cases e
theorem isTys_kit {K : PySem.W.Frag} {W : Wr} {κ : List Addr} {G : Hp} {t : String} (ht : t ∈ tys7) : ∀ {l : List D} {b : Bool} {vs : List V}, isTys t l = some b → RpL W κ G vs l →
    ∃ us : List Value, Paired ClsV vs us ∧ PySem.W.kitAny K (.type t) us = some b
  | [], b, _, h, r => by
    cases r
    cases h
    exact ⟨[], .nil, kitAny_nil⟩
  | d :: l, b, _, h, r => by
    cases r with
    | cons r1 r2 =>
      cases d <;> simp only [isTys] at h <;> try contradiction
      rename_i c
      cases r1
      cases e1 : isTy t c with
      | none => rw [e1] at h; cases h
      | some p =>
        cases e2 : isTys t l with
        | none => rw [e1, e2] at h; cases h
        | some q =>
          rw [e1, e2] at h
          cases h
          obtain ⟨us, h1, h2⟩ := isTys_kit (K := K) ht e2 r2
          refine ⟨.type c :: us, .cons (.ty c) h1, kitAny_cons (b := p) (kit_ty ?_) (fun hp => ?_) (fun hp => ?_)⟩
          · rw [kit_all t ht c (isTy_mem e1)]; exact e1
          · subst hp; simpa using h2
          · subst hp; rfl
theorem blt_isinst (st : Sto) (x c : D) : bltD st .isinst [x, c] = (match tyName st x with
    | some t => (match c with
      | .ty n => (isTy t n).map .bl
      | .tup l => (isTys t l).map .bl
      | _ => none)
    | none => none) := by cases x <;> rfl
theorem cd_isinst : CD X T .isinst := by
  refine cd_case fun κ G st ds d xs H Q hL O r e k => ?_
  rcases ds with _ | ⟨x, _ | ⟨c, _ | ⟨z, s⟩⟩⟩
  · simp [bltD] at e
  · cases x <;> simp [bltD] at e
  · obtain ⟨v, u, rfl, r1, r2⟩ := r.two
    rw [blt_isinst] at e
    cases et : tyName st x with
    | none => rw [et] at e; cases e
    | some t =>
      rw [et] at e
      obtain ⟨ty, ht⟩ := TyX.of O r1 et
      cases c <;> try contradiction
      · rename_i l
        simp only at e
        cases ei : isTys t l with
        | none => rw [ei] at e; cases e
        | some b =>
          rw [ei] at e; cases e
          cases r2 with
          | tup h1 h2 hd h3 =>
            obtain ⟨us, q1, q2⟩ := isTys_kit (K := X.K) ht ei h3
            exact ⟨_, callF_isiT, v, _, _, _, _, us, b, rfl, O.sub _ _ h2, q1, ty, q2, k.now O (.bl _)⟩
          | @ktup a vs ds o its n h1 h2 hd h3 h4 h5 h6 =>
            obtain ⟨us, q1, q2⟩ := isTys_kit (K := X.K) ht ei h6
            have eu := ClsV.all q1 h5
            obtain ⟨oc, od, dt, sl⟩ := o
            simp only at h2 h3
            subst h2 h3
            exact ⟨_, call_isiK, v, a, od, us, n, sl, _, b, rfl, by rw [← eu, Array.toArray_toList]; exact h1, ty, q2, k.now O (.bl _)⟩
      · rename_i n
        simp only at e
        cases ei : isTy t n with
        | none => rw [ei] at e; cases e
        | some b =>
          rw [ei] at e; cases e
          cases r2
          exact ⟨_, call_isi, v, _, _, .type n, b, rfl, .ty n, ty, kit_ty (by rw [kit_all t ht n (isTy_mem ei)]; exact ei), k.now O (.bl _)⟩
  · cases x <;> simp [bltD] at e
theorem cd_D (hc : X.calm = true) (hu : X.A.units + 70 < cLine) : ∀ b, b ≠ .lenset → CD X T b
  | .len, _ => cd_len | .abs, _ => cd_abs | .min, _ => cd_min hc (by omega) | .max, _ => cd_max hc (by omega) | .all, _ => cd_all hc | .any, _ => cd_any hc | .sum, _ => cd_sum hc | .list, _ => cd_list | .tuple, _ => cd_tuple
  | .int, _ => cd_int | .divmod, _ => cd_divmod | .gcd, _ => cd_gcd | .isinst, _ => cd_isinst | .str, _ => cd_str | .sorted, _ => cd_sorted hu | .lenset, h => absurd rfl h
end
end Ev


set_option Elab.async false
set_option linter.all false
set_option maxRecDepth 100000
set_option maxHeartbeats 4000000
/-! EvM: methods, stores, by data. -/
namespace Ev
open PySem PySem.Spec PyProof.Rows L2
section
variable {X : Cx} {T : Tab}
/-- a method's call by data; C: the receiver's class -/
def rMD (W : Wr) (m : Mt) (C : String) : V → List V → Hp → VK → Prop := fun x xs H Q => ∃ κ G st dx ds d st', Ok W κ st G H ∧ Rp W κ G x dx ∧ RpL W κ G xs ds ∧ mtT st m dx = some C ∧ mtD st m dx ds = some (d, st') ∧ KQ W κ G H st' d Q
theorem getk_of {W : Wr} {κ : List Addr} {st : Sto} {G H : Hp} {x : V} {k : Nat} (O : Ok W κ st G H) (r : Rp W κ G x (.cel k)) : ∃ a, x = .ref a ∧ κ[k]? = some a := by
  cases r with | cel h => exact ⟨_, rfl, h⟩
/-- behind a write -/
theorem KQ.wrote {W : Wr} {κ : List Addr} {st : Sto} {G H : Hp} {a : Addr} {k : Nat} {o : HO} {c d : D} {v : V} {Q : VK} (kq : KQ W κ G H (st.set k c) d Q) (O : Ok W κ st G H) (hk : κ[k]? = some a) (r : HoRp W κ G o c) (hc : ∀ ds, c ≠ .tup ds) (rv : Rp W κ G v d) : Q v (upd H a o) := by
  obtain ⟨O1, S1⟩ := O.write hk r hc
  exact kq v _ _ _ S1 O1 (rv.mono O S1)
theorem mt_case {m : Mt} {C id : String}
    (h : ∀ (κ : List Addr) (G : Hp) (st : Sto) (dx : D) (ds : List D) (d : D) (st' : Sto) (x : V) (xs : List V) (H : Hp) (Q : VK), HLen H → Ok (T.W X.K) κ st G H → Rp (T.W X.K) κ G x dx → RpL (T.W X.K) κ G xs ds → mtT st m dx = some C → mtD st m dx ds = some (d, st') → KQ (T.W X.K) κ G H st' d Q → ∃ r, MtR X id r ∧ r x xs H Q) : MtR X id (rMD (T.W X.K) m C) := by
  intro pins s σ H x xs v us Q I rx rxs q
  obtain ⟨κ, G, st, dx, ds, d, st', O, r1, r2, e0, e, kq⟩ := q
  obtain ⟨r, o, q⟩ := h κ G st dx ds d st' x xs H Q (hlen_of I) O r1 r2 e0 e kq
  exact o pins s σ H x xs v us Q I rx rxs q
theorem cell_lst {W : Wr} {κ : List Addr} {st : Sto} {G H : Hp} {x : V} {k : Nat} {l : List D} (O : Ok W κ st G H) (r : Rp W κ G x (.cel k)) (e : st[k]? = some (.lst l)) : ∃ a vs, x = .ref a ∧ κ[k]? = some a ∧ H a = some (.lst vs) ∧ RpL W κ G vs l := by
  obtain ⟨a, rfl, hk⟩ := getk_of O r
  obtain ⟨vs, h1, h2⟩ := O.cell k a _ hk e
  exact ⟨a, vs, rfl, hk, O.sub _ _ h1, h2⟩
theorem cell_dK {W : Wr} {κ : List Addr} {st : Sto} {G H : Hp} {x : V} {k : Nat} {l : List (Ky × D)} (O : Ok W κ st G H) (r : Rp W κ G x (.cel k)) (e : st[k]? = some (.dK l)) : ∃ a kvs, x = .ref a ∧ κ[k]? = some a ∧ H a = some (.dK kvs) ∧ RpK W κ G kvs l := by
  obtain ⟨a, rfl, hk⟩ := getk_of O r
  obtain ⟨vs, h1, h2⟩ := O.cell k a _ hk e
  exact ⟨a, vs, rfl, hk, O.sub _ _ h1, h2⟩
theorem md_append : MtR X "list.append" (rMD (T.W X.K) .append "list") := by
  refine mt_case fun κ G st dx ds d st' x xs H Q hL O r r2 e0 e k => ?_
  unfold mtD at e
  cases dx <;> rcases ds with _ | ⟨y, _ | ⟨z, s⟩⟩ <;> simp only at e <;> try contradiction
  split at e
  · rename_i l el
    split at e
    · rename_i hl
      cases e
      obtain ⟨a, vs, rfl, hk, ha, ra⟩ := cell_lst O r el
      obtain ⟨v, rfl, r3⟩ := r2.one
      exact ⟨_, mt_append, a, vs, v, rfl, rfl, ha, by rw [ra.length]; exact hl, k.wrote O hk (.lst (ra.append (.cons r3 .nil))) nofun .non⟩
    · cases e
  · cases e
theorem md_extend : MtR X "list.extend" (rMD (T.W X.K) .extend "list") := by
  refine mt_case fun κ G st dx ds d st' x xs H Q hL O r r2 e0 e k => ?_
  unfold mtD at e
  cases dx <;> rcases ds with _ | ⟨y, _ | ⟨z, s⟩⟩ <;> simp only at e <;> try contradiction
  split at e
  · rename_i l m el
    split at e
    · rename_i hl
      cases e
      obtain ⟨a, vs, rfl, hk, ha, ra⟩ := cell_lst O r el
      obtain ⟨v, rfl, r3⟩ := r2.one
      cases r3 with
      | lst h1 h2 h3 =>
        exact ⟨_, mt_extend, a, _, vs, _, rfl, rfl, ha, O.sub _ _ h2, by rw [ra.length, h3.length]; exact hl, k.wrote O hk (.lst (ra.append h3)) nofun .non⟩
    · cases e
  · cases e
theorem ixN_lt {n : Nat} {i : Int} {j : Nat} (h : Ev.ixN n i = some j) (hn : n ≤ sizeLine) : -(2 ^ 63) ≤ i ∧ i < 2 ^ 63 ∧ seqIndex? i n = some j := by
  obtain ⟨h1, h2, h3, h4⟩ := L2.ixN_seq (show L2.ixN n i = some j from h)
  have := line63
  refine ⟨?_, ?_, h1⟩ <;> omega
theorem RpL.take_drop {W : Wr} {κ : List Addr} {G : Hp} {vs : List V} {l : List D} {v : V} {d : D} (r : RpL W κ G vs l) (rv : Rp W κ G v d) (n : Nat) : RpL W κ G (vs.take n ++ [v] ++ vs.drop n) (l.take n ++ d :: l.drop n) := by
  rw [List.append_assoc]
  exact (r.take n).append (.cons rv (r.drop n))
theorem md_insert : MtR X "list.insert" (rMD (T.W X.K) .insert "list") := by
  refine mt_case fun κ G st dx ds d st' x xs H Q hL O r r2 e0 e k => ?_
  rcases ds with _ | ⟨i, _ | ⟨y, _ | ⟨z, s⟩⟩⟩
  · cases dx <;> simp [mtD] at e
  · cases dx <;> cases i <;> simp [mtD] at e
  · cases dx <;> cases i <;> simp only [mtD] at e <;> try contradiction
    split at e
    · rename_i l el
      split at e
      · rename_i h
        cases e
        obtain ⟨h0, h1, hl⟩ := h
        obtain ⟨a, vs, rfl, hk, ha, ra⟩ := cell_lst O r el
        obtain ⟨u, v, rfl, r3, r4⟩ := r2.two
        cases r3
        have hz := hL.1 a vs ha
        have hle := ra.length
        have hln : line = sizeLine := rfl
        have := line63
        exact ⟨_, mt_insert, a, vs, _, v, rfl, rfl, ha, by rw [ra.length]; exact hl, h0, by omega, k.wrote O hk (.lst (ra.take_drop r4 _)) nofun .non⟩
      · cases e
    · cases e
  · cases dx <;> cases i <;> simp [mtD] at e
theorem md_pop : MtR X "list.pop" (rMD (T.W X.K) .pop "list") := by
  refine mt_case fun κ G st dx ds d st' x xs H Q hL O r r2 e0 e k => ?_
  rcases ds with _ | ⟨i, _ | ⟨y, s⟩⟩
  · cases dx <;> simp [mtD] at e
  · cases dx <;> cases i <;> simp only [mtD] at e <;> try contradiction
    split at e
    · rename_i l el
      split at e
      · rename_i j ej
        split at e
        · rename_i d' ed
          cases e
          obtain ⟨a, vs, rfl, hk, ha, ra⟩ := cell_lst O r el
          obtain ⟨u, rfl, r3⟩ := r2.one
          cases r3
          obtain ⟨v, hv, rv⟩ := ra.get ed
          obtain ⟨b1, b2, b3⟩ := ixN_lt (n := l.length) ej (by rw [← ra.length]; exact hL.1 a vs ha)
          exact ⟨_, mt_popAt, a, vs, _, j, v, rfl, rfl, ha, b1, b2, by rw [ra.length]; exact b3, hv, k.wrote O hk (.lst (ra.eraseIdx j)) nofun rv⟩
        · cases e
      · cases e
    · cases e
  · cases dx <;> cases i <;> simp [mtD] at e
theorem RpK.merge {W : Wr} {κ : List Addr} {G : Hp} {more : List (L2.Key × V)} {m : List (Ky × D)} (r : RpK W κ G more m) : ∀ {kvs : List (L2.Key × V)} {l : List (Ky × D)}, RpK W κ G kvs l → RpK W κ G (mergeK kvs more) (m.foldl (fun a p => Ev.put a p.1 p.2) l) := by
  induction m generalizing more with
  | nil => cases r; exact fun r' => r'
  | cons p m ih =>
    intro kvs l r'
    cases r with
    | cons h1 h2 => exact ih h2 (r'.put h1)
theorem md_update : MtR X "dict.update" (rMD (T.W X.K) .update "dict") := by
  refine mt_case fun κ G st dx ds d st' x xs H Q hL O r r2 e0 e k => ?_
  unfold mtD at e
  cases dx <;> rcases ds with _ | ⟨y, _ | ⟨z, s⟩⟩ <;> simp only at e <;> try contradiction
  split at e
  · rename_i l m el
    split at e
    · rename_i hl
      cases e
      obtain ⟨a, kvs, rfl, hk, ha, ra⟩ := cell_dK O r el
      obtain ⟨v, rfl, r3⟩ := r2.one
      cases r3 with
      | @dK b more _ h1 h2 h3 =>
        refine ⟨_, mt_update, a, b, kvs, more, rfl, rfl, fun e => h1 (e ▸ List.mem_of_getElem? hk), ha, O.sub _ _ h2, by rw [ra.length, h3.length]; exact hl, k.wrote O hk (.dK (h3.merge ra)) nofun .non⟩
    · cases e
  · cases e
theorem pyL_get : ∀ (l : List D) (j : Nat), (pyL l)[j]? = l[j]?.map D.py
  | [], j => by simp [pyL]
  | d :: l, 0 => by simp [pyL]
  | d :: l, j + 1 => by simpa [pyL] using pyL_get l j
theorem find_first {x : D} {l : List D} {j : Nat} (h1 : x.ok 64 = true) (h2 : okL l 63 = true) (h : (l.findIdx? fun y => y.eqb x) = some j) :
    ∃ z, (pyL l)[j]? = some z ∧ PyData.eqv z x.py = true ∧ ∀ (m : Nat) (z' : PyData), m < j → (pyL l)[m]? = some z' → PyData.eqv z' x.py = false := by
  obtain ⟨hj, hy, hn⟩ := List.findIdx?_eq_some_iff_getElem.mp h
  refine ⟨(l[j]).py, by rw [pyL_get, List.getElem?_eq_getElem hj]; rfl, ?_, fun m z' hm hz => ?_⟩
  · rw [D.eqb_py _ x 63 64 (okL_mem h2 _ (List.getElem_mem hj)) h1]; exact hy
  · have hml : m < l.length := Nat.lt_trans hm hj
    rw [pyL_get, List.getElem?_eq_getElem hml] at hz
    cases hz
    rw [D.eqb_py _ x 63 64 (okL_mem h2 _ (List.getElem_mem hml)) h1]
    simpa using hn m hm
theorem md_indexL (hu : X.A.units + 65 < cLine) : MtR X "list.index" (rMD (T.W X.K) .index "list") := by
  refine mt_case fun κ G st dx ds d st' x xs H Q hL O r r2 e0 e k => ?_
  rcases ds with _ | ⟨y, _ | ⟨z, s⟩⟩
  · simp [mtD] at e
  · simp only [mtD] at e
    simp only [mtT] at e0
    split at e
    · rename_i l el
      rw [el] at e0; simp at e0
    · rename_i l el
      split at e
      · rename_i h
        simp only [Bool.and_eq_true] at h
        split at e
        · rename_i j ej
          cases e
          obtain ⟨v, rfl, r3⟩ := r2.one
          obtain ⟨z, f1, f2, f3⟩ := find_first h.1 h.2 ej
          have dp := Rp.dpr O r (n := 64) (by rw [el]; exact ok_lst h.2)
          rw [el] at dp
          obtain ⟨a, vs, rfl, ha, ra⟩ := read_lst O r el
          exact ⟨_, mt_indexD hu, a, v, y.py, pyL l, j, z, rfl, rfl, dp, Rp.dp O _ 64 _ h.1 r3, D.ok_shaped (d := .lst l) (ok_lst h.2) (Nat.le_refl _), D.ok_shaped h.1 (Nat.le_refl _), f1, f2, f3, k.now O (.int _)⟩
        · cases e
      · cases e
    · cases e
  · simp [mtD] at e
theorem md_indexT (hu : X.A.units + 65 < cLine) : MtR X "tuple.index" (rMD (T.W X.K) .index "tuple") := by
  refine mt_case fun κ G st dx ds d st' x xs H Q hL O r r2 e0 e k => ?_
  rcases ds with _ | ⟨y, _ | ⟨z, s⟩⟩
  · simp [mtD] at e
  · simp only [mtD] at e
    simp only [mtT] at e0
    split at e
    · rename_i l el
      split at e
      · rename_i h
        simp only [Bool.and_eq_true] at h
        split at e
        · rename_i j ej
          cases e
          obtain ⟨v, rfl, r3⟩ := r2.one
          obtain ⟨z, f1, f2, f3⟩ := find_first h.1 h.2 ej
          have dp := Rp.dpr O r (n := 64) (by rw [el]; exact ok_tup h.2)
          rw [el] at dp
          obtain ⟨a, vs, rfl, ha, ra⟩ := read_tup O r el
          exact ⟨_, mt_indexT hu, a, v, y.py, pyL l, j, z, rfl, rfl, dp, Rp.dp O _ 64 _ h.1 r3, D.ok_shaped (d := .tup l) (ok_tup h.2) (Nat.le_refl _), D.ok_shaped h.1 (Nat.le_refl _), f1, f2, f3, k.now O (.int _)⟩
        · cases e
      · cases e
    · rename_i l el
      rw [el] at e0; simp at e0
    · cases e
  · simp [mtD] at e
theorem RpL.strs : ∀ {W : Wr} {κ : List Addr} {G : Hp} {l : List D} {ys : List Str} {vs : List V}, strsOf l = some ys → RpL W κ G vs l → vs = ys.map V.str
  | _, _, _, [], _, _, h, r => by cases h; cases r; rfl
  | W, κ, G, d :: l, _, _, h, r => by
    cases r with
    | cons r1 r2 =>
      cases d <;> simp only [strsOf] at h <;> try contradiction
      cases e : strsOf l with
      | none => rw [e] at h; cases h
      | some js => rw [e] at h; cases h; cases r1; rw [RpL.strs e r2]; rfl
theorem RpL.ofStrs {W : Wr} {κ : List Addr} {G : Hp} : ∀ ys : List Str, RpL W κ G (ys.map V.str) (ys.map D.str)
  | [] => .nil
  | y :: ys => .cons (.str y) (RpL.ofStrs ys)
theorem md_join : MtR X "str.join" (rMD (T.W X.K) .join "str") := by
  refine mt_case fun κ G st dx ds d st' x xs H Q hL O r r2 e0 e k => ?_
  rcases ds with _ | ⟨y, _ | ⟨z, s⟩⟩
  · cases dx <;> simp [mtD] at e
  · cases dx <;> simp only [mtD] at e <;> try contradiction
    cases r
    obtain ⟨v, rfl, r3⟩ := r2.one
    split at e
    · rename_i l el
      split at e
      · rename_i ys ey
        split at e
        · rename_i hz
          cases e
          obtain ⟨a, vs, rfl, ha, ra⟩ := read_lst O r3 el
          rw [RpL.strs ey ra] at ha
          exact ⟨_, mt_join, _, a, ys, rfl, rfl, .inl (SqL.of ha), hz, k.now O (.str _)⟩
        · cases e
      · cases e
    · rename_i l el
      split at e
      · rename_i ys ey
        split at e
        · rename_i hz
          cases e
          obtain ⟨a, vs, rfl, ha, ra⟩ := read_tup O r3 el
          rw [RpL.strs ey ra] at ha
          exact ⟨_, mt_join, _, a, ys, rfl, rfl, .inr ha, hz, k.now O (.str _)⟩
        · cases e
      · cases e
    · cases e
  · cases dx <;> simp [mtD] at e
theorem md_split : MtR X "str.split" (rMD (T.W X.K) .split "str") := by
  refine mt_case fun κ G st dx ds d st' x xs H Q hL O r r2 e0 e k => ?_
  rcases ds with _ | ⟨y, _ | ⟨z, s⟩⟩
  · cases dx <;> simp [mtD] at e
  · cases dx <;> cases y <;> simp only [mtD] at e <;> try contradiction
    split at e
    · rename_i hz
      cases e
      cases r
      obtain ⟨v, rfl, r3⟩ := r2.one
      cases r3
      exact ⟨_, mt_split, _, _, rfl, rfl, hz.1, hz.2, fun p hp => k.new O (.lst (RpL.ofStrs _)) hp⟩
    · cases e
  · cases dx <;> cases y <;> simp [mtD] at e
theorem md_endswith : MtR X "str.endswith" (rMD (T.W X.K) .endswith "str") := by
  refine mt_case fun κ G st dx ds d st' x xs H Q hL O r r2 e0 e k => ?_
  rcases ds with _ | ⟨y, _ | ⟨z, s⟩⟩
  · cases dx <;> simp [mtD] at e
  · cases dx <;> cases y <;> simp only [mtD] at e <;> try contradiction
    cases e
    cases r
    obtain ⟨v, rfl, r3⟩ := r2.one
    cases r3
    exact ⟨_, mt_endswith, _, _, rfl, rfl, k.now O (.bl _)⟩
  · cases dx <;> cases y <;> simp [mtD] at e
def mtN : Mt → Str
  | .join => "join" | .split => "split" | .endswith => "endswith"
  | .append => "append" | .extend => "extend" | .insert => "insert" | .pop => "pop" | .index => "index" | .update => "update"
/-- what the text and the library must know of a method -/
structure MtOk (X : Cx) (T : Tab) (m : Mt) (C id : String) : Prop where
  pa : PlainAttrs C
  slot : Slot C (mtN m) id
  ty : typeOf (.builtin id) = pure (.type "method_descriptor")
  mt : MtR X id (rMD (T.W X.K) m C)
theorem mt_ok (hu : X.A.units + 65 < cLine) {st : Sto} {m : Mt} {d : D} {C : String} (h : mtT st m d = some C) : ∃ id, MtOk X T m C id := by
  unfold mtT at h
  split at h
  · split at h <;> cases h; exact ⟨_, F.plainAttrs_list, F.slot_list_append, F.type_list_append, md_append⟩
  · split at h <;> cases h; exact ⟨_, F.plainAttrs_list, F.slot_list_extend, F.type_list_extend, md_extend⟩
  · split at h <;> cases h; exact ⟨_, F.plainAttrs_list, F.slot_list_insert, F.type_list_insert, md_insert⟩
  · split at h <;> cases h; exact ⟨_, F.plainAttrs_list, F.slot_list_pop, F.type_list_pop, md_pop⟩
  · split at h
    · cases h; exact ⟨_, F.plainAttrs_tuple, F.slot_tuple_index, F.type_tuple_index, md_indexT hu⟩
    · cases h; exact ⟨_, F.plainAttrs_list, F.slot_list_index, F.type_list_index, md_indexL hu⟩
    · cases h
  · split at h <;> cases h; exact ⟨_, F.plainAttrs_dict, F.slot_dict_update, F.type_dict_update, md_update⟩
  · cases h; exact ⟨_, F.plainAttrs_str, F.slot_str_join, F.type_str_join, md_join⟩
  · cases h; exact ⟨_, F.plainAttrs_str, F.slot_str_split, F.type_str_split, md_split⟩
  · cases h; exact ⟨_, F.plainAttrs_str, F.slot_str_endswith, F.type_str_endswith, md_endswith⟩
  · cases h
/-- the receiver's class -/
def TyC (K : PySem.W.Frag) (C : String) (x : V) (H : Hp) : Prop := tyV K C x H ∨ (C = "tuple" ∧ ∃ a o xs, x = .ref a ∧ H a = some (.frz o (.tup xs)) ∧ o.dict = none)
theorem tyC_is {pins : List (Addr × Obj)} {σ : L2.St} {H : Hp} {s : Shared} {C : String} {x : V} {v : Value} (I : Inv X pins σ H s) (r : RelV x v) (ty : TyC X.K C x H) :
    s.TypeIs v C ∧ ∀ a, v = .ref a → ∃ ob, s.heap.get? a = some ob ∧ ob.dict = none := by
  rcases ty with ty | ⟨rfl, a, o, xs, rfl, h, hd⟩
  · exact tyV_is I r ty
  · cases r
    obtain ⟨h1, h2, its, rv, o', e, hc, n, hdt⟩ := (show ObjOk X.prog X.w H s.heap a (.frz o (.tup xs)) from I.hok a _ h)
    exact ⟨⟨o', e, hc⟩, fun b e => by cases e; exact ⟨o, h1, hd⟩⟩
theorem tyC_of {W : Wr} {κ : List Addr} {st : Sto} {G H : Hp} {x : V} {m : Mt} {d : D} {C : String} (O : Ok W κ st G H) (r : Rp W κ G x d) (h : mtT st m d = some C) : TyC W.K C x H := by
  unfold mtT at h
  split at h
  · split at h <;> cases h; rename_i el; obtain ⟨a, vs, rfl, hk, ha, ra⟩ := cell_lst O r el; exact .inl (.inl ⟨rfl, _, SqL.of ha⟩)
  · split at h <;> cases h; rename_i el; obtain ⟨a, vs, rfl, hk, ha, ra⟩ := cell_lst O r el; exact .inl (.inl ⟨rfl, _, SqL.of ha⟩)
  · split at h <;> cases h; rename_i el; obtain ⟨a, vs, rfl, hk, ha, ra⟩ := cell_lst O r el; exact .inl (.inl ⟨rfl, _, SqL.of ha⟩)
  · split at h <;> cases h; rename_i el; obtain ⟨a, vs, rfl, hk, ha, ra⟩ := cell_lst O r el; exact .inl (.inl ⟨rfl, _, SqL.of ha⟩)
  · split at h
    · rename_i l el
      cases h
      cases d with
      | tup l' =>
        cases r with
        | tup h1 h2 hd h3 => exact .inr ⟨rfl, _, _, _, rfl, O.sub _ _ h2, hd⟩
        | ktup h1 h2 hd h3 h4 h5 h6 => exact .inl (.inr (.inl ⟨rfl, _, h1, h2, hd⟩))
      | cel kk => exact (read_tup_cel O r el).elim
      | _ => cases el
    · rename_i l el
      cases h
      obtain ⟨a, vs, rfl, ha, ra⟩ := read_lst O r el
      exact .inl (.inl ⟨rfl, _, SqL.of ha⟩)
    · cases h
  · split at h <;> cases h; rename_i el; obtain ⟨a, vs, rfl, hk, ha, ra⟩ := cell_dK O r el; exact .inl (.inr (.inr (.inl ⟨rfl, .inl ⟨_, ha⟩⟩)))
  · cases h; cases r; exact .inl rfl
  · cases h; cases r; exact .inl rfl
  · cases h; cases r; exact .inl rfl
  · cases h
/-- the class told ahead of the arguments stays -/
theorem mtT_stay {W : Wr} {κ κ' : List Addr} {st st' : Sto} {G G' H H' : Hp} {x x' : V} {m : Mt} {d : D} {C : String} {ds : List D} {r' : D × Sto} (O : Ok W κ st G H) (r : Rp W κ G x d) (O' : Ok W κ' st' G' H') (r2 : Rp W κ' G' x' d) (h : mtT st m d = some C) (e : mtD st' m d ds = some r') : mtT st' m d = some C := by
  have key : ∀ k : Nat, d = .cel k → ∀ c, st'[k]? = some c → ∀ l, c ≠ .tup l := fun k hk c hc l hl => by
    subst hk hl
    obtain ⟨a, _, q⟩ := getk_of O' r2
    exact (O'.cell k a _ q hc).elim
  have key1 : ∀ k : Nat, d = .cel k → ∀ l, dr st d ≠ .tup l := fun k hk l hl => by subst hk; exact read_tup_cel O r hl
  have key2 : ∀ k : Nat, d = .cel k → ∀ l, dr st' d ≠ .tup l := fun k hk l hl => by subst hk; exact read_tup_cel O' r2 hl
  cases m with
  | join => cases d <;> simp only [mtT] at h ⊢ <;> first | exact h | contradiction
  | split => cases d <;> simp only [mtT] at h ⊢ <;> first | exact h | contradiction
  | endswith => cases d <;> simp only [mtT] at h ⊢ <;> first | exact h | contradiction
  | append => 
    cases d <;> simp only [mtT] at h <;> try contradiction
    simp only [mtT]
    split at h <;> cases h
    unfold mtD at e
    rcases ds with _ | ⟨y, _ | ⟨z, s⟩⟩ <;> simp only at e <;> try contradiction
    split at e
    · rename_i l el; first | rfl | rw [el]
    · cases e
  | extend => 
    cases d <;> simp only [mtT] at h <;> try contradiction
    simp only [mtT]
    split at h <;> cases h
    unfold mtD at e
    rcases ds with _ | ⟨y, _ | ⟨z, s⟩⟩ <;> simp only at e <;> try contradiction
    split at e
    · rename_i l m el; first | rfl | rw [el]
    · cases e
  | insert => 
    cases d <;> simp only [mtT] at h <;> try contradiction
    simp only [mtT]
    split at h <;> cases h
    rcases ds with _ | ⟨y, _ | ⟨z, _ | ⟨w, s⟩⟩⟩
    · simp [mtD] at e
    · cases y <;> simp [mtD] at e
    · cases y <;> simp only [mtD] at e <;> try contradiction
      split at e
      · rename_i l el; first | rfl | rw [el]
      · cases e
    · cases y <;> simp [mtD] at e
  | pop => 
    cases d <;> simp only [mtT] at h <;> try contradiction
    simp only [mtT]
    split at h <;> cases h
    rcases ds with _ | ⟨y, _ | ⟨z, s⟩⟩
    · simp [mtD] at e
    · cases y <;> simp only [mtD] at e <;> try contradiction
      split at e
      · rename_i l el; first | rfl | rw [el]
      · cases e
    · cases y <;> simp [mtD] at e
  | index => 
    simp only [mtT] at h ⊢
    rcases ds with _ | ⟨y, _ | ⟨z, s⟩⟩
    · simp [mtD] at e
    · simp only [mtD] at e
      split at e
      · rename_i l el
        try rw [el]
        cases d with
        | cel k => exact absurd el (key2 k rfl l)
        | tup l' => exact h
        | _ => cases el
      · rename_i l el
        try rw [el]
        cases d with
        | cel k =>
          split at h
          · rename_i l' el'; exact absurd el' (key1 k rfl l')
          · exact h
          · cases h
        | lst l' => exact h
        | _ => cases el
      · cases e
    · simp [mtD] at e
  | update => 
    cases d <;> simp only [mtT] at h <;> try contradiction
    simp only [mtT]
    split at h <;> cases h
    unfold mtD at e
    rcases ds with _ | ⟨y, _ | ⟨z, s⟩⟩ <;> simp only at e <;> try contradiction
    split at e
    · rename_i l m el; first | rfl | rw [el]
    · cases e
/-- o.m(e, ..) -/
theorem pe_mt (hu : X.A.units + 65 < cLine) {m : Mt} {o e : Expr} {es : List Expr} {to : TE} {t : TA} {apos cpos : Pos} (ho : PE X o to) (ha : PA X (e :: es) t)
    (hbase : attributeBase o (mtN m) X.env (eval o X.env) = eval o X.env)
    (hfew : ((backTo cpos (starEach (e :: es) X.env)).all (fun x => !x.1) && (backToKw cpos (keywordEach [] X.env)).all (fun x => x.1.isSome)
      && decide ((e :: es).length + ([] : List Keyword).length + (if ([] : List Keyword).isEmpty then 0 else 1) < 30)) = true)
    (hline : (apos.endLine == cpos.line) = true) (hs : starEach (e :: es) X.env = (false, eval e X.env) :: starEach es X.env) (hplain : (backTo cpos (starEach es X.env)).any (·.1) = false) :
    PE X (.Call (.Attribute o (mtN m) apos) (e :: es) [] cpos) (fun σ H Q => to σ H fun x H1 => ∃ (κ : List Addr) (G : Hp) (st : Sto) (d : D) (C : String), Ok (T.W X.K) κ st G H1 ∧ Rp (T.W X.K) κ G x d ∧ mtT st m d = some C ∧ t σ H1 fun xs H2 => rMD (T.W X.K) m C x xs H2 Q) := by
  refine ⟨fun pins s σ H Q I h => ?_⟩
  refine wpAny_Call_method_late hbase hfew hline rfl (thn (ho.run pins s σ H _ I h) fun v s1 ⟨x, H1, I1, r1, q⟩ => ?_)
  obtain ⟨κ, G, st, d, C, O, rd, eC, q1⟩ := q
  obtain ⟨id, M⟩ := mt_ok (X := X) (T := T) hu eC
  obtain ⟨h1, h2⟩ := tyC_is I1 r1 (tyC_of O rd eC)
  refine ⟨C, id, M.pa, M.slot, M.ty, h1, h2, ?_⟩
  have hA := ha.run cpos pins s1 σ H1 _ I1 q1
  rw [hs] at hA ⊢
  refine Calls.callWith_builtin (by show (false || (backTo cpos (starEach es X.env)).any (·.1)) = false; rw [hplain] <;> rfl) (Calls.evalArgs_plain ?_)
  exact thn hA fun us s2 ⟨vs, H2, I2, r2, q2⟩ => M.mt pins s2 σ H2 x vs v us Q I2 r1 r2 q2

/-! ### o[i] = v -/
def tSetD (W : Wr) : TSet := fun o i v H Q => ∃ κ G st dO di dv st', Ok W κ st G H ∧ Rp W κ G o dO ∧ Rp W κ G i di ∧ Rp W κ G v dv ∧ setD st dO di dv = some st' ∧ ∀ G' H', Stp κ G H κ G' H' → Ok W κ st' G' H' → Q H'
theorem set_D (hu : X.A.units + 1 < cLine) : PSet X (tSetD (T.W X.K)) := by
  intro pins s σ H o i v ov iv u Q I ro ri rv h
  obtain ⟨κ, G, st, dO, di, dv, st', O, r1, r2, r3, e, k⟩ := h
  unfold setD at e
  split at e
  · rename_i kk
    split at e
    · rename_i l el
      split at e
      · rename_i ii
        split at e
        · rename_i j ej
          cases e
          obtain ⟨a, vs, rfl, hk, ha, ra⟩ := cell_lst O r1 el
          cases r2
          obtain ⟨O1, S1⟩ := O.write (o := .lst (vs.set j v)) hk (.lst (ra.set r3 j)) nofun
          exact set_list pins s σ H _ _ v ov iv u Q I ro ri rv ⟨a, vs, ii, j, rfl, rfl, ha, by rw [ra.length]; exact ej, k _ _ S1 O1⟩
        · cases e
      · cases e
    · rename_i l el
      split at e
      · rename_i q eq
        split at e
        · rename_i hl
          cases e
          obtain ⟨a, kvs, rfl, hk, ha, ra⟩ := cell_dK O r1 el
          obtain rfl := r2.key eq
          obtain ⟨O1, S1⟩ := O.write (o := .dK (putK kvs q v)) hk (.dK (ra.put r3)) nofun
          cases ro
          exact d_setItem hu I (DPut.k ha (by rw [ra.length]; exact hl)) ri rv fun s' I' => ⟨_, I', k _ _ S1 O1⟩
        · cases e
      · cases e
    · cases e
  · cases e
end
end Ev


set_option Elab.async false
set_option linter.all false
set_option maxRecDepth 100000
set_option maxHeartbeats 4000000
/-! EvN: readings of expressions by data; fresh objects. -/
namespace Ev
open PySem PySem.Spec PyProof.Rows L2
section
variable {W : Wr} {κ κ0 : List Addr} {st st0 : Sto} {G H G0 H0 : Hp} {p : Addr} {o : HO}
/-- a hidden object is changed -/
theorem Ok.poke (O : Ok W κ st G H) (hg : G p = none) : Ok W κ st G (upd H p o) :=
  ⟨fun a u h => by rw [upd_ne (fun e => by rw [e, hg] at h; cases h)]; exact O.sub a u h, O.len, O.nd, O.cell⟩
theorem Stp.poke (S : Stp κ0 G0 H0 κ G H) (h0 : H0 p = none) : Stp κ0 G0 H0 κ G (upd H p o) :=
  ⟨S.pre, S.keep, fun a u h g => by rw [upd_ne (fun e => by rw [e, h0] at h; cases h)]; exact S.hid a u h g, fun a u h => by rw [upd_ne (fun e => by rw [e, h0] at h; cases h)]; exact S.there a u h⟩
/-- .. seen from a state in which it stood already, hidden -/
theorem Stp.hidden {κ1 : List Addr} {G1 H1 : Hp} (S : Stp κ0 G0 H0 κ G H) {u : HO} (h : H0 p = some u) (g : G0 p = none) : H p = some u ∧ G p = none := S.hid p u h g
theorem Ok.gnone (O : Ok W κ st G H) (hp : H p = none) : G p = none := by
  cases q : G p with
  | none => rfl
  | some u => have := O.sub p u q; rw [hp] at this; cases this
theorem Ok.notCell (O : Ok W κ st G H) (gp : G p = none) : p ∉ κ := fun hm => by
  obtain ⟨u, hu⟩ := O.cellIn hm
  rw [gp] at hu; cases hu
end
section
variable (W : Wr)
/-- a new object, hidden, is the value -/
def KN (κ : List Addr) (G H : Hp) (st : Sto) (d : D) (Q : VK) : Prop := ∀ p o κ' G' H', Stp κ G H κ' G' H' → Ok W κ' st G' H' → H p = none → G' p = none → H' p = some o → HoRp W κ' G' o d → Q (.ref p) H'
def tN (f : Fr → Sto → Option (D × Sto)) : TE := fun σ H Q => ∃ φ st κ G d st', FrOk W κ G φ σ ∧ Ok W κ st G H ∧ f φ st = some (d, st') ∧ KN W κ G H st' d Q
def tO (f : Fr → Sto → Option (Option Int × Sto)) : TO := fun σ H Q => ∃ φ st κ G d st', FrOk W κ G φ σ ∧ Ok W κ st G H ∧ f φ st = some (d, st') ∧ ∀ κ' G' H', Stp κ G H κ' G' H' → Ok W κ' st' G' H' → Q d H'
end
section
variable {W : Wr} {κ κ0 : List Addr} {st st0 : Sto} {G H G0 H0 : Hp} {Q : VK}
theorem KQ.kn {d : D} (k : KQ W κ G H st d Q) (O : Ok W κ st0 G H) : KN W κ G H st d Q := by
  intro p o κ' G' H' S O' h0 g hp r
  obtain ⟨G2, O2, S2, r2⟩ := reveal O S O' g h0 (O'.notCell g) hp r
  exact k _ _ _ _ S2 O2 r2
theorem KQ.kc {d : D} (k : KQ W κ G H (st ++ [d]) (.cel st.length) Q) (O : Ok W κ st0 G H) (hd : ∀ l, d ≠ .tup l) : KN W κ G H st d Q := by
  intro p o κ' G' H' S O' h0 g hp r
  obtain ⟨G2, O2, S2, r2⟩ := recell O S O' g h0 (O'.notCell g) hp r hd
  exact k _ _ _ _ S2 O2 r2
theorem KN.new {p : Addr} {o : HO} {d : D} (k : KN W κ G H st d Q) (O : Ok W κ st G H) (r : HoRp W κ G o d) (hp : H p = none) : Q (.ref p) (upd H p o) := by
  obtain ⟨O1, S1⟩ := O.hide (o := o) hp
  exact k p o κ G _ S1 O1 hp (O.gnone hp) upd_same r
theorem KN.from {st1 : Sto} {κ1 : List Addr} {G1 H1 : Hp} {d : D} (k : KN W κ G H st d Q) (O : Ok W κ st1 G H) (S : Stp κ G H κ1 G1 H1) : KN W κ1 G1 H1 st d Q := by
  intro p o κ' G' H' S' O' h0 g hp r
  refine k p o κ' G' H' (S.trans O S') O' ?_ g hp r
  cases q : H p with
  | none => rfl
  | some u => obtain ⟨u', z⟩ := S.there p u q; rw [h0] at z; cases z
end
section
variable {X : Cx} {T : Tab} {E : En}
abbrev DE (X : Cx) (T : Tab) (E : En) (x : Ex) (e : Expr) : Prop := PE X e (tD (T.W X.K) (evE E x))
abbrev DN (X : Cx) (T : Tab) (E : En) (x : Ex) (e : Expr) : Prop := PE X e (tN (T.W X.K) (evE E x))
abbrev DA (X : Cx) (T : Tab) (E : En) (xs : List Ex) (es : List Expr) : Prop := PA X es (tA (T.W X.K) (evEs E xs))
abbrev DT (X : Cx) (T : Tab) (E : En) (x : Ex) (e : Expr) : Prop := PT X e (tDT (T.W X.K) (evE E x))
abbrev DO (X : Cx) (T : Tab) (E : En) (l : List Ex) (e : Option Expr) : Prop := PO X e (tO (T.W X.K) (evO E l))
theorem DN.de {x : Ex} {e : Expr} (h : DN X T E x e) : DE X T E x e := PE.imp h fun σ H Q ⟨φ, st, κ, G, d, st', F, O, e, k⟩ => ⟨φ, st, κ, G, d, st', F, O, e, k.kn O⟩
/-- what is fresh is no tuple -/
theorem fresh_ntup {x : Ex} (h : fresh x = true) {φ : Fr} {st st' : Sto} {d : D} (e : evE E x φ st = some (d, st')) : ∀ l, d ≠ .tup l := by
  intro l
  cases x <;> simp only [fresh] at h <;> try contradiction
  · unfold evE at e; split at e <;> (try split at e) <;> first | (cases e; done) | (cases e; exact nofun)
  · unfold evE at e; split at e <;> (try split at e) <;> first | (cases e; done) | (cases e; exact nofun)
  · unfold evE at e; cases e; exact nofun
  · unfold evE at e; split at e <;> (try split at e) <;> first | (cases e; done) | (cases e; exact nofun)
  · unfold evE at e; split at e <;> (try split at e) <;> first | (cases e; done) | (cases e; exact nofun)
  · unfold evE at e; split at e <;> (try split at e) <;> (try split at e) <;> first | (cases e; done) | (cases e; exact nofun)
  · unfold evE at e; split at e <;> (try split at e) <;> (try split at e) <;> (try split at e) <;> first | (cases e; done) | (cases e; exact nofun)
theorem DN.mk {x : Ex} {e : Expr} (h : DN X T E x e) (hf : fresh x = true) : DE X T E (.mk x) e := by
  refine PE.imp h fun σ H Q ⟨φ, st, κ, G, d, st', F, O, e, k⟩ => ?_
  unfold evE at e
  rw [if_pos hf] at e
  cases e1 : evE E x φ st with
  | none => rw [e1] at e; cases e
  | some q =>
    obtain ⟨d1, st1⟩ := q
    rw [e1] at e
    cases e
    exact ⟨φ, st, κ, G, d1, st1, F, O, e1, k.kc O (fresh_ntup hf e1)⟩
end
end Ev


set_option Elab.async false
set_option linter.all false
set_option maxRecDepth 100000
set_option maxHeartbeats 200000
/-! EvE: expressions, by data. -/
namespace Ev
open PySem PySem.Spec PyProof.Rows L2
section
variable {X : Cx} {T : Tab} {E : En}
theorem de_var {i : Nat} {x : Str} {pos : Pos} (hN : X.N[i]? = some x) (hv : Vis X.env.scope x) (hd : (x == ("__debug__" : Str)) = false) (hcd : (x == ("__classdict__" : Str)) = false) : DE X T E (.var i) (.Name x pos) := by
  refine PE.imp (pe_var hN hv hd hcd) fun σ H Q ⟨φ, st, κ, G, d, st', F, O, e, k⟩ => ?_
  unfold evE at e
  split at e
  · rename_i d' ed
    cases e
    obtain ⟨v, h1, h2⟩ := F.at_ i _ ed
    exact ⟨v, h1, k.now O h2⟩
  · cases e
theorem de_glob {k : Nat} {x : Str} {v : V} {u : Value} {d : D} {pos : Pos} (hg : Gl X x) (hm : X.mg x = some u) (r : RelV v u) (hd : (x == ("__debug__" : Str)) = false) (hk : E.G[k]? = some d) (rp : ∀ κ G, Rp (T.W X.K) κ G v d) : DE X T E (.glob k) (.Name x pos) := by
  refine PE.imp (pe_glob hg hm r hd) fun σ H Q ⟨φ, st, κ, G, d', st', F, O, e, kq⟩ => ?_
  unfold evE at e
  rw [hk] at e
  cases e
  exact kq.now O (rp κ G)
theorem de_bty {x : Str} {n : String} {pos : Pos} (hg : Gl X x) (hm : X.mg x = none) (hv : bootBuiltins x = some (.type n)) (hn : x ≠ "__name__") (hd : (x == ("__debug__" : Str)) = false) : DE X T E (.bty n) (.Name x pos) := by
  refine PE.imp (pe_bltn (v := .ty n) hg hm hv rfl hn hd) fun σ H Q ⟨φ, st, κ, G, d', st', F, O, e, kq⟩ => ?_
  unfold evE at e
  cases e
  exact kq.now O (.ty n)
theorem de_non {j pos} : DE X T E .non (.Constant .none j pos) := by
  refine PE.imp pe_non fun σ H Q ⟨φ, st, κ, G, d', st', F, O, e, kq⟩ => ?_
  unfold evE at e; cases e; exact kq.now O .non
theorem de_bl {b j pos} : DE X T E (.bl b) (.Constant (.bool b) j pos) := by
  refine PE.imp pe_bl fun σ H Q ⟨φ, st, κ, G, d', st', F, O, e, kq⟩ => ?_
  unfold evE at e; cases e; exact kq.now O (.bl _)
theorem de_int {i j pos} : DE X T E (.int i) (.Constant (.int i) j pos) := by
  refine PE.imp pe_int fun σ H Q ⟨φ, st, κ, G, d', st', F, O, e, kq⟩ => ?_
  unfold evE at e; cases e; exact kq.now O (.int _)
theorem de_str {i j pos} : DE X T E (.str i) (.Constant (.str i) j pos) := by
  refine PE.imp pe_str fun σ H Q ⟨φ, st, κ, G, d', st', F, O, e, kq⟩ => ?_
  unfold evE at e; cases e; exact kq.now O (.str _)
theorem ite_t {A B : Prop} (h : A) : if true = true then A else B := by rw [if_pos rfl]; exact h
theorem ite_f {A B : Prop} (h : B) : if false = true then A else B := by rw [if_neg Bool.false_ne_true]; exact h
/-- two operands in a row, then an operation by data -/
theorem two {σ : L2.St} {H : Hp} {Q : VK} {φ : Fr} {st st1 st2 : Sto} {κ : List Addr} {G : Hp} {a b : Ex} {x y d : D} {k : Sto → D → D → Option D} (F : FrOk (T.W X.K) κ G φ σ) (O : Ok (T.W X.K) κ st G H)
    (e1 : evE E a φ st = some (x, st1)) (e2 : evE E b φ st1 = some (y, st2)) (e3 : k st2 x y = some d) (kq : KQ (T.W X.K) κ G H st2 d Q) :
    tOp (rD (T.W X.K) k) (tD (T.W X.K) (evE E a)) (tD (T.W X.K) (evE E b)) σ H Q :=
  ⟨φ, st, κ, G, x, st1, F, O, e1, fun v κ1 G1 H1 S1 O1 r1 => ⟨φ, st1, κ1, G1, y, st2, F.mono O S1, O1, e2, fun u κ2 G2 H2 S2 O2 r2 =>
    ⟨κ2, G2, st2, x, y, d, O2, r1.mono O1 S2, r2, e3, kq.from O (S1.trans O S2)⟩⟩⟩
theorem de_bin {o : B2} {x y : Ex} {a b : Expr} {pos : Pos} (ha : DE X T E x a) (hb : DE X T E y b) : DE X T E (.bin o x y) (.BinOp a (opOf o) b pos) := by
  refine PE.imp (pe_op (op_binD (T := T) o) ha hb) fun σ H Q ⟨φ, st, κ, G, d, st', F, O, e, kq⟩ => ?_
  unfold evE at e
  split at e
  · rename_i x1 st1 e1
    split at e
    · rename_i y1 st2 e2
      split at e
      · rename_i d1 e3
        cases e
        exact two (k := fun st => binD st o) F O e1 e2 e3 kq
      · cases e
    · cases e
  · cases e
theorem cmpV_some {k : Sto → D → D → Option Bool} {st : Sto} {x y : D} {b : Bool} (h : k st x y = some b) : cmpV k st x y = some (.bl b) := by unfold cmpV; rw [h]; rfl
theorem de_cmp (hu : X.A.units + 65 < cLine) {o : C2} {x y : Ex} {a b : Expr} {pos : Pos} (ha : DE X T E x a) (hb : DE X T E y b) (hm : behindInMarks (cmOf o) b = false) : DE X T E (.cmp o x y) (.Compare a [cmOf o] [b] pos) := by
  refine PE.imp (pe_cmpR (op_cmpD (T := T) hu o) ha hb hm) fun σ H Q ⟨φ, st, κ, G, d, st', F, O, e, kq⟩ => ?_
  unfold evE at e
  split at e
  · rename_i x1 st1 e1
    split at e
    · rename_i y1 st2 e2
      split at e
      · rename_i d1 e3
        cases e
        exact two (k := cmpV fun st => cmpD st o) F O e1 e2 (cmpV_some e3) kq
      · cases e
    · cases e
  · cases e
theorem de_chain (hu : X.A.units + 65 < cLine) {o o' : C2} {x y z : Ex} {a b c : Expr} {pos : Pos} (ha : DE X T E x a) (hb : DE X T E y b) (hc : DE X T E z c) (hm : lastMarks [cmOf o, cmOf o'] [b, c] = false) : DE X T E (.chain o o' x y z) (.Compare a [cmOf o, cmOf o'] [b, c] pos) := by
  refine PE.imp (pe_chain (op_cmpD (T := T) hu o) (op_cmpD (T := T) hu o') ha hb hc hm) fun σ H Q ⟨φ, st, κ, G, d, st', F, O, e, kq⟩ => ?_
  unfold evE at e
  split at e
  · rename_i x1 st1 e1
    split at e
    · rename_i y1 st2 e2
      refine ⟨φ, st, κ, G, x1, st1, F, O, e1, fun v κ1 G1 H1 S1 O1 r1 => ⟨φ, st1, κ1, G1, y1, st2, F.mono O S1, O1, e2, fun u κ2 G2 H2 S2 O2 r2 => ?_⟩⟩
      split at e
      · rename_i e3
        split at e
        · rename_i z1 st3 e4
          split at e
          · rename_i d1 e5
            cases e
            refine ⟨κ2, G2, st2, x1, y1, .bl true, O2, r1.mono O1 S2, r2, cmpV_some e3, fun w κ3 G3 H3 S3 O3 r3 => ?_⟩
            cases r3
            refine ⟨true, rfl, ?_⟩
            refine ite_t ?_
            refine ⟨φ, st2, κ3, G3, z1, st', ((F.mono O S1).mono O1 S2).mono O2 S3, O3, e4, fun w' κ4 G4 H4 S4 O4 r4 => ?_⟩
            exact ⟨κ4, G4, st', y1, z1, .bl d1, O4, (r2.mono O2 S3).mono O3 S4, r4, cmpV_some e5, kq.from O (((S1.trans O S2).trans O S3).trans O S4)⟩
          · cases e
        · cases e
      · rename_i e3
        cases e
        refine ⟨κ2, G2, st', x1, y1, .bl false, O2, r1.mono O1 S2, r2, cmpV_some e3, fun w κ3 G3 H3 S3 O3 r3 => ?_⟩
        cases r3
        refine ⟨false, rfl, ?_⟩
        refine ite_f ?_
        exact (kq.from O ((S1.trans O S2).trans O S3)).now O3 (.bl _)
      · cases e
    · cases e
  · cases e
theorem de_neg {x : Ex} {a : Expr} {pos : Pos} (ha : DE X T E x a) : DE X T E (.neg x) (.UnaryOp .USub a pos) := by
  refine PE.imp (pe_un un_neg ha) fun σ H Q ⟨φ, st, κ, G, d, st', F, O, e, kq⟩ => ?_
  unfold evE at e
  split at e
  · rename_i i st1 e1
    cases e
    refine ⟨φ, st, κ, G, _, _, F, O, e1, fun v κ1 G1 H1 S1 O1 r1 => ?_⟩
    cases r1
    exact ⟨i, rfl, (kq.from O S1).now O1 (.int _)⟩
  · cases e
theorem de_not {x : Ex} {a : Expr} {pos : Pos} (ha : DE X T E x a) : DE X T E (.not x) (.UnaryOp .Not a pos) := by
  refine PE.imp (pe_not ha) fun σ H Q ⟨φ, st, κ, G, d, st', F, O, e, kq⟩ => ?_
  unfold evE at e
  split at e
  · rename_i i st1 e1
    cases e
    refine ⟨φ, st, κ, G, _, _, F, O, e1, fun v κ1 G1 H1 S1 O1 r1 => ?_⟩
    cases r1
    exact ⟨i, rfl, (kq.from O S1).now O1 (.bl _)⟩
  · cases e
abbrev DAnd (X : Cx) (T : Tab) (E : En) (xs : List Ex) (e : Expr) : Prop := PE X e (tD (T.W X.K) (evAnd E xs))
abbrev DOr (X : Cx) (T : Tab) (E : En) (xs : List Ex) (e : Expr) : Prop := PE X e (tD (T.W X.K) (evOr E xs))
theorem de_and1 {x : Ex} {a : Expr} {pos : Pos} (ha : DE X T E x a) : DAnd X T E [x] (.BoolOp .And [a] pos) := by
  refine PE.imp (pe_one ha) fun σ H Q ⟨φ, st, κ, G, d, st', F, O, e, kq⟩ => ⟨φ, st, κ, G, d, st', F, O, by unfold evAnd at e; exact e, kq⟩
theorem de_or1 {x : Ex} {a : Expr} {pos : Pos} (ha : DE X T E x a) : DOr X T E [x] (.BoolOp .Or [a] pos) := by
  refine PE.imp (pe_one ha) fun σ H Q ⟨φ, st, κ, G, d, st', F, O, e, kq⟩ => ⟨φ, st, κ, G, d, st', F, O, by unfold evOr at e; exact e, kq⟩
theorem de_andC {x y : Ex} {xs : List Ex} {a b : Expr} {rest : List Expr} {pos : Pos} (ha : DE X T E x a) (hb : DAnd X T E (y :: xs) (.BoolOp .And (b :: rest) pos)) : DAnd X T E (x :: y :: xs) (.BoolOp .And (a :: b :: rest) pos) := by
  refine PE.imp (pe_and ha hb) fun σ H Q ⟨φ, st, κ, G, d, st', F, O, e, kq⟩ => ?_
  unfold evAnd at e
  split at e
  · rename_i st1 e1
    refine ⟨φ, st, κ, G, _, _, F, O, e1, fun v κ1 G1 H1 S1 O1 r1 => ?_⟩
    cases r1
    refine ⟨true, rfl, ?_⟩
    refine ite_t ?_
    exact ⟨φ, st1, κ1, G1, d, st', F.mono O S1, O1, e, kq.from O S1⟩
  · rename_i st1 e1
    cases e
    refine ⟨φ, st, κ, G, _, _, F, O, e1, fun v κ1 G1 H1 S1 O1 r1 => ?_⟩
    cases r1
    refine ⟨false, rfl, ?_⟩
    refine ite_f ?_
    exact (kq.from O S1).now O1 (.bl _)
  · cases e
theorem de_orC {x y : Ex} {xs : List Ex} {a b : Expr} {rest : List Expr} {pos : Pos} (ha : DE X T E x a) (hb : DOr X T E (y :: xs) (.BoolOp .Or (b :: rest) pos)) : DOr X T E (x :: y :: xs) (.BoolOp .Or (a :: b :: rest) pos) := by
  refine PE.imp (pe_or ha hb) fun σ H Q ⟨φ, st, κ, G, d, st', F, O, e, kq⟩ => ?_
  unfold evOr at e
  split at e
  · rename_i st1 e1
    refine ⟨φ, st, κ, G, _, _, F, O, e1, fun v κ1 G1 H1 S1 O1 r1 => ?_⟩
    cases r1
    refine ⟨false, rfl, ?_⟩
    refine ite_f ?_
    exact ⟨φ, st1, κ1, G1, d, st', F.mono O S1, O1, e, kq.from O S1⟩
  · rename_i st1 e1
    cases e
    refine ⟨φ, st, κ, G, _, _, F, O, e1, fun v κ1 G1 H1 S1 O1 r1 => ?_⟩
    cases r1
    refine ⟨true, rfl, ?_⟩
    refine ite_t ?_
    exact (kq.from O S1).now O1 (.bl _)
  · cases e
theorem de_and {xs : List Ex} {e : Expr} (h : DAnd X T E xs e) : DE X T E (.and xs) e := PE.imp h fun σ H Q ⟨φ, st, κ, G, d, st', F, O, e, kq⟩ => ⟨φ, st, κ, G, d, st', F, O, by unfold evE at e; exact e, kq⟩
theorem de_or {xs : List Ex} {e : Expr} (h : DOr X T E xs e) : DE X T E (.or xs) e := PE.imp h fun σ H Q ⟨φ, st, κ, G, d, st', F, O, e, kq⟩ => ⟨φ, st, κ, G, d, st', F, O, by unfold evE at e; exact e, kq⟩

/-! ### tests -/
theorem KT.from {W : Wr} {κ κ1 : List Addr} {st st1 : Sto} {G H G1 H1 : Hp} {b : Bool} {Q : Bool → Hp → Prop} (k : KT W κ G H st b Q) (O : Ok W κ st1 G H) (S : Stp κ G H κ1 G1 H1) : KT W κ1 G1 H1 st b Q :=
  fun κ' G' H' S' O' => k κ' G' H' (S.trans O S') O'
theorem KT.now {W : Wr} {κ : List Addr} {st : Sto} {G H : Hp} {b : Bool} {Q : Bool → Hp → Prop} (k : KT W κ G H st b Q) (O : Ok W κ st G H) : Q b H := k κ G H Stp.refl O
/-- an expression that is tested by its value -/
theorem dt_val {x : Ex} {e : Expr} (h : DE X T E x e) (he : ∀ whole, isTrue e X.env whole = (do let v ← whole; standAt e.pos; holding [v] (truthy v))) : DT X T E x e := by
  refine PT.imp (pt_val h he) fun σ H Q ⟨φ, st, κ, G, b, st', F, O, e, kq⟩ => ?_
  refine ⟨φ, st, κ, G, _, _, F, O, e, fun v κ1 G1 H1 S1 O1 r1 => ?_⟩
  cases r1
  exact ⟨b, rfl, (kq.from O S1).now O1⟩
theorem dt_cmp (hu : X.A.units + 65 < cLine) {o : C2} {x y : Ex} {a b : Expr} {pos : Pos} (ha : DE X T E x a) (hb : DE X T E y b) (hm : behindInMarks (cmOf o) b = false) : DT X T E (.cmp o x y) (.Compare a [cmOf o] [b] pos) := by
  refine PT.imp (pt_cmpR (op_cmpD (T := T) hu o) ha hb hm) fun σ H Q ⟨φ, st, κ, G, d, st', F, O, e, kq⟩ => ?_
  unfold evE at e
  split at e
  · rename_i x1 st1 e1
    split at e
    · rename_i y1 st2 e2
      split at e
      · rename_i d1 e3
        cases e
        refine two (k := cmpV fun st => cmpD st o) (d := .bl d) F O e1 e2 (cmpV_some e3) fun v κ1 G1 H1 S1 O1 r1 => ?_
        cases r1
        exact ⟨d, rfl, (kq.from O S1).now O1⟩
      · cases e
    · cases e
  · cases e
theorem dt_chain (hu : X.A.units + 65 < cLine) {o o' : C2} {x y z : Ex} {a b c : Expr} {pos : Pos} (ha : DE X T E x a) (hb : DE X T E y b) (hc : DE X T E z c) (hm : lastMarks [cmOf o, cmOf o'] [b, c] = false) : DT X T E (.chain o o' x y z) (.Compare a [cmOf o, cmOf o'] [b, c] pos) := by
  refine PT.imp (pt_chain (op_cmpD (T := T) hu o) (op_cmpD (T := T) hu o') ha hb hc hm) fun σ H Q ⟨φ, st, κ, G, d, st', F, O, e, kq⟩ => ?_
  unfold evE at e
  split at e
  · rename_i x1 st1 e1
    split at e
    · rename_i y1 st2 e2
      refine ⟨φ, st, κ, G, x1, st1, F, O, e1, fun v κ1 G1 H1 S1 O1 r1 => ⟨φ, st1, κ1, G1, y1, st2, F.mono O S1, O1, e2, fun u κ2 G2 H2 S2 O2 r2 => ?_⟩⟩
      split at e
      · rename_i e3
        split at e
        · rename_i z1 st3 e4
          split at e
          · rename_i d1 e5
            cases e
            refine ⟨κ2, G2, st2, x1, y1, .bl true, O2, r1.mono O1 S2, r2, cmpV_some e3, fun w κ3 G3 H3 S3 O3 r3 => ?_⟩
            cases r3
            refine ⟨true, rfl, ?_⟩
            refine ite_t ?_
            refine ⟨φ, st2, κ3, G3, z1, st', ((F.mono O S1).mono O1 S2).mono O2 S3, O3, e4, fun w' κ4 G4 H4 S4 O4 r4 => ?_⟩
            refine ⟨κ4, G4, st', y1, z1, .bl d, O4, (r2.mono O2 S3).mono O3 S4, r4, cmpV_some e5, fun v κ5 G5 H5 S5 O5 r5 => ?_⟩
            cases r5
            exact ⟨d, rfl, (kq.from O ((((S1.trans O S2).trans O S3).trans O S4).trans O S5)).now O5⟩
          · cases e
        · cases e
      · rename_i e3
        cases e
        refine ⟨κ2, G2, st', x1, y1, .bl false, O2, r1.mono O1 S2, r2, cmpV_some e3, fun w κ3 G3 H3 S3 O3 r3 => ?_⟩
        cases r3
        refine ⟨false, rfl, ?_⟩
        refine ite_f ?_
        exact ⟨false, rfl, (kq.from O ((S1.trans O S2).trans O S3)).now O3⟩
      · cases e
    · cases e
  · cases e
theorem dt_not {x : Ex} {a : Expr} {pos : Pos} (ha : DT X T E x a) : DT X T E (.not x) (.UnaryOp .Not a pos) := by
  refine PT.imp (pt_not ha) fun σ H Q ⟨φ, st, κ, G, d, st', F, O, e, kq⟩ => ?_
  unfold evE at e
  split at e
  · rename_i i st1 e1
    cases e
    exact ⟨φ, st, κ, G, _, _, F, O, e1, kq⟩
  · cases e
abbrev WAnd (X : Cx) (T : Tab) (E : En) (xs : List Ex) (e : Expr) : Prop := PW X e (tDT (T.W X.K) (evAnd E xs))
abbrev WOr (X : Cx) (T : Tab) (E : En) (xs : List Ex) (e : Expr) : Prop := PW X e (tDT (T.W X.K) (evOr E xs))
theorem PW.imp {X : Cx} {e : Expr} {t t' : TT} (h : PW X e t) (i : ∀ σ H Q, t' σ H Q → t σ H Q) : PW X e t' := ⟨fun whole pins s σ H Q I q => h.run whole pins s σ H Q I (i σ H Q q)⟩
theorem w_and1 {x : Ex} {a : Expr} {pos : Pos} (ha : DT X T E x a) : WAnd X T E [x] (.BoolOp .And [a] pos) :=
  PW.imp (pw_and1 ha) fun σ H Q ⟨φ, st, κ, G, d, st', F, O, e, kq⟩ => ⟨φ, st, κ, G, d, st', F, O, by unfold evAnd at e; exact e, kq⟩
theorem w_or1 {x : Ex} {a : Expr} {pos : Pos} (ha : DT X T E x a) : WOr X T E [x] (.BoolOp .Or [a] pos) :=
  PW.imp (pw_or1 ha) fun σ H Q ⟨φ, st, κ, G, d, st', F, O, e, kq⟩ => ⟨φ, st, κ, G, d, st', F, O, by unfold evOr at e; exact e, kq⟩
theorem w_andC {x y : Ex} {xs : List Ex} {a b : Expr} {rest : List Expr} {pos : Pos} (ha : DT X T E x a) (hb : WAnd X T E (y :: xs) (.BoolOp .And (b :: rest) pos)) : WAnd X T E (x :: y :: xs) (.BoolOp .And (a :: b :: rest) pos) := by
  refine PW.imp (pw_and ha hb) fun σ H Q ⟨φ, st, κ, G, d, st', F, O, e, kq⟩ => ?_
  unfold evAnd at e
  split at e
  · rename_i st1 e1
    refine ⟨φ, st, κ, G, _, _, F, O, e1, fun κ1 G1 H1 S1 O1 => ?_⟩
    refine ite_t ?_
    exact ⟨φ, st1, κ1, G1, d, st', F.mono O S1, O1, e, kq.from O S1⟩
  · rename_i st1 e1
    cases e
    refine ⟨φ, st, κ, G, _, _, F, O, e1, fun κ1 G1 H1 S1 O1 => ?_⟩
    refine ite_f ?_
    exact (kq.from O S1).now O1
  · cases e
theorem w_orC {x y : Ex} {xs : List Ex} {a b : Expr} {rest : List Expr} {pos : Pos} (ha : DT X T E x a) (hb : WOr X T E (y :: xs) (.BoolOp .Or (b :: rest) pos)) : WOr X T E (x :: y :: xs) (.BoolOp .Or (a :: b :: rest) pos) := by
  refine PW.imp (pw_or ha hb) fun σ H Q ⟨φ, st, κ, G, d, st', F, O, e, kq⟩ => ?_
  unfold evOr at e
  split at e
  · rename_i st1 e1
    refine ⟨φ, st, κ, G, _, _, F, O, e1, fun κ1 G1 H1 S1 O1 => ?_⟩
    refine ite_f ?_
    exact ⟨φ, st1, κ1, G1, d, st', F.mono O S1, O1, e, kq.from O S1⟩
  · rename_i st1 e1
    cases e
    refine ⟨φ, st, κ, G, _, _, F, O, e1, fun κ1 G1 H1 S1 O1 => ?_⟩
    refine ite_t ?_
    exact (kq.from O S1).now O1
  · cases e
theorem dt_and {xs : List Ex} {e : Expr} (h : WAnd X T E xs e) : DT X T E (.and xs) e := PT.imp h.pt fun σ H Q ⟨φ, st, κ, G, d, st', F, O, e, kq⟩ => ⟨φ, st, κ, G, d, st', F, O, by unfold evE at e; exact e, kq⟩
theorem dt_or {xs : List Ex} {e : Expr} (h : WOr X T E xs e) : DT X T E (.or xs) e := PT.imp h.pt fun σ H Q ⟨φ, st, κ, G, d, st', F, O, e, kq⟩ => ⟨φ, st, κ, G, d, st', F, O, by unfold evE at e; exact e, kq⟩
theorem de_ife {c x y : Ex} {t a b : Expr} {pos : Pos} (ht : DT X T E c t) (ha : DE X T E x a) (hb : DE X T E y b) : DE X T E (.ife c x y) (.IfExp t a b pos) := by
  refine PE.imp (pe_ifExp ht ha hb) fun σ H Q ⟨φ, st, κ, G, d, st', F, O, e, kq⟩ => ?_
  unfold evE at e
  split at e
  · rename_i st1 e1
    refine ⟨φ, st, κ, G, _, _, F, O, e1, fun κ1 G1 H1 S1 O1 => ?_⟩
    refine ite_t ?_
    exact ⟨φ, st1, κ1, G1, d, st', F.mono O S1, O1, e, kq.from O S1⟩
  · rename_i st1 e1
    refine ⟨φ, st, κ, G, _, _, F, O, e1, fun κ1 G1 H1 S1 O1 => ?_⟩
    refine ite_f ?_
    exact ⟨φ, st1, κ1, G1, d, st', F.mono O S1, O1, e, kq.from O S1⟩
  · cases e
theorem de_ix (hu : X.A.units + 1 < cLine) {x y : Ex} {a b : Expr} {pos : Pos} (ha : DE X T E x a) (hb : DE X T E y b) (hs : PlainIx b) : DE X T E (.ix x y) (.Subscript a b pos) := by
  refine PE.imp (pe_ix (ix_D (T := T) hu) ha hb hs) fun σ H Q ⟨φ, st, κ, G, d, st', F, O, e, kq⟩ => ?_
  unfold evE at e
  split at e
  · rename_i x1 st1 e1
    split at e
    · rename_i y1 st2 e2
      split at e
      · rename_i d1 e3
        cases e
        exact two (k := ixD) F O e1 e2 e3 kq
      · cases e
    · cases e
  · cases e
theorem PO.imp {X : Cx} {e : Option Expr} {t t' : TO} (h : PO X e t) (i : ∀ σ H Q, t' σ H Q → t σ H Q) : PO X e t' := ⟨fun pins s σ H Q I q => h.run pins s σ H Q I (i σ H Q q)⟩
theorem do_none : DO X T E [] none := PO.imp po_none fun σ H Q ⟨φ, st, κ, G, d, st', F, O, e, kq⟩ => by
  unfold evO at e; cases e; exact kq _ _ _ Stp.refl O
theorem do_some {x : Ex} {a : Expr} (ha : DE X T E x a) : DO X T E [x] (some a) := PO.imp (po_some ha) fun σ H Q ⟨φ, st, κ, G, d, st', F, O, e, kq⟩ => by
  unfold evO at e
  split at e
  · rename_i i st1 e1
    cases e
    refine ⟨φ, st, κ, G, _, _, F, O, e1, fun v κ1 G1 H1 S1 O1 r1 => ?_⟩
    cases r1
    exact ⟨i, rfl, kq _ _ _ S1 O1⟩
  · cases e
theorem de_sl {x : Ex} {lo hi : List Ex} {a : Expr} {l h : Option Expr} {p2 pos : Pos} (ha : DE X T E x a) (hl : DO X T E lo l) (hh : DO X T E hi h) : DE X T E (.sl x lo hi) (.Subscript a (.Slice l h none p2) pos) := by
  refine PE.imp (pe_slice (sl_D (T := T)) ha hl hh) fun σ H Q ⟨φ, st, κ, G, d, st', F, O, e, kq⟩ => ?_
  unfold evE at e
  split at e
  · rename_i x1 st1 e1
    split at e
    · rename_i l1 st2 e2
      split at e
      · rename_i h1 st3 e3
        split at e
        · rename_i d1 e4
          cases e
          exact ⟨φ, st, κ, G, x1, st1, F, O, e1, fun v κ1 G1 H1 S1 O1 r1 => ⟨φ, st1, κ1, G1, l1, st2, F.mono O S1, O1, e2, fun κ2 G2 H2 S2 O2 => ⟨φ, st2, κ2, G2, h1, st', (F.mono O S1).mono O1 S2, O2, e3, fun κ3 G3 H3 S3 O3 =>
            ⟨κ3, G3, st', x1, d, O3, (r1.mono O1 S2).mono O2 S3, e4, kq.from O ((S1.trans O S2).trans O S3)⟩⟩⟩⟩
        · cases e
      · cases e
    · cases e
  · cases e
theorem de_rev {x : Ex} {a : Expr} {k : Nat} {p1 p2 p3 pos : Pos} (ha : DE X T E x a) : DE X T E (.rev x) (.Subscript a (.Slice none none (some (.UnaryOp .USub (.Constant (.int 1) k p1) p2)) p3) pos) := by
  refine PE.imp (pe_revA ha) fun σ H Q ⟨φ, st, κ, G, d, st', F, O, e, kq⟩ => ?_
  unfold evE at e
  split at e
  · rename_i x1 st1 e1
    split at e
    · rename_i d1 e2
      cases e
      refine ⟨φ, st, κ, G, x1, st', F, O, e1, fun v κ1 G1 H1 S1 O1 r1 => ?_⟩
      unfold revD at e2
      split at e2
      · rename_i l el
        cases e2
        obtain ⟨b, vs, rfl, hb, rb⟩ := read_tup O1 r1 el
        exact ⟨b, vs, rfl, .inr ⟨hb, fun p o hd hp => (kq.from O S1).new O1 (.tup hd rb.reverse) hp⟩⟩
      · rename_i l el
        cases e2
        obtain ⟨b, vs, rfl, hb, rb⟩ := read_lst O1 r1 el
        exact ⟨b, vs, rfl, .inl ⟨SqL.of hb, fun p hp => (kq.from O S1).new O1 (.lst rb.reverse) hp⟩⟩
      · cases e2
    · cases e
  · cases e

theorem de_slk {x y : Ex} {k i : Nat} {a b : Expr} {p1 p3 pos : Pos} (ha : DE X T E x a) (hb : DE X T E y b) : DE X T E (.slk x y k) (.Subscript a (.Slice (some b) none (some (.Constant (.int k) i p1)) p3) pos) := by
  refine PE.imp (pe_slk (T := T) (k := k) ha hb) fun σ H Q ⟨φ, st, κ, G, d, st', F, O, e, kq⟩ => ?_
  unfold evE at e
  split at e
  · rename_i x1 st1 e1
    split at e
    · rename_i l st2 e2
      split at e
      · rename_i d1 e3
        cases e
        refine ⟨φ, st, κ, G, x1, st1, F, O, e1, fun v κ1 G1 H1 S1 O1 r1 => ⟨φ, st1, κ1, G1, .int l, st', F.mono O S1, O1, e2, fun u κ2 G2 H2 S2 O2 r2 => ?_⟩⟩
        cases r2
        exact ⟨l, rfl, l, rfl, κ2, G2, st', x1, d, O2, r1.mono O1 S2, e3, kq.from O (S1.trans O S2)⟩
      · cases e
    · cases e
  · cases e
/-- len(set(x)) -/
theorem de_lenset (hc : X.calm = true) (hu : X.A.units + 64 < cLine) {x : Ex} {a : Expr} {p p2 q pos : Pos} (hx : ∀ φ st, evEs E [x] φ st = match evE E x φ st with | some (d, st1) => some ([d], st1) | none => none) (hg : Gl X "len") (hm : X.mg "len" = none) (hg2 : Gl X "set") (hm2 : X.mg "set" = none) (ha : DE X T E x a)
    (na : starEach [a] X.env = (false, eval a X.env) :: starEach [] X.env) : DE X T E (.blt .lenset [x]) (.Call (.Name "len" p) [.Call (.Name "set" p2) [a] [] q] [] pos) := by
  refine PE.imp (pe_lenSetT hc hu hg hm hg2 hm2 ha na) fun σ H Q ⟨φ, st, κ, G, d, st', F, O, e, kq⟩ => ?_
  unfold evE at e
  rw [hx] at e
  split at e
  · rename_i ds st1 e1
    split at e1
    · rename_i d0 st0 e0
      cases e1
      split at e
      · rename_i d1 e2
        cases e
        exact ⟨φ, st, κ, G, d0, st', F, O, e0, fun v κ1 G1 H1 S1 O1 r1 => lenset_r O1 r1 e2 (kq.from O S1)⟩
      · cases e
    · cases e1
  · cases e

/-! ### argument lists -/
theorem KA.from {W : Wr} {κ κ1 : List Addr} {st st1 : Sto} {G H G1 H1 : Hp} {ds : List D} {Q : List V → Hp → Prop} (k : KA W κ G H st ds Q) (O : Ok W κ st1 G H) (S : Stp κ G H κ1 G1 H1) : KA W κ1 G1 H1 st ds Q :=
  fun vs κ' G' H' S' O' => k vs κ' G' H' (S.trans O S') O'
def Ex.isStar : Ex → Bool
  | .star _ => true
  | _ => false
theorem evEs_cons {x : Ex} {xs : List Ex} (h : x.isStar = false) (φ : Fr) (st : Sto) : evEs E (x :: xs) φ st = match evE E x φ st with
      | some (d, st1) => (match evEs E xs φ st1 with
        | some (ds, st2) => some (d :: ds, st2)
        | none => none)
      | none => none := by
  cases x <;> first | rfl | (simp [Ex.isStar] at h)
theorem da_nil : DA X T E [] [] := PA.imp pa_nil fun σ H Q ⟨φ, st, κ, G, d, st', F, O, e, kq⟩ => by
  unfold evEs at e; cases e; exact kq _ _ _ _ Stp.refl O .nil
theorem da_cons {x : Ex} {xs : List Ex} {e : Expr} {es : List Expr} (hx : x.isStar = false) (ha : DE X T E x e) (hr : DA X T E xs es) (hs : starEach (e :: es) X.env = (false, eval e X.env) :: starEach es X.env) : DA X T E (x :: xs) (e :: es) := by
  refine PA.imp (pa_cons ha hr hs) fun σ H Q ⟨φ, st, κ, G, d, st', F, O, e, kq⟩ => ?_
  rw [evEs_cons hx] at e
  split at e
  · rename_i d1 st1 e1
    split at e
    · rename_i ds st2 e2
      cases e
      exact ⟨φ, st, κ, G, d1, st1, F, O, e1, fun v κ1 G1 H1 S1 O1 r1 => ⟨φ, st1, κ1, G1, ds, st', F.mono O S1, O1, e2, fun vs κ2 G2 H2 S2 O2 r2 => kq _ _ _ _ (S1.trans O S2) O2 (.cons (r1.mono O1 S2) r2)⟩⟩
    · cases e
  · cases e
theorem da_star {x : Ex} {xs : List Ex} {e : Expr} {es : List Expr} {p : Pos} (ha : DE X T E x e) (hr : DA X T E xs es) : DA X T E (.star x :: xs) (.Starred e p :: es) := by
  refine PA.imp (StX.pa_star ha hr rfl) fun σ H Q ⟨φ, st, κ, G, d, st', F, O, e, kq⟩ => ?_
  have e : (match evE E x φ st with
      | some (x, st1) => (match x with
        | .tup l => (match evEs E xs φ st1 with
          | some (ds, st2) => some (l ++ ds, st2)
          | none => none)
        | _ => none)
      | none => none) = some (d, st') := e
  split at e
  · rename_i d1 st1 e1
    split at e
    · rename_i l
      split at e
      · rename_i ds st2 e2
        cases e
        refine ⟨φ, st, κ, G, _, st1, F, O, e1, fun v κ1 G1 H1 S1 O1 r1 => ?_⟩
        obtain ⟨a, vs, rfl, h1, h2⟩ := read_tup0 O1 r1
        exact ⟨a, vs, rfl, .inl h1, φ, st1, κ1, G1, ds, st', F.mono O S1, O1, e2, fun ws κ2 G2 H2 S2 O2 r2 => kq _ _ _ _ (S1.trans O S2) O2 ((h2.mono O1 S2).append r2)⟩
      · cases e
    · cases e
  · cases e
theorem de_tup {xs : List Ex} {es : List Expr} {x1 : Nat} {pos : Pos} (h : DA X T E xs es) : DE X T E (.tup xs) (.Tuple es x1 pos) := by
  refine PE.imp (peF_tup h) fun σ H Q ⟨φ, st, κ, G, d, st', F, O, e, kq⟩ => ?_
  unfold evE at e
  split at e
  · rename_i ds st1 e1
    split at e
    · rename_i hl
      cases e
      exact ⟨φ, st, κ, G, ds, st', F, O, e1, fun vs κ1 G1 H1 S1 O1 r1 => ⟨by rw [r1.length]; exact hl, fun p o hd hp => (kq.from O S1).new O1 (.tup hd r1) hp⟩⟩
    · cases e
  · cases e
theorem dn_lst {xs : List Ex} {es : List Expr} {pos : Pos} (h : DA X T E xs es) : DN X T E (.lst xs) (.List es pos) := by
  refine PE.imp (pe_lst h) fun σ H Q ⟨φ, st, κ, G, d, st', F, O, e, kq⟩ => ?_
  unfold evE at e
  split at e
  · rename_i ds st1 e1
    split at e
    · rename_i hl
      cases e
      exact ⟨φ, st, κ, G, ds, st', F, O, e1, fun vs κ1 G1 H1 S1 O1 r1 => ⟨by rw [r1.length]; exact hl, fun p hp => (kq.from O S1).new O1 (.lst r1) hp⟩⟩
    · cases e
  · cases e
theorem dn_dnewK {pos : Pos} : DN X T E .dnewK (.Dict [] [] pos) := by
  refine PE.imp pe_dnewK fun σ H Q ⟨φ, st, κ, G, d, st', F, O, e, kq⟩ => ?_
  unfold evE at e
  cases e
  exact fun p hp => kq.new O (.dK .nil) hp
/-! ### calls of built-ins -/
theorem tcb {σ : L2.St} {H : Hp} {Q : VK} {b : Blt} {xs : List Ex} (h : tD (T.W X.K) (evE E (.blt b xs)) σ H Q) : tCB (rDL (T.W X.K) fun st ds => bltD st b ds) (tA (T.W X.K) (evEs E xs)) σ H Q := by
  obtain ⟨φ, st, κ, G, d, st', F, O, e, kq⟩ := h
  unfold evE at e
  split at e
  · rename_i ds st1 e1
    split at e
    · rename_i d1 e2
      cases e
      exact ⟨φ, st, κ, G, ds, st', F, O, e1, fun vs κ1 G1 H1 S1 O1 r1 => ⟨κ1, G1, st', ds, d, O1, r1, e2, kq.from O S1⟩⟩
    · cases e
  · cases e
theorem de_bltB (hc : X.calm = true) (hu : X.A.units + 70 < cLine) {b : Blt} {id : String} (hls : b ≠ .lenset) {xs : List Ex} {x : Str} {p pos : Pos} {e : Expr} {es : List Expr} (hb : bltV b = .builtin id) (hg : Gl X x) (hm : X.mg x = none) (hv : bootBuiltins x = some (.builtin id)) (ha : DA X T E xs (e :: es)) (hn : x ≠ "__name__") (hdb : (x == ("__debug__" : Str)) = false)
    (he : starEach (e :: es) X.env = (false, eval e X.env) :: starEach es X.env) (hpl : (backTo pos (starEach es X.env)).any (·.1) = false) : DE X T E (.blt b xs) (.Call (.Name x p) (e :: es) [] pos) := by
  have := cd_D (T := T) hc hu b hls
  unfold CD at this
  rw [hb] at this
  exact PE.imp (pe_callB this hg hm hv ha hn hdb he hpl) fun σ H Q h => tcb h
theorem de_bltT (hc : X.calm = true) (hu : X.A.units + 70 < cLine) {b : Blt} {id : String} (hls : b ≠ .lenset) {xs : List Ex} {x : Str} {p pos : Pos} {e : Expr} {es : List Expr} (hb : bltV b = .type id) (hg : Gl X x) (hm : X.mg x = none) (hv : bootBuiltins x = some (.type id)) (ha : DA X T E xs (e :: es)) (hn : x ≠ "__name__") (hdb : (x == ("__debug__" : Str)) = false)
    (he : starEach (e :: es) X.env = (false, eval e X.env) :: starEach es X.env) (hpl : (backTo pos (starEach es X.env)).any (·.1) = false) : DE X T E (.blt b xs) (.Call (.Name x p) (e :: es) [] pos) := by
  have := cd_D (T := T) hc hu b hls
  unfold CD at this
  rw [hb] at this
  exact PE.imp (pe_callTy this hg hm hv ha hn hdb he hpl) fun σ H Q h => tcb h
theorem de_bltF (hc : X.calm = true) (hu : X.A.units + 70 < cLine) {b : Blt} {id : String} (hls : b ≠ .lenset) {xs : List Ex} {x : Str} {p pos : Pos} {e : Expr} {es : List Expr} (hb : bltV b = .builtin id) (hg : Gl X x) (hm : X.mg x = some (.builtin id)) (ha : DA X T E xs (e :: es)) (hdb : (x == ("__debug__" : Str)) = false)
    (he : starEach (e :: es) X.env = (false, eval e X.env) :: starEach es X.env) (hpl : (backTo pos (starEach es X.env)).any (·.1) = false) : DE X T E (.blt b xs) (.Call (.Name x p) (e :: es) [] pos) := by
  have := cd_D (T := T) hc hu b hls
  unfold CD at this
  rw [hb] at this
  exact PE.imp (pe_callBfun this hg hm ha hdb he hpl) fun σ H Q h => tcb h
/-! ### methods -/
theorem de_mt (hu : X.A.units + 65 < cLine) {m : Mt} {y : Ex} {xs : List Ex} {o e : Expr} {es : List Expr} {apos cpos : Pos} (ho : DE X T E y o) (ha : DA X T E xs (e :: es))
    (hbase : attributeBase o (mtN m) X.env (eval o X.env) = eval o X.env)
    (hfew : ((backTo cpos (starEach (e :: es) X.env)).all (fun x => !x.1) && (backToKw cpos (keywordEach [] X.env)).all (fun x => x.1.isSome)
      && decide ((e :: es).length + ([] : List Keyword).length + (if ([] : List Keyword).isEmpty then 0 else 1) < 30)) = true)
    (hline : (apos.endLine == cpos.line) = true) (hs : starEach (e :: es) X.env = (false, eval e X.env) :: starEach es X.env) (hplain : (backTo cpos (starEach es X.env)).any (·.1) = false) :
    DE X T E (.mt m y xs) (.Call (.Attribute o (mtN m) apos) (e :: es) [] cpos) := by
  refine PE.imp (pe_mt (T := T) hu ho ha hbase hfew hline hs hplain) fun σ H Q ⟨φ, st, κ, G, d, st', F, O, e, kq⟩ => ?_
  unfold evE at e
  split at e
  · rename_i x1 st1 e1
    split at e
    · rename_i C eC
      split at e
      · rename_i ds st2 e2
        exact ⟨φ, st, κ, G, x1, st1, F, O, e1, fun v κ1 G1 H1 S1 O1 r1 => ⟨κ1, G1, st1, x1, C, O1, r1, eC, φ, st1, κ1, G1, ds, st2, F.mono O S1, O1, e2, fun vs κ2 G2 H2 S2 O2 r2 =>
          ⟨κ2, G2, st2, x1, ds, d, st', O2, r1.mono O1 S2, r2, mtT_stay O1 r1 O2 (r1.mono O1 S2) eC e, e, kq.from O (S1.trans O S2)⟩⟩⟩
      · cases e
    · cases e
  · cases e
end
end Ev


set_option Elab.async false
set_option linter.all false
set_option maxRecDepth 100000
set_option maxHeartbeats 400000
/-! EvI: what is walked; calls of defs, by data. -/
namespace Ev
open PySem PySem.Spec PyProof.Rows L2

/-- at a turn: the value, or the pair that holds it -/
def Yld (W : Wr) (w : Wk) (κ : List Addr) (G H : Hp) (x : V) (d : D) : Prop := match w with
  | .seq => Rp W κ G x d
  | .range => Rp W κ G x d
  | .enum => ∃ a vs ds, x = .ref a ∧ SqT W.K H a vs ∧ d = .tup ds ∧ RpL W κ G vs ds
  | .zip => ∃ a vs ds, x = .ref a ∧ SqT W.K H a vs ∧ d = .tup ds ∧ RpL W κ G vs ds
structure ItD (W : Wr) (w : Wk) (J : It) (κ : List Addr) (G H : Hp) (src : Sto → Nat → Option (Option D)) : Prop where
  go : ∀ κ' st' G' H' i d, VSt κ G κ' G' → Ok W κ' st' G' H' → src st' i = some (some d) → J.go i H' ∧ ∀ x H2, J.yld i H' x H2 → Stp κ' G' H' κ' G' H2 ∧ Ok W κ' st' G' H2 ∧ Yld W w κ' G' H2 x d
  stop : ∀ κ' st' G' H' i, VSt κ G κ' G' → Ok W κ' st' G' H' → src st' i = some none → J.stop i H'
def KI (W : Wr) (κ : List Addr) (G H : Hp) (st : Sto) (w : Wk) (ds : List D) (R : It → Hp → Prop) : Prop := ∀ n src, srcOf st w ds = some (n, src) → ∀ κ' G' H' J, Stp κ G H κ' G' H' → Ok W κ' st G' H' → ItD W w J κ' G' H' src → R J H'
def tI (W : Wr) (f : Fr → Sto → Option (List D × Sto)) (w : Wk) : TI := fun σ H R => ∃ φ st κ G ds st' n src, FrOk W κ G φ σ ∧ Ok W κ st G H ∧ f φ st = some (ds, st') ∧ srcOf st' w ds = some (n, src) ∧ KI W κ G H st' w ds R
section
variable {W : Wr} {κ κ' : List Addr} {st : Sto} {G G' H H' : Hp} {J : It}
theorem SqL.stp (O : Ok W κ st G H) (S : Stp κ G H κ' G' H') {a : Addr} {vs : List V} (h : G a = some (.lst vs)) (ha : a ∉ κ) {st' : Sto} (O' : Ok W κ' st' G' H') : H' a = some (.lst vs) := O'.sub _ _ (S.keep _ _ h ha)
/-- a tuple that is read stays -/
theorem SqT.stp {l : List D} (O : Ok W κ st G H) {a : Addr} (r : Rp W κ G (.ref a) (.tup l)) : ∃ vs, SqT W.K H a vs ∧ RpL W κ G vs l := by
  obtain ⟨b, vs, e, h1, h2⟩ := read_tup0 O r
  cases e
  exact ⟨vs, h1, h2⟩
theorem rd_inj {H : Hp} {a : Addr} {xs ys : List V} (h : H a = some (.lst xs)) (h' : SqL W.K H a ys) (hk : W.K.lookup a = none) : xs = ys := by
  rcases h' with (z | ⟨o, z⟩) | ⟨o, its, n, z, _⟩
  · rw [h] at z; cases z; rfl
  · rw [h] at z; cases z
  · rw [hk] at z; cases z
end
section
variable {X : Cx} {T : Tab} {E : En}
abbrev DI (X : Cx) (T : Tab) (E : En) (w : Wk) (xs : List Ex) (tg iter : Expr) : Prop := PI X tg iter (tI (T.W X.K) (evEs E xs) w)
theorem evEs_one {x : Ex} (h : x.isStar = false) {φ : Fr} {st st' : Sto} {ds : List D} (e : evEs E [x] φ st = some (ds, st')) : ∃ d, ds = [d] ∧ evE E x φ st = some (d, st') := by
  rw [evEs_cons h] at e
  split at e
  · rename_i d st1 e1
    unfold evEs at e
    cases e
    exact ⟨d, rfl, e1⟩
  · cases e

/-- a list or tuple at each later state -/
def SrcV (W : Wr) (P : Hp → List V → Prop) (κ : List Addr) (G H : Hp) (src : Sto → Nat → Option (Option D)) : Prop :=
  ∀ κ' st' G' H' i o, VSt κ G κ' G' → Ok W κ' st' G' H' → src st' i = some o → ∃ vs, P H' vs ∧ (∀ d, o = some d → ∃ v, vs[i]? = some v ∧ Rp W κ' G' v d) ∧ (o = none → vs.length ≤ i)
theorem get_len {l : List D} {vs : List V} {W : Wr} {κ : List Addr} {G : Hp} {i : Nat} {o : Option D} (r : RpL W κ G vs l) (e : l[i]? = o) : (∀ d, o = some d → ∃ v, vs[i]? = some v ∧ Rp W κ G v d) ∧ (o = none → vs.length ≤ i) := by
  refine ⟨fun d h => r.get (e.trans h), fun h => ?_⟩
  rw [r.length]
  exact List.getElem?_eq_none_iff.mp (e.trans h)
section
variable {W : Wr} {κ : List Addr} {st : Sto} {G H : Hp} {a : Addr} {l : List D}
theorem src_tup (O : Ok W κ st G H) (r : Rp W κ G (.ref a) (.tup l)) : SrcV W (fun H vs => SqT W.K H a vs) κ G H (fun _ i => some l[i]?) := by
  intro κ' st' G' H' i o S O' e
  cases e
  obtain ⟨vs, h1, h2⟩ := SqT.stp O' (r.vmono S)
  exact ⟨vs, h1, get_len h2 rfl⟩
theorem src_lst (O : Ok W κ st G H) (r : Rp W κ G (.ref a) (.lst l)) : SrcV W (fun H vs => SqL W.K H a vs) κ G H (fun _ i => some l[i]?) := by
  intro κ' st' G' H' i o S O' e
  cases e
  obtain ⟨b, vs, e, h1, h2⟩ := read_lst (st := st') O' (r.vmono S) rfl
  cases e
  exact ⟨vs, SqL.of h1, get_len h2 rfl⟩
theorem src_cel {k : Nat} (r : Rp W κ G (.ref a) (.cel k)) : SrcV W (fun H vs => SqL W.K H a vs) κ G H (fun s i => cellAt s k i) := by
  intro κ' st' G' H' i o S O' e
  have hk : κ'[k]? = some a := by
    cases r with
    | cel h1 =>
      obtain ⟨e, rfl, _⟩ := S.pre
      rw [List.getElem?_append_left (List.getElem?_eq_some_iff.mp h1).1]; exact h1
  have e : cellAt st' k i = some o := e
  unfold cellAt at e
  split at e
  · rename_i l el
    cases e
    obtain ⟨vs, h1, h2⟩ := O'.cell k a _ hk el
    exact ⟨vs, SqL.of (O'.sub _ _ h1), get_len h2 rfl⟩
  · cases e
theorem itd_tup {src : Sto → Nat → Option (Option D)} (h : SrcV W (fun H vs => SqT W.K H a vs) κ G H src) : ItD W .seq (Itt W.K a) κ G H src where
  go := fun κ' st' G' H' i d S O' e => by
    obtain ⟨vs, h1, h2, _⟩ := h κ' st' G' H' i _ S O' e
    obtain ⟨v, hv, rv⟩ := h2 d rfl
    refine ⟨⟨vs, v, h1, hv⟩, fun x H2 ⟨e2, hx⟩ => ?_⟩
    subst e2
    have := hx vs h1
    rw [hv] at this; cases this
    exact ⟨Stp.refl, O', rv⟩
  stop := fun κ' st' G' H' i S O' e => by
    obtain ⟨vs, h1, _, h3⟩ := h κ' st' G' H' i _ S O' e
    exact ⟨vs, h1, h3 rfl⟩
theorem itd_lst {src : Sto → Nat → Option (Option D)} (h : SrcV W (fun H vs => SqL W.K H a vs) κ G H src) : ItD W .seq (Itl W.K a) κ G H src where
  go := fun κ' st' G' H' i d S O' e => by
    obtain ⟨vs, h1, h2, _⟩ := h κ' st' G' H' i _ S O' e
    obtain ⟨v, hv, rv⟩ := h2 d rfl
    refine ⟨⟨vs, v, h1, hv⟩, fun x H2 ⟨e2, hx⟩ => ?_⟩
    subst e2
    have := hx vs h1
    rw [hv] at this; cases this
    exact ⟨Stp.refl, O', rv⟩
  stop := fun κ' st' G' H' i S O' e => by
    obtain ⟨vs, h1, _, h3⟩ := h κ' st' G' H' i _ S O' e
    exact ⟨vs, h1, h3 rfl⟩
/-- each item in a pair with its number -/
def enS (src : Sto → Nat → Option (Option D)) : Sto → Nat → Option (Option D) := fun s i => (src s i).map fun o => o.map fun d => .tup [.int (i : Nat), d]
theorem enS_some {src : Sto → Nat → Option (Option D)} {s : Sto} {i : Nat} {d : D} (e : enS src s i = some (some d)) : ∃ d', src s i = some (some d') ∧ d = .tup [.int (i : Nat), d'] := by
  unfold enS at e
  cases q : src s i with
  | none => rw [q] at e; cases e
  | some o =>
    rw [q] at e
    cases o with
    | none => cases e
    | some d' => cases e; exact ⟨d', rfl, rfl⟩
theorem enS_none {src : Sto → Nat → Option (Option D)} {s : Sto} {i : Nat} (e : enS src s i = some none) : src s i = some none := by
  unfold enS at e
  cases q : src s i with
  | none => rw [q] at e; cases e
  | some o =>
    rw [q] at e
    cases o with
    | none => rfl
    | some d' => cases e
theorem itd_enumT {src : Sto → Nat → Option (Option D)} (h : SrcV W (fun H vs => SqT W.K H a vs) κ G H src) : ItD W .enum (IteT W.K a) κ G H (enS src) where
  go := fun κ' st' G' H' i d S O' e => by
    obtain ⟨d', e', rfl⟩ := enS_some e
    obtain ⟨vs, h1, h2, _⟩ := h κ' st' G' H' i _ S O' e'
    obtain ⟨v, hv, rv⟩ := h2 d' rfl
    refine ⟨⟨vs, v, h1, hv⟩, fun x H2 ⟨Tt, y, ex, hT, e2, hx⟩ => ?_⟩
    subst e2 ex
    have := hx vs h1
    rw [hv] at this; cases this
    obtain ⟨O2, S2⟩ := O'.hide (o := .tup [.int (i : Nat), v]) hT
    exact ⟨S2, O2, Tt, _, _, rfl, SqT.of upd_same, rfl, .cons (.int _) (.cons rv .nil)⟩
  stop := fun κ' st' G' H' i S O' e => by
    obtain ⟨vs, h1, _, h3⟩ := h κ' st' G' H' i _ S O' (enS_none e)
    exact ⟨vs, h1, h3 rfl⟩
theorem itd_enumL {src : Sto → Nat → Option (Option D)} (h : SrcV W (fun H vs => SqL W.K H a vs) κ G H src) : ItD W .enum (Ite W.K a) κ G H (enS src) where
  go := fun κ' st' G' H' i d S O' e => by
    obtain ⟨d', e', rfl⟩ := enS_some e
    obtain ⟨vs, h1, h2, _⟩ := h κ' st' G' H' i _ S O' e'
    obtain ⟨v, hv, rv⟩ := h2 d' rfl
    refine ⟨⟨vs, v, h1, hv⟩, fun x H2 ⟨Tt, y, ex, hT, e2, hx⟩ => ?_⟩
    subst e2 ex
    have := hx vs h1
    rw [hv] at this; cases this
    obtain ⟨O2, S2⟩ := O'.hide (o := .tup [.int (i : Nat), v]) hT
    exact ⟨S2, O2, Tt, _, _, rfl, SqT.of upd_same, rfl, .cons (.int _) (.cons rv .nil)⟩
  stop := fun κ' st' G' H' i S O' e => by
    obtain ⟨vs, h1, _, h3⟩ := h κ' st' G' H' i _ S O' (enS_none e)
    exact ⟨vs, h1, h3 rfl⟩
theorem zip_get {l m : List D} {i : Nat} : (List.zipWith (fun a b => D.tup [a, b]) l m)[i]? = match l[i]?, m[i]? with | some a, some b => some (.tup [a, b]) | _, _ => none := by
  rw [List.getElem?_zipWith]
  cases l[i]? <;> cases m[i]? <;> rfl
theorem itd_zipT {b : Addr} {m : List D} (h : SrcV W (fun H vs => SqT W.K H a vs) κ G H (fun _ i => some l[i]?)) (h' : SrcV W (fun H vs => SqT W.K H b vs) κ G H (fun _ i => some m[i]?)) :
    ItD W .zip (RZ.ItzT W.K a b) κ G H (fun _ i => some (List.zipWith (fun a b => D.tup [a, b]) l m)[i]?) where
  go := fun κ' st' G' H' i d S O' e => by
    obtain ⟨vs, h1, h2, _⟩ := h κ' st' G' H' i _ S O' rfl
    obtain ⟨us, h3, h4, _⟩ := h' κ' st' G' H' i _ S O' rfl
    rw [zip_get] at e
    cases e1 : l[i]? with
    | none => rw [e1] at e; cases e
    | some x =>
      cases e2 : m[i]? with
      | none => rw [e1, e2] at e; cases e
      | some y =>
        rw [e1, e2] at e
        cases e
        obtain ⟨v, hv, rv⟩ := h2 x e1
        obtain ⟨u, hu, ru⟩ := h4 y e2
        refine ⟨⟨vs, us, v, u, h1, h3, hv, hu⟩, fun x H2 ⟨Tt, y1, y2, ex, hT, e2, hx, hy⟩ => ?_⟩
        subst e2 ex
        have q1 := hx vs h1
        have q2 := hy us h3
        rw [hv] at q1; rw [hu] at q2; cases q1; cases q2
        obtain ⟨O2, S2⟩ := O'.hide (o := .tup [v, u]) hT
        exact ⟨S2, O2, Tt, _, _, rfl, SqT.of upd_same, rfl, .cons rv (.cons ru .nil)⟩
  stop := fun κ' st' G' H' i S O' e => by
    obtain ⟨vs, h1, _, h5⟩ := h κ' st' G' H' i _ S O' rfl
    obtain ⟨us, h3, _, h6⟩ := h' κ' st' G' H' i _ S O' rfl
    rw [zip_get] at e
    refine ⟨vs, us, h1, h3, ?_⟩
    cases e1 : l[i]? with
    | none => exact .inl (h5 e1)
    | some x =>
      cases e2 : m[i]? with
      | none => exact .inr (h6 e2)
      | some y => rw [e1, e2] at e; cases e
theorem itd_zipL {b : Addr} {m : List D} (h : SrcV W (fun H vs => SqL W.K H a vs) κ G H (fun _ i => some l[i]?)) (h' : SrcV W (fun H vs => SqL W.K H b vs) κ G H (fun _ i => some m[i]?)) :
    ItD W .zip (Itz W.K a b) κ G H (fun _ i => some (List.zipWith (fun a b => D.tup [a, b]) l m)[i]?) where
  go := fun κ' st' G' H' i d S O' e => by
    obtain ⟨vs, h1, h2, _⟩ := h κ' st' G' H' i _ S O' rfl
    obtain ⟨us, h3, h4, _⟩ := h' κ' st' G' H' i _ S O' rfl
    rw [zip_get] at e
    cases e1 : l[i]? with
    | none => rw [e1] at e; cases e
    | some x =>
      cases e2 : m[i]? with
      | none => rw [e1, e2] at e; cases e
      | some y =>
        rw [e1, e2] at e
        cases e
        obtain ⟨v, hv, rv⟩ := h2 x e1
        obtain ⟨u, hu, ru⟩ := h4 y e2
        refine ⟨⟨vs, us, v, u, h1, h3, hv, hu⟩, fun x H2 ⟨Tt, y1, y2, ex, hT, e2, hx, hy⟩ => ?_⟩
        subst e2 ex
        have q1 := hx vs h1
        have q2 := hy us h3
        rw [hv] at q1; rw [hu] at q2; cases q1; cases q2
        obtain ⟨O2, S2⟩ := O'.hide (o := .tup [v, u]) hT
        exact ⟨S2, O2, Tt, _, _, rfl, SqT.of upd_same, rfl, .cons rv (.cons ru .nil)⟩
  stop := fun κ' st' G' H' i S O' e => by
    obtain ⟨vs, h1, _, h5⟩ := h κ' st' G' H' i _ S O' rfl
    obtain ⟨us, h3, _, h6⟩ := h' κ' st' G' H' i _ S O' rfl
    rw [zip_get] at e
    refine ⟨vs, us, h1, h3, ?_⟩
    cases e1 : l[i]? with
    | none => exact .inl (h5 e1)
    | some x =>
      cases e2 : m[i]? with
      | none => exact .inr (h6 e2)
      | some y => rw [e1, e2] at e; cases e
theorem rg_get {lo : Int} {n i : Nat} : ((List.range n).map fun (i : Nat) => D.int (lo + i))[i]? = if i < n then some (.int (lo + i)) else none := by
  rw [List.getElem?_map]
  by_cases h : i < n
  · rw [if_pos h, List.getElem?_eq_getElem (by simpa using h)]; simp
  · rw [if_neg h, List.getElem?_eq_none (by simpa using h)]; rfl
theorem itd_rg {lo : Int} {n : Nat} : ItD W .range (Itr lo n) κ G H (fun _ i => some ((List.range n).map fun (i : Nat) => D.int (lo + i))[i]?) where
  go := fun κ' st' G' H' i d S O' e => by
    rw [rg_get] at e
    split at e
    · rename_i h
      cases e
      refine ⟨h, fun x H2 ⟨e2, ex⟩ => ?_⟩
      subst e2 ex
      exact ⟨Stp.refl, O', .int _⟩
    · cases e
  stop := fun κ' st' G' H' i S O' e => by
    rw [rg_get] at e
    split at e
    · cases e
    · rename_i h; exact Nat.le_of_not_lt h
end
theorem its_get {x : Str} {i : Nat} : (x.cps.toList.map fun c => D.str ⟨#[c]⟩)[i]? = x.cps[i]?.map fun c => D.str ⟨#[c]⟩ := by
  rw [List.getElem?_map, Array.getElem?_toList]
theorem itd_str {W : Wr} {κ : List Addr} {G H : Hp} {x : Str} : ItD W .seq (Its x) κ G H (fun _ i => some (x.cps.toList.map fun c => D.str ⟨#[c]⟩)[i]?) where
  go := fun κ' st' G' H' i d S O' e => by
    rw [its_get] at e
    cases q : x.cps[i]? with
    | none => rw [q] at e; cases e
    | some c =>
      rw [q] at e
      cases e
      refine ⟨(Array.getElem?_eq_some_iff.mp q).1, fun v H2 ⟨e2, c', hc, ev⟩ => ?_⟩
      rw [q] at hc
      cases hc
      subst e2 ev
      exact ⟨Stp.refl, O', .str _⟩
  stop := fun κ' st' G' H' i S O' e => by
    rw [its_get] at e
    cases q : x.cps[i]? with
    | none => exact Array.getElem?_eq_none_iff.mp q
    | some c => rw [q] at e; cases e
theorem KI.go {W : Wr} {κ κ1 : List Addr} {st : Sto} {G H G1 H1 : Hp} {w : Wk} {ds : List D} {R : It → Hp → Prop} {n : Nat} {src : Sto → Nat → Option (Option D)} {J : It} (k : KI W κ G H st w ds R) (e : srcOf st w ds = some (n, src)) (S : Stp κ G H κ1 G1 H1) (O1 : Ok W κ1 st G1 H1) (h : ItD W w J κ1 G1 H1 src) : R J H1 := k n src e _ _ _ J S O1 h
section
variable {X : Cx} {T : Tab} {E : En}
theorem di_seq {x : Ex} {e tg : Expr} (hx : x.isStar = false) (h : DE X T E x e) : DI X T E .seq [x] tg e := by
  refine ⟨fun pins s σ H R I ⟨φ, st, κ, G, ds, st', n, src, F, O, e, es, kq⟩ => ?_⟩
  obtain ⟨d, rfl, e1⟩ := evEs_one hx e
  cases d with
  | tup l =>
    refine (pi_tup h).run pins s σ H R I ⟨φ, st, κ, G, _, st', F, O, e1, fun v κ1 G1 H1 S1 O1 r1 => ?_⟩
    obtain ⟨a, vs, rfl, h1, h2⟩ := read_tup0 O1 r1
    cases (show some (l.length, fun _ i => some l[i]?) = some (n, src) from es)
    exact ⟨a, rfl, ⟨vs, h1⟩, kq.go es S1 O1 (itd_tup (src_tup O1 r1))⟩
  | lst l =>
    refine (pi_list h).run pins s σ H R I ⟨φ, st, κ, G, _, st', F, O, e1, fun v κ1 G1 H1 S1 O1 r1 => ?_⟩
    obtain ⟨a, vs, rfl, h1, h2⟩ := read_lst (st := st') O1 r1 rfl
    cases (show some (l.length, fun _ i => some l[i]?) = some (n, src) from es)
    exact ⟨a, rfl, ⟨vs, SqL.of h1⟩, kq.go es S1 O1 (itd_lst (src_lst O1 r1))⟩
  | cel k =>
    refine (pi_list h).run pins s σ H R I ⟨φ, st, κ, G, _, st', F, O, e1, fun v κ1 G1 H1 S1 O1 r1 => ?_⟩
    have es' : (match st'[k]? with | some (.lst l) => some (l.length, fun s i => cellAt s k i) | _ => none) = some (n, src) := es
    split at es'
    · rename_i l el
      cases es'
      obtain ⟨a, vs, rfl, hk, h1, h2⟩ := cell_lst O1 r1 el
      exact ⟨a, rfl, ⟨vs, SqL.of h1⟩, kq.go es S1 O1 (itd_lst (src_cel r1))⟩
    · cases es'
  | str z =>
    refine (pi_str h).run pins s σ H R I ⟨φ, st, κ, G, _, st', F, O, e1, fun v κ1 G1 H1 S1 O1 r1 => ?_⟩
    cases r1
    have es' : some ((z.cps.toList.map fun c => D.str ⟨#[c]⟩).length, fun (_ : Sto) i => some (z.cps.toList.map fun c => D.str ⟨#[c]⟩)[i]?) = some (n, src) := es
    cases es'
    exact ⟨z, rfl, kq.go es S1 O1 itd_str⟩
  | _ => simp [srcOf, itemsOf] at es
theorem evEs_two {x y : Ex} (hx : x.isStar = false) (hy : y.isStar = false) {φ : Fr} {st st' : Sto} {ds : List D} (e : evEs E [x, y] φ st = some (ds, st')) : ∃ d d', ds = [d, d'] := by
  rw [evEs_cons hx] at e
  split at e
  · split at e
    · rename_i ds2 st2 e2
      obtain ⟨d', rfl, _⟩ := evEs_one hy e2
      cases e
      exact ⟨_, _, rfl⟩
    · cases e
  · cases e
theorem rangeD_some {lo hi : Int} {l : List D} (h : rangeD lo hi = some l) : l = ((List.range (hi - lo).toNat).map fun (i : Nat) => D.int (lo + i)) ∧ -(2 ^ 61) ≤ lo ∧ lo < 2 ^ 61 ∧ -(2 ^ 61) ≤ hi ∧ hi < 2 ^ 61 ∧ (hi - lo).toNat ≤ line := by
  unfold rangeD at h
  split at h
  · rename_i q; cases h; exact ⟨rfl, q⟩
  · cases h
theorem src_range {st : Sto} {ds : List D} {n : Nat} {src : Sto → Nat → Option (Option D)} (h : srcOf st .range ds = some (n, src)) : ∃ l, rangeOf ds = some l ∧ n = l.length ∧ src = fun _ i => some l[i]? := by
  have h' : (match rangeOf ds with | some items => some (items.length, fun (_ : Sto) i => some items[i]?) | none => none) = some (n, src) := h
  split at h'
  · rename_i items ei
    cases h'
    exact ⟨items, ei, rfl, rfl⟩
  · cases h'
theorem di_range1 {x : Ex} {a tg : Expr} {p pos : Pos} (hx : x.isStar = false) (hg : Gl X "range") (hm : X.mg "range" = none) (ha : DA X T E [x] [a]) (hs : starEach [a] X.env = [(false, eval a X.env)]) : DI X T E .range [x] tg (.Call (.Name "range" p) [a] [] pos) := by
  refine ⟨fun pins s σ H R I ⟨φ, st, κ, G, ds, st', n, src, F, O, e, es, kq⟩ => (pi_range1 hg hm ha hs).run pins s σ H R I ⟨φ, st, κ, G, ds, st', F, O, e, fun vs κ1 G1 H1 S1 O1 r1 => ?_⟩⟩
  obtain ⟨d, rfl, e1⟩ := evEs_one hx e
  obtain ⟨l, el, rfl, rfl⟩ := src_range es
  cases d <;> simp only [rangeOf] at el <;> try contradiction
  rename_i j
  obtain ⟨rfl, h1, h2, h3, h4, h5⟩ := rangeD_some el
  obtain ⟨v, rfl, rv⟩ := r1.one
  cases rv
  refine ⟨j, rfl, by omega, by omega, ?_⟩
  have := kq.go es S1 O1 itd_rg
  rw [Int.sub_zero] at this
  exact this
theorem di_range2 {x y : Ex} {a b tg : Expr} {p pos : Pos} (hx : x.isStar = false) (hy : y.isStar = false) (hg : Gl X "range") (hm : X.mg "range" = none) (ha : DA X T E [x, y] [a, b]) (hs : starEach [a, b] X.env = [(false, eval a X.env), (false, eval b X.env)]) (hs2 : starEach [b] X.env = [(false, eval b X.env)]) : DI X T E .range [x, y] tg (.Call (.Name "range" p) [a, b] [] pos) := by
  refine ⟨fun pins s σ H R I ⟨φ, st, κ, G, ds, st', n, src, F, O, e, es, kq⟩ => (pi_range2 hg hm ha hs hs2).run pins s σ H R I ⟨φ, st, κ, G, ds, st', F, O, e, fun vs κ1 G1 H1 S1 O1 r1 => ?_⟩⟩
  obtain ⟨d, d', rfl⟩ := evEs_two hx hy e
  obtain ⟨l, el, rfl, rfl⟩ := src_range es
  cases d <;> cases d' <;> simp only [rangeOf] at el <;> try contradiction
  rename_i i j
  obtain ⟨rfl, h1, h2, h3, h4, h5⟩ := rangeD_some el
  obtain ⟨v, u, rfl, rv, ru⟩ := r1.two
  cases rv; cases ru
  exact ⟨i, j, rfl, ⟨by omega, by omega, by omega, by omega⟩, kq.go es S1 O1 itd_rg⟩
theorem enum_get {l : List D} {i : Nat} : (l.mapIdx fun i d => D.tup [.int (i : Nat), d])[i]? = l[i]?.map fun d => D.tup [.int (i : Nat), d] := by
  rw [List.getElem?_mapIdx]
theorem enum_src (l : List D) : (fun (_ : Sto) (i : Nat) => some (l.mapIdx fun i d => D.tup [.int (i : Nat), d])[i]?) = enS fun _ i => some l[i]? := by
  funext s i
  unfold enS
  rw [enum_get]
  rfl
theorem enum_src_cel (k : Nat) : (fun s i => cellEn s k i) = enS fun s i => cellAt s k i := by
  funext s i
  unfold enS cellEn cellAt
  dsimp only
  split <;> rename_i h <;> simp [h]
theorem di_enum {x : Ex} {a : Expr} {elts : List Expr} {kk : Nat} {p pos tpos : Pos} (hx : x.isStar = false) (hg : Gl X "enumerate") (hm : X.mg "enumerate" = none) (ha : DA X T E [x] [a]) (hs : starEach [a] X.env = [(false, eval a X.env)]) : DI X T E .enum [x] (.Tuple elts kk tpos) (.Call (.Name "enumerate" p) [a] [] pos) := by
  refine ⟨fun pins s σ H R I ⟨φ, st, κ, G, ds, st', n, src, F, O, e, es, kq⟩ => (pi_enumA hg hm ha hs).run pins s σ H R I ⟨φ, st, κ, G, ds, st', F, O, e, fun vs κ1 G1 H1 S1 O1 r1 => ?_⟩⟩
  obtain ⟨d, rfl, e1⟩ := evEs_one hx e
  obtain ⟨v, rfl, rv⟩ := r1.one
  cases d with
  | tup l =>
    obtain ⟨a, vs, rfl, h1, h2⟩ := read_tup0 O1 rv
    have es' : some ((l.mapIdx fun i d => D.tup [.int (i : Nat), d]).length, fun (_ : Sto) i => some (l.mapIdx fun i d => D.tup [.int (i : Nat), d])[i]?) = some (n, src) := es
    cases es'
    refine ⟨a, vs, rfl, .inr ⟨h1, kq.go es S1 O1 ?_⟩⟩
    rw [enum_src]
    exact itd_enumT (src_tup O1 rv)
  | lst l =>
    obtain ⟨a, vs, rfl, h1, h2⟩ := read_lst (st := st') O1 rv rfl
    have es' : some ((l.mapIdx fun i d => D.tup [.int (i : Nat), d]).length, fun (_ : Sto) i => some (l.mapIdx fun i d => D.tup [.int (i : Nat), d])[i]?) = some (n, src) := es
    cases es'
    refine ⟨a, vs, rfl, .inl ⟨SqL.of h1, kq.go es S1 O1 ?_⟩⟩
    rw [enum_src]
    exact itd_enumL (src_lst O1 rv)
  | cel k =>
    have es' : (match st'[k]? with | some (.lst l) => some (l.length, fun s i => cellEn s k i) | _ => none) = some (n, src) := es
    split at es'
    · rename_i l el
      cases es'
      obtain ⟨a, vs, rfl, hk, h1, h2⟩ := cell_lst O1 rv el
      refine ⟨a, vs, rfl, .inl ⟨SqL.of h1, kq.go es S1 O1 ?_⟩⟩
      rw [enum_src_cel]
      exact itd_enumL (src_cel rv)
    · cases es'
  | _ => simp [srcOf, itemsOf] at es
theorem di_zip {x y : Ex} {a b : Expr} {elts : List Expr} {kk : Nat} {p pos tpos : Pos} (hx : x.isStar = false) (hy : y.isStar = false) (hg : Gl X "zip") (hm : X.mg "zip" = none) (ha : DA X T E [x, y] [a, b]) (hs : starEach [a, b] X.env = (false, eval a X.env) :: starEach [b] X.env) (hpl : (backTo pos (starEach [b] X.env)).any (·.1) = false) :
    DI X T E .zip [x, y] (.Tuple elts kk tpos) (.Call (.Name "zip" p) [a, b] [] pos) := by
  refine ⟨fun pins s σ H R I ⟨φ, st, κ, G, ds, st', n, src, F, O, e, es, kq⟩ => (RZ.pi_zipA hg hm ha hs hpl).run pins s σ H R I ⟨φ, st, κ, G, ds, st', F, O, e, fun vs κ1 G1 H1 S1 O1 r1 => ?_⟩⟩
  obtain ⟨d, d', rfl⟩ := evEs_two hx hy e
  obtain ⟨v, u, rfl, rv, ru⟩ := r1.two
  cases d with
  | tup l =>
    cases d' with
    | tup m =>
      obtain ⟨a, vs, rfl, h1, h2⟩ := read_tup0 O1 rv
      obtain ⟨b, us, rfl, h3, h4⟩ := read_tup0 O1 ru
      have es' : some ((List.zipWith (fun a b => D.tup [a, b]) l m).length, fun (_ : Sto) i => some (List.zipWith (fun a b => D.tup [a, b]) l m)[i]?) = some (n, src) := es
      cases es'
      exact ⟨a, b, vs, us, rfl, .inr ⟨h1, h3, kq.go es S1 O1 (itd_zipT (src_tup O1 rv) (src_tup O1 ru))⟩⟩
    | _ => simp [srcOf, itemsOf] at es
  | lst l =>
    cases d' with
    | lst m =>
      obtain ⟨a, vs, rfl, h1, h2⟩ := read_lst (st := st') O1 rv rfl
      obtain ⟨b, us, rfl, h3, h4⟩ := read_lst (st := st') O1 ru rfl
      have es' : some ((List.zipWith (fun a b => D.tup [a, b]) l m).length, fun (_ : Sto) i => some (List.zipWith (fun a b => D.tup [a, b]) l m)[i]?) = some (n, src) := es
      cases es'
      exact ⟨a, b, vs, us, rfl, .inl ⟨SqL.of h1, SqL.of h3, kq.go es S1 O1 (itd_zipL (src_lst O1 rv) (src_lst O1 ru))⟩⟩
    | _ => simp [srcOf, itemsOf] at es
  | _ => simp [srcOf, itemsOf] at es

/-! ### list(range(..)), tuple(range(..)) -/
def tRg (W : Wr) (f : Fr → Sto → Option (List D × Sto)) : L2.St → Hp → (Int → Int → Hp → Prop) → Prop := fun σ H Q => ∃ φ st κ G lo hi l st' ds, FrOk W κ G φ σ ∧ Ok W κ st G H ∧ f φ st = some (ds, st') ∧ (ds = [.int lo, .int hi] ∨ (lo = 0 ∧ ds = [.int hi])) ∧ rangeD lo hi = some l ∧ ∀ κ' G' H', Stp κ G H κ' G' H' → Ok W κ' st' G' H' → Q lo hi H'
abbrev DR (X : Cx) (T : Tab) (E : En) (xs : List Ex) (e : Expr) : Prop := PRg X e (tRg (T.W X.K) (evEs E xs))
theorem dr_1 {x : Ex} {a : Expr} {p pos : Pos} (hx : x.isStar = false) (hg : Gl X "range") (hm : X.mg "range" = none) (ha : DE X T E x a) (na : starEach [a] X.env = (false, eval a X.env) :: starEach [] X.env) : DR X T E [x] (.Call (.Name "range" p) [a] [] pos) := by
  intro pins s σ H Q I ⟨φ, st, κ, G, lo, hi, l, st', ds, F, O, e, eds, er, kq⟩
  refine prg_1 hg hm ha na pins s σ H Q I ?_
  obtain ⟨d, rfl, e1⟩ := evEs_one hx e
  rcases eds with h | ⟨rfl, h⟩
  · cases h
  · cases h
    refine ⟨φ, st, κ, G, _, st', F, O, e1, fun v κ1 G1 H1 S1 O1 r1 => ?_⟩
    cases r1
    exact ⟨hi, rfl, kq _ _ _ S1 O1⟩
theorem dr_2 {x y : Ex} {a b : Expr} {p pos : Pos} (hx : x.isStar = false) (hy : y.isStar = false) (hg : Gl X "range") (hm : X.mg "range" = none) (ha : DE X T E x a) (hb : DE X T E y b) (na : starEach [a, b] X.env = (false, eval a X.env) :: starEach [b] X.env) (nb : starEach [b] X.env = (false, eval b X.env) :: starEach [] X.env) (hp : (backTo pos (starEach [b] X.env)).any (·.1) = false) :
    DR X T E [x, y] (.Call (.Name "range" p) [a, b] [] pos) := by
  intro pins s σ H Q I ⟨φ, st, κ, G, lo, hi, l, st', ds, F, O, e, eds, er, kq⟩
  refine prg_2 hg hm ha hb na nb hp pins s σ H Q I ?_
  rw [evEs_cons hx] at e
  split at e
  · rename_i d st1 e1
    split at e
    · rename_i ds2 st2 e2
      obtain ⟨d', rfl, e3⟩ := evEs_one hy e2
      cases e
      rcases eds with h | ⟨rfl, h⟩
      · cases h
        refine ⟨φ, st, κ, G, _, st1, F, O, e1, fun v κ1 G1 H1 S1 O1 r1 => ⟨φ, st1, κ1, G1, _, st', F.mono O S1, O1, e3, fun u κ2 G2 H2 S2 O2 r2 => ?_⟩⟩
        cases r1; cases r2
        exact ⟨lo, hi, rfl, rfl, kq _ _ _ (S1.trans O S2) O2⟩
      · cases h
    · cases e
  · cases e
theorem rangeOf_some {ds l : List D} (h : rangeOf ds = some l) : ∃ lo hi, (ds = [.int lo, .int hi] ∨ (lo = 0 ∧ ds = [.int hi])) ∧ rangeD lo hi = some l := by
  unfold rangeOf at h
  split at h
  · exact ⟨0, _, .inr ⟨rfl, rfl⟩, h⟩
  · exact ⟨_, _, .inl rfl, h⟩
  · cases h
theorem RpL.rg {W : Wr} {κ : List Addr} {G : Hp} (lo : Int) : ∀ n : Nat, RpL W κ G ((List.range n).map fun i => V.int (lo + (i : Nat))) ((List.range n).map fun (i : Nat) => D.int (lo + i))
  | 0 => .nil
  | n + 1 => by
    rw [List.range_succ, List.map_append, List.map_append]
    exact (RpL.rg lo n).append (.cons (.int _) .nil)
theorem dn_listRg {xs : List Ex} {e : Expr} {p pos : Pos} (hc : X.calm = true) (hg : Gl X "list") (hm : X.mg "list" = none) (he : DR X T E xs e) (na : starEach [e] X.env = (false, eval e X.env) :: starEach [] X.env) : DN X T E (.listRg xs) (.Call (.Name "list" p) [e] [] pos) := by
  refine PE.imp (pe_listRg hc hg hm he na) fun σ H Q ⟨φ, st, κ, G, d, st', F, O, e, kq⟩ => ?_
  unfold evE at e
  split at e
  · rename_i ds st1 e1
    split at e
    · rename_i l el
      cases e
      obtain ⟨lo, hi, h1, h2⟩ := rangeOf_some el
      refine ⟨φ, st, κ, G, lo, hi, l, st', ds, F, O, e1, h1, h2, fun κ1 G1 H1 S1 O1 => ?_⟩
      obtain ⟨rfl, b1, b2, b3, b4, b5⟩ := rangeD_some h2
      refine ⟨⟨by omega, by omega, by omega, by omega, b5⟩, fun p hp => (kq.from O S1).new O1 (.lst (RpL.rg lo _)) hp⟩
    · cases e
  · cases e
theorem de_tupRg {xs : List Ex} {e : Expr} {p pos : Pos} (hc : X.calm = true) (hg : Gl X "tuple") (hm : X.mg "tuple" = none) (he : DR X T E xs e) (na : starEach [e] X.env = (false, eval e X.env) :: starEach [] X.env) : DE X T E (.tupRg xs) (.Call (.Name "tuple" p) [e] [] pos) := by
  refine PE.imp (peF_tupRg hc hg hm he na) fun σ H Q ⟨φ, st, κ, G, d, st', F, O, e, kq⟩ => ?_
  unfold evE at e
  split at e
  · rename_i ds st1 e1
    split at e
    · rename_i l el
      cases e
      obtain ⟨lo, hi, h1, h2⟩ := rangeOf_some el
      refine ⟨φ, st, κ, G, lo, hi, l, st', ds, F, O, e1, h1, h2, fun κ1 G1 H1 S1 O1 => ?_⟩
      obtain ⟨rfl, b1, b2, b3, b4, b5⟩ := rangeD_some h2
      refine ⟨⟨by omega, by omega, by omega, by omega, b5⟩, fun p o hd hp => (kq.from O S1).new O1 (.tup hd (RpL.rg lo _)) hp⟩
    · cases e
  · cases e
/-! ### calls of defs -/
/-- what an exception's wish must take -/
def KX (W : Wr) (ca : Nat → Addr) (κ : List Addr) (G H : Hp) (st : Sto) (c : Nat) (E : XK) : Prop := ∀ κ' G' H' d, Stp κ G H κ' G' H' → Ok W κ' st G' H' → E (.ref (ca c)) d H'
theorem KX.from {W : Wr} {ca : Nat → Addr} {κ κ1 : List Addr} {st st1 : Sto} {G H G1 H1 : Hp} {c : Nat} {E : XK} (k : KX W ca κ G H st c E) (O : Ok W κ st1 G H) (S : Stp κ G H κ1 G1 H1) : KX W ca κ1 G1 H1 st c E :=
  fun κ' G' H' d S' O' => k κ' G' H' d (S.trans O S') O'
/-- a def's promise -/
def spD (W : Wr) (ca : Nat → Addr) (E : En) (k : Nat) : Sp := fun vs H Q X => ∃ ds st κ G, RpL W κ G vs ds ∧ Ok W κ st G H ∧ ((∃ d st', E.call k ds st = some (d, st') ∧ KQ W κ G H st' d Q) ∨ ∃ c st', E.xc k ds st = some (c, st') ∧ KX W ca κ G H st' c X)
def envN (T : Tab) (n : Nat) : En := ⟨T.G, run T.prog T.G T.sub n, xrun T.prog T.G T.sub n, T.sub⟩
structure FnAt (X : Cx) (T : Tab) (n : Nat) : Prop where
  ok : ∀ k f, T.prog[k]? = some (some f) → FnOk X.prog X.w X.K X.mg X.base (L2.CX X.prog X.w) (n + 2) (T.fa k) (T.fd k) (T.ps k) (spD (T.W X.K) T.ca (envN T n) k) ∧ PySem.W.keepIn X.K (.ref (T.fa k)) = true ∧ Binds X.K (T.fd k) (T.ps k) []
theorem run_prog {prog : List (Option FnI)} {G : List D} {sub : Nat → Nat → Bool} {n k : Nat} {ds : List D} {st : Sto} {r : D × Sto} (h : run prog G sub n k ds st = some r) : ∃ f, prog[k]? = some (some f) := by
  cases n with
  | zero => unfold run at h; cases h
  | succ n =>
    unfold run at h
    split at h
    · rename_i f hf; exact ⟨f, hf⟩
    · cases h
theorem xrun_prog {prog : List (Option FnI)} {G : List D} {sub : Nat → Nat → Bool} {n k : Nat} {ds : List D} {st : Sto} {r : Nat × Sto} (h : xrun prog G sub n k ds st = some r) : ∃ f, prog[k]? = some (some f) := by
  cases n with
  | zero => unfold xrun at h; cases h
  | succ n =>
    unfold xrun at h
    split at h
    · rename_i f hf; exact ⟨f, hf⟩
    · cases h
theorem de_call {n k : Nat} {f : FnI} {xs : List Ex} {x : Str} {p pos : Pos} {e : Expr} {es : List Expr} (hF : FnAt X T n) (hk : T.prog[k]? = some (some f)) (hr : Room (n + 2) X.A) (hg : Gl X x) (hm : X.mg x = some (.ref (T.fa k))) (ha : DA X T (envN T n) xs (e :: es)) (hdb : (x == ("__debug__" : Str)) = false)
    (he : starEach (e :: es) X.env = (false, eval e X.env) :: starEach es X.env) (hpl : (backTo pos (starEach es X.env)).any (·.1) = false) : DE X T (envN T n) (.call k xs) (.Call (.Name x p) (e :: es) [] pos) := by
  obtain ⟨F, hkp, hb⟩ := hF.ok k f hk
  refine PE.imp (pe_call (dvs := []) (ds := []) (E := L2.E0) F hr hg hm hkp hb .nil passL ha hdb he hpl) fun σ H Q ⟨φ, st, κ, G, d, st', F, O, e, kq⟩ => ?_
  unfold evE at e
  split at e
  · rename_i ds st1 e1
    refine ⟨φ, st, κ, G, ds, st1, F, O, e1, fun vs κ1 G1 H1 S1 O1 r1 => ?_⟩
    show spD (T.W X.K) T.ca (envN T n) k (vs ++ []) H1 Q _
    rw [List.append_nil]
    exact ⟨ds, st1, κ1, G1, r1, O1, .inl ⟨d, st', e, kq.from O S1⟩⟩
  · cases e
theorem de_call0 {n k : Nat} {f : FnI} {x : Str} {p pos : Pos} (hF : FnAt X T n) (hk : T.prog[k]? = some (some f)) (hr : Room (n + 2) X.A) (hg : Gl X x) (hm : X.mg x = some (.ref (T.fa k))) (hdb : (x == ("__debug__" : Str)) = false) : DE X T (envN T n) (.call k []) (.Call (.Name x p) [] [] pos) := by
  obtain ⟨F, hkp, hb⟩ := hF.ok k f hk
  refine PE.imp (pe_call0 (dvs := []) (ds := []) (E := L2.E0) F hr hg hm hkp hb .nil passL hdb) fun σ H Q ⟨φ, st, κ, G, d, st', F, O, e, kq⟩ => ?_
  unfold evE evEs at e
  exact ⟨[], st, κ, G, .nil, O, .inl ⟨d, st', e, kq⟩⟩
theorem de_callv {n i : Nat} {xs : List Ex} {x : Str} {p pos : Pos} {e : Expr} {es : List Expr} (hF : FnAt X T n) (hr : Room (n + 2) X.A) (hN : X.N[i]? = some x) (hv : Vis X.env.scope x) (ha : DA X T (envN T n) xs (e :: es)) (hdb : (x == ("__debug__" : Str)) = false) (hcd : (x == ("__classdict__" : Str)) = false)
    (he : starEach (e :: es) X.env = (false, eval e X.env) :: starEach es X.env) (hpl : (backTo pos (starEach es X.env)).any (·.1) = false) : DE X T (envN T n) (.callv i xs) (.Call (.Name x p) (e :: es) [] pos) := by
  refine ⟨fun pins s σ H Q I ⟨φ, st, κ, G, d, st', F, O, e, kq⟩ => ?_⟩
  unfold evE at e
  split at e
  · rename_i k ek
    split at e
    · rename_i ds st1 e1
      obtain ⟨f, hk⟩ := run_prog (show run T.prog T.G T.sub n k ds st1 = some (d, st') from e)
      obtain ⟨Fk, hkp, hb⟩ := hF.ok k f hk
      obtain ⟨v, h1, h2⟩ := F.at_ i _ ek
      cases h2
      refine (pe_callL (i := i) (dvs := []) (ds := []) (E := L2.E0) Fk hr hN hv hkp hb .nil passL ha hdb hcd he hpl).run pins s σ H Q I ⟨h1, φ, st, κ, G, ds, st1, F, O, e1, fun vs κ1 G1 H1 S1 O1 r1 => ?_⟩
      show spD (T.W X.K) T.ca (envN T n) k (vs ++ []) H1 Q _
      rw [List.append_nil]
      exact ⟨ds, st1, κ1, G1, r1, O1, .inl ⟨d, st', e, kq.from O S1⟩⟩
    · cases e
  · cases e
/-! ### calls that may let an exception out -/
def tXE (W : Wr) (ca : Nat → Addr) (E : En) (Wx : WX) (x : Ex) : TE := fun σ H Q => tD W (evE E x) σ H Q ∨ ∃ φ st κ G c st', FrOk W κ G φ σ ∧ Ok W κ st G H ∧ xE E x φ st = some (c, st') ∧ KX W ca κ G H st' c (WE Wx σ)
abbrev DXE (X : Cx) (T : Tab) (E : En) (Wx : WX) (x : Ex) (e : Expr) : Prop := PE X e (tXE (T.W X.K) T.ca E Wx x)
theorem dxe_of {Wx : WX} {x : Ex} {e : Expr} (h : DE X T E x e) (hx : ∀ φ st, xE E x φ st = none) : DXE X T E Wx x e := PE.imp h fun σ H Q q => by
  rcases q with q | ⟨φ, st, κ, G, c, st', F, O, e, k⟩
  · exact q
  · rw [hx] at e; cases e
theorem dxe_call {Wx : WX} {n k : Nat} {f : FnI} {xs : List Ex} {x : Str} {p pos : Pos} {e : Expr} {es : List Expr} (tk : L2.Takes X Wx) (hF : FnAt X T n) (hk : T.prog[k]? = some (some f)) (hr : Room (n + 2) X.A) (hg : Gl X x) (hm : X.mg x = some (.ref (T.fa k))) (ha : DA X T (envN T n) xs (e :: es)) (hdb : (x == ("__debug__" : Str)) = false)
    (he : starEach (e :: es) X.env = (false, eval e X.env) :: starEach es X.env) (hpl : (backTo pos (starEach es X.env)).any (·.1) = false) : DXE X T (envN T n) Wx (.call k xs) (.Call (.Name x p) (e :: es) [] pos) := by
  obtain ⟨F, hkp, hb⟩ := hF.ok k f hk
  refine PE.imp (pe_callS (E := WE Wx) F hr hg hm hkp hb (fun σ => L2.passAt tk σ) ha hdb he hpl) fun σ H Q q => ?_
  rcases q with ⟨φ, st, κ, G, d, st', F, O, e, kq⟩ | ⟨φ, st, κ, G, c, st', F, O, e, kx⟩
  · unfold evE at e
    split at e
    · rename_i ds st1 e1
      refine ⟨φ, st, κ, G, ds, st1, F, O, e1, fun vs κ1 G1 H1 S1 O1 r1 => ?_⟩
      exact ⟨ds, st1, κ1, G1, r1, O1, .inl ⟨d, st', e, kq.from O S1⟩⟩
    · cases e
  · have e : (match evEs (envN T n) xs φ st with | some (ds, st1) => (envN T n).xc k ds st1 | none => none) = some (c, st') := e
    split at e
    · rename_i ds st1 e1
      refine ⟨φ, st, κ, G, ds, st1, F, O, e1, fun vs κ1 G1 H1 S1 O1 r1 => ?_⟩
      exact ⟨ds, st1, κ1, G1, r1, O1, .inr ⟨c, st', e, kx.from O S1⟩⟩
    · cases e
theorem dxe_call0 {Wx : WX} {n k : Nat} {f : FnI} {x : Str} {p pos : Pos} (tk : L2.Takes X Wx) (hF : FnAt X T n) (hk : T.prog[k]? = some (some f)) (hr : Room (n + 2) X.A) (hg : Gl X x) (hm : X.mg x = some (.ref (T.fa k))) (hdb : (x == ("__debug__" : Str)) = false) : DXE X T (envN T n) Wx (.call k []) (.Call (.Name x p) [] [] pos) := by
  obtain ⟨F, hkp, hb⟩ := hF.ok k f hk
  refine ⟨fun pins s σ H Q I q => ?_⟩
  have h : spD (T.W X.K) T.ca (envN T n) k [] H Q (WE Wx σ) := by
    rcases q with ⟨φ, st, κ, G, d, st', F, O, e, kq⟩ | ⟨φ, st, κ, G, c, st', F, O, e, kx⟩
    · unfold evE evEs at e
      exact ⟨[], st, κ, G, .nil, O, .inl ⟨d, st', e, kq⟩⟩
    · have e : (match evEs (envN T n) [] φ st with | some (ds, st1) => (envN T n).xc k ds st1 | none => none) = some (c, st') := e
      unfold evEs at e
      exact ⟨[], st, κ, G, .nil, O, .inr ⟨c, st', e, kx⟩⟩
  refine wpAny_Call_Name_kw (ld_glob I hg hm ?_ hdb)
  exact PySem.W.callWith_K0 I.kIn hkp (run_fnS (us := []) (E := WE Wx) F hr hb (L2.passAt tk σ) I .nil h)
theorem dxe_callv {Wx : WX} {n i : Nat} {xs : List Ex} {x : Str} {p pos : Pos} {e : Expr} {es : List Expr} (tk : L2.Takes X Wx) (hF : FnAt X T n) (hr : Room (n + 2) X.A) (hN : X.N[i]? = some x) (hv : Vis X.env.scope x) (ha : DA X T (envN T n) xs (e :: es)) (hdb : (x == ("__debug__" : Str)) = false) (hcd : (x == ("__classdict__" : Str)) = false)
    (he : starEach (e :: es) X.env = (false, eval e X.env) :: starEach es X.env) (hpl : (backTo pos (starEach es X.env)).any (·.1) = false) : DXE X T (envN T n) Wx (.callv i xs) (.Call (.Name x p) (e :: es) [] pos) := by
  refine ⟨fun pins s σ H Q I q => ?_⟩
  have go : ∀ (k : Nat) (φ : Fr) (st : Sto) (κ : List Addr) (G : Hp) (ds : List D) (st1 : Sto), φ[i]? = some (some (.fn k)) → (∃ f, T.prog[k]? = some (some f)) → FrOk (T.W X.K) κ G φ σ → Ok (T.W X.K) κ st G H → evEs (envN T n) xs φ st = some (ds, st1) →
      ((∃ d st', (envN T n).call k ds st1 = some (d, st') ∧ KQ (T.W X.K) κ G H st' d Q) ∨ ∃ c st', (envN T n).xc k ds st1 = some (c, st') ∧ KX (T.W X.K) T.ca κ G H st' c (WE Wx σ)) → wpAny (model X.prog X.w) X.A (eval (.Call (.Name x p) (e :: es) [] pos) X.env) (EP X pins σ Q) X.xe s := by
    intro k φ st κ G ds st1 ek ⟨f, hk⟩ F O e1 hq
    obtain ⟨Fk, hkp, hb⟩ := hF.ok k f hk
    obtain ⟨v, h1, h2⟩ := F.at_ i _ ek
    cases h2
    refine wpAny_Call_Name_kw (thn ((pe_var (pos := p) hN hv hdb hcd).run pins s σ H (fun v H1 => v = .ref (T.fa k) ∧ H1 = H) I ⟨.ref (T.fa k), h1, rfl, rfl⟩) fun u s1 ⟨v, H1, I1, r1, q1⟩ => ?_)
    obtain ⟨rfl, rfl⟩ := q1
    cases r1
    refine PySem.W.callWith_K (h₀ := X.base) I.ok.mod.kin hkp (thn (ha.run pos pins s1 σ _ (fun vs H2 => spD (T.W X.K) T.ca (envN T n) k vs H2 Q (WE Wx σ)) I1 ⟨φ, st, κ, G, ds, st1, F, O, e1, fun vs κ1 G1 H1 S1 O1 r1 => ⟨ds, st1, κ1, G1, r1, O1, ?_⟩⟩) fun us s2 ⟨vs, H2, I2, r, q⟩ => ⟨I2.kIn, run_fnS (E := WE Wx) Fk hr hb (L2.passAt tk σ) I2 r q⟩) he hpl
    rcases hq with ⟨d, st', e2, kq⟩ | ⟨c, st', e2, kx⟩
    · exact .inl ⟨d, st', e2, kq.from O S1⟩
    · exact .inr ⟨c, st', e2, kx.from O S1⟩
  rcases q with ⟨φ, st, κ, G, d, st', F, O, e, kq⟩ | ⟨φ, st, κ, G, c, st', F, O, e, kx⟩
  · unfold evE at e
    split at e
    · rename_i k ek
      split at e
      · rename_i ds st1 e1
        exact go k φ st κ G ds st1 ek (run_prog (show run T.prog T.G T.sub n k ds st1 = some (d, st') from e)) F O e1 (.inl ⟨d, st', e, kq⟩)
      · cases e
    · cases e
  · have e : (match φ[i]? with
      | some (some (.fn k)) => (match evEs (envN T n) xs φ st with
        | some (ds, st1) => (envN T n).xc k ds st1
        | none => none)
      | _ => none) = some (c, st') := e
    split at e
    · rename_i k ek
      split at e
      · rename_i ds st1 e1
        exact go k φ st κ G ds st1 ek (xrun_prog (show xrun T.prog T.G T.sub n k ds st1 = some (c, st') from e)) F O e1 (.inr ⟨c, st', e, kx⟩)
      · cases e
    · cases e
end
end
end Ev


set_option Elab.async false
set_option linter.all false
set_option maxRecDepth 100000
set_option maxHeartbeats 400000
/-! EvC: targets, comprehensions, dict displays, by data. -/
namespace Ev
open PySem PySem.Spec PyProof.Rows L2

theorem wipe_in {σ : L2.St} {i : Nat} : ∀ {vs : List Nat}, i ∈ vs → (L2.wipe σ vs)[i]? = if i < σ.length then some none else none
  | [], h => by cases h
  | v :: vs, h => by
    show ((L2.wipe σ vs).set v none)[i]? = _
    by_cases e : v = i
    · subst e
      by_cases l : v < σ.length
      · rw [if_pos l, List.getElem?_set_self (by rw [wipe_length]; exact l)]
      · rw [if_neg l, List.getElem?_eq_none (by rw [List.length_set, wipe_length]; omega)]
    · rw [List.getElem?_set_ne e]
      rcases List.mem_cons.mp h with h | h
      · exact absurd h.symm e
      · exact wipe_in h
theorem wipe_set {σ : L2.St} {i : Nat} {x : Option V} {vs : List Nat} (h : i ∈ vs) : L2.wipe (σ.set i x) vs = L2.wipe σ vs := by
  apply List.ext_getElem?
  intro j
  by_cases hj : j ∈ vs
  · rw [wipe_in hj, wipe_in hj, List.length_set]
  · rw [wipe_out hj, wipe_out hj, List.getElem?_set_ne (show i ≠ j from fun e => hj (by rw [← e]; exact h))]
theorem wipe_wipe {σ : L2.St} {vs : List Nat} : L2.wipe (L2.wipe σ vs) vs = L2.wipe σ vs := by
  apply List.ext_getElem?
  intro j
  by_cases hj : j ∈ vs
  · rw [wipe_in hj, wipe_in hj, wipe_length]
  · rw [wipe_out hj]
def gNames : List Nat → TGs
  | [] => gNil
  | i :: r => gCons (gName i) (gNames r)
def gCT (K : PySem.W.Frag) : CT → TG
  | .one i => gName i
  | .many is => gTup K is.length (gNames is)
def ctOk : Wk → CT → Bool
  | .enum, .one _ => false
  | .zip, .one _ => false
  | _, _ => true
section
variable {W : Wr} {κ : List Addr} {st : Sto} {G H : Hp}
theorem gNames_go : ∀ {is : List Nat} {vs : List V} {ds : List D} {φ φ1 : Fr} {σ : L2.St} {Q : L2.St → Hp → Prop}, setAll φ is ds = some φ1 → FrOk W κ G φ σ → RpL W κ G vs ds →
    (∀ σ1, FrOk W κ G φ1 σ1 → (∀ own, (∀ i ∈ is, i ∈ own) → L2.wipe σ1 own = L2.wipe σ own) → Q σ1 H) → gNames is vs σ H Q
  | [], vs, ds, φ, φ1, σ, Q, h, F, r, q => by
    cases ds with
    | nil => cases h; cases r; exact ⟨rfl, q σ F fun _ _ => rfl⟩
    | cons d ds => cases h
  | i :: is, vs, ds, φ, φ1, σ, Q, h, F, r, q => by
    cases ds with
    | nil => cases h
    | cons d ds =>
      cases r with
      | @cons v vs' _ _ r1 r2 =>
        refine ⟨v, vs', rfl, gNames_go (φ := φ.set i (some d)) h (F.set i r1) r2 fun σ1 F1 w1 => q σ1 F1 fun own ho => ?_⟩
        rw [w1 own fun j hj => ho j (List.mem_cons_of_mem _ hj), wipe_set (ho i List.mem_cons_self)]
theorem setAll_len : ∀ {is : List Nat} {ds : List D} {φ φ1 : Fr}, setAll φ is ds = some φ1 → ds.length = is.length
  | [], ds, φ, φ1, h => by cases ds with | nil => rfl | cons => cases h
  | i :: is, ds, φ, φ1, h => by
    cases ds with
    | nil => cases h
    | cons d ds => simp [setAll_len (φ := φ.set i (some d)) h]
theorem gCT_go {w : Wk} {t : CT} {d : D} {v : V} {φ φ1 : Fr} {σ : L2.St} {Q : L2.St → Hp → Prop} (hw : ctOk w t = true) (h : bindCT φ t d = some φ1) (F : FrOk W κ G φ σ) (O : Ok W κ st G H) (y : Yld W w κ G H v d)
    (q : ∀ σ1, FrOk W κ G φ1 σ1 → (∀ own, (∀ i ∈ t.slots, i ∈ own) → L2.wipe σ1 own = L2.wipe σ own) → Q σ1 H) : gCT W.K t v σ H Q := by
  cases t with
  | one i =>
    have r : Rp W κ G v d := by cases w <;> first | exact y | cases hw
    cases h
    exact q _ (F.set i r) fun own ho => wipe_set (ho i (by simp [CT.slots]))
  | many is =>
    have r : ∃ a vs ds, v = .ref a ∧ SqT W.K H a vs ∧ d = .tup ds ∧ RpL W κ G vs ds := by
      cases w with
      | seq =>
        cases d <;> try (cases h; done)
        obtain ⟨a, vs, rfl, h1, h2⟩ := read_tup0 O y
        exact ⟨a, vs, _, rfl, h1, rfl, h2⟩
      | range =>
        cases d <;> try (cases h; done)
        obtain ⟨a, vs, rfl, h1, h2⟩ := read_tup0 O y
        exact ⟨a, vs, _, rfl, h1, rfl, h2⟩
      | enum => exact y
      | zip => exact y
    obtain ⟨a, vs, ds, rfl, h1, rfl, h2⟩ := r
    have h : setAll φ is ds = some φ1 := h
    exact ⟨a, vs, rfl, h1, by rw [h2.length]; exact setAll_len h, gNames_go h F h2 q⟩
end
def tDB (W : Wr) (f : Fr → Sto → Option (Bool × Sto)) : TT := fun σ H Q => ∃ φ st κ G b st', FrOk W κ G φ σ ∧ Ok W κ st G H ∧ f φ st = some (b, st') ∧ KT W κ G H st' b Q
section
variable {X : Cx} {T : Tab} {E : En}
abbrev DIfs (X : Cx) (T : Tab) (E : En) (l : List Ex) (ifs : List Expr) : Prop := PTs X ifs (tDB (T.W X.K) (evIfs E l))
theorem PTs.imp {X : Cx} {e : List Expr} {t t' : TT} (h : PTs X e t) (i : ∀ σ H Q, t' σ H Q → t σ H Q) : PTs X e t' := ⟨fun pins s σ H Q I q => h.run pins s σ H Q I (i σ H Q q)⟩
theorem difs_nil : DIfs X T E [] [] := PTs.imp pts_nil fun σ H Q ⟨φ, st, κ, G, b, st', F, O, e, k⟩ => by
  unfold evIfs at e; cases e; exact k.now O
theorem difs_one {x : Ex} {c : Expr} (h : DT X T E x c) : DIfs X T E [x] [c] := PTs.imp (pts_one h) fun σ H Q ⟨φ, st, κ, G, b, st', F, O, e, k⟩ => by
  unfold evIfs at e
  split at e
  · rename_i b1 st1 e1
    cases e
    exact ⟨φ, st, κ, G, b, st', F, O, e1, k⟩
  · cases e
/-- a comprehension's turn -/
def turnF (E : En) (own : List Nat) (t : CT) (ifs : List Ex) (e : Ex) (φ : Fr) : D → Sto → Option (Option D × Sto) := fun d s => match bindCT (wipe φ own) t d with
          | some φ1 => (match evIfs E ifs φ1 s with
            | some (true, s1) => (match evE E e φ1 s1 with
              | some (y, s2) => some (some y, trimS s.length y s2)
              | none => none)
            | some (false, s1) => some (none, s1)
            | none => none)
          | none => none
theorem evE_comp {own : List Nat} {t : CT} {w : Wk} {src ifs : List Ex} {e : Ex} {φ : Fr} {st : Sto} {r : D × Sto} (h : evE E (.comp own t w src ifs e) φ st = some r) :
    ∃ ds st1 n sr ys, evEs E src φ st = some (ds, st1) ∧ srcOf st1 w ds = some (n, sr) ∧ n ≤ line ∧ overC sr (turnF E own t ifs e φ) n 0 st1 = some (ys, r.2) ∧ r.1 = .lst ys := by
  unfold evE at h
  split at h
  · rename_i ds st1 e1
    split at h
    · rename_i ys st2 e2
      cases h
      unfold overW at e2
      split at e2
      · rename_i n sr es
        split at e2
        · rename_i hn
          exact ⟨ds, st1, n, sr, ys, e1, es, hn, e2, rfl⟩
        · cases e2
      · cases e2
    · cases h
  · cases h
theorem overC_step {src : Sto → Nat → Option (Option D)} {f : D → Sto → Option (Option D × Sto)} {m i : Nat} {s : Sto} {ys : List D} {s2 : Sto} (h : overC src f m i s = some (ys, s2)) :
    (src s i = some none ∧ ys = [] ∧ s2 = s) ∨ ∃ m' d o s1 ys', m = m' + 1 ∧ src s i = some (some d) ∧ f d s = some (o, s1) ∧ overC src f m' (i + 1) s1 = some (ys', s2) ∧ ys = o.toList ++ ys' := by
  cases m with
  | zero =>
    unfold overC at h
    split at h
    · rename_i e; cases h; exact .inl ⟨e, rfl, rfl⟩
    · cases h
  | succ m =>
    unfold overC at h
    split at h
    · rename_i e; cases h; exact .inl ⟨e, rfl, rfl⟩
    · rename_i d e
      split at h
      · rename_i o s1 e1
        split at h
        · rename_i ys' s3 e2
          cases h
          exact .inr ⟨m, d, o, s1, ys', rfl, e, e1, e2, rfl⟩
        · cases h
      · cases h
    · cases h
theorem turnF_some {own : List Nat} {t : CT} {ifs : List Ex} {e : Ex} {φ : Fr} {d : D} {s s' : Sto} {o : Option D} (h : turnF E own t ifs e φ d s = some (o, s')) :
    ∃ φ1 b s1, bindCT (wipe φ own) t d = some φ1 ∧ evIfs E ifs φ1 s = some (b, s1) ∧ ((b = true ∧ ∃ y s2, evE E e φ1 s1 = some (y, s2) ∧ o = some y ∧ s' = trimS s.length y s2) ∨ (b = false ∧ o = none ∧ s' = s1)) := by
  unfold turnF at h
  split at h
  · rename_i φ1 e1
    split at h
    · rename_i s1 e2
      split at h
      · rename_i y s2 e3
        cases h
        exact ⟨φ1, true, s1, e1, e2, .inl ⟨rfl, y, s2, e3, rfl, rfl⟩⟩
      · cases h
    · rename_i s1 e2
      cases h
      exact ⟨φ1, false, _, e1, e2, .inr ⟨rfl, rfl, rfl⟩⟩
    · cases h
  · cases h
theorem Stp.none {κ κ' : List Addr} {G H G' H' : Hp} (S : Stp κ G H κ' G' H') {a : Addr} (h : H' a = none) : H a = none := by
  cases q : H a with
  | none => rfl
  | some u => obtain ⟨u', z⟩ := S.there a u q; rw [h] at z; cases z
theorem vst_of {W : Wr} {κ κ' : List Addr} {st : Sto} {G H G' H' : Hp} (O : Ok W κ st G H) (S : Stp κ G H κ' G' H') : VSt κ G κ' G' := S.v O
theorem FrOk.vmono {W : Wr} {κ κ' : List Addr} {G G' : Hp} {φ : Fr} {σ : L2.St} (F : FrOk W κ G φ σ) (a : VSt κ G κ' G') : FrOk W κ' G' φ σ :=
  ⟨F.len, fun i d e => let ⟨v, h1, h2⟩ := F.at_ i d e; ⟨v, h1, h2.vmono a⟩⟩
/-- the loop's word -/
def CW (W : Wr) (E : En) (own : List Nat) (t : CT) (ifs : List Ex) (e : Ex) (φ : Fr) (sr : Sto → Nat → Option (Option D)) (κ1 : List Addr) (G1 H1 : Hp) (Dd : Addr) (n : Nat) (ys : List D) (st2 : Sto) (i m : Nat) (H : Hp) : Prop :=
  ∃ κ2 G2 s acc done rest, Stp κ1 G1 H1 κ2 G2 H ∧ Ok W κ2 s G2 H ∧ G2 Dd = none ∧ H Dd = some (.lst acc) ∧ RpL W κ2 G2 acc done ∧ overC sr (turnF E own t ifs e φ) m i s = some (rest, st2) ∧ ys = done ++ rest ∧ done.length + m ≤ n
theorem comp_imp {own : List (Str × Nat)} {t : CT} {w : Wk} {src ifs : List Ex} {x : Ex} (hw : ctOk w t = true) (hs : ∀ i ∈ t.slots, i ∈ own.map (·.2)) (σ : L2.St) (H : Hp) (Q : VK)
    (h : tN (T.W X.K) (evE E (.comp (own.map (·.2)) t w src ifs x)) σ H Q) : tLc (tI (T.W X.K) (evEs E src) w) (gCT X.K t) (tDB (T.W X.K) (evIfs E ifs)) (tD (T.W X.K) (evE E x)) (own.map (·.2)) σ H Q := by
  obtain ⟨φ, st, κ, G, d, st', F, O, e, kq⟩ := h
  obtain ⟨ds, st1, n, sr, ys, e1, es, hn, eo, ed⟩ := evE_comp e
  simp only at eo ed
  subst ed
  refine ⟨φ, st, κ, G, ds, st1, n, sr, F, O, e1, es, fun n' sr' es' κ1 G1 H1 J S1 O1 itd => ?_⟩
  rw [es] at es'
  cases es'
  intro Dd hD
  obtain ⟨Oh, Sh⟩ := O1.hide (o := .lst []) hD
  have g1 : G1 Dd = none := O1.gnone hD
  refine ⟨CW (T.W X.K) E (own.map (·.2)) t ifs x φ sr κ1 G1 H1 Dd n ys st', ⟨n, κ1, G1, st1, [], [], ys, Sh, Oh, g1, upd_same, .nil, eo, rfl, by simp⟩, fun i m H2 hW => ?_⟩
  obtain ⟨κ2, G2, s, acc, done, rest, S02, O2, g2, hDd, ra, eo2, eys, hl⟩ := hW
  rcases overC_step eo2 with ⟨h1, rfl, rfl⟩ | ⟨m', d', o, s1, ys', rfl, h1, h2, h3, rfl⟩
  · refine .inl ⟨itd.stop κ2 _ G2 H2 i (vst_of O1 S02) O2 h1, ?_⟩
    rw [List.append_nil] at eys
    subst eys
    exact kq Dd (.lst acc) κ2 G2 H2 (S1.trans O S02) O2 (S1.none hD) g2 hDd (.lst ra)
  · refine .inr ?_
    obtain ⟨hgo, hy⟩ := itd.go κ2 s G2 H2 i d' (vst_of O1 S02) O2 h1
    refine ⟨hgo, CW (T.W X.K) E (own.map (·.2)) t ifs x φ sr κ1 G1 H1 Dd n ys st' (i + 1) m', fun H' h => ⟨m', Nat.lt_succ_self _, h⟩, fun v H3 hv => ?_⟩
    obtain ⟨S3, O3, y3⟩ := hy v H3 hv
    obtain ⟨φ1, b, s2, b1, b2, b3⟩ := turnF_some h2
    have F3 : FrOk (T.W X.K) κ2 G2 φ σ := F.mono O (S1.trans O S02)
    refine gCT_go hw b1 (F3.wipe _) O3 y3 fun σ2 F4 hwp => ⟨by rw [hwp _ hs, wipe_wipe], φ1, s, κ2, G2, b, s2, F4, O3, b2, fun κ4 G4 H4 S4 O4 => ?_⟩
    have S24 : Stp κ2 G2 H2 κ4 G4 H4 := S3.trans O2 S4
    rcases b3 with ⟨rfl, y, s5, e4, rfl, rfl⟩ | ⟨rfl, rfl, rfl⟩
    · refine ite_t ⟨φ1, s2, κ4, G4, y, s5, F4.mono O3 S4, O4, e4, fun u κ5 G5 H5 S5 O5 r5 => ?_⟩
      have S25 : Stp κ2 G2 H2 κ5 G5 H5 := S24.trans O2 S5
      obtain ⟨hD5, g5⟩ := S25.hid Dd _ hDd g2
      have hlen := ra.length
      obtain ⟨κ6, O6, S26, r6⟩ := trim_go O2 S25 O5 r5
      refine ⟨acc, hD5, by rw [hlen]; show done.length < line; omega, κ6, G5, _, acc ++ [u], done ++ [y], ys', (S02.trans O1 S26).poke hD, O6.poke g5, g5, upd_same, (ra.mono O2 S26).append (.cons r6 .nil), h3, by rw [eys]; simp, by simp; omega⟩
    · refine ite_f ⟨κ4, G4, _, acc, done, ys', S02.trans O1 S24, O4, (S24.hid Dd _ hDd g2).2, (S24.hid Dd _ hDd g2).1, ra.mono O2 S24, h3, by rw [eys]; simp, by omega⟩

theorem dn_comp {own : List (Str × Nat)} {t : CT} {w : Wk} {src ifs : List Ex} {x : Ex} {elt tg iter : Expr} {is : List Expr} {scope : Scope} {pos : Pos} (hc : X.calm = true) (hN : X.N.Nodup) (hw : ctOk w t = true) (hs : ∀ i ∈ t.slots, i ∈ own.map (·.2))
    (hi : DI X T E w src tg iter) (ok : BlkOk X.N X.env.scope scope own)
    (hg : ∀ (s : Shared) (H : Hp) (C : Addr) (cl : List (Str × Addr)) (fp : List Addr), PG (X.blk s H scope (compEnvC scope cl C X.env) fp) tg (gCT X.K t))
    (ht : ∀ (s : Shared) (H : Hp) (C : Addr) (cl : List (Str × Addr)) (fp : List Addr), DIfs (X.blk s H scope (compEnvC scope cl C X.env) fp) T E ifs is)
    (he : ∀ (s : Shared) (H : Hp) (C : Addr) (cl : List (Str × Addr)) (fp : List Addr), DE (X.blk s H scope (compEnvC scope cl C X.env) fp) T E x elt)
    (hf : ∀ x, foldedSetIterable iter X.env x = pure x) : DN X T E (.comp (own.map (·.2)) t w src ifs x) (.ListComp elt [⟨tg, iter, is, 0⟩] scope pos) := by
  exact PE.imp (pe_lc (wi := tI (T.W X.K) (evEs E src) w) (g := gCT X.K t) (tt := tDB (T.W X.K) (evIfs E ifs)) (te := tD (T.W X.K) (evE E x)) hc hN hi ok hg ht he hf) fun σ H Q h => comp_imp hw hs σ H Q h
/-! ### [e for .. for ..] -/
def turnI (E : En) (t2 : CT) (e : Ex) (φ1 : Fr) : D → Sto → Option (Option D × Sto) := fun d2 s => match bindCT (wipe φ1 t2.slots) t2 d2 with
                | some φ2 => (match evE E e φ2 s with
                  | some (y, s2) => some (some y, s2)
                  | none => none)
                | none => none
def turnO (E : En) (own : List Nat) (t : CT) (t2 : CT) (w2 : Wk) (src2 : List Ex) (e : Ex) (φ : Fr) : D → Sto → Option (Option D × Sto) := fun d s => match bindCT (wipe φ own) t d with
          | some φ1 => (match evEs E src2 φ1 s with
            | some (ds2, s1) => (match overW (turnI E t2 e φ1) w2 ds2 s1 with
              | some (ys, s2) => some (some (.lst ys), s2)
              | none => none)
            | none => none)
          | none => none
theorem overW_some {f : D → Sto → Option (Option D × Sto)} {w : Wk} {ds : List D} {st : Sto} {r : List D × Sto} (h : overW f w ds st = some r) : ∃ n sr, srcOf st w ds = some (n, sr) ∧ n ≤ line ∧ overC sr f n 0 st = some r := by
  unfold overW at h
  split at h
  · rename_i n sr es
    split at h
    · rename_i hn; exact ⟨n, sr, es, hn, h⟩
    · cases h
  · cases h
theorem evE_comp2 {own : List Nat} {t : CT} {w : Wk} {src : List Ex} {t2 : CT} {w2 : Wk} {src2 : List Ex} {e : Ex} {φ : Fr} {st : Sto} {r : D × Sto} (h : evE E (.comp2 own t w src t2 w2 src2 e) φ st = some r) :
    ∃ ds st1 n sr yss ys, evEs E src φ st = some (ds, st1) ∧ srcOf st1 w ds = some (n, sr) ∧ overC sr (turnO E own t t2 w2 src2 e φ) n 0 st1 = some (yss, r.2) ∧ catL yss = some ys ∧ ys.length ≤ line ∧ r.1 = .lst ys := by
  unfold evE at h
  split at h
  · rename_i ds st1 e1
    split at h
    · rename_i yss st2 e2
      split at h
      · rename_i ys ec
        split at h
        · rename_i hl
          cases h
          obtain ⟨n, sr, es, hn, eo⟩ := overW_some e2
          exact ⟨ds, st1, n, sr, yss, ys, e1, es, eo, ec, hl, rfl⟩
        · cases h
      · cases h
    · cases h
  · cases h
theorem turnO_some {own : List Nat} {t t2 : CT} {w2 : Wk} {src2 : List Ex} {e : Ex} {φ : Fr} {d : D} {s s' : Sto} {o : Option D} (h : turnO E own t t2 w2 src2 e φ d s = some (o, s')) :
    ∃ φ1 ds2 s1 n sr ys, bindCT (wipe φ own) t d = some φ1 ∧ evEs E src2 φ1 s = some (ds2, s1) ∧ srcOf s1 w2 ds2 = some (n, sr) ∧ overC sr (turnI E t2 e φ1) n 0 s1 = some (ys, s') ∧ o = some (.lst ys) := by
  unfold turnO at h
  split at h
  · rename_i φ1 e1
    split at h
    · rename_i ds2 s1 e2
      split at h
      · rename_i ys s2 e3
        cases h
        obtain ⟨n, sr, es, hn, eo⟩ := overW_some e3
        exact ⟨φ1, ds2, s1, n, sr, ys, e1, e2, es, eo, rfl⟩
      · cases h
    · cases h
  · cases h
theorem turnI_some {t2 : CT} {e : Ex} {φ1 : Fr} {d : D} {s s' : Sto} {o : Option D} (h : turnI E t2 e φ1 d s = some (o, s')) : ∃ φ2 y, bindCT (wipe φ1 t2.slots) t2 d = some φ2 ∧ evE E e φ2 s = some (y, s') ∧ o = some y := by
  unfold turnI at h
  split at h
  · rename_i φ2 e1
    split at h
    · rename_i y s2 e2
      cases h
      exact ⟨φ2, y, e1, e2, rfl⟩
    · cases h
  · cases h
theorem catL_cons {ys : List D} {r : List D} {all : List D} (h : catL (.lst ys :: r) = some all) : ∃ m, catL r = some m ∧ all = ys ++ m := by
  have h : (match catL r with | some m => some (ys ++ m) | none => none) = some all := h
  split at h
  · rename_i m em; cases h; exact ⟨m, em, rfl⟩
  · cases h
/-- the loops' words -/
def CW2 (W : Wr) (E : En) (own : List Nat) (t t2 : CT) (w2 : Wk) (src2 : List Ex) (e : Ex) (φ : Fr) (sr : Sto → Nat → Option (Option D)) (κ1 : List Addr) (G1 H1 : Hp) (Dd : Addr) (ys : List D) (st2 : Sto) (i m : Nat) (H : Hp) : Prop :=
  ∃ κ2 G2 s acc done rest r, Stp κ1 G1 H1 κ2 G2 H ∧ Ok W κ2 s G2 H ∧ G2 Dd = none ∧ H Dd = some (.lst acc) ∧ RpL W κ2 G2 acc done ∧ overC sr (turnO E own t t2 w2 src2 e φ) m i s = some (rest, st2) ∧ catL rest = some r ∧ ys = done ++ r
def CWI (W : Wr) (E : En) (t2 : CT) (e : Ex) (φ1 : Fr) (sr : Sto → Nat → Option (Option D)) (κ1 : List Addr) (G1 H1 : Hp) (κ5 : List Addr) (G5 : Hp) (Dd : Addr) (ys r : List D) (s' : Sto) (i m : Nat) (H : Hp) : Prop :=
  ∃ κ2 G2 s acc done rest, Stp κ1 G1 H1 κ2 G2 H ∧ VSt κ5 G5 κ2 G2 ∧ Ok W κ2 s G2 H ∧ G2 Dd = none ∧ H Dd = some (.lst acc) ∧ RpL W κ2 G2 acc done ∧ overC sr (turnI E t2 e φ1) m i s = some (rest, s') ∧ ys = done ++ (rest ++ r)
theorem dn_comp2 {own : List (Str × Nat)} {t t2 : CT} {w w2 : Wk} {src src2 : List Ex} {x : Ex} {elt tg iter tg1 iter1 : Expr} {scope : Scope} {pos : Pos} (hc : X.calm = true) (hN : X.N.Nodup) (hw : ctOk w t = true) (hw2 : ctOk w2 t2 = true) (hs : ∀ i ∈ t.slots, i ∈ own.map (·.2)) (hs2 : ∀ i ∈ t2.slots, i ∈ own.map (·.2))
    (hi : DI X T E w src tg iter) (ok : BlkOk X.N X.env.scope scope own)
    (hg : ∀ (s : Shared) (H : Hp) (C : Addr) (cl : List (Str × Addr)) (fp : List Addr), PG (X.blk s H scope (compEnvC scope cl C X.env) fp) tg (gCT X.K t))
    (hi1 : ∀ (s : Shared) (H : Hp) (C : Addr) (cl : List (Str × Addr)) (fp : List Addr), DI (X.blk s H scope (compEnvC scope cl C X.env) fp) T E w2 src2 tg1 iter1)
    (hg1 : ∀ (s : Shared) (H : Hp) (C : Addr) (cl : List (Str × Addr)) (fp : List Addr), PG (X.blk s H scope (compEnvC scope cl C X.env) fp) tg1 (gCT X.K t2))
    (he : ∀ (s : Shared) (H : Hp) (C : Addr) (cl : List (Str × Addr)) (fp : List Addr), DE (X.blk s H scope (compEnvC scope cl C X.env) fp) T E x elt)
    (hf : ∀ x, foldedSetIterable iter X.env x = pure x) (hf1 : ∀ env x, foldedSetIterable iter1 env x = pure x) : DN X T E (.comp2 (own.map (·.2)) t w src t2 w2 src2 x) (.ListComp elt [⟨tg, iter, [], 0⟩, ⟨tg1, iter1, [], 0⟩] scope pos) := by
  refine PE.imp (pe_lc2 (wi := tI (T.W X.K) (evEs E src) w) (g := gCT X.K t) (tt := tDB (T.W X.K) (evIfs E [])) (wi1 := tI (T.W X.K) (evEs E src2) w2) (g1 := gCT X.K t2) (tt1 := tDB (T.W X.K) (evIfs E [])) (te := tD (T.W X.K) (evE E x)) (vs1 := t2.slots) hc hN hi ok hs2 hg (fun _ _ _ _ _ => difs_nil) hi1 hg1 (fun _ _ _ _ _ => difs_nil) he hf hf1) fun σ H Q ⟨φ, st, κ, G, d, st', F, O, e, kq⟩ => ?_
  obtain ⟨ds, st1, n, sr, yss, ys, e1, es, eo, ec, hl, ed⟩ := evE_comp2 e
  simp only at eo ed
  subst ed
  refine ⟨φ, st, κ, G, ds, st1, n, sr, F, O, e1, es, fun n' sr' es' κ1 G1 H1 J S1 O1 itd => ?_⟩
  rw [es] at es'
  cases es'
  intro Dd hD
  obtain ⟨Oh, Sh⟩ := O1.hide (o := .lst []) hD
  have g1 : G1 Dd = none := O1.gnone hD
  refine ⟨CW2 (T.W X.K) E (own.map (·.2)) t t2 w2 src2 x φ sr κ1 G1 H1 Dd ys st', ⟨n, κ1, G1, st1, [], [], yss, ys, Sh, Oh, g1, upd_same, .nil, eo, ec, rfl⟩, fun i m H2 hW => ?_⟩
  obtain ⟨κ2, G2, s, acc, done, rest, r, S02, O2, g2, hDd, ra, eo2, ec2, eys⟩ := hW
  rcases overC_step eo2 with ⟨h1, rfl, rfl⟩ | ⟨m', d', o, s1, ys', rfl, h1, h2, h3, rfl⟩
  · refine .inl ⟨itd.stop κ2 _ G2 H2 i (vst_of O1 S02) O2 h1, ?_⟩
    cases ec2
    rw [List.append_nil] at eys
    subst eys
    exact kq Dd (.lst acc) κ2 G2 H2 (S1.trans O S02) O2 (S1.none hD) g2 hDd (.lst ra)
  · refine .inr ?_
    obtain ⟨hgo, hy⟩ := itd.go κ2 s G2 H2 i d' (vst_of O1 S02) O2 h1
    obtain ⟨φ1, ds2, s2, n2, sr2, zs, b1, b2, b3, b4, rfl⟩ := turnO_some h2
    obtain ⟨r2, ec3, rfl⟩ := catL_cons (show catL (.lst zs :: ys') = some r from ec2)
    refine ⟨hgo, CW2 (T.W X.K) E (own.map (·.2)) t t2 w2 src2 x φ sr κ1 G1 H1 Dd ys st' (i + 1) m', fun H' h => ⟨m', Nat.lt_succ_self _, h⟩, fun v H3 hv => ?_⟩
    obtain ⟨S3, O3, y3⟩ := hy v H3 hv
    have F3 : FrOk (T.W X.K) κ2 G2 φ σ := F.mono O (S1.trans O S02)
    refine gCT_go hw b1 (F3.wipe _) O3 y3 fun σ2 F4 hwp => ⟨by rw [hwp _ hs, wipe_wipe], φ1, s, κ2, G2, true, s, F4, O3, by unfold evIfs; rfl, fun κ4 G4 H4 S4 O4 => ite_t ?_⟩
    have F5 := F4.mono O3 S4
    refine ⟨φ1, s, κ4, G4, ds2, s2, n2, sr2, F5, O4, b2, b3, fun n' sr' es' κ5 G5 H5 J1 S5 O5 itd1 => ?_⟩
    rw [b3] at es'
    cases es'
    have S25 : Stp κ2 G2 H2 κ5 G5 H5 := (S3.trans O2 S4).trans O2 S5
    have S15 : Stp κ1 G1 (upd H1 Dd (.lst [])) κ5 G5 H5 ∨ True := .inr trivial
    have q5 := S25.hid Dd _ hDd g2
    have F6 := F5.mono O4 S5
    refine ⟨CWI (T.W X.K) E t2 x φ1 sr2 κ1 G1 H1 κ5 G5 Dd ys r2 s1, ⟨n2, κ5, G5, s2, acc, done, zs, S02.trans O1 S25, VSt.refl, O5, q5.2, q5.1, ra.mono O2 S25, b4, eys⟩, fun j k H6 hWI => ?_⟩
    obtain ⟨κ6, G6, s6, acc6, done6, rest6, T06, T56, O6, g6, hD6, ra6, eo6, eys6⟩ := hWI
    rcases overC_step eo6 with ⟨c1, rfl, rfl⟩ | ⟨k', d6, o6, s7, ys7, rfl, c1, c2, c3, rfl⟩
    · refine .inl ⟨itd1.stop κ6 _ G6 H6 j T56 O6 c1, ?_⟩
      exact ⟨κ6, G6, _, acc6, done6, ys', r2, T06, O6, g6, hD6, ra6, h3, ec3, eys6⟩
    · refine .inr ?_
      obtain ⟨hgo6, hy6⟩ := itd1.go κ6 s6 G6 H6 j d6 T56 O6 c1
      obtain ⟨φ2, y, f1, f2, rfl⟩ := turnI_some c2
      refine ⟨hgo6, CWI (T.W X.K) E t2 x φ1 sr2 κ1 G1 H1 κ5 G5 Dd ys r2 s1 (j + 1) k', fun H' h => ⟨k', Nat.lt_succ_self _, h⟩, fun v7 H7 hv7 => ?_⟩
      obtain ⟨S7, O7, y7⟩ := hy6 v7 H7 hv7
      have F7 : FrOk (T.W X.K) κ6 G6 φ1 σ2 := F6.vmono T56
      refine gCT_go hw2 f1 (F7.wipe _) O7 y7 fun σ3 F8 hwp3 => ⟨by rw [hwp3 _ fun _ h => h, wipe_wipe], φ2, s6, κ6, G6, true, s6, F8, O7, by unfold evIfs; rfl, fun κ8 G8 H8 S8 O8 => ite_t ?_⟩
      refine ⟨φ2, s6, κ8, G8, y, s7, F8.mono O7 S8, O8, f2, fun u κ9 G9 H9 S9 O9 r9 => ?_⟩
      have S69 : Stp κ6 G6 H6 κ9 G9 H9 := (S7.trans O6 S8).trans O6 S9
      obtain ⟨hD9, g9⟩ := S69.hid Dd _ hD6 g6
      have hlen := ra6.length
      have hh5 : H5 Dd = some (.lst acc) := q5.1
      refine ⟨acc6, hD9, ?_, κ9, G9, s7, acc6 ++ [u], done6 ++ [y], ys7, (T06.trans O1 S69).poke hD, T56.step O6 (fun x hx => O5.cellIn hx) S69, O9.poke g9, g9, upd_same, (ra6.mono O6 S69).append (.cons r9 .nil), c3, by rw [eys6]; simp⟩
      · rw [hlen]
        show done6.length < line
        have : ys.length = done6.length + (1 + ys7.length + r2.length) := by rw [eys6]; show (done6 ++ ([y] ++ ys7 ++ r2)).length = _; simp only [List.length_append, List.length_cons, List.length_nil]
        omega
/-! ### {k: v for ..} -/
def turnK (E : En) (own : List Nat) (t : CT) (ifs : List Ex) (k v : Ex) (φ : Fr) : D → Sto → Option (Option D × Sto) := fun d s => match bindCT (wipe φ own) t d with
          | some φ1 => (match evIfs E ifs φ1 s with
            | some (true, s1) => (match evE E k φ1 s1 with
              | some (x, s2) => (match evE E v φ1 s2 with
                | some (y, s3) => some (some (.tup [x, y]), s3)
                | none => none)
              | none => none)
            | some (false, s1) => some (none, s1)
            | none => none)
          | none => none
theorem evE_dcomp {own : List Nat} {t : CT} {w : Wk} {src ifs : List Ex} {k v : Ex} {φ : Fr} {st : Sto} {r : D × Sto} (h : evE E (.dcomp own t w src ifs k v) φ st = some r) :
    ∃ ds st1 n sr ys l, evEs E src φ st = some (ds, st1) ∧ srcOf st1 w ds = some (n, sr) ∧ n ≤ line ∧ overC sr (turnK E own t ifs k v φ) n 0 st1 = some (ys, r.2) ∧ dictOf ys = some l ∧ r.1 = .dK (l.foldl (fun a p => put a p.1 p.2) []) := by
  unfold evE at h
  split at h
  · rename_i ds st1 e1
    split at h
    · rename_i ys st2 e2
      split at h
      · rename_i l el
        cases h
        unfold overW at e2
        split at e2
        · rename_i n sr es
          split at e2
          · rename_i hn
            exact ⟨ds, st1, n, sr, ys, l, e1, es, hn, e2, el, rfl⟩
          · cases e2
        · cases e2
      · cases h
    · cases h
  · cases h
theorem turnK_some {own : List Nat} {t : CT} {ifs : List Ex} {k v : Ex} {φ : Fr} {d : D} {s s' : Sto} {o : Option D} (h : turnK E own t ifs k v φ d s = some (o, s')) :
    ∃ φ1 b s1, bindCT (wipe φ own) t d = some φ1 ∧ evIfs E ifs φ1 s = some (b, s1) ∧ ((b = true ∧ ∃ x y s2, evE E k φ1 s1 = some (x, s2) ∧ evE E v φ1 s2 = some (y, s') ∧ o = some (.tup [x, y])) ∨ (b = false ∧ o = none ∧ s' = s1)) := by
  unfold turnK at h
  split at h
  · rename_i φ1 e1
    split at h
    · rename_i s1 e2
      split at h
      · rename_i x s2 e3
        split at h
        · rename_i y s3 e4
          cases h
          exact ⟨φ1, true, s1, e1, e2, .inl ⟨rfl, x, y, s2, e3, e4, rfl⟩⟩
        · cases h
      · cases h
    · rename_i s1 e2
      cases h
      exact ⟨φ1, false, _, e1, e2, .inr ⟨rfl, rfl, rfl⟩⟩
    · cases h
  · cases h
theorem dictOf_append : ∀ {a b : List D} {l : List (Ky × D)}, dictOf (a ++ b) = some l → ∃ l1 l2, dictOf a = some l1 ∧ dictOf b = some l2 ∧ l = l1 ++ l2
  | [], b, l, h => ⟨[], l, rfl, h, rfl⟩
  | d :: a, b, l, h => by
    rw [List.cons_append] at h
    unfold dictOf at h
    split at h
    · rename_i k v
      split at h
      · rename_i q l' eq el
        cases h
        obtain ⟨l1, l2, h1, h2, rfl⟩ := dictOf_append el
        exact ⟨(q, v) :: l1, l2, by unfold dictOf; simp only; rw [eq, h1], h2, rfl⟩
      · cases h
    · cases h
theorem dictOf_cons {k v : D} {r : List D} {l : List (Ky × D)} (h : dictOf (.tup [k, v] :: r) = some l) : ∃ q l', keyOf k = some q ∧ dictOf r = some l' ∧ l = (q, v) :: l' := by
  unfold dictOf at h
  simp only at h
  split at h
  · rename_i q l' eq el
    cases h
    exact ⟨q, l', eq, el, rfl⟩
  · cases h
theorem put_len (l : List (Ky × D)) (k : Ky) (v : D) : (put l k v).length ≤ l.length + 1 := by
  unfold put
  split
  · simp
  · simp
def CWK (W : Wr) (E : En) (own : List Nat) (t : CT) (ifs : List Ex) (k v : Ex) (φ : Fr) (sr : Sto → Nat → Option (Option D)) (κ1 : List Addr) (G1 H1 : Hp) (Dd : Addr) (n : Nat) (l : List (Ky × D)) (st2 : Sto) (i m : Nat) (H : Hp) : Prop :=
  ∃ κ2 G2 s kvs cur rest lr, Stp κ1 G1 H1 κ2 G2 H ∧ Ok W κ2 s G2 H ∧ G2 Dd = none ∧ H Dd = some (.dK kvs) ∧ RpK W κ2 G2 kvs cur ∧ overC sr (turnK E own t ifs k v φ) m i s = some (rest, st2) ∧ dictOf rest = some lr ∧
    l.foldl (fun a p => put a p.1 p.2) [] = lr.foldl (fun a p => put a p.1 p.2) cur ∧ cur.length + m ≤ n
theorem dn_dcomp {own : List (Str × Nat)} {t : CT} {w : Wk} {src ifs : List Ex} {x y : Ex} {kx vx tg iter : Expr} {is : List Expr} {scope : Scope} {pos : Pos} (hc : X.calm = true) (hN : X.N.Nodup) (hw : ctOk w t = true) (hs : ∀ i ∈ t.slots, i ∈ own.map (·.2))
    (hi : DI X T E w src tg iter) (ok : BlkOk X.N X.env.scope scope own)
    (hg : ∀ (s : Shared) (H : Hp) (C : Addr) (cl : List (Str × Addr)) (fp : List Addr), PG (X.blk s H scope (compEnvC scope cl C X.env) fp) tg (gCT X.K t))
    (ht : ∀ (s : Shared) (H : Hp) (C : Addr) (cl : List (Str × Addr)) (fp : List Addr), DIfs (X.blk s H scope (compEnvC scope cl C X.env) fp) T E ifs is)
    (hk : ∀ (s : Shared) (H : Hp) (C : Addr) (cl : List (Str × Addr)) (fp : List Addr), DE (X.blk s H scope (compEnvC scope cl C X.env) fp) T E x kx)
    (he : ∀ (s : Shared) (H : Hp) (C : Addr) (cl : List (Str × Addr)) (fp : List Addr), DE (X.blk s H scope (compEnvC scope cl C X.env) fp) T E y vx)
    (hf : ∀ x, foldedSetIterable iter X.env x = pure x) : DN X T E (.dcomp (own.map (·.2)) t w src ifs x y) (.DictComp kx vx [⟨tg, iter, is, 0⟩] scope pos) := by
  refine PE.imp (pe_dc (wi := tI (T.W X.K) (evEs E src) w) (g := gCT X.K t) (tt := tDB (T.W X.K) (evIfs E ifs)) (tk := tD (T.W X.K) (evE E x)) (tv := tD (T.W X.K) (evE E y)) hc hN hi ok hg ht hk he hf) fun σ H Q ⟨φ, st, κ, G, d, st', F, O, e, kq⟩ => ?_
  obtain ⟨ds, st1, n, sr, ys, l, e1, es, hn, eo, el, ed⟩ := evE_dcomp e
  simp only at eo ed
  subst ed
  refine ⟨φ, st, κ, G, ds, st1, n, sr, F, O, e1, es, fun n' sr' es' κ1 G1 H1 J S1 O1 itd => ?_⟩
  rw [es] at es'
  cases es'
  intro Dd hD
  obtain ⟨Oh, Sh⟩ := O1.hide (o := .dK []) hD
  have g1 : G1 Dd = none := O1.gnone hD
  refine ⟨CWK (T.W X.K) E (own.map (·.2)) t ifs x y φ sr κ1 G1 H1 Dd n l st', ⟨n, κ1, G1, st1, [], [], ys, l, Sh, Oh, g1, upd_same, .nil, eo, el, rfl, by simp⟩, fun i m H2 hW => ?_⟩
  obtain ⟨κ2, G2, s, kvs, cur, rest, lr, S02, O2, g2, hDd, ra, eo2, elr, eys, hl⟩ := hW
  rcases overC_step eo2 with ⟨h1, rfl, rfl⟩ | ⟨m', d', o, s1, ys', rfl, h1, h2, h3, rfl⟩
  · refine .inl ⟨itd.stop κ2 _ G2 H2 i (vst_of O1 S02) O2 h1, ?_⟩
    cases elr
    rw [eys] at kq
    exact kq Dd (.dK kvs) κ2 G2 H2 (S1.trans O S02) O2 (S1.none hD) g2 hDd (.dK ra)
  · refine .inr ?_
    obtain ⟨hgo, hy⟩ := itd.go κ2 s G2 H2 i d' (vst_of O1 S02) O2 h1
    refine ⟨hgo, CWK (T.W X.K) E (own.map (·.2)) t ifs x y φ sr κ1 G1 H1 Dd n l st' (i + 1) m', fun H' h => ⟨m', Nat.lt_succ_self _, h⟩, fun v H3 hv => ?_⟩
    obtain ⟨S3, O3, y3⟩ := hy v H3 hv
    obtain ⟨φ1, b, s2, b1, b2, b3⟩ := turnK_some h2
    have F3 : FrOk (T.W X.K) κ2 G2 φ σ := F.mono O (S1.trans O S02)
    refine gCT_go hw b1 (F3.wipe _) O3 y3 fun σ2 F4 hwp => ⟨by rw [hwp _ hs, wipe_wipe], φ1, s, κ2, G2, b, s2, F4, O3, b2, fun κ4 G4 H4 S4 O4 => ?_⟩
    have S24 : Stp κ2 G2 H2 κ4 G4 H4 := S3.trans O2 S4
    rcases b3 with ⟨rfl, xk, yv, s3, e4, e5, rfl⟩ | ⟨rfl, rfl, rfl⟩
    · obtain ⟨q, lr', eq, elr', rfl⟩ := dictOf_cons elr
      refine ite_t ⟨φ1, s2, κ4, G4, xk, s3, F4.mono O3 S4, O4, e4, fun u κ5 G5 H5 S5 O5 r5 => ⟨φ1, s3, κ5, G5, yv, s1, (F4.mono O3 S4).mono O4 S5, O5, e5, fun u2 κ6 G6 H6 S6 O6 r6 => ?_⟩⟩
      have S26 : Stp κ2 G2 H2 κ6 G6 H6 := (S24.trans O2 S5).trans O2 S6
      obtain ⟨hD6, g6⟩ := S26.hid Dd _ hDd g2
      have hlen := ra.length
      have hpl := put_len cur q yv
      refine ⟨kvs, q, r5.key eq, hD6, by rw [hlen]; show cur.length < line; omega, κ6, G6, s1, putK kvs q u2, put cur q yv, ys', lr', (S02.trans O1 S26).poke hD, O6.poke g6, g6, upd_same, (ra.mono O2 S26).put r6, h3, elr', by rw [eys]; rfl, by omega⟩
    · refine ite_f ⟨κ4, G4, _, kvs, cur, ys', lr, S02.trans O1 S24, O4, (S24.hid Dd _ hDd g2).2, (S24.hid Dd _ hDd g2).1, ra.mono O2 S24, h3, elr, eys, by omega⟩

/-! ### {k: v, ..} -/
/-- the pairs' readings behind one another -/
def DPs (X : Cx) (T : Tab) (E : En) (pos : Pos) (xs : List Ex) (keys : List (Option Expr)) (vals : List Expr) : Prop :=
  ∃ trs, PPs X pos keys vals trs ∧ ∀ (σ : L2.St) (H : Hp) (φ : Fr) (st : Sto) (κ : List Addr) (G : Hp) (ds : List D) (st' : Sto) (l : List (Ky × D)) (Q : List (V × V) → Hp → Prop), FrOk (T.W X.K) κ G φ σ → Ok (T.W X.K) κ st G H → evEs E xs φ st = some (ds, st') → pairsOf ds = some l →
    (∀ (kvs : List (L2.Key × V)) κ' G' H', Stp κ G H κ' G' H' → Ok (T.W X.K) κ' st' G' H' → RpK (T.W X.K) κ' G' kvs l → Q (kvs.map fun kv => (kV kv.1, kv.2)) H') → tPairs trs σ H Q
theorem dps_nil {pos : Pos} : DPs X T E pos [] [] [] := ⟨[], pps_nil, fun σ H φ st κ G ds st' l Q F O e el q => by
  unfold evEs at e; cases e; cases el
  exact q [] κ G H Stp.refl O .nil⟩
theorem pairsOf_cons {k v : D} {r : List D} {l : List (Ky × D)} (h : pairsOf (k :: v :: r) = some l) : ∃ q l', keyOf k = some q ∧ pairsOf r = some l' ∧ l = (q, v) :: l' := by
  unfold pairsOf at h
  simp only at h
  split at h
  · rename_i q l' eq el
    cases h
    exact ⟨q, l', eq, el, rfl⟩
  · cases h
theorem dps_cons {pos : Pos} {x y : Ex} {xs : List Ex} {k v : Expr} {ks : List (Option Expr)} {vs : List Expr} (hx : x.isStar = false) (hy : y.isStar = false) (hk : DE X T E x k) (hv : DE X T E y v) (hr : DPs X T E pos xs ks vs) : DPs X T E pos (x :: y :: xs) (some k :: ks) (v :: vs) := by
  obtain ⟨trs, h1, h2⟩ := hr
  refine ⟨(tD (T.W X.K) (evE E x), tD (T.W X.K) (evE E y)) :: trs, pps_cons hk hv h1, fun σ H φ st κ G ds st' l Q F O e el q => ?_⟩
  rw [evEs_cons hx] at e
  split at e
  · rename_i d st1 e1
    split at e
    · rename_i ds2 st2 e2
      cases e
      rw [evEs_cons hy] at e2
      split at e2
      · rename_i d2 st3 e3
        split at e2
        · rename_i ds3 st4 e4
          cases e2
          obtain ⟨qk, l', eq, el', rfl⟩ := pairsOf_cons el
          refine ⟨φ, st, κ, G, d, st1, F, O, e1, fun u κ1 G1 H1 S1 O1 r1 => ⟨φ, st1, κ1, G1, d2, st3, F.mono O S1, O1, e3, fun u2 κ2 G2 H2 S2 O2 r2 => ?_⟩⟩
          refine h2 σ H2 φ st3 κ2 G2 ds3 _ l' _ ((F.mono O S1).mono O1 S2) O2 e4 el' fun kvs κ3 G3 H3 S3 O3 r3 => ?_
          rw [r1.key eq]
          exact q ((qk, u2) :: kvs) κ3 G3 H3 ((S1.trans O S2).trans O S3) O3 (.cons (r2.mono O2 S3) r3)
        · cases e2
      · cases e2
    · cases e
  · cases e
theorem dn_dspK {pos : Pos} {xs : List Ex} {keys : List (Option Expr)} {vals : List Expr} (h : DPs X T E pos xs keys vals) (hall : keys.all (·.isSome) = true) (hl : keys.length = vals.length) (h0 : keys ≠ []) (h15 : keys.length ≤ 15) (hx : xs.length = 2 * keys.length) (hst : ∀ x ∈ xs, x.isStar = false) : DN X T E (.dspK xs) (.Dict keys vals pos) := by
  obtain ⟨trs, h1, h2⟩ := h
  refine PE.imp (pe_disp h1 hall hl h0 h15) fun σ H Q ⟨φ, st, κ, G, d, st', F, O, e, kq⟩ => ?_
  unfold evE at e
  split at e
  · rename_i ds st1 e1
    split at e
    · rename_i l el
      cases e
      intro p hp
      obtain ⟨Oh, Sh⟩ := O.hide (o := .dK []) hp
      have gp := O.gnone hp
      refine h2 σ _ φ st κ G ds st' l _ F Oh e1 el fun kvs κ1 G1 H1 S1 O1 r1 => ?_
      obtain ⟨hp1, g1⟩ := S1.hid p _ upd_same gp
      refine ⟨hp1, kvs, rfl, ?_, ?_⟩
      · have h3 : ∀ {xs : List Ex} {φ : Fr} {st st' : Sto} {ds : List D}, (∀ x ∈ xs, x.isStar = false) → evEs E xs φ st = some (ds, st') → ds.length = xs.length := by
          intro xs
          induction xs with
          | nil => intro φ st st' ds _ e; unfold evEs at e; cases e; rfl
          | cons x xs ih =>
            intro φ st st' ds hs e
            rw [evEs_cons (hs x List.mem_cons_self)] at e
            split at e
            · split at e
              · rename_i e2
                cases e
                simp [ih (fun y hy => hs y (List.mem_cons_of_mem _ hy)) e2]
              · cases e
            · cases e
        have h4 : ∀ {l : List (Ky × D)} (ds : List D), pairsOf ds = some l → ds.length = 2 * l.length := by
          intro l
          induction l with
          | nil =>
            intro ds h
            cases ds with
            | nil => rfl
            | cons d ds =>
              cases ds with
              | nil => simp [pairsOf] at h
              | cons d2 ds => obtain ⟨q, l', _, _, e⟩ := pairsOf_cons h; cases e
          | cons p l ih =>
            intro ds h
            cases ds with
            | nil => simp [pairsOf] at h
            | cons d ds =>
              cases ds with
              | nil => simp [pairsOf] at h
              | cons d2 ds =>
                obtain ⟨q, l', _, h2, e⟩ := pairsOf_cons h
                cases e
                have := ih ds h2
                simp only [List.length_cons]; omega
        have := h3 hst e1
        have := h4 ds el
        have := r1.length
        omega
      · refine kq p (.dK (mergeK [] kvs)) κ1 G1 _ ((Sh.trans O S1).poke hp) (O1.poke g1) hp g1 upd_same (.dK (r1.merge .nil))
    · cases e
  · cases e
end
end Ev


set_option Elab.async false
set_option linter.all false
set_option maxRecDepth 100000
set_option maxHeartbeats 400000
/-! EvS: statements, defs, by data. -/
namespace Ev
open PySem PySem.Spec PyProof.Rows L2

section
variable (W : Wr)
def KF (κ : List Addr) (G H : Hp) (st : Sto) (φ : Fr) (Q : L2.St → Hp → Prop) : Prop := ∀ σ' κ' G' H', Stp κ G H κ' G' H' → Ok W κ' st G' H' → FrOk W κ' G' φ σ' → Q σ' H'
def tG (f : D → Fr → Sto → Option (Fr × Sto)) : TG := fun v σ H Q => ∃ φ st κ G d φ1 st', FrOk W κ G φ σ ∧ Ok W κ st G H ∧ Rp W κ G v d ∧ f d φ st = some (φ1, st') ∧ KF W κ G H st' φ1 Q
def tGs (f : List D → Fr → Sto → Option (Fr × Sto)) : TGs := fun vs σ H Q => ∃ φ st κ G ds φ1 st', FrOk W κ G φ σ ∧ Ok W κ st G H ∧ RpL W κ G vs ds ∧ f ds φ st = some (φ1, st') ∧ KF W κ G H st' φ1 Q
def KS (κ : List Addr) (G H : Hp) (o : Out) (φ : Fr) (st : Sto) (D : Ends) : Prop := match o with
  | .nx => KF W κ G H st φ D.nx
  | .ret d => KQ W κ G H st d D.rt
  | .retC d => KQ W κ G H st d D.rt
def tS (f : Fr → Sto → Option (Out × Fr × Sto)) : TS := fun D σ H => ∃ φ st κ G o φ' st', FrOk W κ G φ σ ∧ Ok W κ st G H ∧ f φ st = some (o, φ', st') ∧ KS W κ G H o φ' st' D
end
section
variable {W : Wr} {κ κ1 : List Addr} {st st1 : Sto} {G H G1 H1 : Hp}
theorem KF.from {φ : Fr} {Q : L2.St → Hp → Prop} (k : KF W κ G H st φ Q) (O : Ok W κ st1 G H) (S : Stp κ G H κ1 G1 H1) : KF W κ1 G1 H1 st φ Q := fun σ' κ' G' H' S' O' F' => k σ' κ' G' H' (S.trans O S') O' F'
theorem KS.from {o : Out} {φ : Fr} {D : Ends} (k : KS W κ G H o φ st D) (O : Ok W κ st1 G H) (S : Stp κ G H κ1 G1 H1) : KS W κ1 G1 H1 o φ st D := by
  cases o with
  | nx => exact KF.from k O S
  | ret d => exact KQ.from k O S
  | retC d => exact KQ.from k O S
end
section
variable {X : Cx} {T : Tab} {E : En}
abbrev DG (X : Cx) (T : Tab) (E : En) (t : Tg) (e : Expr) : Prop := PG X e (tG (T.W X.K) (evTg E t))
abbrev DGs (X : Cx) (T : Tab) (E : En) (ts : List Tg) (es : List Expr) : Prop := PGs X es (tGs (T.W X.K) (evTgs E ts))
abbrev DS (X : Cx) (T : Tab) (E : En) (s : St) (c : Stmt) : Prop := PS X c (tS (T.W X.K) (evS E s))
abbrev DSs (X : Cx) (T : Tab) (E : En) (ss : List St) (cs : List Stmt) : Prop := PSs X cs (tS (T.W X.K) (evSs E ss))
theorem PG.imp {X : Cx} {e : Expr} {t t' : TG} (h : PG X e t) (i : ∀ v σ H Q, t' v σ H Q → t v σ H Q) : PG X e t' := ⟨fun pins s σ H v u Q I r q => h.run pins s σ H v u Q I r (i v σ H Q q)⟩
theorem PGs.imp {X : Cx} {e : List Expr} {t t' : TGs} (h : PGs X e t) (i : ∀ v σ H Q, t' v σ H Q → t v σ H Q) : PGs X e t' := ⟨fun pins s σ H v u Q I r q => h.run pins s σ H v u Q I r (i v σ H Q q)⟩
theorem PS.imp {X : Cx} {e : Stmt} {t t' : TS} (h : PS X e t) (i : ∀ D σ H, t' D σ H → t D σ H) : PS X e t' := ⟨fun pins s σ H D I q => h.run pins s σ H D I (i D σ H q)⟩
theorem PSs.imp {X : Cx} {e : List Stmt} {t t' : TS} (h : PSs X e t) (i : ∀ D σ H, t' D σ H → t D σ H) : PSs X e t' := ⟨fun pins s σ H D I q => h.run pins s σ H D I (i D σ H q)⟩
/-! ### targets -/
theorem dg_nm {i : Nat} {x : Str} {pos : Pos} (hN : X.N.Nodup) (hi : X.N[i]? = some x) (hx : Loc X.env.scope x) (hf : X.fn x = true ∨ X.env.scope.names.lookup x = some .local) : DG X T E (.nm i) (.Name x pos) :=
  PG.imp (pg_name hN hi hx hf) fun v σ H Q ⟨φ, st, κ, G, d, φ1, st', F, O, r, e, k⟩ => by
    unfold evTg at e; cases e
    exact k _ _ _ _ Stp.refl O (F.set i r)
theorem dgs_nil : DGs X T E [] [] := PGs.imp pgs_nil fun v σ H Q ⟨φ, st, κ, G, ds, φ1, st', F, O, r, e, k⟩ => by
  unfold evTgs at e
  cases ds with
  | nil => cases e; cases r; exact ⟨rfl, k _ _ _ _ Stp.refl O F⟩
  | cons d ds => cases e
theorem dgs_cons {t : Tg} {ts : List Tg} {e : Expr} {es : List Expr} (h1 : DG X T E t e) (h2 : DGs X T E ts es) (hs : (assignEach (e :: es) X.env).map (·.2) = assign e X.env :: (assignEach es X.env).map (·.2)) : DGs X T E (t :: ts) (e :: es) :=
  PGs.imp (pgs_cons h1 h2 hs) fun v σ H Q ⟨φ, st, κ, G, ds, φ1, st', F, O, r, e, k⟩ => by
    unfold evTgs at e
    cases ds with
    | nil => cases e
    | cons d ds =>
      simp only at e
      split at e
      · rename_i φ2 st2 e1
        cases r with
        | cons r1 r2 =>
          exact ⟨_, _, rfl, φ, st, κ, G, d, φ2, st2, F, O, r1, e1, fun σ1 κ1 G1 H1 S1 O1 F1 => ⟨φ2, st2, κ1, G1, ds, φ1, st', F1, O1, r2.mono O S1, e, k.from O S1⟩⟩
      · cases e
theorem evTgs_len : ∀ {ts : List Tg} {l : List D} {φ φ1 : Fr} {st st1 : Sto}, evTgs E ts l φ st = some (φ1, st1) → l.length = ts.length
  | [], l, φ, φ1, st, st1, h => by
    unfold evTgs at h
    cases l with | nil => rfl | cons => cases h
  | t :: ts, l, φ, φ1, st, st1, h => by
    unfold evTgs at h
    cases l with
    | nil => cases h
    | cons d l =>
      simp only at h
      split at h
      · simp [evTgs_len h]
      · cases h
theorem dg_tup {ts : List Tg} {es : List Expr} {k : Nat} {pos : Pos} (hc : X.calm = true) (h : DGs X T E ts es) (hn : (assignEach es X.env).length = ts.length) (hst : (assignEach es X.env).findIdx? (·.1) = none) : DG X T E (.tup ts) (.Tuple es k pos) :=
  PG.imp (pg_tup hc h hn hst) fun v σ H Q ⟨φ, st, κ, G, d, φ1, st', F, O, r, e, k⟩ => by
    unfold evTg at e
    split at e
    · rename_i l
      obtain ⟨a, vs, rfl, h1, h2⟩ := read_tup0 O r
      exact ⟨a, vs, rfl, h1, by rw [h2.length]; exact evTgs_len e, φ, st, κ, G, l, φ1, st', F, O, h2, e, k⟩
    · cases e
theorem dg_sub (hu : X.A.units + 1 < cLine) {y z : Ex} {o i : Expr} {pos : Pos} (ho : DE X T E y o) (hi : DE X T E z i)
    (ha : ∀ v, assign (.Subscript o i pos) X.env v = (do
      let ov ← holding [v] (eval o X.env)
      let iv ← holding [v, ov] (eval i X.env)
      standAt pos
      holding [v, ov, iv] (setItem ov iv v)
      release [v, ov, iv] [])) : DG X T E (.sub y z) (.Subscript o i pos) :=
  PG.imp (pg_sub ho hi (set_D (T := T) hu) ha) fun v σ H Q ⟨φ, st, κ, G, d, φ1, st', F, O, r, e, k⟩ => by
    unfold evTg at e
    split at e
    · rename_i x1 st1 e1
      split at e
      · rename_i y1 st2 e2
        split at e
        · rename_i st3 e3
          cases e
          exact ⟨φ, st, κ, G, x1, st1, F, O, e1, fun u κ1 G1 H1 S1 O1 r1 => ⟨φ, st1, κ1, G1, y1, st2, F.mono O S1, O1, e2, fun u2 κ2 G2 H2 S2 O2 r2 =>
            ⟨κ2, G2, st2, x1, y1, d, st', O2, r1.mono O1 S2, r2, r.mono O (S1.trans O S2), e3, fun G3 H3 S3 O3 => k _ _ _ _ ((S1.trans O S2).trans O S3) O3 (((F.mono O S1).mono O1 S2).mono O2 S3)⟩⟩⟩
        · cases e
      · cases e
    · cases e
/-! ### statements -/
theorem asg_imp {t : Tg} {x : Ex} {D : Ends} {σ : L2.St} {H : Hp} (h : tS (T.W X.K) (evS E (.asg t x)) D σ H) : tD (T.W X.K) (evE E x) σ H fun v H1 => tG (T.W X.K) (evTg E t) v σ H1 D.nx := by
  obtain ⟨φ, st, κ, G, o, φ', st', F, O, e, k⟩ := h
  unfold evS at e
  split at e
  · rename_i d st1 e1
    split at e
    · rename_i φ2 st2 e2
      cases e
      exact ⟨φ, st, κ, G, d, st1, F, O, e1, fun v κ1 G1 H1 S1 O1 r1 => ⟨φ, st1, κ1, G1, d, φ', st', F.mono O S1, O1, r1, e2, KF.from k O S1⟩⟩
    · cases e
  · cases e
theorem ds_asg {t : Tg} {x : Ex} {tg e : Expr} {pos : Pos} (he : DE X T E x e) (hg : DG X T E t tg) (hs : swapsWithSole [tg] e pos.line X.env = pure false) (hw : swappedStores [tg] e X.env = pure none)
    (h1 : (assignEach [tg] X.env).map (·.2) = [assign tg X.env]) : DS X T E (.asg t x) (.Assign [tg] e pos) :=
  PS.imp (ps_asg he hg hs hw h1) fun D σ H h => asg_imp h
/-- name = [..] on one line -/
theorem ds_setLc {own : List (Str × Nat)} {t : CT} {w : Wk} {src ifs : List Ex} {x : Ex} {elt tg iter : Expr} {is : List Expr} {scope : Scope} {pos spos py : Pos} {i : Nat} {y : Str} (cell : Bool) (hc : X.calm = true) (hN : X.N.Nodup) (hw : ctOk w t = true) (hs : ∀ i ∈ t.slots, i ∈ own.map (·.2))
    (hy : X.N[i]? = some y) (hyl : X.env.scope.names.lookup y = some .local) (hsw : swapsWith (.ListComp elt [⟨tg, iter, is, 0⟩] scope pos) (some (.Name y py)) spos.line X.env = pure true)
    (hi : DI X T E w src tg iter) (ok : BlkOk X.N X.env.scope scope own)
    (hg : ∀ (s : Shared) (H : Hp) (C : Addr) (cl : List (Str × Addr)) (fp : List Addr), PG (X.blk s H scope (compEnvC scope cl C X.env) fp) tg (gCT X.K t))
    (ht : ∀ (s : Shared) (H : Hp) (C : Addr) (cl : List (Str × Addr)) (fp : List Addr), DIfs (X.blk s H scope (compEnvC scope cl C X.env) fp) T E ifs is)
    (he : ∀ (s : Shared) (H : Hp) (C : Addr) (cl : List (Str × Addr)) (fp : List Addr), DE (X.blk s H scope (compEnvC scope cl C X.env) fp) T E x elt)
    (hf : ∀ x, foldedSetIterable iter X.env x = pure x) :
    DS X T E (.asg (.nm i) (if cell = true then .mk (.comp (own.map (·.2)) t w src ifs x) else .comp (own.map (·.2)) t w src ifs x)) (.Assign [.Name y py] (.ListComp elt [⟨tg, iter, is, 0⟩] scope pos) spos) := by
  refine PS.imp (ps_setLc (wi := tI (T.W X.K) (evEs E src) w) (g := gCT X.K t) (tt := tDB (T.W X.K) (evIfs E ifs)) (te := tD (T.W X.K) (evE E x)) hc hN hy hyl hsw hi ok hg ht he hf) fun D σ H h => ?_
  have h2 := asg_imp h
  have fin : ∀ (v : V) (H1 : Hp), tG (T.W X.K) (evTg E (.nm i)) v σ H1 D.nx → gName i v σ H1 D.nx := fun v H1 ⟨φ, st, κ, G, d, φ1, st', F, O, r, e, k⟩ => by
    unfold evTg at e; cases e
    exact k _ _ _ _ Stp.refl O (F.set i r)
  refine comp_imp hw hs σ H (fun v H1 => gName i v σ H1 D.nx) ?_
  obtain ⟨φ, st, κ, G, d, st', F, O, e, kq⟩ := h2
  cases cell with
  | false =>
    have kq' : KQ (T.W X.K) κ G H st' d fun v H1 => gName i v σ H1 D.nx := fun v κ' G' H' S' O' r' => fin v H' (kq v κ' G' H' S' O' r')
    exact ⟨φ, st, κ, G, d, st', F, O, e, kq'.kn O⟩
  | true =>
    have e : evE E (.mk (.comp (own.map (·.2)) t w src ifs x)) φ st = some (d, st') := e
    have kq' : KQ (T.W X.K) κ G H st' d fun v H1 => gName i v σ H1 D.nx := fun v κ' G' H' S' O' r' => fin v H' (kq v κ' G' H' S' O' r')
    unfold evE at e
    rw [if_pos (show fresh (Ex.comp (own.map (·.2)) t w src ifs x) = true from rfl)] at e
    split at e
    · rename_i d1 st1 e1
      cases e
      exact ⟨φ, st, κ, G, d1, st1, F, O, e1, kq'.kc O (fresh_ntup rfl e1)⟩
    · cases e
theorem ds_par2 {i j : Nat} {x y : Str} {a b : Expr} {xs : List Ex} {px py pt pos : Pos} {kt k2 pt2} (hc : X.calm = true) (hN : X.N.Nodup) (hi : X.N[i]? = some x) (hj : X.N[j]? = some y) (hij : i ≠ j)
    (hx : X.env.scope.names.lookup x = some .local) (hy : X.env.scope.names.lookup y = some .local) (ha : DA X T E xs [a, b])
    (hw : swappedStores [.Tuple [.Name x px, .Name y py] kt pt] (.Tuple [a, b] k2 pt2) X.env = pure (some [x, y]))
    (hs : swapsWithSole [.Tuple [.Name x px, .Name y py] kt pt] (.Tuple [a, b] k2 pt2) pos.line X.env = pure false) :
    DS X T E (.par [i, j] xs) (.Assign [.Tuple [.Name x px, .Name y py] kt pt] (.Tuple [a, b] k2 pt2) pos) :=
  PS.imp (ps_par hc hN hi hj hij hx hy ha hw hs) fun D σ H ⟨φ, st, κ, G, o, φ', st', F, O, e, k⟩ => by
    unfold evS at e
    split at e
    · rename_i ds st1 e1
      split at e
      · rename_i φ2 e2
        cases e
        refine ⟨φ, st, κ, G, ds, st', F, O, e1, fun vs κ1 G1 H1 S1 O1 r1 => ?_⟩
        have hl := setAll_len e2
        rcases ds with _ | ⟨d1, _ | ⟨d2, _ | ⟨d3, r⟩⟩⟩ <;> simp at hl
        cases e2
        obtain ⟨u, v, rfl, r2, r3⟩ := r1.two
        exact ⟨u, v, rfl, k _ _ _ _ S1 O1 (((F.mono O S1).set i r2).set j r3)⟩
      · cases e
    · cases e
theorem ds_par3 {i j l : Nat} {x y z : Str} {a b c : Expr} {xs : List Ex} {px py pz pt pos : Pos} {kt k2 pt2} (hc : X.calm = true) (hN : X.N.Nodup) (hi : X.N[i]? = some x) (hj : X.N[j]? = some y) (hl : X.N[l]? = some z) (hij : i ≠ j) (hil : i ≠ l) (hjl : j ≠ l)
    (hx : X.env.scope.names.lookup x = some .local) (hy : X.env.scope.names.lookup y = some .local) (hz : X.env.scope.names.lookup z = some .local) (ha : DA X T E xs [a, b, c])
    (hw : swappedStores [.Tuple [.Name x px, .Name y py, .Name z pz] kt pt] (.Tuple [a, b, c] k2 pt2) X.env = pure (some [x, y, z]))
    (hs : swapsWithSole [.Tuple [.Name x px, .Name y py, .Name z pz] kt pt] (.Tuple [a, b, c] k2 pt2) pos.line X.env = pure false) :
    DS X T E (.par [i, j, l] xs) (.Assign [.Tuple [.Name x px, .Name y py, .Name z pz] kt pt] (.Tuple [a, b, c] k2 pt2) pos) :=
  PS.imp (ps_par3 hc hN hi hj hl hij hil hjl hx hy hz ha hw hs) fun D σ H ⟨φ, st, κ, G, o, φ', st', F, O, e, k⟩ => by
    unfold evS at e
    split at e
    · rename_i ds st1 e1
      split at e
      · rename_i φ2 e2
        cases e
        refine ⟨φ, st, κ, G, ds, st', F, O, e1, fun vs κ1 G1 H1 S1 O1 r1 => ?_⟩
        have hl := setAll_len e2
        rcases ds with _ | ⟨d1, _ | ⟨d2, _ | ⟨d3, _ | ⟨d4, r⟩⟩⟩⟩ <;> simp at hl
        cases e2
        cases r1 with
        | cons r2 r1 =>
          obtain ⟨u, v, rfl, r3, r4⟩ := r1.two
          exact ⟨_, u, v, rfl, k _ _ _ _ S1 O1 ((((F.mono O S1).set i r2).set j r3).set l r4)⟩
      · cases e
    · cases e
theorem ds_ex {x : Ex} {e : Expr} {pos : Pos} (he : DE X T E x e) (hs : swapsWith e none pos.line X.env = pure false) : DS X T E (.ex x) (.Expr e pos) :=
  PS.imp (ps_expr he hs) fun D σ H ⟨φ, st, κ, G, o, φ', st', F, O, e, k⟩ => by
    unfold evS at e
    split at e
    · rename_i d st1 e1
      cases e
      exact ⟨φ, st, κ, G, d, st', F, O, e1, fun v κ1 G1 H1 S1 O1 r1 => k _ _ _ _ S1 O1 (F.mono O S1)⟩
    · cases e
theorem ds_ret {x : Ex} {e : Expr} {pos : Pos} (he : DE X T E x e) : DS X T E (.ret x) (.Return (some e) pos) :=
  PS.imp (ps_ret he) fun D σ H ⟨φ, st, κ, G, o, φ', st', F, O, e, k⟩ => by
    unfold evS at e
    split at e
    · rename_i d st1 e1
      cases e
      exact ⟨φ, st, κ, G, d, st', F, O, e1, k⟩
    · cases e
theorem ds_retC {x : Ex} {e : Expr} {pos : Pos} (he : DE X T E x e) : DS X T E (.retC x) (.Return (some e) pos) :=
  PS.imp (ps_ret he) fun D σ H ⟨φ, st, κ, G, o, φ', st', F, O, e, k⟩ => by
    unfold evS at e
    split at e
    · rename_i d st1 e1
      cases e
      exact ⟨φ, st, κ, G, d, st', F, O, e1, k⟩
    · cases e
theorem ds_if {x : Ex} {a b : List St} {c : Expr} {s t : List Stmt} {pos : Pos} (hc : DT X T E x c) (ha : DSs X T E a s) (hb : DSs X T E b t) : DS X T E (.ife x a b) (.If c s t pos) :=
  PS.imp (ps_if hc ha hb) fun D σ H ⟨φ, st, κ, G, o, φ', st', F, O, e, k⟩ => by
    unfold evS at e
    split at e
    · rename_i st1 e1
      exact ⟨φ, st, κ, G, true, st1, F, O, e1, fun κ1 G1 H1 S1 O1 => ite_t ⟨φ, st1, κ1, G1, o, φ', st', F.mono O S1, O1, e, k.from O S1⟩⟩
    · rename_i st1 e1
      exact ⟨φ, st, κ, G, false, st1, F, O, e1, fun κ1 G1 H1 S1 O1 => ite_f ⟨φ, st1, κ1, G1, o, φ', st', F.mono O S1, O1, e, k.from O S1⟩⟩
    · cases e
theorem ds_raise {c : Stmt} : DS X T E .raise_ c := PS.imp ps_never fun D σ H ⟨φ, st, κ, G, o, φ', st', F, O, e, k⟩ => by
  unfold evS at e; cases e
theorem dss_nil : DSs X T E [] [] := PSs.imp pss_nil fun D σ H ⟨φ, st, κ, G, o, φ', st', F, O, e, k⟩ => by
  unfold evSs at e; cases e
  exact k _ _ _ _ Stp.refl O F
theorem dss_doc {ss : List St} {cs : List Stmt} {x j pos pos'} (h : DSs X T E ss cs) : DSs X T E ss (.Expr (.Constant (.str x) j pos) pos' :: cs) :=
  PSs.imp (pss_cons ps_doc h) fun D σ H h => h
theorem dss_cons {s : St} {ss : List St} {c : Stmt} {cs : List Stmt} (h1 : DS X T E s c) (h2 : DSs X T E ss cs) : DSs X T E (s :: ss) (c :: cs) :=
  PSs.imp (pss_cons h1 h2) fun D σ H ⟨φ, st, κ, G, o, φ', st', F, O, e, k⟩ => by
    unfold evSs at e
    split at e
    · rename_i φ2 st2 e1
      exact ⟨φ, st, κ, G, .nx, φ2, st2, F, O, e1, fun σ1 κ1 G1 H1 S1 O1 F1 => ⟨φ2, st2, κ1, G1, o, φ', st', F1, O1, e, k.from O S1⟩⟩
    · rename_i d φ2 st2 e1
      cases e
      exact ⟨φ, st, κ, G, .ret d, φ', st', F, O, e1, k⟩
    · rename_i d φ2 st2 e1
      cases e
      exact ⟨φ, st, κ, G, .retC d, φ', st', F, O, e1, k⟩
    · cases e
theorem ds_while {x : Ex} {b : List St} {c : Expr} {body : List Stmt} {pos : Pos} (hp : PassesOwn (model X.prog X.w) X.A X.env X.xe) (hc : DT X T E x c) (hb : DSs X T E b body) : DS X T E (.whl x b) (.While c body [] pos) :=
  PS.imp (ps_while hp hc hb) fun D σ H ⟨φ, st, κ, G, o, φ', st', F, O, e, k⟩ => by
    unfold evS at e
    refine ⟨fun m σ1 H1 => ∃ φ1 s κ1 G1, Stp κ G H κ1 G1 H1 ∧ Ok (T.W X.K) κ1 s G1 H1 ∧ FrOk (T.W X.K) κ1 G1 φ1 σ1 ∧ whileF (evE E x) (evSs E b) m φ1 s = some (o, φ', st'), ⟨turns, φ, st, κ, G, Stp.refl, O, F, e⟩, fun m σ1 H1 ⟨φ1, s, κ1, G1, S1, O1, F1, e1⟩ => ?_⟩
    cases m with
    | zero => unfold whileF at e1; cases e1
    | succ m =>
      unfold whileF at e1
      split at e1
      · rename_i s1 e2
        cases e1
        exact ⟨φ', s, κ1, G1, false, _, F1, O1, e2, fun κ2 G2 H2 S2 O2 => ite_f (k _ _ _ _ (S1.trans O S2) O2 (F1.mono O1 S2))⟩
      · rename_i s1 e2
        refine ⟨φ1, s, κ1, G1, true, s1, F1, O1, e2, fun κ2 G2 H2 S2 O2 => ite_t ⟨fun σ3 H3 => ∃ φ1 s κ1 G1, Stp κ G H κ1 G1 H3 ∧ Ok (T.W X.K) κ1 s G1 H3 ∧ FrOk (T.W X.K) κ1 G1 φ1 σ3 ∧ whileF (evE E x) (evSs E b) m φ1 s = some (o, φ', st'), fun σ3 H3 h => ⟨m, Nat.lt_succ_self _, h⟩, ?_⟩⟩
        split at e1
        · rename_i φ3 s3 e3
          exact ⟨φ1, s1, κ2, G2, .nx, φ3, s3, F1.mono O1 S2, O2, e3, fun σ3 κ3 G3 H3 S3 O3 F3 => ⟨φ3, s3, κ3, G3, (S1.trans O S2).trans O S3, O3, F3, e1⟩⟩
        · rename_i d φ3 s3 e3
          cases e1
          exact ⟨φ1, s1, κ2, G2, .ret d, φ', st', F1.mono O1 S2, O2, e3, KQ.from k O (S1.trans O S2)⟩
        · rename_i d φ3 s3 e3
          cases e1
          exact ⟨φ1, s1, κ2, G2, .retC d, φ', st', F1.mono O1 S2, O2, e3, KQ.from k O (S1.trans O S2)⟩
        · cases e1
      · cases e1
def forF (E : En) (t : CT) (b : List St) : D → Fr → Sto → Option (Out × Fr × Sto) := fun d φ s => match bindCT φ t d with
          | some φ1 => evSs E b φ1 s
          | none => none
theorem ds_for {t : CT} {w : Wk} {src : List Ex} {b : List St} {tg iter : Expr} {body : List Stmt} {pos : Pos} (hp : PassesOwn (model X.prog X.w) X.A X.env X.xe) (hc : X.calm = true) (hw : ctOk w t = true) (hi : DI X T E w src tg iter) (hg : PG X tg (gCT X.K t)) (hb : DSs X T E b body)
    (hf : ∀ x, foldedSetIterable iter X.env x = pure x) : DS X T E (.for_ t w src b) (.For tg iter body [] pos) :=
  PS.imp (ps_for hp hc hi hg hb hf) fun D σ H ⟨φ, st, κ, G, o, φ', st', F, O, e, k⟩ => by
    unfold evS at e
    split at e
    · rename_i ds st1 e1
      split at e
      · rename_i n sr es
        refine ⟨φ, st, κ, G, ds, st1, n, sr, F, O, e1, es, fun n' sr' es' κ1 G1 H1 J S1 O1 itd => ?_⟩
        rw [es] at es'
        cases es'
        have e : forC sr (forF E t b) n 0 φ st1 = some (o, φ', st') := e
        refine ⟨fun i m σ2 H2 => ∃ φ2 s κ2 G2, Stp κ1 G1 H1 κ2 G2 H2 ∧ Ok (T.W X.K) κ2 s G2 H2 ∧ FrOk (T.W X.K) κ2 G2 φ2 σ2 ∧ forC sr (forF E t b) m i φ2 s = some (o, φ', st'), ⟨n, φ, st1, κ1, G1, Stp.refl, O1, F.mono O S1, e⟩, fun i m σ2 H2 ⟨φ2, s, κ2, G2, S2, O2, F2, e2⟩ => ?_⟩
        have stop : sr s i = some none → o = .nx → φ' = φ2 → st' = s → (J.stop i H2 ∧ D.nx σ2 H2) := fun h1 h2 h3 h4 => by
          subst h2 h3 h4
          exact ⟨itd.stop κ2 _ G2 H2 i (vst_of O1 S2) O2 h1, k _ _ _ _ (S1.trans O S2) O2 F2⟩
        cases m with
        | zero =>
          unfold forC at e2
          split at e2
          · rename_i h1; cases e2; exact .inl (stop h1 rfl rfl rfl)
          · cases e2
        | succ m =>
          unfold forC at e2
          split at e2
          · rename_i h1; cases e2; exact .inl (stop h1 rfl rfl rfl)
          · rename_i d h1
            obtain ⟨hgo, hy⟩ := itd.go κ2 s G2 H2 i d (vst_of O1 S2) O2 h1
            refine .inr ⟨hgo, fun σ3 H3 => ∃ φ2 s κ2 G2, Stp κ1 G1 H1 κ2 G2 H3 ∧ Ok (T.W X.K) κ2 s G2 H3 ∧ FrOk (T.W X.K) κ2 G2 φ2 σ3 ∧ forC sr (forF E t b) m (i + 1) φ2 s = some (o, φ', st'), fun σ3 H3 h => ⟨m, Nat.lt_succ_self _, h⟩, fun v H3 hv => ?_⟩
            obtain ⟨S3, O3, y3⟩ := hy v H3 hv
            unfold forF at e2
            cases eb : bindCT φ2 t d with
            | none => rw [eb] at e2; cases e2
            | some φ3 =>
              rw [eb] at e2
              simp only at e2
              refine gCT_go hw eb F2 O3 y3 fun σ4 F4 _ => ?_
              split at e2
              · rename_i φ4 s4 e3
                exact ⟨φ3, s, κ2, G2, .nx, φ4, s4, F4, O3, e3, fun σ5 κ5 G5 H5 S5 O5 F5 => ⟨φ4, s4, κ5, G5, (S2.trans O1 S3).trans O1 S5, O5, F5, e2⟩⟩
              · rename_i d φ4 s4 e3
                cases e2
                exact ⟨φ3, s, κ2, G2, .ret d, φ', st', F4, O3, e3, KQ.from k O ((S1.trans O S2).trans O S3)⟩
              · rename_i d φ4 s4 e3
                cases e2
                exact ⟨φ3, s, κ2, G2, .retC d, φ', st', F4, O3, e3, KQ.from k O ((S1.trans O S2).trans O S3)⟩
              · cases e2
          · cases e2
      · cases e
    · cases e
end
end Ev


set_option Elab.async false
set_option linter.all false
set_option maxRecDepth 100000
set_option maxHeartbeats 1000000
/-! EvD: statements that may let an exception out. -/
namespace Ev
open PySem PySem.Spec PyProof.Rows L2
def KXF (W : Wr) (ca : Nat → Addr) (κ : List Addr) (G H : Hp) (st : Sto) (φ : Fr) (c : Nat) (Wx : WX) : Prop := ∀ σ' κ' G' H' d, Stp κ G H κ' G' H' → Ok W κ' st G' H' → FrOk W κ' G' φ σ' → Wx (.ref (ca c)) d σ' H'
theorem KXF.from {W : Wr} {ca : Nat → Addr} {κ κ1 : List Addr} {st st1 : Sto} {G H G1 H1 : Hp} {φ : Fr} {c : Nat} {Wx : WX} (k : KXF W ca κ G H st φ c Wx) (O : Ok W κ st1 G H) (S : Stp κ G H κ1 G1 H1) : KXF W ca κ1 G1 H1 st φ c Wx :=
  fun σ' κ' G' H' d S' O' F' => k σ' κ' G' H' d (S.trans O S') O' F'
/-- normally, or with an exception -/
def tX (W : Wr) (ca : Nat → Addr) (Wx : WX) (f : Fr → Sto → Option (Out × Fr × Sto)) (g : Fr → Sto → Option (Nat × Fr × Sto)) : TS := fun D σ H => tS W f D σ H ∨ ∃ φ st κ G c φ' st', FrOk W κ G φ σ ∧ Ok W κ st G H ∧ g φ st = some (c, φ', st') ∧ KXF W ca κ G H st' φ' c Wx
section
variable {X : Cx} {T : Tab} {E : En} {Wx : WX}
abbrev DSX (X : Cx) (T : Tab) (E : En) (Wx : WX) (s : St) (c : Stmt) : Prop := PS X c (tX (T.W X.K) T.ca Wx (evS E s) (xS E s))
abbrev DSsX (X : Cx) (T : Tab) (E : En) (Wx : WX) (ss : List St) (cs : List Stmt) : Prop := PSs X cs (tX (T.W X.K) T.ca Wx (evSs E ss) (xSs E ss))
theorem dsx_of {s : St} {c : Stmt} (h : DS X T E s c) (hx : ∀ φ st, xS E s φ st = none) : DSX X T E Wx s c := PS.imp h fun D σ H q => by
  rcases q with q | ⟨φ, st, κ, G, c, φ', st', F, O, e, k⟩
  · exact q
  · rw [hx] at e; cases e
theorem dsx_ex {x : Ex} {e : Expr} {pos : Pos} (he : DXE X T E Wx x e) (hs : swapsWith e none pos.line X.env = pure false) : DSX X T E Wx (.ex x) (.Expr e pos) :=
  PS.imp (ps_expr he hs) fun D σ H q => by
    rcases q with ⟨φ, st, κ, G, o, φ', st', F, O, e, k⟩ | ⟨φ, st, κ, G, c, φ', st', F, O, e, k⟩
    · refine .inl ?_
      unfold evS at e
      split at e
      · rename_i d st1 e1
        cases e
        exact ⟨φ, st, κ, G, d, st', F, O, e1, fun v κ1 G1 H1 S1 O1 r1 => k _ _ _ _ S1 O1 (F.mono O S1)⟩
      · cases e
    · refine .inr ?_
      have e : (xE E x φ st).map (fun r => (r.1, φ, r.2)) = some (c, φ', st') := by unfold xS at e; exact e
      cases e1 : xE E x φ st with
      | none => rw [e1] at e; cases e
      | some r =>
        rw [e1] at e
        cases e
        exact ⟨φ, st, κ, G, r.1, r.2, F, O, e1, fun κ1 G1 H1 d S1 O1 => k _ _ _ _ d S1 O1 (F.mono O S1)⟩
theorem dsx_ret {x : Ex} {e : Expr} {pos : Pos} (he : DXE X T E Wx x e) : DSX X T E Wx (.ret x) (.Return (some e) pos) :=
  PS.imp (ps_ret he) fun D σ H q => by
    rcases q with ⟨φ, st, κ, G, o, φ', st', F, O, e, k⟩ | ⟨φ, st, κ, G, c, φ', st', F, O, e, k⟩
    · refine .inl ?_
      unfold evS at e
      split at e
      · rename_i d st1 e1
        cases e
        exact ⟨φ, st, κ, G, d, st', F, O, e1, k⟩
      · cases e
    · refine .inr ?_
      have e : (xE E x φ st).map (fun r => (r.1, φ, r.2)) = some (c, φ', st') := by unfold xS at e; exact e
      cases e1 : xE E x φ st with
      | none => rw [e1] at e; cases e
      | some r =>
        rw [e1] at e
        cases e
        exact ⟨φ, st, κ, G, r.1, r.2, F, O, e1, fun κ1 G1 H1 d S1 O1 => k _ _ _ _ d S1 O1 (F.mono O S1)⟩
theorem dsx_asg {t : Tg} {x : Ex} {tg e : Expr} {pos : Pos} (he : DXE X T E Wx x e) (hg : DG X T E t tg) (hs : swapsWithSole [tg] e pos.line X.env = pure false) (hw : swappedStores [tg] e X.env = pure none)
    (h1 : (assignEach [tg] X.env).map (·.2) = [assign tg X.env]) : DSX X T E Wx (.asg t x) (.Assign [tg] e pos) :=
  PS.imp (ps_asg he hg hs hw h1) fun D σ H q => by
    rcases q with q | ⟨φ, st, κ, G, c, φ', st', F, O, e, k⟩
    · exact .inl (asg_imp q)
    · refine .inr ?_
      have e : (xE E x φ st).map (fun r => (r.1, φ, r.2)) = some (c, φ', st') := by unfold xS at e; exact e
      cases e1 : xE E x φ st with
      | none => rw [e1] at e; cases e
      | some r =>
        rw [e1] at e
        cases e
        exact ⟨φ, st, κ, G, r.1, r.2, F, O, e1, fun κ1 G1 H1 d S1 O1 => k _ _ _ _ d S1 O1 (F.mono O S1)⟩
theorem dsx_if {x : Ex} {a b : List St} {c : Expr} {s t : List Stmt} {pos : Pos} (hc : DT X T E x c) (ha : DSsX X T E Wx a s) (hb : DSsX X T E Wx b t) : DSX X T E Wx (.ife x a b) (.If c s t pos) :=
  PS.imp (ps_if hc ha hb) fun D σ H q => by
    rcases q with ⟨φ, st, κ, G, o, φ', st', F, O, e, k⟩ | ⟨φ, st, κ, G, c, φ', st', F, O, e, k⟩
    · unfold evS at e
      split at e
      · rename_i st1 e1
        exact ⟨φ, st, κ, G, true, st1, F, O, e1, fun κ1 G1 H1 S1 O1 => ite_t (.inl ⟨φ, st1, κ1, G1, o, φ', st', F.mono O S1, O1, e, k.from O S1⟩)⟩
      · rename_i st1 e1
        exact ⟨φ, st, κ, G, false, st1, F, O, e1, fun κ1 G1 H1 S1 O1 => ite_f (.inl ⟨φ, st1, κ1, G1, o, φ', st', F.mono O S1, O1, e, k.from O S1⟩)⟩
      · cases e
    · unfold xS at e
      split at e
      · rename_i st1 e1
        exact ⟨φ, st, κ, G, true, st1, F, O, e1, fun κ1 G1 H1 S1 O1 => ite_t (.inr ⟨φ, st1, κ1, G1, c, φ', st', F.mono O S1, O1, e, k.from O S1⟩)⟩
      · rename_i st1 e1
        exact ⟨φ, st, κ, G, false, st1, F, O, e1, fun κ1 G1 H1 S1 O1 => ite_f (.inr ⟨φ, st1, κ1, G1, c, φ', st', F.mono O S1, O1, e, k.from O S1⟩)⟩
      · cases e
theorem dssx_nil : DSsX X T E Wx [] [] := PSs.imp pss_nil fun D σ H q => by
  rcases q with ⟨φ, st, κ, G, o, φ', st', F, O, e, k⟩ | ⟨φ, st, κ, G, c, φ', st', F, O, e, k⟩
  · unfold evSs at e; cases e
    exact k _ _ _ _ Stp.refl O F
  · unfold xSs at e; cases e
theorem dssx_doc {ss : List St} {cs : List Stmt} {x j pos pos'} (h : DSsX X T E Wx ss cs) : DSsX X T E Wx ss (.Expr (.Constant (.str x) j pos) pos' :: cs) :=
  PSs.imp (pss_cons ps_doc h) fun D σ H h => h
theorem dssx_cons {s : St} {ss : List St} {c : Stmt} {cs : List Stmt} (h1 : DSX X T E Wx s c) (h2 : DSsX X T E Wx ss cs) : DSsX X T E Wx (s :: ss) (c :: cs) :=
  PSs.imp (pss_cons h1 h2) fun D σ H q => by
    rcases q with ⟨φ, st, κ, G, o, φ', st', F, O, e, k⟩ | ⟨φ, st, κ, G, c, φ', st', F, O, e, k⟩
    · refine .inl ?_
      unfold evSs at e
      split at e
      · rename_i φ2 st2 e1
        exact ⟨φ, st, κ, G, .nx, φ2, st2, F, O, e1, fun σ1 κ1 G1 H1 S1 O1 F1 => .inl ⟨φ2, st2, κ1, G1, o, φ', st', F1, O1, e, k.from O S1⟩⟩
      · rename_i d φ2 st2 e1
        cases e
        exact ⟨φ, st, κ, G, .ret d, φ', st', F, O, e1, k⟩
      · rename_i d φ2 st2 e1
        cases e
        exact ⟨φ, st, κ, G, .retC d, φ', st', F, O, e1, k⟩
      · cases e
    · unfold xSs at e
      split at e
      · rename_i φ2 st2 e1
        exact .inl ⟨φ, st, κ, G, .nx, φ2, st2, F, O, e1, fun σ1 κ1 G1 H1 S1 O1 F1 => .inr ⟨φ2, st2, κ1, G1, c, φ', st', F1, O1, e, k.from O S1⟩⟩
      · cases e
      · exact .inr ⟨φ, st, κ, G, c, φ', st', F, O, e, k⟩
/-! ### raise C(e) -/
/-- C.__init__(self, given): self.f = given -/
def spI (C : Addr) (f : Str) : Sp := fun vs H Q _ => ∃ a y, vs = [.ref a, y] ∧ H a = some (exo a C none) ∧ ∀ dx, H dx = none → dx ≠ a → Q .non (upd (upd H dx (exd dx [(f, y)])) a (exo a C (some dx)))
structure ClsAt (P : Program) (w : World) (K : PySem.W.Frag) (mg : Str → Option Value) (base : Heap) (T : Tab) (c : Nat) : Prop where
  ox : OexC K (T.ca c)
  ini : ∃ fI fd ps f, PySem.W.findIn K (.ref (T.ca c)) "__init__" = some (some (.ref fI)) ∧ PySem.W.typeIn K (.ref fI) = some (.type "function") ∧ FnOk P w K mg base (L2.CX P w) 1 fI fd ps (spI (T.ca c) f) ∧ L2.Binds K fd ps []
theorem dsx_raise {c : Nat} {y : Ex} {x : Str} {e : Expr} {p pos pos' : Pos} (hc : X.calm = true) (tk : Takes X Wx) (C : ClsAt X.prog X.w X.K X.mg X.base T c) (hr : Room 2 X.A) (hg : Gl X x) (hm : X.mg x = some (.ref (T.ca c))) (hy : y.isStar = false) (ha : DA X T E [y] [e])
    (hdb : (x == ("__debug__" : Str)) = false) (he : starEach [e] X.env = (false, eval e X.env) :: starEach [] X.env) : DSX X T E Wx (.raiseX c [y]) (.Raise (some (.Call (.Name x p) [e] [] pos)) none pos') := by
  obtain ⟨fI, fd, ps, f, iC, tI, F1, hb⟩ := C.ini
  refine PS.imp (ps_raise hc tk (pmk_oex (k := 1) C.ox iC tI F1 hr hb .nil passL hg hm ha hdb he (by rfl))) fun D σ H q => ?_
  rcases q with ⟨φ, st, κ, G, o, φ', st', F, O, e, k⟩ | ⟨φ, st, κ, G, c, φ', st', F, O, e, k⟩
  · unfold evS at e; cases e
  · unfold xS at e
    split at e
    · rename_i ds st1 e1
      cases e
      obtain ⟨d, rfl, _⟩ := evEs_one hy e1
      refine ⟨φ, st, κ, G, [d], st', F, O, e1, fun vs κ1 G1 H1 S1 O1 r1 => ?_⟩
      obtain ⟨v, rfl, rv⟩ := r1.one
      refine ⟨by simp, fun a ha => ⟨a, v, rfl, upd_same, fun dx hdx hne => ⟨rfl, dx, [(f, v)], upd_same, ?_, ?_, ?_⟩⟩⟩
      · rw [upd_ne hne, upd_same]
      · rw [upd_ne hne] at hdx; exact hdx
      · rw [upd_ne hne] at hdx
        have eH : upd (del (upd (upd (upd H1 a (exo a (T.ca c) none)) dx (exd dx [(f, v)])) a (exo a (T.ca c) (some dx))) a) dx (.xd [(f, v)]) = upd H1 dx (.xd [(f, v)]) := by
          funext b
          by_cases h1 : b = dx
          · subst h1; rw [upd_same, upd_same]
          · rw [upd_ne h1, upd_ne h1]
            by_cases h2 : b = a
            · subst h2; rw [del_same, ha]
            · rw [del_ne h2, upd_ne h2, upd_ne h1, upd_ne h2]
        rw [eH]
        obtain ⟨O2, S2⟩ := O1.hide (o := .xd [(f, v)]) hdx
        exact k _ _ _ _ (some dx) (S1.trans O S2) O2 (F.mono O (S1.trans O S2))
    · cases e
/-! ### try: .. except C: return None -/
theorem dsx_try {b : List St} {c : Nat} {h : List St} {x : Str} {body suite : List Stmt} {b₀ : Stmt} {np pos pos' : Pos} (hs : X.stack = X.env :: X.outer) (hf : X.env.frame = some X.env.locals) (hc : Names X x (.ref (T.ca c))) (tk : Takes X Wx)
    (hex : ∀ z, E.sub z c = true → PySem.W.exmOne X.K (.ref (T.ca z)) (.ref (T.ca c)) = some true)
    (hb : ∀ (W : WX) (pn : List (Addr × Obj)) (xe : Value → Shared → Prop), Takes (X.tr pn xe) W → PassesOwn (model X.prog X.w) X.A X.env xe → DSsX (X.tr pn xe) T E W b body)
    (hsu : ∀ (a : Addr) (pn : List (Addr × Obj)), DSs (X.suite a pn) T E h (b₀ :: suite)) :
    DSX X T E Wx (.tryE b c h) (.Try body [.ExceptHandler (some (.Name x np)) none (b₀ :: suite) pos'] [] [] pos) := by
  refine PS.imp (ps_try_only (tb := fun W => tX (T.W X.K) T.ca W (evSs E b) (xSs E b)) (ts := fun _ _ _ => tS (T.W X.K) (evSs E h)) hs hf hc tk (fun W pn xe tk' hp => hb W pn xe tk' hp) fun a oe cls d pn _ _ => hsu a _) fun D σ H q => ?_
  rcases q with ⟨φ, st, κ, G, o, φ', st', F, O, e, k⟩ | ⟨φ, st, κ, G, c, φ', st', F, O, e, k⟩
  · unfold evS at e
    split at e
    · rename_i r e1
      cases e
      exact .inl ⟨φ, st, κ, G, o, φ', st', F, O, e1, k⟩
    · split at e
      · rename_i z φ1 st1 e2
        split at e
        · rename_i hz
          refine .inr ⟨φ, st, κ, G, z, φ1, st1, F, O, e2, fun σ1 κ1 G1 H1 d S1 O1 F1 => ⟨true, hex z hz, fun _ a ha => ?_, fun z => by cases z⟩⟩
          exact ⟨φ1, st1, κ1, G1, o, φ', st', F1, O1, e, k.from O S1⟩
        · cases e
      · cases e
  · unfold xS at e; cases e
end
end Ev


set_option Elab.async false
set_option linter.all false
set_option maxRecDepth 100000
set_option maxHeartbeats 400000
/-! EvF: a def is left; a def keeps its promise. -/
namespace Ev
open PySem PySem.Spec PyProof.Rows L2
section
variable {W : Wr} {κ κ' : List Addr} {st st1 st' : Sto} {G H G' H' : Hp} {v : V} {d1 d : D}
theorem leave_go (O : Ok W κ st G H) (S : Stp κ G H κ' G' H') (O' : Ok W κ' st1 G' H') (r : Rp W κ' G' v d1) (h : leave st.length st1 d1 = some (d, st')) : Ok W κ st' G' H' ∧ Stp κ G H κ G' H' ∧ Rp W κ G' v d := by
  unfold leave at h
  split at h
  · rename_i hl
    cases h
    obtain ⟨e, rfl, he⟩ := S.pre
    have : e = [] := by
      have := O'.len
      rw [List.length_append, O.len] at this
      exact List.length_eq_zero_iff.mp (by omega)
    subst this
    rw [List.append_nil] at *
    exact ⟨O', S, r⟩
  · split at h
    · rename_i u
      obtain ⟨O2, S2, hs, hi⟩ := take_cells O S O' u
      split at h
      · rename_i ud
        cases h
        exact ⟨O2, S2, r.weak hs hi ud⟩
      · rename_i ud
        split at h
        · rename_i k
          split at h
          · rename_i c ec
            split at h
            · rename_i uc
              cases h
              obtain ⟨a, rfl, hk⟩ := getk_of O' r
              have hkn : st.length ≤ k := by
                have : ¬ k < st.length := by simpa [D.und] using ud
                omega
              have na : a ∉ κ := fun hm => by
                obtain ⟨j, hj⟩ := List.mem_iff_getElem?.mp hm
                have hjl : j < st.length := by rw [← O.len]; exact (List.getElem?_eq_some_iff.mp hj).1
                obtain ⟨e, e2, _⟩ := S.pre
                have : κ'[j]? = some a := by rw [e2, List.getElem?_append_left (by rw [O.len]; exact hjl)]; exact hj
                have := nodup_ixA O'.nd this hk
                omega
              have c1 := CellOk.weak hs hi uc (O'.cell k a _ hk ec)
              refine ⟨O2, S2, ?_⟩
              cases d <;> first | exact c1.elim | skip
              · obtain ⟨vs, h1, h2⟩ := c1; exact .lst na h1 h2
              · obtain ⟨vs, h1, h2⟩ := c1; exact .dK na h1 h2
              · obtain ⟨vs, h1, h2⟩ := c1; exact .dT na h1 h2
            · cases h
          · cases h
        · cases h
    · cases h
theorem leaveC_go (O : Ok W κ st G H) (S : Stp κ G H κ' G' H') (O' : Ok W κ' st1 G' H') (r : Rp W κ' G' v d1) (h : leaveC st.length st1 d1 = some (d, st')) : ∃ κ2, Ok W κ2 st' G' H' ∧ Stp κ G H κ2 G' H' ∧ Rp W κ2 G' v d := by
  unfold leaveC at h
  split at h
  · rename_i k
    split at h
    · rename_i hu
      obtain ⟨hkn, u⟩ := hu
      split at h
      · rename_i c ec
        split at h
        · rename_i uc
          cases h
          obtain ⟨O2, S2, hs, hi⟩ := take_cells O S O' u
          obtain ⟨a, rfl, hk⟩ := getk_of O' r
          have na : a ∉ κ := fun hm => by
            obtain ⟨j, hj⟩ := List.mem_iff_getElem?.mp hm
            have hjl : j < st.length := by rw [← O.len]; exact (List.getElem?_eq_some_iff.mp hj).1
            obtain ⟨e, e2, _⟩ := S.pre
            have : κ'[j]? = some a := by rw [e2, List.getElem?_append_left (by rw [O.len]; exact hjl)]; exact hj
            have := nodup_ixA O'.nd this hk
            omega
          have ha' : a ∈ κ' := List.mem_of_getElem? hk
          have hs2 : ∀ x, x ∈ κ ++ [a] → x ∈ κ' := fun x hx => by
            rcases List.mem_append.mp hx with z | z
            · exact hs x z
            · simp at z; subst z; exact ha'
          have hi2 : ∀ (j : Nat) b, j < st.length → κ'[j]? = some b → (κ ++ [a])[j]? = some b := fun j b hj hb => by
            rw [List.getElem?_append_left (by rw [O.len]; exact hj)]; exact hi j b hj hb
          have l2 : (st1.take st.length).length = st.length := by
            rw [List.length_take]
            have := O'.len
            obtain ⟨e, e2, _⟩ := S.pre
            rw [e2, List.length_append, O.len] at this
            omega
          refine ⟨κ ++ [a], ⟨O'.sub, by simp [O.len, l2], ?_, fun j b c' h1 h2 => ?_⟩, ⟨⟨[a], rfl, fun x hx => ?_⟩, S.keep, S.hid, S.there⟩, .cel ?_⟩
          · rw [List.nodup_append]
            exact ⟨O.nd, by simp, fun x hx y hy e => by simp at hy; subst hy; subst e; exact na hx⟩
          · by_cases q : j < st.length
            · rw [List.getElem?_append_left (by rw [l2]; exact q)] at h2
              rw [List.getElem?_append_left (by rw [O.len]; exact q)] at h1
              have h3 : st1[j]? = some c' := by rw [List.getElem?_take_of_lt q] at h2; exact h2
              refine CellOk.weak hs2 hi2 (undL_at u h2) (O'.cell j b c' ?_ h3)
              obtain ⟨e, e2, _⟩ := S.pre
              rw [e2, List.getElem?_append_left (by rw [O.len]; exact q)]; exact h1
            · have q2 : j = st.length := by
                have := (List.getElem?_eq_some_iff.mp h2).1
                simp [l2] at this; omega
              subst q2
              rw [List.getElem?_append_right (by rw [l2]; exact Nat.le_refl _)] at h2
              rw [List.getElem?_append_right (by rw [O.len]; exact Nat.le_refl _)] at h1
              simp [l2] at h2
              simp [O.len] at h1
              subst h1 h2
              exact CellOk.weak hs2 hi2 uc (O'.cell k _ _ hk ec)
          · simp at hx; subst hx
            obtain ⟨e, e2, he⟩ := S.pre
            rw [e2] at ha'
            rcases List.mem_append.mp ha' with z | z
            · exact absurd z na
            · exact he _ z
          · rw [← O.len, List.getElem?_append_right (Nat.le_refl _)]; simp
        · cases h
      · cases h
    · cases h
  · cases h
theorem start_ok {N : List Str} {vs : List V} {ds : List D} (r : RpL W κ G vs ds) : FrOk W κ G (startF N.length ds) (L2.start N vs) := by
  have hl := r.length
  refine ⟨by simp [startF, L2.start, hl], fun i d e => ?_⟩
  unfold startF at e
  unfold L2.start
  by_cases q : i < ds.length
  · rw [List.getElem?_append_left (by simpa using q), List.getElem?_map] at e
    cases ed : ds[i]? with
    | none => rw [ed] at e; cases e
    | some d' =>
      rw [ed] at e
      cases e
      obtain ⟨v, h1, h2⟩ := r.get ed
      exact ⟨v, by rw [List.getElem?_append_left (by simpa [hl] using q), List.getElem?_map, h1]; rfl, h2⟩
  · rw [List.getElem?_append_right (by simpa using q)] at e
    obtain ⟨_, h⟩ := List.getElem?_eq_some_iff.mp e
    simp at h
end
theorem run_succ {prog : List (Option FnI)} {Gl : List D} {sub : Nat → Nat → Bool} {n k : Nat} {ds : List D} {st : Sto} {r : D × Sto} (h : run prog Gl sub (n + 1) k ds st = some r) : ∃ f, prog[k]? = some (some f) ∧ ds.length = f.np ∧ ∃ o φ' st1, evSs ⟨Gl, run prog Gl sub n, xrun prog Gl sub n, sub⟩ f.body (startF f.ns ds) st = some (o, φ', st1) ∧
    (match o with | .ret d => leave st.length st1 d | .nx => leave st.length st1 .non | .retC d => leaveC st.length st1 d) = some r := by
  unfold run at h
  split at h
  · rename_i f hf
    split at h
    · rename_i hl
      split at h
      · rename_i d _ st1 e; exact ⟨f, hf, hl, _, _, _, e, h⟩
      · rename_i _ st1 e; exact ⟨f, hf, hl, _, _, _, e, h⟩
      · rename_i d _ st1 e; exact ⟨f, hf, hl, _, _, _, e, h⟩
      · cases h
    · cases h
  · cases h
theorem xrun_succ {prog : List (Option FnI)} {Gl : List D} {sub : Nat → Nat → Bool} {n k : Nat} {ds : List D} {st : Sto} {r : Nat × Sto} (h : xrun prog Gl sub (n + 1) k ds st = some r) : ∃ f, prog[k]? = some (some f) ∧ ds.length = f.np ∧ ∃ φ' st1 u, xSs ⟨Gl, run prog Gl sub n, xrun prog Gl sub n, sub⟩ f.body (startF f.ns ds) st = some (r.1, φ', st1) ∧
    leave st.length st1 .non = some (u, r.2) := by
  unfold xrun at h
  split at h
  · rename_i f hf
    split at h
    · rename_i hl
      split at h
      · rename_i x _ st1 e
        split at h
        · rename_i u st2 e2
          cases h
          exact ⟨f, hf, hl, _, _, u, e, e2⟩
        · cases h
      · cases h
    · cases h
  · cases h
/-- a def keeps its promise -/
theorem fn_sound {T : Tab} {P : Program} {w : World} {K : PySem.W.Frag} {mg : Str → Option Value} {base : Heap} {n k : Nat} {f : FnI} {name qual : Str} {params : Arguments} {body : List Stmt} {scope : Scope} {dV kV doc pm cdv ct oc : Value} {an od : Option Addr}
    {osl : Array (Option Value)} {N ps : List Str} (lk : K.lookup (T.fa k) = some ⟨oc, od, .func (PySem.W.fnOf name qual params body scope dV kV doc pm an cdv ct), osl⟩) (hcd : PySem.W.codeIn K cdv qual = true) (S : FnScope N ps scope)
    (hk : T.prog[k]? = some (some f)) (hns : N.length = f.ns) (hnp : ps.length = f.np)
    (hbody : ∀ (A : Around) (outer : List Env) (s : Shared) (H : Hp) (E : XK), Room (n + 2) (A.deeper (envOfC qual scope s.heap.objs.size (T.fa k) cdv)) → DSsX (cxOf (L2.CX P w) P w K mg base N qual scope (T.fa k) cdv A outer s H E) T (envN T n) (fun cls d _ H => E cls d H) f.body body) :
    FnOk P w K mg base (L2.CX P w) (n + 1 + 2) (T.fa k) (PySem.W.fnOf name qual params body scope dV kV doc pm an cdv ct) ps (spD (T.W K) T.ca (envN T (n + 1)) k) := by
  refine fn_of lk hcd S (fun vs H Q E h => ?_) fun A outer s H vs Q E hr h => ?_
  · obtain ⟨ds, st, κ, G, r, O, ⟨d, st', e, kq⟩ | ⟨c, st', e, kx⟩⟩ := h
    · obtain ⟨f', hk', hl, _⟩ := run_succ (show run T.prog T.G T.sub (n + 1) k ds st = some (d, st') from e)
      rw [hk] at hk'; cases hk'
      rw [r.length, hl, hnp]
    · obtain ⟨f', hk', hl, _⟩ := xrun_succ (show xrun T.prog T.G T.sub (n + 1) k ds st = some (c, st') from e)
      rw [hk] at hk'; cases hk'
      rw [r.length, hl, hnp]
  · obtain ⟨ds, st, κ, G, r, O, ⟨d, st', e, kq⟩ | ⟨c, st', e, kx⟩⟩ := h
    · obtain ⟨f', hk', hl, o, φ', st1, e1, e2⟩ := run_succ (show run T.prog T.G T.sub (n + 1) k ds st = some (d, st') from e)
      rw [hk] at hk'; cases hk'
      refine ⟨_, hbody A outer s H E hr, .inl ⟨startF f.ns ds, st, κ, G, o, φ', st1, ?_, O, e1, ?_⟩⟩
      · rw [← hns]; exact start_ok r
      · cases o with
        | nx =>
          intro σ' κ' G' H' S' O' F'
          obtain ⟨O2, S2, r2⟩ := leave_go (v := .non) O S' O' .non e2
          exact kq _ _ _ _ S2 O2 r2
        | ret d1 =>
          intro v κ' G' H' S' O' r'
          obtain ⟨O2, S2, r2⟩ := leave_go O S' O' r' e2
          exact kq _ _ _ _ S2 O2 r2
        | retC d1 =>
          intro v κ' G' H' S' O' r'
          obtain ⟨κ2, O2, S2, r2⟩ := leaveC_go O S' O' r' e2
          exact kq _ _ _ _ S2 O2 r2
    · obtain ⟨f', hk', hl, φ', st1, u, e1, e2⟩ := xrun_succ (show xrun T.prog T.G T.sub (n + 1) k ds st = some (c, st') from e)
      rw [hk] at hk'; cases hk'
      refine ⟨_, hbody A outer s H E hr, .inr ⟨startF f.ns ds, st, κ, G, c, φ', st1, ?_, O, e1, ?_⟩⟩
      · rw [← hns]; exact start_ok r
      · intro σ' κ' G' H' d S' O' F'
        obtain ⟨O2, S2, r2⟩ := leave_go (v := .non) O S' O' .non e2
        exact kx _ _ _ d S2 O2
/-- at level 0 nothing is promised -/
theorem fn_zero {T : Tab} {P : Program} {w : World} {K : PySem.W.Frag} {mg : Str → Option Value} {base : Heap} {k m : Nat} {fd : FuncData} {ps : List Str} : FnOk P w K mg base (L2.CX P w) m (T.fa k) fd ps (spD (T.W K) T.ca (envN T 0) k) :=
  have no : ∀ vs H Q E, ¬ spD (T.W K) T.ca (envN T 0) k vs H Q E := fun vs H Q E ⟨ds, st, κ, G, r, O, h⟩ => by
    rcases h with ⟨d, st', e, kq⟩ | ⟨c, st', e, kx⟩
    · have e : run T.prog T.G T.sub 0 k ds st = some (d, st') := e
      unfold run at e; cases e
    · have e : xrun T.prog T.G T.sub 0 k ds st = some (c, st') := e
      unfold xrun at e; cases e
  { len := fun vs H Q E h => (no vs H Q E h).elim, run := fun A outer s H args us vs Q E _ _ _ _ h => (no vs H Q E h).elim }
end Ev


set_option Elab.async false
set_option linter.all false
set_option maxRecDepth 100000
set_option maxHeartbeats 400000
/-! EvX: the check that a text is what the small syntax says; its soundness. -/
namespace Ev
open PySem PySem.Spec PyProof.Rows L2

/-- what the check leans on: the slots' names, the module's names, which of them are defs -/
structure Ck where
  N : List Str
  gn : List Str
  df : Nat → Bool
  /-- the classes' names; which of them are raised -/
  cn : List Str := []
  rs : Nat → Bool := fun _ => false

def nmOk (x : Str) : Bool := !(x == ("__debug__" : Str)) && !(x == ("__classdict__" : Str)) && !(x == ("__name__" : Str))
def visB (sc : Scope) (x : Str) : Bool := match sc.names.lookup x with | some .local => true | some .cell => true | some .free => true | _ => false
def locB (sc : Scope) (x : Str) : Bool := match sc.names.lookup x with | some .local => true | some .cell => true | _ => false
def glB (sc : Scope) (x : Str) : Bool := match sc.names.lookup x with | some .globalImplicit => true | _ => false
def starless : Expr → Bool | .Starred .. => false | _ => true
def noSlice : Expr → Bool | .Slice .. => false | _ => true
def noSet : Expr → Bool | .Set .. => false | _ => true
def noComp : Expr → Bool | .ListComp .. => false | .SetComp .. => false | .DictComp .. => false | _ => true
def attrB : Expr → Bool | .Call f l k _ => (match f, l, k with | .Name _ _, [], [] => false | _, _, _ => true) | _ => true
def isTup : Expr → Bool | .Tuple .. => true | _ => false
def isLst : Expr → Bool | .List .. => true | _ => false
/-- a test that is by the value, or by tests -/
def tstOk : Nat → Expr → Bool
  | 0, _ => false
  | n + 1, e => match e with
    | .IfExp .. => false
    | .UnaryOp .Not a _ => tstOk n a
    | .BoolOp _ l _ => l.all (tstOk n)
    | _ => true
def bltN : Blt → Str
  | .len => "len" | .abs => "abs" | .min => "min" | .max => "max" | .all => "all" | .any => "any" | .sum => "sum" | .list => "list" | .tuple => "tuple" | .int => "int" | .divmod => "divmod" | .gcd => "gcd" | .isinst => "isinstance" | .str => "str" | .sorted => "sorted" | .lenset => "len"
/-- the source's arguments -/
def srcArgs (w : Wk) (tg iter : Expr) : Option (List Expr) := match w with
  | .seq => some [iter]
  | .range => (match iter with | .Call (.Name x _) [a] [] _ => if x = ("range" : Str) then some [a] else none | .Call (.Name x _) [a, b] [] _ => if x = ("range" : Str) then some [a, b] else none | _ => none)
  | .enum => (match tg, iter with | .Tuple .., .Call (.Name x _) [a] [] _ => if x = ("enumerate" : Str) then some [a] else none | _, _ => none)
  | .zip => (match tg, iter with | .Tuple .., .Call (.Name x _) [a, b] [] _ => if x = ("zip" : Str) then some [a, b] else none | _, _ => none)
def srcGl (w : Wk) (sc : Scope) : Bool := match w with
  | .seq => true | .range => glB sc "range" | .enum => glB sc "enumerate" | .zip => glB sc "zip"
def flat2 : List (Option Expr) → List Expr → Option (List Expr)
  | [], [] => some []
  | some k :: ks, v :: vs => (flat2 ks vs).map fun l => k :: v :: l
  | _, _ => none
section
variable (c : Ck)
def ownN (own : List Nat) : List (Str × Nat) := own.map fun i => (c.N.getD i default, i)
def nmT (sc : Scope) (fnb : Str → Bool) (i : Nat) (e : Expr) : Bool := match e with
  | .Name x _ => decide (c.N[i]? = some x) && locB sc x && (fnb x || (match sc.names.lookup x with | some .local => true | _ => false))
  | _ => false
def nmTs (sc : Scope) (fnb : Str → Bool) : List Nat → List Expr → Bool
  | [], [] => true
  | i :: is, e :: es => nmT c sc fnb i e && nmTs sc fnb is es
  | _, _ => false
def okCT (sc : Scope) (fnb : Str → Bool) (t : CT) (e : Expr) : Bool := match t with
  | .one i => nmT c sc fnb i e
  | .many is => (match e with | .Tuple es _ _ => nmTs c sc fnb is es | _ => false)
def fnbOf (scope : Scope) : Str → Bool := fun x => scope.names.lookup x == some .cell
mutual
def okE (sc : Scope) (fnb : Str → Bool) : Ex → Expr → Bool
  | .var i, e => (match e with | .Name x _ => decide (c.N[i]? = some x) && visB sc x && nmOk x | _ => false)
  | .glob k, e => (match e with | .Name x _ => decide (c.gn[k]? = some x) && glB sc x && nmOk x | _ => false)
  | .bty n, e => (match e with | .Name x _ => decide (x = Str.ofString n) && tys6.contains n && glB sc x && nmOk x | _ => false)
  | .non, e => (match e with | .Constant .none _ _ => true | _ => false)
  | .bl b, e => (match e with | .Constant (.bool d) _ _ => decide (b = d) | _ => false)
  | .int i, e => (match e with | .Constant (.int j) _ _ => decide (i = j) | _ => false)
  | .str s, e => (match e with | .Constant (.str t) _ _ => decide (s = t) | _ => false)
  | .tup xs, e => (match e with | .Tuple es _ _ => okEsS sc fnb xs es | _ => false)
  | .lst xs, e => (match e with | .List es _ => okEs sc fnb xs es | _ => false)
  | .star _, _ => false
  | .neg x, e => (match e with | .UnaryOp .USub a _ => okE sc fnb x a | _ => false)
  | .bin o x y, e => (match e with | .BinOp a op b _ => decide (op = opOf o) && okE sc fnb x a && okE sc fnb y b | _ => false)
  | .cmp o x y, e => (match e with | .Compare a [op] [b] _ => decide (op = cmOf o) && noSet b && okE sc fnb x a && okE sc fnb y b | _ => false)
  | .chain o o' x y z, e => (match e with | .Compare a [op, op'] [b, d] _ => decide (op = cmOf o) && decide (op' = cmOf o') && noSet d && okE sc fnb x a && okE sc fnb y b && okE sc fnb z d | _ => false)
  | .and xs, e => (match e with | .BoolOp .And es _ => okEs sc fnb xs es && !xs.isEmpty | _ => false)
  | .or xs, e => (match e with | .BoolOp .Or es _ => okEs sc fnb xs es && !xs.isEmpty | _ => false)
  | .not x, e => (match e with | .UnaryOp .Not a _ => okE sc fnb x a | _ => false)
  | .ife t x y, e => (match e with | .IfExp d a b _ => tstOk 9 d && okE sc fnb t d && okE sc fnb x a && okE sc fnb y b | _ => false)
  | .ix x y, e => (match e with | .Subscript a b _ => noSlice b && okE sc fnb x a && okE sc fnb y b | _ => false)
  | .sl x lo hi, e => (match e with | .Subscript a (.Slice l h none _) _ => okE sc fnb x a && okEs sc fnb lo l.toList && okEs sc fnb hi h.toList | _ => false)
  | .rev x, e => (match e with | .Subscript a (.Slice none none (some (.UnaryOp .USub (.Constant (.int 1) _ _) _)) _) _ => okE sc fnb x a | _ => false)
  | .slk x y k, e => (match e with | .Subscript a (.Slice (some b) none (some (.Constant (.int j) _ _)) _) _ => decide (j = (k : Int)) && okE sc fnb x a && okE sc fnb y b | _ => false)
  | .call k xs, e => (match e with | .Call (.Name x _) es [] _ => decide (c.gn[k]? = some x) && c.df k && glB sc x && nmOk x && okEs sc fnb xs es | _ => false)
  | .callv i xs, e => (match e with | .Call (.Name x _) (a :: es) [] _ => decide (c.N[i]? = some x) && visB sc x && nmOk x && okEs sc fnb xs (a :: es) | _ => false)
  | .blt b xs, e => (match b with
    | .lenset => (match e with | .Call (.Name x _) [.Call (.Name y _) [a] [] _] [] _ => decide (x = ("len" : Str)) && decide (y = ("set" : Str)) && glB sc x && glB sc y && okEs sc fnb xs [a] | _ => false)
    | b => (match e with | .Call (.Name x _) (a :: es) [] _ => decide (x = bltN b) && glB sc x && okEs sc fnb xs (a :: es) | _ => false))
  | .listRg xs, e => (match e with | .Call (.Name x _) [.Call (.Name y _) es [] _] [] _ => decide (x = ("list" : Str)) && decide (y = ("range" : Str)) && glB sc x && glB sc y && decide (es.length = 1 ∨ es.length = 2) && okEs sc fnb xs es | _ => false)
  | .tupRg xs, e => (match e with | .Call (.Name x _) [.Call (.Name y _) es [] _] [] _ => decide (x = ("tuple" : Str)) && decide (y = ("range" : Str)) && glB sc x && glB sc y && decide (es.length = 1 ∨ es.length = 2) && okEs sc fnb xs es | _ => false)
  | .mt m o xs, e => (match e with | .Call (.Attribute a nm apos) (b :: es) [] cpos => decide (nm = mtN m) && attrB a && (apos.endLine == cpos.line) && decide (es.length < 20) && okE sc fnb o a && okEs sc fnb xs (b :: es) | _ => false)
  | .dnewK, e => (match e with | .Dict [] [] _ => true | _ => false)
  | .dnewT, _ => false
  | .dspK xs, e => (match e with | .Dict keys vals _ => (match flat2 keys vals with | some l => okEs sc fnb xs l | none => false) && decide (keys.length ≤ 15) && !keys.isEmpty && decide (xs.length = 2 * keys.length) && decide (keys.length = vals.length) && keys.all (·.isSome) | _ => false)
  | .comp own t w src ifs x, e => (match e with
    | .ListComp elt [⟨tg, iter, is, a⟩] scope _ => decide (a = 0) && ctOk w t && t.slots.all (fun i => own.contains i) && srcGl w sc && noSet iter && (match srcArgs w tg iter with | some l => okEs sc fnb src l | none => false) &&
        blkC c.N sc scope (ownN c own) && okCT c (relS scope sc) (fnbOf scope) t tg && decide (is.length ≤ 1) && is.all (tstOk 9) && okEs (relS scope sc) (fnbOf scope) ifs is && okE (relS scope sc) (fnbOf scope) x elt
    | _ => false)
  | .dcomp own t w src ifs k v, e => (match e with
    | .DictComp kx vx [⟨tg, iter, is, a⟩] scope _ => decide (a = 0) && ctOk w t && t.slots.all (fun i => own.contains i) && srcGl w sc && noSet iter && (match srcArgs w tg iter with | some l => okEs sc fnb src l | none => false) &&
        blkC c.N sc scope (ownN c own) && okCT c (relS scope sc) (fnbOf scope) t tg && decide (is.length ≤ 1) && is.all (tstOk 9) && okEs (relS scope sc) (fnbOf scope) ifs is && okE (relS scope sc) (fnbOf scope) k kx && okE (relS scope sc) (fnbOf scope) v vx
    | _ => false)
  | .comp2 own t w src t2 w2 src2 x, e => (match e with
    | .ListComp elt [⟨tg, iter, [], a⟩, ⟨tg1, iter1, [], a1⟩] scope _ => decide (a = 0) && decide (a1 = 0) && ctOk w t && ctOk w2 t2 && t.slots.all (fun i => own.contains i) && t2.slots.all (fun i => own.contains i) && srcGl w sc && srcGl w2 (relS scope sc) && noSet iter && noSet iter1 &&
        (match srcArgs w tg iter with | some l => okEs sc fnb src l | none => false) && blkC c.N sc scope (ownN c own) && okCT c (relS scope sc) (fnbOf scope) t tg && okCT c (relS scope sc) (fnbOf scope) t2 tg1 &&
        (match srcArgs w2 tg1 iter1 with | some l => okEs (relS scope sc) (fnbOf scope) src2 l | none => false) && okE (relS scope sc) (fnbOf scope) x elt
    | _ => false)
  | .mk x, e => fresh x && okE sc fnb x e
def okEsS (sc : Scope) (fnb : Str → Bool) : List Ex → List Expr → Bool
  | [], es => (match es with | [] => true | _ :: _ => false)
  | x :: xs, es => (match es with | [] => false | e :: es => (match x with
    | .star y => (match e with | .Starred a _ => okE sc fnb y a | _ => false)
    | x => starless e && okE sc fnb x e) && okEsS sc fnb xs es)
def okEs (sc : Scope) (fnb : Str → Bool) : List Ex → List Expr → Bool
  | [], es => (match es with | [] => true | _ :: _ => false)
  | x :: xs, es => (match es with | [] => false | e :: es => starless e && okE sc fnb x e && okEs sc fnb xs es)
end
end
end Ev


set_option Elab.async false
set_option linter.all false
set_option maxRecDepth 100000
set_option maxHeartbeats 400000
/-! EvY: the check is sound, expressions. -/
namespace Ev
open PySem PySem.Spec PyProof.Rows L2
theorem star_plain {e : Expr} {es : List Expr} {env : Env} (h : starless e = true) : starEach (e :: es) env = (false, eval e env) :: starEach es env := by
  cases e <;> first | rfl | (simp [starless] at h)
theorem plainL {env : Env} {pos : Pos} : ∀ {es : List Expr}, es.all starless = true → (backTo pos (starEach es env)).any (·.1) = false
  | [], _ => rfl
  | e :: es, h => by
    simp only [List.all_cons, Bool.and_eq_true] at h
    rw [star_plain h.1]
    show (false || (backTo pos (starEach es env)).any (·.1)) = false
    rw [plainL h.2]; rfl
theorem plainAll {env : Env} {pos : Pos} : ∀ {es : List Expr}, es.all starless = true → (backTo pos (starEach es env)).all (fun x => !x.1) = true
  | [], _ => rfl
  | e :: es, h => by
    simp only [List.all_cons, Bool.and_eq_true] at h
    rw [star_plain h.1]
    show (!false && (backTo pos (starEach es env)).all (fun x => !x.1)) = true
    rw [plainAll h.2]; rfl
theorem plainIx_of {b : Expr} (h : noSlice b = true) : PlainIx b := by
  intro o i
  cases b <;> first | rfl | (simp [noSlice] at h)
theorem marks_of {op : CmpOp} {b : Expr} (h : noSet b = true) : behindInMarks op b = false := by
  cases b <;> first | rfl | (simp [noSet] at h)
theorem folded_of {e : Expr} {env : Env} (h : noSet e = true) : ∀ x, foldedSetIterable e env x = pure x := by
  intro x
  cases e <;> first | rfl | (simp [noSet] at h)
theorem base_of {o : Expr} {m : Str} {env : Env} (h : attrB o = true) : attributeBase o m env (eval o env) = eval o env := by
  cases o <;> first | rfl | skip
  rename_i f l k p
  cases f <;> first | rfl | skip
  cases l <;> first | rfl | skip
  cases k <;> first | rfl | skip
  cases h
def bltNs : List Str := ["len", "abs", "min", "max", "all", "any", "sum", "list", "tuple", "int", "divmod", "isinstance", "str", "range", "enumerate", "zip", "bool", "dict", "sorted", "set"]
theorem boot_blt : ∀ b : Blt, b ≠ .gcd → bootBuiltins (bltN b) = some (bltV b) ∧ bltN b ∈ bltNs := by
  intro b hb
  cases b <;> first | exact absurd rfl hb | (refine ⟨?_, by decide⟩; decide +kernel)
theorem boot_tys : ∀ n ∈ tys6, bootBuiltins (Str.ofString n) = some (.type n) ∧ Str.ofString n ∈ bltNs := by
  intro n hn
  simp only [tys6, List.mem_cons, List.not_mem_nil, or_false] at hn
  rcases hn with rfl | rfl | rfl | rfl | rfl | rfl <;> (refine ⟨?_, by decide⟩; decide +kernel)
theorem blt_nm : ∀ b : Blt, bltN b ≠ "__name__" ∧ (bltN b == ("__debug__" : Str)) = false := by intro b; cases b <;> decide
structure In (c : Ck) (X : Cx) (T : Tab) (n : Nat) (sc : Scope) (fnb : Str → Bool) : Prop where
  sc : X.env.scope = sc
  nm : X.N = c.N
  nd : X.N.Nodup
  calm : X.calm = true
  room : Room (n + 2) X.A
  fn : ∀ x, fnb x = true → X.fn x = true
  fns : FnAt X T n
  gn : c.gn = T.gn
  df : ∀ (k : Nat), c.df k = true → ∃ f, T.prog[k]? = some (some f)
  glob : ∀ (k : Nat) x d, T.gn[k]? = some x → T.G[k]? = some d → ∃ v u, X.mg x = some u ∧ RelV v u ∧ ∀ κ G, Rp (T.W X.K) κ G v d
  defs : ∀ (k : Nat) x f, T.gn[k]? = some x → T.prog[k]? = some (some f) → X.mg x = some (.ref (T.fa k))
  blt : ∀ x ∈ bltNs, X.mg x = none
  gcd : X.mg "gcd" = some (.builtin "math.gcd")
  cn : c.cn = T.cn
  cls : ∀ (k : Nat) x, T.cn[k]? = some x → X.mg x = some (.ref (T.ca k))
  ox : ∀ (k : Nat), c.rs k = true → ClsAt X.prog X.w X.K X.mg X.base T k
  exm : ∀ z k, T.sub z k = true → PySem.W.exmOne X.K (.ref (T.ca z)) (.ref (T.ca k)) = some true
section
variable {c : Ck} {X : Cx} {T : Tab} {n : Nat} {sc : Scope} {fnb : Str → Bool}
theorem In.u (I : In c X T n sc fnb) : X.A.units + 65 < cLine := by have := I.room.un; omega
theorem In.u70 (I : In c X T n sc fnb) : X.A.units + 70 < cLine := by have := I.room.un; omega
theorem In.u1 (I : In c X T n sc fnb) : X.A.units + 1 < cLine := by have := I.room.un; omega
theorem In.blk (I : In c X T n sc fnb) (s : Shared) (H : Hp) (scope : Scope) (C : Addr) (cl : List (Str × Addr)) (fp : List Addr) : In c (X.blk s H scope (compEnvC scope cl C X.env) fp) T n (relS scope sc) (fnbOf scope) where
  sc := by show relabel scope X.env = relS scope sc; rw [← I.sc]; rfl
  nm := I.nm
  nd := I.nd
  calm := I.calm
  room := I.room
  fn := fun x h => h
  fns := ⟨I.fns.ok⟩
  gn := I.gn
  df := I.df
  glob := I.glob
  defs := I.defs
  blt := I.blt
  gcd := I.gcd
  cn := I.cn
  cls := I.cls
  ox := I.ox
  exm := I.exm
theorem vis_of (I : In c X T n sc fnb) {x : Str} (h : visB sc x = true) : Vis X.env.scope x := by
  rw [I.sc]
  unfold visB at h
  unfold Vis
  split at h
  · rename_i e; exact .inl e
  · rename_i e; exact .inr (.inl e)
  · rename_i e; exact .inr (.inr e)
  · cases h
theorem loc_of (I : In c X T n sc fnb) {x : Str} (h : locB sc x = true) : Loc X.env.scope x := by
  rw [I.sc]
  unfold locB at h
  unfold L2.Loc
  split at h
  · rename_i e; exact .inl e
  · rename_i e; exact .inr e
  · cases h
theorem gl_of (I : In c X T n sc fnb) {x : Str} (h : glB sc x = true) : Gl X x := by
  unfold Gl Env.kindOf
  rw [I.sc]
  unfold glB at h
  split at h
  · rename_i e; exact e
  · cases h
theorem nm_of {x : Str} (h : nmOk x = true) : (x == ("__debug__" : Str)) = false ∧ (x == ("__classdict__" : Str)) = false ∧ x ≠ "__name__" := by
  unfold nmOk at h
  simp only [Bool.and_eq_true, Bool.not_eq_true'] at h
  exact ⟨h.1.1, h.1.2, fun e => by rw [e] at h; simp at h⟩
/-- what is said of an expression that passes the check -/
structure PX (X : Cx) (T : Tab) (E : En) (x : Ex) (e : Expr) : Prop where
  de : DE X T E x e
  dn : fresh x = true → DN X T E x e
  dt : ∀ m, tstOk m e = true → DT X T E x e
def PP (X : Cx) (T : Tab) (E : En) : List Ex → List Expr → Prop
  | [], es => (match es with | [] => True | _ :: _ => False)
  | x :: xs, es => (match es with | [] => False | e :: es => (PX X T E x e ∧ x.isStar = false ∧ starless e = true) ∧ PP X T E xs es)
variable {E : En}
theorem PP.len : ∀ {xs : List Ex} {es : List Expr}, PP X T E xs es → xs.length = es.length
  | [], es, h => by cases es with | nil => rfl | cons => exact h.elim
  | x :: xs, es, h => by cases es with | nil => exact h.elim | cons e es => simp [PP.len h.2]
theorem PP.plain : ∀ {xs : List Ex} {es : List Expr}, PP X T E xs es → es.all starless = true
  | [], es, h => by cases es with | nil => rfl | cons => exact h.elim
  | x :: xs, es, h => by
    cases es with
    | nil => exact h.elim
    | cons e es => simp only [List.all_cons, Bool.and_eq_true]; exact ⟨h.1.2.2, PP.plain h.2⟩
theorem PP.da : ∀ {xs : List Ex} {es : List Expr}, PP X T E xs es → DA X T E xs es
  | [], es, h => by cases es with | nil => exact da_nil | cons => exact h.elim
  | x :: xs, es, h => by
    cases es with
    | nil => exact h.elim
    | cons e es => exact da_cons h.1.2.1 h.1.1.de (PP.da h.2) (star_plain h.1.2.2)
theorem PP.stars : ∀ {xs : List Ex} {es : List Expr}, PP X T E xs es → ∀ x ∈ xs, x.isStar = false
  | x :: xs, es, h, y, hy => by
    cases es with
    | nil => exact h.elim
    | cons e es =>
      cases hy with
      | head => exact h.1.2.1
      | tail _ hy => exact PP.stars h.2 y hy
theorem PP.and : ∀ {xs : List Ex} {es : List Expr} {pos : Pos}, PP X T E xs es → xs ≠ [] → DAnd X T E xs (.BoolOp .And es pos)
  | [], _, _, _, h => absurd rfl h
  | [x], es, pos, h, _ => by
    cases es with
    | nil => exact h.elim
    | cons e es => cases es with | nil => exact de_and1 h.1.1.de | cons => exact h.2.elim
  | x :: y :: xs, es, pos, h, _ => by
    cases es with
    | nil => exact h.elim
    | cons e es =>
      cases es with
      | nil => exact h.2.elim
      | cons e2 es => exact de_andC h.1.1.de (PP.and (es := e2 :: es) h.2 (by simp))
theorem PP.or : ∀ {xs : List Ex} {es : List Expr} {pos : Pos}, PP X T E xs es → xs ≠ [] → DOr X T E xs (.BoolOp .Or es pos)
  | [], _, _, _, h => absurd rfl h
  | [x], es, pos, h, _ => by
    cases es with
    | nil => exact h.elim
    | cons e es => cases es with | nil => exact de_or1 h.1.1.de | cons => exact h.2.elim
  | x :: y :: xs, es, pos, h, _ => by
    cases es with
    | nil => exact h.elim
    | cons e es =>
      cases es with
      | nil => exact h.2.elim
      | cons e2 es => exact de_orC h.1.1.de (PP.or (es := e2 :: es) h.2 (by simp))
theorem PP.wand {m : Nat} : ∀ {xs : List Ex} {es : List Expr} {pos : Pos}, PP X T E xs es → xs ≠ [] → es.all (tstOk m) = true → WAnd X T E xs (.BoolOp .And es pos)
  | [], _, _, _, h, _ => absurd rfl h
  | [x], es, pos, h, _, ht => by
    cases es with
    | nil => exact h.elim
    | cons e es =>
      simp only [List.all_cons, Bool.and_eq_true] at ht
      cases es with | nil => exact w_and1 (h.1.1.dt m ht.1) | cons => exact h.2.elim
  | x :: y :: xs, es, pos, h, _, ht => by
    cases es with
    | nil => exact h.elim
    | cons e es =>
      cases es with
      | nil => exact h.2.elim
      | cons e2 es =>
        rw [List.all_cons, Bool.and_eq_true] at ht
        exact w_andC (h.1.1.dt m ht.1) (PP.wand (es := e2 :: es) h.2 (by simp) ht.2)
theorem PP.wor {m : Nat} : ∀ {xs : List Ex} {es : List Expr} {pos : Pos}, PP X T E xs es → xs ≠ [] → es.all (tstOk m) = true → WOr X T E xs (.BoolOp .Or es pos)
  | [], _, _, _, h, _ => absurd rfl h
  | [x], es, pos, h, _, ht => by
    cases es with
    | nil => exact h.elim
    | cons e es =>
      simp only [List.all_cons, Bool.and_eq_true] at ht
      cases es with | nil => exact w_or1 (h.1.1.dt m ht.1) | cons => exact h.2.elim
  | x :: y :: xs, es, pos, h, _, ht => by
    cases es with
    | nil => exact h.elim
    | cons e es =>
      cases es with
      | nil => exact h.2.elim
      | cons e2 es =>
        rw [List.all_cons, Bool.and_eq_true] at ht
        exact w_orC (h.1.1.dt m ht.1) (PP.wor (es := e2 :: es) h.2 (by simp) ht.2)
theorem PP.dos {xs : List Ex} {l : Option Expr} (h : PP X T E xs l.toList) : DO X T E xs l := by
  cases l with
  | none =>
    cases xs with
    | nil => exact do_none
    | cons => exact h.elim
  | some e =>
    cases xs with
    | nil => exact h.elim
    | cons x xs =>
      cases xs with
      | nil => exact do_some h.1.1.de
      | cons => exact h.2.elim
theorem PP.ifs {m : Nat} {xs : List Ex} {es : List Expr} (h : PP X T E xs es) (h1 : es.length ≤ 1) (ht : es.all (tstOk m) = true) : DIfs X T E xs es := by
  cases es with
  | nil =>
    cases xs with
    | nil => exact difs_nil
    | cons => exact h.elim
  | cons e es =>
    cases es with
    | cons => simp at h1
    | nil =>
      cases xs with
      | nil => exact h.elim
      | cons x xs =>
        cases xs with
        | nil => simp only [List.all_cons, Bool.and_eq_true] at ht; exact difs_one (h.1.1.dt m ht.1)
        | cons => exact h.2.elim
theorem PP.rg {xs : List Ex} {es : List Expr} {p pos : Pos} (I : In c X T n sc fnb) (h : PP X T E xs es) (hl : es.length = 1 ∨ es.length = 2) (hg : glB sc "range" = true) : DR X T E xs (.Call (.Name "range" p) es [] pos) := by
  have hg := gl_of I hg
  have hm := I.blt "range" (by decide)
  cases es with
  | nil => simp at hl
  | cons e es =>
    cases xs with
    | nil => exact h.elim
    | cons x xs =>
      cases es with
      | nil =>
        cases xs with
        | cons => exact h.2.elim
        | nil => exact dr_1 h.1.2.1 hg hm h.1.1.de (star_plain h.1.2.2)
      | cons e2 es =>
        cases es with
        | cons => simp at hl
        | nil =>
          cases xs with
          | nil => exact h.2.elim
          | cons y xs =>
            cases xs with
            | cons => exact h.2.2.elim
            | nil => exact dr_2 h.1.2.1 h.2.1.2.1 hg hm h.1.1.de h.2.1.1.de (star_plain h.1.2.2) (star_plain h.2.1.2.2) (plainL (by simp [h.2.1.2.2]))
/-- the source of a loop -/
theorem PP.src {w : Wk} {xs : List Ex} {l : List Expr} {tg iter : Expr} (I : In c X T n sc fnb) (hs : srcArgs w tg iter = some l) (hg : srcGl w sc = true) (h : PP X T E xs l) : DI X T E w xs tg iter := by
  cases w with
  | seq =>
    cases hs
    cases xs with
    | nil => exact h.elim
    | cons x xs => cases xs with | nil => exact di_seq h.1.2.1 h.1.1.de | cons => exact h.2.elim
  | range =>
    have hg := gl_of I (show glB sc "range" = true from hg)
    have hm := I.blt "range" (by decide)
    simp only [srcArgs] at hs
    split at hs
    · split at hs
      · rename_i hx
        subst hx
        cases hs
        cases xs with
        | nil => exact h.elim
        | cons x xs =>
          cases xs with
          | nil => exact di_range1 h.1.2.1 hg hm h.da (star_plain h.1.2.2)
          | cons => exact h.2.elim
      · cases hs
    · split at hs
      · rename_i hx
        subst hx
        cases hs
        cases xs with
        | nil => exact h.elim
        | cons x xs =>
          cases xs with
          | nil => exact h.2.elim
          | cons y xs =>
            cases xs with
            | nil => exact di_range2 h.1.2.1 h.2.1.2.1 hg hm h.da ((star_plain h.1.2.2).trans (by rw [star_plain h.2.1.2.2]; rfl)) (star_plain h.2.1.2.2)
            | cons => exact h.2.2.elim
      · cases hs
    · cases hs
  | enum =>
    have hg := gl_of I (show glB sc "enumerate" = true from hg)
    have hm := I.blt "enumerate" (by decide)
    simp only [srcArgs] at hs
    split at hs
    · split at hs
      · rename_i hx
        subst hx
        cases hs
        cases xs with
        | nil => exact h.elim
        | cons x xs =>
          cases xs with
          | nil => exact di_enum h.1.2.1 hg hm h.da (star_plain h.1.2.2)
          | cons => exact h.2.elim
      · cases hs
    · cases hs
  | zip =>
    have hg := gl_of I (show glB sc "zip" = true from hg)
    have hm := I.blt "zip" (by decide)
    simp only [srcArgs] at hs
    split at hs
    · split at hs
      · rename_i hx
        subst hx
        cases hs
        cases xs with
        | nil => exact h.elim
        | cons x xs =>
          cases xs with
          | nil => exact h.2.elim
          | cons y xs =>
            cases xs with
            | nil => exact di_zip h.1.2.1 h.2.1.2.1 hg hm h.da (star_plain h.1.2.2) (plainL (by simp [h.2.1.2.2]))
            | cons => exact h.2.2.elim
      · cases hs
    · cases hs
/-- targets -/
theorem nmT_of (I : In c X T n sc fnb) {i : Nat} {e : Expr} (h : nmT c sc fnb i e = true) : PG X e (gName i) ∧ ∃ x p, e = .Name x p := by
  unfold nmT at h
  split at h
  · rename_i x p
    simp only [Bool.and_eq_true, Bool.or_eq_true, decide_eq_true_eq] at h
    refine ⟨pg_name I.nd (by rw [I.nm]; exact h.1.1) (loc_of I h.1.2) ?_, x, p, rfl⟩
    rcases h.2 with z | z
    · exact .inl (I.fn x z)
    · rw [I.sc]
      split at z
      · rename_i e; exact .inr e
      · cases z
  · cases h
theorem nmTs_of (I : In c X T n sc fnb) : ∀ {is : List Nat} {es : List Expr}, nmTs c sc fnb is es = true → PGs X es (gNames is) ∧ (assignEach es X.env).length = is.length ∧ (assignEach es X.env).findIdx? (·.1) = none
  | [], es, h => by
    cases es with
    | nil => exact ⟨pgs_nil, rfl, rfl⟩
    | cons => cases h
  | i :: is, es, h => by
    cases es with
    | nil => cases h
    | cons e es =>
      simp only [nmTs, Bool.and_eq_true] at h
      obtain ⟨h1, x, p, rfl⟩ := nmT_of I h.1
      obtain ⟨h2, h3, h4⟩ := nmTs_of I h.2
      refine ⟨pgs_cons h1 h2, by simp [assignEach, h3], ?_⟩
      show List.findIdx? (·.1) ((false, assign (.Name x p) X.env) :: assignEach es X.env) = none
      rw [List.findIdx?_cons]
      simp [h4]
theorem ct_of (I : In c X T n sc fnb) {t : CT} {e : Expr} (h : okCT c sc fnb t e = true) : PG X e (gCT X.K t) := by
  cases t with
  | one i => exact (nmT_of I h).1
  | many is =>
    cases e <;> first | (cases h; done) | skip
    obtain ⟨h1, h2, h3⟩ := nmTs_of I h
    exact pg_tup I.calm h1 h2 h3
end
end Ev


set_option Elab.async false
set_option linter.all false
set_option maxRecDepth 100000
set_option maxHeartbeats 1000000
/-! EvZ: the check is sound: expressions. -/
namespace Ev
open PySem PySem.Spec PyProof.Rows L2
section
variable {c : Ck} {T : Tab} {n : Nat}
theorem notStar {sc : Scope} {fnb : Str → Bool} {x : Ex} {e : Expr} (h : okE c sc fnb x e = true) : x.isStar = false := by
  cases x <;> first | rfl | (unfold okE at h; cases h)
/-- an expression whose test is by its value -/
theorem PX.val {X : Cx} {E : En} {x : Ex} {e : Expr} (h : DE X T E x e) (hf : fresh x = false) (he : ∀ whole, isTrue e X.env whole = (do let v ← whole; standAt e.pos; holding [v] (truthy v))) : PX X T E x e :=
  ⟨h, (fun q => by rw [hf] at q; cases q), fun m _ => dt_val h he⟩
theorem PX.new {X : Cx} {E : En} {x : Ex} {e : Expr} (h : DN X T E x e) (he : ∀ whole, isTrue e X.env whole = (do let v ← whole; standAt e.pos; holding [v] (truthy v))) : PX X T E x e :=
  ⟨h.de, fun _ => h, fun m _ => dt_val h.de he⟩
theorem dps_of {X : Cx} {E : En} {pos : Pos} : ∀ {keys : List (Option Expr)} {vals l : List Expr} {xs : List Ex}, flat2 keys vals = some l → PP X T E xs l → DPs X T E pos xs keys vals
  | [], vals, l, xs, h, p => by
    cases vals with
    | cons => cases h
    | nil =>
      cases h
      cases xs with
      | nil => exact dps_nil
      | cons => exact p.elim
  | none :: ks, vals, l, xs, h, p => by cases vals <;> cases h
  | some k :: ks, [], l, xs, h, p => by cases h
  | some k :: ks, v :: vs, l, xs, h, p => by
    unfold flat2 at h
    cases e : flat2 ks vs with
    | none => rw [e] at h; cases h
    | some l' =>
      rw [e] at h
      cases h
      cases xs with
      | nil => exact p.elim
      | cons x xs =>
        cases xs with
        | nil => exact p.2.elim
        | cons y xs => exact dps_cons p.1.2.1 p.2.1.2.1 p.1.1.de p.2.1.1.de (dps_of e p.2.2)
theorem own_map (c : Ck) (own : List Nat) : (ownN c own).map (·.2) = own := by
  unfold ownN
  rw [List.map_map]
  exact List.map_id _
def bltC (c : Ck) (sc : Scope) (fnb : Str → Bool) (b : Blt) (xs : List Ex) (e : Expr) : Bool := match e with | .Call (.Name x _) (a :: es) [] _ => decide (x = bltN b) && glB sc x && okEs c sc fnb xs (a :: es) | _ => false
mutual
theorem soundE : ∀ (x : Ex) (e : Expr) (X : Cx) (sc : Scope) (fnb : Str → Bool), In c X T n sc fnb → okE c sc fnb x e = true → PX X T (envN T n) x e
  | .var i, e, X, sc, fnb, I, h => by
    unfold okE at h
    cases e <;> first | (cases h; done) | skip
    simp only [Bool.and_eq_true, decide_eq_true_eq] at h
    obtain ⟨h1, h2, _⟩ := nm_of h.2
    exact PX.val (de_var (by rw [I.nm]; exact h.1.1) (vis_of I h.1.2) h1 h2) rfl fun _ => rfl
  | .glob k, e, X, sc, fnb, I, h => by
    unfold okE at h
    cases e <;> first | (cases h; done) | skip
    simp only [Bool.and_eq_true, decide_eq_true_eq] at h
    obtain ⟨h1, h2, _⟩ := nm_of h.2
    cases ed : T.G[k]? with
    | none =>
      refine PX.val ⟨fun pins s σ H Q J ⟨φ, st, κ, G, d, st', F, O, e, kq⟩ => ?_⟩ rfl fun _ => rfl
      unfold evE at e
      rw [show (envN T n).G[k]? = none from ed] at e
      cases e
    | some d =>
      obtain ⟨v, u, g1, g2, g3⟩ := I.glob k _ d (by rw [← I.gn]; exact h.1.1) ed
      exact PX.val (de_glob (gl_of I h.1.2) g1 g2 h1 ed g3) rfl fun _ => rfl
  | .bty nm, e, X, sc, fnb, I, h => by
    unfold okE at h
    cases e <;> first | (cases h; done) | skip
    simp only [Bool.and_eq_true, decide_eq_true_eq] at h
    obtain ⟨⟨⟨hx, ht⟩, hg⟩, hn⟩ := h
    subst hx
    obtain ⟨h1, _, h3⟩ := nm_of hn
    obtain ⟨b1, b2⟩ := boot_tys nm (List.contains_iff_mem.mp ht)
    exact PX.val (de_bty (gl_of I hg) (I.blt _ b2) b1 h3 h1) rfl fun _ => rfl
  | .non, e, X, sc, fnb, I, h => by
    unfold okE at h
    cases e <;> first | (cases h; done) | skip
    rename_i v _ _
    cases v <;> first | (cases h; done) | skip
    exact PX.val de_non rfl fun _ => rfl
  | .bl b, e, X, sc, fnb, I, h => by
    unfold okE at h
    cases e <;> first | (cases h; done) | skip
    rename_i v _ _
    cases v <;> first | (cases h; done) | skip
    simp only [decide_eq_true_eq] at h
    subst h
    exact PX.val de_bl rfl fun _ => rfl
  | .int b, e, X, sc, fnb, I, h => by
    unfold okE at h
    cases e <;> first | (cases h; done) | skip
    rename_i v _ _
    cases v <;> first | (cases h; done) | skip
    simp only [decide_eq_true_eq] at h
    subst h
    exact PX.val de_int rfl fun _ => rfl
  | .str b, e, X, sc, fnb, I, h => by
    unfold okE at h
    cases e <;> first | (cases h; done) | skip
    rename_i v _ _
    cases v <;> first | (cases h; done) | skip
    simp only [decide_eq_true_eq] at h
    subst h
    exact PX.val de_str rfl fun _ => rfl
  | .tup xs, e, X, sc, fnb, I, h => by
    unfold okE at h
    cases e <;> first | (cases h; done) | skip
    exact PX.val (de_tup (soundEsS xs _ X sc fnb I h)) rfl fun _ => rfl
  | .lst xs, e, X, sc, fnb, I, h => by
    unfold okE at h
    cases e <;> first | (cases h; done) | skip
    exact PX.new (dn_lst (soundEs xs _ X sc fnb I h).da) fun _ => rfl
  | .star _, e, X, sc, fnb, I, h => by unfold okE at h; cases h
  | .neg x, e, X, sc, fnb, I, h => by
    unfold okE at h
    split at h
    · exact PX.val (de_neg (soundE x _ X sc fnb I h).de) rfl fun _ => rfl
    · cases h
  | .bin o x y, e, X, sc, fnb, I, h => by
    unfold okE at h
    split at h
    · simp only [Bool.and_eq_true, decide_eq_true_eq] at h
      obtain ⟨⟨rfl, h1⟩, h2⟩ := h
      exact PX.val (de_bin (soundE x _ X sc fnb I h1).de (soundE y _ X sc fnb I h2).de) rfl fun _ => rfl
    · cases h
  | .cmp o x y, e, X, sc, fnb, I, h => by
    unfold okE at h
    split at h
    · simp only [Bool.and_eq_true, decide_eq_true_eq] at h
      obtain ⟨⟨⟨rfl, h0⟩, h1⟩, h2⟩ := h
      have a := (soundE x _ X sc fnb I h1).de
      have b := (soundE y _ X sc fnb I h2).de
      exact ⟨de_cmp I.u a b (marks_of h0), (fun q => by cases q), fun m _ => dt_cmp I.u a b (marks_of h0)⟩
    · cases h
  | .chain o o' x y z, e, X, sc, fnb, I, h => by
    unfold okE at h
    split at h
    · simp only [Bool.and_eq_true, decide_eq_true_eq] at h
      obtain ⟨⟨⟨⟨⟨rfl, rfl⟩, h0⟩, h1⟩, h2⟩, h3⟩ := h
      have a := (soundE x _ X sc fnb I h1).de
      have b := (soundE y _ X sc fnb I h2).de
      have d := (soundE z _ X sc fnb I h3).de
      exact ⟨de_chain I.u a b d (marks_of h0), (fun q => by cases q), fun m _ => dt_chain I.u a b d (marks_of h0)⟩
    · cases h
  | .and xs, e, X, sc, fnb, I, h => by
    unfold okE at h
    split at h
    · simp only [Bool.and_eq_true, Bool.not_eq_true'] at h
      have p := soundEs xs _ X sc fnb I h.1
      have ne : xs ≠ [] := fun q => by rw [q] at h; simp at h
      refine ⟨de_and (p.and ne), (fun q => by cases q), fun m hm => ?_⟩
      cases m with
      | zero => cases hm
      | succ m => exact dt_and (p.wand ne hm)
    · cases h
  | .or xs, e, X, sc, fnb, I, h => by
    unfold okE at h
    split at h
    · simp only [Bool.and_eq_true, Bool.not_eq_true'] at h
      have p := soundEs xs _ X sc fnb I h.1
      have ne : xs ≠ [] := fun q => by rw [q] at h; simp at h
      refine ⟨de_or (p.or ne), (fun q => by cases q), fun m hm => ?_⟩
      cases m with
      | zero => cases hm
      | succ m => exact dt_or (p.wor ne hm)
    · cases h
  | .not x, e, X, sc, fnb, I, h => by
    unfold okE at h
    split at h
    · have p := soundE x _ X sc fnb I h
      refine ⟨de_not p.de, (fun q => by cases q), fun m hm => ?_⟩
      cases m with
      | zero => cases hm
      | succ m => exact dt_not (p.dt m hm)
    · cases h
  | .ife t x y, e, X, sc, fnb, I, h => by
    unfold okE at h
    split at h
    · simp only [Bool.and_eq_true] at h
      obtain ⟨⟨⟨h0, h1⟩, h2⟩, h3⟩ := h
      refine ⟨de_ife ((soundE t _ X sc fnb I h1).dt 9 h0) (soundE x _ X sc fnb I h2).de (soundE y _ X sc fnb I h3).de, (fun q => by cases q), fun m hm => ?_⟩
      cases m <;> cases hm
    · cases h
  | .ix x y, e, X, sc, fnb, I, h => by
    unfold okE at h
    split at h
    · simp only [Bool.and_eq_true] at h
      obtain ⟨⟨h0, h1⟩, h2⟩ := h
      exact PX.val (de_ix I.u1 (soundE x _ X sc fnb I h1).de (soundE y _ X sc fnb I h2).de (plainIx_of h0)) rfl fun _ => rfl
    · cases h
  | .sl x lo hi, e, X, sc, fnb, I, h => by
    unfold okE at h
    split at h
    · simp only [Bool.and_eq_true] at h
      obtain ⟨⟨h1, h2⟩, h3⟩ := h
      exact PX.val (de_sl (soundE x _ X sc fnb I h1).de (soundEs lo _ X sc fnb I h2).dos (soundEs hi _ X sc fnb I h3).dos) rfl fun _ => rfl
    · cases h
  | .rev x, e, X, sc, fnb, I, h => by
    unfold okE at h
    split at h
    · exact PX.val (de_rev (soundE x _ X sc fnb I h).de) rfl fun _ => rfl
    · cases h
  | .slk x y k, e, X, sc, fnb, I, h => by
    unfold okE at h
    split at h
    · simp only [Bool.and_eq_true, decide_eq_true_eq] at h
      obtain ⟨⟨rfl, h1⟩, h2⟩ := h
      exact PX.val (de_slk (soundE x _ X sc fnb I h1).de (soundE y _ X sc fnb I h2).de) rfl fun _ => rfl
    · cases h
  | .call k xs, e, X, sc, fnb, I, h => by
    unfold okE at h
    split at h
    · rename_i x0 p0 es pos0
      simp only [Bool.and_eq_true, decide_eq_true_eq] at h
      obtain ⟨⟨⟨⟨h0, h1⟩, h2⟩, h3⟩, h4⟩ := h
      obtain ⟨f, hf⟩ := I.df k h1
      have p := soundEs xs _ X sc fnb I h4
      obtain ⟨n1, _, _⟩ := nm_of h3
      have hm := I.defs k _ f (by rw [← I.gn]; exact h0) hf
      cases es with
      | nil =>
        cases xs with
        | nil => exact PX.val (de_call0 I.fns hf I.room (gl_of I h2) hm n1) rfl fun _ => rfl
        | cons => exact p.elim
      | cons a es =>
        have pl := p.plain
        rw [List.all_cons, Bool.and_eq_true] at pl
        exact PX.val (de_call I.fns hf I.room (gl_of I h2) hm p.da n1 (star_plain pl.1) (plainL pl.2)) rfl fun _ => rfl
    · cases h
  | .callv i xs, e, X, sc, fnb, I, h => by
    unfold okE at h
    split at h
    · simp only [Bool.and_eq_true, decide_eq_true_eq] at h
      obtain ⟨⟨⟨h0, h2⟩, h3⟩, h4⟩ := h
      have p := soundEs xs _ X sc fnb I h4
      obtain ⟨n1, n2, _⟩ := nm_of h3
      have pl := p.plain
      rw [List.all_cons, Bool.and_eq_true] at pl
      exact PX.val (de_callv I.fns I.room (by rw [I.nm]; exact h0) (vis_of I h2) p.da n1 n2 (star_plain pl.1) (plainL pl.2)) rfl fun _ => rfl
    · cases h
  | .blt b xs, e, X, sc, fnb, I, h => by
    unfold okE at h
    by_cases hls : b = .lenset
    · subst hls
      simp only at h
      split at h
      · simp only [Bool.and_eq_true, decide_eq_true_eq] at h
        obtain ⟨⟨⟨⟨rfl, rfl⟩, h2⟩, h3⟩, h4⟩ := h
        have p := soundEs xs _ X sc fnb I h4
        cases xs with
        | nil => exact p.elim
        | cons x xs =>
          cases xs with
          | cons => exact p.2.elim
          | nil =>
            refine PX.val (de_lenset I.calm (by have := I.u70; omega) (fun φ st => ?_) (gl_of I h2) (I.blt _ (by decide)) (gl_of I h3) (I.blt _ (by decide)) p.1.1.de (star_plain p.1.2.2)) rfl fun _ => rfl
            rw [evEs_cons p.1.2.1]
            rfl
      · cases h
    · have h : bltC c sc fnb b xs e = true := by cases b <;> first | exact absurd rfl hls | exact h
      unfold bltC at h
      split at h
      · simp only [Bool.and_eq_true, decide_eq_true_eq] at h
        obtain ⟨⟨rfl, h2⟩, h4⟩ := h
        have p := soundEs xs _ X sc fnb I h4
        have pl := p.plain
        rw [List.all_cons, Bool.and_eq_true] at pl
        obtain ⟨n1, n2⟩ := blt_nm b
        by_cases hb : b = .gcd
        · subst hb
          exact PX.val (de_bltF I.calm I.u70 (b := .gcd) hls rfl (gl_of I h2) I.gcd p.da n2 (star_plain pl.1) (plainL pl.2)) rfl fun _ => rfl
        · obtain ⟨b1, b2⟩ := boot_blt b hb
          have hm := I.blt _ b2
          have key : (∃ id, bltV b = .builtin id) ∨ ∃ id, bltV b = .type id := by cases b <;> first | exact .inl ⟨_, rfl⟩ | exact .inr ⟨_, rfl⟩
          rcases key with ⟨id, hid⟩ | ⟨id, hid⟩
          · exact PX.val (de_bltB I.calm I.u70 hls hid (gl_of I h2) hm (by rw [← hid]; exact b1) p.da n1 n2 (star_plain pl.1) (plainL pl.2)) rfl fun _ => rfl
          · exact PX.val (de_bltT I.calm I.u70 hls hid (gl_of I h2) hm (by rw [← hid]; exact b1) p.da n1 n2 (star_plain pl.1) (plainL pl.2)) rfl fun _ => rfl
      · cases h
  | .listRg xs, e, X, sc, fnb, I, h => by
    unfold okE at h
    split at h
    · simp only [Bool.and_eq_true, decide_eq_true_eq] at h
      obtain ⟨⟨⟨⟨⟨rfl, rfl⟩, h2⟩, h3⟩, h4⟩, h5⟩ := h
      exact PX.new (dn_listRg I.calm (gl_of I h2) (I.blt _ (by decide)) ((soundEs xs _ X sc fnb I h5).rg I h4 h3) rfl) fun _ => rfl
    · cases h
  | .tupRg xs, e, X, sc, fnb, I, h => by
    unfold okE at h
    split at h
    · simp only [Bool.and_eq_true, decide_eq_true_eq] at h
      obtain ⟨⟨⟨⟨⟨rfl, rfl⟩, h2⟩, h3⟩, h4⟩, h5⟩ := h
      exact PX.val (de_tupRg I.calm (gl_of I h2) (I.blt _ (by decide)) ((soundEs xs _ X sc fnb I h5).rg I h4 h3) rfl) rfl fun _ => rfl
    · cases h
  | .mt m o xs, e, X, sc, fnb, I, h => by
    unfold okE at h
    split at h
    · simp only [Bool.and_eq_true, decide_eq_true_eq] at h
      obtain ⟨⟨⟨⟨⟨rfl, h1⟩, h2⟩, h3⟩, h4⟩, h5⟩ := h
      have p := soundEs xs _ X sc fnb I h5
      have pl := p.plain
      have pl2 := pl
      rw [List.all_cons, Bool.and_eq_true] at pl2
      refine PX.val (de_mt I.u (soundE o _ X sc fnb I h4).de p.da (base_of h1) ?_ h2 (star_plain pl2.1) (plainL pl2.2)) rfl fun _ => rfl
      rw [plainAll pl]
      simp only [keywordEach, backToKw, List.map_nil, List.all_nil, Bool.true_and, decide_eq_true_eq, List.length_cons, List.length_nil, List.isEmpty_nil, if_true]
      omega
    · cases h
  | .dnewK, e, X, sc, fnb, I, h => by
    unfold okE at h
    split at h
    · exact PX.new dn_dnewK fun _ => rfl
    · cases h
  | .dnewT, e, X, sc, fnb, I, h => by unfold okE at h; cases h
  | .dspK xs, e, X, sc, fnb, I, h => by
    unfold okE at h
    split at h
    · rename_i keys vals pos
      simp only [Bool.and_eq_true, decide_eq_true_eq, Bool.not_eq_true'] at h
      obtain ⟨⟨⟨⟨⟨h1, h2⟩, h3⟩, h4⟩, h5⟩, h6⟩ := h
      cases ef : flat2 keys vals with
      | none => rw [ef] at h1; cases h1
      | some l =>
        rw [ef] at h1
        have p := soundEs xs l X sc fnb I h1
        exact PX.new (dn_dspK (dps_of ef p) h6 h5 (fun q => by rw [q] at h3; simp at h3) h2 h4 p.stars) fun _ => rfl
    · cases h
  | .comp own t w src ifs x, e, X, sc, fnb, I, h => by
    unfold okE at h
    split at h
    · rename_i elt tg iter is a scope pos
      simp only [Bool.and_eq_true, decide_eq_true_eq] at h
      obtain ⟨⟨⟨⟨⟨⟨⟨⟨⟨⟨⟨rfl, h1⟩, h2⟩, h3⟩, h4⟩, h5⟩, h6⟩, h7⟩, h8⟩, h9⟩, h10⟩, h11⟩ := h
      cases es : srcArgs w tg iter with
      | none => rw [es] at h5; cases h5
      | some l =>
        rw [es] at h5
        have p := soundEs src l X sc fnb I h5
        have := dn_comp (own := ownN c own) (t := t) (w := w) (src := src) (ifs := ifs) (x := x) (elt := elt) (tg := tg) (iter := iter) (is := is) (scope := scope) (pos := pos) I.calm I.nd h1 (fun i hi => by rw [own_map]; exact List.contains_iff_mem.mp (List.all_eq_true.mp h2 i hi)) (p.src I es h3) (by rw [I.nm, I.sc]; exact blkOk_by h6)
          (fun s H C cl fp => ct_of (I.blk s H scope C cl fp) h7) (fun s H C cl fp => (soundEs ifs is _ _ _ (I.blk s H scope C cl fp) h10).ifs h8 h9) (fun s H C cl fp => (soundE x elt _ _ _ (I.blk s H scope C cl fp) h11).de) (folded_of h4)
        rw [own_map] at this
        exact PX.new this fun _ => rfl
    · cases h
  | .dcomp own t w src ifs k v, e, X, sc, fnb, I, h => by
    unfold okE at h
    split at h
    · rename_i kx vx tg iter is a scope pos
      simp only [Bool.and_eq_true, decide_eq_true_eq] at h
      obtain ⟨⟨⟨⟨⟨⟨⟨⟨⟨⟨⟨⟨rfl, h1⟩, h2⟩, h3⟩, h4⟩, h5⟩, h6⟩, h7⟩, h8⟩, h9⟩, h10⟩, h11⟩, h12⟩ := h
      cases es : srcArgs w tg iter with
      | none => rw [es] at h5; cases h5
      | some l =>
        rw [es] at h5
        have p := soundEs src l X sc fnb I h5
        have := dn_dcomp (own := ownN c own) (t := t) (w := w) (src := src) (ifs := ifs) (x := k) (y := v) (kx := kx) (vx := vx) (tg := tg) (iter := iter) (is := is) (scope := scope) (pos := pos) I.calm I.nd h1 (fun i hi => by rw [own_map]; exact List.contains_iff_mem.mp (List.all_eq_true.mp h2 i hi)) (p.src I es h3) (by rw [I.nm, I.sc]; exact blkOk_by h6)
          (fun s H C cl fp => ct_of (I.blk s H scope C cl fp) h7) (fun s H C cl fp => (soundEs ifs is _ _ _ (I.blk s H scope C cl fp) h10).ifs h8 h9) (fun s H C cl fp => (soundE k kx _ _ _ (I.blk s H scope C cl fp) h11).de) (fun s H C cl fp => (soundE v vx _ _ _ (I.blk s H scope C cl fp) h12).de) (folded_of h4)
        rw [own_map] at this
        exact PX.new this fun _ => rfl
    · cases h
  | .comp2 own t w src t2 w2 src2 x, e, X, sc, fnb, I, h => by
    unfold okE at h
    split at h
    · rename_i elt tg iter a tg1 iter1 a1 scope pos
      simp only [Bool.and_eq_true, decide_eq_true_eq] at h
      obtain ⟨⟨⟨⟨⟨⟨⟨⟨⟨⟨⟨⟨⟨⟨⟨rfl, rfl⟩, h1⟩, h1b⟩, h2⟩, h2b⟩, h3⟩, h3b⟩, h4⟩, h4b⟩, h5⟩, h6⟩, h7⟩, h7b⟩, h8⟩, h11⟩ := h
      cases es : srcArgs w tg iter with
      | none => rw [es] at h5; cases h5
      | some l =>
        rw [es] at h5
        cases es1 : srcArgs w2 tg1 iter1 with
        | none => rw [es1] at h8; cases h8
        | some l1 =>
          rw [es1] at h8
          have p := soundEs src l X sc fnb I h5
          have := dn_comp2 (own := ownN c own) (t := t) (t2 := t2) (w := w) (w2 := w2) (src := src) (src2 := src2) (x := x) (elt := elt) (tg := tg) (iter := iter) (tg1 := tg1) (iter1 := iter1) (scope := scope) (pos := pos) I.calm I.nd h1 h1b (fun i hi => by rw [own_map]; exact List.contains_iff_mem.mp (List.all_eq_true.mp h2 i hi)) (fun i hi => by rw [own_map]; exact List.contains_iff_mem.mp (List.all_eq_true.mp h2b i hi)) (p.src I es h3) (by rw [I.nm, I.sc]; exact blkOk_by h6)
            (fun s H C cl fp => ct_of (I.blk s H scope C cl fp) h7) (fun s H C cl fp => (soundEs src2 l1 _ _ _ (I.blk s H scope C cl fp) h8).src (I.blk s H scope C cl fp) es1 h3b) (fun s H C cl fp => ct_of (I.blk s H scope C cl fp) h7b) (fun s H C cl fp => (soundE x elt _ _ _ (I.blk s H scope C cl fp) h11).de) (folded_of h4) (fun env => folded_of h4b)
          rw [own_map] at this
          exact PX.new this fun _ => rfl
    · cases h
  | .mk x, e, X, sc, fnb, I, h => by
    unfold okE at h
    simp only [Bool.and_eq_true] at h
    have p := soundE x e X sc fnb I h.2
    refine ⟨(p.dn h.1).mk h.1, (fun q => by cases q), fun m hm => ?_⟩
    refine ⟨fun pins s σ H Q J ⟨φ, st, κ, G, d, st', F, O, e, kq⟩ => ?_⟩
    unfold evE at e
    rw [if_pos h.1] at e
    split at e <;> cases e
theorem soundEsS : ∀ (xs : List Ex) (es : List Expr) (X : Cx) (sc : Scope) (fnb : Str → Bool), In c X T n sc fnb → okEsS c sc fnb xs es = true → DA X T (envN T n) xs es
  | [], es, X, sc, fnb, I, h => by
    cases es with
    | nil => exact da_nil
    | cons => unfold okEsS at h; cases h
  | x :: xs, es, X, sc, fnb, I, h => by
    cases es with
    | nil => unfold okEsS at h; cases h
    | cons e es =>
      unfold okEsS at h
      simp only [Bool.and_eq_true] at h
      obtain ⟨h1, h2⟩ := h
      have r := soundEsS xs es X sc fnb I h2
      split at h1
      · rename_i y
        split at h1
        · exact da_star (soundE y _ X sc fnb I h1).de r
        · cases h1
      · simp only [Bool.and_eq_true] at h1
        exact da_cons (notStar h1.2) (soundE x e X sc fnb I h1.2).de r (star_plain h1.1)
theorem soundEs : ∀ (xs : List Ex) (es : List Expr) (X : Cx) (sc : Scope) (fnb : Str → Bool), In c X T n sc fnb → okEs c sc fnb xs es = true → PP X T (envN T n) xs es
  | [], es, X, sc, fnb, I, h => by
    cases es with
    | nil => trivial
    | cons => unfold okEs at h; cases h
  | x :: xs, es, X, sc, fnb, I, h => by
    cases es with
    | nil => unfold okEs at h; cases h
    | cons e es =>
      unfold okEs at h
      simp only [Bool.and_eq_true] at h
      exact ⟨⟨soundE x e X sc fnb I h.1.2, notStar h.1.2, h.1.1⟩, soundEs xs es X sc fnb I h.2⟩
end
end
end Ev


set_option Elab.async false
set_option linter.all false
set_option maxRecDepth 100000
set_option maxHeartbeats 1000000
/-! EvU: the check of statements, of defs; its soundness. -/
namespace Ev
open PySem PySem.Spec PyProof.Rows L2
def isLoc (sc : Scope) (x : Str) : Bool := sc.names.lookup x == some .local
/-- swapsWith's answer in a def -/
def swB (sc : Scope) (e tg : Expr) : Bool := match e, tg with
  | .ListComp _ _ s p, .Name t pos => isLoc sc t && pos.line == p.line && !(s.names.any fun (n, k) => n == t && (k == .local || k == .cell))
  | .SetComp _ _ s p, .Name t pos => isLoc sc t && pos.line == p.line && !(s.names.any fun (n, k) => n == t && (k == .local || k == .cell))
  | .DictComp _ _ _ s p, .Name t pos => isLoc sc t && pos.line == p.line && !(s.names.any fun (n, k) => n == t && (k == .local || k == .cell))
  | _, _ => false
/-- no swapped stores: some target is no plain local -/
def ssB (sc : Scope) (tg e : Expr) : Bool := !(isTup e && (isTup tg || isLst tg)) || (match tg with | .Tuple ts _ _ => ts.any (fun | .Name x _ => !isLoc sc x | _ => true) | _ => false)
section
variable (c : Ck) (sc : Scope) (fnb : Str → Bool)
mutual
def okTg : Tg → Expr → Bool
  | .nm i, e => nmT c sc fnb i e
  | .tup ts, e => (match e with | .Tuple es _ _ => okTgs ts es | _ => false)
  | .sub o i, e => (match e with | .Subscript a b _ => noSlice b && okE c sc fnb o a && okE c sc fnb i b | _ => false)
def okTgs : List Tg → List Expr → Bool
  | [], es => (match es with | [] => true | _ :: _ => false)
  | t :: ts, es => (match es with | [] => false | e :: es => starless e && okTg t e && okTgs ts es)
end
def okPar (is : List Nat) (xs : List Ex) (ts vs : List Expr) : Bool := match is, ts, vs with
  | [i, j], [.Name x px, .Name y py], [a, b] => decide (c.N[i]? = some x) && decide (c.N[j]? = some y) && decide (i ≠ j) && decide (x ≠ y) && isLoc sc x && isLoc sc y && (py.line == px.line) && starless a && starless b && !([a, b].all (foldedForSure 8)) && !([a, b].all (constantsAlone 8)) && okEs c sc fnb xs [a, b]
  | [i, j, l], [.Name x px, .Name y py, .Name z pz], [a, b, d] => decide (c.N[i]? = some x) && decide (c.N[j]? = some y) && decide (c.N[l]? = some z) && decide (i ≠ j) && decide (i ≠ l) && decide (j ≠ l) && decide (x ≠ y) && decide (x ≠ z) && decide (y ≠ z) && isLoc sc x && isLoc sc y && isLoc sc z && (py.line == px.line) && (pz.line == px.line) &&
      starless a && starless b && starless d && !([a, b, d].all (foldedForSure 8)) && !([a, b, d].all (constantsAlone 8)) && okEs c sc fnb xs [a, b, d]
  | _, _, _ => false
mutual
def okS : St → Stmt → Bool
  | .asg t x, s => (match s with | .Assign [tg] e pos => okE c sc fnb x e && okTg c sc fnb t tg && (if swB sc e tg then (match t, tg, e with | .nm i, .Name y py, .ListComp _ [_] _ _ => (match x with | .comp .. => true | .mk (.comp ..) => true | _ => false) | _, _, _ => false) else ssB sc tg e) | _ => false)
  | .par is xs, s => (match s with | .Assign [.Tuple ts _ _] (.Tuple vs _ _) _ => okPar c sc fnb is xs ts vs | _ => false)
  | .ex x, s => (match s with | .Expr e _ => noComp e && okE c sc fnb x e | _ => false)
  | .ret x, s => (match s with | .Return (some e) _ => okE c sc fnb x e | _ => false)
  | .retC x, s => (match s with | .Return (some e) _ => okE c sc fnb x e | _ => false)
  | .ife x a b, s => (match s with | .If e p q _ => tstOk 9 e && okE c sc fnb x e && okSs a p && okSs b q | _ => false)
  | .whl x b, s => (match s with | .While e p [] _ => tstOk 9 e && okE c sc fnb x e && okSs b p | _ => false)
  | .for_ t w src b, s => (match s with | .For tg iter p [] _ => ctOk w t && srcGl w sc && noSet iter && (match srcArgs w tg iter with | some l => okEs c sc fnb src l | none => false) && okCT c sc fnb t tg && okSs b p | _ => false)
  | .raise_, _ => true
  | .raiseX k xs, s => (match s with | .Raise (some (.Call (.Name x _) [e] [] _)) none _ => decide (c.cn[k]? = some x) && c.rs k && glB sc x && nmOk x && okEs c sc fnb xs [e] | _ => false)
  | .tryE b k h, s => (match s with
    | .Try body [.ExceptHandler (some (.Name x _)) none [.Return (some (.Constant .none _ _)) _] _] [] [] _ => decide (c.cn[k]? = some x) && glB sc x && nmOk x && (match h with | [.ret .non] => true | _ => false) && okSs b body
    | _ => false)
def okSs : List St → List Stmt → Bool
  | [], cs => (match cs with | [] => true | _ :: _ => false)
  | s :: ss, cs => (match cs with | [] => false | d :: cs => okS s d && okSs ss cs)
end
end
section
variable {c : Ck} {T : Tab} {n : Nat} {X : Cx} {sc : Scope} {fnb : Str → Bool}
theorem assign_sub {o i : Expr} {pos : Pos} {env : Env} (h : noSlice i = true) : ∀ v, assign (.Subscript o i pos) env v = (do
      let ov ← holding [v] (eval o env)
      let iv ← holding [v, ov] (eval i env)
      standAt pos
      holding [v, ov, iv] (setItem ov iv v)
      release [v, ov, iv] []) := by
  intro v
  cases i <;> first | rfl | (simp [noSlice] at h)
theorem assignEach_cons {e : Expr} {es : List Expr} {env : Env} (h : starless e = true) : assignEach (e :: es) env = (false, assign e env) :: assignEach es env := by
  cases e <;> first | rfl | (simp [starless] at h)
mutual
theorem soundTg (I : In c X T n sc fnb) : ∀ (t : Tg) (e : Expr), okTg c sc fnb t e = true → DG X T (envN T n) t e
  | .nm i, e, h => by
    unfold okTg at h
    exact PG.imp (nmT_of I h).1 fun v σ H Q ⟨φ, st, κ, G, d, φ1, st', F, O, r, e, k⟩ => by
      unfold evTg at e; cases e
      exact k _ _ _ _ Stp.refl O (F.set i r)
  | .tup ts, e, h => by
    unfold okTg at h
    split at h
    · obtain ⟨h1, h2, h3⟩ := soundTgs I ts _ h
      exact dg_tup I.calm h1 h2 h3
    · cases h
  | .sub o i, e, h => by
    unfold okTg at h
    split at h
    · simp only [Bool.and_eq_true] at h
      obtain ⟨⟨h0, h1⟩, h2⟩ := h
      exact dg_sub I.u1 (soundE o _ X sc fnb I h1).de (soundE i _ X sc fnb I h2).de (assign_sub h0)
    · cases h
theorem soundTgs (I : In c X T n sc fnb) : ∀ (ts : List Tg) (es : List Expr), okTgs c sc fnb ts es = true → DGs X T (envN T n) ts es ∧ (assignEach es X.env).length = ts.length ∧ (assignEach es X.env).findIdx? (·.1) = none
  | [], es, h => by
    cases es with
    | nil => exact ⟨dgs_nil, rfl, rfl⟩
    | cons => unfold okTgs at h; cases h
  | t :: ts, es, h => by
    cases es with
    | nil => unfold okTgs at h; cases h
    | cons e es =>
      unfold okTgs at h
      simp only [Bool.and_eq_true] at h
      obtain ⟨⟨h0, h1⟩, h2⟩ := h
      obtain ⟨g1, g2, g3⟩ := soundTgs I ts es h2
      refine ⟨dgs_cons (soundTg I t e h1) g1 (by rw [assignEach_cons h0]; rfl), by rw [assignEach_cons h0]; simp [g2], ?_⟩
      rw [assignEach_cons h0, List.findIdx?_cons]
      simp [g3]
end
theorem block_is {env : Env} (hs : env.scope = sc) (hk : sc.kind = .function) : env.blockKind = .function := by
  unfold Env.blockKind
  rw [hs, hk]; rfl
theorem kind_is {env : Env} (hs : env.scope = sc) (x : Str) : (env.kindOf x == some .local) = isLoc sc x := by
  unfold Env.kindOf isLoc
  rw [hs]
theorem loc_is {x : Str} (h : isLoc sc x = true) : sc.names.lookup x = some .local := by
  unfold isLoc at h
  exact eq_of_beq h
theorem sw_is {env : Env} {e tg : Expr} {l : Nat} (hs : env.scope = sc) (hk : sc.kind = .function) : swapsWith e (some tg) l env = pure (swB sc e tg) := by
  have hb := block_is hs hk
  cases e <;> first | rfl | skip
  all_goals
    cases tg <;> first | rfl | skip
    all_goals
      unfold swapsWith swB
      show pure (env.blockKind == .function && env.kindOf _ == some .local && _ && _) = _
      rw [hb, kind_is hs]
      rfl
theorem sw_none {env : Env} {e : Expr} {l : Nat} (h : noComp e = true) : swapsWith e none l env = pure false := by
  cases e <;> first | rfl | (simp [noComp] at h)
theorem ss_none {env : Env} {e tg : Expr} (h : (isTup e && (isTup tg || isLst tg)) = false) : swappedStores [tg] e env = pure none := by
  by_cases he : isTup e = true
  · rw [he, Bool.true_and, Bool.or_eq_false_iff] at h
    cases tg <;> first | rfl | (simp [isTup, isLst] at h)
  · cases e <;> first | (simp [isTup] at he; done) | (cases tg <;> rfl)
theorem names_less {env : Env} (hs : env.scope = sc) (line : Nat) : ∀ {ts : List Expr}, ts.any (fun | .Name x _ => !isLoc sc x | _ => true) = true → (ts.filterMap fun
    | .Name id pos => if env.kindOf id == some .local && pos.line == line then some id else none
    | _ => none).length < ts.length
  | [], h => by cases h
  | t :: ts, h => by
    have le : ∀ l : List Expr, (l.filterMap fun
        | .Name id pos => if env.kindOf id == some .local && pos.line == line then some id else none
        | _ => none).length ≤ l.length := fun l => List.length_filterMap_le _ _
    rw [List.any_cons, Bool.or_eq_true] at h
    rw [List.filterMap_cons]
    rcases h with h | h
    · have hn : (match t with
        | .Name id pos => if env.kindOf id == some .local && pos.line == line then some id else none
        | _ => none) = none := by
        cases t <;> first | rfl | skip
        rename_i x p
        have h : (!isLoc sc x) = true := h
        show (if env.kindOf x == some .local && p.line == line then some x else none) = none
        rw [kind_is hs, if_neg (by intro q; rw [Bool.and_eq_true] at q; rw [q.1] at h; cases h)]
      rw [hn]
      exact Nat.lt_succ_of_le (le ts)
    · have ih := names_less hs line h
      split
      · exact Nat.lt_succ_of_lt ih
      · simp only [List.length_cons]; exact Nat.succ_lt_succ ih
theorem ss_gen {env : Env} {ts vs : List Expr} {kt k2 : Nat} {pt pt2 : Pos} (hs : env.scope = sc) (h : ts.any (fun | .Name x _ => !isLoc sc x | _ => true) = true) : swappedStores [.Tuple ts kt pt] (.Tuple vs k2 pt2) env = pure none := by
  unfold swappedStores
  simp only
  split
  · rfl
  · split
    · rfl
    · have := names_less hs ((ts.head?.map (·.pos.line)).getD 0) h
      rw [if_pos]
      simp only [Bool.or_eq_true, bne_iff_ne]
      exact .inl (Nat.ne_of_lt this)
theorem ss_of {env : Env} {e tg : Expr} (hs : env.scope = sc) (h : ssB sc tg e = true) : swappedStores [tg] e env = pure none := by
  unfold ssB at h
  rw [Bool.or_eq_true] at h
  rcases h with h | h
  · exact ss_none (by rw [Bool.not_eq_true'] at h; exact h)
  · cases tg <;> first | (cases h; done) | skip
    cases e <;> first | rfl | exact ss_gen hs h
theorem ss_two {env : Env} {x y : Str} {px py pt : Pos} {kt k2 : Nat} {a b : Expr} {pt2 : Pos} (hs : env.scope = sc) (hk : sc.kind = .function) (hx : isLoc sc x = true) (hy : isLoc sc y = true) (hxy : x ≠ y) (hl : (py.line == px.line) = true) (ha : starless a = true) (hb : starless b = true)
    (hf : [a, b].all (foldedForSure 8) = false) (hc : [a, b].all (constantsAlone 8) = false) : swappedStores [.Tuple [.Name x px, .Name y py] kt pt] (.Tuple [a, b] k2 pt2) env = pure (some [x, y]) := by
  have h1 : [a, b].any (fun | .Starred .. => true | _ => false) = false := by
    simp only [List.any_cons, List.any_nil, Bool.or_false, Bool.or_eq_false_iff]
    constructor
    · cases a <;> first | rfl | (simp [starless] at ha)
    · cases b <;> first | rfl | (simp [starless] at hb)
  unfold swappedStores
  simp only [block_is hs hk, kind_is hs, hx, hy, hl, h1, hf, hc, List.length_cons, List.length_nil, List.head?_cons, Option.map_some, Option.getD_some, Expr.pos, List.filterMap_cons, List.filterMap_nil, beq_self_eq_true, Bool.and_self, if_true]
  have : [x, y].eraseDups = [x, y] := by
    simp [List.eraseDups_cons, Ne.symm hxy]
  simp only [this]
  simp
  intro h
  rcases h with h | h
  · cases a <;> first | (cases h; done) | (simp [starless] at ha)
  · cases b <;> first | (cases h; done) | (simp [starless] at hb)
theorem ss_three {env : Env} {x y z : Str} {px py pz pt : Pos} {kt k2 : Nat} {a b d : Expr} {pt2 : Pos} (hs : env.scope = sc) (hk : sc.kind = .function) (hx : isLoc sc x = true) (hy : isLoc sc y = true) (hz : isLoc sc z = true) (hxy : x ≠ y) (hxz : x ≠ z) (hyz : y ≠ z) (hl : (py.line == px.line) = true) (hl2 : (pz.line == px.line) = true) (ha : starless a = true) (hb : starless b = true) (hd : starless d = true)
    (hf : [a, b, d].all (foldedForSure 8) = false) (hc : [a, b, d].all (constantsAlone 8) = false) : swappedStores [.Tuple [.Name x px, .Name y py, .Name z pz] kt pt] (.Tuple [a, b, d] k2 pt2) env = pure (some [x, y, z]) := by
  have h1 : [a, b, d].any (fun | .Starred .. => true | _ => false) = false := by
    simp only [List.any_cons, List.any_nil, Bool.or_false, Bool.or_eq_false_iff]
    refine ⟨?_, ?_, ?_⟩
    · cases a <;> first | rfl | (simp [starless] at ha)
    · cases b <;> first | rfl | (simp [starless] at hb)
    · cases d <;> first | rfl | (simp [starless] at hd)
  unfold swappedStores
  simp only [block_is hs hk, kind_is hs, hx, hy, hz, hl, hl2, h1, hf, hc, List.length_cons, List.length_nil, List.head?_cons, Option.map_some, Option.getD_some, Expr.pos, List.filterMap_cons, List.filterMap_nil, beq_self_eq_true, Bool.and_self, if_true]
  have : [x, y, z].eraseDups = [x, y, z] := by
    simp [Ne.symm hxy, Ne.symm hxz, List.eraseDups_cons, Ne.symm hyz]
  simp only [this]
  simp
  intro h
  rcases h with h | h | h
  · cases a <;> first | (cases h; done) | (simp [starless] at ha)
  · cases b <;> first | (cases h; done) | (simp [starless] at hb)
  · cases d <;> first | (cases h; done) | (simp [starless] at hd)

theorem soundPar (I : In c X T n sc fnb) (hk : sc.kind = .function) {is : List Nat} {xs : List Ex} {ts vs : List Expr} {kt k2 : Nat} {pt pt2 pos : Pos} (h : okPar c sc fnb is xs ts vs = true) : DS X T (envN T n) (.par is xs) (.Assign [.Tuple ts kt pt] (.Tuple vs k2 pt2) pos) := by
  unfold okPar at h
  split at h
  · simp only [Bool.and_eq_true, decide_eq_true_eq, Bool.not_eq_true'] at h
    obtain ⟨⟨⟨⟨⟨⟨⟨⟨⟨⟨⟨h1, h2⟩, h3⟩, h4⟩, h5⟩, h6⟩, h7⟩, h8⟩, h9⟩, h10⟩, h11⟩, h12⟩ := h
    exact ds_par2 I.calm I.nd (by rw [I.nm]; exact h1) (by rw [I.nm]; exact h2) h3 (by rw [I.sc]; exact loc_is h5) (by rw [I.sc]; exact loc_is h6) (soundEs xs _ X sc fnb I h12).da (ss_two I.sc hk h5 h6 h4 h7 h8 h9 h10 h11) rfl
  · simp only [Bool.and_eq_true, decide_eq_true_eq, Bool.not_eq_true'] at h
    obtain ⟨⟨⟨⟨⟨⟨⟨⟨⟨⟨⟨⟨⟨⟨⟨⟨⟨⟨⟨h1, h2⟩, h3⟩, h4⟩, h5⟩, h6⟩, h7⟩, h8⟩, h9⟩, h10⟩, h11⟩, h12⟩, h13⟩, h14⟩, h15⟩, h16⟩, h17⟩, h18⟩, h19⟩, h20⟩ := h
    exact ds_par3 I.calm I.nd (by rw [I.nm]; exact h1) (by rw [I.nm]; exact h2) (by rw [I.nm]; exact h3) h4 h5 h6 (by rw [I.sc]; exact loc_is h10) (by rw [I.sc]; exact loc_is h11) (by rw [I.sc]; exact loc_is h12) (soundEs xs _ X sc fnb I h20).da (ss_three I.sc hk h10 h11 h12 h7 h8 h9 h13 h14 h15 h16 h17 h18 h19) rfl
  · cases h
theorem asg1 {tg : Expr} {e : Expr} (h : okTg c sc fnb t tg = true) {env : Env} : (assignEach [tg] env).map (·.2) = [assign tg env] := by
  have : starless tg = true := by
    cases tg <;> first | rfl | skip
    cases t <;> (unfold okTg at h; first | (cases h; done) | (unfold nmT at h; cases h))
  rw [assignEach_cons this]; rfl
/-- name = [..] on one line -/
theorem sound_lc (I : In c X T n sc fnb) (hk : sc.kind = .function) {own : List Nat} {t : CT} {w : Wk} {src ifs : List Ex} {x : Ex} {i : Nat} {y : Str} {py cpos pos : Pos} {elt : Expr} {g : Comprehension} {scope : Scope} (cell : Bool)
    (h : okE c sc fnb (.comp own t w src ifs x) (.ListComp elt [g] scope cpos) = true) (hy : c.N[i]? = some y) (hsw : swB sc (.ListComp elt [g] scope cpos) (.Name y py) = true) :
    DS X T (envN T n) (.asg (.nm i) (if cell = true then .mk (.comp own t w src ifs x) else .comp own t w src ifs x)) (.Assign [.Name y py] (.ListComp elt [g] scope cpos) pos) := by
  obtain ⟨tg, iter, is, a⟩ := g
  unfold okE at h
  simp only [Bool.and_eq_true, decide_eq_true_eq] at h
  obtain ⟨⟨⟨⟨⟨⟨⟨⟨⟨⟨⟨rfl, h1⟩, h2⟩, h3⟩, h4⟩, h5⟩, h6⟩, h7⟩, h8⟩, h9⟩, h10⟩, h11⟩ := h
  cases es : srcArgs w tg iter with
  | none => rw [es] at h5; cases h5
  | some l =>
    rw [es] at h5
    have p := soundEs src l X sc fnb I h5
    have hl : isLoc sc y = true := by
      unfold swB at hsw
      simp only [Bool.and_eq_true] at hsw
      exact hsw.1.1
    have := ds_setLc (own := ownN c own) (t := t) (w := w) (src := src) (ifs := ifs) (x := x) (elt := elt) (tg := tg) (iter := iter) (is := is) (scope := scope) (pos := cpos) (spos := pos) (py := py) (i := i) (y := y) cell I.calm I.nd h1 (fun i hi => by rw [own_map]; exact List.contains_iff_mem.mp (List.all_eq_true.mp h2 i hi)) (by rw [I.nm]; exact hy) (by rw [I.sc]; exact loc_is hl) (by rw [sw_is I.sc hk, hsw])
      (p.src I es h3) (by rw [I.nm, I.sc]; exact blkOk_by h6)
      (fun s H C cl fp => ct_of (I.blk s H scope C cl fp) h7) (fun s H C cl fp => (soundEs ifs is _ _ _ (I.blk s H scope C cl fp) h10).ifs h8 h9) (fun s H C cl fp => (soundE x elt _ _ _ (I.blk s H scope C cl fp) h11).de) (folded_of h4)
    rw [own_map] at this
    exact this
theorem soundXE {Wx : WX} (I : In c X T n sc fnb) (tk : L2.Takes X Wx) {x : Ex} {e : Expr} (h : okE c sc fnb x e = true) : DXE X T (envN T n) Wx x e := by
  have hd := (soundE x e X sc fnb I h).de
  cases x with
  | call k xs =>
    unfold okE at h
    split at h
    · rename_i x0 p0 es pos0
      simp only [Bool.and_eq_true, decide_eq_true_eq] at h
      obtain ⟨⟨⟨⟨h0, h1⟩, h2⟩, h3⟩, h4⟩ := h
      obtain ⟨f, hf⟩ := I.df k h1
      have p := soundEs xs _ X sc fnb I h4
      obtain ⟨n1, _, _⟩ := nm_of h3
      have hm := I.defs k _ f (by rw [← I.gn]; exact h0) hf
      cases es with
      | nil =>
        cases xs with
        | nil => exact dxe_call0 tk I.fns hf I.room (gl_of I h2) hm n1
        | cons => exact p.elim
      | cons a es =>
        have pl := p.plain
        rw [List.all_cons, Bool.and_eq_true] at pl
        exact dxe_call tk I.fns hf I.room (gl_of I h2) hm p.da n1 (star_plain pl.1) (plainL pl.2)
    · cases h
  | callv i xs =>
    unfold okE at h
    split at h
    · simp only [Bool.and_eq_true, decide_eq_true_eq] at h
      obtain ⟨⟨⟨h0, h2⟩, h3⟩, h4⟩ := h
      have p := soundEs xs _ X sc fnb I h4
      obtain ⟨n1, n2, _⟩ := nm_of h3
      have pl := p.plain
      rw [List.all_cons, Bool.and_eq_true] at pl
      exact dxe_callv tk I.fns I.room (by rw [I.nm]; exact h0) (vis_of I h2) p.da n1 n2 (star_plain pl.1) (plainL pl.2)
    · cases h
  | _ => exact dxe_of hd fun _ _ => rfl
/-- what is told of a def's context -/
structure Fx (X : Cx) (Wx : WX) : Prop where
  tk : L2.Takes X Wx
  hp : PassesOwn (model X.prog X.w) X.A X.env X.xe
  hs : X.stack = X.env :: X.outer
  hf : X.env.frame = some X.env.locals
theorem In.tr (I : In c X T n sc fnb) (pn : List (Addr × Obj)) (xe : Value → Shared → Prop) : In c (X.tr pn xe) T n sc fnb where
  sc := I.sc
  nm := I.nm
  nd := I.nd
  calm := I.calm
  room := I.room
  fn := I.fn
  fns := ⟨I.fns.ok⟩
  gn := I.gn
  df := I.df
  glob := I.glob
  defs := I.defs
  blt := I.blt
  gcd := I.gcd
  cn := I.cn
  cls := I.cls
  ox := I.ox
  exm := I.exm
theorem DSX.ds {E : En} {Wx : WX} {s : St} {d : Stmt} (h : DSX X T E Wx s d) : DS X T E s d := PS.imp h fun _ _ _ q => .inl q
theorem DSsX.dss {E : En} {Wx : WX} {s : List St} {d : List Stmt} (h : DSsX X T E Wx s d) : DSs X T E s d := PSs.imp h fun _ _ _ q => .inl q
mutual
theorem soundS : ∀ (s : St) (d : Stmt) (X : Cx) (Wx : WX), In c X T n sc fnb → sc.kind = .function → Fx X Wx → okS c sc fnb s d = true → DSX X T (envN T n) Wx s d
  | .asg t x, d, X, Wx, I, hk, fx, h => by
    unfold okS at h
    split at h
    · rename_i tg e pos
      simp only [Bool.and_eq_true] at h
      obtain ⟨⟨h1, h2⟩, h3⟩ := h
      by_cases hw : swB sc e tg = true
      · rw [if_pos hw] at h3
        split at h3
        · rename_i i y py elt g scope cpos
          have hy : c.N[i]? = some y := by
            unfold okTg nmT at h2
            simp only [Bool.and_eq_true, decide_eq_true_eq] at h2
            exact h2.1.1
          split at h3
          · refine dsx_of (sound_lc I hk false h1 hy hw) fun φ st => ?_
            unfold xS; rfl
          · unfold okE at h1
            simp only [Bool.and_eq_true] at h1
            refine dsx_of (sound_lc I hk true h1.2 hy hw) fun φ st => ?_
            unfold xS; rfl
          · cases h3
        · cases h3
      · rw [if_neg hw] at h3
        have hw : swB sc e tg = false := by simpa using hw
        exact dsx_asg (soundXE I fx.tk h1) (soundTg I t tg h2) ((sw_is I.sc hk).trans (by rw [hw])) (ss_of I.sc h3) (asg1 (e := e) h2)
    · cases h
  | .par is xs, d, X, Wx, I, hk, fx, h => by
    unfold okS at h
    split at h
    · refine dsx_of (soundPar I hk h) fun φ st => ?_
      unfold xS; rfl
    · cases h
  | .ex x, d, X, Wx, I, hk, fx, h => by
    unfold okS at h
    split at h
    · simp only [Bool.and_eq_true] at h
      exact dsx_ex (soundXE I fx.tk h.2) (sw_none h.1)
    · cases h
  | .ret x, d, X, Wx, I, hk, fx, h => by
    unfold okS at h
    split at h
    · exact dsx_ret (soundXE I fx.tk h)
    · cases h
  | .retC x, d, X, Wx, I, hk, fx, h => by
    unfold okS at h
    split at h
    · refine dsx_of (ds_retC (soundE x _ X sc fnb I h).de) fun φ st => ?_
      unfold xS; rfl
    · cases h
  | .ife x a b, d, X, Wx, I, hk, fx, h => by
    unfold okS at h
    split at h
    · simp only [Bool.and_eq_true] at h
      obtain ⟨⟨⟨h0, h1⟩, h2⟩, h3⟩ := h
      exact dsx_if ((soundE x _ X sc fnb I h1).dt 9 h0) (soundSs a _ X Wx I hk fx h2) (soundSs b _ X Wx I hk fx h3)
    · cases h
  | .whl x b, d, X, Wx, I, hk, fx, h => by
    unfold okS at h
    split at h
    · simp only [Bool.and_eq_true] at h
      obtain ⟨⟨h0, h1⟩, h2⟩ := h
      refine dsx_of (ds_while fx.hp ((soundE x _ X sc fnb I h1).dt 9 h0) (soundSs b _ X Wx I hk fx h2).dss) fun φ st => ?_
      unfold xS; rfl
    · cases h
  | .for_ t w src b, d, X, Wx, I, hk, fx, h => by
    unfold okS at h
    split at h
    · rename_i tg iter p pos
      simp only [Bool.and_eq_true] at h
      obtain ⟨⟨⟨⟨⟨h1, h2⟩, h3⟩, h4⟩, h5⟩, h6⟩ := h
      cases es : srcArgs w tg iter with
      | none => rw [es] at h4; cases h4
      | some l =>
        rw [es] at h4
        refine dsx_of (ds_for fx.hp I.calm h1 ((soundEs src l X sc fnb I h4).src I es h2) (ct_of I h5) (soundSs b _ X Wx I hk fx h6).dss (folded_of h3)) fun φ st => ?_
        unfold xS; rfl
    · cases h
  | .raise_, d, X, Wx, I, hk, fx, h => by
    refine dsx_of ds_raise fun φ st => ?_
    unfold xS; rfl
  | .raiseX k xs, d, X, Wx, I, hk, fx, h => by
    unfold okS at h
    split at h
    · simp only [Bool.and_eq_true, decide_eq_true_eq] at h
      obtain ⟨⟨⟨⟨h0, h1⟩, h2⟩, h3⟩, h4⟩ := h
      obtain ⟨n1, _, _⟩ := nm_of h3
      have p := soundEs xs _ X sc fnb I h4
      cases xs with
      | nil => exact p.elim
      | cons y ys =>
        cases ys with
        | cons => exact p.2.elim
        | nil => exact dsx_raise I.calm fx.tk (I.ox k h1) (I.room.mono (by omega)) (gl_of I h2) (I.cls k _ (by rw [← I.cn]; exact h0)) p.1.2.1 p.da n1 (star_plain p.1.2.2)
    · cases h
  | .tryE b k hd, d, X, Wx, I, hk, fx, h => by
    unfold okS at h
    split at h
    · simp only [Bool.and_eq_true, decide_eq_true_eq] at h
      obtain ⟨⟨⟨⟨h0, h1⟩, h2⟩, h3⟩, h4⟩ := h
      obtain ⟨n1, _, _⟩ := nm_of h2
      split at h3
      · refine dsx_try fx.hs fx.hf ⟨gl_of I h1, n1, .inl (I.cls k _ (by rw [← I.cn]; exact h0))⟩ fx.tk (fun z hz => I.exm z k hz) (fun W pn xe tk' hp' => soundSs b _ (X.tr pn xe) W (I.tr pn xe) hk ⟨tk', hp', fx.hs, fx.hf⟩ h4) fun a pn => ?_
        exact dss_cons (ds_ret de_non) dss_nil
      · cases h3
    · cases h
theorem soundSs : ∀ (ss : List St) (cs : List Stmt) (X : Cx) (Wx : WX), In c X T n sc fnb → sc.kind = .function → Fx X Wx → okSs c sc fnb ss cs = true → DSsX X T (envN T n) Wx ss cs
  | [], cs, X, Wx, I, hk, fx, h => by
    cases cs with
    | nil => exact dssx_nil
    | cons => unfold okSs at h; cases h
  | s :: ss, cs, X, Wx, I, hk, fx, h => by
    cases cs with
    | nil => unfold okSs at h; cases h
    | cons d cs =>
      unfold okSs at h
      simp only [Bool.and_eq_true] at h
      exact dssx_cons (soundS s d X Wx I hk fx h.1) (soundSs ss cs X Wx I hk fx h.2)
end
end
end Ev


set_option Elab.async false
set_option linter.all false
set_option maxRecDepth 100000
set_option maxHeartbeats 1000000
/-! EvV: all defs of a module keep their promises. -/
namespace Ev
open PySem PySem.Spec PyProof.Rows L2
def noDoc : List Stmt → List Stmt
  | .Expr (.Constant (.str _) _ _) _ :: r => r
  | l => l
def fnScB (N ps : List Str) (sc : Scope) : Bool := (match sc.kind with | .function => true | _ => false) && !sc.isCoroutine && !sc.isGenerator && decide N.Nodup && decide (N.take ps.length = ps) && ps.all (fun x => locB sc x) && sc.names.all (fun y => match y.2 with | .free => false | _ => true)
theorem fnSc_of {N ps : List Str} {sc : Scope} (h : fnScB N ps sc = true) : FnScope N ps sc := by
  unfold fnScB at h
  simp only [Bool.and_eq_true, decide_eq_true_eq, Bool.not_eq_true'] at h
  obtain ⟨⟨⟨⟨⟨⟨h1, h2⟩, h3⟩, h4⟩, h5⟩, h6⟩, h7⟩ := h
  refine ⟨?_, h2, h3, h4, h5, fun x hx => ?_, fun y hy e => ?_⟩
  · split at h1
    · assumption
    · cases h1
  · have := List.all_eq_true.mp h6 x hx
    unfold locB at this
    split at this
    · rename_i e; exact .inl e
    · rename_i e; exact .inr e
    · cases this
  · have := List.all_eq_true.mp h7 y hy
    rw [e] at this; cases this
/-- a def: its small form, its slots' names, its parameters, its text -/
structure DefR where
  f : FnI
  N : List Str
  ps : List Str
  st : Stmt
def okFn (gn : List Str) (df : Nat → Bool) (cn : List Str) (rs : Nat → Bool) (r : DefR) : Bool := decide (r.N.length = r.f.ns) && decide (r.ps.length = r.f.np) && fnScB r.N r.ps (defScope r.st) && okSs ⟨r.N, gn, df, cn, rs⟩ (defScope r.st) (fun _ => true) r.f.body (noDoc (defBody r.st))
/-- a class's __init__: self.f = given -/
def iniB (N ps : List Str) (st : Stmt) (f : Str) : Bool := fnScB N ps (defScope st) && decide (N.length = 2) && decide (ps.length = 2) && (match defBody st with
  | [.Assign [.Attribute (.Name a _) g _] (.Name b _) _] => decide (N[0]? = some a) && decide (N[1]? = some b) && decide (g = f) && visB (defScope st) a && visB (defScope st) b && nmOk a && nmOk b
  | _ => false)
/-- what the module holds -/
structure Facts (P : Program) (w : World) (K : PySem.W.Frag) (mg : Str → Option Value) (base : Heap) (T : Tab) (df : Nat → Bool) (rs : Nat → Bool) : Prop where
  defs : ∀ (k : Nat) f, T.prog[k]? = some (some f) → ∃ (r : DefR) (x qual : Str), r.f = f ∧ T.ps k = r.ps ∧ Fun K x qual r.st (T.fa k) (T.fd k) ∧ L2.Binds K (T.fd k) r.ps [] ∧ okFn T.gn df T.cn rs r = true
  df : ∀ (k : Nat), df k = true → ∃ f, T.prog[k]? = some (some f)
  glob : ∀ (k : Nat) x d, T.gn[k]? = some x → T.G[k]? = some d → ∃ v u, mg x = some u ∧ RelV v u ∧ ∀ κ G, Rp (T.W K) κ G v d
  mgd : ∀ (k : Nat) x f, T.gn[k]? = some x → T.prog[k]? = some (some f) → mg x = some (.ref (T.fa k))
  blt : ∀ x ∈ bltNs, mg x = none
  gcd : mg "gcd" = some (.builtin "math.gcd")
  cls : ∀ (k : Nat) x, T.cn[k]? = some x → mg x = some (.ref (T.ca k))
  exm : ∀ z k, T.sub z k = true → PySem.W.exmOne K (.ref (T.ca z)) (.ref (T.ca k)) = some true
  ini : ∀ (k : Nat), rs k = true → OexC K (T.ca k) ∧ ∃ (fI : Addr) (fd : FuncData) (x qual : Str) (st : Stmt) (N ps : List Str) (f : Str), PySem.W.findIn K (.ref (T.ca k)) "__init__" = some (some (.ref fI)) ∧ PySem.W.typeIn K (.ref fI) = some (.type "function") ∧ Fun K x qual st fI fd ∧ L2.Binds K fd ps [] ∧
    PySem.W.findIn K (.ref (T.ca k)) f = some none ∧ iniB N ps st f = true
/-- an __init__ keeps its promise -/
theorem ini_ok {P : Program} {w : World} {K : PySem.W.Frag} {mg : Str → Option Value} {base : Heap} {C fI : Addr} {fd : FuncData} {x qual : Str} {st : Stmt} {N ps : List Str} {f : Str} (T : OexC K C) (F : Fun K x qual st fI fd) (hno : PySem.W.findIn K (.ref C) f = some none) (h : iniB N ps st f = true) : FnOk P w K mg base (L2.CX P w) 1 fI fd ps (spI C f) := by
  unfold iniB at h
  simp only [Bool.and_eq_true, decide_eq_true_eq] at h
  obtain ⟨⟨⟨h1, h2⟩, h3⟩, h4⟩ := h
  have S := fnSc_of h1
  refine F.okX S (fun vs H Q E ⟨a, y, e, _⟩ => by rw [e, h3]; rfl) fun cdv A outer s H vs Q E hr ⟨a, y, ev, ha, q⟩ => ?_
  subst ev
  split at h4
  · rename_i a0 pa g p' b0 pb pos eb
    simp only [Bool.and_eq_true, decide_eq_true_eq] at h4
    obtain ⟨⟨⟨⟨⟨⟨g1, g2⟩, rfl⟩, g4⟩, g5⟩, g6⟩, g7⟩ := h4
    obtain ⟨n1, n2, _⟩ := nm_of g6
    obtain ⟨m1, m2, _⟩ := nm_of g7
    have vis : ∀ {z : Str}, visB (defScope st) z = true → Vis (defScope st) z := fun {z} h => by
      unfold visB at h
      unfold Vis
      split at h
      · rename_i e; exact .inl e
      · rename_i e; exact .inr (.inl e)
      · rename_i e; exact .inr (.inr e)
      · cases h
    rw [eb]
    refine ⟨_, pss_cons (ps_ost (to := _) (te := _) (pe_var (X := cxOf (L2.CX P w) P w K mg base N qual (defScope st) fI cdv A outer s H E) (i := 0) g1 (vis g4) n1 n2) (pe_var (i := 1) g2 (vis g5) m1 m2) rfl) pss_nil, ?_⟩
    have hN : N.length = 2 := h2
    have s0 : (L2.start N [V.ref a, y])[0]? = some (some (V.ref a)) := by unfold L2.start; simp
    have s1 : (L2.start N [V.ref a, y])[1]? = some (some y) := by unfold L2.start; simp
    refine ⟨y, s1, V.ref a, s0, a, C, rfl, T, hno, .inl ⟨ha, fun dx hd hne => q dx hd hne⟩⟩
  · cases h4
theorem cls_at {P : Program} {w : World} {K : PySem.W.Frag} {mg : Str → Option Value} {base : Heap} {T : Tab} {df rs : Nat → Bool} (M : Facts P w K mg base T df rs) {k : Nat} (h : rs k = true) : ClsAt P w K mg base T k := by
  obtain ⟨ox, fI, fd, x, qual, st, N, ps, f, h1, h2, F, B, hno, hi⟩ := M.ini k h
  exact ⟨ox, fI, fd, ps, f, h1, h2, ini_ok ox F hno hi, B⟩
theorem sound {P : Program} {w : World} {K : PySem.W.Frag} {mg : Str → Option Value} {base : Heap} {T : Tab} {df rs : Nat → Bool} (M : Facts P w K mg base T df rs) : ∀ n k f, T.prog[k]? = some (some f) → FnOk P w K mg base (L2.CX P w) (n + 2) (T.fa k) (T.fd k) (T.ps k) (spD (T.W K) T.ca (envN T n) k)
  | 0, k, f, _ => fn_zero
  | n + 1, k, f, hk => by
    obtain ⟨r, x, qual, rfl, hps, F, _, ok⟩ := M.defs k f hk
    unfold okFn at ok
    simp only [Bool.and_eq_true, decide_eq_true_eq] at ok
    obtain ⟨⟨⟨h1, h2⟩, h3⟩, h4⟩ := ok
    obtain ⟨oc, od, kV, doc, pm, an, cdv, ct, osl, e, lk, hcd⟩ := F.ex
    rw [e, hps]
    rw [e] at lk
    have S := fnSc_of h3
    refine fn_sound lk hcd S hk h1 h2 fun A outer s H E hr => ?_
    have I : In ⟨r.N, T.gn, df, T.cn, rs⟩ (cxOf (L2.CX P w) P w K mg base r.N qual (defScope r.st) (T.fa k) cdv A outer s H E) T n (defScope r.st) (fun _ => true) :=
      { sc := rfl, nm := rfl, nd := S.nd, calm := rfl, room := hr, fn := fun _ _ => rfl, gn := rfl, df := M.df, glob := M.glob, defs := M.mgd, blt := M.blt, gcd := M.gcd, cn := rfl, cls := M.cls, ox := fun k h => cls_at M h, exm := M.exm,
        fns := ⟨fun k' f' hk' => by
          refine ⟨sound M n k' f' hk', ?_, ?_⟩
          · obtain ⟨r', x', qual', _, _, F', _, _⟩ := M.defs k' f' hk'
            exact F'.kp
          · obtain ⟨r', x', qual', _, hps', F', B', _⟩ := M.defs k' f' hk'
            rw [hps']
            exact B'⟩ }
    have fx : Fx (cxOf (L2.CX P w) P w K mg base r.N qual (defScope r.st) (T.fa k) cdv A outer s H E) (fun cls d _ H => E cls d H) := ⟨L2.takes_of rfl rfl rfl rfl, passes_of rfl, rfl, rfl⟩
    have main := soundSs r.f.body _ _ _ I S.kind fx h4
    generalize defBody r.st = bd at main ⊢
    unfold noDoc at main
    split at main
    · exact dssx_doc main
    · exact main
end Ev


set_option Elab.async false
set_option linter.all false
set_option maxRecDepth 100000
set_option maxHeartbeats 1000000
/-! EvH: what the head leaves, object by object; the facts of it. -/
namespace Ev
open PySem PySem.Spec PyProof.Rows L2
inductive Sv where
  | ref (a : Addr) | int (i : Int) | str (s : Str) | bi (n : String) | bl (b : Bool) | non | other
  deriving DecidableEq
def sv : Value → Sv
  | .ref a => .ref a
  | .int i _ => .int i
  | .str s _ => .str s
  | .builtin n => .bi n
  | .bool b => .bl b
  | .none => .non
  | _ => .other
inductive ObjR where
  | fn (name qual : Str) (ps : Arguments) (b : FuncBody) (sc : Scope) (gl : Addr) (cl : List (Str × Addr)) (bt : Addr) (d : Bool) (c : Sv)
  | code (n : Option Str)
  | seq (c : String) (d : Bool) (l : List Sv)
  | ns (l : Option (List (Str × Sv)))
  | other
def nsL : List DictEntry → Option (List (Str × Sv))
  | [] => some []
  | e :: r => match e.key with
    | .str s _ => (match nsL r with | some l => some ((s, sv e.val) :: l) | none => none)
    | _ => none
def rd (o : Obj) : ObjR := match o with
  | ⟨c, d, data, _⟩ => match data with
    | .func fd => .fn fd.name fd.qualname fd.params fd.body fd.scope fd.globals fd.closure fd.builtins (match fd.defaults with | .none => true | _ => false) (sv fd.code)
    | .fields vs => .code (match vs.toList with | _ :: .str n _ :: _ => some n | _ => none)
    | .seq its _ => (match c with | .type t => .seq t (match d with | none => true | _ => false) (its.toList.map sv) | _ => .other)
    | .dict es _ => .ns (nsL es.toList)
    | _ => .other
abbrev LL : Type := List (Addr × ObjR)
def SaysL (L : LL) (K : PySem.W.Frag) : Prop := ∀ p ∈ L, ∃ o, K.lookup p.1 = some o ∧ rd o = p.2
def obsL (L : LL) (g : Addr → Option Obj) : List (Option ObjR) := L.map fun p => (g p.1).map rd
def valL (L : LL) : List (Option ObjR) := L.map fun p => some p.2
theorem frG_look {g : Addr → Option Obj} {a : Addr} : ∀ {as : List Addr}, a ∈ as → (He.frG g as).lookup a = g a
  | [], h => by cases h
  | b :: r, h => by
    unfold He.frG
    rw [List.filterMap_cons]
    by_cases e : a = b
    · subst e
      cases hb : g a with
      | none =>
        show ((He.frG g r).lookup a) = none
        cases z : (He.frG g r).lookup a with
        | none => rfl
        | some o => have := He.frG_at r z; rw [hb] at this; cases this
      | some o =>
        show (match a == a with | true => some o | false => (He.frG g r).lookup a) = some o
        rw [beq_self_eq_true]
    · have h2 : a ∈ r := by
        rcases List.mem_cons.mp h with q | q
        · exact absurd q e
        · exact q
      cases hb : g b with
      | none => exact frG_look h2
      | some o =>
        show (match a == b with | true => some o | false => (He.frG g r).lookup a) = g a
        rw [beq_eq_false_iff_ne.mpr e]
        exact frG_look h2
theorem says_of {L : LL} {g : Addr → Option Obj} (e : obsL L g = valL L) : SaysL L (He.frG g (L.map (·.1))) := by
  intro p hp
  have h1 : (g p.1).map rd = some p.2 := by
    obtain ⟨i, hi, rfl⟩ := List.mem_iff_getElem.mp hp
    have := congrArg (fun l => l[i]?) e
    simp only [obsL, valL, List.getElem?_map, List.getElem?_eq_getElem hi, Option.map_some] at this
    exact Option.some.inj this
  obtain ⟨o, h2, h3⟩ := Option.map_eq_some_iff.mp h1
  exact ⟨o, by rw [frG_look (List.mem_map.mpr ⟨p, hp, rfl⟩)]; exact h2, h3⟩
/-- readings; more objects; facts of them all -/
structure LF where
  L : LL
  xs : List Addr := []
  fB : List (PySem.W.Frag → Bool) := []
def LF.as (F : LF) : List Addr := F.L.map (·.1) ++ F.xs
def LF.ob (F : LF) (g : Addr → Option Obj) : List (Option ObjR) × List Bool := (obsL F.L g, F.fB.map fun f => f (He.frG g F.as))
def LF.val (F : LF) : List (Option ObjR) × List Bool := (valL F.L, F.fB.map fun _ => true)
def LF.Says (F : LF) (K : PySem.W.Frag) : Prop := SaysL F.L K ∧ ∀ f ∈ F.fB, f K = true
theorem lf_says {F : LF} {g : Addr → Option Obj} (e : F.ob g = F.val) : F.Says (He.frG g F.as) := by
  have e1 : obsL F.L g = valL F.L := congrArg Prod.fst e
  have e2 : (F.fB.map fun f => f (He.frG g F.as)) = F.fB.map fun _ => true := congrArg Prod.snd e
  refine ⟨fun p hp => ?_, fun f hf => ?_⟩
  · have h1 : (g p.1).map rd = some p.2 := by
      obtain ⟨i, hi, rfl⟩ := List.mem_iff_getElem.mp hp
      have := congrArg (fun l => l[i]?) e1
      simp only [obsL, valL, List.getElem?_map, List.getElem?_eq_getElem hi, Option.map_some] at this
      exact Option.some.inj this
    obtain ⟨o, h2, h3⟩ := Option.map_eq_some_iff.mp h1
    exact ⟨o, by rw [frG_look (show p.1 ∈ F.as from List.mem_append_left _ (List.mem_map.mpr ⟨p, hp, rfl⟩))]; exact h2, h3⟩
  · obtain ⟨i, hi, rfl⟩ := List.mem_iff_getElem.mp hf
    have := congrArg (fun l => l[i]?) e2
    simp only [List.getElem?_map, List.getElem?_eq_getElem hi, Option.map_some] at this
    exact Option.some.inj this
def hookL (F : LF) : PySem.W.Hook where
  α := List (Option ObjR) × List Bool
  obs := fun s => F.ob s.heap.get?
  val := fun _ => F.val
  says := fun _ h => ∃ K : PySem.W.Frag, K.In h ∧ F.Says K
  of := fun _ _ e => ⟨_, He.frG_in, lf_says e⟩
  keeps := fun _ _ _ ⟨K, hK, c⟩ k => ⟨K, PySem.W.Frag.In.keeps hK k, c⟩
def obL (F : LF) (s : PySem.W.SharedT) : List (Option ObjR) × List Bool := F.ob (HandSHeadRun.getT s)
theorem obL_eq (F : LF) (s : PySem.W.SharedT) : obL F s = (hookL F).obs s.abs := by
  have e : HandSHeadRun.getT s = s.abs.heap.get? := funext (HandSHeadRun.getT_eq s)
  unfold obL
  rw [e]; rfl
/-- a def, where it stands, where its code stands -/
structure HD where
  r : DefR
  x : Str
  f : Addr
  c : Addr
  q : Str
def HD.ents (d : HD) : LL := [(d.f, .fn d.x d.q (defArgs d.r.st) (.stmts (defBody d.r.st)) (defScope d.r.st) mainGlobals [] builtinsNs true (.ref d.c)), (d.c, .code (some d.q))]
/-- a class that is raised: its number, its address, its __init__, its field -/
structure CI where
  k : Nat
  C : Addr
  i : HD
  fld : Str
def oexB (K : PySem.W.Frag) (C : Addr) : Bool := match K.lookup C with
  | some ⟨.type t, _, .cls cd, sl⟩ => decide (t = "type") && (match cd.mro, sl.toList with
    | .ref C' :: bm, [_, _, _, _, some (.builtin n), _] => decide (C' = C) && decide (n = "ValueError.__new__") && !cd.hasDel && cd.hasDict && PySem.HandSPX.refsVE bm
    | _, _ => false)
  | _ => false
def CI.B (d : CI) (K : PySem.W.Frag) : Bool := oexB K d.C && decide (PySem.W.findIn K (.ref d.C) "__setattr__" = some (some (.builtin "object.__setattr__"))) && decide (PySem.W.subIn K (.ref d.C) (.type "BaseException") = some true) && decide (PySem.W.typeIn K (.ref d.C) = some (.type "type")) && PySem.W.keepIn K (.ref d.C) &&
  decide (PySem.W.findIn K (.ref d.C) "__init__" = some (some (.ref d.i.f))) && decide (PySem.W.typeIn K (.ref d.i.f) = some (.type "function")) && decide (PySem.W.findIn K (.ref d.C) d.fld = some none)
def exmB (ca : List Addr) (subs : List (List Nat)) (K : PySem.W.Frag) : Bool := subs.mapIdx (fun z l => l.all fun k => decide (PySem.W.exmOne K (.ref (ca.getD z 0)) (.ref (ca.getD k 0)) = some true)) |>.all id
theorem oexB_ok {K : PySem.W.Frag} {C : Addr} (h : oexB K C = true) : ∃ nm q N bs bm sn sub ab col dd k0 k1 k2 k3 k5, K.lookup C = some (excClassObj nm q C N bs bm true sn sub ab col dd k0 k1 k2 k3 k5 "ValueError.__new__") ∧ PySem.HandSPX.refsVE bm = true := by
  unfold oexB at h
  split at h
  · rename_i t dd cd sl ho
    rw [Bool.and_eq_true] at h
    obtain ⟨ht, h⟩ := h
    have ht := of_decide_eq_true ht
    subst ht
    split at h
    · rename_i C' bm k0 k1 k2 k3 n k5 hm hs
      simp only [Bool.and_eq_true, decide_eq_true_eq, Bool.not_eq_true'] at h
      obtain ⟨⟨⟨⟨rfl, rfl⟩, hdel⟩, hdict⟩, ht⟩ := h
      obtain ⟨nm, bs, mro, ns, qn, hd, sn, sub, ab, col, del⟩ := cd
      dsimp only at hm hdel hdict
      subst hm hdel hdict
      have hsl : sl = #[k0, k1, k2, k3, some (.builtin "ValueError.__new__"), k5] := by
        obtain ⟨l⟩ := sl
        simp only at hs
        rw [hs]
      subst hsl
      exact ⟨nm, qn, ns, bs, bm, sn, sub, ab, col, dd, k0, k1, k2, k3, k5, ho, ht⟩
    · cases h
  · cases h
theorem CI.ok {d : CI} {K : PySem.W.Frag} (h : d.B K = true) : OexC K d.C ∧ PySem.W.findIn K (.ref d.C) "__init__" = some (some (.ref d.i.f)) ∧ PySem.W.typeIn K (.ref d.i.f) = some (.type "function") ∧ PySem.W.findIn K (.ref d.C) d.fld = some none := by
  unfold CI.B at h
  simp only [Bool.and_eq_true, decide_eq_true_eq] at h
  obtain ⟨⟨⟨⟨⟨⟨⟨h1, h2⟩, h3⟩, h4⟩, h5⟩, h6⟩, h7⟩, h8⟩ := h
  exact ⟨⟨oexB_ok h1, h2, h3, h4, h5⟩, h6, h7, h8⟩
theorem exmB_ok {ca : List Addr} {subs : List (List Nat)} {K : PySem.W.Frag} (h : exmB ca subs K = true) : ∀ z k, (subs.getD z []).contains k = true → PySem.W.exmOne K (.ref (ca.getD z 0)) (.ref (ca.getD k 0)) = some true := by
  intro z k hk
  unfold exmB at h
  by_cases hz : z < subs.length
  · have h1 := List.all_eq_true.mp h _ (List.mem_iff_getElem?.mpr ⟨z, by rw [List.getElem?_mapIdx, List.getElem?_eq_getElem hz]; rfl⟩)
    have e : subs.getD z [] = subs[z] := by rw [List.getD_eq_getElem?_getD, List.getElem?_eq_getElem hz]; rfl
    rw [e] at hk
    exact of_decide_eq_true (List.all_eq_true.mp h1 k (List.contains_iff_mem.mp hk))
  · have e : subs.getD z [] = [] := by rw [List.getD_eq_getElem?_getD, List.getElem?_eq_none (by omega)]; rfl
    rw [e] at hk; cases hk
def mkL (ns : List (Str × Sv)) (dl : List (Option HD)) (tl : List (Addr × List Sv)) (il : List HD) : LL :=
  (mainGlobals, .ns (some ns)) :: (dl.flatMap fun o => match o with | some d => d.ents | none => []) ++ (il.flatMap HD.ents ++ tl.map fun t => (t.1, .seq "tuple" true t.2))
end Ev


set_option Elab.async false
set_option linter.all false
set_option maxRecDepth 100000
set_option maxHeartbeats 1000000
/-! EvH2: the facts of a head's objects. -/
namespace Ev
open PySem PySem.Spec PyProof.Rows L2
def faOf (dl : List (Option HD)) (k : Nat) : Addr := match dl[k]? with | some (some d) => d.f | _ => 0
def psOf (dl : List (Option HD)) (k : Nat) : List Str := match dl[k]? with | some (some d) => d.r.ps | _ => []
def fdAt (K : PySem.W.Frag) (a : Addr) : FuncData := match K.lookup a with | some ⟨_, _, .func fd, _⟩ => fd | _ => default
def subOf (subs : List (List Nat)) (x c : Nat) : Bool := (subs.getD x []).contains c
def tabOf (K : PySem.W.Frag) (dl : List (Option HD)) (gn : List Str) (G : List D) (prog : List (Option FnI)) (cn : List Str) (ca : List Addr) (subs : List (List Nat)) : Tab := { fa := faOf dl, gn := gn, G := G, prog := prog, fd := fun k => fdAt K (faOf dl k), ps := psOf dl, ca := fun k => ca.getD k 0, cn := cn, sub := subOf subs }
def BindsH (d : HD) : Prop := ∀ (kV doc pm : Value) (an : Option Addr) (cdv ct : Value) (us : List Value), us.length = d.r.ps.length → bindArgs (PySem.W.fnOf d.x d.q (defArgs d.r.st) (defBody d.r.st) (defScope d.r.st) .none kV doc pm an cdv ct) ⟨us, []⟩ = pure (d.r.ps.zip us)
section
variable {K : PySem.W.Frag} {ns : List (Str × Sv)} {dl : List (Option HD)} {tl : List (Addr × List Sv)} {il : List HD}
theorem sv_ref {v : Value} {a : Addr} (h : sv v = .ref a) : v = .ref a := by
  cases v <;> first | cases h; rfl | cases h
theorem sv_int {v : Value} {i : Int} (h : sv v = .int i) : ∃ t, v = .int i t := by
  cases v <;> first | (cases h; exact ⟨_, rfl⟩) | cases h
theorem sv_str {v : Value} {s : Str} (h : sv v = .str s) : ∃ t, v = .str s t := by
  cases v <;> first | (cases h; exact ⟨_, rfl⟩) | cases h
theorem sv_bi {v : Value} {n : String} (h : sv v = .bi n) : v = .builtin n := by
  cases v <;> first | cases h; rfl | cases h
theorem sv_bl {v : Value} {b : Bool} (h : sv v = .bl b) : v = .bool b := by
  cases v <;> first | cases h; rfl | cases h
theorem sv_non {v : Value} (h : sv v = .non) : v = .none := by
  cases v <;> first | cases h; rfl | cases h
theorem ent_fun {d : HD} (S : ∀ p ∈ d.ents, ∃ o, K.lookup p.1 = some o ∧ rd o = p.2) : Fun K d.x d.q d.r.st d.f (fdAt K d.f) := by
  have m1 : ((d.f, .fn d.x d.q (defArgs d.r.st) (.stmts (defBody d.r.st)) (defScope d.r.st) mainGlobals [] builtinsNs true (.ref d.c)) : Addr × ObjR) ∈ d.ents := by simp [HD.ents]
  have m2 : ((d.c, .code (some d.q)) : Addr × ObjR) ∈ d.ents := by simp [HD.ents]
  obtain ⟨o, l1, r1⟩ := S _ m1
  obtain ⟨o2, l2, r2⟩ := S _ m2
  obtain ⟨oc, od, dt, osl⟩ := o
  obtain ⟨oc2, od2, dt2, osl2⟩ := o2
  have hcode : PySem.W.codeIn K (.ref d.c) d.q = true := by
    unfold PySem.W.codeIn
    simp only [l2]
    cases dt2 with
    | fields vs =>
      have e : (match vs.toList with | _ :: .str n _ :: _ => some n | _ => none) = some d.q := by
        have := r2
        simp only [rd] at this
        injection this
      show (match vs.toList with | _ :: .str n _ :: _ => n == d.q | _ => false) = true
      split at e
      · cases e; simp
      · cases e
    | func => cases r2
    | dict => cases r2
    | seq =>
      simp only [rd] at r2
      cases oc2 <;> cases r2
    | _ => cases r2
  cases dt with
  | func fd =>
    obtain ⟨n1, n2, n3, n4, n5, n6, n7, n8, n9, n10, n11, n12, n13, n14, n15⟩ := fd
    simp only [rd] at r1
    injection r1 with h1 h2 h3 h4 h5 h6 h7 h8 h9 h10
    subst h1
    have e13 := sv_ref h10
    have e8 : n8 = .none := by
      cases n8 <;> first | rfl | cases h9
    have hx : fdAt K d.f = PySem.W.fnOf d.x d.q (defArgs d.r.st) (defBody d.r.st) (defScope d.r.st) .none n9 n10 n11 n12 n13 n14 := by
      unfold fdAt
      simp only [l1]
      rw [h2, h3, h4, h5, h6, h7, h8, e8]
    refine ⟨⟨oc, od, n9, n10, n11, n12, n13, n14, osl, hx, ?_, by rw [e13]; exact hcode⟩, ?_⟩
    · rw [hx, l1, h2, h3, h4, h5, h6, h7, h8, e8]
    · show (match K.lookup d.f with | some ⟨_, _, .func _, _⟩ => true | some ⟨_, _, .cls _, _⟩ => _ | _ => false) = true
      rw [l1]
  | seq =>
    simp only [rd] at r1
    cases oc <;> cases r1
  | _ => cases r1
/-! ### names -/
def nsFind (ns : List (Str × Sv)) (x : Str) : Option Sv := (ns.find? fun p => p.1 == x).map (·.2)
theorem nsL_find {x : Str} : ∀ {es : List DictEntry} {l : List (Str × Sv)}, nsL es = some l →
    (∀ v, nsFind l x = some v → ∃ e, es.find? (·.key.isStr x) = some e ∧ sv e.val = v) ∧ (nsFind l x = none → es.find? (·.key.isStr x) = none ∧ es.any (·.refKey) = false)
  | [], l, h => by
    cases h
    exact ⟨(fun v h => by cases h), (fun _ => ⟨rfl, rfl⟩)⟩
  | ⟨hs, key, val⟩ :: r, l, h => by
    unfold nsL at h
    cases key with
    | str s t =>
      simp only at h
      cases e : nsL r with
      | none => rw [e] at h; cases h
      | some l2 =>
        rw [e] at h
        cases h
        obtain ⟨i1, i2⟩ := nsL_find (x := x) e
        have hk : (DictEntry.mk hs (.str s t) val).key.isStr x = (s == x) := rfl
        unfold nsFind
        rw [List.find?_cons, List.find?_cons]
        simp only [hk]
        cases q : (s == x) with
        | true => exact ⟨(fun v hv => ⟨_, rfl, by cases hv; rfl⟩), (fun hn => by cases hn)⟩
        | false => exact ⟨(fun v hv => i1 v hv), (fun hn => ⟨(i2 hn).1, by rw [List.any_cons, (i2 hn).2]; rfl⟩)⟩
    | _ => cases h
theorem ns_at (S : SaysL (mkL ns dl tl il) K) {x : Str} : (∀ v, nsFind ns x = some v → ∃ u, PySem.W.nsIn K mainGlobals x = some (some u) ∧ sv u = v) ∧ (nsFind ns x = none → PySem.W.nsIn K mainGlobals x = some none) := by
  obtain ⟨o, l1, r1⟩ := S (mainGlobals, .ns (some ns)) (List.mem_append_left _ (List.mem_cons_self ..))
  obtain ⟨oc, od, dt, osl⟩ := o
  cases dt with
  | dict es n =>
    simp only [rd] at r1
    injection r1 with r1
    obtain ⟨i1, i2⟩ := nsL_find (x := x) r1
    unfold PySem.W.nsIn
    have l1 : K.lookup mainGlobals = some ⟨oc, od, .dict es n, osl⟩ := l1
    simp only [l1]
    refine ⟨fun v hv => ?_, fun hn => ?_⟩
    · obtain ⟨e, h1, h2⟩ := i1 v hv
      rw [h1]
      exact ⟨e.val, rfl, h2⟩
    · obtain ⟨h1, h2⟩ := i2 hn
      rw [h1]
      simp only
      rw [h2]; rfl
  | seq =>
    simp only [rd] at r1
    cases oc <;> cases r1
  | _ => cases r1
def itemB : Sv → D → Bool
  | .int i, .int j => decide (i = j)
  | .str s, .str z => decide (s = z)
  | .bl b, .bl c => b == c
  | .non, .non => true
  | _, _ => false
def itemsB : List Sv → List D → Bool
  | [], [] => true
  | s :: l, d :: r => itemB s d && itemsB l r
  | _, _ => false
theorem item_ok {u : Value} {d : D} (h : itemB (sv u) d = true) : ∃ v, RelV v u ∧ ∀ (W : Wr) κ G, Rp W κ G v d := by
  cases hs : sv u with
  | int i =>
    rw [hs] at h
    cases d <;> first | cases h | skip
    rename_i j
    have e : i = j := of_decide_eq_true h
    subst e
    obtain ⟨t, rfl⟩ := sv_int hs
    exact ⟨.int i, ⟨t, rfl⟩, fun _ _ _ => .int i⟩
  | str s =>
    rw [hs] at h
    cases d <;> first | cases h | skip
    rename_i j
    have e : s = j := of_decide_eq_true h
    subst e
    obtain ⟨t, rfl⟩ := sv_str hs
    exact ⟨.str s, ⟨t, rfl⟩, fun _ _ _ => .str s⟩
  | bl b =>
    rw [hs] at h
    cases d <;> first | cases h | skip
    rename_i j
    have e : b = j := eq_of_beq h
    subst e
    obtain rfl := sv_bl hs
    exact ⟨.bl b, rfl, fun _ _ _ => .bl b⟩
  | non =>
    rw [hs] at h
    cases d <;> first | cases h | skip
    obtain rfl := sv_non hs
    exact ⟨.non, rfl, fun _ _ _ => .non⟩
  | _ => rw [hs] at h; cases d <;> cases h
theorem items_ok : ∀ {us : List Value} {ds : List D}, itemsB (us.map sv) ds = true → ∃ vs, Vals vs us ∧ ∀ (W : Wr) κ G, RpL W κ G vs ds
  | [], [], _ => ⟨[], .nil, fun _ _ _ => .nil⟩
  | [], _ :: _, h => by cases h
  | _ :: _, [], h => by cases h
  | u :: us, d :: ds, h => by
    obtain ⟨h1, h2⟩ := Bool.and_eq_true_iff.mp (show (itemB (sv u) d && itemsB (us.map sv) ds) = true from h)
    obtain ⟨v, a, b⟩ := item_ok h1
    obtain ⟨vs, c, e⟩ := items_ok h2
    exact ⟨v :: vs, .cons a c, fun W κ G => .cons (b W κ G) (e W κ G)⟩
def globB (ns : List (Str × Sv)) (dl : List (Option HD)) (tl : List (Addr × List Sv)) (x : Str) (d : D) : Bool := match nsFind ns x with
  | some s => (match s, d with
    | .ref a, .fn j => decide (a = faOf dl j)
    | .ref a, .tup ds => (match tl.lookup a with
      | some l => decide (l.length ≤ sizeLine) && itemsB l ds
      | none => false)
    | s, d => itemB s d)
  | none => false
theorem lookup_mem {a : Addr} {l : List Sv} : ∀ {tl : List (Addr × List Sv)}, tl.lookup a = some l → (a, l) ∈ tl
  | [], h => by cases h
  | (b, m) :: r, h => by
    rw [List.lookup_cons] at h
    cases q : (a == b) with
    | true => rw [q] at h; cases h; rw [beq_iff_eq.mp q]; exact List.mem_cons_self ..
    | false => rw [q] at h; exact List.mem_cons_of_mem _ (lookup_mem h)
theorem glob_ok {h : Heap} {mg : Str → Option Value} (X : K.In h) (Gn : h.Ns mainGlobals mg) (S : SaysL (mkL ns dl tl il) K) {x : Str} {d : D} (c : globB ns dl tl x d = true) :
    ∃ v u, mg x = some u ∧ RelV v u ∧ ∀ (κ : List Addr) (G : Hp), Rp ⟨K, faOf dl⟩ κ G v d := by
  unfold globB at c
  cases q : nsFind ns x with
  | none => rw [q] at c; cases c
  | some s =>
    rw [q] at c
    simp only at c
    obtain ⟨u, h1, h2⟩ := (ns_at S).1 s q
    have hmg : mg x = some u := PySem.W.mg_of X Gn h1
    have rest : itemB s d = true → ∃ v u, mg x = some u ∧ RelV v u ∧ ∀ (κ : List Addr) (G : Hp), Rp ⟨K, faOf dl⟩ κ G v d := fun c => by
      rw [← h2] at c
      obtain ⟨v, a, b⟩ := item_ok c
      exact ⟨v, u, hmg, a, fun κ G => b _ κ G⟩
    split at c
    · rename_i a j
      have e : a = faOf dl j := of_decide_eq_true c
      obtain rfl := sv_ref h2
      exact ⟨.ref a, .ref a, hmg, rfl, fun κ G => by rw [e]; exact .fn (W := ⟨K, faOf dl⟩) j⟩
    · rename_i a ds
      obtain rfl := sv_ref h2
      cases z : tl.lookup a with
      | none => rw [z] at c; cases c
      | some l =>
        rw [z] at c
        obtain ⟨c1, c2⟩ := Bool.and_eq_true_iff.mp c
        obtain ⟨o, l1, r1⟩ := S (a, .seq "tuple" true l) (List.mem_append_right _ <| List.mem_append_right _ (List.mem_map.mpr ⟨(a, l), lookup_mem z, rfl⟩))
        obtain ⟨oc, od, dt, osl⟩ := o
        cases dt with
        | seq its n =>
          simp only [rd] at r1
          cases oc with
          | type t =>
            simp only at r1
            injection r1 with e1 e2 e3
            have ed : od = none := by cases od <;> first | rfl | cases e2
            subst e1 ed
            rw [← e3] at c1 c2
            obtain ⟨vs, v1, v2⟩ := items_ok c2
            have hsz : its.size ≤ sizeLine := by have := of_decide_eq_true c1; simpa using this
            exact ⟨.ref a, .ref a, hmg, rfl, fun κ G => .ktup (W := ⟨K, faOf dl⟩) l1 rfl rfl rfl hsz v1 (v2 _ κ G)⟩
          | _ => cases r1
        | func => cases r1
        | dict => cases r1
        | fields => cases r1
        | _ => cases r1
    · exact rest c
def allZ {α β : Type} (p : α → β → Bool) : List α → List β → Bool
  | [], _ => true
  | _, [] => true
  | a :: l, b :: r => p a b && allZ p l r
theorem allZ_at {α β : Type} {p : α → β → Bool} : ∀ {l : List α} {r : List β}, allZ p l r = true → ∀ {k : Nat} {a : α} {b : β}, l[k]? = some a → r[k]? = some b → p a b = true
  | [], _, _, k, a, b, h1, _ => by simp at h1
  | _ :: _, [], _, k, a, b, _, h2 => by simp at h2
  | x :: l, y :: r, h, k, a, b, h1, h2 => by
    obtain ⟨c1, c2⟩ := Bool.and_eq_true_iff.mp (show (p x y && allZ p l r) = true from h)
    cases k with
    | zero => cases h1; cases h2; exact c1
    | succ k => exact allZ_at c2 (by simpa using h1) (by simpa using h2)
def nameB (ns : List (Str × Sv)) (x : Str) (o : Option HD) : Bool := match o with
  | some d => decide (nsFind ns x = some (.ref d.f))
  | none => true
theorem dl_at {dl : List (Option HD)} {prog : List (Option FnI)} (e : prog = dl.map fun o => o.map fun d => d.r.f) {k : Nat} {f : FnI} (h : prog[k]? = some (some f)) : ∃ d, dl[k]? = some (some d) ∧ d.r.f = f := by
  rw [e, List.getElem?_map] at h
  obtain ⟨o, h1, h2⟩ := Option.map_eq_some_iff.mp h
  cases o with
  | none => cases h2
  | some d => exact ⟨d, h1, Option.some.inj h2⟩
theorem ent_dl (S : SaysL (mkL ns dl tl il) K) {d : HD} (hd : some d ∈ dl) : Fun K d.x d.q d.r.st d.f (fdAt K d.f) :=
  ent_fun fun p hp => S p (List.mem_append_left _ (List.mem_cons_of_mem _ (List.mem_flatMap.mpr ⟨some d, hd, hp⟩)))
theorem ent_il (S : SaysL (mkL ns dl tl il) K) {d : HD} (hd : d ∈ il) : Fun K d.x d.q d.r.st d.f (fdAt K d.f) :=
  ent_fun fun p hp => S p (List.mem_append_right _ (List.mem_append_left _ (List.mem_flatMap.mpr ⟨d, hd, hp⟩)))
/-- what is told of the classes -/
structure Cls0 where
  cn : List Str := []
  ca : List Addr := []
  subs : List (List Nat) := []
  ci : List CI := []
def Cls0.rs (c : Cls0) (k : Nat) : Bool := c.ci.any fun d => decide (d.k = k)
def Cls0.fB (c : Cls0) : List (PySem.W.Frag → Bool) := exmB c.ca c.subs :: c.ci.map CI.B
def Cls0.inits (c : Cls0) : List HD := c.ci.map (·.i)
def Cls0.okI (c : Cls0) (ns : List (Str × Sv)) : Bool := (c.ci.all fun d => decide (c.ca.getD d.k 0 = d.C) && iniB d.i.r.N d.i.r.ps d.i.r.st d.fld) && decide (c.cn.length = c.ca.length) && allZ (fun x a => decide (nsFind ns x = some (.ref a))) c.cn c.ca
/-- all facts -/
theorem facts_of {P : Program} {w : World} {h : Heap} {mg : Str → Option Value} {base : Heap} {gn : List Str} {Gl : List D} {prog : List (Option FnI)} {df : Nat → Bool} {C : Cls0} (X : K.In h) (Gn : h.Ns mainGlobals mg) (S : SaysL (mkL ns dl tl C.inits) K) (SB : ∀ f ∈ C.fB, f K = true)
    (e : prog = dl.map fun o => o.map fun d => d.r.f) (ok : (dl.all fun o => match o with | some d => okFn gn df C.cn C.rs d.r | none => true) = true) (hb : ∀ d, some d ∈ dl → BindsH d) (hbi : ∀ d ∈ C.inits, BindsH d) (hdf : ∀ k, df k = true → ∃ f, prog[k]? = some (some f))
    (cg : allZ (globB ns dl tl) gn Gl = true) (cn : allZ (nameB ns) gn dl = true) (cb : (bltNs.all fun x => decide (nsFind ns x = none)) = true) (cgcd : nsFind ns "gcd" = some (.bi "math.gcd")) (hC : C.okI ns = true) :
    Facts P w K mg base (tabOf K dl gn Gl prog C.cn C.ca C.subs) df C.rs where
  defs := fun k f hk => by
    obtain ⟨d, h1, rfl⟩ := dl_at e hk
    have hm : some d ∈ dl := List.mem_of_getElem? h1
    have hf : faOf dl k = d.f := by unfold faOf; rw [h1]
    have F := ent_dl S hm
    have hp : psOf dl k = d.r.ps := by unfold psOf; rw [h1]
    refine ⟨d.r, d.x, d.q, rfl, hp, ?_, ?_, List.all_eq_true.mp ok _ hm⟩
    · show Fun K d.x d.q d.r.st (faOf dl k) (fdAt K (faOf dl k))
      rw [hf]; exact F
    · show L2.Binds K (fdAt K (faOf dl k)) d.r.ps []
      rw [hf]
      exact F.binds (hb d hm)
  df := hdf
  glob := fun k x d h1 h2 => glob_ok X Gn S (allZ_at cg h1 h2)
  mgd := fun k x f h1 h2 => by
    obtain ⟨d, h3, rfl⟩ := dl_at e h2
    have c := allZ_at cn h1 h3
    obtain ⟨u, q1, q2⟩ := (ns_at S).1 _ (of_decide_eq_true c)
    have := PySem.W.mg_of X Gn q1
    rw [this, sv_ref q2]
    show _ = some (Value.ref (faOf dl k))
    unfold faOf; rw [h3]
  blt := fun x hx => PySem.W.mg_none_of X Gn ((ns_at S).2 (of_decide_eq_true (List.all_eq_true.mp cb x hx)))
  gcd := by
    obtain ⟨u, q1, q2⟩ := (ns_at S).1 _ cgcd
    rw [PySem.W.mg_of X Gn q1, sv_bi q2]
  cls := fun k x hx => by
    unfold Cls0.okI at hC
    simp only [Bool.and_eq_true, decide_eq_true_eq] at hC
    obtain ⟨⟨_, hl⟩, hz⟩ := hC
    have hx : C.cn[k]? = some x := hx
    have hk : k < C.ca.length := by rw [← hl]; exact (List.getElem?_eq_some_iff.mp hx).1
    have c := allZ_at hz hx (List.getElem?_eq_getElem hk)
    obtain ⟨u, q1, q2⟩ := (ns_at S).1 _ (of_decide_eq_true c)
    rw [PySem.W.mg_of X Gn q1, sv_ref q2]
    show _ = some (Value.ref (C.ca.getD k 0))
    rw [List.getD_eq_getElem?_getD, List.getElem?_eq_getElem hk]; rfl
  exm := fun z k hz => exmB_ok (SB _ (List.mem_cons_self ..)) z k hz
  ini := fun k hk => by
    unfold Cls0.rs at hk
    obtain ⟨d, hd, hk⟩ := List.any_eq_true.mp hk
    have hk := of_decide_eq_true hk
    subst hk
    unfold Cls0.okI at hC
    simp only [Bool.and_eq_true, decide_eq_true_eq] at hC
    have h1 := List.all_eq_true.mp hC.1.1 d hd
    simp only [Bool.and_eq_true, decide_eq_true_eq] at h1
    obtain ⟨ha, hi⟩ := h1
    obtain ⟨ox, g1, g2, g3⟩ := CI.ok (SB _ (List.mem_cons_of_mem _ (List.mem_map.mpr ⟨d, hd, rfl⟩)))
    have hm : d.i ∈ C.inits := List.mem_map.mpr ⟨d, hd, rfl⟩
    have F := ent_il S hm
    show OexC K (C.ca.getD d.k 0) ∧ _
    rw [ha]
    refine ⟨ox, d.i.f, fdAt K d.i.f, d.i.x, d.i.q, d.i.r.st, d.i.r.N, d.i.r.ps, d.fld, ?_, g2, F, F.binds (hbi _ hm), ?_, hi⟩
    · show PySem.W.findIn K (.ref (C.ca.getD d.k 0)) "__init__" = _
      rw [ha]; exact g1
    · show PySem.W.findIn K (.ref (C.ca.getD d.k 0)) d.fld = _
      rw [ha]; exact g3
end
end Ev


set_option Elab.async false
set_option linter.all false
set_option maxRecDepth 100000
set_option maxHeartbeats 1000000
/-! EvH3: from the evaluator's answer to the law. -/
namespace Ev
open PySem PySem.Spec PyProof.Rows L2
def AllD (p : HD → Prop) : List (Option HD) → Prop
  | [] => True
  | none :: r => AllD p r
  | some d :: r => p d ∧ AllD p r
theorem AllD.at {p : HD → Prop} : ∀ {l : List (Option HD)}, AllD p l → ∀ d, some d ∈ l → p d
  | [], _, d, h => by cases h
  | none :: r, h, d, hd => by
    rcases List.mem_cons.mp hd with q | q
    · cases q
    · exact AllD.at (show AllD p r from h) d q
  | some e :: r, h, d, hd => by
    obtain ⟨h1, h2⟩ := (show p e ∧ AllD p r from h)
    rcases List.mem_cons.mp hd with q | q
    · cases q; exact h1
    · exact AllD.at h2 d q
theorem AllD.app {p : HD → Prop} : ∀ {l r : List (Option HD)}, AllD p l → AllD p r → AllD p (l ++ r)
  | [], _, _, h => h
  | none :: l, r, h, k => AllD.app (l := l) h k
  | some e :: l, r, h, k => ⟨h.1, AllD.app h.2 k⟩
theorem rps_ints (W : Wr) (κ : List Addr) (G : Hp) : ∀ ns : List Int, RpL W κ G (ns.map V.int) (ns.map D.int)
  | [] => .nil
  | n :: ns => .cons (.int n) (rps_ints W κ G ns)
/-- what the law's def says, of a list of ints -/
theorem sp_of {T : Tab} {K : PySem.W.Frag} {n k : Nat} (hlaw : ∀ ns : List Int, ns.length ≤ 63 → run T.prog T.G T.sub n k [.scr (ns.map D.int)] [] = some (.bl true, [])) (H : Hp) (a : Addr) (ns : List Int) (hl : ns.length ≤ 63) (hS : SqL K H a (ns.map V.int)) :
    spD (T.W K) T.ca (envN T n) k [.ref a] H (fun v _ => v = .bl true) (fun _ _ _ => False) := by
  refine ⟨[.scr (ns.map D.int)], [], [], H, .cons ?_ .nil, ⟨fun _ _ h => h, rfl, List.nodup_nil, fun k a c h => by simp at h⟩, .inl ⟨.bl true, [], hlaw ns hl, ?_⟩⟩
  · rcases hS with r | ⟨o, its, m, h1, h2, h3, h4, h5, h6⟩
    · exact .scr (by simp) r (rps_ints _ _ _ ns)
    · exact .kscr h1 h2 h3 h4 h5 h6 (rps_ints _ _ _ ns)
  · intro v κ' G' H' _ _ r
    cases r
    rfl
theorem hdf_of {prog : List (Option FnI)} {df : Nat → Bool} (e : ∀ k, df k = (prog.map fun o => o.isSome).getD k false) : ∀ k, df k = true → ∃ f, prog[k]? = some (some f) := by
  intro k h
  rw [e, List.getD_eq_getElem?_getD, List.getElem?_map] at h
  cases q : prog[k]? with
  | none => rw [q] at h; cases h
  | some o =>
    rw [q] at h
    cases o with
    | none => cases h
    | some f => exact ⟨f, rfl⟩
/-- an exception in some world -/
def CXw (P : Program) : CXT := fun outer H s E u s' => ∃ w, L2.CX P w outer H s E u s'
theorem fn_cxw {P : Program} {w : World} {K : PySem.W.Frag} {mg : Str → Option Value} {base : Heap} {k : Nat} {f : Addr} {fd : FuncData} {ps : List Str} {sp : Sp} (F : FnOk P w K mg base (L2.CX P w) k f fd ps sp) : FnOk P w K mg base (CXw P) k f fd ps sp :=
  ⟨F.len, fun A outer s H args us vs Q E hr he hb hv hs => codeAny_mono (F.run A outer s H args us vs Q E hr he hb hv hs) fun r s' hq => by
    cases r with
    | error e => exact ⟨w, hq⟩
    | ok fl => cases fl <;> exact hq⟩
theorem cxw_no {P : Program} (H : Hp) (s : Shared) (e : Value) (s' : Shared) (h : CXw P [] H s (fun _ _ _ => False) e s') : False := by
  obtain ⟨w, h⟩ := h
  obtain ⟨_, _, _, _, _, _, _, _, _, _, _, _, z⟩ := h
  exact z
/-- the head's end: facts, the law's def, its promise -/
theorem end_of {P : Program} {w : World} {K : PySem.W.Frag} {h : Heap} {mg : Str → Option Value} {fa : Addr} {ns : List (Str × Sv)} {dl : List (Option HD)} {tl : List (Addr × List Sv)} {gn : List Str} {Gl : List D} {prog : List (Option FnI)} {df : Nat → Bool} {C : Cls0}
    (X : K.In h) (Gn : h.Ns mainGlobals mg) (S : SaysL (mkL ns dl tl C.inits) K) (SB : ∀ f ∈ C.fB, f K = true) (e : prog = dl.map fun o => o.map fun d => d.r.f) (ok : (dl.all fun o => match o with | some d => okFn gn df C.cn C.rs d.r | none => true) = true) (hb : ∀ d, some d ∈ dl → BindsH d) (hbi : ∀ d ∈ C.inits, BindsH d) (hdf : ∀ k, df k = true → ∃ f, prog[k]? = some (some f))
    (cg : allZ (globB ns dl tl) gn Gl = true) (cn : allZ (nameB ns) gn dl = true) (cb : (bltNs.all fun x => decide (nsFind ns x = none)) = true) (cgcd : nsFind ns "gcd" = some (.bi "math.gcd")) (hC : C.okI ns = true)
    {i n : Nat} {d : HD} {x : Str} (hi : dl[i]? = some (some d)) (hn : gn[i]? = some "law") (hps : d.r.ps = [x]) (hmg : mg "law" = some (.ref fa)) (hlaw : ∀ ns : List Int, ns.length ≤ 63 → run prog Gl (subOf C.subs) n i [.scr (ns.map D.int)] [] = some (.bl true, [])) :
    ∃ (K : PySem.W.Frag) (fd : FuncData) (sp : Sp), K.In h ∧ (∀ (s : Shared) (u : Value), BindsTo s fd ⟨[u], []⟩ [(x, u)]) ∧
      (∀ (H : Hp) (a : Addr) (ns : List Int), ns.length ≤ 63 → Only H → SqL K H a (ns.map V.int) → sp [.ref a] H (fun v _ => v = .bl true) fun _ _ _ => False) ∧
      ∀ base : Heap, K.In base → base.Ns mainGlobals mg → FnOk P w K mg base (CXw P) (n + 2) fa fd [x] sp := by
  let T := tabOf K dl gn Gl prog C.cn C.ca C.subs
  have M : ∀ base, Facts P w K mg base T df C.rs := fun base => facts_of X Gn S SB e ok hb hbi hdf cg cn cb cgcd hC
  have hp : prog[i]? = some (some d.r.f) := by rw [e, List.getElem?_map, hi]; rfl
  have hfa : T.fa i = d.f := by show faOf dl i = _; unfold faOf; rw [hi]
  have ha : fa = d.f := by
    have := (M h).mgd i "law" _ hn hp
    rw [hmg] at this
    have := Option.some.inj this
    injection this with this
    rw [this, hfa]
  subst ha
  have hm : some d ∈ dl := List.mem_of_getElem? hi
  have F := ent_dl S hm
  have hpsT : T.ps i = [x] := by show psOf dl i = _; unfold psOf; rw [hi]; exact hps
  have hfd : T.fd i = fdAt K d.f := by show fdAt K (faOf dl i) = _; rw [show faOf dl i = d.f from hfa]
  refine ⟨K, fdAt K d.f, spD (T.W K) T.ca (envN T n) i, X, fun s u => ?_, fun H a ns hl _ hS => sp_of hlaw H a ns hl hS, fun base _ _ => ?_⟩
  · obtain ⟨oc, od, kV, doc, pm, an, cdv, ct, osl, e1, _, _⟩ := F.ex
    rw [e1]
    have := hb d hm kV doc pm an cdv ct [u] (by rw [hps]; rfl)
    rw [hps] at this
    exact .of_eq this
  · have := sound (M base) n i _ hp
    rw [hfa, hfd, hpsT] at this
    exact fn_cxw this
end Ev


set_option maxRecDepth 100000
namespace Ir
open Ev PySem
def ir_is_whole : FnI := ⟨1, 1, [.ret (.and [.blt .isinst [.var 0, .bty "int"], .not (.blt .isinst [.var 0, .bty "bool"])])]⟩
def ir_is_between : FnI := ⟨3, 3, [.ret (.and [.call 1 [.var 0], .chain .le .le (.var 1) (.var 0) (.var 2)])]⟩
def ir_is_tuple_of : FnI := ⟨2, 2, [.ret (.and [.blt .isinst [.var 0, .bty "tuple"], .cmp .eq (.blt .len [.var 0]) (.var 1)])]⟩
def ir_first_wrong : FnI := ⟨4, 6, [.ife (.or [.not (.blt .isinst [.var 0, .bty "tuple"]), .not (.chain .le .le (.var 1) (.blt .len [.var 0]) (.var 2))]) [.ret (.lst [.non])] [],
    .ret (.sl (.comp [4, 5] (.many [4, 5]) .enum [.var 0] [.not (.callv 3 [.var 5])] (.var 4)) [] [.int 1])]⟩
def ir_are_indexes : FnI := ⟨2, 3, [.ret (.and [.blt .isinst [.var 1, .bty "tuple"], .blt .all [.comp [2] (.one 2) .seq [.var 1] [] (.call 2 [.var 2, .int 0, .bin .sub (.var 0) (.int 1)])]])]⟩
def ir_are_rising : FnI := ⟨1, 2, [.ret (.blt .all [.comp [1] (.one 1) .range [.int 1, .blt .len [.var 0]] [] (.cmp .lt (.ix (.var 0) (.bin .sub (.var 1) (.int 1))) (.ix (.var 0) (.var 1)))])]⟩
def ir_fraction : FnI := ⟨2, 3, [.asg (.nm 2) (.bin .mul (.blt .gcd [.var 0, .var 1]) (.ife (.cmp .gt (.var 1) (.int 0)) (.int 1) (.neg (.int 1)))),
    .ret (.tup [.bin .fdiv (.var 0) (.var 2), .bin .fdiv (.var 1) (.var 2)])]⟩
def ir_whole : FnI := ⟨1, 1, [.ret (.tup [.var 0, .int 1])]⟩
def ir_sum_of : FnI := ⟨2, 2, [.ret (.call 7 [.bin .add (.bin .mul (.ix (.var 0) (.int 0)) (.ix (.var 1) (.int 1))) (.bin .mul (.ix (.var 1) (.int 0)) (.ix (.var 0) (.int 1))), .bin .mul (.ix (.var 0) (.int 1)) (.ix (.var 1) (.int 1))])]⟩
def ir_less : FnI := ⟨2, 2, [.ret (.call 7 [.bin .sub (.bin .mul (.ix (.var 0) (.int 0)) (.ix (.var 1) (.int 1))) (.bin .mul (.ix (.var 1) (.int 0)) (.ix (.var 0) (.int 1))), .bin .mul (.ix (.var 0) (.int 1)) (.ix (.var 1) (.int 1))])]⟩
def ir_times : FnI := ⟨2, 2, [.ret (.call 7 [.bin .mul (.ix (.var 0) (.int 0)) (.ix (.var 1) (.int 0)), .bin .mul (.ix (.var 0) (.int 1)) (.ix (.var 1) (.int 1))])]⟩
def ir_is_less : FnI := ⟨2, 2, [.ret (.cmp .lt (.bin .mul (.ix (.var 0) (.int 0)) (.ix (.var 1) (.int 1))) (.bin .mul (.ix (.var 1) (.int 0)) (.ix (.var 0) (.int 1))))]⟩
def ir_greater_of : FnI := ⟨2, 2, [.ret (.ife (.call 12 [.var 0, .var 1]) (.var 1) (.var 0))]⟩
def ir_lesser_of : FnI := ⟨2, 2, [.ret (.ife (.call 12 [.var 1, .var 0]) (.var 1) (.var 0))]⟩
def ir_greatest_of : FnI := ⟨1, 3, [.asg (.nm 1) (.ix (.var 0) (.int 0)),
    .for_ (.one 2) .seq [.sl (.var 0) [.int 1] []] [.asg (.nm 1) (.call 13 [.var 1, .var 2])],
    .ret (.var 1)]⟩
def ir_least_of : FnI := ⟨1, 3, [.asg (.nm 1) (.ix (.var 0) (.int 0)),
    .for_ (.one 2) .seq [.sl (.var 0) [.int 1] []] [.asg (.nm 1) (.call 14 [.var 1, .var 2])],
    .ret (.var 1)]⟩
def ir_is_road : FnI := ⟨2, 2, [.ret (.and [.call 3 [.var 1, .int 2], .call 5 [.var 0, .var 1], .cmp .ne (.ix (.var 1) (.int 0)) (.ix (.var 1) (.int 1))])]⟩
def ir_are_roads : FnI := ⟨2, 3, [.ret (.and [.blt .isinst [.var 1, .bty "tuple"], .blt .all [.comp [2] (.one 2) .seq [.var 1] [] (.call 20 [.var 0, .var 2])], .call 6 [.var 1]])]⟩
def ir_is_board_by : FnI := ⟨1, 1, [.ife (.or [.not (.call 3 [.var 0, .int 2]), .not (.call 2 [.ix (.var 0) (.glob 18), .int 1, .glob 17])]) [.ret (.bl false)] [],
    .ret (.and [.call 21 [.ix (.var 0) (.glob 18), .ix (.var 0) (.glob 19)], .call 28 [.var 0]])]⟩
def ir_places_of : FnI := ⟨1, 1, [.ret (.listRg [.ix (.var 0) (.glob 18)])]⟩
def ir_next_places_by : FnI := ⟨2, 4, [.ret (.blt .tuple [.comp [2, 3] (.many [2, 3]) .seq [.ix (.var 0) (.glob 19)] [.cmp .eq (.var 2) (.var 1)] (.var 3)])]⟩
def ir_ends_by : FnI := ⟨1, 2, [.ret (.blt .tuple [.comp [1] (.one 1) .seq [.call 23 [.var 0]] [.cmp .eq (.call 24 [.var 0, .var 1]) (.tup [])] (.var 1)])]⟩
def ir_inner_by : FnI := ⟨1, 2, [.ret (.blt .tuple [.comp [1] (.one 1) .seq [.call 23 [.var 0]] [.cmp .ne (.call 24 [.var 0, .var 1]) (.tup [])] (.var 1)])]⟩
def ir_with_those_ahead : FnI := ⟨2, 6, [.asg (.nm 2) (.comp [3, 4] (.many [3, 4]) .seq [.ix (.var 0) (.glob 19)] [.cmp .inI (.var 4) (.var 1)] (.var 3)),
    .ret (.comp [5] (.one 5) .seq [.call 23 [.var 0]] [.or [.cmp .inI (.var 5) (.var 1), .cmp .inI (.var 5) (.var 2)]] (.var 5))]⟩
def ir_do_all_end : FnI := ⟨1, 3, [.asg (.nm 1) (.blt .list [.call 25 [.var 0]]),
    .for_ (.one 2) .seq [.call 23 [.var 0]] [.asg (.nm 1) (.call 27 [.var 0, .var 1])],
    .ret (.cmp .eq (.blt .len [.var 1]) (.ix (.var 0) (.glob 18)))]⟩
def ir_last_ones : FnI := ⟨2, 4, [.ret (.comp [2] (.one 2) .seq [.var 1] [.not (.blt .any [.comp [3] (.one 3) .seq [.call 24 [.var 0, .var 2]] [] (.cmp .inI (.var 3) (.var 1))])] (.var 2))]⟩
def ir_left_in_rings : FnI := ⟨1, 5, [.par [1, 2] [.call 23 [.var 0], .tup []],
    .asg (.nm 3) (.call 29 [.var 0, .var 1]),
    .whl (.cmp .ne (.var 3) (.lst [])) [.asg (.nm 2) (.bin .add (.blt .tuple [.var 3]) (.var 2)), .asg (.nm 1) (.comp [4] (.one 4) .seq [.var 1] [.cmp .notIn (.var 4) (.var 3)] (.var 4)), .asg (.nm 3) (.call 29 [.var 0, .var 1])],
    .ret (.tup [.var 1, .var 2])]⟩
def ir_an_order_by : FnI := ⟨1, 3, [.asg (.tup [.nm 1, .nm 2]) (.call 30 [.var 0]),
    .ret (.ife (.cmp .eq (.var 1) (.lst [])) (.var 2) (.non))]⟩
def ir_half_of : FnI := ⟨2, 2, [.ret (.call 11 [.glob 33, .call 9 [.var 0, .var 1]])]⟩
def ir_half_next : FnI := ⟨3, 5, [.asg (.nm 3) (.comp [4] (.one 4) .seq [.call 24 [.var 0, .var 2]] [] (.ix (.var 1) (.var 4))),
    .ret (.call 36 [.call 15 [.var 3], .call 16 [.var 3]])]⟩
def ir_stake_of : FnI := ⟨3, 3, [.ret (.call 8 [.ix (.var 1) (.mt .index (.call 25 [.var 0]) [.var 2])])]⟩
def ir_due_at : FnI := ⟨4, 4, [.ife (.cmp .inI (.var 3) (.call 25 [.var 0])) [.ret (.call 38 [.var 0, .var 1, .var 3])] [],
    .ret (.call 37 [.var 0, .var 2, .var 3])]⟩
def ir_wrong_places : FnI := ⟨3, 4, [.ret (.comp [3] (.one 3) .seq [.call 23 [.var 0]] [.cmp .ne (.ix (.var 2) (.var 3)) (.call 39 [.var 0, .var 1, .var 2, .var 3])] (.var 3))]⟩
def ir_halved_at : FnI := ⟨4, 6, [.asg (.nm 4) (.comp [5] (.one 5) .seq [.ix (.var 0) (.var 2)] [] (.ix (.var 1) (.var 5))),
    .ret (.ife (.cmp .ne (.var 4) (.lst [])) (.bin .fdiv (.bin .add (.bin .add (.blt .max [.var 4]) (.blt .min [.var 4])) (.var 3)) (.int 2)) (.ix (.var 1) (.var 2)))]⟩
def ir_halved : FnI := ⟨3, 7, [.asg (.tup [.nm 3, .nm 4]) (.tup [.var 1, .listRg [.blt .len [.var 1]]]),
    .for_ (.one 5) .range [.glob 34] [.asg (.nm 3) (.comp [6] (.one 6) .seq [.var 4] [] (.call 41 [.var 0, .var 3, .var 6, .var 2]))],
    .ret (.var 3)]⟩
def ir_first_rows : FnI := ⟨3, 5, [.asg (.nm 3) (.call 25 [.var 0]),
    .ret (.comp [4] (.one 4) .seq [.call 23 [.var 0]] [] (.ife (.cmp .inI (.var 4) (.var 3)) (.bin .mul (.ix (.var 1) (.mt .index (.var 3) [.var 4])) (.glob 32)) (.bin .mul (.var 2) (.glob 32))))]⟩
def ir_simplest_between : FnI := ⟨2, 4, [.asg (.nm 2) (.bin .fdiv (.ix (.var 0) (.int 0)) (.ix (.var 0) (.int 1))),
    .ife (.cmp .eq (.bin .mul (.var 2) (.ix (.var 0) (.int 1))) (.ix (.var 0) (.int 0))) [.ret (.call 8 [.var 2])] [],
    .ife (.not (.call 12 [.var 1, .call 8 [.bin .add (.var 2) (.int 1)]])) [.ret (.call 8 [.bin .add (.var 2) (.int 1)])] [],
    .asg (.nm 3) (.call 44 [.call 45 [.call 10 [.var 1, .call 8 [.var 2]]], .call 45 [.call 10 [.var 0, .call 8 [.var 2]]]]),
    .ret (.call 9 [.call 8 [.var 2], .call 45 [.var 3]])]⟩
def ir_turned_about : FnI := ⟨1, 1, [.ret (.tup [.ix (.var 0) (.int 1), .ix (.var 0) (.int 0)])]⟩
def ir_guess : FnI := ⟨2, 4, [.ret (.blt .tuple [.comp [2, 3] (.many [2, 3]) .zip [.var 0, .var 1] [] (.call 44 [.call 7 [.var 2, .glob 32], .call 7 [.var 3, .glob 32]])])]⟩
def ir_values_round : FnI := ⟨2, 7, [.asg (.nm 2) (.comp [6] (.one 6) .seq [.call 23 [.var 0]] [] (.call 24 [.var 0, .var 6])),
    .par [3, 4] [.call 43 [.var 0, .var 1, .blt .min [.var 1]], .call 43 [.var 0, .var 1, .blt .max [.var 1]]],
    .asg (.nm 5) (.call 46 [.var 3, .var 4]),
    .whl (.cmp .ne (.call 40 [.var 0, .var 1, .var 5]) (.lst [])) [.par [3, 4] [.call 42 [.var 2, .var 3, .int 0], .call 42 [.var 2, .var 4, .int 1]], .asg (.nm 5) (.call 46 [.var 3, .var 4])],
    .ret (.var 5)]⟩
def ir_values_in_order : FnI := ⟨3, 6, [.asg (.nm 3) (.mk (.comp [5] (.one 5) .seq [.call 23 [.var 0]] [] (.glob 0))),
    .for_ (.one 4) .seq [.rev (.var 2)] [.asg (.sub (.var 3) (.var 4)) (.call 39 [.var 0, .var 1, .var 3, .var 4])],
    .ret (.blt .tuple [.var 3])]⟩
def ir_values_by : FnI := ⟨2, 3, [.asg (.nm 2) (.call 31 [.var 0]),
    .ret (.ife (.cmp .isNot (.var 2) (.non)) (.call 48 [.var 0, .var 1, .var 2]) (.call 47 [.var 0, .var 1]))]⟩
def ir_check_board : FnI := ⟨1, 1, [.ife (.not (.call 22 [.var 0])) [.raiseX 1 [.var 0]] []]⟩
def ir_is_stake : FnI := ⟨1, 1, [.ret (.call 2 [.var 0, .int 0, .glob 35])]⟩
def ir_wrong_in_stakes : FnI := ⟨2, 3, [.asg (.nm 2) (.blt .len [.call 25 [.var 0]]),
    .ret (.call 4 [.var 1, .var 2, .var 2, .glob 51])]⟩
def ir_check_stakes : FnI := ⟨2, 3, [.ex (.call 50 [.var 0]),
    .for_ (.one 2) .seq [.call 52 [.var 0, .var 1]] [.raiseX 5 [.var 2]]]⟩
def ir_check_place : FnI := ⟨2, 2, [.ife (.not (.call 2 [.var 1, .int 0, .bin .sub (.blt .len [.call 23 [.var 0]]) (.int 1)])) [.raiseX 3 [.var 1]] []]⟩
def ir_check_board_place : FnI := ⟨2, 2, [.ex (.call 50 [.var 0]),
    .ex (.call 54 [.var 0, .var 1])]⟩
def ir_is_board : FnI := ⟨1, 1, [.ret (.call 22 [.var 0])]⟩
def ir_has_same_ends : FnI := ⟨2, 2, [.ret (.and [.call 22 [.var 1], .cmp .eq (.call 25 [.var 1]) (.call 25 [.var 0])])]⟩
def ir_road_more : FnI := ⟨2, 3, [.ife (.cmp .inI (.var 1) (.ix (.var 0) (.glob 19))) [.ret (.lst [])] [],
    .asg (.nm 2) (.tup [.ix (.var 0) (.glob 18), .blt .tuple [.blt .sorted [.tup [.star (.ix (.var 0) (.glob 19)), .var 1]]]]),
    .ret (.ife (.call 57 [.var 0, .var 2]) (.lst [.var 2]) (.lst []))]⟩
def ir_road_less : FnI := ⟨2, 4, [.ife (.cmp .notIn (.var 1) (.ix (.var 0) (.glob 19))) [.ret (.lst [])] [],
    .asg (.nm 2) (.tup [.ix (.var 0) (.glob 18), .blt .tuple [.comp [3] (.one 3) .seq [.ix (.var 0) (.glob 19)] [.cmp .ne (.var 3) (.var 1)] (.var 3)]]),
    .ret (.ife (.call 57 [.var 0, .var 2]) (.lst [.var 2]) (.lst []))]⟩
def ir_unlike_rising : FnI := ⟨1, 4, [.asg (.nm 1) (.mk (.lst [])),
    .for_ (.one 2) .seq [.var 0] [.ife (.cmp .notIn (.var 2) (.var 1)) [.ex (.mt .insert (.var 1) [.blt .len [.comp [3] (.one 3) .seq [.var 1] [.call 12 [.var 3, .var 2]] (.var 3)], .var 2])] []],
    .ret (.var 1)]⟩
def ir_lots_alike_by : FnI := ⟨2, 6, [.asg (.tup [.nm 2, .nm 3]) (.tup [.call 49 [.var 0, .var 1], .call 23 [.var 0]]),
    .ret (.blt .tuple [.comp [4] (.one 4) .seq [.call 60 [.var 2]] [] (.blt .tuple [.comp [5] (.one 5) .seq [.var 3] [.cmp .eq (.ix (.var 2) (.var 5)) (.var 4)] (.var 5)])])]⟩
def ir_is_flat : FnI := ⟨3, 5, [.asg (.nm 3) (.call 24 [.var 0, .var 2]),
    .ret (.blt .all [.comp [4] (.one 4) .seq [.var 3] [] (.cmp .eq (.ix (.var 1) (.var 4)) (.ix (.var 1) (.ix (.var 3) (.int 0))))])]⟩
def ir_flat_places_by : FnI := ⟨2, 4, [.asg (.nm 2) (.call 49 [.var 0, .var 1]),
    .ret (.blt .tuple [.comp [3] (.one 3) .seq [.call 26 [.var 0]] [.call 62 [.var 0, .var 2, .var 3]] (.var 3)])]⟩
def ir_check_found : FnI := ⟨2, 2, [.ife (.cmp .eq (.var 0) (.lst [])) [.raiseX 2 [.var 1]] []]⟩
def ir_with_road : FnI := ⟨3, 4, [.ex (.call 55 [.var 0, .var 1]),
    .ex (.call 54 [.var 0, .var 2]),
    .asg (.nm 3) (.call 58 [.var 0, .tup [.var 1, .var 2]]),
    .ex (.call 64 [.var 3, .tup [.var 1, .var 2]]),
    .ret (.ix (.var 3) (.int 0))]⟩
def ir_without_road : FnI := ⟨3, 4, [.ex (.call 55 [.var 0, .var 1]),
    .ex (.call 54 [.var 0, .var 2]),
    .asg (.nm 3) (.call 59 [.var 0, .tup [.var 1, .var 2]]),
    .ex (.call 64 [.var 3, .tup [.var 1, .var 2]]),
    .ret (.ix (.var 3) (.int 0))]⟩
def ir_lots_alike : FnI := ⟨2, 2, [.ex (.call 53 [.var 0, .var 1]),
    .ret (.call 61 [.var 0, .var 1])]⟩
def ir_flat_places : FnI := ⟨2, 2, [.ex (.call 53 [.var 0, .var 1]),
    .ret (.call 63 [.var 0, .var 1])]⟩
def ir_is_used : FnI := ⟨3, 5, [.asg (.nm 3) (.comp [4] (.one 4) .seq [.call 24 [.var 0, .ix (.var 2) (.int 0)]] [] (.ix (.var 1) (.var 4))),
    .ret (.cmp .inI (.ix (.var 1) (.ix (.var 2) (.int 1))) (.tup [.call 16 [.var 3], .call 15 [.var 3]]))]⟩
def ir_used_roads_by : FnI := ⟨2, 4, [.asg (.nm 2) (.call 49 [.var 0, .var 1]),
    .ret (.blt .tuple [.comp [3] (.one 3) .seq [.ix (.var 0) (.glob 19)] [.call 69 [.var 0, .var 2, .var 3]] (.var 3)])]⟩
def ir_lean_board_by : FnI := ⟨2, 2, [.ret (.tup [.ix (.var 0) (.glob 18), .call 70 [.var 0, .var 1]])]⟩
def ir_used_roads : FnI := ⟨2, 2, [.ex (.call 53 [.var 0, .var 1]),
    .ret (.call 70 [.var 0, .var 1])]⟩
def ir_lean_board : FnI := ⟨2, 2, [.ex (.call 53 [.var 0, .var 1]),
    .ret (.call 71 [.var 0, .var 1])]⟩
def ir_values : FnI := ⟨2, 2, [.ex (.call 53 [.var 0, .var 1]),
    .ret (.call 49 [.var 0, .var 1])]⟩
def ir_is_figures : FnI := ⟨1, 2, [.ife (.or [.cmp .eq (.var 0) (.str ""), .blt .any [.comp [1] (.one 1) .seq [.var 0] [] (.cmp .notIn (.var 1) (.glob 75))]]) [.ret (.bl false)] [],
    .ret (.or [.cmp .eq (.var 0) (.str "0"), .cmp .ne (.ix (.var 0) (.int 0)) (.str "0")])]⟩
def ir_numbers_in : FnI := ⟨1, 2, [.ret (.ife (.blt .all [.comp [1] (.one 1) .seq [.var 0] [] (.call 79 [.var 1])]) (.lst [.blt .tuple [.comp [1] (.one 1) .seq [.var 0] [] (.blt .int [.var 1])]]) (.lst []))]⟩
def ir_numbers_text : FnI := ⟨1, 2, [.ret (.mt .join (.glob 76) [.comp [1] (.one 1) .seq [.var 0] [] (.blt .str [.var 1])])]⟩
def ir_text_of_board : FnI := ⟨1, 4, [.asg (.nm 1) (.bin .add (.lst [.mt .join (.glob 76) [.tup [.glob 78, .blt .str [.ix (.var 0) (.glob 18)]]]]) (.comp [2] (.one 2) .seq [.ix (.var 0) (.glob 19)] [] (.call 81 [.var 2]))),
    .ret (.mt .join (.str "") [.comp [3] (.one 3) .seq [.var 1] [] (.bin .add (.var 3) (.glob 77))])]⟩
def ir_many_in : FnI := ⟨1, 3, [.asg (.nm 1) (.mt .split (.var 0) [.glob 76]),
    .ret (.ife (.and [.cmp .eq (.blt .len [.var 1]) (.int 2), .cmp .eq (.ix (.var 1) (.int 0)) (.glob 78)]) (.comp [2] (.one 2) .seq [.call 80 [.sl (.var 1) [.int 1] []]] [] (.ix (.var 2) (.int 0))) (.lst []))]⟩
def ir_board_with_text : FnI := ⟨1, 6, [.asg (.nm 1) (.ife (.mt .endswith (.var 0) [.glob 77]) (.mt .split (.sl (.var 0) [] [.neg (.int 1)]) [.glob 77]) (.lst [.str ""])),
    .asg (.nm 2) (.blt .tuple [.comp2 [3, 4] (.one 3) .seq [.sl (.var 1) [.int 1] []] (.one 4) .seq [.call 80 [.mt .split (.var 3) [.glob 76]]] (.var 4)]),
    .ife (.cmp .ne (.blt .len [.var 2]) (.bin .sub (.blt .len [.var 1]) (.int 1))) [.ret (.lst [])] [],
    .ret (.comp [5] (.one 5) .seq [.call 83 [.ix (.var 1) (.int 0)]] [.call 22 [.tup [.var 5, .var 2]]] (.tup [.var 5, .var 2]))]⟩
def ir_board_text : FnI := ⟨1, 1, [.ex (.call 50 [.var 0]),
    .ret (.call 82 [.var 0])]⟩
def ir_read_board : FnI := ⟨1, 2, [.asg (.nm 1) (.ife (.blt .isinst [.var 0, .bty "str"]) (.call 84 [.var 0]) (.lst [])),
    .ife (.cmp .eq (.var 1) (.lst [])) [.raiseX 4 [.var 0]] [],
    .ret (.ix (.var 1) (.int 0))]⟩
def ir__law_well : FnI := ⟨2, 5, [.asg (.nm 2) (.ife (.cmp .lt (.var 1) (.blt .len [.var 0])) (.blt .int [.ix (.var 0) (.var 1)]) (.int 0)),
    .asg (.nm 3) (.bin .add (.int 52027) (.bin .mul (.int 6971) (.var 1))),
    .for_ (.one 4) .seq [.bin .add (.sl (.var 0) [] [.int 8]) (.lst [.var 2])] [.asg (.nm 3) (.bin .mod (.blt .int [.bin .add (.bin .add (.bin .mul (.var 3) (.int 44497)) (.bin .mod (.blt .int [.var 4]) (.int 2147483587))) (.int 29)]) (.int 2147483563))],
    .retC (.mk (.lst [.ife (.or [.cmp .lt (.var 2) (.int 0), .cmp .ge (.var 2) (.bin .pow (.int 10) (.int 18))]) (.blt .abs [.var 2]) (.int 0), .var 3, .int 0]))]⟩
def ir__law_take : FnI := ⟨2, 3, [.ife (.cmp .gt (.ix (.var 0) (.int 0)) (.int 0)) [.asg (.tup [.sub (.var 0) (.int 0), .nm 2]) (.blt .divmod [.ix (.var 0) (.int 0), .var 1]), .ret (.var 2)] [],
    .asg (.sub (.var 0) (.int 2)) (.bin .add (.ix (.var 0) (.int 2)) (.int 1)),
    .asg (.sub (.var 0) (.int 1)) (.bin .mod (.blt .int [.bin .add (.bin .add (.bin .mul (.ix (.var 0) (.int 1)) (.int 39373)) (.bin .mul (.ix (.var 0) (.int 2)) (.int 30323))) (.int 11)]) (.int 2147483543)),
    .ret (.bin .mod (.blt .int [.bin .fdiv (.ix (.var 0) (.int 1)) (.int 128)]) (.var 1))]⟩
def ir__law_same : FnI := ⟨2, 3, [.ife (.or [.and [.blt .isinst [.var 1, .bty "tuple"], .not (.blt .isinst [.var 0, .bty "tuple"])], .and [.blt .isinst [.var 1, .bty "list"], .not (.blt .isinst [.var 0, .bty "list"])]]) [.ret (.bl false)] [],
    .ife (.blt .isinst [.var 1, .tup [.bty "tuple", .bty "list"]]) [.ret (.and [.cmp .eq (.blt .len [.var 0]) (.blt .len [.var 1]), .blt .all [.comp [2] (.one 2) .range [.blt .len [.var 1]] [] (.call 89 [.ix (.var 0) (.var 2), .ix (.var 1) (.var 2)])]])] [],
    .ife (.or [.cmp .isI (.var 1) (.non), .cmp .isI (.var 0) (.non)]) [.ret (.and [.cmp .isI (.var 1) (.non), .cmp .isI (.var 0) (.non)])] [],
    .ife (.or [.blt .isinst [.var 1, .bty "bool"], .blt .isinst [.var 0, .bty "bool"]]) [.ret (.and [.blt .isinst [.var 1, .bty "bool"], .blt .isinst [.var 0, .bty "bool"], .cmp .eq (.var 1) (.var 0)])] [],
    .ife (.blt .isinst [.var 1, .bty "int"]) [.ret (.and [.blt .isinst [.var 0, .bty "int"], .cmp .eq (.var 0) (.var 1)])] [],
    .ife (.blt .isinst [.var 1, .bty "str"]) [.ret (.and [.blt .isinst [.var 0, .bty "str"], .cmp .eq (.var 0) (.var 1)])] [],
    .ret (.and [.blt .isinst [.var 1, .bty "dict"], .blt .isinst [.var 0, .bty "dict"], .cmp .eq (.blt .len [.var 0]) (.blt .len [.var 1]), .cmp .eq (.var 0) (.var 1)])]⟩
def ir__law_part : FnI := ⟨2, 4, [.ife (.cmp .lt (.var 1) (.int 0)) [.par [0, 1] [.bin .sub (.int 0) (.var 0), .bin .sub (.int 0) (.var 1)]] [],
    .par [2, 3] [.blt .abs [.var 0], .var 1],
    .whl (.cmp .gt (.var 3) (.int 0)) [.par [2, 3] [.var 3, .bin .mod (.blt .int [.var 2]) (.var 3)]],
    .ret (.tup [.bin .fdiv (.var 0) (.var 2), .bin .fdiv (.var 1) (.var 2)])]⟩
def ir__law_plus : FnI := ⟨2, 2, [.ret (.call 90 [.bin .add (.bin .mul (.ix (.var 0) (.int 0)) (.ix (.var 1) (.int 1))) (.bin .mul (.ix (.var 1) (.int 0)) (.ix (.var 0) (.int 1))), .bin .mul (.ix (.var 0) (.int 1)) (.ix (.var 1) (.int 1))])]⟩
def ir__law_by : FnI := ⟨2, 2, [.ret (.call 90 [.bin .mul (.ix (.var 0) (.int 0)) (.ix (.var 1) (.int 0)), .bin .mul (.ix (.var 0) (.int 1)) (.ix (.var 1) (.int 1))])]⟩
def ir__law_is_below : FnI := ⟨2, 2, [.ret (.cmp .lt (.bin .mul (.ix (.var 0) (.int 0)) (.ix (.var 1) (.int 1))) (.bin .mul (.ix (.var 1) (.int 0)) (.ix (.var 0) (.int 1))))]⟩
def ir__law_is_number : FnI := ⟨1, 1, [.ret (.and [.blt .isinst [.var 0, .bty "int"], .not (.blt .isinst [.var 0, .bty "bool"])])]⟩
def ir__law_is_fraction : FnI := ⟨1, 2, [.ife (.or [.not (.blt .isinst [.var 0, .bty "tuple"]), .cmp .ne (.blt .len [.var 0]) (.int 2), .not (.blt .all [.comp [1] (.one 1) .seq [.var 0] [] (.call 94 [.var 1])]), .cmp .lt (.ix (.var 0) (.int 1)) (.int 1)]) [.ret (.bl false)] [],
    .ret (.cmp .eq (.call 90 [.ix (.var 0) (.int 0), .ix (.var 0) (.int 1)]) (.var 0))]⟩
def ir__law_next : FnI := ⟨2, 4, [.ret (.comp [2, 3] (.many [2, 3]) .seq [.ix (.var 0) (.int 1)] [.cmp .eq (.var 2) (.var 1)] (.var 3))]⟩
def ir__law_ends : FnI := ⟨1, 2, [.ret (.comp [1] (.one 1) .range [.ix (.var 0) (.int 0)] [.cmp .eq (.call 96 [.var 0, .var 1]) (.lst [])] (.var 1))]⟩
def ir__law_is_board : FnI := ⟨1, 4, [.ife (.or [.not (.blt .isinst [.var 0, .bty "tuple"]), .cmp .ne (.blt .len [.var 0]) (.int 2), .not (.call 94 [.ix (.var 0) (.int 0)]), .not (.chain .le .le (.int 1) (.ix (.var 0) (.int 0)) (.int 8)), .not (.blt .isinst [.ix (.var 0) (.int 1), .bty "tuple"])]) [.ret (.bl false)] [],
    .for_ (.one 1) .seq [.ix (.var 0) (.int 1)] [.ife (.or [.not (.blt .isinst [.var 1, .bty "tuple"]), .cmp .ne (.blt .len [.var 1]) (.int 2), .not (.blt .all [.comp [2] (.one 2) .seq [.var 1] [] (.and [.call 94 [.var 2], .chain .le .lt (.int 0) (.var 2) (.ix (.var 0) (.int 0))])]), .cmp .eq (.ix (.var 1) (.int 0)) (.ix (.var 1) (.int 1))]) [.ret (.bl false)] []],
    .ife (.blt .any [.comp [3] (.one 3) .range [.int 1, .blt .len [.ix (.var 0) (.int 1)]] [] (.cmp .le (.ix (.ix (.var 0) (.int 1)) (.var 3)) (.ix (.ix (.var 0) (.int 1)) (.bin .sub (.var 3) (.int 1))))]) [.ret (.bl false)] [],
    .ret (.cmp .eq (.call 99 [.var 0]) (.listRg [.ix (.var 0) (.int 0)]))]⟩
def ir__law_reach : FnI := ⟨1, 5, [.asg (.nm 1) (.call 97 [.var 0]),
    .for_ (.one 2) .range [.ix (.var 0) (.int 0)] [.asg (.nm 1) (.comp [3] (.one 3) .range [.ix (.var 0) (.int 0)] [.or [.cmp .inI (.var 3) (.var 1), .blt .any [.comp [4] (.one 4) .seq [.call 96 [.var 0, .var 3]] [] (.cmp .inI (.var 4) (.var 1))]]] (.var 3))],
    .ret (.var 1)]⟩
def ir__law_are_values : FnI := ⟨3, 8, [.ife (.or [.not (.blt .isinst [.var 2, .bty "tuple"]), .cmp .ne (.blt .len [.var 2]) (.ix (.var 0) (.int 0)), .not (.blt .all [.comp [6] (.one 6) .seq [.var 2] [] (.call 95 [.var 6])])]) [.ret (.bl false)] [],
    .asg (.nm 3) (.call 97 [.var 0]),
    .for_ (.one 4) .range [.ix (.var 0) (.int 0)] [.ife (.cmp .inI (.var 4) (.var 3)) [.ife (.cmp .ne (.ix (.var 2) (.var 4)) (.tup [.ix (.var 1) (.mt .index (.var 3) [.var 4]), .int 1])) [.ret (.bl false)] []] [.asg (.nm 5) (.comp [7] (.one 7) .seq [.call 96 [.var 0, .var 4]] [] (.ix (.var 2) (.var 7))), .ife (.cmp .ne (.ix (.var 2) (.var 4)) (.call 92 [.tup [.int 1, .int 2], .call 91 [.call 101 [.var 5], .call 102 [.var 5]]])) [.ret (.bl false)] []]],
    .ret (.bl true)]⟩
def ir__law_most : FnI := ⟨1, 3, [.asg (.nm 1) (.ix (.var 0) (.int 0)),
    .for_ (.one 2) .seq [.var 0] [.asg (.nm 1) (.ife (.call 93 [.var 1, .var 2]) (.var 2) (.var 1))],
    .ret (.var 1)]⟩
def ir__law_fewest : FnI := ⟨1, 3, [.asg (.nm 1) (.ix (.var 0) (.int 0)),
    .for_ (.one 2) .seq [.var 0] [.asg (.nm 1) (.ife (.call 93 [.var 2, .var 1]) (.var 2) (.var 1))],
    .ret (.var 1)]⟩
def ir__law_paved : FnI := ⟨2, 2, [.ret (.tup [.ix (.var 0) (.int 0), .blt .tuple [.blt .sorted [.bin .add (.ix (.var 0) (.int 1)) (.tup [.var 1])]]])]⟩
def ir__law_closed : FnI := ⟨2, 3, [.ret (.tup [.ix (.var 0) (.int 0), .blt .tuple [.comp [2] (.one 2) .seq [.ix (.var 0) (.int 1)] [.cmp .ne (.var 2) (.var 1)] (.var 2)]])]⟩
def ir__law_changed : FnI := ⟨3, 3, [.tryE [.ret (.callv 0 [.var 1, .ix (.var 2) (.int 0), .ix (.var 2) (.int 1)])] 0 [.ret (.non)]]⟩
def ir__law_is_told : FnI := ⟨2, 21, [.asg (.nm 2) (.call 97 [.var 0]),
    .for_ (.one 3) .seq [.var 1] [.par [4, 5] [.call 103 [.var 0, .var 3], .call 104 [.var 0, .var 3]], .asg (.nm 6) (.ife (.and [.cmp .notIn (.var 3) (.ix (.var 0) (.int 1)), .call 98 [.var 4], .cmp .eq (.call 97 [.var 4]) (.var 2)]) (.var 4) (.non)), .asg (.nm 7) (.ife (.and [.cmp .inI (.var 3) (.ix (.var 0) (.int 1)), .call 98 [.var 5], .cmp .eq (.call 97 [.var 5]) (.var 2)]) (.var 5) (.non)), .ife (.not (.call 89 [.lst [.call 105 [.glob 65, .var 0, .var 3], .call 105 [.glob 66, .var 0, .var 3]], .lst [.var 6, .var 7]])) [.ret (.bl false)] []],
    .for_ (.one 8) .range [.int 2] [.asg (.nm 9) (.blt .tuple [.comp [17] (.one 17) .seq [.var 2] [] (.ix (.tup [.int 0, .int 3, .int 1]) (.bin .mod (.blt .int [.bin .add (.var 8) (.var 17)]) (.int 3)))]), .asg (.nm 10) (.call 74 [.var 0, .var 9]), .ife (.not (.call 100 [.var 0, .var 9, .var 10])) [.ret (.bl false)] [], .asg (.nm 11) (.lst []), .for_ (.many [12, 13]) .seq [.ix (.var 0) (.int 1)] [.asg (.nm 14) (.comp [18] (.one 18) .seq [.call 96 [.var 0, .var 12]] [] (.ix (.var 10) (.var 18))), .asg (.nm 11) (.bin .add (.var 11) (.ife (.cmp .inI (.ix (.var 10) (.var 13)) (.tup [.call 101 [.var 14], .call 102 [.var 14]])) (.lst [.tup [.var 12, .var 13]]) (.lst [])))], .asg (.nm 15) (.comp [19] (.one 19) .range [.int 3] [.and [.cmp .notIn (.var 19) (.var 2), .cmp .eq (.blt .lenset [.comp [18] (.one 18) .seq [.call 96 [.var 0, .var 19]] [] (.ix (.var 10) (.var 18))]) (.int 1)]] (.var 19)), .asg (.nm 16) (.call 67 [.var 0, .var 9]), .ife (.not (.call 89 [.lst [.call 72 [.var 0, .var 9], .call 73 [.var 0, .var 9], .call 68 [.var 0, .var 9]], .lst [.blt .tuple [.var 11], .tup [.int 3, .blt .tuple [.var 11]], .blt .tuple [.var 15]]])) [.ret (.bl false)] [], .ife (.or [.cmp .ne (.blt .sorted [.blt .sum [.comp [20] (.one 20) .seq [.var 16] [] (.blt .list [.var 20]), .lst []]]) (.lst [.int 0, .int 1, .int 2]), .blt .any [.comp [20] (.one 20) .seq [.var 16] [] (.cmp .ne (.blt .lenset [.comp [19] (.one 19) .seq [.var 20] [] (.ix (.var 10) (.var 19))]) (.int 1))], .cmp .ne (.blt .len [.var 16]) (.blt .lenset [.var 10])]) [.ret (.bl false)] []],
    .ret (.cmp .eq (.call 86 [.call 85 [.var 0]]) (.var 0))]⟩
def ir__law_right : FnI := ⟨1, 6, [.asg (.nm 1) (.lst [.tup [.int 0, .int 1], .tup [.int 0, .int 2], .tup [.int 1, .int 0], .tup [.int 1, .int 2], .tup [.int 2, .int 0], .tup [.int 2, .int 1]]),
    .asg (.nm 2) (.lst [.tup []]),
    .for_ (.one 3) .seq [.var 1] [.asg (.nm 2) (.bin .add (.var 2) (.comp [4] (.one 4) .seq [.var 2] [] (.bin .add (.var 4) (.tup [.var 3]))))],
    .for_ (.one 4) .seq [.slk (.blt .sorted [.var 2]) (.call 88 [.var 0, .int 3]) 3] [.asg (.nm 5) (.tup [.int 3, .var 4]), .ife (.or [.not (.call 89 [.call 56 [.var 5], .call 98 [.var 5]]), .and [.call 98 [.var 5], .not (.call 106 [.var 5, .var 1])]]) [.ret (.bl false)] []],
    .ret (.bl true)]⟩
def ir_law : FnI := ⟨1, 2, [.ret (.blt .all [.comp [1] (.one 1) .range [.blt .max [.int 2, .blt .min [.blt .len [.var 0], .int 3]]] [] (.call 107 [.call 87 [.var 0, .var 1]])])]⟩
def prog0 : List (Option FnI) := [none, some ir_is_whole, some ir_is_between, some ir_is_tuple_of, some ir_first_wrong, some ir_are_indexes, some ir_are_rising, some ir_fraction, some ir_whole, some ir_sum_of, some ir_less, some ir_times, some ir_is_less, some ir_greater_of, some ir_lesser_of, some ir_greatest_of]
def G0 : List D := [.tup [.int (0), .int (1)], .fn 1, .fn 2, .fn 3, .fn 4, .fn 5, .fn 6, .fn 7, .fn 8, .fn 9, .fn 10, .fn 11, .fn 12, .fn 13, .fn 14, .fn 15]
def prog1 : List (Option FnI) := [some ir_least_of, none, none, none, some ir_is_road, some ir_are_roads, some ir_is_board_by, some ir_places_of, some ir_next_places_by, some ir_ends_by, some ir_inner_by, some ir_with_those_ahead, some ir_do_all_end, some ir_last_ones, some ir_left_in_rings, some ir_an_order_by]
def G1 : List D := [.fn 16, .int (8), .int (0), .int (1), .fn 20, .fn 21, .fn 22, .fn 23, .fn 24, .fn 25, .fn 26, .fn 27, .fn 28, .fn 29, .fn 30, .fn 31]
def prog2 : List (Option FnI) := [none, none, none, none, some ir_half_of, some ir_half_next, some ir_stake_of, some ir_due_at, some ir_wrong_places, some ir_halved_at, some ir_halved, some ir_first_rows, some ir_simplest_between, some ir_turned_about, some ir_guess, some ir_values_round]
def G2 : List D := [.int (17592186044416), .tup [.int (1), .int (2)], .int (40), .int (99), .fn 36, .fn 37, .fn 38, .fn 39, .fn 40, .fn 41, .fn 42, .fn 43, .fn 44, .fn 45, .fn 46, .fn 47]
def prog3 : List (Option FnI) := [some ir_values_in_order, some ir_values_by, some ir_check_board, some ir_is_stake, some ir_wrong_in_stakes, some ir_check_stakes, some ir_check_place, some ir_check_board_place, some ir_is_board, some ir_has_same_ends, some ir_road_more, some ir_road_less, some ir_unlike_rising, some ir_lots_alike_by, some ir_is_flat, some ir_flat_places_by]
def G3 : List D := [.fn 48, .fn 49, .fn 50, .fn 51, .fn 52, .fn 53, .fn 54, .fn 55, .fn 56, .fn 57, .fn 58, .fn 59, .fn 60, .fn 61, .fn 62, .fn 63]
def prog4 : List (Option FnI) := [some ir_check_found, some ir_with_road, some ir_without_road, some ir_lots_alike, some ir_flat_places, some ir_is_used, some ir_used_roads_by, some ir_lean_board_by, some ir_used_roads, some ir_lean_board, some ir_values, none, none, none, none, some ir_is_figures]
def G4 : List D := [.fn 64, .fn 65, .fn 66, .fn 67, .fn 68, .fn 69, .fn 70, .fn 71, .fn 72, .fn 73, .fn 74, .str "0123456789", .str " ", .str "\n", .str "places", .fn 79]
def prog5 : List (Option FnI) := [some ir_numbers_in, some ir_numbers_text, some ir_text_of_board, some ir_many_in, some ir_board_with_text, some ir_board_text, some ir_read_board, some ir__law_well, some ir__law_take, some ir__law_same, some ir__law_part, some ir__law_plus, some ir__law_by, some ir__law_is_below, some ir__law_is_number, some ir__law_is_fraction]
def G5 : List D := [.fn 80, .fn 81, .fn 82, .fn 83, .fn 84, .fn 85, .fn 86, .fn 87, .fn 88, .fn 89, .fn 90, .fn 91, .fn 92, .fn 93, .fn 94, .fn 95]
def prog6 : List (Option FnI) := [some ir__law_next, some ir__law_ends, some ir__law_is_board, some ir__law_reach, some ir__law_are_values, some ir__law_most, some ir__law_fewest, some ir__law_paved, some ir__law_closed, some ir__law_changed, some ir__law_is_told, some ir__law_right, some ir_law]
def G6 : List D := [.fn 96, .fn 97, .fn 98, .fn 99, .fn 100, .fn 101, .fn 102, .fn 103, .fn 104, .fn 105, .fn 106, .fn 107, .fn 108]
def prog : List (Option FnI) := prog0 ++ prog1 ++ prog2 ++ prog3 ++ prog4 ++ prog5 ++ prog6
def subs : List (List Nat) := [[0], [1, 0], [2, 0], [3, 0], [4, 0], [5, 0]]
def sub (x c : Nat) : Bool := (subs.getD x []).contains c
def G : List D := G0 ++ G1 ++ G2 ++ G3 ++ G4 ++ G5 ++ G6
abbrev i_NOUGHT : Nat := 0
abbrev i_is_whole : Nat := 1
abbrev i_is_between : Nat := 2
abbrev i_is_tuple_of : Nat := 3
abbrev i_first_wrong : Nat := 4
abbrev i_are_indexes : Nat := 5
abbrev i_are_rising : Nat := 6
abbrev i_fraction : Nat := 7
abbrev i_whole : Nat := 8
abbrev i_sum_of : Nat := 9
abbrev i_less : Nat := 10
abbrev i_times : Nat := 11
abbrev i_is_less : Nat := 12
abbrev i_greater_of : Nat := 13
abbrev i_lesser_of : Nat := 14
abbrev i_greatest_of : Nat := 15
abbrev i_least_of : Nat := 16
abbrev i_MOST_PLACES : Nat := 17
abbrev i_PLACES : Nat := 18
abbrev i_ROADS : Nat := 19
abbrev i_is_road : Nat := 20
abbrev i_are_roads : Nat := 21
abbrev i_is_board_by : Nat := 22
abbrev i_places_of : Nat := 23
abbrev i_next_places_by : Nat := 24
abbrev i_ends_by : Nat := 25
abbrev i_inner_by : Nat := 26
abbrev i_with_those_ahead : Nat := 27
abbrev i_do_all_end : Nat := 28
abbrev i_last_ones : Nat := 29
abbrev i_left_in_rings : Nat := 30
abbrev i_an_order_by : Nat := 31
abbrev i_FINE : Nat := 32
abbrev i_HALF : Nat := 33
abbrev i_MANY_STEPS : Nat := 34
abbrev i_MOST_STAKE : Nat := 35
abbrev i_half_of : Nat := 36
abbrev i_half_next : Nat := 37
abbrev i_stake_of : Nat := 38
abbrev i_due_at : Nat := 39
abbrev i_wrong_places : Nat := 40
abbrev i_halved_at : Nat := 41
abbrev i_halved : Nat := 42
abbrev i_first_rows : Nat := 43
abbrev i_simplest_between : Nat := 44
abbrev i_turned_about : Nat := 45
abbrev i_guess : Nat := 46
abbrev i_values_round : Nat := 47
abbrev i_values_in_order : Nat := 48
abbrev i_values_by : Nat := 49
abbrev i_check_board : Nat := 50
abbrev i_is_stake : Nat := 51
abbrev i_wrong_in_stakes : Nat := 52
abbrev i_check_stakes : Nat := 53
abbrev i_check_place : Nat := 54
abbrev i_check_board_place : Nat := 55
abbrev i_is_board : Nat := 56
abbrev i_has_same_ends : Nat := 57
abbrev i_road_more : Nat := 58
abbrev i_road_less : Nat := 59
abbrev i_unlike_rising : Nat := 60
abbrev i_lots_alike_by : Nat := 61
abbrev i_is_flat : Nat := 62
abbrev i_flat_places_by : Nat := 63
abbrev i_check_found : Nat := 64
abbrev i_with_road : Nat := 65
abbrev i_without_road : Nat := 66
abbrev i_lots_alike : Nat := 67
abbrev i_flat_places : Nat := 68
abbrev i_is_used : Nat := 69
abbrev i_used_roads_by : Nat := 70
abbrev i_lean_board_by : Nat := 71
abbrev i_used_roads : Nat := 72
abbrev i_lean_board : Nat := 73
abbrev i_values : Nat := 74
abbrev i_FIGURES : Nat := 75
abbrev i_BLANK : Nat := 76
abbrev i_END : Nat := 77
abbrev i_HEAD : Nat := 78
abbrev i_is_figures : Nat := 79
abbrev i_numbers_in : Nat := 80
abbrev i_numbers_text : Nat := 81
abbrev i_text_of_board : Nat := 82
abbrev i_many_in : Nat := 83
abbrev i_board_with_text : Nat := 84
abbrev i_board_text : Nat := 85
abbrev i_read_board : Nat := 86
abbrev i__law_well : Nat := 87
abbrev i__law_take : Nat := 88
abbrev i__law_same : Nat := 89
abbrev i__law_part : Nat := 90
abbrev i__law_plus : Nat := 91
abbrev i__law_by : Nat := 92
abbrev i__law_is_below : Nat := 93
abbrev i__law_is_number : Nat := 94
abbrev i__law_is_fraction : Nat := 95
abbrev i__law_next : Nat := 96
abbrev i__law_ends : Nat := 97
abbrev i__law_is_board : Nat := 98
abbrev i__law_reach : Nat := 99
abbrev i__law_are_values : Nat := 100
abbrev i__law_most : Nat := 101
abbrev i__law_fewest : Nat := 102
abbrev i__law_paved : Nat := 103
abbrev i__law_closed : Nat := 104
abbrev i__law_changed : Nat := 105
abbrev i__law_is_told : Nat := 106
abbrev i__law_right : Nat := 107
abbrev i_law : Nat := 108
end Ir


set_option Elab.async false
set_option linter.all false
set_option maxRecDepth 100000
set_option maxHeartbeats 0
namespace Ir
open Ev PySem PySem.Spec PyProof.Rows L2
def top (i : Nat) : Stmt := PySem.Challenge.pw_bidboards_k78_whole_small_boards.main.body.getD i (.Pass ⟨0, 0, 0, 0⟩)
def nm (l : List String) : List Str := l.map Str.ofString
def dfs : List Bool := prog.map fun o => o.isSome
def df (k : Nat) : Bool := dfs.getD k false
def gn0 : List Str := nm ["NOUGHT", "is_whole", "is_between", "is_tuple_of", "first_wrong", "are_indexes", "are_rising", "fraction", "whole", "sum_of", "less", "times", "is_less", "greater_of", "lesser_of", "greatest_of", "least_of", "MOST_PLACES", "PLACES", "ROADS", "is_road", "are_roads", "is_board_by", "places_of", "next_places_by", "ends_by", "inner_by", "with_those_ahead", "do_all_end", "last_ones", "left_in_rings", "an_order_by"]
def gn1 : List Str := nm ["FINE", "HALF", "MANY_STEPS", "MOST_STAKE", "half_of", "half_next", "stake_of", "due_at", "wrong_places", "halved_at", "halved", "first_rows", "simplest_between", "turned_about", "guess", "values_round", "values_in_order", "values_by", "check_board", "is_stake", "wrong_in_stakes", "check_stakes", "check_place", "check_board_place", "is_board", "has_same_ends", "road_more", "road_less", "unlike_rising", "lots_alike_by", "is_flat", "flat_places_by"]
def gn2 : List Str := nm ["check_found", "with_road", "without_road", "lots_alike", "flat_places", "is_used", "used_roads_by", "lean_board_by", "used_roads", "lean_board", "values", "FIGURES", "BLANK", "END", "HEAD", "is_figures", "numbers_in", "numbers_text", "text_of_board", "many_in", "board_with_text", "board_text", "read_board", "_law_well", "_law_take", "_law_same", "_law_part", "_law_plus", "_law_by", "_law_is_below", "_law_is_number", "_law_is_fraction"]
def gn3 : List Str := nm ["_law_next", "_law_ends", "_law_is_board", "_law_reach", "_law_are_values", "_law_most", "_law_fewest", "_law_paved", "_law_closed", "_law_changed", "_law_is_told", "_law_right", "law"]
def gn : List Str := gn0 ++ gn1 ++ gn2 ++ gn3
def dr_is_whole : DefR := ⟨ir_is_whole, nm ["value"], nm ["value"], top 3⟩
def hd_is_whole : HD := ⟨dr_is_whole, "is_whole", 50, 49, "is_whole"⟩
def dr_is_between : DefR := ⟨ir_is_between, nm ["value", "low", "high"], nm ["value", "low", "high"], top 4⟩
def hd_is_between : HD := ⟨dr_is_between, "is_between", 57, 56, "is_between"⟩
def dr_is_tuple_of : DefR := ⟨ir_is_tuple_of, nm ["value", "many"], nm ["value", "many"], top 5⟩
def hd_is_tuple_of : HD := ⟨dr_is_tuple_of, "is_tuple_of", 64, 63, "is_tuple_of"⟩
def dr_first_wrong : DefR := ⟨ir_first_wrong, nm ["value", "fewest", "most", "is_right", "index", "each"], nm ["value", "fewest", "most", "is_right"], top 6⟩
def hd_first_wrong : HD := ⟨dr_first_wrong, "first_wrong", 69, 68, "first_wrong"⟩
def dr_are_indexes : DefR := ⟨ir_are_indexes, nm ["many", "value", "each"], nm ["many", "value"], top 7⟩
def hd_are_indexes : HD := ⟨dr_are_indexes, "are_indexes", 74, 73, "are_indexes"⟩
def dr_are_rising : DefR := ⟨ir_are_rising, nm ["value", "index"], nm ["value"], top 8⟩
def hd_are_rising : HD := ⟨dr_are_rising, "are_rising", 79, 78, "are_rising"⟩
def dr_fraction : DefR := ⟨ir_fraction, nm ["number", "under", "part"], nm ["number", "under"], top 9⟩
def hd_fraction : HD := ⟨dr_fraction, "fraction", 86, 85, "fraction"⟩
def dr_whole : DefR := ⟨ir_whole, nm ["number"], nm ["number"], top 10⟩
def hd_whole : HD := ⟨dr_whole, "whole", 93, 92, "whole"⟩
def dr_sum_of : DefR := ⟨ir_sum_of, nm ["one", "two"], nm ["one", "two"], top 11⟩
def hd_sum_of : HD := ⟨dr_sum_of, "sum_of", 100, 99, "sum_of"⟩
def dr_less : DefR := ⟨ir_less, nm ["one", "two"], nm ["one", "two"], top 12⟩
def hd_less : HD := ⟨dr_less, "less", 107, 106, "less"⟩
def dr_times : DefR := ⟨ir_times, nm ["one", "two"], nm ["one", "two"], top 13⟩
def hd_times : HD := ⟨dr_times, "times", 114, 113, "times"⟩
def dr_is_less : DefR := ⟨ir_is_less, nm ["one", "two"], nm ["one", "two"], top 14⟩
def hd_is_less : HD := ⟨dr_is_less, "is_less", 121, 120, "is_less"⟩
def dr_greater_of : DefR := ⟨ir_greater_of, nm ["one", "two"], nm ["one", "two"], top 15⟩
def hd_greater_of : HD := ⟨dr_greater_of, "greater_of", 128, 127, "greater_of"⟩
def dr_lesser_of : DefR := ⟨ir_lesser_of, nm ["one", "two"], nm ["one", "two"], top 16⟩
def hd_lesser_of : HD := ⟨dr_lesser_of, "lesser_of", 135, 134, "lesser_of"⟩
def dr_greatest_of : DefR := ⟨ir_greatest_of, nm ["some", "found", "each"], nm ["some"], top 17⟩
def hd_greatest_of : HD := ⟨dr_greatest_of, "greatest_of", 142, 141, "greatest_of"⟩
def dr_least_of : DefR := ⟨ir_least_of, nm ["some", "found", "each"], nm ["some"], top 18⟩
def hd_least_of : HD := ⟨dr_least_of, "least_of", 149, 148, "least_of"⟩
def dr_is_road : DefR := ⟨ir_is_road, nm ["many", "value"], nm ["many", "value"], top 23⟩
def hd_is_road : HD := ⟨dr_is_road, "is_road", 156, 155, "is_road"⟩
def dr_are_roads : DefR := ⟨ir_are_roads, nm ["many", "value", "road"], nm ["many", "value"], top 24⟩
def hd_are_roads : HD := ⟨dr_are_roads, "are_roads", 161, 160, "are_roads"⟩
def dr_is_board_by : DefR := ⟨ir_is_board_by, nm ["value"], nm ["value"], top 25⟩
def hd_is_board_by : HD := ⟨dr_is_board_by, "is_board_by", 168, 167, "is_board_by"⟩
def dr_places_of : DefR := ⟨ir_places_of, nm ["board"], nm ["board"], top 26⟩
def hd_places_of : HD := ⟨dr_places_of, "places_of", 175, 174, "places_of"⟩
def dr_next_places_by : DefR := ⟨ir_next_places_by, nm ["board", "place", "one", "two"], nm ["board", "place"], top 27⟩
def hd_next_places_by : HD := ⟨dr_next_places_by, "next_places_by", 180, 179, "next_places_by"⟩
def dr_ends_by : DefR := ⟨ir_ends_by, nm ["board", "place"], nm ["board"], top 28⟩
def hd_ends_by : HD := ⟨dr_ends_by, "ends_by", 185, 184, "ends_by"⟩
def dr_inner_by : DefR := ⟨ir_inner_by, nm ["board", "place"], nm ["board"], top 29⟩
def hd_inner_by : HD := ⟨dr_inner_by, "inner_by", 190, 189, "inner_by"⟩
def dr_with_those_ahead : DefR := ⟨ir_with_those_ahead, nm ["board", "found", "ahead", "one", "two", "place"], nm ["board", "found"], top 30⟩
def hd_with_those_ahead : HD := ⟨dr_with_those_ahead, "with_those_ahead", 195, 194, "with_those_ahead"⟩
def dr_do_all_end : DefR := ⟨ir_do_all_end, nm ["board", "found", "_"], nm ["board"], top 31⟩
def hd_do_all_end : HD := ⟨dr_do_all_end, "do_all_end", 202, 201, "do_all_end"⟩
def dr_last_ones : DefR := ⟨ir_last_ones, nm ["board", "left", "place", "two"], nm ["board", "left"], top 32⟩
def hd_last_ones : HD := ⟨dr_last_ones, "last_ones", 207, 206, "last_ones"⟩
def dr_left_in_rings : DefR := ⟨ir_left_in_rings, nm ["board", "left", "order", "last", "place"], nm ["board"], top 33⟩
def hd_left_in_rings : HD := ⟨dr_left_in_rings, "left_in_rings", 212, 211, "left_in_rings"⟩
def dr_an_order_by : DefR := ⟨ir_an_order_by, nm ["board", "left", "order"], nm ["board"], top 34⟩
def hd_an_order_by : HD := ⟨dr_an_order_by, "an_order_by", 219, 218, "an_order_by"⟩
def dr_half_of : DefR := ⟨ir_half_of, nm ["one", "two"], nm ["one", "two"], top 47⟩
def hd_half_of : HD := ⟨dr_half_of, "half_of", 335, 334, "half_of"⟩
def dr_half_next : DefR := ⟨ir_half_next, nm ["board", "table", "place", "found", "two"], nm ["board", "table", "place"], top 48⟩
def hd_half_next : HD := ⟨dr_half_next, "half_next", 340, 339, "half_next"⟩
def dr_stake_of : DefR := ⟨ir_stake_of, nm ["board", "stakes", "place"], nm ["board", "stakes", "place"], top 49⟩
def hd_stake_of : HD := ⟨dr_stake_of, "stake_of", 347, 346, "stake_of"⟩
def dr_due_at : DefR := ⟨ir_due_at, nm ["board", "stakes", "table", "place"], nm ["board", "stakes", "table", "place"], top 50⟩
def hd_due_at : HD := ⟨dr_due_at, "due_at", 354, 353, "due_at"⟩
def dr_wrong_places : DefR := ⟨ir_wrong_places, nm ["board", "stakes", "table", "place"], nm ["board", "stakes", "table"], top 51⟩
def hd_wrong_places : HD := ⟨dr_wrong_places, "wrong_places", 359, 358, "wrong_places"⟩
def dr_halved_at : DefR := ⟨ir_halved_at, nm ["near", "rows", "place", "up", "found", "two"], nm ["near", "rows", "place", "up"], top 52⟩
def hd_halved_at : HD := ⟨dr_halved_at, "halved_at", 364, 363, "halved_at"⟩
def dr_halved : DefR := ⟨ir_halved, nm ["near", "rows", "up", "found", "some", "_", "place"], nm ["near", "rows", "up"], top 53⟩
def hd_halved : HD := ⟨dr_halved, "halved", 369, 368, "halved"⟩
def dr_first_rows : DefR := ⟨ir_first_rows, nm ["board", "stakes", "other", "ends", "place"], nm ["board", "stakes", "other"], top 54⟩
def hd_first_rows : HD := ⟨dr_first_rows, "first_rows", 374, 373, "first_rows"⟩
def dr_simplest_between : DefR := ⟨ir_simplest_between, nm ["low", "high", "base", "turned"], nm ["low", "high"], top 55⟩
def hd_simplest_between : HD := ⟨dr_simplest_between, "simplest_between", 381, 380, "simplest_between"⟩
def dr_turned_about : DefR := ⟨ir_turned_about, nm ["one"], nm ["one"], top 56⟩
def hd_turned_about : HD := ⟨dr_turned_about, "turned_about", 388, 387, "turned_about"⟩
def dr_guess : DefR := ⟨ir_guess, nm ["lows", "highs", "low", "high"], nm ["lows", "highs"], top 57⟩
def hd_guess : HD := ⟨dr_guess, "guess", 393, 392, "guess"⟩
def dr_values_round : DefR := ⟨ir_values_round, nm ["board", "stakes", "near", "lows", "highs", "table", "place"], nm ["board", "stakes"], top 58⟩
def hd_values_round : HD := ⟨dr_values_round, "values_round", 398, 397, "values_round"⟩
def dr_values_in_order : DefR := ⟨ir_values_in_order, nm ["board", "stakes", "order", "found", "place", "_"], nm ["board", "stakes", "order"], top 59⟩
def hd_values_in_order : HD := ⟨dr_values_in_order, "values_in_order", 403, 402, "values_in_order"⟩
def dr_values_by : DefR := ⟨ir_values_by, nm ["board", "stakes", "order"], nm ["board", "stakes"], top 60⟩
def hd_values_by : HD := ⟨dr_values_by, "values_by", 410, 409, "values_by"⟩
def dr_check_board : DefR := ⟨ir_check_board, nm ["value"], nm ["value"], top 62⟩
def hd_check_board : HD := ⟨dr_check_board, "check_board", 417, 416, "check_board"⟩
def dr_is_stake : DefR := ⟨ir_is_stake, nm ["value"], nm ["value"], top 63⟩
def hd_is_stake : HD := ⟨dr_is_stake, "is_stake", 424, 423, "is_stake"⟩
def dr_wrong_in_stakes : DefR := ⟨ir_wrong_in_stakes, nm ["board", "value", "many"], nm ["board", "value"], top 64⟩
def hd_wrong_in_stakes : HD := ⟨dr_wrong_in_stakes, "wrong_in_stakes", 431, 430, "wrong_in_stakes"⟩
def dr_check_stakes : DefR := ⟨ir_check_stakes, nm ["board", "stakes", "index"], nm ["board", "stakes"], top 65⟩
def hd_check_stakes : HD := ⟨dr_check_stakes, "check_stakes", 438, 437, "check_stakes"⟩
def dr_check_place : DefR := ⟨ir_check_place, nm ["board", "value"], nm ["board", "value"], top 66⟩
def hd_check_place : HD := ⟨dr_check_place, "check_place", 445, 444, "check_place"⟩
def dr_check_board_place : DefR := ⟨ir_check_board_place, nm ["board", "place"], nm ["board", "place"], top 67⟩
def hd_check_board_place : HD := ⟨dr_check_board_place, "check_board_place", 452, 451, "check_board_place"⟩
def dr_is_board : DefR := ⟨ir_is_board, nm ["value"], nm ["value"], top 69⟩
def hd_is_board : HD := ⟨dr_is_board, "is_board", 459, 458, "is_board"⟩
def dr_has_same_ends : DefR := ⟨ir_has_same_ends, nm ["board", "other"], nm ["board", "other"], top 71⟩
def hd_has_same_ends : HD := ⟨dr_has_same_ends, "has_same_ends", 466, 465, "has_same_ends"⟩
def dr_road_more : DefR := ⟨ir_road_more, nm ["board", "road", "found"], nm ["board", "road"], top 72⟩
def hd_road_more : HD := ⟨dr_road_more, "road_more", 473, 472, "road_more"⟩
def dr_road_less : DefR := ⟨ir_road_less, nm ["board", "road", "found", "each"], nm ["board", "road"], top 73⟩
def hd_road_less : HD := ⟨dr_road_less, "road_less", 478, 477, "road_less"⟩
def dr_unlike_rising : DefR := ⟨ir_unlike_rising, nm ["table", "found", "each", "one"], nm ["table"], top 74⟩
def hd_unlike_rising : HD := ⟨dr_unlike_rising, "unlike_rising", 483, 482, "unlike_rising"⟩
def dr_lots_alike_by : DefR := ⟨ir_lots_alike_by, nm ["board", "stakes", "table", "some", "each", "place"], nm ["board", "stakes"], top 75⟩
def hd_lots_alike_by : HD := ⟨dr_lots_alike_by, "lots_alike_by", 488, 487, "lots_alike_by"⟩
def dr_is_flat : DefR := ⟨ir_is_flat, nm ["board", "table", "place", "near", "two"], nm ["board", "table", "place"], top 76⟩
def hd_is_flat : HD := ⟨dr_is_flat, "is_flat", 493, 492, "is_flat"⟩
def dr_flat_places_by : DefR := ⟨ir_flat_places_by, nm ["board", "stakes", "table", "place"], nm ["board", "stakes"], top 77⟩
def hd_flat_places_by : HD := ⟨dr_flat_places_by, "flat_places_by", 498, 497, "flat_places_by"⟩
def dr_check_found : DefR := ⟨ir_check_found, nm ["found", "given"], nm ["found", "given"], top 79⟩
def hd_check_found : HD := ⟨dr_check_found, "check_found", 505, 504, "check_found"⟩
def dr_with_road : DefR := ⟨ir_with_road, nm ["board", "place", "other", "found"], nm ["board", "place", "other"], top 80⟩
def hd_with_road : HD := ⟨dr_with_road, "with_road", 512, 511, "with_road"⟩
def dr_without_road : DefR := ⟨ir_without_road, nm ["board", "place", "other", "found"], nm ["board", "place", "other"], top 81⟩
def hd_without_road : HD := ⟨dr_without_road, "without_road", 519, 518, "without_road"⟩
def dr_lots_alike : DefR := ⟨ir_lots_alike, nm ["board", "stakes"], nm ["board", "stakes"], top 82⟩
def hd_lots_alike : HD := ⟨dr_lots_alike, "lots_alike", 526, 525, "lots_alike"⟩
def dr_flat_places : DefR := ⟨ir_flat_places, nm ["board", "stakes"], nm ["board", "stakes"], top 83⟩
def hd_flat_places : HD := ⟨dr_flat_places, "flat_places", 533, 532, "flat_places"⟩
def dr_is_used : DefR := ⟨ir_is_used, nm ["board", "table", "road", "found", "two"], nm ["board", "table", "road"], top 85⟩
def hd_is_used : HD := ⟨dr_is_used, "is_used", 538, 537, "is_used"⟩
def dr_used_roads_by : DefR := ⟨ir_used_roads_by, nm ["board", "stakes", "table", "road"], nm ["board", "stakes"], top 86⟩
def hd_used_roads_by : HD := ⟨dr_used_roads_by, "used_roads_by", 543, 542, "used_roads_by"⟩
def dr_lean_board_by : DefR := ⟨ir_lean_board_by, nm ["board", "stakes"], nm ["board", "stakes"], top 87⟩
def hd_lean_board_by : HD := ⟨dr_lean_board_by, "lean_board_by", 550, 549, "lean_board_by"⟩
def dr_used_roads : DefR := ⟨ir_used_roads, nm ["board", "stakes"], nm ["board", "stakes"], top 89⟩
def hd_used_roads : HD := ⟨dr_used_roads, "used_roads", 557, 556, "used_roads"⟩
def dr_lean_board : DefR := ⟨ir_lean_board, nm ["board", "stakes"], nm ["board", "stakes"], top 90⟩
def hd_lean_board : HD := ⟨dr_lean_board, "lean_board", 564, 563, "lean_board"⟩
def dr_values : DefR := ⟨ir_values, nm ["board", "stakes"], nm ["board", "stakes"], top 92⟩
def hd_values : HD := ⟨dr_values, "values", 571, 570, "values"⟩
def dr_is_figures : DefR := ⟨ir_is_figures, nm ["text", "sign"], nm ["text"], top 98⟩
def hd_is_figures : HD := ⟨dr_is_figures, "is_figures", 576, 575, "is_figures"⟩
def dr_numbers_in : DefR := ⟨ir_numbers_in, nm ["words", "word"], nm ["words"], top 99⟩
def hd_numbers_in : HD := ⟨dr_numbers_in, "numbers_in", 581, 580, "numbers_in"⟩
def dr_numbers_text : DefR := ⟨ir_numbers_text, nm ["numbers", "number"], nm ["numbers"], top 100⟩
def hd_numbers_text : HD := ⟨dr_numbers_text, "numbers_text", 586, 585, "numbers_text"⟩
def dr_text_of_board : DefR := ⟨ir_text_of_board, nm ["board", "lines", "road", "line"], nm ["board"], top 101⟩
def hd_text_of_board : HD := ⟨dr_text_of_board, "text_of_board", 591, 590, "text_of_board"⟩
def dr_many_in : DefR := ⟨ir_many_in, nm ["line", "words", "numbers"], nm ["line"], top 102⟩
def hd_many_in : HD := ⟨dr_many_in, "many_in", 596, 595, "many_in"⟩
def dr_board_with_text : DefR := ⟨ir_board_with_text, nm ["text", "lines", "roads", "line", "road", "many"], nm ["text"], top 103⟩
def hd_board_with_text : HD := ⟨dr_board_with_text, "board_with_text", 601, 600, "board_with_text"⟩
def dr_board_text : DefR := ⟨ir_board_text, nm ["board"], nm ["board"], top 105⟩
def hd_board_text : HD := ⟨dr_board_text, "board_text", 608, 607, "board_text"⟩
def dr_read_board : DefR := ⟨ir_read_board, nm ["text", "found"], nm ["text"], top 106⟩
def hd_read_board : HD := ⟨dr_read_board, "read_board", 615, 614, "read_board"⟩
def dr__law_well : DefR := ⟨ir__law_well, nm ["script", "lap", "own", "stir", "each"], nm ["script", "lap"], top 108⟩
def hd__law_well : HD := ⟨dr__law_well, "_law_well", 622, 621, "_law_well"⟩
def dr__law_take : DefR := ⟨ir__law_take, nm ["well", "many", "digit"], nm ["well", "many"], top 109⟩
def hd__law_take : HD := ⟨dr__law_take, "_law_take", 629, 628, "_law_take"⟩
def dr__law_same : DefR := ⟨ir__law_same, nm ["told", "due", "at"], nm ["told", "due"], top 110⟩
def hd__law_same : HD := ⟨dr__law_same, "_law_same", 634, 633, "_law_same"⟩
def dr__law_part : DefR := ⟨ir__law_part, nm ["one", "two", "low", "high"], nm ["one", "two"], top 111⟩
def hd__law_part : HD := ⟨dr__law_part, "_law_part", 641, 640, "_law_part"⟩
def dr__law_plus : DefR := ⟨ir__law_plus, nm ["one", "two"], nm ["one", "two"], top 112⟩
def hd__law_plus : HD := ⟨dr__law_plus, "_law_plus", 648, 647, "_law_plus"⟩
def dr__law_by : DefR := ⟨ir__law_by, nm ["one", "two"], nm ["one", "two"], top 113⟩
def hd__law_by : HD := ⟨dr__law_by, "_law_by", 655, 654, "_law_by"⟩
def dr__law_is_below : DefR := ⟨ir__law_is_below, nm ["one", "two"], nm ["one", "two"], top 114⟩
def hd__law_is_below : HD := ⟨dr__law_is_below, "_law_is_below", 662, 661, "_law_is_below"⟩
def dr__law_is_number : DefR := ⟨ir__law_is_number, nm ["value"], nm ["value"], top 115⟩
def hd__law_is_number : HD := ⟨dr__law_is_number, "_law_is_number", 669, 668, "_law_is_number"⟩
def dr__law_is_fraction : DefR := ⟨ir__law_is_fraction, nm ["value", "each"], nm ["value"], top 116⟩
def hd__law_is_fraction : HD := ⟨dr__law_is_fraction, "_law_is_fraction", 674, 673, "_law_is_fraction"⟩
def dr__law_next : DefR := ⟨ir__law_next, nm ["board", "place", "a", "b"], nm ["board", "place"], top 117⟩
def hd__law_next : HD := ⟨dr__law_next, "_law_next", 679, 678, "_law_next"⟩
def dr__law_ends : DefR := ⟨ir__law_ends, nm ["board", "place"], nm ["board"], top 118⟩
def hd__law_ends : HD := ⟨dr__law_ends, "_law_ends", 684, 683, "_law_ends"⟩
def dr__law_is_board : DefR := ⟨ir__law_is_board, nm ["value", "road", "place", "k"], nm ["value"], top 119⟩
def hd__law_is_board : HD := ⟨dr__law_is_board, "_law_is_board", 689, 688, "_law_is_board"⟩
def dr__law_reach : DefR := ⟨ir__law_reach, nm ["board", "found", "turn", "place", "other"], nm ["board"], top 120⟩
def hd__law_reach : HD := ⟨dr__law_reach, "_law_reach", 694, 693, "_law_reach"⟩
def dr__law_are_values : DefR := ⟨ir__law_are_values, nm ["board", "stakes", "table", "close", "place", "some", "each", "other"], nm ["board", "stakes", "table"], top 121⟩
def hd__law_are_values : HD := ⟨dr__law_are_values, "_law_are_values", 699, 698, "_law_are_values"⟩
def dr__law_most : DefR := ⟨ir__law_most, nm ["some", "found", "each"], nm ["some"], top 122⟩
def hd__law_most : HD := ⟨dr__law_most, "_law_most", 706, 705, "_law_most"⟩
def dr__law_fewest : DefR := ⟨ir__law_fewest, nm ["some", "found", "each"], nm ["some"], top 123⟩
def hd__law_fewest : HD := ⟨dr__law_fewest, "_law_fewest", 713, 712, "_law_fewest"⟩
def dr__law_paved : DefR := ⟨ir__law_paved, nm ["board", "road"], nm ["board", "road"], top 124⟩
def hd__law_paved : HD := ⟨dr__law_paved, "_law_paved", 720, 719, "_law_paved"⟩
def dr__law_closed : DefR := ⟨ir__law_closed, nm ["board", "road", "each"], nm ["board", "road"], top 125⟩
def hd__law_closed : HD := ⟨dr__law_closed, "_law_closed", 725, 724, "_law_closed"⟩
def dr__law_changed : DefR := ⟨ir__law_changed, nm ["call", "board", "road"], nm ["call", "board", "road"], top 126⟩
def hd__law_changed : HD := ⟨dr__law_changed, "_law_changed", 732, 731, "_law_changed"⟩
def dr__law_is_told : DefR := ⟨ir__law_is_told, nm ["board", "roads", "close", "road", "more", "less_v", "come", "gone", "k", "stakes", "table", "used", "a", "b", "some", "flat", "lots", "end", "other", "place", "lot"], nm ["board", "roads"], top 127⟩
def hd__law_is_told : HD := ⟨dr__law_is_told, "_law_is_told", 737, 736, "_law_is_told"⟩
def dr__law_right : DefR := ⟨ir__law_right, nm ["well", "roads", "rows", "road", "row", "board"], nm ["well"], top 128⟩
def hd__law_right : HD := ⟨dr__law_right, "_law_right", 742, 741, "_law_right"⟩
def dr_law : DefR := ⟨ir_law, nm ["script", "lap"], nm ["script"], top 129⟩
def hd_law : HD := ⟨dr_law, "law", 747, 746, "law"⟩
def dl0 : List (Option HD) := [none, some hd_is_whole, some hd_is_between, some hd_is_tuple_of, some hd_first_wrong, some hd_are_indexes, some hd_are_rising, some hd_fraction, some hd_whole, some hd_sum_of, some hd_less, some hd_times, some hd_is_less, some hd_greater_of, some hd_lesser_of, some hd_greatest_of]
def dl1 : List (Option HD) := [some hd_least_of, none, none, none, some hd_is_road, some hd_are_roads, some hd_is_board_by, some hd_places_of, some hd_next_places_by, some hd_ends_by, some hd_inner_by, some hd_with_those_ahead, some hd_do_all_end, some hd_last_ones, some hd_left_in_rings, some hd_an_order_by]
def dl2 : List (Option HD) := [none, none, none, none, some hd_half_of, some hd_half_next, some hd_stake_of, some hd_due_at, some hd_wrong_places, some hd_halved_at, some hd_halved, some hd_first_rows, some hd_simplest_between, some hd_turned_about, some hd_guess, some hd_values_round]
def dl3 : List (Option HD) := [some hd_values_in_order, some hd_values_by, some hd_check_board, some hd_is_stake, some hd_wrong_in_stakes, some hd_check_stakes, some hd_check_place, some hd_check_board_place, some hd_is_board, some hd_has_same_ends, some hd_road_more, some hd_road_less, some hd_unlike_rising, some hd_lots_alike_by, some hd_is_flat, some hd_flat_places_by]
def dl4 : List (Option HD) := [some hd_check_found, some hd_with_road, some hd_without_road, some hd_lots_alike, some hd_flat_places, some hd_is_used, some hd_used_roads_by, some hd_lean_board_by, some hd_used_roads, some hd_lean_board, some hd_values, none, none, none, none, some hd_is_figures]
def dl5 : List (Option HD) := [some hd_numbers_in, some hd_numbers_text, some hd_text_of_board, some hd_many_in, some hd_board_with_text, some hd_board_text, some hd_read_board, some hd__law_well, some hd__law_take, some hd__law_same, some hd__law_part, some hd__law_plus, some hd__law_by, some hd__law_is_below, some hd__law_is_number, some hd__law_is_fraction]
def dl6 : List (Option HD) := [some hd__law_next, some hd__law_ends, some hd__law_is_board, some hd__law_reach, some hd__law_are_values, some hd__law_most, some hd__law_fewest, some hd__law_paved, some hd__law_closed, some hd__law_changed, some hd__law_is_told, some hd__law_right, some hd_law]
def dl : List (Option HD) := dl0 ++ dl1 ++ dl2 ++ dl3 ++ dl4 ++ dl5 ++ dl6
def ns0 : List (Str × Sv) := [("__name__", .str "law_bidboards_k78_whole_small_boards"), ("__doc__", .non), ("__package__", .non), ("__loader__", .bi "__main__.__loader__#opaque"), ("__spec__", .non), ("__annotations__", .ref 6), ("__builtins__", .ref 4), ("__file__", .str "/claim/cut.py"), ("__cached__", .non), ("gcd", .bi "math.gcd"), ("NOUGHT", .ref 43), ("is_whole", .ref 50), ("is_between", .ref 57), ("is_tuple_of", .ref 64), ("first_wrong", .ref 69), ("are_indexes", .ref 74), ("are_rising", .ref 79), ("fraction", .ref 86), ("whole", .ref 93), ("sum_of", .ref 100), ("less", .ref 107), ("times", .ref 114), ("is_less", .ref 121), ("greater_of", .ref 128), ("lesser_of", .ref 135), ("greatest_of", .ref 142), ("least_of", .ref 149), ("MOST_PLACES", .int (8)), ("PLACES", .int (0)), ("ROADS", .int (1)), ("is_road", .ref 156), ("are_roads", .ref 161)]
def ns1 : List (Str × Sv) := [("is_board_by", .ref 168), ("places_of", .ref 175), ("next_places_by", .ref 180), ("ends_by", .ref 185), ("inner_by", .ref 190), ("with_those_ahead", .ref 195), ("do_all_end", .ref 202), ("last_ones", .ref 207), ("left_in_rings", .ref 212), ("an_order_by", .ref 219), ("BidError", .ref 229), ("NotABoard", .ref 249), ("NotNow", .ref 268), ("InvalidPlace", .ref 287), ("InvalidText", .ref 306), ("InvalidStakes", .ref 325), ("FINE", .int (17592186044416)), ("HALF", .ref 328), ("MANY_STEPS", .int (40)), ("MOST_STAKE", .int (99)), ("half_of", .ref 335), ("half_next", .ref 340), ("stake_of", .ref 347), ("due_at", .ref 354), ("wrong_places", .ref 359), ("halved_at", .ref 364), ("halved", .ref 369), ("first_rows", .ref 374), ("simplest_between", .ref 381), ("turned_about", .ref 388), ("guess", .ref 393), ("values_round", .ref 398)]
def ns2 : List (Str × Sv) := [("values_in_order", .ref 403), ("values_by", .ref 410), ("check_board", .ref 417), ("is_stake", .ref 424), ("wrong_in_stakes", .ref 431), ("check_stakes", .ref 438), ("check_place", .ref 445), ("check_board_place", .ref 452), ("is_board", .ref 459), ("has_same_ends", .ref 466), ("road_more", .ref 473), ("road_less", .ref 478), ("unlike_rising", .ref 483), ("lots_alike_by", .ref 488), ("is_flat", .ref 493), ("flat_places_by", .ref 498), ("check_found", .ref 505), ("with_road", .ref 512), ("without_road", .ref 519), ("lots_alike", .ref 526), ("flat_places", .ref 533), ("is_used", .ref 538), ("used_roads_by", .ref 543), ("lean_board_by", .ref 550), ("used_roads", .ref 557), ("lean_board", .ref 564), ("values", .ref 571), ("FIGURES", .str "0123456789"), ("BLANK", .str " "), ("END", .str "\n"), ("HEAD", .str "places"), ("is_figures", .ref 576)]
def ns3 : List (Str × Sv) := [("numbers_in", .ref 581), ("numbers_text", .ref 586), ("text_of_board", .ref 591), ("many_in", .ref 596), ("board_with_text", .ref 601), ("board_text", .ref 608), ("read_board", .ref 615), ("_law_well", .ref 622), ("_law_take", .ref 629), ("_law_same", .ref 634), ("_law_part", .ref 641), ("_law_plus", .ref 648), ("_law_by", .ref 655), ("_law_is_below", .ref 662), ("_law_is_number", .ref 669), ("_law_is_fraction", .ref 674), ("_law_next", .ref 679), ("_law_ends", .ref 684), ("_law_is_board", .ref 689), ("_law_reach", .ref 694), ("_law_are_values", .ref 699), ("_law_most", .ref 706), ("_law_fewest", .ref 713), ("_law_paved", .ref 720), ("_law_closed", .ref 725), ("_law_changed", .ref 732), ("_law_is_told", .ref 737), ("_law_right", .ref 742), ("law", .ref 747)]
def nsA : List (Str × Sv) := ns0 ++ ns1 ++ ns2 ++ ns3
def tlA : List (Addr × List Sv) := [(43, [.int (0), .int (1)]), (328, [.int (1), .int (2)])]
def cb (s : Stmt) : List Stmt := match s with | .ClassDef (body := b) .. => b | _ => []
def dr_init_NotABoard : DefR := ⟨default, nm ["self", "given"], nm ["self", "given"], (cb (top 37)).getD 0 (.Pass ⟨0, 0, 0, 0⟩)⟩
def hd_init_NotABoard : HD := ⟨dr_init_NotABoard, "__init__", 246, 245, "NotABoard.__init__"⟩
def ci_NotABoard : CI := ⟨1, 249, hd_init_NotABoard, "given"⟩
def dr_init_NotNow : DefR := ⟨default, nm ["self", "given"], nm ["self", "given"], (cb (top 38)).getD 0 (.Pass ⟨0, 0, 0, 0⟩)⟩
def hd_init_NotNow : HD := ⟨dr_init_NotNow, "__init__", 265, 264, "NotNow.__init__"⟩
def ci_NotNow : CI := ⟨2, 268, hd_init_NotNow, "given"⟩
def dr_init_InvalidPlace : DefR := ⟨default, nm ["self", "given"], nm ["self", "given"], (cb (top 39)).getD 0 (.Pass ⟨0, 0, 0, 0⟩)⟩
def hd_init_InvalidPlace : HD := ⟨dr_init_InvalidPlace, "__init__", 284, 283, "InvalidPlace.__init__"⟩
def ci_InvalidPlace : CI := ⟨3, 287, hd_init_InvalidPlace, "given"⟩
def dr_init_InvalidText : DefR := ⟨default, nm ["self", "given"], nm ["self", "given"], (cb (top 40)).getD 0 (.Pass ⟨0, 0, 0, 0⟩)⟩
def hd_init_InvalidText : HD := ⟨dr_init_InvalidText, "__init__", 303, 302, "InvalidText.__init__"⟩
def ci_InvalidText : CI := ⟨4, 306, hd_init_InvalidText, "given"⟩
def dr_init_InvalidStakes : DefR := ⟨default, nm ["self", "index"], nm ["self", "index"], (cb (top 41)).getD 0 (.Pass ⟨0, 0, 0, 0⟩)⟩
def hd_init_InvalidStakes : HD := ⟨dr_init_InvalidStakes, "__init__", 322, 321, "InvalidStakes.__init__"⟩
def ci_InvalidStakes : CI := ⟨5, 325, hd_init_InvalidStakes, "index"⟩
def clsA : Cls0 := ⟨nm ["BidError", "NotABoard", "NotNow", "InvalidPlace", "InvalidText", "InvalidStakes"], [229, 249, 268, 287, 306, 325], subs, [ci_NotABoard, ci_NotNow, ci_InvalidPlace, ci_InvalidText, ci_InvalidStakes]⟩
def LA : LF := ⟨mkL nsA dl tlA clsA.inits, [229, 228, 249, 248, 268, 267, 287, 286, 306, 305, 325, 324], clsA.fB⟩
def loose0 : List Str := nm ["__name__", "NOUGHT", "is_whole", "is_between", "is_tuple_of", "first_wrong", "are_indexes", "are_rising", "fraction", "whole", "sum_of", "less", "times", "is_less", "greater_of", "lesser_of", "greatest_of", "least_of", "MOST_PLACES", "PLACES", "ROADS", "is_road", "are_roads", "is_board_by", "places_of", "next_places_by", "ends_by", "inner_by", "with_those_ahead", "do_all_end", "last_ones", "left_in_rings"]
def loose1 : List Str := nm ["an_order_by", "BidError", "NotABoard", "NotNow", "InvalidPlace", "InvalidText", "InvalidStakes", "FINE", "HALF", "MANY_STEPS", "MOST_STAKE", "half_of", "half_next", "stake_of", "due_at", "wrong_places", "halved_at", "halved", "first_rows", "simplest_between", "turned_about", "guess", "values_round", "values_in_order", "values_by", "check_board", "is_stake", "wrong_in_stakes", "check_stakes", "check_place", "check_board_place", "is_board"]
def loose2 : List Str := nm ["has_same_ends", "road_more", "road_less", "unlike_rising", "lots_alike_by", "is_flat", "flat_places_by", "check_found", "with_road", "without_road", "lots_alike", "flat_places", "is_used", "used_roads_by", "lean_board_by", "used_roads", "lean_board", "values", "FIGURES", "BLANK", "END", "HEAD", "is_figures", "numbers_in", "numbers_text", "text_of_board", "many_in", "board_with_text", "board_text", "read_board", "_law_well", "_law_take"]
def loose3 : List Str := nm ["_law_same", "_law_part", "_law_plus", "_law_by", "_law_is_below", "_law_is_number", "_law_is_fraction", "_law_next", "_law_ends", "_law_is_board", "_law_reach", "_law_are_values", "_law_most", "_law_fewest", "_law_paved", "_law_closed", "_law_changed", "_law_is_told", "_law_right"]
def looseA : List Str := loose0 ++ loose1 ++ loose2 ++ loose3
def keepA : List Nat := [0, 129]
def lawAt : Nat := 129
abbrev stepsA : Nat := 4431
abbrev RA : PySem.W.OpenRow := PySem.W.OpenLaw.row PySem.Challenge.rw_bidboards_k78_whole_small_boards
end Ir


set_option Elab.async false
set_option linter.all false
set_option maxRecDepth 100000
set_option maxHeartbeats 0
namespace Ir
open Ev PySem PySem.Spec PyProof.Rows L2 PySem.W PySem.Calls
theorem run (w : World) : HandSHeadRun.RunEqI RA (view RA.prog keepA) (hookL LA) (obL LA) stepsA looseA w := by
  unfold HandSHeadRun.RunEqI
  kernel_rfl
end Ir


set_option Elab.async false
set_option linter.all false
set_option maxRecDepth 100000
set_option maxHeartbeats 400000
/-! EvL: how the evaluator goes, rule by rule (for the laws' plain parts). -/
namespace Ev
open PySem
section
variable {E : En} {φ φ1 φ2 : Fr} {st st1 st2 st3 : Sto} {d x y z : D} {ds : List D} {a b c e : Ex} {es xs : List Ex} {i k : Nat}
theorem ev_var (h : φ[i]? = some (some d)) : evE E (.var i) φ st = some (d, st) := by unfold evE; rw [h]
theorem ev_glob (h : E.G[k]? = some d) : evE E (.glob k) φ st = some (d, st) := by unfold evE; rw [h]
theorem ev_bty {n : String} : evE E (.bty n) φ st = some (.ty n, st) := by unfold evE; rfl
theorem ev_non : evE E .non φ st = some (.non, st) := by unfold evE; rfl
theorem ev_bl {v : Bool} : evE E (.bl v) φ st = some (.bl v, st) := by unfold evE; rfl
theorem ev_int {v : Int} : evE E (.int v) φ st = some (.int v, st) := by unfold evE; rfl
theorem ev_str {v : Str} : evE E (.str v) φ st = some (.str v, st) := by unfold evE; rfl
theorem ev_tup (h : evEs E es φ st = some (ds, st1)) (hl : ds.length ≤ line) : evE E (.tup es) φ st = some (.tup ds, st1) := by
  unfold evE; rw [h]; simp only; rw [if_pos hl]
theorem ev_lst (h : evEs E es φ st = some (ds, st1)) (hl : ds.length ≤ line) : evE E (.lst es) φ st = some (.lst ds, st1) := by
  unfold evE; rw [h]; simp only; rw [if_pos hl]
theorem ev_neg {v : Int} (h : evE E a φ st = some (.int v, st1)) : evE E (.neg a) φ st = some (.int (-v), st1) := by
  unfold evE; rw [h]
theorem ev_bin {o : B2} (h1 : evE E a φ st = some (x, st1)) (h2 : evE E b φ st1 = some (y, st2)) (h3 : binD st2 o x y = some d) : evE E (.bin o a b) φ st = some (d, st2) := by
  unfold evE; rw [h1]; simp only; rw [h2]; simp only; rw [h3]
theorem ev_cmp {o : C2} {v : Bool} (h1 : evE E a φ st = some (x, st1)) (h2 : evE E b φ st1 = some (y, st2)) (h3 : cmpD st2 o x y = some v) : evE E (.cmp o a b) φ st = some (.bl v, st2) := by
  unfold evE; rw [h1]; simp only; rw [h2]; simp only; rw [h3]
theorem ev_chain {o o' : C2} {v v' : Bool} (h1 : evE E a φ st = some (x, st1)) (h2 : evE E b φ st1 = some (y, st2)) (h3 : cmpD st2 o x y = some v) (h4 : v = true → evE E c φ st2 = some (z, st3) ∧ cmpD st3 o' y z = some v') (h5 : v = false → st3 = st2 ∧ v' = false) : evE E (.chain o o' a b c) φ st = some (.bl v', st3) := by
  unfold evE; rw [h1]; simp only; rw [h2]; simp only; rw [h3]
  cases v with
  | true => obtain ⟨q1, q2⟩ := h4 rfl; simp only; rw [q1]; simp only; rw [q2]
  | false => obtain ⟨q1, q2⟩ := h5 rfl; rw [q1, q2]
theorem ev_and (h : evAnd E es φ st = some (d, st1)) : evE E (.and es) φ st = some (d, st1) := by unfold evE; exact h
theorem ev_or (h : evOr E es φ st = some (d, st1)) : evE E (.or es) φ st = some (d, st1) := by unfold evE; exact h
theorem ea_one (h : evE E a φ st = some (d, st1)) : evAnd E [a] φ st = some (d, st1) := by unfold evAnd; exact h
theorem ea_t (h : evE E a φ st = some (.bl true, st1)) (h2 : evAnd E (b :: es) φ st1 = some (d, st2)) : evAnd E (a :: b :: es) φ st = some (d, st2) := by unfold evAnd; rw [h]; exact h2
theorem ea_f (h : evE E a φ st = some (.bl false, st1)) : evAnd E (a :: b :: es) φ st = some (.bl false, st1) := by unfold evAnd; rw [h]
theorem eo_one (h : evE E a φ st = some (d, st1)) : evOr E [a] φ st = some (d, st1) := by unfold evOr; exact h
theorem eo_f (h : evE E a φ st = some (.bl false, st1)) (h2 : evOr E (b :: es) φ st1 = some (d, st2)) : evOr E (a :: b :: es) φ st = some (d, st2) := by unfold evOr; rw [h]; exact h2
theorem eo_t (h : evE E a φ st = some (.bl true, st1)) : evOr E (a :: b :: es) φ st = some (.bl true, st1) := by unfold evOr; rw [h]
theorem ev_not {v : Bool} (h : evE E a φ st = some (.bl v, st1)) : evE E (.not a) φ st = some (.bl (!v), st1) := by unfold evE; rw [h]
theorem ev_ife {v : Bool} (h : evE E c φ st = some (.bl v, st1)) (h2 : v = true → evE E a φ st1 = some (d, st2)) (h3 : v = false → evE E b φ st1 = some (d, st2)) : evE E (.ife c a b) φ st = some (d, st2) := by
  unfold evE; rw [h]
  cases v with
  | true => exact h2 rfl
  | false => exact h3 rfl
theorem ev_ix (h1 : evE E a φ st = some (x, st1)) (h2 : evE E b φ st1 = some (y, st2)) (h3 : ixD st2 x y = some d) : evE E (.ix a b) φ st = some (d, st2) := by
  unfold evE; rw [h1]; simp only; rw [h2]; simp only; rw [h3]
theorem eO_none : evO E [] φ st = some (none, st) := by unfold evO; rfl
theorem eO_some {v : Int} (h : evE E a φ st = some (.int v, st1)) : evO E [a] φ st = some (some v, st1) := by unfold evO; rw [h]
theorem ev_sl {lo hi : List Ex} {l h : Option Int} (h1 : evE E a φ st = some (x, st1)) (h2 : evO E lo φ st1 = some (l, st2)) (h3 : evO E hi φ st2 = some (h, st3)) (h4 : slD st3 x l h = some d) : evE E (.sl a lo hi) φ st = some (d, st3) := by
  unfold evE; rw [h1]; simp only; rw [h2]; simp only; rw [h3]; simp only; rw [h4]
theorem ev_rev (h1 : evE E a φ st = some (x, st1)) (h2 : revD st1 x = some d) : evE E (.rev a) φ st = some (d, st1) := by
  unfold evE; rw [h1]; simp only; rw [h2]
theorem ev_call (h1 : evEs E es φ st = some (ds, st1)) (h2 : E.call k ds st1 = some (d, st2)) : evE E (.call k es) φ st = some (d, st2) := by
  unfold evE; rw [h1]; exact h2
theorem ev_cl {Gl : List D} {c : Cl} {xc : Nat → List D → Sto → Option (Nat × Sto)} {sb : Nat → Nat → Bool} (h1 : evEs ⟨Gl, c, xc, sb⟩ es φ st = some (ds, st1)) (h2 : c k ds st1 = some (d, st2)) : evE ⟨Gl, c, xc, sb⟩ (.call k es) φ st = some (d, st2) := ev_call h1 h2
theorem ev_callv (h0 : φ[i]? = some (some (.fn k))) (h1 : evEs E es φ st = some (ds, st1)) (h2 : E.call k ds st1 = some (d, st2)) : evE E (.callv i es) φ st = some (d, st2) := by
  unfold evE; rw [h0]; simp only; rw [h1]; exact h2
theorem ev_blt {o : Blt} (h1 : evEs E es φ st = some (ds, st1)) (h2 : bltD st1 o ds = some d) : evE E (.blt o es) φ st = some (d, st1) := by
  unfold evE; rw [h1]; simp only; rw [h2]
theorem ev_listRg {l : List D} (h1 : evEs E es φ st = some (ds, st1)) (h2 : rangeOf ds = some l) : evE E (.listRg es) φ st = some (.lst l, st1) := by
  unfold evE; rw [h1]; simp only; rw [h2]
theorem ev_tupRg {l : List D} (h1 : evEs E es φ st = some (ds, st1)) (h2 : rangeOf ds = some l) : evE E (.tupRg es) φ st = some (.tup l, st1) := by
  unfold evE; rw [h1]; simp only; rw [h2]
theorem ev_mt {m : Mt} {C : String} {r : D × Sto} (h1 : evE E a φ st = some (x, st1)) (h2 : mtT st1 m x = some C) (h3 : evEs E es φ st1 = some (ds, st2)) (h4 : mtD st2 m x ds = some r) : evE E (.mt m a es) φ st = some r := by
  unfold evE; rw [h1]; simp only; rw [h2]; simp only; rw [h3]; exact h4
theorem ev_dspK {l : List (Ky × D)} (h1 : evEs E es φ st = some (ds, st1)) (h2 : pairsOf ds = some l) : evE E (.dspK es) φ st = some (.dK (l.foldl (fun a p => put a p.1 p.2) []), st1) := by
  unfold evE; rw [h1]; simp only; rw [h2]
theorem ev_mk (hf : fresh a = true) (h : evE E a φ st = some (d, st1)) : evE E (.mk a) φ st = some (.cel st1.length, st1 ++ [d]) := by
  unfold evE; rw [if_pos hf, h]
def noStar : Ex → Bool
  | .star _ => false
  | _ => true
theorem es_nil : evEs E [] φ st = some ([], st) := by unfold evEs; rfl
theorem es_cons (hs : noStar a = true) (h1 : evE E a φ st = some (d, st1)) (h2 : evEs E es φ st1 = some (ds, st2)) : evEs E (a :: es) φ st = some (d :: ds, st2) := by
  have : evEs E (a :: es) φ st = match evE E a φ st with
      | some (d, st1) => (match evEs E es φ st1 with
        | some (ds, st2) => some (d :: ds, st2)
        | none => none)
      | none => none := by cases a <;> first | rfl | cases hs
  rw [this, h1]; simp only; rw [h2]
theorem ei_nil : evIfs E [] φ st = some (true, st) := by unfold evIfs; rfl
theorem ei_one {v : Bool} (h : evE E a φ st = some (.bl v, st1)) : evIfs E [a] φ st = some (v, st1) := by unfold evIfs; rw [h]
/-- a comprehension's turn -/
def cmpT (E : En) (own : List Nat) (t : CT) (ifs : List Ex) (e : Ex) (φ : Fr) : D → Sto → Option (Option D × Sto) := fun d s => match bindCT (wipe φ own) t d with
          | some φ1 => (match evIfs E ifs φ1 s with
            | some (true, s1) => (match evE E e φ1 s1 with
              | some (y, s2) => some (some y, trimS s.length y s2)
              | none => none)
            | some (false, s1) => some (none, s1)
            | none => none)
          | none => none
theorem cmpT_yes {own : List Nat} {t : CT} {ifs : List Ex} (h1 : bindCT (wipe φ own) t d = some φ1) (h2 : evIfs E ifs φ1 st = some (true, st1)) (h3 : evE E e φ1 st1 = some (y, st2)) : cmpT E own t ifs e φ d st = some (some y, trimS st.length y st2) := by
  unfold cmpT; rw [h1]; simp only; rw [h2]; simp only; rw [h3]
theorem cmpT_no {own : List Nat} {t : CT} {ifs : List Ex} (h1 : bindCT (wipe φ own) t d = some φ1) (h2 : evIfs E ifs φ1 st = some (false, st1)) : cmpT E own t ifs e φ d st = some (none, st1) := by
  unfold cmpT; rw [h1]; simp only; rw [h2]
theorem overC_all {f : D → Sto → Option (Option D × Sto)} {src : Sto → Nat → Option (Option D)} {items : List D} (hs : ∀ i, src st i = some items[i]?) (g : D → Option D) (h : ∀ d ∈ items, f d st = some (g d, st)) :
    ∀ (m i : Nat), items.length = i + m → overC src f m i st = some ((items.drop i).filterMap g, st)
  | 0, i, hm => by
    unfold overC
    rw [hs, List.getElem?_eq_none (by omega)]
    simp only
    rw [List.drop_of_length_le (by omega)]; rfl
  | m + 1, i, hm => by
    unfold overC
    have hi : i < items.length := by omega
    rw [hs, List.getElem?_eq_getElem hi]
    simp only
    rw [h _ (List.getElem_mem hi)]
    simp only
    rw [overC_all hs g h m (i + 1) (by omega)]
    simp only
    rw [List.drop_eq_getElem_cons hi, List.filterMap_cons]
    cases g items[i] <;> rfl
/-- over a list or a tuple (no cell), the store as it is -/
theorem ev_comp {own : List Nat} {t : CT} {w : Wk} {src ifs : List Ex} {items : List D} (h1 : evEs E src φ st = some (ds, st1)) (h2 : srcOf st1 w ds = some (items.length, fun _ i => some items[i]?)) (hl : items.length ≤ line)
    (g : D → Option D) (h3 : ∀ d ∈ items, cmpT E own t ifs e φ d st1 = some (g d, st1)) : evE E (.comp own t w src ifs e) φ st = some (.lst (items.filterMap g), st1) := by
  unfold evE
  rw [h1]
  simp only
  unfold overW
  rw [h2]
  simp only
  rw [if_pos hl]
  have := overC_all (f := cmpT E own t ifs e φ) (src := fun (_ : Sto) i => some items[i]?) (items := items) (st := st1) (fun _ => rfl) g h3 items.length 0 (by omega)
  have e2 : overC (fun (_ : Sto) i => some items[i]?) (cmpT E own t ifs e φ) items.length 0 st1 = some (items.filterMap g, st1) := by rw [this]; rfl
  show (match overC (fun (_ : Sto) i => some items[i]?) (cmpT E own t ifs e φ) items.length 0 st1 with | some (ys, st2) => some (D.lst ys, st2) | none => none) = _
  rw [e2]
/-- over a cell's list that stays -/
theorem ev_compC {own : List Nat} {t : CT} {src ifs : List Ex} {items : List D} (h1 : evEs E src φ st = some ([.cel k], st1)) (h2 : st1[k]? = some (.lst items)) (hl : items.length ≤ line)
    (g : D → Option D) (h3 : ∀ d ∈ items, cmpT E own t ifs e φ d st1 = some (g d, st1)) : evE E (.comp own t .seq src ifs e) φ st = some (.lst (items.filterMap g), st1) := by
  unfold evE
  rw [h1]
  simp only
  have h4 : srcOf st1 .seq [.cel k] = some (items.length, fun s i => cellAt s k i) := by
    show (match st1[k]? with | some (.lst l) => some (l.length, fun s i => cellAt s k i) | _ => none) = _
    rw [h2]
  unfold overW
  rw [h4]
  simp only
  rw [if_pos hl]
  have hc : ∀ i, cellAt st1 k i = some items[i]? := fun i => by unfold cellAt; rw [h2]
  have := overC_all (f := cmpT E own t ifs e φ) (src := fun s i => cellAt s k i) (items := items) (st := st1) hc g h3 items.length 0 (by omega)
  have e2 : overC (fun s i => cellAt s k i) (cmpT E own t ifs e φ) items.length 0 st1 = some (items.filterMap g, st1) := by rw [this]; rfl
  show (match overC (fun s i => cellAt s k i) (cmpT E own t ifs e φ) items.length 0 st1 with | some (ys, st2) => some (D.lst ys, st2) | none => none) = _
  rw [e2]
/-! ### statements -/
variable {o : Out} {s : St} {ss ss2 : List St}
theorem tg_nm : evTg E (.nm i) d φ st = some (φ.set i (some d), st) := by unfold evTg; rfl
theorem tg_tup {ts : List Tg} (h : evTgs E ts ds φ st = some (φ1, st1)) : evTg E (.tup ts) (.tup ds) φ st = some (φ1, st1) := by unfold evTg; exact h
theorem tgs_nil : evTgs E [] [] φ st = some (φ, st) := by unfold evTgs; rfl
theorem tgs_cons {t : Tg} {ts : List Tg} (h1 : evTg E t d φ st = some (φ1, st1)) (h2 : evTgs E ts ds φ1 st1 = some (φ2, st2)) : evTgs E (t :: ts) (d :: ds) φ st = some (φ2, st2) := by
  unfold evTgs; simp only; rw [h1]; exact h2
theorem tg_sub (h1 : evE E a φ st = some (x, st1)) (h2 : evE E b φ st1 = some (y, st2)) (h3 : setD st2 x y d = some st3) : evTg E (.sub a b) d φ st = some (φ, st3) := by
  unfold evTg; rw [h1]; simp only; rw [h2]; simp only; rw [h3]
theorem s_asg {t : Tg} (h1 : evE E e φ st = some (d, st1)) (h2 : evTg E t d φ st1 = some (φ1, st2)) : evS E (.asg t e) φ st = some (.nx, φ1, st2) := by
  unfold evS; rw [h1]; simp only; rw [h2]
theorem s_par {is : List Nat} (h1 : evEs E es φ st = some (ds, st1)) (h2 : setAll φ is ds = some φ1) : evS E (.par is es) φ st = some (.nx, φ1, st1) := by
  unfold evS; rw [h1]; simp only; rw [h2]
theorem s_ex (h1 : evE E e φ st = some (d, st1)) : evS E (.ex e) φ st = some (.nx, φ, st1) := by unfold evS; rw [h1]
theorem s_ret (h1 : evE E e φ st = some (d, st1)) : evS E (.ret e) φ st = some (.ret d, φ, st1) := by unfold evS; rw [h1]
theorem s_retC (h1 : evE E e φ st = some (d, st1)) : evS E (.retC e) φ st = some (.retC d, φ, st1) := by unfold evS; rw [h1]
theorem s_ift (h1 : evE E c φ st = some (.bl true, st1)) (h2 : evSs E ss φ st1 = some (o, φ1, st2)) : evS E (.ife c ss ss2) φ st = some (o, φ1, st2) := by unfold evS; rw [h1]; exact h2
theorem s_iff (h1 : evE E c φ st = some (.bl false, st1)) (h2 : evSs E ss2 φ st1 = some (o, φ1, st2)) : evS E (.ife c ss ss2) φ st = some (o, φ1, st2) := by unfold evS; rw [h1]; exact h2
theorem ss_nil : evSs E [] φ st = some (.nx, φ, st) := by unfold evSs; rfl
theorem ss_nx (h1 : evS E s φ st = some (.nx, φ1, st1)) (h2 : evSs E ss φ1 st1 = some (o, φ2, st2)) : evSs E (s :: ss) φ st = some (o, φ2, st2) := by
  unfold evSs; rw [h1]; exact h2
theorem ss_ret (h1 : evS E s φ st = some (.ret d, φ1, st1)) : evSs E (s :: ss) φ st = some (.ret d, φ1, st1) := by unfold evSs; rw [h1]
theorem ss_retC (h1 : evS E s φ st = some (.retC d, φ1, st1)) : evSs E (s :: ss) φ st = some (.retC d, φ1, st1) := by unfold evSs; rw [h1]
/-- while: n turns by a row of states -/
theorem whl_go {test : Fr → Sto → Option (D × Sto)} {body : Fr → Sto → Option (Out × Fr × Sto)} (S : Nat → Fr × Sto) : ∀ (n m i : Nat), n < m →
    (∀ j, j < n → ∃ s1, test (S (i + j)).1 (S (i + j)).2 = some (.bl true, s1) ∧ body (S (i + j)).1 s1 = some (.nx, (S (i + j + 1)).1, (S (i + j + 1)).2)) → (∃ s1, test (S (i + n)).1 (S (i + n)).2 = some (.bl false, s1) ∧ s1 = st1) →
    whileF test body m (S i).1 (S i).2 = some (.nx, (S (i + n)).1, st1)
  | 0, m + 1, i, _, _, ⟨s1, h, e⟩ => by
    unfold whileF
    rw [Nat.add_zero] at h ⊢
    rw [h]
    simp only
    rw [e]
  | n + 1, m + 1, i, hm, hs, he => by
    obtain ⟨s1, h1, h2⟩ := hs 0 (by omega)
    rw [Nat.add_zero] at h1 h2
    unfold whileF
    rw [h1]
    simp only
    rw [h2]
    simp only
    have := whl_go S n m (i + 1) (by omega) (fun j hj => by
      have := hs (j + 1) (by omega)
      rw [show i + 1 + j = i + (j + 1) by omega]; exact this) (by rw [show i + 1 + n = i + (n + 1) by omega]; exact he)
    rw [this, show i + 1 + n = i + (n + 1) by omega]
/-- for: all turns by a row of states -/
theorem for_go {items : List D} {f : D → Fr → Sto → Option (Out × Fr × Sto)} (S : Nat → Fr × Sto) (h : ∀ i d, items[i]? = some d → f d (S i).1 (S i).2 = some (.nx, (S (i + 1)).1, (S (i + 1)).2)) :
    ∀ (m i : Nat), items.length = i + m → forC (fun _ i => some items[i]?) f m i (S i).1 (S i).2 = some (.nx, (S items.length).1, (S items.length).2)
  | 0, i, hm => by
    unfold forC
    rw [List.getElem?_eq_none (by omega)]
    simp only
    rw [hm, Nat.add_zero]
  | m + 1, i, hm => by
    unfold forC
    have hi : i < items.length := by omega
    rw [List.getElem?_eq_getElem hi]
    simp only
    rw [h i _ (List.getElem?_eq_getElem hi)]
    simp only
    exact for_go S h m (i + 1) (by omega)
def forB (E : En) (t : CT) (b : List St) : D → Fr → Sto → Option (Out × Fr × Sto) := fun d φ s => match bindCT φ t d with
          | some φ1 => evSs E b φ1 s
          | none => none
theorem s_for {t : CT} {w : Wk} {src : List Ex} {items : List D} (S : Nat → Fr × Sto) (h1 : evEs E src φ st = some (ds, st1)) (h2 : srcOf st1 w ds = some (items.length, fun _ i => some items[i]?)) (h0 : S 0 = (φ, st1))
    (h : ∀ i d, items[i]? = some d → forB E t ss d (S i).1 (S i).2 = some (.nx, (S (i + 1)).1, (S (i + 1)).2)) : evS E (.for_ t w src ss) φ st = some (.nx, (S items.length).1, (S items.length).2) := by
  unfold evS
  rw [h1]
  simp only
  rw [h2]
  simp only
  have := for_go (f := forB E t ss) S h items.length 0 (by omega)
  rw [h0] at this
  exact this
end
/-! ### a def -/
theorem run_go {prog : List (Option FnI)} {G : List D} {sub : Nat → Nat → Bool} {n k : Nat} {f : FnI} {args : List D} {st st1 st2 : Sto} {d d2 : D} {φ1 : Fr} (hk : prog[k]? = some (some f)) (hl : args.length = f.np)
    (h : evSs ⟨G, run prog G sub n, xrun prog G sub n, sub⟩ f.body (startF f.ns args) st = some (.ret d, φ1, st1)) (h2 : leave st.length st1 d = some (d2, st2)) : run prog G sub (n + 1) k args st = some (d2, st2) := by
  unfold run
  rw [hk]
  simp only
  rw [if_pos hl, h]
  exact h2
theorem run_go0 {prog : List (Option FnI)} {G : List D} {sub : Nat → Nat → Bool} {n k : Nat} {f : FnI} {args : List D} {st : Sto} {d : D} {φ1 : Fr} (hk : prog[k]? = some (some f)) (hl : args.length = f.np)
    (h : evSs ⟨G, run prog G sub n, xrun prog G sub n, sub⟩ f.body (startF f.ns args) st = some (.ret d, φ1, st)) : run prog G sub (n + 1) k args st = some (d, st) :=
  run_go hk hl h (by unfold leave; rw [if_pos (Nat.le_refl _)])
end Ev


set_option Elab.async false
set_option linter.all false
set_option maxRecDepth 100000
set_option maxHeartbeats 400000
/-! EvA: comprehensions over what stands for a plain list. -/
namespace Ev
open PySem
theorem trim_same {s : Sto} {y : D} : trimS s.length y s = s := by unfold trimS; rw [if_neg (Nat.lt_irrefl _)]
theorem small_line' {n : Nat} (h : n ≤ 1000) : n ≤ line := Nat.le_trans h (by decide)
section
variable {E : En} {φ φ1 φ2 : Fr} {st st1 st2 st3 : Sto} {d x y z : D} {ds : List D} {a b c e : Ex} {es xs : List Ex} {i k : Nat} {α : Type}
theorem ev_compO {own : List Nat} {t : CT} {w : Wk} {src ifs : List Ex} {n : Nat} {sf : Sto → Nat → Option (Option D)} {ys : List D} (h1 : evEs E src φ st = some (ds, st1)) (h2 : srcOf st1 w ds = some (n, sf)) (hl : n ≤ line)
    (h3 : overC sf (cmpT E own t ifs e φ) n 0 st1 = some (ys, st2)) : evE E (.comp own t w src ifs e) φ st = some (.lst ys, st2) := by
  unfold evE
  rw [h1]
  simp only
  unfold overW
  rw [h2]
  simp only
  rw [if_pos hl]
  show (match overC sf (cmpT E own t ifs e φ) n 0 st1 with | some (ys, st2) => some (D.lst ys, st2) | none => none) = _
  rw [h3]
theorem overC_map {f : D → Sto → Option (Option D × Sto)} {src : Sto → Nat → Option (Option D)} {l : List α} {ι : α → D} (hs : ∀ i, src st i = some (l.map ι)[i]?) (g : α → Option D) (h : ∀ a ∈ l, f (ι a) st = some (g a, st)) :
    ∀ (m i : Nat), l.length = i + m → overC src f m i st = some ((l.drop i).filterMap g, st)
  | 0, i, hm => by
    unfold overC
    rw [hs, List.getElem?_eq_none (by rw [List.length_map]; omega)]
    simp only
    rw [List.drop_of_length_le (by omega)]; rfl
  | m + 1, i, hm => by
    unfold overC
    have hi : i < l.length := by omega
    rw [hs, List.getElem?_map, List.getElem?_eq_getElem hi]
    simp only [Option.map_some]
    rw [h _ (List.getElem_mem hi)]
    simp only
    rw [overC_map hs g h m (i + 1) (by omega)]
    simp only
    rw [List.drop_eq_getElem_cons hi, List.filterMap_cons]
    cases g l[i] <;> rfl
theorem ev_compA {own : List Nat} {t : CT} {w : Wk} {src ifs : List Ex} {l : List α} {ι : α → D} (h1 : evEs E src φ st = some (ds, st1)) (h2 : srcOf st1 w ds = some ((l.map ι).length, fun _ i => some (l.map ι)[i]?)) (hl : l.length ≤ line)
    (g : α → Option D) (h3 : ∀ a ∈ l, cmpT E own t ifs e φ (ι a) st1 = some (g a, st1)) : evE E (.comp own t w src ifs e) φ st = some (.lst (l.filterMap g), st1) := by
  unfold evE
  rw [h1]
  simp only
  unfold overW
  rw [h2]
  simp only
  rw [if_pos (by rw [List.length_map]; exact hl)]
  have := overC_map (f := cmpT E own t ifs e φ) (src := fun (_ : Sto) i => some (l.map ι)[i]?) (l := l) (ι := ι) (st := st1) (fun _ => rfl) g h3 l.length 0 (by omega)
  have e2 : overC (fun (_ : Sto) i => some (l.map ι)[i]?) (cmpT E own t ifs e φ) (l.map ι).length 0 st1 = some (l.filterMap g, st1) := by rw [List.length_map, this]; rfl
  show (match overC (fun (_ : Sto) i => some (l.map ι)[i]?) (cmpT E own t ifs e φ) (l.map ι).length 0 st1 with | some (ys, st2) => some (D.lst ys, st2) | none => none) = _
  rw [e2]
/-- no test: each one -/
theorem ev_mapA {own : List Nat} {t : CT} {w : Wk} {src : List Ex} {l : List α} {ι : α → D} (h1 : evEs E src φ st = some (ds, st1)) (h2 : srcOf st1 w ds = some ((l.map ι).length, fun _ i => some (l.map ι)[i]?)) (hl : l.length ≤ line)
    (g : α → D) (F : α → Fr) (hF : ∀ a ∈ l, bindCT (wipe φ own) t (ι a) = some (F a)) (h3 : ∀ a ∈ l, evE E e (F a) st1 = some (g a, st1)) : evE E (.comp own t w src [] e) φ st = some (.lst (l.map g), st1) := by
  have := ev_compA (E := E) (own := own) (t := t) (w := w) (ifs := []) (e := e) h1 h2 hl (fun a => some (g a)) (fun a ha => (cmpT_yes (hF a ha) ei_nil (h3 a ha)).trans (by rw [trim_same]))
  rw [this]
  rw [show l.filterMap (fun a => some (g a)) = l.map g from congrFun List.filterMap_eq_map' l]
/-- a test: those that are so -/
theorem ev_filA {own : List Nat} {t : CT} {w : Wk} {src ifs : List Ex} {l : List α} {ι : α → D} (h1 : evEs E src φ st = some (ds, st1)) (h2 : srcOf st1 w ds = some ((l.map ι).length, fun _ i => some (l.map ι)[i]?)) (hl : l.length ≤ line)
    (c : α → Bool) (g : α → D) (F : α → Fr) (hF : ∀ a ∈ l, bindCT (wipe φ own) t (ι a) = some (F a)) (hc : ∀ a ∈ l, evIfs E ifs (F a) st1 = some (c a, st1)) (h3 : ∀ a ∈ l, c a = true → evE E e (F a) st1 = some (g a, st1)) :
    evE E (.comp own t w src ifs e) φ st = some (.lst ((l.filter c).map g), st1) := by
  have := ev_compA (E := E) (own := own) (t := t) (w := w) (ifs := ifs) (e := e) h1 h2 hl (fun a => if c a then some (g a) else none) (fun a ha => by
    cases q : c a with
    | true => rw [if_pos rfl]; exact (cmpT_yes (hF a ha) (by rw [hc a ha, q]) (h3 a ha q)).trans (by rw [trim_same])
    | false => rw [if_neg (by decide)]; exact cmpT_no (hF a ha) (by rw [hc a ha, q]))
  rw [this]
  congr 2
  clear this h3 hc hF h2 hl
  congr 1
  induction l with
  | nil => rfl
  | cons x l ih =>
    rw [List.filterMap_cons, List.filter_cons]
    cases q : c x with
    | true => simp only [if_true, List.map_cons]; congr 1
    | false => simp only [Bool.false_eq_true, if_false]; exact ih
theorem ev_compCA {own : List Nat} {t : CT} {src ifs : List Ex} {l : List α} {ι : α → D} (h1 : evEs E src φ st = some ([.cel k], st1)) (h2 : st1[k]? = some (.lst (l.map ι))) (hl : l.length ≤ line)
    (g : α → Option D) (h3 : ∀ a ∈ l, cmpT E own t ifs e φ (ι a) st1 = some (g a, st1)) : evE E (.comp own t .seq src ifs e) φ st = some (.lst (l.filterMap g), st1) := by
  unfold evE
  rw [h1]
  simp only
  have h4 : srcOf st1 .seq [.cel k] = some ((l.map ι).length, fun s i => cellAt s k i) := by
    show (match st1[k]? with | some (.lst l) => some (l.length, fun s i => cellAt s k i) | _ => none) = _
    rw [h2]
  unfold overW
  rw [h4]
  simp only
  rw [if_pos (by rw [List.length_map]; exact hl)]
  have hc : ∀ i, cellAt st1 k i = some (l.map ι)[i]? := fun i => by unfold cellAt; rw [h2]
  have := overC_map (f := cmpT E own t ifs e φ) (src := fun s i => cellAt s k i) (l := l) (ι := ι) (st := st1) hc g h3 l.length 0 (by omega)
  have e2 : overC (fun s i => cellAt s k i) (cmpT E own t ifs e φ) (l.map ι).length 0 st1 = some (l.filterMap g, st1) := by rw [List.length_map, this]; rfl
  show (match overC (fun s i => cellAt s k i) (cmpT E own t ifs e φ) (l.map ι).length 0 st1 with | some (ys, st2) => some (D.lst ys, st2) | none => none) = _
  rw [e2]
theorem filterMap_if {c : α → Bool} {g : α → D} : ∀ l : List α, l.filterMap (fun a => if c a then some (g a) else none) = (l.filter c).map g
  | [] => rfl
  | x :: l => by
    rw [List.filterMap_cons, List.filter_cons, filterMap_if l]
    cases c x <;> rfl
theorem ev_filCA {own : List Nat} {t : CT} {src ifs : List Ex} {l : List α} {ι : α → D} (h1 : evEs E src φ st = some ([.cel k], st1)) (h2 : st1[k]? = some (.lst (l.map ι))) (hl : l.length ≤ line)
    (c : α → Bool) (g : α → D) (F : α → Fr) (hF : ∀ a ∈ l, bindCT (wipe φ own) t (ι a) = some (F a)) (hc : ∀ a ∈ l, evIfs E ifs (F a) st1 = some (c a, st1)) (h3 : ∀ a ∈ l, c a = true → evE E e (F a) st1 = some (g a, st1)) :
    evE E (.comp own t .seq src ifs e) φ st = some (.lst ((l.filter c).map g), st1) := by
  have := ev_compCA (E := E) (own := own) (t := t) (ifs := ifs) (e := e) h1 h2 hl (fun a => if c a then some (g a) else none) (fun a ha => by
    cases q : c a with
    | true => rw [if_pos rfl]; exact (cmpT_yes (hF a ha) (by rw [hc a ha, q]) (h3 a ha q)).trans (by rw [trim_same])
    | false => rw [if_neg (by decide)]; exact cmpT_no (hF a ha) (by rw [hc a ha, q]))
  rw [this, filterMap_if]
theorem src_l {l : List α} {ι : α → D} : srcOf st .seq [.lst (l.map ι)] = some ((l.map ι).length, fun _ i => some (l.map ι)[i]?) := rfl
theorem src_t {l : List α} {ι : α → D} : srcOf st .seq [.tup (l.map ι)] = some ((l.map ι).length, fun _ i => some (l.map ι)[i]?) := rfl
/-- for, over what stands for a plain list -/
theorem for_map {l : List α} {ι : α → D} {f : D → Fr → Sto → Option (Out × Fr × Sto)} (S : Nat → Fr × Sto) (h : ∀ i (hi : i < l.length), f (ι l[i]) (S i).1 (S i).2 = some (.nx, (S (i + 1)).1, (S (i + 1)).2)) :
    ∀ (m i : Nat), l.length = i + m → forC (fun _ i => some (l.map ι)[i]?) f m i (S i).1 (S i).2 = some (.nx, (S l.length).1, (S l.length).2) := fun m i hm => by
  have := for_go (items := l.map ι) (f := f) S (fun i d hd => by
    rw [List.getElem?_map] at hd
    by_cases hi : i < l.length
    · rw [List.getElem?_eq_getElem hi] at hd; cases hd; exact h i hi
    · rw [List.getElem?_eq_none (by omega)] at hd; cases hd) m i (by rw [List.length_map]; exact hm)
  rw [List.length_map] at this
  exact this
theorem s_forA {t : CT} {w : Wk} {src : List Ex} {ss : List St} {l : List α} {ι : α → D} (S : Nat → Fr × Sto) (h1 : evEs E src φ st = some (ds, st1)) (h2 : srcOf st1 w ds = some ((l.map ι).length, fun _ i => some (l.map ι)[i]?)) (h0 : S 0 = (φ, st1))
    (F : Nat → Fr) (hF : ∀ i (hi : i < l.length), bindCT (S i).1 t (ι l[i]) = some (F i)) (h : ∀ i (hi : i < l.length), evSs E ss (F i) (S i).2 = some (.nx, (S (i + 1)).1, (S (i + 1)).2)) : evS E (.for_ t w src ss) φ st = some (.nx, (S l.length).1, (S l.length).2) := by
  unfold evS
  rw [h1]
  simp only
  rw [h2]
  simp only
  have := for_map (f := forB E t ss) (l := l) (ι := ι) S (fun i hi => by unfold forB; rw [hF i hi]; exact h i hi) l.length 0 (by omega)
  rw [h0] at this
  rw [List.length_map]
  exact this
/-- for, left at a turn -/
theorem for_outA {l : List α} {ι : α → D} {f : D → Fr → Sto → Option (Out × Fr × Sto)} (S : Nat → Fr × Sto) {r : Nat} (hr : r < l.length) {φ' : Fr} {st' : Sto} (h : ∀ i (hi : i < l.length), i < r → f (ι l[i]) (S i).1 (S i).2 = some (.nx, (S (i + 1)).1, (S (i + 1)).2))
    (ho : f (ι l[r]) (S r).1 (S r).2 = some (.ret d, φ', st')) :
    ∀ (m i : Nat), l.length = i + m → i ≤ r → forC (fun _ i => some (l.map ι)[i]?) f m i (S i).1 (S i).2 = some (.ret d, φ', st')
  | 0, i, hm, hi => by omega
  | m + 1, i, hm, hi => by
    unfold forC
    rw [List.getElem?_map, List.getElem?_eq_getElem (by omega)]
    simp only [Option.map_some]
    by_cases q : i = r
    · subst q; rw [ho]
    · rw [h i (by omega) (by omega)]
      simp only
      exact for_outA S hr h ho m (i + 1) (by omega) (by omega)
/-- for, by an invariant -/
theorem for_inv {l : List α} {ι : α → D} {f : D → Fr → Sto → Option (Out × Fr × Sto)} (Inv : Nat → Fr → Sto → Prop) (h : ∀ i (hi : i < l.length) φ st, Inv i φ st → ∃ φ' st', f (ι l[i]) φ st = some (.nx, φ', st') ∧ Inv (i + 1) φ' st') :
    ∀ (m i : Nat) (φ : Fr) (st : Sto), l.length = i + m → Inv i φ st → ∃ φ' st', forC (fun _ i => some (l.map ι)[i]?) f m i φ st = some (.nx, φ', st') ∧ Inv l.length φ' st'
  | 0, i, φ, st, hm, hI => by
    refine ⟨φ, st, ?_, by rw [hm, Nat.add_zero]; exact hI⟩
    unfold forC
    rw [List.getElem?_eq_none (by rw [List.length_map]; omega)]
  | m + 1, i, φ, st, hm, hI => by
    have hi : i < l.length := by omega
    obtain ⟨φ1, st1, h1, h2⟩ := h i hi φ st hI
    obtain ⟨φ2, st2, h3, h4⟩ := for_inv Inv h m (i + 1) φ1 st1 (by omega) h2
    refine ⟨φ2, st2, ?_, h4⟩
    unfold forC
    rw [List.getElem?_map, List.getElem?_eq_getElem hi]
    simp only [Option.map_some]
    rw [h1]
    exact h3
theorem s_forI {t : CT} {w : Wk} {src : List Ex} {ss : List St} {l : List α} {ι : α → D} (Inv : Nat → Fr → Sto → Prop) (h1 : evEs E src φ st = some (ds, st1)) (h2 : srcOf st1 w ds = some ((l.map ι).length, fun _ i => some (l.map ι)[i]?)) (h0 : Inv 0 φ st1)
    (h : ∀ i (hi : i < l.length) φ st, Inv i φ st → ∃ φ1 φ' st', bindCT φ t (ι l[i]) = some φ1 ∧ evSs E ss φ1 st = some (.nx, φ', st') ∧ Inv (i + 1) φ' st') : ∃ φ' st', evS E (.for_ t w src ss) φ st = some (.nx, φ', st') ∧ Inv l.length φ' st' := by
  unfold evS
  rw [h1]
  simp only
  rw [h2]
  simp only
  rw [List.length_map]
  exact for_inv (f := forB E t ss) Inv (fun i hi φ st hI => by
    obtain ⟨φ1, φ', st', a, b, c⟩ := h i hi φ st hI
    exact ⟨φ', st', by unfold forB; rw [a]; exact b, c⟩) l.length 0 φ st1 (by omega) h0
theorem rangeD_ok {a b : Int} (h : -1000 ≤ a ∧ a ≤ 1000 ∧ -1000 ≤ b ∧ b ≤ 1000) : rangeD a b = some ((List.range (b - a).toNat).map fun (i : Nat) => D.int (a + i)) := by
  have h5 : (b - a).toNat ≤ line := Nat.le_trans (m := 2000) (by omega) (by decide)
  have hc : -(2 ^ 61) ≤ a ∧ a < 2 ^ 61 ∧ -(2 ^ 61) ≤ b ∧ b < 2 ^ 61 ∧ (b - a).toNat ≤ line := ⟨by omega, by omega, by omega, by omega, h5⟩
  unfold rangeD
  exact if_pos hc
theorem src_items {ds items : List D} (e : itemsOf .range ds = some items) : srcOf st .range ds = some (items.length, fun _ i => some items[i]?) := by
  show (match itemsOf .range ds with | some items => some (items.length, fun (_ : Sto) i => some items[i]?) | none => none) = _
  rw [e]
theorem src_rangeN {m : Nat} (h : m ≤ 1000) : srcOf st .range [.int (m : Nat)] = some (((List.range m).map fun (i : Nat) => D.int i).length, fun _ i => some ((List.range m).map fun (i : Nat) => D.int i)[i]?) := by
  have : rangeOf [.int (m : Nat)] = some ((List.range m).map fun (i : Nat) => D.int i) := by
    show rangeD 0 (m : Int) = _
    rw [rangeD_ok (by omega)]
    simp
  have e : itemsOf .range [.int (m : Nat)] = some ((List.range m).map fun (i : Nat) => D.int i) := this
  exact src_items e
theorem src_range2 {a b : Int} (h : -1000 ≤ a ∧ a ≤ 1000 ∧ -1000 ≤ b ∧ b ≤ 1000) : srcOf st .range [.int a, .int b] = some (((List.range (b - a).toNat).map fun (i : Nat) => D.int (a + i)).length, fun _ i => some ((List.range (b - a).toNat).map fun (i : Nat) => D.int (a + i))[i]?) := by
  have : rangeOf [.int a, .int b] = some ((List.range (b - a).toNat).map fun (i : Nat) => D.int (a + i)) := rangeD_ok h
  have e : itemsOf .range [.int a, .int b] = some ((List.range (b - a).toNat).map fun (i : Nat) => D.int (a + i)) := this
  exact src_items e
/-- nothing is walked -/
theorem s_for0 {t : CT} {src : List Ex} {ss : List St} (h1 : evEs E src φ st = some ([.lst []], st1)) : evS E (.for_ t .seq src ss) φ st = some (.nx, φ, st1) := by
  unfold evS
  rw [h1]
  rfl
end
/-! ### a def with cells of its own -/
theorem run_nx {prog : List (Option FnI)} {G : List D} {sub : Nat → Nat → Bool} {n k : Nat} {f : FnI} {args : List D} {st : Sto} {φ1 : Fr} (hk : prog[k]? = some (some f)) (hl : args.length = f.np)
    (h : evSs ⟨G, run prog G sub n, xrun prog G sub n, sub⟩ f.body (startF f.ns args) st = some (.nx, φ1, st)) : run prog G sub (n + 1) k args st = some (.non, st) := by
  unfold run
  rw [hk]
  simp only
  rw [if_pos hl, h]
  simp only
  unfold leave; rw [if_pos (Nat.le_refl _)]

theorem run_cell {prog : List (Option FnI)} {G : List D} {sub : Nat → Nat → Bool} {n k : Nat} {f : FnI} {args : List D} {st st1 : Sto} {d : D} {φ1 : Fr} (hk : prog[k]? = some (some f)) (hl : args.length = f.np) (hst : undL st st.length = true)
    (h : evSs ⟨G, run prog G sub n, xrun prog G sub n, sub⟩ f.body (startF f.ns args) st = some (.ret d, φ1, st ++ st1)) (hd : d.und st.length = true) : run prog G sub (n + 1) k args st = some (d, st) :=
  run_go hk hl h (by
    unfold leave
    by_cases q : (st ++ st1).length ≤ st.length
    · rw [if_pos q]
      have : st1 = [] := by cases st1 with | nil => rfl | cons _ _ => simp at q; omega
      rw [this, List.append_nil]
    · rw [if_neg q, List.take_left', if_pos hst, if_pos hd]; rfl)
end Ev


set_option Elab.async false
set_option linter.all false
set_option maxRecDepth 100000
set_option maxHeartbeats 400000
set_option exponentiation.threshold 20000
namespace Ev
open PySem Ir
theorem small_line {n : Nat} (h : n ≤ 1000) : n ≤ line := Nat.le_trans h (by decide)
def wl (a b c : Int) : D := .lst [.int a, .int b, .int c]
section
variable {st : Sto}
theorem dr_cell {x : D} : dr (st ++ [x]) (.cel st.length) = x := by
  show (st ++ [x]).getD st.length .non = x
  rw [List.getD_eq_getElem?_getD, List.getElem?_append_right (Nat.le_refl _), Nat.sub_self]; rfl
theorem at_cell {x : D} : (st ++ [x])[st.length]? = some x := by
  rw [List.getElem?_append_right (Nat.le_refl _), Nat.sub_self]; rfl
theorem set_cell {x y : D} : (st ++ [x]).set st.length y = st ++ [y] := by
  rw [List.set_append_right _ _ (Nat.le_refl _), Nat.sub_self]; rfl
theorem setD_cell {l : List D} {j : Nat} {v : D} (h : j < l.length) : setD (st ++ [.lst l]) (.cel st.length) (.int (j : Nat)) v = some (st ++ [.lst (l.set j v)]) := by
  unfold setD
  simp only [at_cell]
  have : ixN l.length (j : Int) = some j := by unfold ixN; rw [if_pos (by omega), if_pos (by omega)]; simp
  rw [this]
  simp only [set_cell]
end
theorem atI_nat {l : List D} {i : Nat} (h : i < l.length) : atI l (i : Int) = some l[i] := by
  unfold atI ixN
  rw [if_pos (by omega), if_pos (by omega)]
  simp [h]
theorem mul_b {i j : Int} (h : small i = true) (h' : small j = true) (st : Sto) : binD st .mul (.int i) (.int j) = some (.int (i * j)) := by
  show (if small i && small j then some (D.int (i * j)) else none) = _
  rw [h, h']; rfl
theorem small_of {i : Int} (h0 : 0 ≤ i) (h1 : i < 2 ^ 60) : small i = true := by
  have : i.natAbs < 2 ^ 60 := by omega
  unfold small
  refine decide_eq_true ?_
  by_cases h : i.natAbs = 0
  · rw [h]; decide
  · have := (Nat.log2_lt h).mpr this
    omega
theorem fdiv_b {i j : Int} (h : 0 < j) (h2 : j.natAbs.log2 < 9000) (st : Sto) : binD st .fdiv (.int i) (.int j) = some (.int (i / j)) := by
  show (if 0 < j ∧ j.natAbs.log2 < 9000 then some (D.int (i / j)) else none) = _
  rw [if_pos ⟨h, h2⟩]
theorem run_goS {prog : List (Option FnI)} {G : List D} {sub : Nat → Nat → Bool} {n k : Nat} {f : FnI} {args : List D} {st st1 : Sto} {d : D} {φ1 : Fr} (hk : prog[k]? = some (some f)) (hl : args.length = f.np)
    (h : evSs ⟨G, run prog G sub n, xrun prog G sub n, sub⟩ f.body (startF f.ns args) st = some (.ret d, φ1, st1)) (hle : st1.length ≤ st.length) : run prog G sub (n + 1) k args st = some (d, st1) :=
  run_go hk hl h (by unfold leave; rw [if_pos hle])
section
variable {n : Nat} {pre : Sto}
theorem ix_wl0 {a b c : Int} : ixD (pre ++ [wl a b c]) (.cel pre.length) (.int 0) = some (.int a) := by unfold ixD; rw [dr_cell]; rfl
theorem ix_wl1 {a b c : Int} : ixD (pre ++ [wl a b c]) (.cel pre.length) (.int 1) = some (.int b) := by unfold ixD; rw [dr_cell]; rfl
theorem ix_wl2 {a b c : Int} : ixD (pre ++ [wl a b c]) (.cel pre.length) (.int 2) = some (.int c) := by unfold ixD; rw [dr_cell]; rfl
theorem set_wl0 {a b c v : Int} : setD (pre ++ [wl a b c]) (.cel pre.length) (.int 0) (.int v) = some (pre ++ [wl v b c]) := setD_cell (l := [.int a, .int b, .int c]) (j := 0) (by simp)
theorem set_wl1 {a b c v : Int} : setD (pre ++ [wl a b c]) (.cel pre.length) (.int 1) (.int v) = some (pre ++ [wl a v c]) := setD_cell (l := [.int a, .int b, .int c]) (j := 1) (by simp)
theorem set_wl2 {a b c v : Int} : setD (pre ++ [wl a b c]) (.cel pre.length) (.int 2) (.int v) = some (pre ++ [wl a b v]) := setD_cell (l := [.int a, .int b, .int c]) (j := 2) (by simp)
theorem mod_b {i j : Int} (h : 0 < j) (st : Sto) : binD st .mod (.int i) (.int j) = some (.int (i % j)) := by
  show (if 0 < j then some (D.int (i % j)) else none) = _
  rw [if_pos h]
theorem r_take {a b c N k : Int} (hb : 0 ≤ b ∧ b < 2 ^ 32) (hc : 0 ≤ c ∧ c ≤ N) (hN : N ≤ 1000000) (hk : 0 < k ∧ k ≤ 1000000) :
    ∃ d a' b' c', run prog G sub (n + 1) i__law_take [.cel pre.length, .int k] (pre ++ [wl a b c]) = some (.int d, pre ++ [wl a' b' c']) ∧ (0 ≤ d ∧ d < k) ∧ (0 ≤ b' ∧ b' < 2 ^ 32) ∧ (0 ≤ c' ∧ c' ≤ N + 1) := by
  by_cases ha : 0 < a
  · refine ⟨a % k, a / k, b, c, ?_, ⟨Int.emod_nonneg _ (by omega), Int.emod_lt_of_pos _ hk.1⟩, hb, by omega⟩
    have hdm : bltD (pre ++ [wl a b c]) .divmod [.int a, .int k] = some (.tup [.int (a / k), .int (a % k)]) := by
      show (if 0 < k ∧ k < 1073741824 then some (D.tup [.int (a / k), .int (a % k)]) else none) = _
      rw [if_pos ⟨hk.1, by omega⟩]
    exact run_goS (f := ir__law_take) rfl rfl (ss_ret (s_ift (ev_cmp (v := true) (ev_ix (ev_var rfl) ev_int ix_wl0) ev_int (by show some (decide (0 < a)) = _; rw [decide_eq_true ha]))
      (ss_nx (s_asg (ev_blt (es_cons rfl (ev_ix (ev_var rfl) ev_int ix_wl0) (es_cons rfl (ev_var rfl) es_nil)) hdm) (tg_tup (tgs_cons (tg_sub (ev_var rfl) ev_int set_wl0) (tgs_cons tg_nm tgs_nil)))) (ss_ret (s_ret (ev_var rfl)))))) (by simp)
  · have hb2 : 0 ≤ (b * 39373 + (c + 1) * 30323 + 11) % 2147483543 ∧ (b * 39373 + (c + 1) * 30323 + 11) % 2147483543 < 2147483543 := ⟨Int.emod_nonneg _ (by decide), Int.emod_lt_of_pos _ (by decide)⟩
    refine ⟨((b * 39373 + (c + 1) * 30323 + 11) % 2147483543) / 128 % k, a, (b * 39373 + (c + 1) * 30323 + 11) % 2147483543, c + 1, ?_, ⟨Int.emod_nonneg _ (by omega), Int.emod_lt_of_pos _ hk.1⟩, by omega, by omega⟩
    exact run_goS (f := ir__law_take) rfl rfl (ss_nx (s_iff (ev_cmp (v := false) (ev_ix (ev_var rfl) ev_int ix_wl0) ev_int (by show some (decide (0 < a)) = _; rw [decide_eq_false ha])) ss_nil)
      (ss_nx (s_asg (ev_bin (ev_ix (ev_var rfl) ev_int ix_wl2) ev_int rfl) (tg_sub (ev_var rfl) ev_int set_wl2))
      (ss_nx (s_asg (ev_bin (ev_blt (es_cons rfl (ev_bin (ev_bin (ev_bin (ev_ix (ev_var rfl) ev_int ix_wl1) ev_int (mul_b (small_of hb.1 (by omega)) (by decide) _)) (ev_bin (ev_ix (ev_var rfl) ev_int ix_wl2) ev_int (mul_b (small_of (by omega) (by omega)) (by decide) _)) rfl) ev_int rfl) es_nil) rfl) ev_int (mod_b (by decide) _)) (tg_sub (ev_var rfl) ev_int set_wl1))
      (ss_ret (s_ret (ev_bin (ev_blt (es_cons rfl (ev_bin (ev_ix (ev_var rfl) ev_int ix_wl1) ev_int (fdiv_b (by decide) (by decide) _)) es_nil) rfl) (ev_var rfl) (mod_b hk.1 _))))))) (by simp)
theorem run_goC {prog : List (Option FnI)} {G : List D} {sub : Nat → Nat → Bool} {n k : Nat} {f : FnI} {args : List D} {st : Sto} {c : D} {φ1 : Fr} (hk : prog[k]? = some (some f)) (hl : args.length = f.np) (hst : undL st st.length = true) (hc : c.und st.length = true)
    (h : evSs ⟨G, run prog G sub n, xrun prog G sub n, sub⟩ f.body (startF f.ns args) st = some (.retC (.cel st.length), φ1, st ++ [c])) : run prog G sub (n + 1) k args st = some (.cel st.length, st ++ [c]) := by
  unfold run
  rw [hk]
  simp only
  rw [if_pos hl, h]
  simp only
  unfold leaveC
  simp only
  rw [if_pos ⟨Nat.le_refl _, by rw [List.take_left']; exact hst; rfl⟩, at_cell]
  simp only
  rw [if_pos hc, List.take_left' rfl]
theorem r_well {is : List Int} {k : Nat} (hk : k < 10) (hl : is.length ≤ 63) (hst : undL pre pre.length = true) : ∃ a b, run prog G sub (n + 1) i__law_well [.scr (is.map D.int), .int (k : Nat)] pre = some (.cel pre.length, pre ++ [wl a b 0]) ∧ (0 ≤ b ∧ b < 2 ^ 32) := by
  have h1 : ∃ own : Int, evE ⟨G, run prog G sub n, xrun prog G sub n, sub⟩ (.ife (.cmp .lt (.var 1) (.blt .len [.var 0])) (.blt .int [.ix (.var 0) (.var 1)]) (.int 0)) [some (.scr (is.map D.int)), some (.int (k : Nat)), none, none, none] pre = some (.int own, pre) := by
    have hc : evE ⟨G, run prog G sub n, xrun prog G sub n, sub⟩ (.cmp .lt (.var 1) (.blt .len [.var 0])) [some (.scr (is.map D.int)), some (.int (k : Nat)), none, none, none] pre = some (.bl (decide ((k : Int) < (is.length : Nat))), pre) := ev_cmp (ev_var rfl) (ev_blt (d := .int (is.length : Nat)) (es_cons rfl (ev_var rfl) es_nil) (by show some (D.int ((is.map D.int).length : Nat)) = _; rw [List.length_map])) rfl
    by_cases q : k < is.length
    · rw [decide_eq_true (by omega)] at hc
      refine ⟨is[k], ev_ife hc (fun _ => ev_blt (es_cons rfl (ev_ix (y := .int (k : Nat)) (d := .int is[k]) (ev_var rfl) (ev_var rfl) ?_) es_nil) rfl) nofun⟩
      show atI (is.map D.int) (k : Int) = _
      rw [atI_nat (by simpa using q)]
      simp
    · rw [decide_eq_false (by omega)] at hc
      exact ⟨0, ev_ife hc nofun fun _ => ev_int⟩
  obtain ⟨own, h1⟩ := h1
  let W : Option D := some (.scr (is.map D.int))
  have hsrc : evEs ⟨G, run prog G sub n, xrun prog G sub n, sub⟩ [.bin .add (.sl (.var 0) [] [.int 8]) (.lst [.var 2])] [W, some (.int (k : Nat)), some (.int own), some (.int (52027 + 6971 * (k : Nat))), none] pre = some ([.lst ((is.take 8 ++ [own]).map D.int)], pre) := by
    have hsl : slD pre (.scr (is.map D.int)) none (some 8) = some (.lst ((is.take 8).map D.int)) := by
      show some (D.lst (cut (is.map D.int) none (some 8))) = _
      unfold cut
      simp only [sIx]
      rw [if_neg (by decide), Nat.sub_zero, List.drop_zero, List.map_take, List.length_map]
      have e : (8 : Int).toNat = 8 := rfl
      rw [e]
      by_cases z : 8 ≤ is.length
      · rw [Nat.min_eq_left z]
      · rw [Nat.min_eq_right (by omega), List.take_of_length_le (by simp), List.take_of_length_le (by simp; omega)]
    refine es_cons rfl (ev_bin (ev_sl (ev_var rfl) eO_none (eO_some ev_int) hsl) (ev_lst (es_cons rfl (ev_var rfl) es_nil) (small_line (by simp))) ?_) es_nil
    show (if ((is.take 8).map D.int).length + 1 ≤ line then some (D.lst ((is.take 8).map D.int ++ [.int own])) else none) = _
    rw [if_pos (small_line (by rw [List.length_map, List.length_take]; omega)), List.map_append]; rfl
  obtain ⟨φ', st', hfor, rfl, s, x, hs, rfl⟩ := s_forI (E := ⟨G, run prog G sub n, xrun prog G sub n, sub⟩) (t := .one 4) (w := .seq) (src := [.bin .add (.sl (.var 0) [] [.int 8]) (.lst [.var 2])]) (ss := [.asg (.nm 3) (.bin .mod (.blt .int [.bin .add (.bin .add (.bin .mul (.var 3) (.int 44497)) (.bin .mod (.blt .int [.var 4]) (.int 2147483587))) (.int 29)]) (.int 2147483563))]) (φ := [W, some (.int (k : Nat)), some (.int own), some (.int (52027 + 6971 * (k : Nat))), none]) (st := pre) (st1 := pre) (l := is.take 8 ++ [own]) (ι := D.int)
    (fun _ φ st => st = pre ∧ ∃ s x, (0 ≤ s ∧ s < 2 ^ 32) ∧ φ = [W, some (.int (k : Nat)), some (.int own), some (.int s), x]) hsrc src_l ⟨rfl, _, _, by omega, rfl⟩ (fun i hi φ st hI => by
      obtain ⟨rfl, s, x, hs, rfl⟩ := hI
      have hr : 0 ≤ (s * 44497 + (is.take 8 ++ [own])[i] % 2147483587 + 29) % 2147483563 ∧ (s * 44497 + (is.take 8 ++ [own])[i] % 2147483587 + 29) % 2147483563 < 2147483563 := ⟨Int.emod_nonneg _ (by decide), Int.emod_lt_of_pos _ (by decide)⟩
      exact ⟨_, _, st, rfl, ss_nx (s_asg (ev_bin (ev_blt (es_cons rfl (ev_bin (ev_bin (ev_bin (ev_var rfl) ev_int (mul_b (small_of hs.1 (by omega)) (by decide) _)) (ev_bin (ev_blt (es_cons rfl (ev_var rfl) es_nil) rfl) ev_int (mod_b (by decide) _)) rfl) ev_int rfl) es_nil) rfl) ev_int (mod_b (by decide) _)) tg_nm) ss_nil, rfl, _, _, by omega, rfl⟩)
  have hlast : ∃ a, evE ⟨G, run prog G sub n, xrun prog G sub n, sub⟩ (.ife (.or [.cmp .lt (.var 2) (.int 0), .cmp .ge (.var 2) (.bin .pow (.int 10) (.int 18))]) (.blt .abs [.var 2]) (.int 0)) [W, some (.int (k : Nat)), some (.int own), some (.int s), x] st' = some (.int a, st') := by
    have c1 : evE ⟨G, run prog G sub n, xrun prog G sub n, sub⟩ (.cmp .lt (.var 2) (.int 0)) [W, some (.int (k : Nat)), some (.int own), some (.int s), x] st' = some (.bl (decide (own < 0)), st') := ev_cmp (ev_var rfl) ev_int rfl
    have c2 : evE ⟨G, run prog G sub n, xrun prog G sub n, sub⟩ (.cmp .ge (.var 2) (.bin .pow (.int 10) (.int 18))) [W, some (.int (k : Nat)), some (.int own), some (.int s), x] st' = some (.bl (decide ((10 ^ 18 : Int) ≤ own)), st') := ev_cmp (ev_var rfl) (ev_bin (d := .int (10 ^ 18)) ev_int ev_int rfl) rfl
    by_cases q : own < 0
    · rw [decide_eq_true q] at c1
      exact ⟨_, ev_ife (ev_or (eo_t c1)) (fun _ => ev_blt (es_cons rfl (ev_var rfl) es_nil) rfl) nofun⟩
    · rw [decide_eq_false q] at c1
      by_cases q2 : (10 ^ 18 : Int) ≤ own
      · rw [decide_eq_true q2] at c2
        exact ⟨_, ev_ife (ev_or (eo_f c1 (eo_one c2))) (fun _ => ev_blt (es_cons rfl (ev_var rfl) es_nil) rfl) nofun⟩
      · rw [decide_eq_false q2] at c2
        exact ⟨0, ev_ife (ev_or (eo_f c1 (eo_one c2))) nofun fun _ => ev_int⟩
  obtain ⟨a, hlast⟩ := hlast
  refine ⟨a, s, run_goC (f := ir__law_well) rfl rfl hst rfl (ss_nx (s_asg h1 tg_nm) (ss_nx (s_asg (ev_bin ev_int (ev_bin ev_int (ev_var rfl) (mul_b (by decide) (small_of (by omega) (by omega)) _)) rfl) tg_nm) (ss_nx hfor (ss_retC (s_retC (ev_mk rfl (ev_lst (es_cons rfl hlast (es_cons rfl (ev_var rfl) (es_cons rfl ev_int es_nil))) (small_line (by simp))))))))), hs⟩
end
end Ev


set_option Elab.async false
set_option linter.all false
set_option maxRecDepth 100000
set_option maxHeartbeats 0
namespace Ev
open PySem Ir
abbrev T1 : List Int → D := t1
def roadsL : List (List Int) := [[0, 1], [0, 2], [1, 0], [1, 2], [2, 0], [2, 1]]
def rowsL : List (List (List Int)) := roadsL.foldl (fun rs r => rs ++ rs.map (· ++ [r])) [[]]
def srtL : List (List (List Int)) := sortBy le2 rowsL
def brd (r : List (List Int)) : D := .tup [.int 3, t2 r]
def roadsD : D := .lst (roadsL.map t1)
def partL (d : Nat) : List (List (List Int)) := (List.range 22).filterMap fun i => srtL[d + 3 * i]?
abbrev FU : Nat := 60
/-- a board of three places is told rightly -/
def BOK (r : List (List Int)) : Prop := ∃ v : Bool, (∀ a b c, run prog G sub FU i_is_board [brd r] [wl a b c] = some (.bl v, [wl a b c])) ∧ (∀ a b c, run prog G sub FU i__law_is_board [brd r] [wl a b c] = some (.bl v, [wl a b c])) ∧
  (v = true → ∀ a b c, run prog G sub FU i__law_is_told [brd r, roadsD] [wl a b c] = some (.bl true, [wl a b c]))
abbrev EE : En := ⟨G, run prog G sub FU, xrun prog G sub FU, sub⟩
theorem same_bl (v : Bool) (a b c : Int) : run prog G sub FU i__law_same [.bl v, .bl v] [wl a b c] = some (.bl true, [wl a b c]) := by cases v <;> kernel_rfl
def rs0 : St := .asg (.nm 1) (.lst [.tup [.int 0, .int 1], .tup [.int 0, .int 2], .tup [.int 1, .int 0], .tup [.int 1, .int 2], .tup [.int 2, .int 0], .tup [.int 2, .int 1]])
def rs1 : St := .asg (.nm 2) (.lst [.tup []])
def rs2 : St := .for_ (.one 3) .seq [.var 1] [.asg (.nm 2) (.bin .add (.var 2) (.comp [4] (.one 4) .seq [.var 2] [] (.bin .add (.var 4) (.tup [.var 3]))))]
def rsb : List St := [.asg (.nm 5) (.tup [.int 3, .var 4]), .ife (.or [.not (.call 89 [.call 56 [.var 5], .call 98 [.var 5]]), .and [.call 98 [.var 5], .not (.call 106 [.var 5, .var 1])]]) [.ret (.bl false)] []]
def rs3 : St := .for_ (.one 4) .seq [.slk (.blt .sorted [.var 2]) (.call 88 [.var 0, .int 3]) 3] rsb
theorem right_body : ir__law_right.body = [rs0, rs1, rs2, rs3, .ret (.bl true)] := by kernel_rfl
theorem st0 (E : En) (st : Sto) : evS E rs0 [some (.cel 0), none, none, none, none, none] st = some (.nx, [some (.cel 0), some roadsD, none, none, none, none], st) := by kernel_rfl
theorem st1 (E : En) (st : Sto) : evS E rs1 [some (.cel 0), some roadsD, none, none, none, none] st = some (.nx, [some (.cel 0), some roadsD, some (.lst [.tup []]), none, none, none], st) := by kernel_rfl
theorem st2 (E : En) (a b c : Int) : evS E rs2 [some (.cel 0), some roadsD, some (.lst [.tup []]), none, none, none] [wl a b c] = some (.nx, [some (.cel 0), some roadsD, some (.lst (rowsL.map t2)), some (t1 [2, 1]), none, none], [wl a b c]) := by kernel_rfl
theorem srt_is : sortedD (rowsL.map t2) = some (.lst (srtL.map t2)) := by kernel_rfl
theorem slk0 (st : Sto) : slkD st (.lst (srtL.map t2)) 0 3 = some (.lst ((partL 0).map t2)) := by kernel_rfl
theorem slk1 (st : Sto) : slkD st (.lst (srtL.map t2)) 1 3 = some (.lst ((partL 1).map t2)) := by kernel_rfl
theorem slk2 (st : Sto) : slkD st (.lst (srtL.map t2)) 2 3 = some (.lst ((partL 2).map t2)) := by kernel_rfl
theorem ev_slk {E : En} {φ : Fr} {st st1 st2 : Sto} {a b : Ex} {k : Nat} {x d : D} {l : Int} (h1 : evE E a φ st = some (x, st1)) (h2 : evE E b φ st1 = some (.int l, st2)) (h3 : slkD st2 x l k = some d) : evE E (.slk a b k) φ st = some (d, st2) := by
  unfold evE; rw [h1]; simp only; rw [h2]; simp only; rw [h3]
theorem part_mem {d : Nat} {r : List (List Int)} (h : r ∈ partL d) : r ∈ srtL := by
  obtain ⟨i, _, e⟩ := List.mem_filterMap.mp h
  exact List.mem_of_getElem? e
theorem turn_ok {r : List (List Int)} (hB : BOK r) (a b c : Int) (x2 x3 x5 : Option D) : ∃ y, evSs EE rsb [some (.cel 0), some roadsD, x2, x3, some (t2 r), x5] [wl a b c] = some (.nx, [some (.cel 0), some roadsD, x2, x3, some (t2 r), y], [wl a b c]) := by
  obtain ⟨v, h1, h2, h3⟩ := hB
  refine ⟨some (brd r), ss_nx (s_asg (d := brd r) (ev_tup (es_cons rfl ev_int (es_cons rfl (ev_var rfl) es_nil)) (small_line (by simp))) tg_nm) (ss_nx (s_iff (ev_or (eo_f (ev_not (v := true) (ev_cl (es_cons rfl (ev_cl (es_cons rfl (ev_var rfl) es_nil) (h1 a b c)) (es_cons rfl (ev_cl (es_cons rfl (ev_var rfl) es_nil) (h2 a b c)) es_nil)) (same_bl v a b c))) (eo_one (ev_and ?_)))) ss_nil) ss_nil)⟩
  cases v with
  | true => exact ea_t (ev_cl (es_cons rfl (ev_var rfl) es_nil) (h2 a b c)) (ea_one (ev_not (v := true) (ev_cl (es_cons rfl (ev_var rfl) (es_cons rfl (ev_var rfl) es_nil)) (h3 rfl a b c))))
  | false => exact ea_f (ev_cl (es_cons rfl (ev_var rfl) es_nil) (h2 a b c))
theorem r_right (hB : ∀ r ∈ srtL, BOK r) {a b : Int} (hb : 0 ≤ b ∧ b < 2 ^ 32) : ∃ a' b' c', run prog G sub (FU + 1) i__law_right [.cel 0] [wl a b 0] = some (.bl true, [wl a' b' c']) := by
  obtain ⟨d, a', b', c', ht, hd, _, _⟩ := r_take (n := 59) (pre := []) (a := a) (b := b) (c := 0) (N := 0) (k := 3) hb (by omega) (by omega) (by omega)
  have ht : run prog G sub FU i__law_take [.cel 0, .int 3] [wl a b 0] = some (.int d, [wl a' b' c']) := ht
  have key : ∃ n : Nat, slkD [wl a' b' c'] (.lst (srtL.map t2)) d 3 = some (.lst ((partL n).map t2)) := by
    have : d = 0 ∨ d = 1 ∨ d = 2 := by omega
    rcases this with rfl | rfl | rfl
    · exact ⟨0, slk0 _⟩
    · exact ⟨1, slk1 _⟩
    · exact ⟨2, slk2 _⟩
  obtain ⟨m, hs⟩ := key
  have hsrc : evEs EE [.slk (.blt .sorted [.var 2]) (.call 88 [.var 0, .int 3]) 3] [some (.cel 0), some roadsD, some (.lst (rowsL.map t2)), some (t1 [2, 1]), none, none] [wl a b 0] = some ([.lst ((partL m).map t2)], [wl a' b' c']) :=
    es_cons rfl (ev_slk (ev_blt (es_cons rfl (ev_var rfl) es_nil) srt_is) (ev_cl (es_cons rfl (ev_var rfl) (es_cons rfl ev_int es_nil)) ht) hs) es_nil
  obtain ⟨φ', st', hfor, rfl, x4, x5, rfl⟩ := s_forI (E := EE) (t := .one 4) (w := .seq) (ss := rsb) (l := partL m) (ι := t2) (fun _ φ st => st = [wl a' b' c'] ∧ ∃ x4 x5, φ = [some (.cel 0), some roadsD, some (.lst (rowsL.map t2)), some (t1 [2, 1]), x4, x5]) hsrc src_l ⟨rfl, _, _, rfl⟩ (fun i hi φ st hI => by
    obtain ⟨rfl, x4, x5, rfl⟩ := hI
    obtain ⟨y, hy⟩ := turn_ok (hB _ (part_mem (List.getElem_mem hi))) a' b' c' (some (.lst (rowsL.map t2))) (some (t1 [2, 1])) x5
    exact ⟨_, _, _, rfl, hy, rfl, _, _, rfl⟩)
  have hb2 : evSs EE ir__law_right.body (startF ir__law_right.ns [.cel 0]) [wl a b 0] = some (.ret (.bl true), [some (.cel 0), some roadsD, some (.lst (rowsL.map t2)), some (t1 [2, 1]), x4, x5], [wl a' b' c']) := by
    rw [right_body]
    exact ss_nx (st0 EE _) (ss_nx (st1 EE _) (ss_nx (st2 EE _ _ _) (ss_nx hfor (ss_ret (s_ret ev_bl)))))
  exact ⟨a', b', c', run_goS (f := ir__law_right) rfl rfl hb2 (by simp)⟩
theorem law_true0 (hB : ∀ r ∈ srtL, BOK r) (is : List Int) (hl : is.length ≤ 63) : run prog G sub (FU + 2) i_law [.scr (is.map D.int)] [] = some (.bl true, []) := by
  have hm : ∃ m : Nat, m ≤ 3 ∧ ∀ E : En, evEs E [.blt .max [.int 2, .blt .min [.blt .len [.var 0], .int 3]]] [some (.scr (is.map D.int)), none] [] = some ([.int (m : Nat)], []) := by
    refine ⟨max 2 (min is.length 3), by omega, fun E => es_cons rfl (ev_blt (es_cons rfl ev_int (es_cons rfl (ev_blt (d := .int ((min is.length 3 : Nat) : Int)) (es_cons rfl (ev_blt (d := .int (is.length : Nat)) (es_cons rfl (ev_var rfl) es_nil) (by show some (D.int ((is.map D.int).length : Nat)) = _; rw [List.length_map])) (es_cons rfl ev_int es_nil)) ?_) es_nil)) ?_) es_nil⟩
    · show some (D.int (if (3 : Int) < (is.length : Nat) then 3 else (is.length : Nat))) = _
      by_cases q : is.length ≤ 3
      · rw [if_neg (by omega), Nat.min_eq_left q]
      · rw [if_pos (by omega), Nat.min_eq_right (by omega)]; rfl
    · show some (D.int (if ((min is.length 3 : Nat) : Int) > 2 then ((min is.length 3 : Nat) : Int) else 2)) = _
      by_cases q : min is.length 3 ≤ 2
      · rw [if_neg (by omega), Nat.max_eq_left q]; rfl
      · rw [if_pos (by omega), Nat.max_eq_right (by omega)]
  obtain ⟨m, hm3, hm⟩ := hm
  let E1 : En := ⟨G, run prog G sub (FU + 1), xrun prog G sub (FU + 1), sub⟩
  have hc := ev_compA (E := E1) (own := [1]) (t := .one 1) (w := .range) (src := [.blt .max [.int 2, .blt .min [.blt .len [.var 0], .int 3]]]) (ifs := []) (e := .call 107 [.call 87 [.var 0, .var 1]]) (φ := [some (.scr (is.map D.int)), none]) (st := []) (st1 := []) (l := List.range m) (ι := fun (i : Nat) => D.int i) (hm E1) (src_rangeN (by omega)) (by rw [List.length_range]; exact small_line (by omega))
    (fun _ => some (.bl true)) (fun k hk => by
      have hk : k < 10 := by have := List.mem_range.mp hk; omega
      obtain ⟨a, b, hw, hb⟩ := r_well (n := FU) (pre := []) (is := is) (k := k) hk hl rfl
      obtain ⟨a', b', c', hr⟩ := r_right hB (a := a) hb
      have h1 : evE E1 (.call 107 [.call 87 [.var 0, .var 1]]) [some (.scr (is.map D.int)), some (.int (k : Nat))] [] = some (.bl true, [wl a' b' c']) :=
        ev_cl (es_cons rfl (ev_cl (es_cons rfl (ev_var rfl) (es_cons rfl (ev_var rfl) es_nil)) hw) es_nil) hr
      exact (cmpT_yes rfl ei_nil h1).trans rfl)
  have hf : (List.range m).filterMap (fun _ => some (D.bl true)) = (List.range m).map fun _ => D.bl true := congrFun List.filterMap_eq_map' _
  rw [hf] at hc
  have hall : ∀ l : List Nat, boolsOf (l.map fun _ => D.bl true) = some (l.map fun _ => true) := by
    intro l
    induction l with
    | nil => rfl
    | cons x l ih => show (match boolsOf (l.map fun _ => D.bl true) with | some r => some (true :: r) | none => none) = _; rw [ih]; rfl
  refine run_goS (f := ir_law) rfl rfl (ss_ret (s_ret (ev_blt (es_cons rfl hc es_nil) ?_))) (by simp)
  show (boolsOf ((List.range m).map fun _ => D.bl true)).map (fun bs => D.bl (bs.all id)) = _
  rw [hall]
  show some (D.bl (((List.range m).map fun _ => true).all id)) = _
  simp
end Ev


set_option Elab.async false
set_option linter.all false
set_option maxRecDepth 100000
set_option maxHeartbeats 0
namespace Ev
open PySem Ir
theorem bo_0 : BOK [] := ⟨true, fun _ _ _ => by kernel_rfl, fun _ _ _ => by kernel_rfl, fun _ _ _ _ => by kernel_rfl⟩
theorem bo_8 : BOK [[0, 1], [0, 2], [1, 0], [2, 0]] := ⟨false, fun _ _ _ => by kernel_rfl, fun _ _ _ => by kernel_rfl, nofun⟩
theorem bo_16 : BOK [[0, 1], [0, 2], [2, 0], [2, 1]] := ⟨true, fun _ _ _ => by kernel_rfl, fun _ _ _ => by kernel_rfl, fun _ _ _ _ => by kernel_rfl⟩
theorem bo_24 : BOK [[0, 1], [1, 0], [2, 0], [2, 1]] := ⟨false, fun _ _ _ => by kernel_rfl, fun _ _ _ => by kernel_rfl, nofun⟩
theorem bo_32 : BOK [[0, 1], [2, 1]] := ⟨true, fun _ _ _ => by kernel_rfl, fun _ _ _ => by kernel_rfl, fun _ _ _ _ => by kernel_rfl⟩
theorem bo_40 : BOK [[0, 2], [1, 0], [2, 0], [2, 1]] := ⟨false, fun _ _ _ => by kernel_rfl, fun _ _ _ => by kernel_rfl, nofun⟩
theorem bo_48 : BOK [[0, 2], [2, 1]] := ⟨true, fun _ _ _ => by kernel_rfl, fun _ _ _ => by kernel_rfl, fun _ _ _ _ => by kernel_rfl⟩
theorem bo_56 : BOK [[1, 0], [2, 1]] := ⟨true, fun _ _ _ => by kernel_rfl, fun _ _ _ => by kernel_rfl, fun _ _ _ _ => by kernel_rfl⟩
end Ev


set_option Elab.async false
set_option linter.all false
set_option maxRecDepth 100000
set_option maxHeartbeats 0
namespace Ev
open PySem Ir
theorem bo_1 : BOK [[0, 1]] := ⟨true, fun _ _ _ => by kernel_rfl, fun _ _ _ => by kernel_rfl, fun _ _ _ _ => by kernel_rfl⟩
theorem bo_9 : BOK [[0, 1], [0, 2], [1, 0], [2, 0], [2, 1]] := ⟨false, fun _ _ _ => by kernel_rfl, fun _ _ _ => by kernel_rfl, nofun⟩
theorem bo_17 : BOK [[0, 1], [0, 2], [2, 1]] := ⟨true, fun _ _ _ => by kernel_rfl, fun _ _ _ => by kernel_rfl, fun _ _ _ _ => by kernel_rfl⟩
theorem bo_25 : BOK [[0, 1], [1, 0], [2, 1]] := ⟨false, fun _ _ _ => by kernel_rfl, fun _ _ _ => by kernel_rfl, nofun⟩
theorem bo_33 : BOK [[0, 2]] := ⟨true, fun _ _ _ => by kernel_rfl, fun _ _ _ => by kernel_rfl, fun _ _ _ _ => by kernel_rfl⟩
theorem bo_41 : BOK [[0, 2], [1, 0], [2, 1]] := ⟨false, fun _ _ _ => by kernel_rfl, fun _ _ _ => by kernel_rfl, nofun⟩
theorem bo_49 : BOK [[1, 0]] := ⟨true, fun _ _ _ => by kernel_rfl, fun _ _ _ => by kernel_rfl, fun _ _ _ _ => by kernel_rfl⟩
theorem bo_57 : BOK [[1, 2]] := ⟨true, fun _ _ _ => by kernel_rfl, fun _ _ _ => by kernel_rfl, fun _ _ _ _ => by kernel_rfl⟩
end Ev


set_option Elab.async false
set_option linter.all false
set_option maxRecDepth 100000
set_option maxHeartbeats 0
namespace Ev
open PySem Ir
theorem bo_2 : BOK [[0, 1], [0, 2]] := ⟨true, fun _ _ _ => by kernel_rfl, fun _ _ _ => by kernel_rfl, fun _ _ _ _ => by kernel_rfl⟩
theorem bo_10 : BOK [[0, 1], [0, 2], [1, 0], [2, 1]] := ⟨false, fun _ _ _ => by kernel_rfl, fun _ _ _ => by kernel_rfl, nofun⟩
theorem bo_18 : BOK [[0, 1], [1, 0]] := ⟨false, fun _ _ _ => by kernel_rfl, fun _ _ _ => by kernel_rfl, nofun⟩
theorem bo_26 : BOK [[0, 1], [1, 2]] := ⟨true, fun _ _ _ => by kernel_rfl, fun _ _ _ => by kernel_rfl, fun _ _ _ _ => by kernel_rfl⟩
theorem bo_34 : BOK [[0, 2], [1, 0]] := ⟨true, fun _ _ _ => by kernel_rfl, fun _ _ _ => by kernel_rfl, fun _ _ _ _ => by kernel_rfl⟩
theorem bo_42 : BOK [[0, 2], [1, 2]] := ⟨true, fun _ _ _ => by kernel_rfl, fun _ _ _ => by kernel_rfl, fun _ _ _ _ => by kernel_rfl⟩
theorem bo_50 : BOK [[1, 0], [1, 2]] := ⟨true, fun _ _ _ => by kernel_rfl, fun _ _ _ => by kernel_rfl, fun _ _ _ _ => by kernel_rfl⟩
theorem bo_58 : BOK [[1, 2], [2, 0]] := ⟨true, fun _ _ _ => by kernel_rfl, fun _ _ _ => by kernel_rfl, fun _ _ _ _ => by kernel_rfl⟩
end Ev


set_option Elab.async false
set_option linter.all false
set_option maxRecDepth 100000
set_option maxHeartbeats 0
namespace Ev
open PySem Ir
theorem bo_3 : BOK [[0, 1], [0, 2], [1, 0]] := ⟨true, fun _ _ _ => by kernel_rfl, fun _ _ _ => by kernel_rfl, fun _ _ _ _ => by kernel_rfl⟩
theorem bo_11 : BOK [[0, 1], [0, 2], [1, 2]] := ⟨true, fun _ _ _ => by kernel_rfl, fun _ _ _ => by kernel_rfl, fun _ _ _ _ => by kernel_rfl⟩
theorem bo_19 : BOK [[0, 1], [1, 0], [1, 2]] := ⟨true, fun _ _ _ => by kernel_rfl, fun _ _ _ => by kernel_rfl, fun _ _ _ _ => by kernel_rfl⟩
theorem bo_27 : BOK [[0, 1], [1, 2], [2, 0]] := ⟨false, fun _ _ _ => by kernel_rfl, fun _ _ _ => by kernel_rfl, nofun⟩
theorem bo_35 : BOK [[0, 2], [1, 0], [1, 2]] := ⟨true, fun _ _ _ => by kernel_rfl, fun _ _ _ => by kernel_rfl, fun _ _ _ _ => by kernel_rfl⟩
theorem bo_43 : BOK [[0, 2], [1, 2], [2, 0]] := ⟨false, fun _ _ _ => by kernel_rfl, fun _ _ _ => by kernel_rfl, nofun⟩
theorem bo_51 : BOK [[1, 0], [1, 2], [2, 0]] := ⟨true, fun _ _ _ => by kernel_rfl, fun _ _ _ => by kernel_rfl, fun _ _ _ _ => by kernel_rfl⟩
theorem bo_59 : BOK [[1, 2], [2, 0], [2, 1]] := ⟨true, fun _ _ _ => by kernel_rfl, fun _ _ _ => by kernel_rfl, fun _ _ _ _ => by kernel_rfl⟩
end Ev


set_option Elab.async false
set_option linter.all false
set_option maxRecDepth 100000
set_option maxHeartbeats 0
namespace Ev
open PySem Ir
theorem bo_4 : BOK [[0, 1], [0, 2], [1, 0], [1, 2]] := ⟨true, fun _ _ _ => by kernel_rfl, fun _ _ _ => by kernel_rfl, fun _ _ _ _ => by kernel_rfl⟩
theorem bo_12 : BOK [[0, 1], [0, 2], [1, 2], [2, 0]] := ⟨false, fun _ _ _ => by kernel_rfl, fun _ _ _ => by kernel_rfl, nofun⟩
theorem bo_20 : BOK [[0, 1], [1, 0], [1, 2], [2, 0]] := ⟨false, fun _ _ _ => by kernel_rfl, fun _ _ _ => by kernel_rfl, nofun⟩
theorem bo_28 : BOK [[0, 1], [1, 2], [2, 0], [2, 1]] := ⟨false, fun _ _ _ => by kernel_rfl, fun _ _ _ => by kernel_rfl, nofun⟩
theorem bo_36 : BOK [[0, 2], [1, 0], [1, 2], [2, 0]] := ⟨false, fun _ _ _ => by kernel_rfl, fun _ _ _ => by kernel_rfl, nofun⟩
theorem bo_44 : BOK [[0, 2], [1, 2], [2, 0], [2, 1]] := ⟨false, fun _ _ _ => by kernel_rfl, fun _ _ _ => by kernel_rfl, nofun⟩
theorem bo_52 : BOK [[1, 0], [1, 2], [2, 0], [2, 1]] := ⟨true, fun _ _ _ => by kernel_rfl, fun _ _ _ => by kernel_rfl, fun _ _ _ _ => by kernel_rfl⟩
theorem bo_60 : BOK [[1, 2], [2, 1]] := ⟨false, fun _ _ _ => by kernel_rfl, fun _ _ _ => by kernel_rfl, nofun⟩
end Ev


set_option Elab.async false
set_option linter.all false
set_option maxRecDepth 100000
set_option maxHeartbeats 0
namespace Ev
open PySem Ir
theorem bo_5 : BOK [[0, 1], [0, 2], [1, 0], [1, 2], [2, 0]] := ⟨false, fun _ _ _ => by kernel_rfl, fun _ _ _ => by kernel_rfl, nofun⟩
theorem bo_13 : BOK [[0, 1], [0, 2], [1, 2], [2, 0], [2, 1]] := ⟨false, fun _ _ _ => by kernel_rfl, fun _ _ _ => by kernel_rfl, nofun⟩
theorem bo_21 : BOK [[0, 1], [1, 0], [1, 2], [2, 0], [2, 1]] := ⟨false, fun _ _ _ => by kernel_rfl, fun _ _ _ => by kernel_rfl, nofun⟩
theorem bo_29 : BOK [[0, 1], [1, 2], [2, 1]] := ⟨false, fun _ _ _ => by kernel_rfl, fun _ _ _ => by kernel_rfl, nofun⟩
theorem bo_37 : BOK [[0, 2], [1, 0], [1, 2], [2, 0], [2, 1]] := ⟨false, fun _ _ _ => by kernel_rfl, fun _ _ _ => by kernel_rfl, nofun⟩
theorem bo_45 : BOK [[0, 2], [1, 2], [2, 1]] := ⟨false, fun _ _ _ => by kernel_rfl, fun _ _ _ => by kernel_rfl, nofun⟩
theorem bo_53 : BOK [[1, 0], [1, 2], [2, 1]] := ⟨true, fun _ _ _ => by kernel_rfl, fun _ _ _ => by kernel_rfl, fun _ _ _ _ => by kernel_rfl⟩
theorem bo_61 : BOK [[2, 0]] := ⟨true, fun _ _ _ => by kernel_rfl, fun _ _ _ => by kernel_rfl, fun _ _ _ _ => by kernel_rfl⟩
end Ev


set_option Elab.async false
set_option linter.all false
set_option maxRecDepth 100000
set_option maxHeartbeats 0
namespace Ev
open PySem Ir
theorem bo_6 : BOK [[0, 1], [0, 2], [1, 0], [1, 2], [2, 0], [2, 1]] := ⟨false, fun _ _ _ => by kernel_rfl, fun _ _ _ => by kernel_rfl, nofun⟩
theorem bo_14 : BOK [[0, 1], [0, 2], [1, 2], [2, 1]] := ⟨false, fun _ _ _ => by kernel_rfl, fun _ _ _ => by kernel_rfl, nofun⟩
theorem bo_22 : BOK [[0, 1], [1, 0], [1, 2], [2, 1]] := ⟨false, fun _ _ _ => by kernel_rfl, fun _ _ _ => by kernel_rfl, nofun⟩
theorem bo_30 : BOK [[0, 1], [2, 0]] := ⟨true, fun _ _ _ => by kernel_rfl, fun _ _ _ => by kernel_rfl, fun _ _ _ _ => by kernel_rfl⟩
theorem bo_38 : BOK [[0, 2], [1, 0], [1, 2], [2, 1]] := ⟨false, fun _ _ _ => by kernel_rfl, fun _ _ _ => by kernel_rfl, nofun⟩
theorem bo_46 : BOK [[0, 2], [2, 0]] := ⟨false, fun _ _ _ => by kernel_rfl, fun _ _ _ => by kernel_rfl, nofun⟩
theorem bo_54 : BOK [[1, 0], [2, 0]] := ⟨true, fun _ _ _ => by kernel_rfl, fun _ _ _ => by kernel_rfl, fun _ _ _ _ => by kernel_rfl⟩
theorem bo_62 : BOK [[2, 0], [2, 1]] := ⟨true, fun _ _ _ => by kernel_rfl, fun _ _ _ => by kernel_rfl, fun _ _ _ _ => by kernel_rfl⟩
end Ev


set_option Elab.async false
set_option linter.all false
set_option maxRecDepth 100000
set_option maxHeartbeats 0
namespace Ev
open PySem Ir
theorem bo_7 : BOK [[0, 1], [0, 2], [1, 0], [1, 2], [2, 1]] := ⟨false, fun _ _ _ => by kernel_rfl, fun _ _ _ => by kernel_rfl, nofun⟩
theorem bo_15 : BOK [[0, 1], [0, 2], [2, 0]] := ⟨true, fun _ _ _ => by kernel_rfl, fun _ _ _ => by kernel_rfl, fun _ _ _ _ => by kernel_rfl⟩
theorem bo_23 : BOK [[0, 1], [1, 0], [2, 0]] := ⟨false, fun _ _ _ => by kernel_rfl, fun _ _ _ => by kernel_rfl, nofun⟩
theorem bo_31 : BOK [[0, 1], [2, 0], [2, 1]] := ⟨true, fun _ _ _ => by kernel_rfl, fun _ _ _ => by kernel_rfl, fun _ _ _ _ => by kernel_rfl⟩
theorem bo_39 : BOK [[0, 2], [1, 0], [2, 0]] := ⟨false, fun _ _ _ => by kernel_rfl, fun _ _ _ => by kernel_rfl, nofun⟩
theorem bo_47 : BOK [[0, 2], [2, 0], [2, 1]] := ⟨true, fun _ _ _ => by kernel_rfl, fun _ _ _ => by kernel_rfl, fun _ _ _ _ => by kernel_rfl⟩
theorem bo_55 : BOK [[1, 0], [2, 0], [2, 1]] := ⟨true, fun _ _ _ => by kernel_rfl, fun _ _ _ => by kernel_rfl, fun _ _ _ _ => by kernel_rfl⟩
theorem bo_63 : BOK [[2, 1]] := ⟨true, fun _ _ _ => by kernel_rfl, fun _ _ _ => by kernel_rfl, fun _ _ _ _ => by kernel_rfl⟩
end Ev


set_option Elab.async false
set_option linter.all false
set_option maxRecDepth 100000
set_option maxHeartbeats 0
namespace Ev
open PySem Ir
def litL : List (List (List Int)) := [[], [[0, 1]], [[0, 1], [0, 2]], [[0, 1], [0, 2], [1, 0]], [[0, 1], [0, 2], [1, 0], [1, 2]], [[0, 1], [0, 2], [1, 0], [1, 2], [2, 0]], [[0, 1], [0, 2], [1, 0], [1, 2], [2, 0], [2, 1]], [[0, 1], [0, 2], [1, 0], [1, 2], [2, 1]], [[0, 1], [0, 2], [1, 0], [2, 0]], [[0, 1], [0, 2], [1, 0], [2, 0], [2, 1]], [[0, 1], [0, 2], [1, 0], [2, 1]], [[0, 1], [0, 2], [1, 2]], [[0, 1], [0, 2], [1, 2], [2, 0]], [[0, 1], [0, 2], [1, 2], [2, 0], [2, 1]], [[0, 1], [0, 2], [1, 2], [2, 1]], [[0, 1], [0, 2], [2, 0]], [[0, 1], [0, 2], [2, 0], [2, 1]], [[0, 1], [0, 2], [2, 1]], [[0, 1], [1, 0]], [[0, 1], [1, 0], [1, 2]], [[0, 1], [1, 0], [1, 2], [2, 0]], [[0, 1], [1, 0], [1, 2], [2, 0], [2, 1]], [[0, 1], [1, 0], [1, 2], [2, 1]], [[0, 1], [1, 0], [2, 0]], [[0, 1], [1, 0], [2, 0], [2, 1]], [[0, 1], [1, 0], [2, 1]], [[0, 1], [1, 2]], [[0, 1], [1, 2], [2, 0]], [[0, 1], [1, 2], [2, 0], [2, 1]], [[0, 1], [1, 2], [2, 1]], [[0, 1], [2, 0]], [[0, 1], [2, 0], [2, 1]], [[0, 1], [2, 1]], [[0, 2]], [[0, 2], [1, 0]], [[0, 2], [1, 0], [1, 2]], [[0, 2], [1, 0], [1, 2], [2, 0]], [[0, 2], [1, 0], [1, 2], [2, 0], [2, 1]], [[0, 2], [1, 0], [1, 2], [2, 1]], [[0, 2], [1, 0], [2, 0]], [[0, 2], [1, 0], [2, 0], [2, 1]], [[0, 2], [1, 0], [2, 1]], [[0, 2], [1, 2]], [[0, 2], [1, 2], [2, 0]], [[0, 2], [1, 2], [2, 0], [2, 1]], [[0, 2], [1, 2], [2, 1]], [[0, 2], [2, 0]], [[0, 2], [2, 0], [2, 1]], [[0, 2], [2, 1]], [[1, 0]], [[1, 0], [1, 2]], [[1, 0], [1, 2], [2, 0]], [[1, 0], [1, 2], [2, 0], [2, 1]], [[1, 0], [1, 2], [2, 1]], [[1, 0], [2, 0]], [[1, 0], [2, 0], [2, 1]], [[1, 0], [2, 1]], [[1, 2]], [[1, 2], [2, 0]], [[1, 2], [2, 0], [2, 1]], [[1, 2], [2, 1]], [[2, 0]], [[2, 0], [2, 1]], [[2, 1]]]
theorem srt_lit : srtL = litL := by kernel_rfl
theorem all_ok : ∀ r ∈ litL, BOK r := by
  unfold litL
  refine List.forall_mem_cons.mpr ⟨bo_0, ?_⟩
  refine List.forall_mem_cons.mpr ⟨bo_1, ?_⟩
  refine List.forall_mem_cons.mpr ⟨bo_2, ?_⟩
  refine List.forall_mem_cons.mpr ⟨bo_3, ?_⟩
  refine List.forall_mem_cons.mpr ⟨bo_4, ?_⟩
  refine List.forall_mem_cons.mpr ⟨bo_5, ?_⟩
  refine List.forall_mem_cons.mpr ⟨bo_6, ?_⟩
  refine List.forall_mem_cons.mpr ⟨bo_7, ?_⟩
  refine List.forall_mem_cons.mpr ⟨bo_8, ?_⟩
  refine List.forall_mem_cons.mpr ⟨bo_9, ?_⟩
  refine List.forall_mem_cons.mpr ⟨bo_10, ?_⟩
  refine List.forall_mem_cons.mpr ⟨bo_11, ?_⟩
  refine List.forall_mem_cons.mpr ⟨bo_12, ?_⟩
  refine List.forall_mem_cons.mpr ⟨bo_13, ?_⟩
  refine List.forall_mem_cons.mpr ⟨bo_14, ?_⟩
  refine List.forall_mem_cons.mpr ⟨bo_15, ?_⟩
  refine List.forall_mem_cons.mpr ⟨bo_16, ?_⟩
  refine List.forall_mem_cons.mpr ⟨bo_17, ?_⟩
  refine List.forall_mem_cons.mpr ⟨bo_18, ?_⟩
  refine List.forall_mem_cons.mpr ⟨bo_19, ?_⟩
  refine List.forall_mem_cons.mpr ⟨bo_20, ?_⟩
  refine List.forall_mem_cons.mpr ⟨bo_21, ?_⟩
  refine List.forall_mem_cons.mpr ⟨bo_22, ?_⟩
  refine List.forall_mem_cons.mpr ⟨bo_23, ?_⟩
  refine List.forall_mem_cons.mpr ⟨bo_24, ?_⟩
  refine List.forall_mem_cons.mpr ⟨bo_25, ?_⟩
  refine List.forall_mem_cons.mpr ⟨bo_26, ?_⟩
  refine List.forall_mem_cons.mpr ⟨bo_27, ?_⟩
  refine List.forall_mem_cons.mpr ⟨bo_28, ?_⟩
  refine List.forall_mem_cons.mpr ⟨bo_29, ?_⟩
  refine List.forall_mem_cons.mpr ⟨bo_30, ?_⟩
  refine List.forall_mem_cons.mpr ⟨bo_31, ?_⟩
  refine List.forall_mem_cons.mpr ⟨bo_32, ?_⟩
  refine List.forall_mem_cons.mpr ⟨bo_33, ?_⟩
  refine List.forall_mem_cons.mpr ⟨bo_34, ?_⟩
  refine List.forall_mem_cons.mpr ⟨bo_35, ?_⟩
  refine List.forall_mem_cons.mpr ⟨bo_36, ?_⟩
  refine List.forall_mem_cons.mpr ⟨bo_37, ?_⟩
  refine List.forall_mem_cons.mpr ⟨bo_38, ?_⟩
  refine List.forall_mem_cons.mpr ⟨bo_39, ?_⟩
  refine List.forall_mem_cons.mpr ⟨bo_40, ?_⟩
  refine List.forall_mem_cons.mpr ⟨bo_41, ?_⟩
  refine List.forall_mem_cons.mpr ⟨bo_42, ?_⟩
  refine List.forall_mem_cons.mpr ⟨bo_43, ?_⟩
  refine List.forall_mem_cons.mpr ⟨bo_44, ?_⟩
  refine List.forall_mem_cons.mpr ⟨bo_45, ?_⟩
  refine List.forall_mem_cons.mpr ⟨bo_46, ?_⟩
  refine List.forall_mem_cons.mpr ⟨bo_47, ?_⟩
  refine List.forall_mem_cons.mpr ⟨bo_48, ?_⟩
  refine List.forall_mem_cons.mpr ⟨bo_49, ?_⟩
  refine List.forall_mem_cons.mpr ⟨bo_50, ?_⟩
  refine List.forall_mem_cons.mpr ⟨bo_51, ?_⟩
  refine List.forall_mem_cons.mpr ⟨bo_52, ?_⟩
  refine List.forall_mem_cons.mpr ⟨bo_53, ?_⟩
  refine List.forall_mem_cons.mpr ⟨bo_54, ?_⟩
  refine List.forall_mem_cons.mpr ⟨bo_55, ?_⟩
  refine List.forall_mem_cons.mpr ⟨bo_56, ?_⟩
  refine List.forall_mem_cons.mpr ⟨bo_57, ?_⟩
  refine List.forall_mem_cons.mpr ⟨bo_58, ?_⟩
  refine List.forall_mem_cons.mpr ⟨bo_59, ?_⟩
  refine List.forall_mem_cons.mpr ⟨bo_60, ?_⟩
  refine List.forall_mem_cons.mpr ⟨bo_61, ?_⟩
  refine List.forall_mem_cons.mpr ⟨bo_62, ?_⟩
  refine List.forall_mem_cons.mpr ⟨bo_63, ?_⟩
  exact fun _ h => nomatch h
theorem law_true (is : List Int) (hl : is.length ≤ 63) : run prog G sub (FU + 2) i_law [.scr (is.map D.int)] [] = some (.bl true, []) := law_true0 (srt_lit ▸ all_ok) is hl
end Ev


set_option Elab.async false
set_option linter.all false
set_option maxRecDepth 100000
set_option maxHeartbeats 0
namespace Ir
open Ev PySem PySem.Spec PyProof.Rows L2
theorem bd_is_whole : BindsH hd_is_whole := fun _ _ _ _ _ _ us hl => match us, hl with | [_], _ => rfl
theorem bd_is_between : BindsH hd_is_between := fun _ _ _ _ _ _ us hl => match us, hl with | [_, _, _], _ => rfl
theorem bd_is_tuple_of : BindsH hd_is_tuple_of := fun _ _ _ _ _ _ us hl => match us, hl with | [_, _], _ => rfl
theorem bd_first_wrong : BindsH hd_first_wrong := fun _ _ _ _ _ _ us hl => match us, hl with | [_, _, _, _], _ => rfl
theorem bd_are_indexes : BindsH hd_are_indexes := fun _ _ _ _ _ _ us hl => match us, hl with | [_, _], _ => rfl
theorem bd_are_rising : BindsH hd_are_rising := fun _ _ _ _ _ _ us hl => match us, hl with | [_], _ => rfl
theorem bd_fraction : BindsH hd_fraction := fun _ _ _ _ _ _ us hl => match us, hl with | [_, _], _ => rfl
theorem bd_whole : BindsH hd_whole := fun _ _ _ _ _ _ us hl => match us, hl with | [_], _ => rfl
theorem bd_sum_of : BindsH hd_sum_of := fun _ _ _ _ _ _ us hl => match us, hl with | [_, _], _ => rfl
theorem bd_less : BindsH hd_less := fun _ _ _ _ _ _ us hl => match us, hl with | [_, _], _ => rfl
theorem bd_times : BindsH hd_times := fun _ _ _ _ _ _ us hl => match us, hl with | [_, _], _ => rfl
theorem bd_is_less : BindsH hd_is_less := fun _ _ _ _ _ _ us hl => match us, hl with | [_, _], _ => rfl
theorem bd_greater_of : BindsH hd_greater_of := fun _ _ _ _ _ _ us hl => match us, hl with | [_, _], _ => rfl
theorem bd_lesser_of : BindsH hd_lesser_of := fun _ _ _ _ _ _ us hl => match us, hl with | [_, _], _ => rfl
theorem bd_greatest_of : BindsH hd_greatest_of := fun _ _ _ _ _ _ us hl => match us, hl with | [_], _ => rfl
theorem bd_least_of : BindsH hd_least_of := fun _ _ _ _ _ _ us hl => match us, hl with | [_], _ => rfl
theorem bd_is_road : BindsH hd_is_road := fun _ _ _ _ _ _ us hl => match us, hl with | [_, _], _ => rfl
theorem bd_are_roads : BindsH hd_are_roads := fun _ _ _ _ _ _ us hl => match us, hl with | [_, _], _ => rfl
theorem bd_is_board_by : BindsH hd_is_board_by := fun _ _ _ _ _ _ us hl => match us, hl with | [_], _ => rfl
theorem bd_places_of : BindsH hd_places_of := fun _ _ _ _ _ _ us hl => match us, hl with | [_], _ => rfl
theorem bd_next_places_by : BindsH hd_next_places_by := fun _ _ _ _ _ _ us hl => match us, hl with | [_, _], _ => rfl
theorem bd_ends_by : BindsH hd_ends_by := fun _ _ _ _ _ _ us hl => match us, hl with | [_], _ => rfl
theorem bd_inner_by : BindsH hd_inner_by := fun _ _ _ _ _ _ us hl => match us, hl with | [_], _ => rfl
theorem bd_with_those_ahead : BindsH hd_with_those_ahead := fun _ _ _ _ _ _ us hl => match us, hl with | [_, _], _ => rfl
theorem bd_do_all_end : BindsH hd_do_all_end := fun _ _ _ _ _ _ us hl => match us, hl with | [_], _ => rfl
theorem bd_last_ones : BindsH hd_last_ones := fun _ _ _ _ _ _ us hl => match us, hl with | [_, _], _ => rfl
theorem bd_left_in_rings : BindsH hd_left_in_rings := fun _ _ _ _ _ _ us hl => match us, hl with | [_], _ => rfl
theorem bd_an_order_by : BindsH hd_an_order_by := fun _ _ _ _ _ _ us hl => match us, hl with | [_], _ => rfl
theorem bd_half_of : BindsH hd_half_of := fun _ _ _ _ _ _ us hl => match us, hl with | [_, _], _ => rfl
theorem bd_half_next : BindsH hd_half_next := fun _ _ _ _ _ _ us hl => match us, hl with | [_, _, _], _ => rfl
theorem bd_stake_of : BindsH hd_stake_of := fun _ _ _ _ _ _ us hl => match us, hl with | [_, _, _], _ => rfl
theorem bd_due_at : BindsH hd_due_at := fun _ _ _ _ _ _ us hl => match us, hl with | [_, _, _, _], _ => rfl
theorem bd_wrong_places : BindsH hd_wrong_places := fun _ _ _ _ _ _ us hl => match us, hl with | [_, _, _], _ => rfl
theorem bd_halved_at : BindsH hd_halved_at := fun _ _ _ _ _ _ us hl => match us, hl with | [_, _, _, _], _ => rfl
theorem bd_halved : BindsH hd_halved := fun _ _ _ _ _ _ us hl => match us, hl with | [_, _, _], _ => rfl
theorem bd_first_rows : BindsH hd_first_rows := fun _ _ _ _ _ _ us hl => match us, hl with | [_, _, _], _ => rfl
theorem bd_simplest_between : BindsH hd_simplest_between := fun _ _ _ _ _ _ us hl => match us, hl with | [_, _], _ => rfl
theorem bd_turned_about : BindsH hd_turned_about := fun _ _ _ _ _ _ us hl => match us, hl with | [_], _ => rfl
theorem bd_guess : BindsH hd_guess := fun _ _ _ _ _ _ us hl => match us, hl with | [_, _], _ => rfl
theorem bd_values_round : BindsH hd_values_round := fun _ _ _ _ _ _ us hl => match us, hl with | [_, _], _ => rfl
theorem bd_values_in_order : BindsH hd_values_in_order := fun _ _ _ _ _ _ us hl => match us, hl with | [_, _, _], _ => rfl
theorem bd_values_by : BindsH hd_values_by := fun _ _ _ _ _ _ us hl => match us, hl with | [_, _], _ => rfl
theorem bd_check_board : BindsH hd_check_board := fun _ _ _ _ _ _ us hl => match us, hl with | [_], _ => rfl
theorem bd_is_stake : BindsH hd_is_stake := fun _ _ _ _ _ _ us hl => match us, hl with | [_], _ => rfl
theorem bd_wrong_in_stakes : BindsH hd_wrong_in_stakes := fun _ _ _ _ _ _ us hl => match us, hl with | [_, _], _ => rfl
theorem bd_check_stakes : BindsH hd_check_stakes := fun _ _ _ _ _ _ us hl => match us, hl with | [_, _], _ => rfl
theorem bd_check_place : BindsH hd_check_place := fun _ _ _ _ _ _ us hl => match us, hl with | [_, _], _ => rfl
theorem bd_check_board_place : BindsH hd_check_board_place := fun _ _ _ _ _ _ us hl => match us, hl with | [_, _], _ => rfl
theorem bd_is_board : BindsH hd_is_board := fun _ _ _ _ _ _ us hl => match us, hl with | [_], _ => rfl
theorem bd_has_same_ends : BindsH hd_has_same_ends := fun _ _ _ _ _ _ us hl => match us, hl with | [_, _], _ => rfl
theorem bd_road_more : BindsH hd_road_more := fun _ _ _ _ _ _ us hl => match us, hl with | [_, _], _ => rfl
theorem bd_road_less : BindsH hd_road_less := fun _ _ _ _ _ _ us hl => match us, hl with | [_, _], _ => rfl
theorem bd_unlike_rising : BindsH hd_unlike_rising := fun _ _ _ _ _ _ us hl => match us, hl with | [_], _ => rfl
theorem bd_lots_alike_by : BindsH hd_lots_alike_by := fun _ _ _ _ _ _ us hl => match us, hl with | [_, _], _ => rfl
theorem bd_is_flat : BindsH hd_is_flat := fun _ _ _ _ _ _ us hl => match us, hl with | [_, _, _], _ => rfl
theorem bd_flat_places_by : BindsH hd_flat_places_by := fun _ _ _ _ _ _ us hl => match us, hl with | [_, _], _ => rfl
theorem bd_check_found : BindsH hd_check_found := fun _ _ _ _ _ _ us hl => match us, hl with | [_, _], _ => rfl
theorem bd_with_road : BindsH hd_with_road := fun _ _ _ _ _ _ us hl => match us, hl with | [_, _, _], _ => rfl
theorem bd_without_road : BindsH hd_without_road := fun _ _ _ _ _ _ us hl => match us, hl with | [_, _, _], _ => rfl
theorem bd_lots_alike : BindsH hd_lots_alike := fun _ _ _ _ _ _ us hl => match us, hl with | [_, _], _ => rfl
theorem bd_flat_places : BindsH hd_flat_places := fun _ _ _ _ _ _ us hl => match us, hl with | [_, _], _ => rfl
theorem bd_is_used : BindsH hd_is_used := fun _ _ _ _ _ _ us hl => match us, hl with | [_, _, _], _ => rfl
theorem bd_used_roads_by : BindsH hd_used_roads_by := fun _ _ _ _ _ _ us hl => match us, hl with | [_, _], _ => rfl
theorem bd_lean_board_by : BindsH hd_lean_board_by := fun _ _ _ _ _ _ us hl => match us, hl with | [_, _], _ => rfl
theorem bd_used_roads : BindsH hd_used_roads := fun _ _ _ _ _ _ us hl => match us, hl with | [_, _], _ => rfl
theorem bd_lean_board : BindsH hd_lean_board := fun _ _ _ _ _ _ us hl => match us, hl with | [_, _], _ => rfl
theorem bd_values : BindsH hd_values := fun _ _ _ _ _ _ us hl => match us, hl with | [_, _], _ => rfl
theorem bd_is_figures : BindsH hd_is_figures := fun _ _ _ _ _ _ us hl => match us, hl with | [_], _ => rfl
theorem bd_numbers_in : BindsH hd_numbers_in := fun _ _ _ _ _ _ us hl => match us, hl with | [_], _ => rfl
theorem bd_numbers_text : BindsH hd_numbers_text := fun _ _ _ _ _ _ us hl => match us, hl with | [_], _ => rfl
theorem bd_text_of_board : BindsH hd_text_of_board := fun _ _ _ _ _ _ us hl => match us, hl with | [_], _ => rfl
theorem bd_many_in : BindsH hd_many_in := fun _ _ _ _ _ _ us hl => match us, hl with | [_], _ => rfl
theorem bd_board_with_text : BindsH hd_board_with_text := fun _ _ _ _ _ _ us hl => match us, hl with | [_], _ => rfl
theorem bd_board_text : BindsH hd_board_text := fun _ _ _ _ _ _ us hl => match us, hl with | [_], _ => rfl
theorem bd_read_board : BindsH hd_read_board := fun _ _ _ _ _ _ us hl => match us, hl with | [_], _ => rfl
theorem bd__law_well : BindsH hd__law_well := fun _ _ _ _ _ _ us hl => match us, hl with | [_, _], _ => rfl
theorem bd__law_take : BindsH hd__law_take := fun _ _ _ _ _ _ us hl => match us, hl with | [_, _], _ => rfl
theorem bd__law_same : BindsH hd__law_same := fun _ _ _ _ _ _ us hl => match us, hl with | [_, _], _ => rfl
theorem bd__law_part : BindsH hd__law_part := fun _ _ _ _ _ _ us hl => match us, hl with | [_, _], _ => rfl
theorem bd__law_plus : BindsH hd__law_plus := fun _ _ _ _ _ _ us hl => match us, hl with | [_, _], _ => rfl
theorem bd__law_by : BindsH hd__law_by := fun _ _ _ _ _ _ us hl => match us, hl with | [_, _], _ => rfl
theorem bd__law_is_below : BindsH hd__law_is_below := fun _ _ _ _ _ _ us hl => match us, hl with | [_, _], _ => rfl
theorem bd__law_is_number : BindsH hd__law_is_number := fun _ _ _ _ _ _ us hl => match us, hl with | [_], _ => rfl
theorem bd__law_is_fraction : BindsH hd__law_is_fraction := fun _ _ _ _ _ _ us hl => match us, hl with | [_], _ => rfl
theorem bd__law_next : BindsH hd__law_next := fun _ _ _ _ _ _ us hl => match us, hl with | [_, _], _ => rfl
theorem bd__law_ends : BindsH hd__law_ends := fun _ _ _ _ _ _ us hl => match us, hl with | [_], _ => rfl
theorem bd__law_is_board : BindsH hd__law_is_board := fun _ _ _ _ _ _ us hl => match us, hl with | [_], _ => rfl
theorem bd__law_reach : BindsH hd__law_reach := fun _ _ _ _ _ _ us hl => match us, hl with | [_], _ => rfl
theorem bd__law_are_values : BindsH hd__law_are_values := fun _ _ _ _ _ _ us hl => match us, hl with | [_, _, _], _ => rfl
theorem bd__law_most : BindsH hd__law_most := fun _ _ _ _ _ _ us hl => match us, hl with | [_], _ => rfl
theorem bd__law_fewest : BindsH hd__law_fewest := fun _ _ _ _ _ _ us hl => match us, hl with | [_], _ => rfl
theorem bd__law_paved : BindsH hd__law_paved := fun _ _ _ _ _ _ us hl => match us, hl with | [_, _], _ => rfl
theorem bd__law_closed : BindsH hd__law_closed := fun _ _ _ _ _ _ us hl => match us, hl with | [_, _], _ => rfl
theorem bd__law_changed : BindsH hd__law_changed := fun _ _ _ _ _ _ us hl => match us, hl with | [_, _, _], _ => rfl
theorem bd__law_is_told : BindsH hd__law_is_told := fun _ _ _ _ _ _ us hl => match us, hl with | [_, _], _ => rfl
theorem bd__law_right : BindsH hd__law_right := fun _ _ _ _ _ _ us hl => match us, hl with | [_], _ => rfl
theorem bd_law : BindsH hd_law := fun _ _ _ _ _ _ us hl => match us, hl with | [_], _ => rfl
theorem bds0 : AllD BindsH dl0 := ⟨bd_is_whole, bd_is_between, bd_is_tuple_of, bd_first_wrong, bd_are_indexes, bd_are_rising, bd_fraction, bd_whole, bd_sum_of, bd_less, bd_times, bd_is_less, bd_greater_of, bd_lesser_of, bd_greatest_of, trivial⟩
theorem bds1 : AllD BindsH dl1 := ⟨bd_least_of, bd_is_road, bd_are_roads, bd_is_board_by, bd_places_of, bd_next_places_by, bd_ends_by, bd_inner_by, bd_with_those_ahead, bd_do_all_end, bd_last_ones, bd_left_in_rings, bd_an_order_by, trivial⟩
theorem bds2 : AllD BindsH dl2 := ⟨bd_half_of, bd_half_next, bd_stake_of, bd_due_at, bd_wrong_places, bd_halved_at, bd_halved, bd_first_rows, bd_simplest_between, bd_turned_about, bd_guess, bd_values_round, trivial⟩
theorem bds3 : AllD BindsH dl3 := ⟨bd_values_in_order, bd_values_by, bd_check_board, bd_is_stake, bd_wrong_in_stakes, bd_check_stakes, bd_check_place, bd_check_board_place, bd_is_board, bd_has_same_ends, bd_road_more, bd_road_less, bd_unlike_rising, bd_lots_alike_by, bd_is_flat, bd_flat_places_by, trivial⟩
theorem bds4 : AllD BindsH dl4 := ⟨bd_check_found, bd_with_road, bd_without_road, bd_lots_alike, bd_flat_places, bd_is_used, bd_used_roads_by, bd_lean_board_by, bd_used_roads, bd_lean_board, bd_values, bd_is_figures, trivial⟩
theorem bds5 : AllD BindsH dl5 := ⟨bd_numbers_in, bd_numbers_text, bd_text_of_board, bd_many_in, bd_board_with_text, bd_board_text, bd_read_board, bd__law_well, bd__law_take, bd__law_same, bd__law_part, bd__law_plus, bd__law_by, bd__law_is_below, bd__law_is_number, bd__law_is_fraction, trivial⟩
theorem bds6 : AllD BindsH dl6 := ⟨bd__law_next, bd__law_ends, bd__law_is_board, bd__law_reach, bd__law_are_values, bd__law_most, bd__law_fewest, bd__law_paved, bd__law_closed, bd__law_changed, bd__law_is_told, bd__law_right, bd_law, trivial⟩
theorem bdA : ∀ d, some d ∈ dl → BindsH d := AllD.at (show AllD BindsH dl from (AllD.app (AllD.app (AllD.app (AllD.app (AllD.app (AllD.app bds0 bds1) bds2) bds3) bds4) bds5) bds6))
theorem bd_init_NotABoard : BindsH hd_init_NotABoard := fun _ _ _ _ _ _ us hl => match us, hl with | [_, _], _ => rfl
theorem bd_init_NotNow : BindsH hd_init_NotNow := fun _ _ _ _ _ _ us hl => match us, hl with | [_, _], _ => rfl
theorem bd_init_InvalidPlace : BindsH hd_init_InvalidPlace := fun _ _ _ _ _ _ us hl => match us, hl with | [_, _], _ => rfl
theorem bd_init_InvalidText : BindsH hd_init_InvalidText := fun _ _ _ _ _ _ us hl => match us, hl with | [_, _], _ => rfl
theorem bd_init_InvalidStakes : BindsH hd_init_InvalidStakes := fun _ _ _ _ _ _ us hl => match us, hl with | [_, _], _ => rfl
theorem bdiA : ∀ d ∈ clsA.inits, BindsH d := (show ∀ d ∈ [hd_init_NotABoard, hd_init_NotNow, hd_init_InvalidPlace, hd_init_InvalidText, hd_init_InvalidStakes], BindsH d from List.forall_mem_cons.mpr ⟨bd_init_NotABoard, List.forall_mem_cons.mpr ⟨bd_init_NotNow, List.forall_mem_cons.mpr ⟨bd_init_InvalidPlace, List.forall_mem_cons.mpr ⟨bd_init_InvalidText, List.forall_mem_cons.mpr ⟨bd_init_InvalidStakes, fun _ h => nomatch h⟩⟩⟩⟩⟩)
theorem progA : prog = dl.map fun o => o.map fun d => d.r.f := by kernel_rfl
theorem okA : (dl.all fun o => match o with | some d => okFn gn df clsA.cn clsA.rs d.r | none => true) = true := by decide +kernel
theorem hCA : clsA.okI nsA = true := by decide +kernel
theorem dfA : ∀ k, df k = true → ∃ f, prog[k]? = some (some f) := hdf_of fun _ => rfl
theorem cgA : allZ (globB nsA dl tlA) gn G = true := by decide +kernel
theorem cnA : allZ (nameB nsA) gn dl = true := by decide +kernel
theorem cbA : (bltNs.all fun x => decide (nsFind nsA x = none)) = true := by decide +kernel
theorem cgcdA : nsFind nsA "gcd" = some (.bi "math.gcd") := by decide +kernel
theorem hiA : dl[i_law]? = some (some hd_law) := by kernel_rfl
theorem hnA : gn[i_law]? = some "law" := by kernel_rfl
end Ir
namespace Ir
open Ev PySem
theorem lawS (ns : List Int) (hl : ns.length ≤ 63) : Ev.run prog G (subOf clsA.subs) 62 i_law [.scr (ns.map D.int)] [] = some (.bl true, []) := Ev.law_true ns hl
end Ir
open PySem PySem.W PySem.Calls PyProof.Rows
theorem PySem.Challenge.cw_bidboards_k78_whole_small_boards_holds : PySem.Challenge.rw_bidboards_k78_whole_small_boards.Holds := by
  w_on; o_law
  refine HandSHeadRun.head_imp (r := Ir.RA) (q := view Ir.RA.prog Ir.keepA) (H := Ev.hookL Ir.LA) (ob := Ev.obL Ir.LA) (M := Ir.stepsA) (loose := Ir.looseA) (d := HandSHeadRun.topDef Ir.RA.prog Ir.lawAt) (kwd := []) (Ev.obL_eq Ir.LA) Ir.run (by kernel_rfl) (by kernel_rfl) (by kernel_rfl) (by rfl) (by first | assumption | decide +kernel) (by decide +kernel) ⟨rfl, rfl, rfl, rfl, rfl, by decide +kernel⟩ ?hw ?hc
  case hw => w_witness2
  case hc =>
    refine L2.walk_ofE (l := PySem.Challenge.rw_bidboards_k78_whole_small_boards) (n := 63) (k := 64) (x := "script") (CX := Ev.CXw (PySem.Challenge.rw_bidboards_k78_whole_small_boards).prog) rfl (by decide) (by kernel_rfl) ⟨rfl, by decide, by decide⟩ ?F (fun H s e s' z => Ev.cxw_no H s e s' z)
    intro w mg fa h Y G hmg0
    obtain ⟨K, KX, c, cB⟩ := Y
    have hmg : mg ("law" : PySem.Str) = some (.ref fa) := by
      have e : (HandSHeadRun.topDef Ir.RA.prog Ir.lawAt).name = ("law" : PySem.Str) := by kernel_rfl
      rw [← e]
      exact hmg0
    exact Ev.end_of (P := (PySem.Challenge.rw_bidboards_k78_whole_small_boards).prog) (w := w) KX G c cB Ir.progA Ir.okA Ir.bdA Ir.bdiA Ir.dfA Ir.cgA Ir.cnA Ir.cbA Ir.cgcdA Ir.hCA Ir.hiA Ir.hnA rfl hmg (fun ns hl => Ir.lawS ns hl)


