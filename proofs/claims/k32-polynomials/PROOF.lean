import PyProof.Rows.All
import Wide.All
import OpenK.AllK
import Wide.FinOn
import KE.DataEq
import KE.SortData
import KE.KDictKeyed
import KE.KDictCopyH
import HandS.Words
import HandS.Codes
import HandS.Head0
import HandS.Head1
import HandS.Head2
import HandS.HeadEnd
import HandS.HeadHook1
import HandS.HeadHook2
import HandS.ForMost
import HandS.Wide
import HandS.TupAny
import HandS.Style
import HandS.Zip
import HandS.TupMul
import HandS.TupLe
import HandS.RevTup
import HandS.IsInst
import KE.KDictWalk
import HandS.Dict
import HandS.Small
import HandS.SetFor
import HandS.Strs
import KE.DataMinMax
import KE.KDictPairs
import KE.KDictDisplayH
import HandS.More
import KE.KDictOf
import PyProof.Rows.TupDisplay
import HandS.Text
import PyProof.SeqIndex
import KE.KRevSl
import HandS.Zip0
import KE.KDictZip
import HandS.Conv
import HandS.Defaults
import PySem.Challenge.RW_oddsagree_k32_whole_polynomials
set_option Elab.async false
section
set_option Elab.async false
set_option linter.all false
/-! DL, part a: data as trees with numbered cells, a small language, its evaluator. No heap here. -/
namespace DL
open PySem

/-- data: trees; a frozen list or dict is a tree too; ref n: the cell n of the store -/
inductive D where
  | none | bool (b : Bool) | int (i : Int) | str (x : Str)
  | tup (xs : List D) | lst (xs : List D) | dct (ks vs : List D) | ref (n : Nat) | scr (ns : List Int)
  deriving Inhabited

/-- cells: lists, dicts, instances; lkl, lkd: read-only while a loop walks it; dead: handed on as a tree -/
inductive Cell where
  | lst (xs : List D) | dct (ks vs : List D) | ins (c : Nat) (fs : List (Str × D)) | lkl (xs : List D) | lkd (ks vs : List D) | dead
  deriving Inhabited
abbrev Sto := List Cell
abbrev Rho := List (Option D)

/-! ### data -/
mutual
/-- without dicts and cells: data of the library -/
def D.py : D → Option PyData
  | .none => some .none
  | .bool b => some (.bool b)
  | .int i => some (.int i)
  | .str x => some (.str x)
  | .tup xs => (D.pys xs).map .tuple
  | .lst xs => (D.pys xs).map .list
  | .dct _ _ => Option.none
  | .ref _ => Option.none
  | .scr _ => Option.none
def D.pys : List D → Option (List PyData)
  | [] => some []
  | x :: xs => match D.py x, D.pys xs with
    | some y, some ys => some (y :: ys)
    | _, _ => Option.none
end
mutual
/-- what may be a dict's key -/
def D.key : D → Option NestedKey
  | .none => some .none
  | .bool _ => Option.none
  | .int i => some (.num i)
  | .str x => some (.text x)
  | .tup xs => (D.keys xs).map .tup
  | .lst _ => Option.none
  | .dct _ _ => Option.none
  | .ref _ => Option.none
  | .scr _ => Option.none
def D.keys : List D → Option (List NestedKey)
  | [] => some []
  | x :: xs => match D.key x, D.keys xs with
    | some y, some ys => some (y :: ys)
    | _, _ => Option.none
end
/-- the sort of a key: an int or a text; a tuple -/
def D.sort : D → Option Bool
  | .int _ => some false
  | .str _ => some false
  | .tup _ => some true
  | _ => Option.none
/-- a key that a dict of these keys can be asked for: all of one sort -/
def sortOk (ks : List D) (k : D) : Bool := match ks with
  | [] => true
  | j :: _ => j.sort == k.sort
/-- two keys are one -/
def D.same (a b : D) : Bool := match a.key, b.key with
  | some x, some y => NestedKey.beq x y
  | _, _ => false
def dget : List D → List D → D → Option D
  | k :: ks, v :: vs, q => if k.same q then some v else dget ks vs q
  | _, _, _ => Option.none
def dhas : List D → D → Bool
  | k :: ks, q => k.same q || dhas ks q
  | [], _ => false
/-- the values with one more pair stored (the key is there) -/
def dset : List D → List D → D → D → List D
  | k :: ks, v :: vs, q, u => if k.same q then u :: vs else v :: dset ks vs q u
  | _, vs, _, _ => vs
/-- a dict's keys and values with a pair stored -/
def dput (ks vs : List D) (q u : D) : List D × List D := if dhas ks q then (ks, dset ks vs q u) else (ks ++ [q], vs ++ [u])
def dputs : List D × List D → List (D × D) → List D × List D
  | p, [] => p
  | p, (k, v) :: r => dputs (dput p.1 p.2 k v) r
def keyOk (k : D) : Bool := k.sort.isSome && match k.key with
  | some x => decide (x.depth ≤ 8)
  | Option.none => false

/-! ### the language -/
inductive BOp where
  | add | sub | mul | fdiv | mod | pow
  deriving DecidableEq
inductive COp where
  | eq | ne | lt | le | gt | ge | is | isnot | isin | notin
  deriving DecidableEq
/-- built-in functions, by their forms -/
inductive Bi where
  | len | abs | max2 | min2 | int | str | sum | any | all | list | tuple | sorted | sortset | dict | dict0 | maxl | minl | repr
  | dictzip | listrange | isint | isbool | isstr | istuple
  deriving DecidableEq
/-- methods of lists, dicts, texts -/
inductive Bm where
  | append | extend | pop | get1 | get2 | index | update | join
  deriving DecidableEq
inductive Tg where
  | name (i : Nat) | tup (ts : List Tg)

inductive E where
  | var (i : Nat) (fz : Bool) | const (d : D) | glob (k : Nat)
  | bin (op : BOp) (a b : E) (c : Bool) | neg (a : E) | not (a : E)
  | and (a b : E) | or (a b : E) | ite (t a b : E)
  | cmp (op : COp) (a b : E)
  | call (f : Nat) (es : List E) | new (k : Nat) (es : List E) | mth (m : Str) (o : E) (es : List E)
  | bi (b : Bi) (es : List E) (c : Bool) | bm (m : Bm) (o : E) (es : List E)
  | fld (o : E) (f : Str)
  | tup (es : List E) | lst (es : List E) (c : Bool) | dct (es : List E) (c : Bool)
  | idx (a i : E) | slc (a lo hi : E) (c : Bool) | nil | rev (a : E) (c : Bool)
  | lc (elt : E) (tg : Tg) (k : Nat) (src : List E) (cond : List E) (own : List Nat) (c : Bool)
  | lc2 (elt : E) (tg : Tg) (k : Nat) (src : List E) (cond0 : List E) (tg1 : Tg) (k1 : Nat) (src1 : List E) (cond : List E) (own own1 : List Nat) (c : Bool)

/-- what is stored to -/
inductive Ta where
  | tg (t : Tg) | sub (o i : E) | fld (o : E) (f : Str) | tas (ts : List Ta)

inductive S where
  | asg (t : Ta) (e : E) | aug (i : Nat) (op : BOp) (e : E) | augs (o i : E) (op : BOp) (e : E)
  | ret (e : E) | retn | expr (e : E) | ite (t : E) (a b : List S)
  | for_ (tg : Tg) (k : Nat) (src : List E) (body : List S) | while_ (t : E) (body : List S)
  | pass | brk | cont | never

structure Fn where
  slots : Nat
  pars : Nat
  body : List S
structure Cl where
  name : Str
  meths : List (Str × Nat)
  init : Option Nat
/-- a program: defs, classes, constants -/
structure Pg where
  fns : List Fn
  cls : List Cl
  consts : List D

/-! ### operations -/
def wideOk (i : Int) : Bool := decide (i.natAbs.log2 < 400000)
def lineOk (n : Nat) : Bool := decide (n ≤ 1000000)
/-- what stands in a cell, as a tree -/
def top (s : Sto) : D → D
  | .ref n => match s[n]? with
    | some (.lst xs) => .lst xs
    | some (.lkl xs) => .lst xs
    | some (.dct ks vs) => .dct ks vs
    | some (.lkd ks vs) => .dct ks vs
    | _ => .ref n
  | d => d
def reps : Nat → List D → List D
  | 0, _ => []
  | n + 1, xs => xs ++ reps n xs
def binD : BOp → D → D → Option D
  | .add, .int a, .int b => some (.int (a + b))
  | .add, .str a, .str b => if lineOk (a.length + b.length) then some (.str (a ++ b)) else Option.none
  | .add, .tup a, .tup b => if lineOk (a.length + b.length) then some (.tup (a ++ b)) else Option.none
  | .add, .lst a, .lst b => if lineOk (a.length + b.length) then some (.lst (a ++ b)) else Option.none
  | .sub, .int a, .int b => some (.int (a - b))
  | .mul, .int a, .int b => if wideOk a && wideOk b then some (.int (a * b)) else Option.none
  | .mul, .lst a, .int b => if decide (-1000 ≤ b) && decide (b ≤ 1000) && decide (a.length ≤ 1000) then some (.lst (reps b.toNat a)) else Option.none
  | .fdiv, .int a, .int b => if b ≠ 0 ∧ b.natAbs.log2 < 9000 then some (.int (a.fdiv b)) else Option.none
  | .mod, .int a, .int b => if b ≠ 0 then some (.int (a.fmod b)) else Option.none
  | .pow, .int a, .int b => if 0 ≤ b ∧ b ≤ 100 ∧ a.natAbs < 2 ^ 64 then some (.int (a ^ b.toNat)) else Option.none
  | _, _, _ => Option.none
/-- two trees without dicts, alike -/
def eqPy (a b : D) : Option Bool := match a.py, b.py with
  | some x, some y => if x.depth ≤ 50 then some (PyData.eqv x y) else Option.none
  | _, _ => Option.none
def eqTop (a b : D) : Option Bool := eqPy a b
def inAny (x : PyData) (xs : List PyData) : Bool := xs.any fun y => PyData.eqv y x
def cmpD (s : Sto) (op : COp) (a b : D) : Option Bool := match op with
  | .eq => eqTop (top s a) (top s b)
  | .ne => (eqTop (top s a) (top s b)).map fun r => !r
  | .lt => match a, b with
    | .int x, .int y => some (decide (x < y))
    | _, _ => Option.none
  | .le => match a, b with
    | .int x, .int y => some (decide (x ≤ y))
    | _, _ => Option.none
  | .gt => match a, b with
    | .int x, .int y => some (decide (y < x))
    | _, _ => Option.none
  | .ge => match a, b with
    | .int x, .int y => some (decide (y ≤ x))
    | _, _ => Option.none
  | .is => match a, b with
    | .none, .none => some true
    | _, .none => some false
    | .bool x, .bool y => some (decide (x = y))
    | _, _ => Option.none
  | .isnot => match a, b with
    | .none, .none => some false
    | _, .none => some true
    | .bool x, .bool y => some (!decide (x = y))
    | _, _ => Option.none
  | .isin => match top s b with
    | .dct ks _ => if keyOk a && sortOk ks a then some (dhas ks a) else Option.none
    | .tup xs => match D.pys xs, a.py with
      | some ys, some x => if x.depth ≤ 50 then some (inAny x ys) else Option.none
      | _, _ => Option.none
    | .lst xs => match D.pys xs, a.py with
      | some ys, some x => if x.depth ≤ 50 then some (inAny x ys) else Option.none
      | _, _ => Option.none
    | _ => Option.none
  | .notin => match top s b with
    | .dct ks _ => if keyOk a && sortOk ks a then some (!dhas ks a) else Option.none
    | .tup xs => match D.pys xs, a.py with
      | some ys, some x => if x.depth ≤ 50 then some (!inAny x ys) else Option.none
      | _, _ => Option.none
    | .lst xs => match D.pys xs, a.py with
      | some ys, some x => if x.depth ≤ 50 then some (!inAny x ys) else Option.none
      | _, _ => Option.none
    | _ => Option.none

/-- a list that was made just now: a cell of its own, or a tree -/
def laid (c : Bool) (d : D) (s : Sto) : D × Sto := if c then (match d with
  | .lst xs => (.ref s.length, s ++ [.lst xs])
  | .dct ks vs => (.ref s.length, s ++ [.dct ks vs])
  | _ => (d, s)) else (d, s)
/-- a cell's tree, the cell given up -/
def frozen (d : D) (s : Sto) : Option (D × Sto) := match d with
  | .ref n => match s[n]? with
    | some (.lst xs) => some (.lst xs, s.set n .dead)
    | some (.dct ks vs) => some (.dct ks vs, s.set n .dead)
    | _ => Option.none
  | d => some (d, s)
def ixOf (n : Nat) (i : Int) : Option Nat := if 0 ≤ i then (if i < n then some i.toNat else Option.none) else if -(n : Int) ≤ i then some (i + n).toNat else Option.none
def idxD (s : Sto) (a i : D) : Option D := match top s a, i with
  | .tup xs, .int k => (ixOf xs.length k).bind fun j => xs[j]?
  | .lst xs, .int k => (ixOf xs.length k).bind fun j => xs[j]?
  | .scr xs, .int k => (ixOf xs.length k).bind fun j => (xs[j]?).map .int
  | .str x, .int k => if lineOk x.length then (ixOf x.length k).bind fun j => (x.cps.toList[j]?).map fun c => .str ⟨#[c]⟩ else Option.none
  | .dct ks vs, k => if keyOk k && sortOk ks k then dget ks vs k else Option.none
  | _, _ => Option.none
/-- a bound of a slice as a place -/
def cutAt (n d : Nat) : D → Option Nat
  | .none => some d
  | .int v => some (if v < 0 then (v + n).toNat else min v.toNat n)
  | _ => Option.none
def slcD (s : Sto) (a lo hi : D) : Option D := match top s a with
  | .tup xs => match cutAt xs.length 0 lo, cutAt xs.length xs.length hi with
    | some i, some j => some (.tup ((xs.drop i).take (j - i)))
    | _, _ => Option.none
  | .lst xs => match cutAt xs.length 0 lo, cutAt xs.length xs.length hi with
    | some i, some j => some (.lst ((xs.drop i).take (j - i)))
    | _, _ => Option.none
  | _ => Option.none
def setD (s : Sto) (o i v : D) : Option Sto := match o with
  | .ref n => match s[n]?, i with
    | some (.lst xs), .int k => match ixOf xs.length k with
      | some j => some (s.set n (.lst (xs.set j v)))
      | Option.none => Option.none
    | some (.dct ks vs), k => if keyOk k && sortOk ks k && lineOk ks.length then some (s.set n (.dct (dput ks vs k v).1 (dput ks vs k v).2)) else Option.none
    | _, _ => Option.none
  | _ => Option.none

/-! ### built-ins -/
/-- keys whose copies the model makes: no tuples -/
def apartOk (ks : List D) : Bool := ks.all fun k => match k with
  | .tup _ => false
  | _ => true
def keysOk : List D → List D → Bool
  | _, [] => true
  | ks, k :: r => keyOk k && sortOk ks k && keysOk (ks ++ [k]) r
/-- a text for the data, the same for the same -/
def D.repr (d : D) : Option D := match d.py with
  | some _ => some (.tup [.str ⟨#[]⟩, d])
  | Option.none => Option.none
def allInts : List D → Option (List Int)
  | [] => some []
  | .int i :: r => (allInts r).map (i :: ·)
  | _ => Option.none
def allBools : List D → Option (List Bool)
  | [] => some []
  | .bool b :: r => (allBools r).map (b :: ·)
  | _ => Option.none
def allPairs : List D → Option (List (D × D))
  | [] => some []
  | .tup [a, b] :: r => (allPairs r).map ((a, b) :: ·)
  | _ => Option.none
def zipD : List D → List D → List (D × D)
  | a :: as, b :: bs => (a, b) :: zipD as bs
  | _, _ => []
def seqD (s : Sto) (d : D) : Option (List D) := match top s d with
  | .tup xs => some xs
  | .lst xs => some xs
  | _ => Option.none
def rangeD : Int → Nat → List D
  | _, 0 => []
  | lo, n + 1 => .int lo :: rangeD (lo + 1) n
def pairsOk : List D → List (D × D) → Bool
  | _, [] => true
  | ks, (k, _) :: r => keyOk k && sortOk ks k && pairsOk (ks ++ [k]) r
/-- whether trees can be put in order -/
def ordOk (ds : List PyData) : Bool := (ds.all fun a => ds.all fun b => PySem.W.alike a b) && (ds.all fun d => decide (d.depth ≤ 50)) &&
  ((ds.all fun d => match d with | .tuple (_ :: _) => true | _ => false) || (ds.all fun d => match d with | .tuple _ => false | .none => false | _ => true))
def leD (a b : D × PyData) : Bool := !PySem.W.dataLt b.2 a.2
def mergeF {α : Type} (le : α → α → Bool) : Nat → List α → List α → List α
  | 0, xs, ys => xs ++ ys
  | _ + 1, [], ys => ys
  | _ + 1, x :: xs, [] => x :: xs
  | n + 1, x :: xs, y :: ys => if le x y then x :: mergeF le n xs (y :: ys) else y :: mergeF le n (x :: xs) ys
theorem mergeF_eq {α : Type} {le : α → α → Bool} : ∀ (n : Nat) (xs ys : List α), xs.length + ys.length ≤ n → mergeF le n xs ys = List.merge xs ys le
  | 0, xs, ys, h => by
    have h1 : xs = [] := List.eq_nil_of_length_eq_zero (by omega)
    have h2 : ys = [] := List.eq_nil_of_length_eq_zero (by omega)
    subst h1 h2
    simp [mergeF]
  | n + 1, [], ys, _ => by simp [mergeF]
  | n + 1, x :: xs, [], _ => by simp [mergeF]
  | n + 1, x :: xs, y :: ys, h => by
    rw [mergeF, List.cons_merge_cons]
    simp only [List.length_cons] at h
    rw [mergeF_eq n xs (y :: ys) (by simp only [List.length_cons]; omega), mergeF_eq n (x :: xs) ys (by simp only [List.length_cons]; omega)]
/-- List.mergeSort, by its length -/
def msF {α : Type} (le : α → α → Bool) : Nat → List α → List α
  | 0, xs => xs
  | n + 1, xs => match xs with
    | [] => []
    | [a] => [a]
    | a :: b :: r => mergeF le (r.length + 2) (msF le n ((a :: b :: r).take ((r.length + 2 + 1) / 2))) (msF le n ((a :: b :: r).drop ((r.length + 2 + 1) / 2)))
theorem msF_eq {α : Type} {le : α → α → Bool} : ∀ (n : Nat) (xs : List α), xs.length ≤ n → msF le n xs = xs.mergeSort le
  | 0, xs, h => by
    have h1 : xs = [] := List.eq_nil_of_length_eq_zero (by omega)
    subst h1
    simp [msF]
  | n + 1, [], _ => by simp [msF]
  | n + 1, [a], _ => by simp [msF]
  | n + 1, a :: b :: r, h => by
    simp only [List.length_cons] at h
    rw [msF, List.mergeSort, msF_eq n _ (by rw [List.length_take]; simp only [List.length_cons]; omega), msF_eq n _ (by rw [List.length_drop]; simp only [List.length_cons]; omega), mergeF_eq _ _ _ (by rw [List.length_mergeSort, List.length_mergeSort, List.length_take, List.length_drop]; simp only [List.length_cons]; omega)]
    simp
def sortD (ds : List D) : Option (List D) := match D.pys ds with
  | some ps => if ordOk ps && lineOk ds.length then some ((msF leD ds.length (ds.zip ps)).map (·.1)) else Option.none
  | Option.none => Option.none
/-- the least, as first met -/
def leastGo : D × PyData → List (D × PyData) → D × PyData
  | a, [] => a
  | a, b :: r => leastGo (if PySem.W.dataLt b.2 a.2 then b else a) r
def leastD (ds : List D) : Option D := match D.pys ds with
  | some ps => if ordOk ps then (match ds.zip ps with
    | a :: r => some (leastGo a r).1
    | [] => Option.none) else Option.none
  | Option.none => Option.none
/-- a number put into a row of rising ones -/
def putI (n : Int) : List Int → List Int
  | [] => [n]
  | m :: r => if n < m then n :: m :: r else if m < n then m :: putI n r else m :: r
def setI (ns : List Int) : List Int := ns.foldr putI []
/-- each but once, as first met -/
def onceD : List D → List D → List D
  | acc, [] => acc
  | acc, x :: r => onceD (if dhas acc x then acc else acc ++ [x]) r
def biD (s : Sto) (b : Bi) (es : List D) : Option D := match b, es with
  | .len, [d] => match top s d with
    | .tup xs => some (.int xs.length)
    | .lst xs => some (.int xs.length)
    | .dct ks _ => some (.int ks.length)
    | .scr ns => some (.int ns.length)
    | .str x => if lineOk x.length then some (.int x.length) else Option.none
    | _ => Option.none
  | .abs, [.int i] => some (.int (if i < 0 then -i else i))
  | .max2, [.int i, .int j] => some (.int (if j > i then j else i))
  | .min2, [.int i, .int j] => some (.int (if j < i then j else i))
  | .int, [.int i] => some (.int i)
  | .int, [.bool b] => some (.int (if b then 1 else 0))
  | .str, [.int i] => if i.natAbs.log2 < 1900 then some (.str (toString i)) else Option.none
  | .sum, [d] => match top s d with
    | .lst xs => (allInts xs).map fun ns => .int ns.sum
    | _ => Option.none
  | .any, [d] => match top s d with
    | .lst xs => (allBools xs).map fun bs => .bool (bs.any id)
    | _ => Option.none
  | .all, [d] => match top s d with
    | .lst xs => (allBools xs).map fun bs => .bool (bs.all id)
    | _ => Option.none
  | .list, [d] => match top s d with
    | .tup xs => some (.lst xs)
    | .lst xs => some (.lst xs)
    | .dct ks _ => some (.lst ks)
    | _ => Option.none
  | .tuple, [d] => match top s d with
    | .tup xs => some (.tup xs)
    | .lst xs => some (.tup xs)
    | _ => Option.none
  | .sorted, [d] => match top s d with
    | .lst xs => (sortD xs).map .lst
    | .dct ks _ => (sortD ks).map .lst
    | _ => Option.none
  | .isint, [d] => match d with
    | .int _ => some (.bool true)
    | .bool _ => some (.bool true)
    | .dct _ _ => Option.none
    | .ref _ => Option.none
    | .scr _ => Option.none
    | _ => some (.bool false)
  | .isbool, [d] => match d with
    | .bool _ => some (.bool true)
    | .dct _ _ => Option.none
    | .ref _ => Option.none
    | .scr _ => Option.none
    | _ => some (.bool false)
  | .isstr, [d] => match d with
    | .str _ => some (.bool true)
    | .dct _ _ => Option.none
    | .ref _ => Option.none
    | .scr _ => Option.none
    | _ => some (.bool false)
  | .istuple, [d] => match d with
    | .tup _ => some (.bool true)
    | .dct _ _ => Option.none
    | .ref _ => Option.none
    | .scr _ => Option.none
    | _ => some (.bool false)
  | .dict0, [] => some (.dct [] [])
  | .dict, [d] => match top s d with
    | .lst xs => match allPairs xs with
      | some ps => if pairsOk [] ps && lineOk ps.length then some (.dct (dputs ([], []) ps).1 (dputs ([], []) ps).2) else Option.none
      | Option.none => Option.none
    | .dct ks vs => if apartOk ks then some (.dct ks vs) else Option.none
    | _ => Option.none
  | .dictzip, [a, b] => match top s a, top s b with
    | .tup xs, .tup ys => if pairsOk [] (zipD xs ys) && lineOk xs.length then some (.dct (dputs ([], []) (zipD xs ys)).1 (dputs ([], []) (zipD xs ys)).2) else Option.none
    | _, _ => Option.none
  | .sortset, [d] => match seqD s d with
    | some xs => match allInts xs with
      | some ns => if ns.length < 64 then some (.lst ((setI ns).map .int)) else Option.none
      | Option.none => Option.none
    | Option.none => Option.none
  | .maxl, [d] => match top s d with
    | .lst xs => match allInts xs with
      | some (n :: ns) => some (.int (ns.foldl (fun a b => if a < b then b else a) n))
      | _ => Option.none
    | _ => Option.none
  | .minl, [d] => match top s d with
    | .lst xs => leastD xs
    | _ => Option.none
  | .repr, [d] => (top s d).repr
  | .listrange, [.int n] => if decide (n ≤ 1000000) && decide (-1000000 ≤ n) then some (.lst (rangeD 0 n.toNat)) else Option.none
  | _, _ => Option.none
def texts : List D → Option (List Str)
  | [] => some []
  | .str x :: r => (texts r).map (x :: ·)
  | _ => Option.none
def bmD (s : Sto) (m : Bm) (o : D) (es : List D) : Option (D × Sto) := match m, es with
  | .append, [v] => match o with
    | .ref n => match s[n]? with
      | some (.lst xs) => if lineOk xs.length then some (.none, s.set n (.lst (xs ++ [v]))) else Option.none
      | _ => Option.none
    | _ => Option.none
  | .extend, [v] => match o with
    | .ref n => match s[n]?, top s v with
      | some (.lst xs), .lst ys => if lineOk (xs.length + ys.length) then some (.none, s.set n (.lst (xs ++ ys))) else Option.none
      | _, _ => Option.none
    | _ => Option.none
  | .pop, [] => match o with
    | .ref n => match s[n]? with
      | some (.lst xs) => match xs.getLast? with
        | some v => some (v, s.set n (.lst xs.dropLast))
        | Option.none => Option.none
      | _ => Option.none
    | _ => Option.none
  | .get1, [k] => match top s o with
    | .dct ks vs => if keyOk k && sortOk ks k then some ((dget ks vs k).getD .none, s) else Option.none
    | _ => Option.none
  | .get2, [k, x] => match top s o with
    | .dct ks vs => if keyOk k && sortOk ks k then some ((dget ks vs k).getD x, s) else Option.none
    | _ => Option.none
  | .index, [v] => match top s o with
    | .lst xs => match D.pys xs, v.py with
      | some ys, some y => if y.depth ≤ 50 then (ys.findIdx? fun z => PyData.eqv z y).map fun (j : Nat) => (D.int (j : Int), s) else Option.none
      | _, _ => Option.none
    | .tup xs => match D.pys xs, v.py with
      | some ys, some y => if y.depth ≤ 50 then (ys.findIdx? fun z => PyData.eqv z y).map fun (j : Nat) => (D.int (j : Int), s) else Option.none
      | _, _ => Option.none
    | _ => Option.none
  | .join, [v] => match o, top s v with
    | .str sep, .lst xs => match texts xs with
      | some ts => if lineOk ((ts.map (·.length)).sum + ts.length * sep.length) then some (.str (Str.join sep ts), s) else Option.none
      | Option.none => Option.none
    | _, _ => Option.none
  | _, _ => Option.none

/-- what a method's receiver must be -/
def bmTy (m : Bm) (d : D) : Bool := match m, d with
  | .append, .lst _ => true
  | .extend, .lst _ => true
  | .pop, .lst _ => true
  | .get1, .dct _ _ => true
  | .get2, .dct _ _ => true
  | .update, .dct _ _ => true
  | .index, .lst _ => true
  | .index, .tup _ => true
  | .join, .str _ => true
  | _, _ => false

/-! ### the evaluator -/
abbrev Res (α : Type) := Option (α × Sto)
/-- targets of names -/
def unTup : D → Option (List D)
  | .tup xs => some xs
  | _ => Option.none
mutual
def tgD : Tg → D → Rho → Option Rho
  | .name i, d, ρ => if i < ρ.length then some (ρ.set i (some d)) else Option.none
  | .tup ts, d, ρ => match d with
    | .tup xs => tgsD ts xs ρ
    | _ => Option.none
def tgsD : List Tg → List D → Rho → Option Rho
  | [], [], ρ => some ρ
  | t :: ts, x :: xs, ρ => match tgD t x ρ with
    | some ρ' => tgsD ts xs ρ'
    | Option.none => Option.none
  | _, _, _ => Option.none
end
def wipeD (ρ : Rho) : List Nat → Rho
  | [] => ρ
  | v :: vs => (wipeD ρ vs).set v Option.none
/-- what a loop walks: its items, the store with the walked cell locked, the cell to be unlocked.
   k: 0 the value itself, 1 range(n), 2 range(a, b), 3 zip(a, b), 4 d.items(), 5 d.values() -/
def pairD : D × D → D := fun p => .tup [p.1, p.2]
/-- a sequence or a dict's keys, the walked cell locked -/
def lockD : D → Sto → Option (List D × Sto × List Nat)
  | .tup xs, s => some (xs, s, [])
  | .lst xs, s => some (xs, s, [])
  | .dct ks _, s => some (ks, s, [])
  | .ref n, s => match s[n]? with
    | some (.lst xs) => some (xs, s.set n (.lkl xs), [n])
    | some (.lkl xs) => some (xs, s, [])
    | some (.dct ks vs) => some (ks, s.set n (.lkd ks vs), [n])
    | some (.lkd ks _) => some (ks, s, [])
    | _ => Option.none
  | _, _ => Option.none
/-- a list (true) or a tuple (false) -/
def kindD (s : Sto) (d : D) : Option Bool := match top s d with
  | .lst _ => some true
  | .tup _ => some false
  | _ => Option.none
def walkD (k : Nat) (es : List D) (s : Sto) : Option (List D × Sto × List Nat) := match k, es with
  | 0, [d] => lockD d s
  | 1, [.int n] => if decide (n ≤ 1000000) && decide (-1000000 ≤ n) then some (rangeD 0 n.toNat, s, []) else Option.none
  | 2, [.int a, .int b] => if decide (-1000000 ≤ a) && decide (a ≤ 1000000) && decide (-1000000 ≤ b) && decide (b ≤ 1000000) then some (rangeD a (b - a).toNat, s, []) else Option.none
  | 3, [a, b] => match lockD a s with
    | some (xs, s1, u1) => match lockD b s1 with
      | some (ys, s2, u2) => if (kindD s a).isSome && kindD s a == kindD s1 b then some ((zipD xs ys).map pairD, s2, u2 ++ u1) else Option.none
      | Option.none => Option.none
    | Option.none => Option.none
  | _, _ => Option.none
def unlock : Sto → List Nat → Option Sto
  | s, [] => some s
  | s, n :: r => match s[n]? with
    | some (.lkl xs) => unlock (s.set n (.lst xs)) r
    | some (.lkd ks vs) => unlock (s.set n (.dct ks vs)) r
    | _ => Option.none
/-- a comprehension's turns -/
def lcGo (f : D → Sto → Res (Option D)) : List D → Sto → List D → Res (List D)
  | [], s, acc => some (acc, s)
  | x :: r, s, acc => match f x s with
    | some (some y, s') => if lineOk acc.length then lcGo f r s' (acc ++ [y]) else Option.none
    | some (Option.none, s') => lcGo f r s' acc
    | Option.none => Option.none
def lc2Go (f : D → Sto → List D → Res (List D)) : List D → Sto → List D → Res (List D)
  | [], s, acc => some (acc, s)
  | x :: r, s, acc => match f x s acc with
    | some (acc', s') => lc2Go f r s' acc'
    | Option.none => Option.none
/-- key, value, key, value .. -/
def paired : List D → Option (List (D × D))
  | [] => some []
  | k :: v :: r => (paired r).map ((k, v) :: ·)
  | _ => Option.none
/-- how a def is called: F n: the n-th def -/
abbrev Fun := Nat → List D → Sto → Res D

/-- one after another -/
def bnd {α β : Type} (x : Res α) (k : α → Sto → Res β) : Res β := match x with
  | some (a, s) => k a s
  | Option.none => Option.none
theorem bnd_some {α β : Type} {x : Res α} {k : α → Sto → Res β} {r : β × Sto} (h : bnd x k = some r) : ∃ a s, x = some (a, s) ∧ k a s = some r := by
  unfold bnd at h
  split at h
  · exact ⟨_, _, rfl, h⟩
  · cases h
/-! by values -/
def gBin (op : BOp) (c : Bool) : D → D → Sto → Res D := fun x y s => match binD op (top s x) (top s y) with
  | some z => some (laid c z s)
  | Option.none => Option.none
def gCmp (op : COp) : D → D → Sto → Res D := fun x y s => (cmpD s op x y).map fun r => (.bool r, s)
def gIdx : D → D → Sto → Res D := fun x y s => (idxD s x y).map fun z => (z, s)
def gBi (b : Bi) (c : Bool) : List D → Sto → Res D := fun es s => (biD s b es).map fun z => laid c z s
def gBm (m : Bm) : D → List D → Sto → Res D := fun x xs s => bmD s m x xs
def gDct (c : Bool) : List D → Sto → Res D := fun xs s1 => match paired xs with
  | some ps => if pairsOk [] ps && decide (ps.length ≤ 15) then some (laid c (.dct (dputs ([], []) ps).1 (dputs ([], []) ps).2) s1) else Option.none
  | Option.none => Option.none
def gNeg : D → Sto → Res D := fun x s => match x with
  | .int i => some (.int (-i), s)
  | _ => Option.none
def gNot : D → Sto → Res D := fun x s => match x with
  | .bool b => some (.bool (!b), s)
  | _ => Option.none
def gTup : List D → Sto → Res D := fun xs s => if lineOk xs.length then some (.tup xs, s) else Option.none
def gLst (c : Bool) : List D → Sto → Res D := fun xs s => if lineOk xs.length then some (laid c (.lst xs) s) else Option.none
def gSlc (c : Bool) : D → D → D → Sto → Res D := fun x l h s => (slcD s x l h).map fun z => laid c z s
def gRev (c : Bool) : D → Sto → Res D := fun x s => match top s x with
  | .lst xs => some (laid c (.lst xs.reverse) s)
  | .tup xs => some (.tup xs.reverse, s)
  | _ => Option.none
def gFld (f : Str) : D → Sto → Res D := fun x s => match x with
  | .ref n => match s[n]? with
    | some (.ins _ fs) => (fs.lookup f).map fun d => (d, s)
    | _ => Option.none
  | _ => Option.none
/-- the def that a method's name means -/
def mthD (Γ : Pg) (m : Str) (x : D) (s : Sto) : Option Nat := match x with
  | .ref n => match s[n]? with
    | some (.ins k fs) => match Γ.cls[k]? with
      | some c => match c.meths.lookup m with
        | some f => match fs.lookup m with
          | Option.none => some f
          | some _ => Option.none
        | Option.none => Option.none
      | Option.none => Option.none
    | _ => Option.none
  | _ => Option.none
def gNew (Γ : Pg) (F : Fun) (k : Nat) : List D → Sto → Res D := fun xs s1 => match Γ.cls[k]? with
  | some c => match c.init with
    | some f => bnd (F f (.ref s1.length :: xs) (s1 ++ [.ins k []])) fun r s2 => match r with
      | .none => some (.ref s1.length, s2)
      | _ => Option.none
    | Option.none => Option.none
  | Option.none => Option.none
def varE (i : Nat) (fz : Bool) (ρ : Rho) (s : Sto) : Res D := match ρ[i]? with
  | some (some d) => if fz then frozen d s else some (d, s)
  | _ => Option.none
/-- a comprehension over what is walked -/
def lcAll (k : Nat) (f : D → Sto → Res (Option D)) (xs : List D) (s1 : Sto) (acc : List D) : Res (List D) := match walkD k xs s1 with
  | some (its, s2, u) => bnd (lcGo f its s2 acc) fun ys s5 => (unlock s5 u).map fun s6 => (ys, s6)
  | Option.none => Option.none
def lc2All (k : Nat) (f : D → Sto → List D → Res (List D)) (xs : List D) (s1 : Sto) : Res (List D) := match walkD k xs s1 with
  | some (its, s2, u) => bnd (lc2Go f its s2 []) fun ys s5 => (unlock s5 u).map fun s6 => (ys, s6)
  | Option.none => Option.none

section
variable (Γ : Pg) (F : Fun)
mutual
def evE : E → Rho → Sto → Res D
  | .var i fz, ρ, s => varE i fz ρ s
  | .const d, _, s => some (d, s)
  | .nil, _, s => some (.none, s)
  | .glob k, _, s => (Γ.consts[k]?).map fun d => (d, s)
  | .bin op a b c, ρ, s => bnd (evE a ρ s) fun x s1 => bnd (evE b ρ s1) fun y s2 => gBin op c x y s2
  | .neg a, ρ, s => bnd (evE a ρ s) fun x s1 => gNeg x s1
  | .not a, ρ, s => bnd (evE a ρ s) fun x s1 => gNot x s1
  | .and a b, ρ, s => bnd (evE a ρ s) fun x s1 => match x with
    | .bool true => evE b ρ s1
    | .bool false => some (.bool false, s1)
    | _ => Option.none
  | .or a b, ρ, s => bnd (evE a ρ s) fun x s1 => match x with
    | .bool true => some (.bool true, s1)
    | .bool false => evE b ρ s1
    | _ => Option.none
  | .ite t a b, ρ, s => bnd (evE t ρ s) fun x s1 => match x with
    | .bool true => evE a ρ s1
    | .bool false => evE b ρ s1
    | _ => Option.none
  | .cmp op a b, ρ, s => bnd (evE a ρ s) fun x s1 => bnd (evE b ρ s1) fun y s2 => gCmp op x y s2
  | .call f es, ρ, s => bnd (evL es ρ s) fun xs s1 => F f xs s1
  | .new k es, ρ, s => bnd (evL es ρ s) fun xs s1 => gNew Γ F k xs s1
  | .mth m o es, ρ, s => bnd (evE o ρ s) fun x s1 => match mthD Γ m x s1 with
    | some f => bnd (evL es ρ s1) fun xs s2 => F f (x :: xs) s2
    | Option.none => Option.none
  | .bi b es c, ρ, s => bnd (evL es ρ s) fun xs s1 => gBi b c xs s1
  | .bm m o es, ρ, s => bnd (evE o ρ s) fun x s1 => if bmTy m (top s1 x) then bnd (evL es ρ s1) fun xs s2 => bmD s2 m x xs else Option.none
  | .fld o f, ρ, s => bnd (evE o ρ s) fun x s1 => gFld f x s1
  | .tup es, ρ, s => bnd (evL es ρ s) fun xs s1 => gTup xs s1
  | .lst es c, ρ, s => bnd (evL es ρ s) fun xs s1 => gLst c xs s1
  | .dct es c, ρ, s => bnd (evL es ρ s) fun xs s1 => gDct c xs s1
  | .idx a i, ρ, s => bnd (evE a ρ s) fun x s1 => bnd (evE i ρ s1) fun y s2 => gIdx x y s2
  | .slc a lo hi c, ρ, s => bnd (evE a ρ s) fun x s1 => bnd (evE lo ρ s1) fun l s2 => bnd (evE hi ρ s2) fun h s3 => gSlc c x l h s3
  | .rev a c, ρ, s => bnd (evE a ρ s) fun x s1 => gRev c x s1
  | .lc elt tg k src cond own c, ρ, s => bnd (evL src ρ s) fun xs s1 => bnd (lcAll k (fun x s' => match tgD tg x (wipeD ρ own) with
      | some ρ' => bnd (evC cond ρ' s') fun b s3 => match b with
        | .bool true => bnd (evE elt ρ' s3) fun y s4 => some (some y, s4)
        | .bool false => some (Option.none, s3)
        | _ => Option.none
      | Option.none => Option.none) xs s1 []) fun ys s6 => some (laid c (.lst ys) s6)
  | .lc2 elt tg k src cond0 tg1 k1 src1 cond own own1 c, ρ, s => bnd (evL src ρ s) fun xs s1 => bnd (lc2All k (fun x s' acc => match tgD tg x (wipeD ρ own) with
      | some ρ' => bnd (evC cond0 ρ' s') fun b t1 => match b with
        | .bool true => bnd (evL src1 ρ' t1) fun xs1 s3 => lcAll k1 (fun x1 s5 => match tgD tg1 x1 (wipeD ρ' own1) with
            | some ρ2 => bnd (evC cond ρ2 s5) fun b s6 => match b with
              | .bool true => bnd (evE elt ρ2 s6) fun y s7 => some (some y, s7)
              | .bool false => some (Option.none, s6)
              | _ => Option.none
            | Option.none => Option.none) xs1 s3 acc
        | .bool false => some (acc, t1)
        | _ => Option.none
      | Option.none => Option.none) xs s1) fun ys s6 => some (laid c (.lst ys) s6)
def evL : List E → Rho → Sto → Res (List D)
  | [], _, s => some ([], s)
  | e :: es, ρ, s => bnd (evE e ρ s) fun x s1 => bnd (evL es ρ s1) fun xs s2 => some (x :: xs, s2)
/-- tests of a comprehension -/
def evC : List E → Rho → Sto → Res D
  | [], _, s => some (.bool true, s)
  | e :: es, ρ, s => bnd (evE e ρ s) fun x s1 => match x with
    | .bool true => evC es ρ s1
    | .bool false => some (.bool false, s1)
    | _ => Option.none
end
end
end DL
end

section
set_option Elab.async false
set_option linter.all false
/-! DL, part b: statements, defs, programs of the small language. -/
namespace DL
open PySem

inductive Fl where
  | next | brk | cont | ret (d : D)
abbrev ResS := Option (Fl × Rho × Sto)
def putFD (f : Str) (v : D) : List (Str × D) → List (Str × D)
  | [] => [(f, v)]
  | (g, x) :: r => if g = f then (g, v) :: r else (g, x) :: putFD f v r
def setF (s : Sto) (o : D) (f : Str) (v : D) : Option Sto := match o with
  | .ref n => match s[n]? with
    | some (.ins c fs) => if decide (fs.length < 900) then some (s.set n (.ins c (putFD f v fs))) else Option.none
    | _ => Option.none
  | _ => Option.none
/-- a loop's turns -/
def forGo (f : D → Rho → Sto → ResS) : List D → Rho → Sto → ResS
  | [], ρ, s => some (.next, ρ, s)
  | x :: r, ρ, s => match f x ρ s with
    | some (.next, ρ', s') => forGo f r ρ' s'
    | some (.cont, ρ', s') => forGo f r ρ' s'
    | some (.brk, ρ', s') => some (.next, ρ', s')
    | some (.ret d, ρ', s') => some (.ret d, ρ', s')
    | Option.none => Option.none
def whGo (t : Rho → Sto → Res D) (f : Rho → Sto → ResS) : Nat → Rho → Sto → ResS
  | 0, _, _ => Option.none
  | n + 1, ρ, s => match t ρ s with
    | some (.bool true, s1) => match f ρ s1 with
      | some (.next, ρ', s') => whGo t f n ρ' s'
      | some (.cont, ρ', s') => whGo t f n ρ' s'
      | some (.brk, ρ', s') => some (.next, ρ', s')
      | some (.ret d, ρ', s') => some (.ret d, ρ', s')
      | Option.none => Option.none
    | some (.bool false, s1) => some (.next, ρ, s1)
    | _ => Option.none
/-- a loop's end: what was walked is given free again -/
def freed (u : List Nat) : ResS → ResS
  | some (fl, ρ, s) => (unlock s u).map fun s' => (fl, ρ, s')
  | Option.none => Option.none

/-- a loop over what is walked -/
def forAll (k : Nat) (f : D → Rho → Sto → ResS) (xs : List D) (ρ : Rho) (s1 : Sto) : ResS := match walkD k xs s1 with
  | some (its, s2, u) => freed u (forGo f its ρ s2)
  | Option.none => Option.none
def bndS {α : Type} (x : Res α) (k : α → Sto → ResS) : ResS := match x with
  | some (a, s) => k a s
  | Option.none => Option.none
theorem bndS_some {α : Type} {x : Res α} {k : α → Sto → ResS} {r : Fl × Rho × Sto} (h : bndS x k = some r) : ∃ a s, x = some (a, s) ∧ k a s = some r := by
  unfold bndS at h
  split at h
  · exact ⟨_, _, rfl, h⟩
  · cases h
/-- a op= b of numbers, of texts -/
def augD (op : BOp) (x y : D) : Option D := match op, x, y with
  | .add, .int a, .int b => some (.int (a + b))
  | .sub, .int a, .int b => some (.int (a - b))
  | .add, .str a, .str b => if lineOk (a.length + b.length) then some (.str (a ++ b)) else Option.none
  | _, _, _ => Option.none
/-- d[k] of a dict -/
def getK (s : Sto) (a k : D) : Option D := match top s a with
  | .dct ks vs => if keyOk k && sortOk ks k then dget ks vs k else Option.none
  | _ => Option.none
section
variable (Γ : Pg) (F : Fun) (W : Nat)
mutual
def asD : Ta → D → Rho → Sto → Option (Rho × Sto)
  | .tg t, d, ρ, s => (tgD t d ρ).map fun ρ' => (ρ', s)
  | .sub o i, d, ρ, s => match evE Γ F o ρ s with
    | some (x, s1) => match evE Γ F i ρ s1 with
      | some (y, s2) => (setD s2 x y d).map fun s3 => (ρ, s3)
      | Option.none => Option.none
    | Option.none => Option.none
  | .fld o f, d, ρ, s => match evE Γ F o ρ s with
    | some (x, s1) => (setF s1 x f d).map fun s2 => (ρ, s2)
    | Option.none => Option.none
  | .tas ts, d, ρ, s => match d with
    | .tup xs => assD ts xs ρ s
    | _ => Option.none
def assD : List Ta → List D → Rho → Sto → Option (Rho × Sto)
  | [], [], ρ, s => some (ρ, s)
  | t :: ts, x :: xs, ρ, s => match asD t x ρ s with
    | some (ρ', s') => assD ts xs ρ' s'
    | Option.none => Option.none
  | _, _, _, _ => Option.none
end
mutual
def exS : S → Rho → Sto → ResS
  | .asg t e, ρ, s => bndS (evE Γ F e ρ s) fun d s1 => (asD Γ F t d ρ s1).map fun p => (.next, p.1, p.2)
  | .aug i op e, ρ, s => match ρ[i]? with
    | some (some x) => bndS (evE Γ F e ρ s) fun y s1 => (augD op x y).map fun z => (.next, ρ.set i (some z), s1)
    | _ => Option.none
  | .augs o i op e, ρ, s => bndS (evE Γ F o ρ s) fun x s1 => bndS (evE Γ F i ρ s1) fun k s2 => match getK s2 x k with
    | some a => bndS (evE Γ F e ρ s2) fun b s3 => match augD op a b with
      | some z => (setD s3 x k z).map fun s4 => (.next, ρ, s4)
      | Option.none => Option.none
    | Option.none => Option.none
  | .ret e, ρ, s => bndS (evE Γ F e ρ s) fun d s1 => some (.ret d, ρ, s1)
  | .retn, ρ, s => some (.ret .none, ρ, s)
  | .expr e, ρ, s => bndS (evE Γ F e ρ s) fun _ s1 => some (.next, ρ, s1)
  | .ite t a b, ρ, s => bndS (evE Γ F t ρ s) fun x s1 => match x with
    | .bool true => exB a ρ s1
    | .bool false => exB b ρ s1
    | _ => Option.none
  | .for_ tg k src body, ρ, s => bndS (evL Γ F src ρ s) fun xs s1 => forAll k (fun x ρ' s' => match tgD tg x ρ' with
      | some ρ2 => exB body ρ2 s'
      | Option.none => Option.none) xs ρ s1
  | .while_ t body, ρ, s => whGo (fun ρ' s' => evE Γ F t ρ' s') (fun ρ' s' => exB body ρ' s') W ρ s
  | .pass, ρ, s => some (.next, ρ, s)
  | .brk, ρ, s => some (.brk, ρ, s)
  | .cont, ρ, s => some (.cont, ρ, s)
  | .never, _, _ => Option.none
def exB : List S → Rho → Sto → ResS
  | [], ρ, s => some (.next, ρ, s)
  | c :: r, ρ, s => match exS c ρ s with
    | some (.next, ρ', s') => exB r ρ' s'
    | some (.brk, ρ', s') => some (.brk, ρ', s')
    | some (.cont, ρ', s') => some (.cont, ρ', s')
    | some (.ret d, ρ', s') => some (.ret d, ρ', s')
    | Option.none => Option.none
end
/-- a def at its arguments -/
def startD (n : Nat) (xs : List D) : Rho := xs.map some ++ List.replicate (n - xs.length) Option.none
def callD (f : Fn) (xs : List D) (s : Sto) : Res D := if xs.length = f.pars then (match exB Γ F W f.body (startD f.slots xs) s with
  | some (.ret d, _, s') => some (d, s')
  | some (.next, _, s') => some (.none, s')
  | _ => Option.none) else Option.none
end
mutual
/-- no cell in it -/
def D.clo : D → Bool
  | .none => true
  | .bool _ => true
  | .int _ => true
  | .str _ => true
  | .tup xs => D.clos xs
  | .lst xs => D.clos xs
  | .dct ks vs => D.clos ks && D.clos vs
  | .ref _ => false
  | .scr _ => true
def D.clos : List D → Bool
  | [] => true
  | x :: xs => D.clo x && D.clos xs
end
/-- a call by trees that gives a tree leaves the store alone -/
def iso (g : List D → Sto → Res D) : List D → Sto → Res D := fun ds s => if D.clos ds then (match g ds [] with
  | some (d, _) => if d.clo then some (d, s) else g ds s
  | Option.none => Option.none) else g ds s
/-- calls of at most so many, one in another -/
def run (Γ : Pg) (W : Nat) : Nat → Fun
  | 0, _, _, _ => Option.none
  | n + 1, f, xs, s => match Γ.fns[f]? with
    | some fd => iso (callD Γ (run Γ W n) W fd) xs s
    | Option.none => Option.none
end DL
end

section
set_option Elab.async false
set_option linter.all false
set_option maxRecDepth 100000
set_option maxHeartbeats 4000000
/-! DL: looks at the head's heap (definitions). -/
namespace DL
open PySem PySem.Spec PyProof.Rows L2 PySem.W
/-- the names of the text: defs, classes, constants, fields -/
structure Tab where
  fnm : List (Str × Nat)
  cln : List (Str × Nat)
  con : List (Str × Nat)
  flds : List Str
def bltNames : List Str := ["len", "abs", "max", "min", "sum", "any", "all", "sorted", "int", "str", "bool", "list", "tuple", "dict", "set", "range", "zip", "isinstance"]
section
variable (K : PySem.W.Frag)
mutual
def rpB : D → Value → Bool
  | .none, u => match u with
    | .none => true
    | _ => false
  | .bool b, u => match u with
    | .bool c => b == c
    | _ => false
  | .int i, u => match u with
    | .int j _ => decide (i = j)
    | _ => false
  | .str x, u => match u with
    | .str y _ => decide (x = y)
    | _ => false
  | .tup ds, u => match u with
    | .ref a => match K.lookup a with
      | some ⟨.type c, none, .seq its _, _⟩ => decide (c = "tuple") && (decide (its.size ≤ sizeLine) && rpsB ds its.toList)
      | _ => false
    | _ => false
  | _, _ => false
def rpsB : List D → List Value → Bool
  | [], us => us.isEmpty
  | d :: ds, us => match us with
    | u :: us => rpB d u && rpsB ds us
    | [] => false
end
end
/-! ### looks at the head -/
def atOf (fn : List He.DefD) (f : Nat) : Str × Option Str := match fn[f]? with
  | some d => d.at_
  | none => (("" : Str), none)
def fAof (K : PySem.W.Frag) (fn : List He.DefD) (f : Nat) : Addr := He.fAd K (atOf fn f)
def cAof (K : PySem.W.Frag) (Γ : Pg) (c : Nat) : Addr := match Γ.cls[c]? with
  | some cl => He.ga K cl.name
  | none => match Γ.cls[0]? with
    | some cl => He.ga K cl.name
    | none => 0
def methB (K : PySem.W.Frag) (C : Addr) (m : Str) (f : Addr) : Bool := He.eqO (PySem.W.findIn K (.ref C) m) (some (some (.ref f))) && (PySem.W.isFn K (.ref f) && PySem.W.keepIn K (.ref f))
def mkB (K : PySem.W.Frag) (C f : Addr) : Bool := PySem.W.makesIn K C && (He.eqO (PySem.W.findIn K (.ref C) "__init__") (some (some (.ref f))) && (PySem.W.isFn K (.ref f) && PySem.W.keepIn K (.ref C)))
def clsB (T : Tab) (fn : List He.DefD) (K : PySem.W.Frag) (cl : Cl) : Bool := (He.Fa.cls cl.name).ok K && ((T.flds.all fun f => (He.Fa.noat cl.name f).ok K) && ((cl.meths.all fun q => methB K (He.ga K cl.name) q.1 (fAof K fn q.2)) && match cl.init with
  | some f => mkB K (He.ga K cl.name) (fAof K fn f)
  | none => true))
def conB (Γ : Pg) (K : PySem.W.Frag) (p : Str × Nat) : Bool := match Γ.consts[p.2]?, PySem.W.nsIn K mainGlobals p.1 with
  | some d, some (some u) => rpB K d u
  | _, _ => false
def tokB (T : Tab) (Γ : Pg) (fn : List He.DefD) (K : PySem.W.Frag) : Bool := (T.fnm.all fun p => He.eqO (PySem.W.nsIn K mainGlobals p.1) (some (some (.ref (fAof K fn p.2))))) &&
  ((bltNames.all fun x => He.eqO (PySem.W.nsIn K mainGlobals x) (some none)) &&
  ((T.cln.all fun p => He.eqO (PySem.W.nsIn K mainGlobals p.1) (some (some (.ref (cAof K Γ p.2))))) && ((Γ.cls.all fun cl => clsB T fn K cl) && T.con.all fun p => conB Γ K p)))
/-! ### the Hook -/
def obX (fn : List He.DefD) (ck : PySem.W.Frag → Bool) (K : PySem.W.Frag) : Bool × He.AlD := (ck K, He.obsD [] fn K)
/-- what the module's names reach in n steps, step by step (nothing is sought twice, so no list is searched for what it has) -/
def asL (g : Addr → Option Obj) : Nat → List Addr → List Addr
  | 0, as => as
  | n + 1, as => as ++ asL g n (as.flatMap fun a => match g a with
    | some o => He.refsD o
    | none => [])
def obXG (n : Nat) (fn : List He.DefD) (ck : PySem.W.Frag → Bool) (g : Addr → Option Obj) : Bool × He.AlD := obX fn ck (He.frG g (asL g n [mainGlobals]))
def hookX (n : Nat) (fn : List He.DefD) (ck : PySem.W.Frag → Bool) : PySem.W.Hook where
  α := Bool × He.AlD
  obs := fun s => obXG n fn ck s.heap.get?
  val := fun _ => (true, He.valD fn)
  says := fun _ h => ∃ K : PySem.W.Frag, K.In h ∧ He.SaysD [] fn K ∧ ck K = true
  of := fun _ _ e => ⟨_, He.frG_in, congrArg (fun z : Bool × He.AlD => z.2) e, congrArg (fun z : Bool × He.AlD => z.1) e⟩
  keeps := fun _ _ _ ⟨K, hK, c⟩ k => ⟨K, PySem.W.Frag.In.keeps hK k, c⟩
theorem obXG_eq {n : Nat} {fn : List He.DefD} {ck : PySem.W.Frag → Bool} {g : Addr → Option Obj} {s : Shared} (h : ∀ a, g a = s.heap.get? a) : obXG n fn ck g = (hookX n fn ck).obs s := by
  have e : g = s.heap.get? := funext h
  rw [e]
  rfl
end DL
end

section
namespace Gk32
open DL
def s0 : PySem.Str := ⟨#[]⟩ -- 
def s1 : PySem.Str := ⟨#[32]⟩ --  
def s2 : PySem.Str := ⟨#[94]⟩ -- ^
def s3 : PySem.Str := ⟨#[47]⟩ -- /
def s4 : PySem.Str := ⟨#[32, 43, 32]⟩ --  + 
def s5 : PySem.Str := ⟨#[48]⟩ -- 0
def s6 : PySem.Str := ⟨#[97, 100, 100]⟩ -- add
def s7 : PySem.Str := ⟨#[116, 97, 107, 101]⟩ -- take
def s8 : PySem.Str := ⟨#[116, 105, 109, 101, 115]⟩ -- times
def s9 : PySem.Str := ⟨#[108, 101, 97, 115, 116]⟩ -- least
def s10 : PySem.Str := ⟨#[109, 111, 115, 116]⟩ -- most
def s11 : PySem.Str := ⟨#[108, 101, 115, 115]⟩ -- less
def s12 : PySem.Str := ⟨#[115, 97, 109, 101]⟩ -- same
def s13 : PySem.Str := ⟨#[98, 111, 116, 104]⟩ -- both
def s14 : PySem.Str := ⟨#[117, 110, 107, 110, 111, 119, 110]⟩ -- unknown
def s15 : PySem.Str := ⟨#[99, 111, 105, 110, 115]⟩ -- coins
def s16 : PySem.Str := ⟨#[111, 102, 95, 99, 104, 97, 110, 99, 101]⟩ -- of_chance
def s17 : PySem.Str := ⟨#[119, 104, 111, 108, 101]⟩ -- whole
def s18 : PySem.Str := ⟨#[110, 111, 116, 104, 105, 110, 103]⟩ -- nothing
def s19 : PySem.Str := ⟨#[97, 100, 100, 101, 100]⟩ -- added
def s20 : PySem.Str := ⟨#[99, 111, 105, 110]⟩ -- coin
def s21 : PySem.Str := ⟨#[112, 105, 99, 107]⟩ -- pick
def s22 : PySem.Str := ⟨#[111, 102, 95, 99, 111, 105, 110]⟩ -- of_coin
def s23 : PySem.Str := ⟨#[111, 112]⟩ -- op
def s24 : PySem.Str := ⟨#[110, 111, 116]⟩ -- not
def s25 : PySem.Str := ⟨#[105, 102]⟩ -- if
def s26 : PySem.Str := ⟨#[116, 97, 98, 108, 101]⟩ -- table
def s27 : PySem.Str := ⟨#[110, 117, 109]⟩ -- num
def s28 : PySem.Str := ⟨#[106, 111, 105, 110, 101, 100]⟩ -- joined
def s29 : PySem.Str := ⟨#[100, 101, 102, 115]⟩ -- defs
def s30 : PySem.Str := ⟨#[110, 111, 100, 101, 115]⟩ -- nodes
def s31 : PySem.Str := ⟨#[107, 101, 112, 116]⟩ -- kept
def s32 : PySem.Str := ⟨#[118, 97, 114]⟩ -- var
def s33 : PySem.Str := ⟨#[112, 117, 116, 95, 101, 120, 112, 114]⟩ -- put_expr
def s34 : PySem.Str := ⟨#[112, 117, 116]⟩ -- put
def s35 : PySem.Str := ⟨#[99, 97, 108, 108]⟩ -- call
def s36 : PySem.Str := ⟨#[101, 105, 116, 104, 101, 114]⟩ -- either
def s37 : PySem.Str := ⟨#[112, 117, 116, 95, 98, 111, 100, 121]⟩ -- put_body
def s38 : PySem.Str := ⟨#[103, 117, 97, 114, 100, 101, 100]⟩ -- guarded
def s39 : PySem.Str := ⟨#[108, 101, 116]⟩ -- let
def s40 : PySem.Str := ⟨#[111, 98, 115, 101, 114, 118, 101]⟩ -- observe
def s41 : PySem.Str := ⟨#[112, 117, 116, 95, 107, 101, 112, 116]⟩ -- put_kept
def s42 : PySem.Str := ⟨#[114, 101, 112, 101, 97, 116]⟩ -- repeat
def s43 : PySem.Str := ⟨#[112, 117, 116, 95, 119, 104, 101, 110]⟩ -- put_when
def s44 : PySem.Str := ⟨#[119, 104, 101, 110]⟩ -- when
def s45 : PySem.Str := ⟨#[97, 116]⟩ -- at
def s46 : PySem.Str := ⟨#[100, 114, 97, 119, 115]⟩ -- draws
def s47 : PySem.Str := ⟨#[32, 122]⟩ --  z
def s48 : PySem.Str := ⟨#[32, 122, 94]⟩ --  z^
def s49 : PySem.Str := ⟨#[122]⟩ -- z
def s50 : PySem.Str := ⟨#[120, 121, 122, 117]⟩ -- xyzu
def s51 : PySem.Str := ⟨#[112]⟩ -- p
def s52 : PySem.Str := ⟨#[79, 100, 100, 115, 83, 99, 97, 108, 101]⟩ -- OddsScale
def s53 : PySem.Str := ⟨#[80, 111, 108, 121, 83, 99, 97, 108, 101]⟩ -- PolyScale
def s54 : PySem.Str := ⟨#[66, 117, 105, 108, 100, 101, 114]⟩ -- Builder
def s55 : PySem.Str := ⟨#[116, 111, 115, 115]⟩ -- toss
/-- slots thing; 0: is_number -/
def f0 : Fn := ⟨1, 1, [.ret (.and (.bi .isint [(.var 0 false)] false) (.not (.bi .isbool [(.var 0 false)] false)))]⟩
/-- slots thing many; 1: is_tuple_of -/
def f1 : Fn := ⟨2, 2, [.ret (.and (.bi .istuple [(.var 0 false)] false) (.cmp .eq (.bi .len [(.var 0 false)] false) (.var 1 false)))]⟩
/-- slots things; 2: set_of -/
def f2 : Fn := ⟨1, 1, [.ret (.bi .tuple [(.bi .sortset [(.var 0 false)] false)] false)]⟩
/-- slots some gone one; 3: without -/
def f3 : Fn := ⟨3, 2, [.ret (.bi .tuple [(.lc (.var 2 false) (.name 2) 0 [(.var 0 false)] [(.cmp .notin (.var 2 false) (.var 1 false))] [2] false)] false)]⟩
/-- slots a b; 4: common -/
def f4 : Fn := ⟨2, 2, [.while_ (.cmp .ne (.var 1 false) (.const (.int 0))) [.asg (.tg (.tup [(.name 0), (.name 1)])) (.tup [(.var 1 false), (.bin .mod (.var 0 false) (.var 1 false) false)])],
    .ret (.bi .abs [(.var 0 false)] false)]⟩
/-- slots a b by; 5: fraction -/
def f5 : Fn := ⟨3, 2, [.asg (.tg (.name 2)) (.call 4 [(.var 0 false), (.var 1 false)]),
    .ite (.cmp .lt (.var 1 false) (.const (.int 0))) [.asg (.tg (.name 2)) (.neg (.var 2 false))] [],
    .ret (.tup [(.bin .fdiv (.var 0 false) (.var 2 false) false), (.bin .fdiv (.var 1 false) (.var 2 false) false)])]⟩
/-- slots one other; 6: plus -/
def f6 : Fn := ⟨2, 2, [.ret (.call 5 [(.bin .add (.bin .mul (.idx (.var 0 false) (.const (.int 0))) (.idx (.var 1 false) (.const (.int 1))) false) (.bin .mul (.idx (.var 1 false) (.const (.int 0))) (.idx (.var 0 false) (.const (.int 1))) false) false), (.bin .mul (.idx (.var 0 false) (.const (.int 1))) (.idx (.var 1 false) (.const (.int 1))) false)])]⟩
/-- slots one other; 7: minus -/
def f7 : Fn := ⟨2, 2, [.ret (.call 5 [(.bin .sub (.bin .mul (.idx (.var 0 false) (.const (.int 0))) (.idx (.var 1 false) (.const (.int 1))) false) (.bin .mul (.idx (.var 1 false) (.const (.int 0))) (.idx (.var 0 false) (.const (.int 1))) false) false), (.bin .mul (.idx (.var 0 false) (.const (.int 1))) (.idx (.var 1 false) (.const (.int 1))) false)])]⟩
/-- slots one other; 8: times -/
def f8 : Fn := ⟨2, 2, [.ret (.call 5 [(.bin .mul (.idx (.var 0 false) (.const (.int 0))) (.idx (.var 1 false) (.const (.int 0))) false), (.bin .mul (.idx (.var 0 false) (.const (.int 1))) (.idx (.var 1 false) (.const (.int 1))) false)])]⟩
/-- slots one other; 9: parted -/
def f9 : Fn := ⟨2, 2, [.ret (.call 5 [(.bin .mul (.idx (.var 0 false) (.const (.int 0))) (.idx (.var 1 false) (.const (.int 1))) false), (.bin .mul (.idx (.var 0 false) (.const (.int 1))) (.idx (.var 1 false) (.const (.int 0))) false)])]⟩
/-- slots thing; 10: is_fraction -/
def f10 : Fn := ⟨1, 1, [.ite (.or (.not (.call 1 [(.var 0 false), (.const (.int 2))])) (.or (.not (.call 0 [(.idx (.var 0 false) (.const (.int 0)))])) (.or (.not (.call 0 [(.idx (.var 0 false) (.const (.int 1)))])) (.cmp .lt (.idx (.var 0 false) (.const (.int 1))) (.const (.int 1)))))) [.ret (.const (.bool false))] [],
    .ret (.cmp .eq (.call 4 [(.idx (.var 0 false) (.const (.int 0))), (.idx (.var 0 false) (.const (.int 1)))]) (.const (.int 1)))]⟩
/-- slots terms; 11: trimmed -/
def f11 : Fn := ⟨1, 1, [.asg (.tg (.name 0)) (.bi .list [(.var 0 false)] true),
    .while_ (.and (.cmp .ne (.var 0 false) (.lst [] false)) (.cmp .eq (.idx (.idx (.var 0 false) (.neg (.const (.int 1)))) (.const (.int 0))) (.const (.int 0)))) [.expr (.bm .pop (.var 0 false) [])],
    .ret (.bi .tuple [(.var 0 false)] false)]⟩
/-- slots thing own; 12: is_poly -/
def f12 : Fn := ⟨2, 1, [.ite (.or (.not (.bi .istuple [(.var 0 false)] false)) (.not (.bi .all [(.lc (.call 10 [(.var 1 false)]) (.name 1) 0 [(.var 0 false)] [] [1] false)] false))) [.ret (.const (.bool false))] [],
    .ret (.or (.cmp .eq (.var 0 false) (.tup [])) (.cmp .ne (.idx (.idx (.var 0 false) (.neg (.const (.int 1)))) (.const (.int 0))) (.const (.int 0))))]⟩
/-- slots poly k; 13: poly_at -/
def f13 : Fn := ⟨2, 2, [.ret (.ite (.cmp .lt (.var 1 false) (.bi .len [(.var 0 false)] false)) (.idx (.var 0 false) (.var 1 false)) (.tup [(.const (.int 0)), (.const (.int 1))]))]⟩
/-- slots one other many k; 14: poly_plus -/
def f14 : Fn := ⟨4, 2, [.asg (.tg (.name 2)) (.bi .max2 [(.bi .len [(.var 0 false)] false), (.bi .len [(.var 1 false)] false)] false),
    .ret (.call 11 [(.lc (.call 6 [(.call 13 [(.var 0 false), (.var 3 false)]), (.call 13 [(.var 1 false), (.var 3 false)])]) (.name 3) 1 [(.var 2 false)] [] [3] false)])]⟩
/-- slots one other many k; 15: poly_minus -/
def f15 : Fn := ⟨4, 2, [.asg (.tg (.name 2)) (.bi .max2 [(.bi .len [(.var 0 false)] false), (.bi .len [(.var 1 false)] false)] false),
    .ret (.call 11 [(.lc (.call 7 [(.call 13 [(.var 0 false), (.var 3 false)]), (.call 13 [(.var 1 false), (.var 3 false)])]) (.name 3) 1 [(.var 2 false)] [] [3] false)])]⟩
/-- slots one other found i j; 16: poly_times -/
def f16 : Fn := ⟨5, 2, [.asg (.tg (.name 2)) (.bin .mul (.lst [(.tup [(.const (.int 0)), (.const (.int 1))])] false) (.bin .add (.bi .len [(.var 0 false)] false) (.bi .len [(.var 1 false)] false) false) true),
    .for_ (.name 3) 1 [(.bi .len [(.var 0 false)] false)] [.for_ (.name 4) 1 [(.bi .len [(.var 1 false)] false)] [.asg (.sub (.var 2 false) (.bin .add (.var 3 false) (.var 4 false) false)) (.call 6 [(.idx (.var 2 false) (.bin .add (.var 3 false) (.var 4 false) false)), (.call 8 [(.idx (.var 0 false) (.var 3 false)), (.idx (.var 1 false) (.var 4 false))])])]],
    .ret (.call 11 [(.var 2 true)])]⟩
/-- slots poly at found own; 17: poly_value -/
def f17 : Fn := ⟨4, 2, [.asg (.tg (.name 2)) (.tup [(.const (.int 0)), (.const (.int 1))]),
    .for_ (.name 3) 0 [(.rev (.var 0 false) false)] [.asg (.tg (.name 2)) (.call 6 [(.call 8 [(.var 2 false), (.var 1 false)]), (.var 3 false)])],
    .ret (.var 2 false)]⟩
/-- slots poly k; 18: poly_slope -/
def f18 : Fn := ⟨2, 1, [.ret (.call 11 [(.lc (.call 8 [(.idx (.var 0 false) (.var 1 false)), (.tup [(.var 1 false), (.const (.int 1))])]) (.name 1) 2 [(.const (.int 1)), (.bi .len [(.var 0 false)] false)] [] [1] false)])]⟩
/-- slots poly name parts k power; 19: poly_text -/
def f19 : Fn := ⟨5, 2, [.asg (.tg (.name 2)) (.lst [] true),
    .for_ (.name 3) 1 [(.bi .len [(.var 0 false)] false)] [.ite (.cmp .ne (.idx (.idx (.var 0 false) (.var 3 false)) (.const (.int 0))) (.const (.int 0))) [.asg (.tg (.name 4)) (.ite (.cmp .eq (.var 3 false) (.const (.int 0))) (.const (.str s0)) (.ite (.cmp .eq (.var 3 false) (.const (.int 1))) (.bin .add (.const (.str s1)) (.var 1 false) false) (.bin .add (.bin .add (.bin .add (.const (.str s1)) (.var 1 false) false) (.const (.str s2)) false) (.bi .str [(.var 3 false)] false) false))),
    .expr (.bm .append (.var 2 false) [(.bin .add (.bin .add (.bin .add (.bi .str [(.idx (.idx (.var 0 false) (.var 3 false)) (.const (.int 0)))] false) (.const (.str s3)) false) (.bi .str [(.idx (.idx (.var 0 false) (.var 3 false)) (.const (.int 1)))] false) false) (.var 4 false) false)])] []],
    .ret (.ite (.cmp .ne (.var 2 false) (.lst [] false)) (.bm .join (.const (.str s4)) [(.var 2 false)]) (.const (.str s5)))]⟩
/-- slots poly k found _; 20: poly_power -/
def f20 : Fn := ⟨4, 2, [.asg (.tg (.name 2)) (.tup [(.call 5 [(.const (.int 1)), (.const (.int 1))])]),
    .for_ (.name 3) 1 [(.var 1 false)] [.asg (.tg (.name 2)) (.call 16 [(.var 2 false), (.var 0 false)])],
    .ret (.var 2 false)]⟩
/-- slots sign a b; 21: worked -/
def f21 : Fn := ⟨3, 3, [.ite (.cmp .eq (.var 0 false) (.const (.str s6))) [.ret (.bin .add (.var 1 false) (.var 2 false) false)] [],
    .ite (.cmp .eq (.var 0 false) (.const (.str s7))) [.ret (.bin .sub (.var 1 false) (.var 2 false) false)] [],
    .ite (.cmp .eq (.var 0 false) (.const (.str s8))) [.ret (.bin .mul (.var 1 false) (.var 2 false) false)] [],
    .ite (.cmp .eq (.var 0 false) (.const (.str s9))) [.ret (.bi .min2 [(.var 1 false), (.var 2 false)] false)] [],
    .ite (.cmp .eq (.var 0 false) (.const (.str s10))) [.ret (.bi .max2 [(.var 1 false), (.var 2 false)] false)] [],
    .ite (.cmp .eq (.var 0 false) (.const (.str s11))) [.ret (.bi .int [(.cmp .lt (.var 1 false) (.var 2 false))] false)] [],
    .ite (.cmp .eq (.var 0 false) (.const (.str s12))) [.ret (.bi .int [(.cmp .eq (.var 1 false) (.var 2 false))] false)] [],
    .ret (.ite (.cmp .eq (.var 0 false) (.const (.str s13))) (.bi .int [(.and (.cmp .ne (.var 1 false) (.const (.int 0))) (.cmp .ne (.var 2 false) (.const (.int 0))))] false) (.bi .int [(.or (.cmp .ne (.var 1 false) (.const (.int 0))) (.cmp .ne (.var 2 false) (.const (.int 0))))] false))]⟩
/-- slots self; 22: OddsScale.nothing -/
def f22 : Fn := ⟨1, 1, [.ret (.tup [(.const (.int 0)), (.const (.int 1))])]⟩
/-- slots self; 23: OddsScale.whole -/
def f23 : Fn := ⟨1, 1, [.ret (.tup [(.const (.int 1)), (.const (.int 1))])]⟩
/-- slots self one other; 24: OddsScale.added -/
def f24 : Fn := ⟨3, 3, [.ret (.call 6 [(.var 1 false), (.var 2 false)])]⟩
/-- slots self one other; 25: OddsScale.joined -/
def f25 : Fn := ⟨3, 3, [.ret (.call 8 [(.var 1 false), (.var 2 false)])]⟩
/-- slots self chance; 26: OddsScale.of_chance -/
def f26 : Fn := ⟨2, 2, [.ret (.var 1 false)]⟩
/-- slots self name value; 27: OddsScale.of_coin -/
def f27 : Fn := ⟨3, 3, [.never]⟩
/-- slots self unknown coins; 28: PolyScale.__init__ -/
def f28 : Fn := ⟨3, 3, [.asg (.fld (.var 0 false) s14) (.var 1 false),
    .asg (.fld (.var 0 false) s15) (.var 2 false)]⟩
/-- slots self; 29: PolyScale.nothing -/
def f29 : Fn := ⟨1, 1, [.ret (.tup [])]⟩
/-- slots self; 30: PolyScale.whole -/
def f30 : Fn := ⟨1, 1, [.ret (.tup [(.tup [(.const (.int 1)), (.const (.int 1))])])]⟩
/-- slots self one other; 31: PolyScale.added -/
def f31 : Fn := ⟨3, 3, [.ret (.call 14 [(.var 1 false), (.var 2 false)])]⟩
/-- slots self one other; 32: PolyScale.joined -/
def f32 : Fn := ⟨3, 3, [.ret (.call 16 [(.var 1 false), (.var 2 false)])]⟩
/-- slots self chance; 33: PolyScale.of_chance -/
def f33 : Fn := ⟨2, 2, [.ret (.ite (.cmp .ne (.idx (.var 1 false) (.const (.int 0))) (.const (.int 0))) (.tup [(.var 1 false)]) (.tup []))]⟩
/-- slots self name value one; 34: PolyScale.of_coin -/
def f34 : Fn := ⟨4, 3, [.ite (.and (.cmp .ne (.var 1 false) (.fld (.var 0 false) s14)) (.cmp .notin (.var 1 false) (.fld (.var 0 false) s15))) [.never] [],
    .asg (.tg (.name 3)) (.ite (.cmp .eq (.var 1 false) (.fld (.var 0 false) s14)) (.tup [(.tup [(.const (.int 0)), (.const (.int 1))]), (.tup [(.const (.int 1)), (.const (.int 1))])]) (.mth s16 (.var 0 false) [(.idx (.fld (.var 0 false) s15) (.var 1 false))])),
    .ret (.ite (.cmp .eq (.var 2 false) (.const (.int 1))) (.var 3 false) (.call 15 [(.mth s17 (.var 0 false) []), (.var 3 false)]))]⟩
/-- slots unknown coins; 35: unknown_scale -/
def f35 : Fn := ⟨2, 2, [.ret (.new 1 [(.var 0 false), (.var 1 false)])]⟩
/-- slots scale table key weight; 36: put_more -/
def f36 : Fn := ⟨4, 4, [.ite (.cmp .ne (.var 3 false) (.mth s18 (.var 0 false) [])) [.asg (.sub (.var 1 false) (.var 2 false)) (.mth s19 (.var 0 false) [(.bm .get2 (.var 1 false) [(.var 2 false), (.mth s18 (.var 0 false) [])]), (.var 3 false)])] []]⟩
/-- slots draw value _; 37: values_of -/
def f37 : Fn := ⟨3, 1, [.ite (.cmp .eq (.idx (.var 0 false) (.const (.int 0))) (.const (.str s20))) [.ret (.lst [(.const (.int 0)), (.const (.int 1))] false)] [],
    .ite (.cmp .eq (.idx (.var 0 false) (.const (.int 0))) (.const (.str s21))) [.ret (.lc (.var 1 false) (.tup [(.name 1), (.name 2)]) 0 [(.idx (.var 0 false) (.const (.int 1)))] [] [1, 2] false)] [],
    .ret (.lc (.var 1 false) (.name 1) 0 [(.tup [(.const (.int 0)), (.const (.int 1))])] [(.cmp .gt (.idx (.call 38 [(.var 0 false), (.var 1 false)]) (.const (.int 0))) (.const (.int 0)))] [1] false)]⟩
/-- slots draw value; 38: chance_of -/
def f38 : Fn := ⟨2, 2, [.ite (.cmp .eq (.idx (.var 0 false) (.const (.int 0))) (.const (.str s21))) [.ret (.bm .get2 (.bi .dict [(.idx (.var 0 false) (.const (.int 1)))] false) [(.var 1 false), (.tup [(.const (.int 0)), (.const (.int 1))])])] [],
    .ret (.ite (.cmp .eq (.var 1 false) (.const (.int 1))) (.idx (.var 0 false) (.const (.int 1))) (.call 7 [(.tup [(.const (.int 1)), (.const (.int 1))]), (.idx (.var 0 false) (.const (.int 1)))]))]⟩
/-- slots scale draw value; 39: weight_of -/
def f39 : Fn := ⟨3, 3, [.ite (.cmp .eq (.idx (.var 1 false) (.const (.int 0))) (.const (.str s20))) [.ret (.mth s22 (.var 0 false) [(.idx (.var 1 false) (.const (.int 1))), (.var 2 false)])] [],
    .ret (.mth s16 (.var 0 false) [(.call 38 [(.var 1 false), (.var 2 false)])])]⟩
/-- slots node; 40: inputs_of -/
def f40 : Fn := ⟨1, 1, [.ite (.cmp .eq (.idx (.var 0 false) (.const (.int 0))) (.const (.str s23))) [.ret (.slc (.var 0 false) (.const (.int 2)) .nil false)] [],
    .ite (.cmp .isin (.idx (.var 0 false) (.const (.int 0))) (.tup [(.const (.str s24)), (.const (.str s25))])) [.ret (.slc (.var 0 false) (.const (.int 1)) .nil false)] [],
    .ret (.ite (.cmp .eq (.idx (.var 0 false) (.const (.int 0))) (.const (.str s26))) (.idx (.var 0 false) (.const (.int 1))) (.tup []))]⟩
/-- slots node values; 41: node_value -/
def f41 : Fn := ⟨2, 2, [.ite (.cmp .eq (.idx (.var 0 false) (.const (.int 0))) (.const (.str s27))) [.ret (.idx (.var 0 false) (.const (.int 1)))] [],
    .ite (.cmp .eq (.idx (.var 0 false) (.const (.int 0))) (.const (.str s23))) [.ret (.call 21 [(.idx (.var 0 false) (.const (.int 1))), (.idx (.var 1 false) (.idx (.var 0 false) (.const (.int 2)))), (.idx (.var 1 false) (.idx (.var 0 false) (.const (.int 3))))])] [],
    .ite (.cmp .eq (.idx (.var 0 false) (.const (.int 0))) (.const (.str s24))) [.ret (.bi .int [(.cmp .eq (.idx (.var 1 false) (.idx (.var 0 false) (.const (.int 1)))) (.const (.int 0)))] false)] [],
    .ret (.ite (.cmp .ne (.idx (.var 1 false) (.idx (.var 0 false) (.const (.int 1)))) (.const (.int 0))) (.idx (.var 1 false) (.idx (.var 0 false) (.const (.int 2)))) (.idx (.var 1 false) (.idx (.var 0 false) (.const (.int 3)))))]⟩
/-- slots node; 42: rows_of -/
def f42 : Fn := ⟨1, 1, [.ret (.bi .dict [(.idx (.var 0 false) (.const (.int 2)))] false)]⟩
/-- slots node values value _ own; 43: node_values -/
def f43 : Fn := ⟨5, 2, [.ite (.cmp .eq (.idx (.var 0 false) (.const (.int 0))) (.const (.str s26))) [.ret (.lc (.var 2 false) (.tup [(.name 2), (.name 3)]) 0 [(.idx (.call 42 [(.var 0 false)]) (.bi .tuple [(.lc (.idx (.var 1 false) (.var 4 false)) (.name 4) 0 [(.idx (.var 0 false) (.const (.int 1)))] [] [4] false)] false))] [] [2, 3] false)] [],
    .ret (.ite (.cmp .isin (.idx (.var 0 false) (.const (.int 0))) (.glob 0)) (.call 37 [(.var 0 false)]) (.lst [(.call 41 [(.var 0 false), (.var 1 false)])] false))]⟩
/-- slots scale node values value own; 44: node_weight -/
def f44 : Fn := ⟨5, 4, [.ite (.cmp .eq (.idx (.var 1 false) (.const (.int 0))) (.const (.str s26))) [.ret (.mth s16 (.var 0 false) [(.idx (.bi .dict [(.idx (.call 42 [(.var 1 false)]) (.bi .tuple [(.lc (.idx (.var 2 false) (.var 4 false)) (.name 4) 0 [(.idx (.var 1 false) (.const (.int 1)))] [] [4] false)] false))] false) (.var 3 false))])] [],
    .ret (.ite (.cmp .isin (.idx (.var 1 false) (.const (.int 0))) (.glob 0)) (.call 39 [(.var 0 false), (.var 1 false), (.var 3 false)]) (.mth s17 (.var 0 false) []))]⟩
/-- slots nodes domains k node holds first able a b own row v _ odds value; 45: node_domain -/
def f45 : Fn := ⟨15, 3, [.asg (.tg (.name 3)) (.idx (.var 0 false) (.var 2 false)),
    .ite (.cmp .eq (.idx (.var 3 false) (.const (.int 0))) (.const (.str s23))) [.ret (.call 2 [(.lc2 (.call 21 [(.idx (.var 3 false) (.const (.int 1))), (.var 7 false), (.var 8 false)]) (.name 7) 0 [(.idx (.var 1 false) (.idx (.var 3 false) (.const (.int 2))))] [] (.name 8) 0 [(.idx (.var 1 false) (.idx (.var 3 false) (.const (.int 3))))] [] [7, 8] [8] false)])] [],
    .ite (.cmp .eq (.idx (.var 3 false) (.const (.int 0))) (.const (.str s25))) [.asg (.tg (.name 4)) (.idx (.var 1 false) (.idx (.var 3 false) (.const (.int 1)))),
    .asg (.tg (.name 5)) (.ite (.bi .any [(.lc (.cmp .ne (.var 9 false) (.const (.int 0))) (.name 9) 0 [(.var 4 false)] [] [9] false)] false) (.idx (.var 1 false) (.idx (.var 3 false) (.const (.int 2)))) (.tup [])),
    .ret (.call 2 [(.bin .add (.var 5 false) (.ite (.cmp .isin (.const (.int 0)) (.var 4 false)) (.idx (.var 1 false) (.idx (.var 3 false) (.const (.int 3)))) (.tup [])) false)])] [],
    .ite (.cmp .eq (.idx (.var 3 false) (.const (.int 0))) (.const (.str s24))) [.ret (.call 2 [(.lc (.bi .int [(.cmp .eq (.var 9 false) (.const (.int 0)))] false) (.name 9) 0 [(.idx (.var 1 false) (.idx (.var 3 false) (.const (.int 1))))] [] [9] false)])] [],
    .ite (.cmp .eq (.idx (.var 3 false) (.const (.int 0))) (.const (.str s26))) [.asg (.tg (.name 6)) (.lc (.var 10 false) (.name 10) 0 [(.idx (.var 3 false) (.const (.int 2)))] [(.bi .all [(.lc (.cmp .isin (.var 11 false) (.idx (.var 1 false) (.var 9 false))) (.tup [(.name 11), (.name 9)]) 3 [(.idx (.var 10 false) (.const (.int 0))), (.idx (.var 3 false) (.const (.int 1)))] [] [11, 9] false)] false)] [10] false),
    .ret (.call 2 [(.lc2 (.var 14 false) (.tup [(.name 12), (.name 13)]) 0 [(.var 6 false)] [] (.tup [(.name 14), (.name 12)]) 0 [(.var 13 false)] [] [12, 13, 14] [14, 12] false)])] [],
    .ret (.ite (.cmp .eq (.idx (.var 3 false) (.const (.int 0))) (.const (.str s27))) (.tup [(.idx (.var 3 false) (.const (.int 1)))]) (.call 2 [(.call 37 [(.var 3 false)])]))]⟩
/-- slots net nodes found k; 46: domains_of -/
def f46 : Fn := ⟨4, 1, [.asg (.tg (.tup [(.name 1), (.name 2)])) (.tup [(.idx (.var 0 false) (.const (.int 0))), (.lst [] true)]),
    .for_ (.name 3) 1 [(.bi .len [(.var 1 false)] false)] [.expr (.bm .append (.var 2 false) [(.call 45 [(.var 1 false), (.var 2 false), (.var 3 false)])])],
    .ret (.bi .tuple [(.var 2 true)] false)]⟩
/-- slots domains inputs rows own row value; 47: rows_over -/
def f47 : Fn := ⟨6, 2, [.asg (.tg (.name 2)) (.lst [(.tup [])] false),
    .for_ (.name 3) 0 [(.var 1 false)] [.asg (.tg (.name 2)) (.lc2 (.bin .add (.var 4 false) (.tup [(.var 5 false)]) false) (.name 4) 0 [(.var 2 false)] [] (.name 5) 0 [(.idx (.var 0 false) (.var 3 false))] [] [4, 5] [5] false)],
    .ret (.var 2 false)]⟩
/-- slots scope row places own; 48: picked -/
def f48 : Fn := ⟨4, 3, [.ret (.bi .tuple [(.lc (.idx (.var 1 false) (.bm .index (.var 0 false) [(.var 3 false)])) (.name 3) 0 [(.var 2 false)] [] [3] false)] false)]⟩
/-- slots scale one other both rest scope lots row key order found more whole own; 49: joined_tables -/
def f49 : Fn := ⟨14, 3, [.asg (.tg (.name 3)) (.bi .tuple [(.lc (.var 13 false) (.name 13) 0 [(.idx (.var 1 false) (.const (.int 0)))] [(.cmp .isin (.var 13 false) (.idx (.var 2 false) (.const (.int 0))))] [13] false)] false),
    .asg (.tg (.name 4)) (.call 3 [(.idx (.var 2 false) (.const (.int 0))), (.idx (.var 1 false) (.const (.int 0)))]),
    .asg (.tg (.name 5)) (.call 2 [(.bin .add (.idx (.var 1 false) (.const (.int 0))) (.idx (.var 2 false) (.const (.int 0))) false)]),
    .asg (.tg (.name 6)) (.dct [] true),
    .for_ (.name 7) 0 [(.idx (.var 2 false) (.const (.int 1)))] [.asg (.tg (.name 8)) (.call 48 [(.idx (.var 2 false) (.const (.int 0))), (.var 7 false), (.var 3 false)]),
    .asg (.sub (.var 6 false) (.var 8 false)) (.bin .add (.bm .get2 (.var 6 false) [(.var 8 false), (.tup [])]) (.tup [(.var 7 false)]) false)],
    .asg (.tg (.tup [(.name 9), (.name 10)])) (.tup [(.bin .add (.idx (.var 1 false) (.const (.int 0))) (.var 4 false) false), (.dct [] true)]),
    .for_ (.name 7) 0 [(.idx (.var 1 false) (.const (.int 1)))] [.for_ (.name 11) 0 [(.bm .get2 (.var 6 false) [(.call 48 [(.idx (.var 1 false) (.const (.int 0))), (.var 7 false), (.var 3 false)]), (.tup [])])] [.asg (.tg (.name 12)) (.bin .add (.var 7 false) (.call 48 [(.idx (.var 2 false) (.const (.int 0))), (.var 11 false), (.var 4 false)]) false),
    .expr (.call 36 [(.var 0 false), (.var 10 false), (.call 48 [(.var 9 false), (.var 12 false), (.var 5 false)]), (.mth s28 (.var 0 false) [(.idx (.idx (.var 1 false) (.const (.int 1))) (.var 7 false)), (.idx (.idx (.var 2 false) (.const (.int 1))) (.var 11 false))])])]],
    .ret (.tup [(.var 5 false), (.var 10 true)])]⟩
/-- slots scale tables found own; 50: join_all -/
def f50 : Fn := ⟨4, 2, [.asg (.tg (.name 2)) (.tup [(.tup []), (.dct [(.tup []), (.mth s17 (.var 0 false) [])] false)]),
    .for_ (.name 3) 0 [(.var 1 false)] [.asg (.tg (.name 2)) (.call 49 [(.var 0 false), (.var 2 false), (.var 3 false)])],
    .ret (.var 2 false)]⟩
/-- slots scale table place scope found row; 51: summed_out -/
def f51 : Fn := ⟨6, 3, [.asg (.tg (.tup [(.name 3), (.name 4)])) (.tup [(.call 3 [(.idx (.var 1 false) (.const (.int 0))), (.tup [(.var 2 false)])]), (.dct [] true)]),
    .for_ (.name 5) 0 [(.idx (.var 1 false) (.const (.int 1)))] [.expr (.call 36 [(.var 0 false), (.var 4 false), (.call 48 [(.idx (.var 1 false) (.const (.int 0))), (.var 5 false), (.var 3 false)]), (.idx (.idx (.var 1 false) (.const (.int 1))) (.var 5 false))])],
    .ret (.tup [(.var 3 false), (.var 4 true)])]⟩
/-- slots scale place values value; 52: sure_table -/
def f52 : Fn := ⟨4, 3, [.ret (.tup [(.tup [(.var 1 false)]), (.bi .dict [(.lc (.tup [(.tup [(.var 3 false)]), (.mth s17 (.var 0 false) [])]) (.name 3) 0 [(.var 2 false)] [] [3] false)] false)])]⟩
/-- slots table row; 53: answers_of -/
def f53 : Fn := ⟨2, 1, [.ret (.bi .dict [(.lc (.tup [(.idx (.var 1 false) (.const (.int 0))), (.idx (.idx (.var 0 false) (.const (.int 1))) (.var 1 false))]) (.name 1) 0 [(.idx (.var 0 false) (.const (.int 1)))] [] [1] false)] false)]⟩
/-- slots scale net domains k node inputs scope found row values value; 54: node_table -/
def f54 : Fn := ⟨11, 4, [.asg (.tg (.name 4)) (.idx (.idx (.var 1 false) (.const (.int 0))) (.var 3 false)),
    .asg (.tg (.name 5)) (.call 2 [(.call 40 [(.var 4 false)])]),
    .asg (.tg (.tup [(.name 6), (.name 7)])) (.tup [(.bin .add (.var 5 false) (.tup [(.var 3 false)]) false), (.dct [] true)]),
    .for_ (.name 8) 0 [(.call 47 [(.var 2 false), (.var 5 false)])] [.asg (.tg (.name 9)) (.bi .dictzip [(.var 5 false), (.var 8 false)] false),
    .for_ (.name 10) 0 [(.call 43 [(.var 4 false), (.var 9 false)])] [.expr (.call 36 [(.var 0 false), (.var 7 false), (.bin .add (.var 8 false) (.tup [(.var 10 false)]) false), (.call 44 [(.var 0 false), (.var 4 false), (.var 9 false), (.var 10 false)])])]],
    .ret (.tup [(.var 6 false), (.var 7 true)])]⟩
/-- slots scale domains place value; 55: kept_table -/
def f55 : Fn := ⟨4, 3, [.ret (.call 52 [(.var 0 false), (.var 2 false), (.lc (.var 3 false) (.name 3) 0 [(.idx (.var 1 false) (.var 2 false))] [(.cmp .ne (.var 3 false) (.const (.int 0)))] [3] false)])]⟩
/-- slots net scale domains found k own; 56: tables_of -/
def f56 : Fn := ⟨6, 2, [.asg (.tg (.name 2)) (.call 46 [(.var 0 false)]),
    .asg (.tg (.name 3)) (.lc (.call 54 [(.var 1 false), (.var 0 false), (.var 2 false), (.var 4 false)]) (.name 4) 1 [(.bi .len [(.idx (.var 0 false) (.const (.int 0)))] false)] [] [4] false),
    .ret (.bi .tuple [(.bin .add (.var 3 false) (.lc (.call 55 [(.var 1 false), (.var 2 false), (.var 5 false)]) (.name 5) 0 [(.idx (.var 0 false) (.const (.int 1)))] [] [5] false) false)] false)]⟩
/-- slots scopes places found own scope other; 57: neighbours_of -/
def f57 : Fn := ⟨6, 2, [.asg (.tg (.name 2)) (.dct [] true),
    .for_ (.name 3) 0 [(.var 1 false)] [.asg (.sub (.var 2 false) (.var 3 false)) (.call 2 [(.lc2 (.var 5 false) (.name 4) 0 [(.var 0 false)] [(.cmp .isin (.var 3 false) (.var 4 false))] (.name 5) 0 [(.var 4 false)] [(.cmp .ne (.var 5 false) (.var 3 false))] [4, 5] [5] false)])],
    .ret (.var 2 true)]⟩
/-- slots net nodes k own; 58: scopes_of -/
def f58 : Fn := ⟨4, 1, [.asg (.tg (.name 1)) (.lc (.call 2 [(.bin .add (.call 40 [(.idx (.idx (.var 0 false) (.const (.int 0))) (.var 2 false))]) (.tup [(.var 2 false)]) false)]) (.name 2) 1 [(.bi .len [(.idx (.var 0 false) (.const (.int 0)))] false)] [] [2] false),
    .ret (.bi .tuple [(.bin .add (.var 1 false) (.lc (.tup [(.var 3 false)]) (.name 3) 0 [(.idx (.var 0 false) (.const (.int 1)))] [] [3] false) false)] false)]⟩
/-- slots scale tables live place used n; 59: step -/
def f59 : Fn := ⟨6, 4, [.asg (.tg (.name 4)) (.bi .tuple [(.lc (.var 5 false) (.name 5) 0 [(.var 2 false)] [(.cmp .isin (.var 3 false) (.idx (.idx (.var 1 false) (.var 5 false)) (.const (.int 0))))] [5] false)] false),
    .ret (.tup [(.var 4 false), (.call 51 [(.var 0 false), (.call 50 [(.var 0 false), (.lc (.idx (.var 1 false) (.var 5 false)) (.name 5) 0 [(.var 4 false)] [] [5] false)]), (.var 3 false)])])]⟩
/-- slots net scale order tables live steps place used own n; 60: all_steps -/
def f60 : Fn := ⟨10, 3, [.asg (.tg (.name 3)) (.bi .list [(.call 56 [(.var 0 false), (.var 1 false)])] true),
    .asg (.tg (.tup [(.name 4), (.name 5)])) (.tup [(.bi .listrange [(.bi .len [(.var 3 false)] false)] false), (.lst [] true)]),
    .for_ (.name 6) 0 [(.var 2 false)] [.asg (.tg (.tup [(.name 7), (.name 8)])) (.call 59 [(.var 1 false), (.var 3 false), (.var 4 false), (.var 6 false)]),
    .asg (.tg (.name 4)) (.bin .add (.lc (.var 9 false) (.name 9) 0 [(.var 4 false)] [(.cmp .notin (.var 9 false) (.var 7 false))] [9] false) (.lst [(.bi .len [(.var 3 false)] false)] false) false),
    .expr (.bm .append (.var 3 false) [(.var 8 false)]),
    .expr (.bm .append (.var 5 false) [(.tup [(.var 6 false), (.var 7 false), (.var 8 false)])])],
    .ret (.tup [(.bi .tuple [(.var 5 true)] false), (.call 50 [(.var 1 false), (.lc (.idx (.var 3 false) (.var 9 false)) (.name 9) 0 [(.var 4 false)] [] [9] false)])])]⟩
/-- slots net scale order; 61: eliminated -/
def f61 : Fn := ⟨3, 3, [.ret (.call 53 [(.idx (.call 60 [(.var 0 false), (.var 1 false), (.var 2 false)]) (.const (.int 1)))])]⟩
/-- slots self defs; 62: Builder.__init__ -/
def f62 : Fn := ⟨2, 2, [.asg (.fld (.var 0 false) s29) (.var 1 false),
    .asg (.fld (.var 0 false) s30) (.lst [] true),
    .asg (.fld (.var 0 false) s31) (.lst [] true)]⟩
/-- slots self node; 63: Builder.put -/
def f63 : Fn := ⟨2, 2, [.expr (.bm .append (.fld (.var 0 false) s30) [(.var 1 false)]),
    .ret (.bin .sub (.bi .len [(.fld (.var 0 false) s30)] false) (.const (.int 1)) false)]⟩
/-- slots self env expr word one holds takes gives places own; 64: Builder.put_expr -/
def f64 : Fn := ⟨10, 3, [.asg (.tg (.name 3)) (.idx (.var 2 false) (.const (.int 0))),
    .ite (.cmp .eq (.var 3 false) (.const (.str s32))) [.ret (.idx (.var 1 false) (.idx (.var 2 false) (.const (.int 1))))] [],
    .ite (.cmp .eq (.var 3 false) (.const (.str s23))) [.asg (.tg (.name 4)) (.mth s33 (.var 0 false) [(.var 1 false), (.idx (.var 2 false) (.const (.int 2)))]),
    .ret (.mth s34 (.var 0 false) [(.tup [(.const (.str s23)), (.idx (.var 2 false) (.const (.int 1))), (.var 4 false), (.mth s33 (.var 0 false) [(.var 1 false), (.idx (.var 2 false) (.const (.int 3)))])])])] [],
    .ite (.cmp .eq (.var 3 false) (.const (.str s24))) [.ret (.mth s34 (.var 0 false) [(.tup [(.const (.str s24)), (.mth s33 (.var 0 false) [(.var 1 false), (.idx (.var 2 false) (.const (.int 1)))])])])] [],
    .ite (.cmp .eq (.var 3 false) (.const (.str s25))) [.asg (.tg (.name 5)) (.mth s33 (.var 0 false) [(.var 1 false), (.idx (.var 2 false) (.const (.int 1)))]),
    .asg (.tg (.name 4)) (.mth s33 (.var 0 false) [(.var 1 false), (.idx (.var 2 false) (.const (.int 2)))]),
    .ret (.mth s34 (.var 0 false) [(.tup [(.const (.str s25)), (.var 5 false), (.var 4 false), (.mth s33 (.var 0 false) [(.var 1 false), (.idx (.var 2 false) (.const (.int 3)))])])])] [],
    .ite (.cmp .eq (.var 3 false) (.const (.str s35))) [.asg (.tg (.tup [(.name 6), (.name 7)])) (.idx (.fld (.var 0 false) s29) (.idx (.var 2 false) (.const (.int 1)))),
    .asg (.tg (.name 8)) (.lc (.mth s33 (.var 0 false) [(.var 1 false), (.var 9 false)]) (.name 9) 0 [(.idx (.var 2 false) (.const (.int 2)))] [] [9] false),
    .ret (.mth s33 (.var 0 false) [(.bi .dictzip [(.var 6 false), (.var 8 false)] false), (.var 7 false)])] [],
    .ret (.mth s34 (.var 0 false) [(.var 2 false)])]⟩
/-- slots self guard place; 65: Builder.put_kept -/
def f65 : Fn := ⟨3, 3, [.ite (.cmp .is (.var 1 false) (.const .none)) [.expr (.bm .append (.fld (.var 0 false) s31) [(.var 2 false)])] [.expr (.bm .append (.fld (.var 0 false) s31) [(.mth s34 (.var 0 false) [(.tup [(.const (.str s23)), (.const (.str s36)), (.mth s34 (.var 0 false) [(.tup [(.const (.str s24)), (.var 1 false)])]), (.var 2 false)])])])]]⟩
/-- slots self guard place; 66: Builder.guarded -/
def f66 : Fn := ⟨3, 3, [.ret (.ite (.cmp .is (.var 1 false) (.const .none)) (.var 2 false) (.mth s34 (.var 0 false) [(.tup [(.const (.str s23)), (.const (.str s13)), (.var 1 false), (.var 2 false)])]))]⟩
/-- slots self env guard deed holds one other first second_guard second found name same; 67: Builder.put_when -/
def f67 : Fn := ⟨13, 4, [.asg (.tg (.name 4)) (.mth s33 (.var 0 false) [(.var 1 false), (.idx (.var 3 false) (.const (.int 1)))]),
    .asg (.tg (.tup [(.name 5), (.name 6)])) (.slc (.var 3 false) (.const (.int 2)) .nil false),
    .asg (.tg (.name 7)) (.mth s37 (.var 0 false) [(.var 1 false), (.ite (.call 69 [(.var 5 false)]) (.mth s38 (.var 0 false) [(.var 2 false), (.var 4 false)]) (.const .none)), (.var 5 false)]),
    .asg (.tg (.name 8)) (.ite (.call 69 [(.var 6 false)]) (.mth s38 (.var 0 false) [(.var 2 false), (.mth s34 (.var 0 false) [(.tup [(.const (.str s24)), (.var 4 false)])])]) (.const .none)),
    .asg (.tg (.tup [(.name 9), (.name 10)])) (.tup [(.mth s37 (.var 0 false) [(.var 1 false), (.var 8 false), (.var 6 false)]), (.dct [] true)]),
    .for_ (.name 11) 0 [(.bi .sorted [(.var 7 false)] false)] [.ite (.cmp .isin (.var 11 false) (.var 9 false)) [.asg (.tg (.name 12)) (.cmp .eq (.idx (.var 7 false) (.var 11 false)) (.idx (.var 9 false) (.var 11 false))),
    .asg (.sub (.var 10 false) (.var 11 false)) (.ite (.var 12 false) (.idx (.var 7 false) (.var 11 false)) (.mth s34 (.var 0 false) [(.tup [(.const (.str s25)), (.var 4 false), (.idx (.var 7 false) (.var 11 false)), (.idx (.var 9 false) (.var 11 false))])]))] []],
    .ret (.var 10 false)]⟩
/-- slots self env guard body deed; 68: Builder.put_body -/
def f68 : Fn := ⟨5, 4, [.asg (.tg (.name 1)) (.bi .dict [(.var 1 false)] true),
    .for_ (.name 4) 0 [(.var 3 false)] [.ite (.cmp .eq (.idx (.var 4 false) (.const (.int 0))) (.const (.str s39))) [.asg (.sub (.var 1 false) (.idx (.var 4 false) (.const (.int 1)))) (.mth s33 (.var 0 false) [(.var 1 false), (.idx (.var 4 false) (.const (.int 2)))])] [.ite (.cmp .eq (.idx (.var 4 false) (.const (.int 0))) (.const (.str s40))) [.expr (.mth s41 (.var 0 false) [(.var 2 false), (.mth s33 (.var 0 false) [(.var 1 false), (.idx (.var 4 false) (.const (.int 1)))])])] [.ite (.cmp .eq (.idx (.var 4 false) (.const (.int 0))) (.const (.str s42))) [.asg (.tg (.name 1)) (.mth s37 (.var 0 false) [(.var 1 false), (.var 2 false), (.bin .mul (.idx (.var 4 false) (.const (.int 2))) (.idx (.var 4 false) (.const (.int 1))) false)])] [.asg (.tg (.name 1)) (.mth s43 (.var 0 false) [(.var 1 false), (.var 2 false), (.var 4 false)])]]]],
    .ret (.var 1 false)]⟩
/-- slots body deed; 69: observes -/
def f69 : Fn := ⟨2, 1, [.for_ (.name 1) 0 [(.var 0 false)] [.ite (.or (.cmp .eq (.idx (.var 1 false) (.const (.int 0))) (.const (.str s40))) (.and (.cmp .eq (.idx (.var 1 false) (.const (.int 0))) (.const (.str s42))) (.call 69 [(.idx (.var 1 false) (.const (.int 2)))]))) [.ret (.const (.bool true))] [],
    .ite (.and (.cmp .eq (.idx (.var 1 false) (.const (.int 0))) (.const (.str s44))) (.or (.call 69 [(.idx (.var 1 false) (.const (.int 2)))]) (.call 69 [(.idx (.var 1 false) (.const (.int 3)))]))) [.ret (.const (.bool true))] []],
    .ret (.const (.bool false))]⟩
/-- slots program defs body answer builder env place; 70: lowered -/
def f70 : Fn := ⟨7, 1, [.asg (.tg (.tup [(.name 1), (.name 2), (.name 3)])) (.var 0 false),
    .asg (.tg (.name 4)) (.new 2 [(.var 1 false)]),
    .asg (.tg (.name 5)) (.mth s37 (.var 4 false) [(.dct [] false), (.const .none), (.var 2 false)]),
    .asg (.tg (.name 6)) (.mth s33 (.var 4 false) [(.var 5 false), (.var 3 false)]),
    .ret (.tup [(.bi .tuple [(.fld (.var 4 false) s30)] false), (.bi .tuple [(.bi .sortset [(.fld (.var 4 false) s31)] false)] false), (.var 6 false)])]⟩
/-- slots net; 71: graph_of -/
def f71 : Fn := ⟨1, 1, [.ret (.call 57 [(.call 58 [(.var 0 false)]), (.bi .listrange [(.bi .len [(.idx (.var 0 false) (.const (.int 0)))] false)] false)])]⟩
/-- slots graph place near found own other; 72: taken_out -/
def f72 : Fn := ⟨6, 2, [.asg (.tg (.tup [(.name 2), (.name 3)])) (.tup [(.idx (.var 0 false) (.var 1 false)), (.dct [] true)]),
    .for_ (.name 4) 0 [(.var 0 false)] [.ite (.cmp .isin (.var 4 false) (.var 2 false)) [.asg (.sub (.var 3 false) (.var 4 false)) (.bi .tuple [(.lc (.var 5 false) (.name 5) 0 [(.call 2 [(.bin .add (.idx (.var 0 false) (.var 4 false)) (.var 2 false) false)])] [(.cmp .notin (.var 5 false) (.tup [(.var 4 false), (.var 1 false)]))] [5] false)] false)] [.ite (.cmp .ne (.var 4 false) (.var 1 false)) [.asg (.sub (.var 3 false) (.var 4 false)) (.idx (.var 0 false) (.var 4 false))] []]],
    .ret (.var 3 true)]⟩
/-- slots graph place near one other; 73: fill_of -/
def f73 : Fn := ⟨5, 2, [.asg (.tg (.name 2)) (.idx (.var 0 false) (.var 1 false)),
    .ret (.bi .len [(.lc2 (.const (.int 1)) (.name 3) 0 [(.var 2 false)] [] (.name 4) 0 [(.var 2 false)] [(.and (.cmp .lt (.var 3 false) (.var 4 false)) (.cmp .notin (.var 4 false) (.idx (.var 0 false) (.var 3 false))))] [3, 4] [4] false)] false)]⟩
/-- slots net by_fill graph found rows own near best; 74: greedy -/
def f74 : Fn := ⟨8, 2, [.asg (.tg (.tup [(.name 2), (.name 3)])) (.tup [(.call 71 [(.var 0 false)]), (.lst [] true)]),
    .while_ (.cmp .gt (.bi .len [(.var 2 false)] false) (.const (.int 1))) [.asg (.tg (.name 4)) (.lst [] true),
    .for_ (.name 5) 0 [(.var 2 false)] [.ite (.cmp .ne (.var 5 false) (.idx (.var 0 false) (.const (.int 2)))) [.asg (.tg (.name 6)) (.bi .len [(.idx (.var 2 false) (.var 5 false))] false),
    .expr (.bm .append (.var 4 false) [(.ite (.var 1 false) (.tup [(.call 73 [(.var 2 false), (.var 5 false)]), (.var 6 false), (.var 5 false)]) (.tup [(.var 6 false), (.const (.int 0)), (.var 5 false)]))])] []],
    .asg (.tg (.name 7)) (.idx (.bi .minl [(.var 4 false)] false) (.const (.int 2))),
    .asg (.tg (.name 2)) (.call 72 [(.var 2 false), (.var 7 false)]),
    .expr (.bm .append (.var 3 false) [(.var 7 false)])],
    .ret (.bi .tuple [(.var 3 true)] false)]⟩
/-- slots net; 75: least_fill -/
def f75 : Fn := ⟨1, 1, [.ret (.call 74 [(.var 0 false), (.const (.bool true))])]⟩
/-- slots program unknown coins net; 76: answer_polys -/
def f76 : Fn := ⟨4, 3, [.asg (.tg (.name 3)) (.call 70 [(.var 0 false)]),
    .ret (.call 61 [(.var 3 false), (.call 35 [(.var 1 false), (.var 2 false)]), (.call 75 [(.var 3 false)])])]⟩
/-- slots polys found key; 77: whole_poly -/
def f77 : Fn := ⟨3, 1, [.asg (.tg (.name 1)) (.tup []),
    .for_ (.name 2) 0 [(.bi .sorted [(.var 0 false)] false)] [.asg (.tg (.name 1)) (.call 14 [(.var 1 false), (.idx (.var 0 false) (.var 2 false))])],
    .ret (.var 1 false)]⟩
/-- slots polys chance whole told key own; 78: odds_at -/
def f78 : Fn := ⟨6, 2, [.asg (.tg (.name 2)) (.call 17 [(.call 77 [(.var 0 false)]), (.var 1 false)]),
    .ite (.cmp .eq (.idx (.var 2 false) (.const (.int 0))) (.const (.int 0))) [.ret (.const .none)] [],
    .asg (.tg (.name 3)) (.lc (.tup [(.var 4 false), (.call 17 [(.idx (.var 0 false) (.var 4 false)), (.var 1 false)])]) (.name 4) 0 [(.bi .sorted [(.var 0 false)] false)] [] [4] false),
    .ret (.bi .tuple [(.lc (.tup [(.var 4 false), (.call 9 [(.var 5 false), (.var 2 false)])]) (.tup [(.name 4), (.name 5)]) 0 [(.var 3 false)] [(.cmp .ne (.idx (.var 5 false) (.const (.int 0))) (.const (.int 0)))] [4, 5] false)] false)]⟩
/-- slots polys key; 79: degree_of -/
def f79 : Fn := ⟨2, 1, [.ret (.bi .maxl [(.bin .add (.lst [(.const (.int 0))] false) (.lc (.bin .sub (.bi .len [(.idx (.var 0 false) (.var 1 false))] false) (.const (.int 1)) false) (.name 1) 0 [(.var 0 false)] [] [1] false) false)] false)]⟩
/-- slots script many draws mixed k cell rest turn; 80: _law_draws -/
def f80 : Fn := ⟨8, 2, [.asg (.tg (.name 2)) (.lst [] true),
    .asg (.tg (.name 3)) (.const (.int 7)),
    .for_ (.name 4) 1 [(.bi .len [(.var 0 false)] false)] [.asg (.tg (.name 5)) (.bi .abs [(.bi .int [(.idx (.var 0 false) (.var 4 false))] false)] false),
    .asg (.tg (.name 3)) (.bin .mod (.bi .int [(.bin .add (.bin .add (.bin .mul (.var 3 false) (.const (.int 48271)) false) (.bin .mod (.var 5 false) (.const (.int 1000003)) false) false) (.var 4 false) false)] false) (.const (.int 65537)) false),
    .asg (.tg (.name 6)) (.const (.int 0)),
    .ite (.cmp .ge (.var 5 false) (.bin .pow (.const (.int 10)) (.const (.int 18)) false)) [.asg (.tg (.name 6)) (.var 5 false)] [.expr (.bm .append (.var 2 false) [(.bin .mod (.bi .int [(.var 5 false)] false) (.const (.int 997)) false)]),
    .expr (.bm .append (.var 2 false) [(.bin .mod (.bin .mod (.bi .int [(.bin .add (.bin .mul (.var 3 false) (.const (.int 69621)) false) (.const (.int 5)) false)] false) (.const (.int 65521)) false) (.const (.int 997)) false)])],
    .for_ (.name 7) 1 [(.const (.int 60))] [.ite (.cmp .gt (.var 6 false) (.const (.int 0))) [.expr (.bm .append (.var 2 false) [(.bin .mod (.bi .int [(.var 6 false)] false) (.const (.int 997)) false)]),
    .asg (.tg (.name 6)) (.bin .fdiv (.var 6 false) (.const (.int 997)) false)] []]],
    .for_ (.name 4) 1 [(.var 1 false)] [.asg (.tg (.name 3)) (.bin .mod (.bi .int [(.bin .add (.bin .add (.bin .mul (.var 3 false) (.const (.int 16807)) false) (.var 4 false) false) (.const (.int 1)) false)] false) (.const (.int 65537)) false),
    .expr (.bm .append (.var 2 false) [(.bin .mod (.bi .int [(.var 3 false)] false) (.const (.int 997)) false)])],
    .ret (.slc (.var 2 true) .nil (.var 1 false) false)]⟩
/-- slots w many; 81: _law_next -/
def f81 : Fn := ⟨2, 2, [.augs (.var 0 false) (.const (.str s45)) .add (.const (.int 1)),
    .ite (.cmp .gt (.idx (.var 0 false) (.const (.str s45))) (.bi .len [(.idx (.var 0 false) (.const (.str s46)))] false)) [.ret (.const (.int 0))] [],
    .ret (.bin .mod (.bi .int [(.idx (.idx (.var 0 false) (.const (.str s46))) (.bin .sub (.idx (.var 0 false) (.const (.str s45))) (.const (.int 1)) false))] false) (.var 1 false) false)]⟩
/-- slots thing; 82: _law_is_number -/
def f82 : Fn := ⟨1, 1, [.ret (.and (.bi .isint [(.var 0 false)] false) (.not (.bi .isbool [(.var 0 false)] false)))]⟩
/-- slots said due; 83: _law_is_bit -/
def f83 : Fn := ⟨2, 2, [.ret (.or (.and (.var 1 false) (.cmp .is (.var 0 false) (.const (.bool true)))) (.and (.not (.var 1 false)) (.cmp .is (.var 0 false) (.const (.bool false)))))]⟩
/-- slots a b turn; 84: _law_common -/
def f84 : Fn := ⟨3, 2, [.for_ (.name 2) 1 [(.const (.int 400))] [.ite (.cmp .eq (.var 1 false) (.const (.int 0))) [.brk] [],
    .asg (.tg (.tup [(.name 0), (.name 1)])) (.tup [(.var 1 false), (.bin .mod (.var 0 false) (.var 1 false) false)])],
    .ret (.bi .abs [(.var 0 false)] false)]⟩
/-- slots a b by; 85: _law_frac -/
def f85 : Fn := ⟨3, 2, [.asg (.tg (.name 2)) (.call 84 [(.var 0 false), (.var 1 false)]),
    .ite (.cmp .lt (.var 1 false) (.const (.int 0))) [.asg (.tg (.name 2)) (.neg (.var 2 false))] [],
    .ret (.tup [(.bin .fdiv (.var 0 false) (.var 2 false) false), (.bin .fdiv (.var 1 false) (.var 2 false) false)])]⟩
/-- slots one other; 86: _law_add -/
def f86 : Fn := ⟨2, 2, [.ret (.call 85 [(.bin .add (.bin .mul (.idx (.var 0 false) (.const (.int 0))) (.idx (.var 1 false) (.const (.int 1))) false) (.bin .mul (.idx (.var 1 false) (.const (.int 0))) (.idx (.var 0 false) (.const (.int 1))) false) false), (.bin .mul (.idx (.var 0 false) (.const (.int 1))) (.idx (.var 1 false) (.const (.int 1))) false)])]⟩
/-- slots one other; 87: _law_less -/
def f87 : Fn := ⟨2, 2, [.ret (.call 85 [(.bin .sub (.bin .mul (.idx (.var 0 false) (.const (.int 0))) (.idx (.var 1 false) (.const (.int 1))) false) (.bin .mul (.idx (.var 1 false) (.const (.int 0))) (.idx (.var 0 false) (.const (.int 1))) false) false), (.bin .mul (.idx (.var 0 false) (.const (.int 1))) (.idx (.var 1 false) (.const (.int 1))) false)])]⟩
/-- slots one other; 88: _law_mul -/
def f88 : Fn := ⟨2, 2, [.ret (.call 85 [(.bin .mul (.idx (.var 0 false) (.const (.int 0))) (.idx (.var 1 false) (.const (.int 0))) false), (.bin .mul (.idx (.var 0 false) (.const (.int 1))) (.idx (.var 1 false) (.const (.int 1))) false)])]⟩
/-- slots terms turn; 89: _law_cut -/
def f89 : Fn := ⟨2, 1, [.asg (.tg (.name 0)) (.bi .list [(.var 0 false)] false),
    .for_ (.name 1) 1 [(.bi .len [(.var 0 false)] false)] [.asg (.tg (.name 0)) (.ite (.cmp .eq (.idx (.idx (.var 0 false) (.neg (.const (.int 1)))) (.const (.int 0))) (.const (.int 0))) (.slc (.var 0 false) .nil (.neg (.const (.int 1))) false) (.var 0 false)),
    .ite (.cmp .eq (.var 0 false) (.lst [] false)) [.brk] []],
    .ret (.bi .tuple [(.var 0 false)] false)]⟩
/-- slots w k; 90: _law_poly -/
def f90 : Fn := ⟨2, 1, [.ret (.call 89 [(.lc (.call 85 [(.bin .sub (.call 81 [(.var 0 false), (.const (.int 7))]) (.const (.int 3)) false), (.bin .add (.const (.int 1)) (.call 81 [(.var 0 false), (.const (.int 3))]) false)]) (.name 1) 1 [(.call 81 [(.var 0 false), (.const (.int 5))])] [] [1] false)])]⟩
/-- slots poly at found power own; 91: _law_at -/
def f91 : Fn := ⟨5, 2, [.asg (.tg (.tup [(.name 2), (.name 3)])) (.tup [(.tup [(.const (.int 0)), (.const (.int 1))]), (.tup [(.const (.int 1)), (.const (.int 1))])]),
    .for_ (.name 4) 0 [(.var 0 false)] [.asg (.tg (.tup [(.name 2), (.name 3)])) (.tup [(.call 86 [(.var 2 false), (.call 88 [(.var 4 false), (.var 3 false)])]), (.call 88 [(.var 3 false), (.var 1 false)])])],
    .ret (.var 2 false)]⟩
/-- slots one other found i j; 92: _law_product -/
def f92 : Fn := ⟨5, 2, [.asg (.tg (.name 2)) (.bin .mul (.lst [(.tup [(.const (.int 0)), (.const (.int 1))])] false) (.bin .add (.bi .len [(.var 0 false)] false) (.bi .len [(.var 1 false)] false) false) true),
    .for_ (.name 3) 1 [(.bi .len [(.var 0 false)] false)] [.for_ (.name 4) 1 [(.bi .len [(.var 1 false)] false)] [.asg (.sub (.var 2 false) (.bin .add (.var 3 false) (.var 4 false) false)) (.call 86 [(.idx (.var 2 false) (.bin .add (.var 3 false) (.var 4 false) false)), (.call 88 [(.idx (.var 0 false) (.var 3 false)), (.idx (.var 1 false) (.var 4 false))])])]],
    .ret (.call 89 [(.var 2 true)])]⟩
/-- slots poly parts k; 93: _law_text -/
def f93 : Fn := ⟨3, 1, [.asg (.tg (.name 1)) (.lst [] true),
    .for_ (.name 2) 1 [(.bi .len [(.var 0 false)] false)] [.ite (.cmp .ne (.idx (.idx (.var 0 false) (.var 2 false)) (.const (.int 0))) (.const (.int 0))) [.expr (.bm .append (.var 1 false) [(.bin .add (.bin .add (.bin .add (.bi .str [(.idx (.idx (.var 0 false) (.var 2 false)) (.const (.int 0)))] false) (.const (.str s3)) false) (.bi .str [(.idx (.idx (.var 0 false) (.var 2 false)) (.const (.int 1)))] false) false) (.ite (.cmp .eq (.var 2 false) (.const (.int 0))) (.const (.str s0)) (.ite (.cmp .eq (.var 2 false) (.const (.int 1))) (.const (.str s47)) (.bin .add (.const (.str s48)) (.bi .str [(.var 2 false)] false) false))) false)])] []],
    .ret (.ite (.cmp .ne (.var 1 false) (.lst [] false)) (.bm .join (.const (.str s4)) [(.var 1 false)]) (.const (.str s5)))]⟩
/-- slots script w turn one other at long a b both slope k power n things thing good own body answer polys chance due value part; 94: law -/
def f94 : Fn := ⟨25, 1, [.asg (.tg (.name 1)) (.dct [(.const (.str s46)), (.call 80 [(.var 0 false), (.const (.int 300))]), (.const (.str s45)), (.const (.int 0))] true),
    .for_ (.name 2) 1 [(.const (.int 6))] [.asg (.tg (.tup [(.name 3), (.name 4), (.name 5)])) (.tup [(.call 90 [(.var 1 false)]), (.call 90 [(.var 1 false)]), (.call 85 [(.bin .sub (.call 81 [(.var 1 false), (.const (.int 9))]) (.const (.int 4)) false), (.bin .add (.const (.int 1)) (.call 81 [(.var 1 false), (.const (.int 4))]) false)])]),
    .asg (.tg (.name 6)) (.bi .max2 [(.bi .len [(.var 3 false)] false), (.bi .len [(.var 4 false)] false)] false),
    .asg (.tg (.tup [(.name 7), (.name 8)])) (.tup [(.bin .add (.bi .list [(.var 3 false)] false) (.bin .mul (.lst [(.tup [(.const (.int 0)), (.const (.int 1))])] false) (.bin .sub (.var 6 false) (.bi .len [(.var 3 false)] false) false) false) false), (.bin .add (.bi .list [(.var 4 false)] false) (.bin .mul (.lst [(.tup [(.const (.int 0)), (.const (.int 1))])] false) (.bin .sub (.var 6 false) (.bi .len [(.var 4 false)] false) false) false) false)]),
    .ite (.or (.cmp .ne (.call 14 [(.var 3 false), (.var 4 false)]) (.call 89 [(.lc (.call 86 [(.idx (.var 7 false) (.var 11 false)), (.idx (.var 8 false) (.var 11 false))]) (.name 11) 1 [(.var 6 false)] [] [11] false)])) (.cmp .ne (.call 15 [(.var 3 false), (.var 4 false)]) (.call 89 [(.lc (.call 87 [(.idx (.var 7 false) (.var 11 false)), (.idx (.var 8 false) (.var 11 false))]) (.name 11) 1 [(.var 6 false)] [] [11] false)]))) [.ret (.const (.bool false))] [],
    .asg (.tg (.name 9)) (.call 92 [(.var 3 false), (.var 4 false)]),
    .ite (.or (.cmp .ne (.call 16 [(.var 3 false), (.var 4 false)]) (.var 9 false)) (.or (.cmp .ne (.call 17 [(.var 3 false), (.var 5 false)]) (.call 91 [(.var 3 false), (.var 5 false)])) (.cmp .ne (.call 17 [(.var 9 false), (.var 5 false)]) (.call 88 [(.call 91 [(.var 3 false), (.var 5 false)]), (.call 91 [(.var 4 false), (.var 5 false)])])))) [.ret (.const (.bool false))] [],
    .asg (.tg (.name 10)) (.call 89 [(.lc (.call 88 [(.idx (.var 3 false) (.var 11 false)), (.tup [(.var 11 false), (.const (.int 1))])]) (.name 11) 2 [(.const (.int 1)), (.bi .len [(.var 3 false)] false)] [] [11] false)]),
    .ite (.or (.cmp .ne (.call 18 [(.var 3 false)]) (.var 10 false)) (.cmp .ne (.call 18 [(.var 9 false)]) (.call 14 [(.call 16 [(.call 18 [(.var 3 false)]), (.var 4 false)]), (.call 16 [(.var 3 false), (.call 18 [(.var 4 false)])])]))) [.ret (.const (.bool false))] [],
    .asg (.tg (.tup [(.name 11), (.name 12)])) (.tup [(.call 81 [(.var 1 false), (.const (.int 4))]), (.tup [(.tup [(.const (.int 1)), (.const (.int 1))])])]),
    .for_ (.name 13) 1 [(.var 11 false)] [.asg (.tg (.name 12)) (.call 92 [(.var 12 false), (.var 3 false)])],
    .ite (.or (.cmp .ne (.call 20 [(.var 3 false), (.var 11 false)]) (.var 12 false)) (.cmp .ne (.call 19 [(.var 3 false), (.const (.str s49))]) (.call 93 [(.var 3 false)]))) [.ret (.const (.bool false))] [],
    .asg (.tg (.name 14)) (.lst [(.var 3 false), (.bi .list [(.var 3 false)] false), (.const .none), (.tup []), (.bin .add (.var 3 false) (.tup [(.tup [(.const (.int 0)), (.const (.int 1))])]) false), (.bin .add (.var 3 false) (.tup [(.tup [(.const (.int 1)), (.const (.int 2))])]) false), (.bin .add (.var 3 false) (.tup [(.tup [(.const (.int 2)), (.const (.int 4))])]) false), (.bin .add (.var 3 false) (.tup [(.const (.int 3))]) false), (.bin .add (.var 3 false) (.tup [(.tup [(.const (.int 1)), (.const (.int 0))])]) false), (.bin .add (.var 3 false) (.tup [(.const .none)]) false), (.bin .add (.var 3 false) (.tup [(.tup [(.const (.bool true)), (.const (.int 2))])]) false)] false),
    .for_ (.name 15) 0 [(.var 14 false)] [.asg (.tg (.name 16)) (.bi .istuple [(.var 15 false)] false),
    .for_ (.name 17) 0 [(.ite (.var 16 false) (.var 15 false) (.tup []))] [.ite (.or (.not (.bi .istuple [(.var 17 false)] false)) (.or (.cmp .ne (.bi .len [(.var 17 false)] false) (.const (.int 2))) (.or (.cmp .ne (.lc (.var 13 false) (.name 13) 0 [(.var 17 false)] [(.not (.call 82 [(.var 13 false)]))] [13] false) (.lst [] false)) (.or (.cmp .lt (.idx (.var 17 false) (.const (.int 1))) (.const (.int 1))) (.cmp .ne (.call 84 [(.idx (.var 17 false) (.const (.int 0))), (.idx (.var 17 false) (.const (.int 1)))]) (.const (.int 1))))))) [.asg (.tg (.name 16)) (.const (.bool false))] []],
    .ite (.not (.call 83 [(.call 12 [(.var 15 false)]), (.and (.var 16 false) (.or (.cmp .eq (.var 15 false) (.tup [])) (.cmp .ne (.idx (.idx (.var 15 false) (.neg (.const (.int 1)))) (.const (.int 0))) (.const (.int 0)))))])) [.ret (.const (.bool false))] []],
    .asg (.tg (.tup [(.name 18), (.name 19)])) (.tup [(.tup []), (.tup [(.const (.str s27)), (.const (.int 1))])]),
    .for_ (.name 13) 1 [(.var 11 false)] [.asg (.tg (.tup [(.name 18), (.name 19)])) (.tup [(.bin .add (.var 18 false) (.tup [(.tup [(.const (.str s39)), (.idx (.const (.str s50)) (.var 13 false)), (.tup [(.const (.str s20)), (.const (.str s51))])])]) false), (.tup [(.const (.str s23)), (.const (.str s13)), (.var 19 false), (.tup [(.const (.str s32)), (.idx (.const (.str s50)) (.var 13 false))])])])],
    .asg (.tg (.name 20)) (.call 76 [(.tup [(.dct [] false), (.var 18 false), (.var 19 false)]), (.const (.str s51)), (.dct [] false)]),
    .ite (.or (.cmp .ne (.bm .get2 (.var 20 false) [(.const (.int 1)), (.tup [])]) (.call 20 [(.tup [(.tup [(.const (.int 0)), (.const (.int 1))]), (.tup [(.const (.int 1)), (.const (.int 1))])]), (.var 11 false)])) (.or (.cmp .ne (.call 77 [(.var 20 false)]) (.tup [(.tup [(.const (.int 1)), (.const (.int 1))])])) (.cmp .ne (.call 79 [(.var 20 false)]) (.var 11 false)))) [.ret (.const (.bool false))] [],
    .asg (.tg (.name 21)) (.call 85 [(.call 81 [(.var 1 false), (.const (.int 4))]), (.const (.int 3))]),
    .asg (.tg (.name 17)) (.call 91 [(.idx (.var 20 false) (.const (.int 1))), (.var 21 false)]),
    .asg (.tg (.name 22)) (.lc (.tup [(.var 23 false), (.var 24 false)]) (.tup [(.name 23), (.name 24)]) 0 [(.tup [(.tup [(.const (.int 0)), (.call 87 [(.tup [(.const (.int 1)), (.const (.int 1))]), (.var 17 false)])]), (.tup [(.const (.int 1)), (.var 17 false)])])] [(.cmp .ne (.idx (.var 24 false) (.const (.int 0))) (.const (.int 0)))] [23, 24] false),
    .ite (.cmp .ne (.call 78 [(.var 20 false), (.var 21 false)]) (.bi .tuple [(.var 22 false)] false)) [.ret (.const (.bool false))] []],
    .ret (.const (.bool true))]⟩
def fns : List Fn := [f0, f1, f2, f3, f4, f5, f6, f7, f8, f9, f10, f11, f12, f13, f14, f15, f16, f17, f18, f19, f20, f21, f22, f23, f24, f25, f26, f27, f28, f29, f30, f31, f32, f33, f34, f35, f36, f37, f38, f39, f40, f41, f42, f43, f44, f45, f46, f47, f48, f49, f50, f51, f52, f53, f54, f55, f56, f57, f58, f59, f60, f61, f62, f63, f64, f65, f66, f67, f68, f69, f70, f71, f72, f73, f74, f75, f76, f77, f78, f79, f80, f81, f82, f83, f84, f85, f86, f87, f88, f89, f90, f91, f92, f93, f94]
def cls : List Cl := [⟨s52, [(s18, 22), (s17, 23), (s19, 24), (s28, 25), (s16, 26), (s22, 27)], none⟩, ⟨s53, [(s18, 29), (s17, 30), (s19, 31), (s28, 32), (s16, 33), (s22, 34)], some 28⟩, ⟨s54, [(s34, 63), (s33, 64), (s41, 65), (s38, 66), (s43, 67), (s37, 68)], some 62⟩]
def consts : List D := [.tup [.str s55, .str s20, .str s21, .str s26]]
def Γ : Pg := ⟨fns, cls, consts⟩
end Gk32
end

section
set_option Elab.async false
set_option linter.all false
set_option maxRecDepth 100000
set_option maxHeartbeats 0
namespace EGk32
open PySem PySem.Spec PyProof.Rows L2 DL
def top (i : Nat) : Stmt := PySem.Challenge.pw_oddsagree_k32_whole_polynomials.main.body.getD i (.Pass ⟨0, 0, 0, 0⟩)
def inC (i j : Nat) : Stmt := (C8.clsBody (top i)).getD j (.Pass ⟨0, 0, 0, 0⟩)
def dfn (x : Str) (i : Nat) : He.DefD := ⟨(x, none), x, x, defArgs (top i), defBody (top i), defScope (top i), [], []⟩
def dfm (c m y : Str) (i j : Nat) : He.DefD := ⟨(c, some m), m, y, defArgs (inC i j), defBody (inC i j), defScope (inC i j), [], []⟩
def fn : List He.DefD := [dfn ("is_number" : Str) 1, dfn ("is_tuple_of" : Str) 2, dfn ("set_of" : Str) 3, dfn ("without" : Str) 4, dfn ("common" : Str) 5, dfn ("fraction" : Str) 6, dfn ("plus" : Str) 7, dfn ("minus" : Str) 8, dfn ("times" : Str) 9, dfn ("parted" : Str) 10, dfn ("is_fraction" : Str) 11, dfn ("trimmed" : Str) 13, dfn ("is_poly" : Str) 14, dfn ("poly_at" : Str) 15, dfn ("poly_plus" : Str) 16, dfn ("poly_minus" : Str) 17, dfn ("poly_times" : Str) 18, dfn ("poly_value" : Str) 19, dfn ("poly_slope" : Str) 20, dfn ("poly_text" : Str) 21, dfn ("poly_power" : Str) 22, dfn ("worked" : Str) 24, dfm ("OddsScale" : Str) ("nothing" : Str) ("OddsScale.nothing" : Str) 29 0, dfm ("OddsScale" : Str) ("whole" : Str) ("OddsScale.whole" : Str) 29 1, dfm ("OddsScale" : Str) ("added" : Str) ("OddsScale.added" : Str) 29 2, dfm ("OddsScale" : Str) ("joined" : Str) ("OddsScale.joined" : Str) 29 3, dfm ("OddsScale" : Str) ("of_chance" : Str) ("OddsScale.of_chance" : Str) 29 4, dfm ("OddsScale" : Str) ("of_coin" : Str) ("OddsScale.of_coin" : Str) 29 5, dfm ("PolyScale" : Str) ("__init__" : Str) ("PolyScale.__init__" : Str) 30 0, dfm ("PolyScale" : Str) ("nothing" : Str) ("PolyScale.nothing" : Str) 30 1, dfm ("PolyScale" : Str) ("whole" : Str) ("PolyScale.whole" : Str) 30 2, dfm ("PolyScale" : Str) ("added" : Str) ("PolyScale.added" : Str) 30 3, dfm ("PolyScale" : Str) ("joined" : Str) ("PolyScale.joined" : Str) 30 4, dfm ("PolyScale" : Str) ("of_chance" : Str) ("PolyScale.of_chance" : Str) 30 5, dfm ("PolyScale" : Str) ("of_coin" : Str) ("PolyScale.of_coin" : Str) 30 6, dfn ("unknown_scale" : Str) 31, dfn ("put_more" : Str) 32, dfn ("values_of" : Str) 34, dfn ("chance_of" : Str) 35, dfn ("weight_of" : Str) 36, dfn ("inputs_of" : Str) 39, dfn ("node_value" : Str) 40, dfn ("rows_of" : Str) 41, dfn ("node_values" : Str) 42, dfn ("node_weight" : Str) 43, dfn ("node_domain" : Str) 44, dfn ("domains_of" : Str) 45, dfn ("rows_over" : Str) 46, dfn ("picked" : Str) 48, dfn ("joined_tables" : Str) 49, dfn ("join_all" : Str) 50, dfn ("summed_out" : Str) 51, dfn ("sure_table" : Str) 52, dfn ("answers_of" : Str) 53, dfn ("node_table" : Str) 55, dfn ("kept_table" : Str) 56, dfn ("tables_of" : Str) 57, dfn ("neighbours_of" : Str) 58, dfn ("scopes_of" : Str) 59, dfn ("step" : Str) 61, dfn ("all_steps" : Str) 62, dfn ("eliminated" : Str) 63, dfm ("Builder" : Str) ("__init__" : Str) ("Builder.__init__" : Str) 65 0, dfm ("Builder" : Str) ("put" : Str) ("Builder.put" : Str) 65 1, dfm ("Builder" : Str) ("put_expr" : Str) ("Builder.put_expr" : Str) 65 2, dfm ("Builder" : Str) ("put_kept" : Str) ("Builder.put_kept" : Str) 65 3, dfm ("Builder" : Str) ("guarded" : Str) ("Builder.guarded" : Str) 65 4, dfm ("Builder" : Str) ("put_when" : Str) ("Builder.put_when" : Str) 65 5, dfm ("Builder" : Str) ("put_body" : Str) ("Builder.put_body" : Str) 65 6, dfn ("observes" : Str) 66, dfn ("lowered" : Str) 67, dfn ("graph_of" : Str) 69, dfn ("taken_out" : Str) 70, dfn ("fill_of" : Str) 71, dfn ("greedy" : Str) 72, dfn ("least_fill" : Str) 73, dfn ("answer_polys" : Str) 75, dfn ("whole_poly" : Str) 76, dfn ("odds_at" : Str) 77, dfn ("degree_of" : Str) 78, dfn ("_law_draws" : Str) 80, dfn ("_law_next" : Str) 81, dfn ("_law_is_number" : Str) 82, dfn ("_law_is_bit" : Str) 83, dfn ("_law_common" : Str) 84, dfn ("_law_frac" : Str) 85, dfn ("_law_add" : Str) 86, dfn ("_law_less" : Str) 87, dfn ("_law_mul" : Str) 88, dfn ("_law_cut" : Str) 89, dfn ("_law_poly" : Str) 90, dfn ("_law_at" : Str) 91, dfn ("_law_product" : Str) 92, dfn ("_law_text" : Str) 93, dfn ("law" : Str) 94]
def T : Tab := ⟨[(("is_number" : Str), 0), (("is_tuple_of" : Str), 1), (("set_of" : Str), 2), (("without" : Str), 3), (("common" : Str), 4), (("fraction" : Str), 5), (("plus" : Str), 6), (("minus" : Str), 7), (("times" : Str), 8), (("parted" : Str), 9), (("is_fraction" : Str), 10), (("trimmed" : Str), 11), (("is_poly" : Str), 12), (("poly_at" : Str), 13), (("poly_plus" : Str), 14), (("poly_minus" : Str), 15), (("poly_times" : Str), 16), (("poly_value" : Str), 17), (("poly_slope" : Str), 18), (("poly_text" : Str), 19), (("poly_power" : Str), 20), (("worked" : Str), 21), (("unknown_scale" : Str), 35), (("put_more" : Str), 36), (("values_of" : Str), 37), (("chance_of" : Str), 38), (("weight_of" : Str), 39), (("inputs_of" : Str), 40), (("node_value" : Str), 41), (("rows_of" : Str), 42), (("node_values" : Str), 43), (("node_weight" : Str), 44), (("node_domain" : Str), 45), (("domains_of" : Str), 46), (("rows_over" : Str), 47), (("picked" : Str), 48), (("joined_tables" : Str), 49), (("join_all" : Str), 50), (("summed_out" : Str), 51), (("sure_table" : Str), 52), (("answers_of" : Str), 53), (("node_table" : Str), 54), (("kept_table" : Str), 55), (("tables_of" : Str), 56), (("neighbours_of" : Str), 57), (("scopes_of" : Str), 58), (("step" : Str), 59), (("all_steps" : Str), 60), (("eliminated" : Str), 61), (("observes" : Str), 69), (("lowered" : Str), 70), (("graph_of" : Str), 71), (("taken_out" : Str), 72), (("fill_of" : Str), 73), (("greedy" : Str), 74), (("least_fill" : Str), 75), (("answer_polys" : Str), 76), (("whole_poly" : Str), 77), (("odds_at" : Str), 78), (("degree_of" : Str), 79), (("_law_draws" : Str), 80), (("_law_next" : Str), 81), (("_law_is_number" : Str), 82), (("_law_is_bit" : Str), 83), (("_law_common" : Str), 84), (("_law_frac" : Str), 85), (("_law_add" : Str), 86), (("_law_less" : Str), 87), (("_law_mul" : Str), 88), (("_law_cut" : Str), 89), (("_law_poly" : Str), 90), (("_law_at" : Str), 91), (("_law_product" : Str), 92), (("_law_text" : Str), 93), (("law" : Str), 94)], [(("OddsScale" : Str), 0), (("PolyScale" : Str), 1), (("Builder" : Str), 2)], [(("DRAWN" : Str), 0)], [("coins" : Str), ("defs" : Str), ("kept" : Str), ("nodes" : Str), ("unknown" : Str), ("word" : Str)]⟩
def names : List PySem.Str := [("is_number" : Str), ("is_tuple_of" : Str), ("set_of" : Str), ("without" : Str), ("common" : Str), ("fraction" : Str), ("plus" : Str), ("minus" : Str), ("times" : Str), ("parted" : Str), ("is_fraction" : Str), ("trimmed" : Str), ("is_poly" : Str), ("poly_at" : Str), ("poly_plus" : Str), ("poly_minus" : Str), ("poly_times" : Str), ("poly_value" : Str), ("poly_slope" : Str), ("poly_text" : Str), ("poly_power" : Str), ("worked" : Str), ("unknown_scale" : Str), ("put_more" : Str), ("values_of" : Str), ("chance_of" : Str), ("weight_of" : Str), ("inputs_of" : Str), ("node_value" : Str), ("rows_of" : Str), ("node_values" : Str), ("node_weight" : Str), ("node_domain" : Str), ("domains_of" : Str), ("rows_over" : Str), ("picked" : Str), ("joined_tables" : Str), ("join_all" : Str), ("summed_out" : Str), ("sure_table" : Str), ("answers_of" : Str), ("node_table" : Str), ("kept_table" : Str), ("tables_of" : Str), ("neighbours_of" : Str), ("scopes_of" : Str), ("step" : Str), ("all_steps" : Str), ("eliminated" : Str), ("observes" : Str), ("lowered" : Str), ("graph_of" : Str), ("taken_out" : Str), ("fill_of" : Str), ("greedy" : Str), ("least_fill" : Str), ("answer_polys" : Str), ("whole_poly" : Str), ("odds_at" : Str), ("degree_of" : Str), ("_law_draws" : Str), ("_law_next" : Str), ("_law_is_number" : Str), ("_law_is_bit" : Str), ("_law_common" : Str), ("_law_frac" : Str), ("_law_add" : Str), ("_law_less" : Str), ("_law_mul" : Str), ("_law_cut" : Str), ("_law_poly" : Str), ("_law_at" : Str), ("_law_product" : Str), ("_law_text" : Str), ("OddsError" : Str), ("Unfit" : Str), ("OddsScale" : Str), ("PolyScale" : Str), ("Builder" : Str), ("DRAWN" : Str)]
abbrev R : PySem.W.OpenRow := PySem.W.OpenLaw.row PySem.Challenge.rw_oddsagree_k32_whole_polynomials
abbrev hk : PySem.W.Hook := hookX 4 fn (tokB T Gk32.Γ fn)
def ob (s : PySem.W.SharedT) : Bool × He.AlD := obXG 4 fn (tokB T Gk32.Γ fn) (HandSHeadRun.getT s)
theorem ob_eq (s : PySem.W.SharedT) : ob s = hk.obs s.abs := obXG_eq (HandSHeadRun.getT_eq s)
theorem run (w : World) : HandSHeadRun.RunEq R (PySem.W.view R.prog [94]) hk ob 20000 names w := by
  intro os
  kernel_rfl
end EGk32
end

section
set_option Elab.async false
set_option linter.all false
set_option maxRecDepth 100000
set_option maxHeartbeats 4000000
namespace DL
open PySem
theorem run_tree {Γ : Pg} {W n f : Nat} {fd : Fn} {xs : List D} {s s1 : Sto} {d : D} (hf : Γ.fns[f]? = some fd) (hc : D.clos xs = true) (h : callD Γ (run Γ W n) W fd xs [] = some (d, s1)) (hd : d.clo = true) : run Γ W (n + 1) f xs s = some (d, s) := by
  show (match Γ.fns[f]? with
    | some fd => iso (callD Γ (run Γ W n) W fd) xs s
    | Option.none => Option.none) = _
  rw [hf]
  show iso _ xs s = _
  unfold iso
  rw [if_pos hc, h]
  show (if d.clo = true then _ else _) = _
  rw [if_pos hd]
end DL
namespace Pk32
open PySem DL Gk32
abbrev W : Nat := 100000
/-- the def f at these trees gives that tree -/
abbrev C (m f : Nat) (xs : List D) (d : D) : Prop := ∀ s, run Γ W m f xs s = some (d, s)
theorem mk {m f : Nat} {fd : Fn} {xs : List D} {d : D} (k : Nat) (hm : k + 1 ≤ m) (hf : Γ.fns[f]? = some fd) (hl : xs.length = fd.pars) (hc : D.clos xs = true) (hd : d.clo = true) (h : ∀ n, k ≤ n → ∃ ρ s1, exB Γ (run Γ W n) W fd.body (startD fd.slots xs) [] = some (.ret d, ρ, s1)) : C m f xs d := fun s => by
  cases m with
  | zero => omega
  | succ n =>
    obtain ⟨ρ, s1, h⟩ := h n (by omega)
    refine run_tree (s1 := s1) hf hc ?_ hd
    unfold callD
    rw [if_pos hl, h]
/-! ### Euclid -/
def fibp : Nat → Nat × Nat
  | 0 => (0, 1)
  | n + 1 => ((fibp n).2, (fibp n).1 + (fibp n).2)
def fib (n : Nat) : Nat := (fibp n).1
theorem fib_rec (n : Nat) : fib (n + 2) = fib n + fib (n + 1) := rfl
def eu : Nat → Int → Int → Prop
  | 0, _, b => b = 0
  | n + 1, a, b => b = 0 ∨ eu n b (a.fmod b)
theorem fmod_nn {a b : Int} (h : 0 < b) : 0 ≤ a.fmod b ∧ a.fmod b < b := ⟨Int.fmod_nonneg_of_pos a h, Int.fmod_lt_of_pos a h⟩
theorem lame : ∀ (n : Nat) (a b : Int), 0 ≤ b → b ≤ a → (b < (fib n : Int) ∨ a < (fib (n + 1) : Int)) → eu n a b
  | 0, a, b, h0, h1, h => by
    show b = 0
    rcases h with h | h
    · have : (fib 0 : Int) = 0 := rfl
      omega
    · have : (fib (0 + 1) : Int) = 1 := rfl
      omega
  | n + 1, a, b, h0, h1, h => by
    by_cases hb : b = 0
    · exact .inl hb
    · obtain ⟨r0, r1⟩ := fmod_nn (a := a) (b := b) (by omega)
      refine .inr (lame n b _ r0 (by omega) ?_)
      by_cases hb2 : b < (fib (n + 1) : Int)
      · exact .inr hb2
      · rcases h with h | h
        · exact absurd h hb2
        · have e : fib (n + 1 + 1) = fib n + fib (n + 1) := fib_rec n
          have : a.fmod b ≤ a - b := by
            rw [Int.fmod_eq_emod_of_nonneg _ h0]
            have e2 := Int.mul_ediv_add_emod a b
            have : 1 ≤ a / b := by
              rw [Int.le_ediv_iff_mul_le (by omega)]
              omega
            have : b * 1 ≤ b * (a / b) := Int.mul_le_mul_of_nonneg_left this h0
            omega
          exact .inl (by omega)
theorem eu_of {n : Nat} {a b : Int} (h0 : 0 ≤ b) (h : b < (fib (n + 1) : Int)) : eu (n + 1) a b := by
  by_cases hb : b = 0
  · exact .inl hb
  · obtain ⟨r0, r1⟩ := fmod_nn (a := a) (b := b) (by omega)
    exact .inr (lame n b _ r0 (by omega) (.inr h))
theorem fib_big : 2 ^ 250 < fib 399 := by decide +kernel
theorem eu_small {a b : Int} (h0 : 0 ≤ b) (h : b < 2 ^ 250) : eu 399 a b := eu_of (n := 398) h0 (by
  have := fib_big
  have e : ((2 ^ 250 : Nat) : Int) = 2 ^ 250 := by norm_cast
  show b < (fib 399 : Int)
  omega)
theorem gcd_fmod {a b : Int} : Int.gcd b (a.fmod b) = Int.gcd a b := by
  rw [Int.fmod_def]
  simp [Int.gcd_comm]
/-! ### steps -/
section
variable {t : Rho → Sto → Res D} {f : Rho → Sto → ResS} {ρ ρ' : Rho} {s s' s1 : Sto} {n : Nat}
theorem wh_next (h1 : t ρ s = some (.bool true, s1)) (h2 : f ρ s1 = some (.next, ρ', s')) : whGo t f (n + 1) ρ s = whGo t f n ρ' s' := by
  show (match t ρ s with
    | some (.bool true, s1) => match f ρ s1 with
      | some (.next, ρ', s') => whGo t f n ρ' s'
      | some (.cont, ρ', s') => whGo t f n ρ' s'
      | some (.brk, ρ', s') => some (.next, ρ', s')
      | some (.ret d, ρ', s') => some (.ret d, ρ', s')
      | Option.none => Option.none
    | some (.bool false, s1) => some (.next, ρ, s1)
    | _ => Option.none) = _
  rw [h1]
  dsimp only
  rw [h2]
theorem wh_done (h1 : t ρ s = some (.bool false, s1)) : whGo t f (n + 1) ρ s = some (.next, ρ, s1) := by
  show (match t ρ s with
    | some (.bool true, s1) => match f ρ s1 with
      | some (.next, ρ', s') => whGo t f n ρ' s'
      | some (.cont, ρ', s') => whGo t f n ρ' s'
      | some (.brk, ρ', s') => some (.next, ρ', s')
      | some (.ret d, ρ', s') => some (.ret d, ρ', s')
      | Option.none => Option.none
    | some (.bool false, s1) => some (.next, ρ, s1)
    | _ => Option.none) = _
  rw [h1]
end
/-- a for's turn -/
def lpB (F : DL.Fun) (tg : Tg) (body : List S) : D → Rho → Sto → ResS := fun x ρ' s' => match tgD tg x ρ' with
  | some ρ2 => exB Γ F W body ρ2 s'
  | Option.none => Option.none
theorem lpB_name {F : DL.Fun} {i : Nat} {body : List S} {x : D} {ρ : Rho} {s : Sto} (h : i < ρ.length) : lpB F (.name i) body x ρ s = exB Γ F W body (ρ.set i (some x)) s := by
  unfold lpB tgD
  rw [if_pos h]
section
variable {f : D → Rho → Sto → ResS} {x : D} {xs : List D} {ρ ρ' : Rho} {s s' : Sto} {d : D}
theorem fg_nil : forGo f [] ρ s = some (.next, ρ, s) := rfl
theorem fg_next (h : f x ρ s = some (.next, ρ', s')) : forGo f (x :: xs) ρ s = forGo f xs ρ' s' := by
  rw [forGo, h]
theorem fg_brk (h : f x ρ s = some (.brk, ρ', s')) : forGo f (x :: xs) ρ s = some (.next, ρ', s') := by
  rw [forGo, h]
theorem fg_ret (h : f x ρ s = some (.ret d, ρ', s')) : forGo f (x :: xs) ρ s = some (.ret d, ρ', s') := by
  rw [forGo, h]
end
theorem ex_brk {F : DL.Fun} {c : S} {r : List S} {ρ ρ' : Rho} {s s' : Sto} (h : exS Γ F W c ρ s = some (.brk, ρ', s')) : exB Γ F W (c :: r) ρ s = some (.brk, ρ', s') := by
  rw [exB, h]
theorem ex_nil {F : DL.Fun} {ρ : Rho} {s : Sto} : exB Γ F W [] ρ s = some (.next, ρ, s) := by
  rw [exB]
theorem ex_next {F : DL.Fun} {c : S} {r : List S} {ρ ρ' : Rho} {s s' : Sto} (h : exS Γ F W c ρ s = some (.next, ρ', s')) : exB Γ F W (c :: r) ρ s = exB Γ F W r ρ' s' := by
  rw [exB, h]
theorem ex_ret {F : DL.Fun} {c : S} {r : List S} {ρ ρ' : Rho} {s s' : Sto} {d : D} (h : exS Γ F W c ρ s = some (.ret d, ρ', s')) : exB Γ F W (c :: r) ρ s = some (.ret d, ρ', s') := by
  rw [exB, h]
section
variable {s : Sto} {a b : Int} {c : Bool}
theorem ne_int : gCmp .ne (.int a) (.int b) s = some (.bool (!decide (a = b)), s) := by
  simp [gCmp, cmpD, eqTop, eqPy, top, D.py, PyData.depth, PyData.eqv]
  by_cases h : a = b <;> simp [h]
theorem eq_int : gCmp .eq (.int a) (.int b) s = some (.bool (decide (a = b)), s) := by
  simp [gCmp, cmpD, eqTop, eqPy, top, D.py, PyData.depth, PyData.eqv]
  by_cases h : a = b <;> simp [h]
theorem lt_int : gCmp .lt (.int a) (.int b) s = some (.bool (decide (a < b)), s) := rfl
theorem gt_int : gCmp .gt (.int a) (.int b) s = some (.bool (decide (b < a)), s) := rfl
theorem ge_int : gCmp .ge (.int a) (.int b) s = some (.bool (decide (b ≤ a)), s) := rfl
theorem le_int : gCmp .le (.int a) (.int b) s = some (.bool (decide (a ≤ b)), s) := rfl
theorem add_int : gBin .add c (.int a) (.int b) s = some (.int (a + b), s) := by cases c <;> rfl
theorem sub_int : gBin .sub c (.int a) (.int b) s = some (.int (a - b), s) := by cases c <;> rfl
theorem mul_int (ha : wideOk a = true) (hb : wideOk b = true) : gBin .mul c (.int a) (.int b) s = some (.int (a * b), s) := by
  simp [gBin, top, binD, ha, hb, laid]
theorem mod_int (h : b ≠ 0) : gBin .mod c (.int a) (.int b) s = some (.int (a.fmod b), s) := by
  simp [gBin, top, binD, h, laid]
theorem fdiv_int (h : b ≠ 0) (h2 : b.natAbs.log2 < 9000) : gBin .fdiv c (.int a) (.int b) s = some (.int (a.fdiv b), s) := by
  simp [gBin, top, binD, h, h2, laid]
theorem abs_int : gBi .abs c [.int a] s = some (.int (if a < 0 then -a else a), s) := by
  simp [gBi, biD, laid]
theorem int_int : gBi .int c [.int a] s = some (.int a, s) := by
  simp [gBi, biD, laid]
theorem idx0 {x : D} {xs : List D} : gIdx (.tup (x :: xs)) (.int 0) s = some (x, s) := by
  simp [gIdx, idxD, top, ixOf]
theorem idx1 {x y : D} {xs : List D} : gIdx (.tup (x :: y :: xs)) (.int 1) s = some (y, s) := by
  have e : ixOf (x :: y :: xs).length 1 = some 1 := by
    unfold ixOf
    rw [if_pos (by decide), if_pos (by simp only [List.length_cons]; omega)]
    rfl
  show ((ixOf (x :: y :: xs).length 1).bind fun j => (x :: y :: xs)[j]?).map _ = _
  rw [e]
  rfl
theorem tup1 {x : D} : gTup [x] s = some (.tup [x], s) := rfl
theorem tup2 {x y : D} : gTup [x, y] s = some (.tup [x, y], s) := rfl
theorem tup3 {x y z : D} : gTup [x, y, z] s = some (.tup [x, y, z], s) := rfl
theorem var0 {d : D} {ρ : Rho} : varE 0 false (some d :: ρ) s = some (d, s) := rfl
theorem varS {o : Option D} {ρ : Rho} {i : Nat} {fz : Bool} : varE (i + 1) fz (o :: ρ) s = varE i fz ρ s := rfl
end
/-! ### common, _law_common -/
theorem wh4 {F : DL.Fun} : ∀ (n m : Nat) (a b : Int) (s : Sto), 0 ≤ b → eu n a b → n < m → ∃ g : Int, g.natAbs = Int.gcd a b ∧
    whGo (fun ρ' s' => evE Γ F (.cmp .ne (.var 1 false) (.const (.int 0))) ρ' s') (fun ρ' s' => exB Γ F W [.asg (.tg (.tup [(.name 0), (.name 1)])) (.tup [(.var 1 false), (.bin .mod (.var 0 false) (.var 1 false) false)])] ρ' s') m [some (.int a), some (.int b)] s = some (.next, [some (.int g), some (.int 0)], s)
  | n, m + 1, a, b, s, h0, he, hm => by
    by_cases hb : b = 0
    · subst hb
      exact ⟨a, by simp, wh_done (by simp only [evE, evL, evC, bnd, bndS, var0, varS, exS, exB, asD, tgD, tgsD, ne_int, eq_int, lt_int, gt_int, ge_int, le_int, add_int, sub_int, abs_int, int_int, idx0, idx1, tup1, tup2, tup3, Option.map_some]; simp)⟩
    · cases n with
      | zero => exact absurd he hb
      | succ n =>
        rcases he with he | he
        · exact absurd he hb
        · obtain ⟨r0, r1⟩ := fmod_nn (a := a) (b := b) (by omega)
          obtain ⟨g, e1, e2⟩ := wh4 (F := F) n m b (a.fmod b) s r0 he (by omega)
          refine ⟨g, e1.trans gcd_fmod, ?_⟩
          rw [← e2]
          exact wh_next (by simp only [evE, evL, evC, bnd, bndS, var0, varS, exS, exB, asD, tgD, tgsD, ne_int, eq_int, lt_int, gt_int, ge_int, le_int, add_int, sub_int, abs_int, int_int, idx0, idx1, tup1, tup2, tup3, Option.map_some]; simp [hb]; rfl) (by simp only [evE, evL, evC, bnd, bndS, var0, varS, exS, exB, asD, tgD, tgsD, ne_int, eq_int, lt_int, gt_int, ge_int, le_int, add_int, sub_int, abs_int, int_int, idx0, idx1, tup1, tup2, tup3, Option.map_some, mod_int hb]; rfl)
theorem l4 {m : Nat} (hm : 1 ≤ m) {a b : Int} (h0 : 0 ≤ b) (h : b < 2 ^ 250) : C m 4 [.int a, .int b] (.int (Int.gcd a b)) := mk 0 hm rfl rfl rfl rfl fun n _ => by
  obtain ⟨g, e1, e2⟩ := wh4 (F := run Γ W n) 399 W a b [] h0 (eu_small h0 h) (by decide)
  have e3 : (if g < 0 then -g else g) = (Int.gcd a b : Int) := by
    split <;> omega
  refine ⟨[some (.int g), some (.int 0)], [], (ex_next (ρ' := [some (.int g), some (.int 0)]) (s' := []) ((Eq.trans (by rw [exS]) e2 : exS Γ (run Γ W n) W (.while_ (.cmp .ne (.var 1 false) (.const (.int 0))) [.asg (.tg (.tup [(.name 0), (.name 1)])) (.tup [(.var 1 false), (.bin .mod (.var 0 false) (.var 1 false) false)])]) [some (.int a), some (.int b)] [] = _))).trans (ex_ret ?_)⟩
  simp only [evE, evL, evC, bnd, bndS, var0, varS, exS, exB, asD, tgD, tgsD, ne_int, eq_int, lt_int, gt_int, ge_int, le_int, add_int, sub_int, abs_int, int_int, idx0, idx1, tup1, tup2, tup3, Option.map_some, abs_int, e3]
def b84 : List S := [.ite (.cmp .eq (.var 1 false) (.const (.int 0))) [.brk] [],
    .asg (.tg (.tup [(.name 0), (.name 1)])) (.tup [(.var 1 false), (.bin .mod (.var 0 false) (.var 1 false) false)])]
theorem for84 {F : DL.Fun} : ∀ (n : Nat) (its : List D) (a b : Int) (t : Option D) (s : Sto), 0 ≤ b → eu n a b → n < its.length → ∃ (g : Int) (t' : Option D), g.natAbs = Int.gcd a b ∧
    forGo (lpB F (.name 2) b84) its [some (.int a), some (.int b), t] s = some (.next, [some (.int g), some (.int 0), t'], s)
  | n, x :: its, a, b, t, s, h0, he, hm => by
    by_cases hb : b = 0
    · subst hb
      refine ⟨a, some x, by simp, fg_brk ?_⟩
      rw [lpB_name (by simp)]
      refine ex_brk ?_
      simp only [List.set, evE, evL, evC, bnd, bndS, var0, varS, exS, exB, asD, tgD, tgsD, ne_int, eq_int, lt_int, gt_int, ge_int, le_int, add_int, sub_int, abs_int, int_int, idx0, idx1, tup1, tup2, tup3, Option.map_some, decide_true]
    · cases n with
      | zero => exact absurd he hb
      | succ n =>
        rcases he with he | he
        · exact absurd he hb
        · obtain ⟨r0, r1⟩ := fmod_nn (a := a) (b := b) (by omega)
          obtain ⟨g, t', e1, e2⟩ := for84 (F := F) n its b (a.fmod b) (some x) s r0 he (by simpa using hm)
          refine ⟨g, t', e1.trans gcd_fmod, ?_⟩
          rw [← e2]
          refine fg_next ?_
          rw [lpB_name (by simp)]
          refine (ex_next (ρ' := [some (.int a), some (.int b), some x]) (s' := s) ?_).trans ((ex_next (ρ' := [some (.int b), some (.int (a.fmod b)), some x]) (s' := s) ?_).trans ex_nil)
          · simp only [List.set, evE, evL, evC, bnd, bndS, var0, varS, exS, exB, asD, tgD, tgsD, ne_int, eq_int, lt_int, gt_int, ge_int, le_int, add_int, sub_int, abs_int, int_int, idx0, idx1, tup1, tup2, tup3, Option.map_some, decide_eq_false hb]
          · simp only [evE, evL, evC, bnd, bndS, var0, varS, exS, exB, asD, tgD, tgsD, ne_int, eq_int, lt_int, gt_int, ge_int, le_int, add_int, sub_int, abs_int, int_int, idx0, idx1, tup1, tup2, tup3, Option.map_some, mod_int hb]
            rfl
theorem range_len : ∀ (lo : Int) (n : Nat), (rangeD lo n).length = n
  | _, 0 => rfl
  | lo, n + 1 => congrArg Nat.succ (range_len (lo + 1) n)
theorem for_range {F : DL.Fun} {tg : Tg} {e : E} {body : List S} {ρ : Rho} {s s1 : Sto} {n : Int} (h0 : -1000000 ≤ n) (h1 : n ≤ 1000000) (he : evE Γ F e ρ s = some (.int n, s1)) :
    exS Γ F W (.for_ tg 1 [e] body) ρ s = freed [] (forGo (lpB F tg body) (rangeD 0 n.toNat) ρ s1) := by
  simp only [exS, evL, bnd, bndS, he, forAll, walkD, decide_eq_true h0, decide_eq_true h1]
  rfl
theorem for_range2 {F : DL.Fun} {tg : Tg} {e : E} {body : List S} {ρ ρ' : Rho} {s s1 s2 : Sto} {n : Nat} {fl : Fl} (h1 : n ≤ 1000000) (he : evE Γ F e ρ s = some (.int n, s1)) (h : forGo (lpB F tg body) (rangeD 0 n) ρ s1 = some (fl, ρ', s2)) :
    exS Γ F W (.for_ tg 1 [e] body) ρ s = some (fl, ρ', s2) := by
  rw [for_range (n := n) (by omega) (by omega) he, Int.toNat_natCast, h]
  rfl
theorem l84 {m : Nat} (hm : 1 ≤ m) {a b : Int} (h0 : 0 ≤ b) (h : b < 2 ^ 250) : C m 84 [.int a, .int b] (.int (Int.gcd a b)) := mk 0 hm rfl rfl rfl rfl fun n _ => by
  obtain ⟨g, t', e1, e2⟩ := for84 (F := run Γ W n) 399 (rangeD 0 400) a b Option.none [] h0 (eu_small h0 h) (by rw [range_len]; decide)
  have e3 : (if g < 0 then -g else g) = (Int.gcd a b : Int) := by
    split <;> omega
  refine ⟨[some (.int g), some (.int 0), t'], [], (ex_next (ρ' := [some (.int g), some (.int 0), t']) (s' := []) (for_range2 (n := 400) (by decide) rfl e2)).trans (ex_ret ?_)⟩
  simp only [evE, evL, evC, bnd, bndS, var0, varS, exS, exB, asD, tgD, tgsD, ne_int, eq_int, lt_int, gt_int, ge_int, le_int, add_int, sub_int, abs_int, int_int, idx0, idx1, tup1, tup2, tup3, Option.map_some, abs_int, e3]
/-! ### fractions -/
def enc (q : Rat) : D := .tup [.int q.num, .int q.den]
def Sm (q : Rat) : Prop := q.num.natAbs < 2 ^ 120 ∧ q.den < 2 ^ 120
theorem log_lt {n k : Nat} (h : n < 2 ^ k) (hk : 0 < k) : n.log2 < k := by
  by_cases h0 : n = 0
  · subst h0
    simpa using hk
  · exact (Nat.log2_lt h0).mpr h
theorem wide_of {a : Int} (h : a.natAbs < 2 ^ 120) : wideOk a = true := by
  unfold wideOk
  exact decide_eq_true (Nat.lt_of_lt_of_le (log_lt h (by decide)) (by decide))
theorem Sm.w1 {q : Rat} (h : Sm q) : wideOk q.num = true := wide_of h.1
theorem Sm.w2 {q : Rat} (h : Sm q) : wideOk (q.den : Int) = true := wide_of h.2
/-- both fraction functions -/
def fFrac (k : Nat) : Fn := ⟨3, 2, [.asg (.tg (.name 2)) (.call k [(.var 0 false), (.var 1 false)]),
    .ite (.cmp .lt (.var 1 false) (.const (.int 0))) [.asg (.tg (.name 2)) (.neg (.var 2 false))] [],
    .ret (.tup [(.bin .fdiv (.var 0 false) (.var 2 false) false), (.bin .fdiv (.var 1 false) (.var 2 false) false)])]⟩
theorem lFrac {m f k : Nat} (hm : 2 ≤ m) (hf : Γ.fns[f]? = some (fFrac k)) (hk : ∀ {m : Nat}, 1 ≤ m → ∀ {a b : Int}, 0 ≤ b → b < 2 ^ 250 → C m k [.int a, .int b] (.int (Int.gcd a b))) {a : Int} {b : Nat} (h0 : b ≠ 0) (h : b < 2 ^ 250) : C m f [.int a, .int b] (enc (Rat.normalize a b h0)) := mk 1 hm hf rfl rfl rfl fun n hn => by
  have c := hk hn (a := a) (b := (b : Int)) (by omega) (by
    have e : ((2 ^ 250 : Nat) : Int) = 2 ^ 250 := by norm_cast
    omega)
  have g0 : Int.gcd a b ≠ 0 := by
    intro e
    rw [Int.gcd_eq_zero_iff] at e
    omega
  have g1 : ((Int.gcd a b : Nat) : Int) ≠ 0 := by omega
  have g2 : Int.gcd a b ≤ b := Nat.gcd_le_right _ (Nat.pos_of_ne_zero h0)
  have g3 : ((Int.gcd a b : Nat) : Int).natAbs.log2 < 9000 := Nat.lt_of_lt_of_le (log_lt (k := 250) (by
    show Int.gcd a b < _
    omega) (by decide)) (by decide)
  have lt : ¬ ((b : Int) < 0) := by omega
  refine ⟨[some (.int a), some (.int b), some (.int (Int.gcd a b))], [], (ex_next (ρ' := [some (.int a), some (.int b), some (.int (Int.gcd a b))]) (s' := []) ?_).trans ((ex_next (ρ' := [some (.int a), some (.int b), some (.int (Int.gcd a b))]) (s' := []) ?_).trans (ex_ret ?_))⟩
  · show exS Γ (run Γ W n) W (.asg (.tg (.name 2)) (.call k [(.var 0 false), (.var 1 false)])) [some (.int a), some (.int b), Option.none] [] = _
    simp only [evE, evL, evC, bnd, bndS, var0, varS, exS, exB, asD, tgD, tgsD, ne_int, eq_int, lt_int, gt_int, ge_int, le_int, add_int, sub_int, abs_int, int_int, idx0, idx1, tup1, tup2, tup3, Option.map_some, c []]
    rfl
  · simp only [evE, evL, evC, bnd, bndS, var0, varS, exS, exB, asD, tgD, tgsD, ne_int, eq_int, lt_int, gt_int, ge_int, le_int, add_int, sub_int, abs_int, int_int, idx0, idx1, tup1, tup2, tup3, Option.map_some, decide_eq_false lt]
  · simp only [evE, evL, evC, bnd, bndS, var0, varS, exS, exB, asD, tgD, tgsD, ne_int, eq_int, lt_int, gt_int, ge_int, le_int, add_int, sub_int, abs_int, int_int, idx0, idx1, tup1, tup2, tup3, Option.map_some, fdiv_int g1 g3]
    unfold enc
    rw [Rat.num_normalize, Rat.den_normalize, Int.fdiv_eq_ediv_of_nonneg _ (by omega), Int.fdiv_eq_ediv_of_nonneg _ (by omega)]
    rfl
theorem l5 {m : Nat} (hm : 2 ≤ m) {a : Int} {b : Nat} (h0 : b ≠ 0) (h : b < 2 ^ 250) : C m 5 [.int a, .int b] (enc (Rat.normalize a b h0)) := lFrac hm rfl l4 h0 h
theorem l85 {m : Nat} (hm : 2 ≤ m) {a : Int} {b : Nat} (h0 : b ≠ 0) (h : b < 2 ^ 250) : C m 85 [.int a, .int b] (enc (Rat.normalize a b h0)) := lFrac hm rfl l84 h0 h
abbrev FrOk (k : Nat) : Prop := ∀ {m : Nat}, 2 ≤ m → ∀ {a : Int} {b : Nat} (h0 : b ≠ 0), b < 2 ^ 250 → C m k [.int a, .int b] (enc (Rat.normalize a b h0))
def fPlus (k : Nat) : Fn := ⟨2, 2, [.ret (.call k [(.bin .add (.bin .mul (.idx (.var 0 false) (.const (.int 0))) (.idx (.var 1 false) (.const (.int 1))) false) (.bin .mul (.idx (.var 1 false) (.const (.int 0))) (.idx (.var 0 false) (.const (.int 1))) false) false), (.bin .mul (.idx (.var 0 false) (.const (.int 1))) (.idx (.var 1 false) (.const (.int 1))) false)])]⟩
def fMinus (k : Nat) : Fn := ⟨2, 2, [.ret (.call k [(.bin .sub (.bin .mul (.idx (.var 0 false) (.const (.int 0))) (.idx (.var 1 false) (.const (.int 1))) false) (.bin .mul (.idx (.var 1 false) (.const (.int 0))) (.idx (.var 0 false) (.const (.int 1))) false) false), (.bin .mul (.idx (.var 0 false) (.const (.int 1))) (.idx (.var 1 false) (.const (.int 1))) false)])]⟩
def fTimes (k : Nat) : Fn := ⟨2, 2, [.ret (.call k [(.bin .mul (.idx (.var 0 false) (.const (.int 0))) (.idx (.var 1 false) (.const (.int 0))) false), (.bin .mul (.idx (.var 0 false) (.const (.int 1))) (.idx (.var 1 false) (.const (.int 1))) false)])]⟩
theorem den_lt {p q : Rat} (hp : Sm p) (hq : Sm q) : p.den * q.den < 2 ^ 250 := Nat.lt_of_lt_of_le (Nat.mul_lt_mul'' hp.2 hq.2) (by decide)
theorem den_ne (p q : Rat) : p.den * q.den ≠ 0 := Nat.mul_ne_zero p.den_nz q.den_nz
theorem cast_den (p q : Rat) : ((p.den : Int) * (q.den : Int)) = ((p.den * q.den : Nat) : Int) := by simp
theorem lPlus {m f k : Nat} (hm : 3 ≤ m) (hf : Γ.fns[f]? = some (fPlus k)) (hk : FrOk k) {p q : Rat} (hp : Sm p) (hq : Sm q) : C m f [enc p, enc q] (enc (p + q)) := mk 2 hm hf rfl rfl rfl fun n hn => by
  have c := hk hn (a := p.num * q.den + q.num * p.den) (den_ne p q) (den_lt hp hq)
  rw [← Rat.add_def] at c
  refine ⟨[some (enc p), some (enc q)], [], ex_ret ?_⟩
  show exS Γ (run Γ W n) W _ [some (.tup [.int p.num, .int p.den]), some (.tup [.int q.num, .int q.den])] [] = _
  simp only [evE, evL, evC, bnd, bndS, var0, varS, exS, exB, asD, tgD, tgsD, ne_int, eq_int, lt_int, gt_int, ge_int, le_int, add_int, sub_int, abs_int, int_int, idx0, idx1, tup1, tup2, tup3, Option.map_some, mul_int hp.w1 hq.w2, mul_int hq.w1 hp.w2, mul_int hp.w2 hq.w2, cast_den, c []]
  rfl
theorem lMinus {m f k : Nat} (hm : 3 ≤ m) (hf : Γ.fns[f]? = some (fMinus k)) (hk : FrOk k) {p q : Rat} (hp : Sm p) (hq : Sm q) : C m f [enc p, enc q] (enc (p - q)) := mk 2 hm hf rfl rfl rfl fun n hn => by
  have c := hk hn (a := p.num * q.den - q.num * p.den) (den_ne p q) (den_lt hp hq)
  rw [← Rat.sub_def] at c
  refine ⟨[some (enc p), some (enc q)], [], ex_ret ?_⟩
  show exS Γ (run Γ W n) W _ [some (.tup [.int p.num, .int p.den]), some (.tup [.int q.num, .int q.den])] [] = _
  simp only [evE, evL, evC, bnd, bndS, var0, varS, exS, exB, asD, tgD, tgsD, ne_int, eq_int, lt_int, gt_int, ge_int, le_int, add_int, sub_int, abs_int, int_int, idx0, idx1, tup1, tup2, tup3, Option.map_some, mul_int hp.w1 hq.w2, mul_int hq.w1 hp.w2, mul_int hp.w2 hq.w2, cast_den, c []]
  rfl
theorem lTimes {m f k : Nat} (hm : 3 ≤ m) (hf : Γ.fns[f]? = some (fTimes k)) (hk : FrOk k) {p q : Rat} (hp : Sm p) (hq : Sm q) : C m f [enc p, enc q] (enc (p * q)) := mk 2 hm hf rfl rfl rfl fun n hn => by
  have c := hk hn (a := p.num * q.num) (den_ne p q) (den_lt hp hq)
  rw [← Rat.mul_def] at c
  refine ⟨[some (enc p), some (enc q)], [], ex_ret ?_⟩
  show exS Γ (run Γ W n) W _ [some (.tup [.int p.num, .int p.den]), some (.tup [.int q.num, .int q.den])] [] = _
  simp only [evE, evL, evC, bnd, bndS, var0, varS, exS, exB, asD, tgD, tgsD, ne_int, eq_int, lt_int, gt_int, ge_int, le_int, add_int, sub_int, abs_int, int_int, idx0, idx1, tup1, tup2, tup3, Option.map_some, mul_int hp.w1 hq.w1, mul_int hp.w2 hq.w2, cast_den, c []]
  rfl
section
variable {m : Nat} (hm : 3 ≤ m) {p q : Rat} (hp : Sm p) (hq : Sm q)
include hm hp hq
theorem l6 : C m 6 [enc p, enc q] (enc (p + q)) := lPlus hm rfl l5 hp hq
theorem l7 : C m 7 [enc p, enc q] (enc (p - q)) := lMinus hm rfl l5 hp hq
theorem l8 : C m 8 [enc p, enc q] (enc (p * q)) := lTimes hm rfl l5 hp hq
theorem l86 : C m 86 [enc p, enc q] (enc (p + q)) := lPlus hm rfl l85 hp hq
theorem l87 : C m 87 [enc p, enc q] (enc (p - q)) := lMinus hm rfl l85 hp hq
theorem l88 : C m 88 [enc p, enc q] (enc (p * q)) := lTimes hm rfl l85 hp hq
end
end Pk32
end

section
set_option Elab.async false
set_option linter.all false
set_option maxRecDepth 100000
set_option maxHeartbeats 4000000
namespace Pk32
open PySem DL Gk32
/-! ### lists of fractions -/
def encs (l : List Rat) : List D := l.map enc
def encP (l : List Rat) : D := .tup (encs l)
theorem clos_encs : ∀ l : List Rat, D.clos (encs l) = true
  | [] => rfl
  | q :: l => by
    show (D.clo (enc q) && D.clos (encs l)) = true
    rw [clos_encs l]
    rfl
theorem clo_encP (l : List Rat) : (encP l).clo = true := clos_encs l
def encY (q : Rat) : PyData := .tuple [.int q.num, .int q.den]
theorem pys_encs : ∀ l : List Rat, D.pys (encs l) = some (l.map encY)
  | [] => by rw [show encs [] = [] from rfl, D.pys]; rfl
  | q :: l => by
    rw [show encs (q :: l) = enc q :: encs l from rfl, D.pys, pys_encs l]
    simp [enc, D.py, D.pys, encY]
theorem py_encP (l : List Rat) : (encP l).py = some (.tuple (l.map encY)) := by
  unfold encP
  rw [D.py, pys_encs]
  rfl
theorem depth_encs : ∀ l : List Rat, PyData.depthAll (l.map encY) ≤ 2
  | [] => by simp [PyData.depthAll]
  | q :: l => by
    have := depth_encs l
    simp [PyData.depthAll, PyData.depth, encY]
    omega
theorem plain_encs : ∀ l : List Rat, PyData.plainAll (l.map encY) = true
  | [] => by simp [PyData.plainAll]
  | q :: l => by
    have := plain_encs l
    simp [PyData.plainAll, PyData.plain, encY]
    exact this
/-- data that can be compared with itself -/
structure Same (d : D) (s : Sto) (y : PyData) : Prop where
  py : (top s d).py = some y
  dep : y.depth ≤ 50
  eqv : PyData.eqv y y = true
theorem Same.self {d : D} {s : Sto} {y : PyData} (h : Same d s y) : eqPy (top s d) (top s d) = some true := by
  unfold eqPy
  rw [h.py]
  dsimp only
  rw [if_pos h.dep, h.eqv]
theorem Same.ne {d : D} {s : Sto} {y : PyData} (h : Same d s y) : gCmp .ne d d s = some (.bool false, s) := by
  show ((eqPy (top s d) (top s d)).map fun r => !r).map _ = _
  rw [h.self]
  rfl
theorem Same.eq {d : D} {s : Sto} {y : PyData} (h : Same d s y) : gCmp .eq d d s = some (.bool true, s) := by
  show (eqPy (top s d) (top s d)).map _ = _
  rw [h.self]
  rfl
theorem same_encP (l : List Rat) (s : Sto) : Same (encP l) s (.tuple (l.map encY)) where
  py := py_encP l
  dep := by
    rw [PyData.depth]
    have := depth_encs l
    omega
  eqv := by
    refine PySem.SeqAt.eqv_refl_plain _ ?_
    rw [PyData.plain]
    exact plain_encs l
theorem same_enc (q : Rat) (s : Sto) : Same (enc q) s (encY q) where
  py := by simp [enc, top, D.py, D.pys, encY]
  dep := by simp [encY, PyData.depth, PyData.depthAll]
  eqv := by simp [encY, PyData.eqv, PyData.eqvAll]
theorem eqPy_nil (l : List Rat) : eqPy (.lst (encs l)) (.lst []) = some l.isEmpty := by
  have := depth_encs l
  have e1 : (D.lst (encs l)).py = some (.list (l.map encY)) := by
    rw [D.py, pys_encs]
    rfl
  have e2 : (D.lst []).py = some (.list []) := rfl
  have e3 : (PyData.list (l.map encY)).depth ≤ 50 := by
    rw [PyData.depth]
    omega
  unfold eqPy
  rw [e1, e2]
  dsimp only
  rw [if_pos e3, PyData.eqv]
  cases l with
  | nil => rw [List.map_nil, PyData.eqvAll]; rfl
  | cons q l => rw [List.map_cons, PyData.eqvAll]; rfl
theorem ne_nil {x : D} {s : Sto} {l : List Rat} (h : top s x = .lst (encs l)) : gCmp .ne x (.lst []) s = some (.bool (!l.isEmpty), s) := by
  show ((eqPy (top s x) (.lst [])).map fun r => !r).map _ = _
  rw [h, eqPy_nil]
  rfl
theorem eq_nil {x : D} {s : Sto} {l : List Rat} (h : top s x = .lst (encs l)) : gCmp .eq x (.lst []) s = some (.bool l.isEmpty, s) := by
  show (eqPy (top s x) (.lst [])).map _ = _
  rw [h, eqPy_nil]
  rfl
/-! ### without zeros at the end -/
def dz : List Rat → List Rat
  | [] => []
  | q :: r => if q = 0 then dz r else q :: r
def trim (l : List Rat) : List Rat := (dz l.reverse).reverse
theorem encs_snoc (q : Rat) (r : List Rat) : encs (q :: r).reverse = encs r.reverse ++ [enc q] := by
  unfold encs
  rw [List.reverse_cons, List.map_append]
  rfl
theorem encs_len (l : List Rat) : (encs l).length = l.length := List.length_map ..
theorem idx_last {x : D} {s : Sto} {q : Rat} {r : List Rat} (h : top s x = .lst (encs (q :: r).reverse) ∨ top s x = .tup (encs (q :: r).reverse)) : gIdx x (.int (-1)) s = some (enc q, s) := by
  have e : ixOf (encs (q :: r).reverse).length (-1) = some r.length := by
    unfold ixOf
    rw [encs_len, List.length_reverse, List.length_cons, if_neg (by decide), if_pos (by omega)]
    congr 1
    omega
  have e2 : (encs (q :: r).reverse)[r.length]? = some (enc q) := by
    rw [encs_snoc, List.getElem?_append_right (by rw [encs_len, List.length_reverse]; exact Nat.le_refl _), encs_len, List.length_reverse, Nat.sub_self]
    rfl
  unfold gIdx idxD
  rcases h with h | h
  · rw [h]
    dsimp only
    rw [e, Option.bind_some, e2]
    rfl
  · rw [h]
    dsimp only
    rw [e, Option.bind_some, e2]
    rfl
theorem idx_at {x : D} {s : Sto} {l : List Rat} {k : Nat} (h : top s x = .lst (encs l) ∨ top s x = .tup (encs l)) (hk : k < l.length) : gIdx x (.int k) s = some (enc (l.getD k 0), s) := by
  have e : ixOf (encs l).length k = some k := by
    unfold ixOf
    rw [encs_len, if_pos (by omega), if_pos (by omega)]
    rfl
  have e2 : (encs l)[k]? = some (enc (l.getD k 0)) := by
    unfold encs
    rw [List.getElem?_map, List.getD_eq_getElem?_getD, List.getElem?_eq_getElem hk]
    rfl
  unfold gIdx idxD
  rcases h with h | h
  · rw [h]
    dsimp only
    rw [e, Option.bind_some, e2]
    rfl
  · rw [h]
    dsimp only
    rw [e, Option.bind_some, e2]
    rfl
theorem len_of {x : D} {s : Sto} {l : List D} {c : Bool} (h : top s x = .lst l ∨ top s x = .tup l) : gBi .len c [x] s = some (.int l.length, s) := by
  have e : biD s .len [x] = some (.int l.length) := by
    show (match top s x with
    | .tup xs => some (D.int xs.length)
    | .lst xs => some (.int xs.length)
    | .dct ks _ => some (.int ks.length)
    | .scr ns => some (.int ns.length)
    | .str x => if lineOk x.length then some (.int x.length) else Option.none
    | _ => Option.none) = _
    rcases h with h | h <;> rw [h]
  unfold gBi
  rw [e]
  cases c <;> rfl
theorem num0 {q : Rat} (h : q = 0) : q.num = 0 := by rw [h]; rfl
theorem num1 {q : Rat} (h : q ≠ 0) : q.num ≠ 0 := fun e => h (Rat.num_eq_zero.mp e)
theorem neg_int {a : Int} {s : Sto} : gNeg (.int a) s = some (.int (-a), s) := rfl
theorem idx_num {q : Rat} {s : Sto} : gIdx (enc q) (.int 0) s = some (.int q.num, s) := idx0
theorem idx_den {q : Rat} {s : Sto} : gIdx (enc q) (.int 1) s = some (.int q.den, s) := idx1
theorem wh11 {F : DL.Fun} : ∀ (r : List Rat) (m : Nat), r.length < m → 
    whGo (fun ρ' s' => evE Γ F (.and (.cmp .ne (.var 0 false) (.lst [] false)) (.cmp .eq (.idx (.idx (.var 0 false) (.neg (.const (.int 1)))) (.const (.int 0))) (.const (.int 0)))) ρ' s') (fun ρ' s' => exB Γ F W [.expr (.bm .pop (.var 0 false) [])] ρ' s') m [some (.ref 0)] [.lst (encs r.reverse)] = some (.next, [some (.ref 0)], [.lst (encs (dz r).reverse)])
  | [], m + 1, h => wh_done (by
    simp only [evE, evL, evC, bnd, bndS, var0, varS, exS, exB, asD, tgD, tgsD, ne_int, eq_int, lt_int, gt_int, ge_int, le_int, add_int, sub_int, abs_int, int_int, idx0, idx1, tup1, tup2, tup3, Option.map_some]
    rw [show gLst false [] [.lst (encs ([] : List Rat).reverse)] = some (.lst [], [.lst (encs ([] : List Rat).reverse)]) from rfl]
    dsimp only
    rw [ne_nil (l := []) rfl]
    rfl)
  | q :: r, m + 1, h => by
    have e1 : gLst false [] [.lst (encs (q :: r).reverse)] = some (.lst [], [.lst (encs (q :: r).reverse)]) := rfl
    have e2 : gCmp .ne (.ref 0) (.lst []) [.lst (encs (q :: r).reverse)] = some (.bool true, [.lst (encs (q :: r).reverse)]) := by
      rw [ne_nil (l := (q :: r).reverse) rfl]
      simp
    have e3 : gIdx (.ref 0) (.int (-1)) [.lst (encs (q :: r).reverse)] = some (enc q, [.lst (encs (q :: r).reverse)]) := idx_last (.inl rfl)
    by_cases hq : q = 0
    · have e4 : bmD [.lst (encs (q :: r).reverse)] .pop (.ref 0) [] = some (enc q, [.lst (encs r.reverse)]) := by
        rw [encs_snoc]
        simp [bmD]
      rw [wh_next (ρ' := [some (.ref 0)]) (s' := [.lst (encs r.reverse)]) (s1 := [.lst (encs (q :: r).reverse)])]
      · rw [wh11 r m (by simpa using h)]
        simp [dz, hq]
      · simp only [evE, evL, evC, bnd, bndS, var0, varS, exS, exB, asD, tgD, tgsD, ne_int, eq_int, lt_int, gt_int, ge_int, le_int, add_int, sub_int, abs_int, int_int, idx0, idx1, tup1, tup2, tup3, Option.map_some, e1, e2, neg_int, e3, idx_num, num0 hq, decide_true]
      · refine (ex_next (ρ' := [some (.ref 0)]) (s' := [.lst (encs r.reverse)]) ?_).trans ex_nil
        simp only [evE, evL, evC, bnd, bndS, var0, varS, exS, exB, asD, tgD, tgsD, ne_int, eq_int, lt_int, gt_int, ge_int, le_int, add_int, sub_int, abs_int, int_int, idx0, idx1, tup1, tup2, tup3, Option.map_some]
        rw [show bmTy .pop (top [.lst (encs (q :: r).reverse)] (.ref 0)) = true from rfl, if_pos rfl, e4]
    · refine (wh_done (s1 := [.lst (encs (q :: r).reverse)]) ?_).trans ?_
      · simp only [evE, evL, evC, bnd, bndS, var0, varS, exS, exB, asD, tgD, tgsD, ne_int, eq_int, lt_int, gt_int, ge_int, le_int, add_int, sub_int, abs_int, int_int, idx0, idx1, tup1, tup2, tup3, Option.map_some, e1, e2, neg_int, e3, idx_num, decide_eq_false (num1 hq)]
      · simp [dz, hq]
theorem list_new {xs : List D} {s : Sto} : gBi .list true [.lst xs] s = some (.ref s.length, s ++ [.lst xs]) := rfl
theorem l11 {m : Nat} (hm : 1 ≤ m) (l : List Rat) (hl : l.length < 1000) : C m 11 [.lst (encs l)] (encP (trim l)) := mk 0 hm rfl rfl (by simp [D.clos, D.clo, clos_encs]) (clo_encP _) fun n _ => by
  have e := wh11 (F := run Γ W n) l.reverse W (by rw [List.length_reverse]; exact Nat.lt_trans hl (by decide))
  rw [List.reverse_reverse] at e
  refine ⟨[some (.ref 0)], [.lst (encs (trim l))], (ex_next (ρ' := [some (.ref 0)]) (s' := [.lst (encs l)]) ?_).trans ((ex_next (ρ' := [some (.ref 0)]) (s' := [.lst (encs (trim l))]) (Eq.trans (by rw [exS]) e : exS Γ (run Γ W n) W (.while_ (.and (.cmp .ne (.var 0 false) (.lst [] false)) (.cmp .eq (.idx (.idx (.var 0 false) (.neg (.const (.int 1)))) (.const (.int 0))) (.const (.int 0)))) [.expr (.bm .pop (.var 0 false) [])]) [some (.ref 0)] [.lst (encs l)] = _)).trans (ex_ret ?_))⟩
  · show exS Γ (run Γ W n) W (.asg (.tg (.name 0)) (.bi .list [(.var 0 false)] true)) [some (.lst (encs l))] [] = _
    simp only [evE, evL, evC, bnd, bndS, var0, varS, exS, exB, asD, tgD, tgsD, ne_int, eq_int, lt_int, gt_int, ge_int, le_int, add_int, sub_int, abs_int, int_int, idx0, idx1, tup1, tup2, tup3, Option.map_some, list_new]
    rfl
  · simp only [evE, evL, evC, bnd, bndS, var0, varS, exS, exB, asD, tgD, tgsD, ne_int, eq_int, lt_int, gt_int, ge_int, le_int, add_int, sub_int, abs_int, int_int, idx0, idx1, tup1, tup2, tup3, Option.map_some]
    rfl
/-! ### _law_cut -/
def b89 : List S := [.asg (.tg (.name 0)) (.ite (.cmp .eq (.idx (.idx (.var 0 false) (.neg (.const (.int 1)))) (.const (.int 0))) (.const (.int 0))) (.slc (.var 0 false) .nil (.neg (.const (.int 1))) false) (.var 0 false)),
    .ite (.cmp .eq (.var 0 false) (.lst [] false)) [.brk] []]
theorem for89 {F : DL.Fun} {s : Sto} : ∀ (its : List D) (q : Rat) (r : List Rat) (t : Option D), (dz (q :: r) = q :: r ∨ r.length < its.length) → ∃ t',
    forGo (lpB F (.name 1) b89) its [some (.lst (encs (q :: r).reverse)), t] s = some (.next, [some (.lst (encs (dz (q :: r)).reverse)), t'], s)
  | [], q, r, t, h => ⟨t, by
    rcases h with h | h
    · rw [fg_nil, h]
    · cases h⟩
  | x :: its, q, r, t, h => by
    have e3 : gIdx (.lst (encs (q :: r).reverse)) (.int (-1)) s = some (enc q, s) := idx_last (.inl rfl)
    have e1 : gLst false [] s = some (.lst [], s) := rfl
    by_cases hq : q = 0
    · have e4 : gSlc false (.lst (encs (q :: r).reverse)) .none (.int (-1)) s = some (.lst (encs r.reverse), s) := by
        rw [encs_snoc]
        unfold gSlc slcD
        rw [show top s (.lst (encs r.reverse ++ [enc q])) = .lst (encs r.reverse ++ [enc q]) from rfl]
        dsimp only
        unfold cutAt
        dsimp only
        rw [if_pos (by decide)]
        have e5 : (-1 + ((encs r.reverse ++ [enc q]).length : Int)).toNat = (encs r.reverse).length := by
          rw [List.length_append, List.length_singleton]
          omega
        rw [e5, List.drop_zero, Nat.sub_zero, List.take_append_of_le_length (Nat.le_refl _), List.take_length]
        rfl
      cases r with
      | nil =>
        refine ⟨some x, (fg_brk ?_).trans (by rw [show dz [q] = [] by simp [dz, hq]])⟩
        rw [lpB_name (by simp)]
        refine (ex_next (ρ' := [some (.lst (encs ([] : List Rat).reverse)), some x]) (s' := s) ?_).trans (ex_brk ?_)
        · simp only [List.set, evE, evL, evC, bnd, bndS, var0, varS, exS, exB, asD, tgD, tgsD, ne_int, eq_int, lt_int, gt_int, ge_int, le_int, add_int, sub_int, abs_int, int_int, idx0, idx1, tup1, tup2, tup3, Option.map_some, neg_int, e3, idx_num, num0 hq, decide_true, e4]
          rfl
        · simp only [evE, evL, evC, bnd, bndS, var0, varS, exS, exB, asD, tgD, tgsD, ne_int, eq_int, lt_int, gt_int, ge_int, le_int, add_int, sub_int, abs_int, int_int, idx0, idx1, tup1, tup2, tup3, Option.map_some, e1]
          rw [eq_nil (l := []) rfl]
          rfl
      | cons q2 r =>
        have hd : dz (q :: q2 :: r) = dz (q2 :: r) := by rw [dz, if_pos hq]
        obtain ⟨t', e⟩ := for89 (F := F) (s := s) its q2 r (some x) (by
          rcases h with h | h
          · rw [dz, if_pos hq] at h
            have h := congrArg List.length h
            have l1 : ∀ l : List Rat, (dz l).length ≤ l.length := fun l => by
              induction l with
              | nil => exact Nat.le_refl _
              | cons a l ih =>
                rw [dz]
                split
                · exact Nat.le_trans ih (Nat.le_succ _)
                · exact Nat.le_refl _
            have h2 := l1 (q2 :: r)
            rw [h] at h2
            simp only [List.length_cons] at h2
            omega
          · exact .inr (by simpa using h))
        refine ⟨t', ?_⟩
        rw [hd, ← e]
        refine fg_next ?_
        rw [lpB_name (by simp)]
        refine (ex_next (ρ' := [some (.lst (encs (q2 :: r).reverse)), some x]) (s' := s) ?_).trans ((ex_next (ρ' := [some (.lst (encs (q2 :: r).reverse)), some x]) (s' := s) ?_).trans ex_nil)
        · simp only [List.set, evE, evL, evC, bnd, bndS, var0, varS, exS, exB, asD, tgD, tgsD, ne_int, eq_int, lt_int, gt_int, ge_int, le_int, add_int, sub_int, abs_int, int_int, idx0, idx1, tup1, tup2, tup3, Option.map_some, neg_int, e3, idx_num, num0 hq, decide_true, e4]
          rfl
        · have e6 : gCmp .eq (.lst (encs (q2 :: r).reverse)) (.lst []) s = some (.bool false, s) := by
            rw [eq_nil (l := (q2 :: r).reverse) rfl]
            simp
          simp only [evE, evL, evC, bnd, bndS, var0, varS, exS, exB, asD, tgD, tgsD, ne_int, eq_int, lt_int, gt_int, ge_int, le_int, add_int, sub_int, abs_int, int_int, idx0, idx1, tup1, tup2, tup3, Option.map_some, e1, e6]
    · have hd : dz (q :: r) = q :: r := by rw [dz, if_neg hq]
      obtain ⟨t', e⟩ := for89 (F := F) (s := s) its q r (some x) (.inl hd)
      refine ⟨t', ?_⟩
      rw [← e]
      refine fg_next ?_
      rw [lpB_name (by simp)]
      refine (ex_next (ρ' := [some (.lst (encs (q :: r).reverse)), some x]) (s' := s) ?_).trans ((ex_next (ρ' := [some (.lst (encs (q :: r).reverse)), some x]) (s' := s) ?_).trans ex_nil)
      · simp only [List.set, evE, evL, evC, bnd, bndS, var0, varS, exS, exB, asD, tgD, tgsD, ne_int, eq_int, lt_int, gt_int, ge_int, le_int, add_int, sub_int, abs_int, int_int, idx0, idx1, tup1, tup2, tup3, Option.map_some, neg_int, e3, idx_num, decide_eq_false (num1 hq)]
        rfl
      · have e6 : gCmp .eq (.lst (encs (q :: r).reverse)) (.lst []) s = some (.bool false, s) := by
          rw [eq_nil (l := (q :: r).reverse) rfl]
          simp
        simp only [evE, evL, evC, bnd, bndS, var0, varS, exS, exB, asD, tgD, tgsD, ne_int, eq_int, lt_int, gt_int, ge_int, le_int, add_int, sub_int, abs_int, int_int, idx0, idx1, tup1, tup2, tup3, Option.map_some, e1, e6]
theorem list_of {xs : List D} {s : Sto} : gBi .list false [.lst xs] s = some (.lst xs, s) := rfl
theorem tuple_of {xs : List D} {s : Sto} : gBi .tuple false [.lst xs] s = some (.tup xs, s) := rfl
theorem l89 {m : Nat} (hm : 1 ≤ m) (l : List Rat) (hl : l.length < 1000) : C m 89 [.lst (encs l)] (encP (trim l)) := mk 0 hm rfl rfl (by simp [D.clos, D.clo, clos_encs]) (clo_encP _) fun n _ => by
  have e : ∃ t', forGo (lpB (run Γ W n) (.name 1) b89) (rangeD 0 l.length) [some (.lst (encs l)), Option.none] [] = some (.next, [some (.lst (encs (trim l))), t'], []) := by
    cases hr : l.reverse with
    | nil =>
      have : l = [] := by simpa using hr
      subst this
      exact ⟨Option.none, rfl⟩
    | cons q r =>
      have el : l = (q :: r).reverse := by rw [← hr, List.reverse_reverse]
      obtain ⟨t', e⟩ := for89 (F := run Γ W n) (s := []) (rangeD 0 l.length) q r Option.none (.inr (by
        rw [range_len, el, List.length_reverse, List.length_cons]
        exact Nat.lt_succ_self _))
      refine ⟨t', ?_⟩
      unfold trim
      rw [hr, ← e, ← el]
  obtain ⟨t', e⟩ := e
  have h1 : exS Γ (run Γ W n) W (.asg (.tg (.name 0)) (.bi .list [(.var 0 false)] false)) [some (.lst (encs l)), Option.none] [] = some (.next, [some (.lst (encs l)), Option.none], []) := by
    simp only [evE, evL, evC, bnd, bndS, var0, varS, exS, exB, asD, tgD, tgsD, ne_int, eq_int, lt_int, gt_int, ge_int, le_int, add_int, sub_int, abs_int, int_int, idx0, idx1, tup1, tup2, tup3, Option.map_some, list_of]
    rfl
  have h2 : exS Γ (run Γ W n) W (.for_ (.name 1) 1 [(.bi .len [(.var 0 false)] false)] b89) [some (.lst (encs l)), Option.none] [] = some (.next, [some (.lst (encs (trim l))), t'], []) := by
    refine for_range2 (n := l.length) (by omega) ?_ e
    simp only [evE, evL, evC, bnd, bndS, var0, varS, exS, exB, asD, tgD, tgsD, ne_int, eq_int, lt_int, gt_int, ge_int, le_int, add_int, sub_int, abs_int, int_int, idx0, idx1, tup1, tup2, tup3, Option.map_some]
    rw [len_of (l := encs l) (.inl rfl), encs_len]
  have h3 : exS Γ (run Γ W n) W (.ret (.bi .tuple [(.var 0 false)] false)) [some (.lst (encs (trim l))), t'] [] = some (.ret (encP (trim l)), [some (.lst (encs (trim l))), t'], []) := by
    simp only [evE, evL, evC, bnd, bndS, var0, varS, exS, exB, asD, tgD, tgsD, ne_int, eq_int, lt_int, gt_int, ge_int, le_int, add_int, sub_int, abs_int, int_int, idx0, idx1, tup1, tup2, tup3, Option.map_some, tuple_of]
    rfl
  exact ⟨[some (.lst (encs (trim l))), t'], [], (ex_next h1).trans ((ex_next h2).trans (ex_ret h3))⟩
end Pk32
end

section
set_option Elab.async false
set_option linter.all false
set_option maxRecDepth 100000
set_option maxHeartbeats 4000000
namespace Pk32
open PySem DL Gk32
/-! ### comprehensions, loops over numbers -/
theorem range_map : ∀ (lo : Int) (n : Nat), rangeD lo n = (List.range n).map fun (k : Nat) => D.int (lo + k)
  | lo, 0 => rfl
  | lo, n + 1 => by
    rw [rangeD, range_map (lo + 1) n, List.range_succ_eq_map, List.map_cons, List.map_map]
    congr 1
    · congr 1
      omega
    · refine List.map_congr_left fun k _ => ?_
      show D.int _ = D.int _
      congr 1
      omega
theorem lcGo_map {f : D → Sto → Res (Option D)} {y : D → D} {s : Sto} : ∀ (its acc : List D), acc.length + its.length ≤ 1000000 → (∀ x ∈ its, f x s = some (some (y x), s)) → lcGo f its s acc = some (acc ++ its.map y, s)
  | [], acc, _, _ => by simp [lcGo]
  | x :: its, acc, h, hf => by
    rw [lcGo, hf x (List.mem_cons_self ..)]
    dsimp only
    simp only [List.length_cons] at h
    rw [if_pos (by unfold lineOk; exact decide_eq_true (by omega)), lcGo_map its (acc ++ [y x]) (by rw [List.length_append, List.length_singleton]; omega) fun z hz => hf z (List.mem_cons_of_mem _ hz)]
    simp
def lcB (F : DL.Fun) (elt : E) (tg : Tg) (cond : List E) (own : List Nat) (ρ : Rho) : D → Sto → Res (Option D) := fun x s' => match tgD tg x (wipeD ρ own) with
  | some ρ' => bnd (evC Γ F cond ρ' s') fun b s3 => match b with
    | .bool true => bnd (evE Γ F elt ρ' s3) fun y s4 => some (some y, s4)
    | .bool false => some (Option.none, s3)
    | _ => Option.none
  | Option.none => Option.none
theorem ev_lc {F : DL.Fun} {elt : E} {tg : Tg} {k : Nat} {src cond : List E} {own : List Nat} {c : Bool} {ρ : Rho} {s : Sto} {xs its ys : List D} (h1 : evL Γ F src ρ s = some (xs, s)) (h2 : walkD k xs s = some (its, s, [])) (h3 : lcGo (lcB F elt tg cond own ρ) its s [] = some (ys, s)) :
    evE Γ F (.lc elt tg k src cond own c) ρ s = some (laid c (.lst ys) s) := by
  have e : evE Γ F (.lc elt tg k src cond own c) ρ s = bnd (evL Γ F src ρ s) fun xs s1 => bnd (lcAll k (lcB F elt tg cond own ρ) xs s1 []) fun ys s6 => some (laid c (.lst ys) s6) := by
    rw [evE]
    rfl
  rw [e, h1]
  show bnd (lcAll k _ xs s []) _ = _
  unfold lcAll
  rw [h2]
  dsimp only
  rw [h3]
  rfl
theorem lcB_one {F : DL.Fun} {elt : E} {i : Nat} {ρ : Rho} {s : Sto} {x y : D} (hi : i < ρ.length) (h : evE Γ F elt (ρ.set i (some x)) s = some (y, s)) : lcB F elt (.name i) [] [i] ρ x s = some (some y, s) := by
  have w : wipeD ρ [i] = ρ.set i Option.none := rfl
  unfold lcB
  rw [w]
  unfold tgD
  rw [if_pos (by rw [List.length_set]; exact hi), List.set_set]
  simp only [evC, bnd, h]
/-- [elt for i in range(n)] -/
theorem lc_range {F : DL.Fun} {elt e : E} {i : Nat} {c : Bool} {ρ : Rho} {s : Sto} {n : Nat} {y : Nat → D} (hi : i < ρ.length) (hn : n ≤ 1000000) (he : evE Γ F e ρ s = some (.int n, s)) (h : ∀ k, k < n → evE Γ F elt (ρ.set i (some (.int (k : Int)))) s = some (y k, s)) :
    evE Γ F (.lc elt (.name i) 1 [e] [] [i] c) ρ s = some (laid c (.lst ((List.range n).map y)) s) := by
  refine ev_lc (xs := [.int n]) (its := rangeD 0 n) (by simp only [evL, bnd, he]) ?_ ?_
  · show (if decide ((n : Int) ≤ 1000000) && decide (-1000000 ≤ (n : Int)) then some (rangeD 0 (n : Int).toNat, s, []) else Option.none) = _
    rw [if_pos (by rw [decide_eq_true (show (n : Int) ≤ 1000000 by omega), decide_eq_true (show (-1000000 : Int) ≤ n by omega)]; rfl), Int.toNat_natCast]
  · have z := lcGo_map (f := lcB F elt (.name i) [] [i] ρ) (y := fun x => match x with
        | .int k => y k.toNat
        | _ => .none) (s := s) (rangeD 0 n) [] (by rw [range_len]; simpa using hn) (fun x hx => by
          rw [range_map] at hx
          obtain ⟨k, hk, rfl⟩ := List.mem_map.mp hx
          have hk := List.mem_range.mp hk
          refine lcB_one hi ?_
          have := h k hk
          rw [Int.zero_add, this]
          rfl)
    rw [z, range_map, List.map_map, List.nil_append]
    congr 2
    refine List.map_congr_left fun k _ => ?_
    show y _ = y _
    congr 1
    show (0 + (k : Int)).toNat = k
    omega
/-- [elt for i in range(a, b)] -/
theorem lc_range2 {F : DL.Fun} {elt e e0 : E} {i : Nat} {c : Bool} {ρ : Rho} {s : Sto} {a n : Nat} {y : Nat → D} (hi : i < ρ.length) (hn : n ≤ 1000000) (ha : a ≤ 1000000) (he0 : evE Γ F e0 ρ s = some (.int a, s)) (he : evE Γ F e ρ s = some (.int n, s)) (h : ∀ k, k < n - a → evE Γ F elt (ρ.set i (some (.int ((a + k : Nat) : Int)))) s = some (y k, s)) :
    evE Γ F (.lc elt (.name i) 2 [e0, e] [] [i] c) ρ s = some (laid c (.lst ((List.range (n - a)).map y)) s) := by
  have e5 : ((n : Int) - (a : Int)).toNat = n - a := by omega
  refine ev_lc (xs := [.int a, .int n]) (its := rangeD a (n - a)) (by simp only [evL, bnd, he, he0]) ?_ ?_
  · show (if decide (-1000000 ≤ (a : Int)) && decide ((a : Int) ≤ 1000000) && decide (-1000000 ≤ (n : Int)) && decide ((n : Int) ≤ 1000000) then some (rangeD a ((n : Int) - (a : Int)).toNat, s, []) else Option.none) = _
    rw [if_pos (by rw [decide_eq_true (show (-1000000 : Int) ≤ a by omega), decide_eq_true (show (a : Int) ≤ 1000000 by omega), decide_eq_true (show (n : Int) ≤ 1000000 by omega), decide_eq_true (show (-1000000 : Int) ≤ n by omega)]; rfl), e5]
  · have z := lcGo_map (f := lcB F elt (.name i) [] [i] ρ) (y := fun x => match x with
        | .int k => y (k - a).toNat
        | _ => .none) (s := s) (rangeD a (n - a)) [] (by rw [range_len]; simp; omega) (fun x hx => by
          rw [range_map] at hx
          obtain ⟨k, hk, rfl⟩ := List.mem_map.mp hx
          have hk := List.mem_range.mp hk
          refine lcB_one hi ?_
          have e3 : ((a : Int) + (k : Int) - (a : Int)).toNat = k := by omega
          have e4 : ((a : Int) + (k : Int)) = ((a + k : Nat) : Int) := by omega
          rw [e4, h k hk]
          dsimp only
          rw [← e4, e3])
    rw [z, range_map, List.map_map, List.nil_append]
    congr 2
    refine List.map_congr_left fun k _ => ?_
    show y _ = y _
    congr 1
    show ((a : Int) + (k : Int) - (a : Int)).toNat = k
    omega
/-- a loop's turns keep what holds -/
theorem fg_inv {f : D → Rho → Sto → ResS} {I : Nat → Rho → Sto → Prop} : ∀ (its : List D) (k : Nat), (∀ j (h : j < its.length) ρ s, I (k + j) ρ s → ∃ ρ' s', f its[j] ρ s = some (.next, ρ', s') ∧ I (k + j + 1) ρ' s') → ∀ {ρ s}, I k ρ s → ∃ ρ' s', forGo f its ρ s = some (.next, ρ', s') ∧ I (k + its.length) ρ' s'
  | [], k, _, ρ, s, h => ⟨ρ, s, rfl, h⟩
  | x :: its, k, hf, ρ, s, h => by
    obtain ⟨ρ1, s1, e1, h1⟩ := hf 0 (Nat.succ_pos _) ρ s h
    obtain ⟨ρ2, s2, e2, h2⟩ := fg_inv (f := f) (I := I) its (k + 1) (fun j hj ρ s hi => by
      have := hf (j + 1) (Nat.succ_lt_succ hj) ρ s (by rw [show k + (j + 1) = k + 1 + j by omega]; exact hi)
      obtain ⟨ρ', s', a, b⟩ := this
      exact ⟨ρ', s', a, by rw [show k + 1 + j + 1 = k + (j + 1) + 1 by omega]; exact b⟩) h1
    refine ⟨ρ2, s2, (fg_next e1).trans e2, ?_⟩
    rw [List.length_cons, show k + (its.length + 1) = k + 1 + its.length by omega]
    exact h2
theorem fg_count {f : D → Rho → Sto → ResS} {I : Nat → Rho → Sto → Prop} {n : Nat} (hf : ∀ j, j < n → ∀ ρ s, I j ρ s → ∃ ρ' s', f (.int j) ρ s = some (.next, ρ', s') ∧ I (j + 1) ρ' s') {ρ : Rho} {s : Sto} (h : I 0 ρ s) : ∃ ρ' s', forGo f (rangeD 0 n) ρ s = some (.next, ρ', s') ∧ I n ρ' s' := by
  obtain ⟨ρ', s', e, h2⟩ := fg_inv (f := f) (I := I) (rangeD 0 n) 0 (fun j hj ρ s hi => by
    rw [range_len] at hj
    have e : (rangeD 0 n)[j]'(by rw [range_len]; exact hj) = .int j := by
      simp only [range_map]
      simp
    rw [e]
    obtain ⟨ρ', s', a, b⟩ := hf j hj ρ s (by rw [Nat.zero_add] at hi; exact hi)
    exact ⟨ρ', s', a, by rw [Nat.zero_add]; exact b⟩) h
  rw [range_len, Nat.zero_add] at h2
  exact ⟨ρ', s', e, h2⟩
/-! ### sums -/
theorem ev_call1 {F : DL.Fun} {f : Nat} {e : E} {ρ : Rho} {s s1 : Sto} {x : D} {r : Res D} (h : evE Γ F e ρ s = some (x, s1)) (h2 : F f [x] s1 = r) : evE Γ F (.call f [e]) ρ s = r := by
  simp only [evE, evL, bnd, h, h2]
theorem ev_call2 {F : DL.Fun} {f : Nat} {e e2 : E} {ρ : Rho} {s s1 s2 : Sto} {x y : D} {r : Res D} (h : evE Γ F e ρ s = some (x, s1)) (h1 : evE Γ F e2 ρ s1 = some (y, s2)) (h2 : F f [x, y] s2 = r) : evE Γ F (.call f [e, e2]) ρ s = r := by
  simp only [evE, evL, bnd, h, h1, h2]
theorem ex_rete {F : DL.Fun} {e : E} {ρ : Rho} {s s1 : Sto} {d : D} (h : evE Γ F e ρ s = some (d, s1)) : exS Γ F W (.ret e) ρ s = some (.ret d, ρ, s1) := by
  simp only [exS, bndS, h]
theorem ex_asg {F : DL.Fun} {e : E} {i : Nat} {ρ : Rho} {s s1 : Sto} {d : D} (hi : i < ρ.length) (h : evE Γ F e ρ s = some (d, s1)) : exS Γ F W (.asg (.tg (.name i)) e) ρ s = some (.next, ρ.set i (some d), s1) := by
  simp only [exS, bndS, h, asD, tgD, if_pos hi, Option.map_some]
theorem enc0 : enc 0 = .tup [.int 0, .int 1] := rfl
theorem enc1 : enc 1 = .tup [.int 1, .int 1] := rfl
theorem l13 {m : Nat} (hm : 1 ≤ m) (l : List Rat) (k : Nat) : C m 13 [encP l, .int k] (enc (l.getD k 0)) := mk 0 hm rfl rfl (by simp [D.clos, D.clo, clo_encP]) rfl fun n _ => by
  have h1 : exS Γ (run Γ W n) W (.ret (.ite (.cmp .lt (.var 1 false) (.bi .len [(.var 0 false)] false)) (.idx (.var 0 false) (.var 1 false)) (.tup [(.const (.int 0)), (.const (.int 1))]))) [some (encP l), some (.int k)] [] = some (.ret (enc (l.getD k 0)), [some (encP l), some (.int k)], []) := by
    simp only [evE, evL, evC, bnd, bndS, var0, varS, exS, exB, asD, tgD, tgsD, ne_int, eq_int, lt_int, gt_int, ge_int, le_int, add_int, sub_int, abs_int, int_int, idx0, idx1, tup1, tup2, tup3, Option.map_some]
    rw [len_of (l := encs l) (.inr rfl), encs_len]
    simp only [evE, evL, evC, bnd, bndS, var0, varS, exS, exB, asD, tgD, tgsD, ne_int, eq_int, lt_int, gt_int, ge_int, le_int, add_int, sub_int, abs_int, int_int, idx0, idx1, tup1, tup2, tup3, Option.map_some]
    by_cases h : k < l.length
    · rw [decide_eq_true (show (k : Int) < (l.length : Int) by omega)]
      dsimp only
      rw [idx_at (l := l) (.inr rfl) h]
    · rw [decide_eq_false (show ¬ (k : Int) < (l.length : Int) by omega)]
      dsimp only
      rw [List.getD_eq_getElem?_getD, List.getElem?_eq_none (by omega)]
      rfl
  exact ⟨_, [], ex_ret h1⟩
theorem max_int {a b : Nat} {s : Sto} {c : Bool} : gBi .max2 c [.int a, .int b] s = some (.int ((max a b : Nat) : Int), s) := by
  have e : (if (b : Int) > (a : Int) then (b : Int) else (a : Int)) = ((max a b : Nat) : Int) := by
    split <;> omega
  show (some (D.int (if (b : Int) > (a : Int) then (b : Int) else (a : Int)))).map _ = _
  rw [e]
  cases c <;> rfl
def SmL (l : List Rat) : Prop := ∀ q ∈ l, Sm q
theorem Sm.zero : Sm 0 := by
  constructor <;> decide
theorem Sm.one : Sm 1 := by
  constructor <;> decide
theorem SmL.getD {l : List Rat} (h : SmL l) (k : Nat) : Sm (l.getD k 0) := by
  rw [List.getD_eq_getElem?_getD]
  by_cases hk : k < l.length
  · rw [List.getElem?_eq_getElem hk]
    exact h _ (List.getElem_mem hk)
  · rw [List.getElem?_eq_none (by omega)]
    exact Sm.zero
def padd (a b : List Rat) : List Rat := (List.range (max a.length b.length)).map fun k => a.getD k 0 + b.getD k 0
def psub (a b : List Rat) : List Rat := (List.range (max a.length b.length)).map fun k => a.getD k 0 - b.getD k 0
theorem encs_map (f : Nat → Rat) (n : Nat) : (List.range n).map (fun k => enc (f k)) = encs ((List.range n).map f) := by
  unfold encs
  rw [List.map_map]
  rfl
theorem l14 {m : Nat} (hm : 4 ≤ m) {a b : List Rat} (ha : SmL a) (hb : SmL b) (la : a.length < 500) (lb : b.length < 500) : C m 14 [encP a, encP b] (encP (trim (padd a b))) := mk 3 hm rfl rfl (by simp [D.clos, clo_encP]) (clo_encP _) fun n hn => by
  have h1 : exS Γ (run Γ W n) W (.asg (.tg (.name 2)) (.bi .max2 [(.bi .len [(.var 0 false)] false), (.bi .len [(.var 1 false)] false)] false)) [some (encP a), some (encP b), Option.none, Option.none] [] = some (.next, [some (encP a), some (encP b), some (.int ((max a.length b.length : Nat) : Int)), Option.none], []) := by
    simp only [evE, evL, evC, bnd, bndS, var0, varS, exS, exB, asD, tgD, tgsD, ne_int, eq_int, lt_int, gt_int, ge_int, le_int, add_int, sub_int, abs_int, int_int, idx0, idx1, tup1, tup2, tup3, Option.map_some, len_of (x := encP a) (l := encs a) (.inr rfl), len_of (x := encP b) (l := encs b) (.inr rfl), encs_len, max_int]
    rfl
  have h2 : exS Γ (run Γ W n) W (.ret (.call 11 [(.lc (.call 6 [(.call 13 [(.var 0 false), (.var 3 false)]), (.call 13 [(.var 1 false), (.var 3 false)])]) (.name 3) 1 [(.var 2 false)] [] [3] false)])) [some (encP a), some (encP b), some (.int ((max a.length b.length : Nat) : Int)), Option.none] [] = some (.ret (encP (trim (padd a b))), [some (encP a), some (encP b), some (.int ((max a.length b.length : Nat) : Int)), Option.none], []) := by
    have e := lc_range (F := run Γ W n) (elt := .call 6 [(.call 13 [(.var 0 false), (.var 3 false)]), (.call 13 [(.var 1 false), (.var 3 false)])]) (e := .var 2 false) (i := 3) (c := false) (ρ := [some (encP a), some (encP b), some (.int ((max a.length b.length : Nat) : Int)), Option.none]) (s := []) (n := max a.length b.length) (y := fun k => enc (a.getD k 0 + b.getD k 0)) (by simp) (by omega) (by simp only [evE, evL, evC, bnd, bndS, var0, varS, exS, exB, asD, tgD, tgsD, ne_int, eq_int, lt_int, gt_int, ge_int, le_int, add_int, sub_int, abs_int, int_int, idx0, idx1, tup1, tup2, tup3, Option.map_some]) (fun k _ => by
      simp only [List.set, evE, evL, evC, bnd, bndS, var0, varS, exS, exB, asD, tgD, tgsD, ne_int, eq_int, lt_int, gt_int, ge_int, le_int, add_int, sub_int, abs_int, int_int, idx0, idx1, tup1, tup2, tup3, Option.map_some, l13 (show 1 ≤ n by omega) a k [], l13 (show 1 ≤ n by omega) b k [], l6 (show 3 ≤ n by omega) (ha.getD k) (hb.getD k) []])
    rw [encs_map] at e
    exact ex_rete (ev_call1 e (l11 (show 1 ≤ n by omega) (padd a b) (by unfold padd; simp; omega) []))
  exact ⟨_, [], (ex_next h1).trans (ex_ret h2)⟩
theorem l15 {m : Nat} (hm : 4 ≤ m) {a b : List Rat} (ha : SmL a) (hb : SmL b) (la : a.length < 500) (lb : b.length < 500) : C m 15 [encP a, encP b] (encP (trim (psub a b))) := mk 3 hm rfl rfl (by simp [D.clos, clo_encP]) (clo_encP _) fun n hn => by
  have h1 : exS Γ (run Γ W n) W (.asg (.tg (.name 2)) (.bi .max2 [(.bi .len [(.var 0 false)] false), (.bi .len [(.var 1 false)] false)] false)) [some (encP a), some (encP b), Option.none, Option.none] [] = some (.next, [some (encP a), some (encP b), some (.int ((max a.length b.length : Nat) : Int)), Option.none], []) := by
    simp only [evE, evL, evC, bnd, bndS, var0, varS, exS, exB, asD, tgD, tgsD, ne_int, eq_int, lt_int, gt_int, ge_int, le_int, add_int, sub_int, abs_int, int_int, idx0, idx1, tup1, tup2, tup3, Option.map_some, len_of (x := encP a) (l := encs a) (.inr rfl), len_of (x := encP b) (l := encs b) (.inr rfl), encs_len, max_int]
    rfl
  have h2 : exS Γ (run Γ W n) W (.ret (.call 11 [(.lc (.call 7 [(.call 13 [(.var 0 false), (.var 3 false)]), (.call 13 [(.var 1 false), (.var 3 false)])]) (.name 3) 1 [(.var 2 false)] [] [3] false)])) [some (encP a), some (encP b), some (.int ((max a.length b.length : Nat) : Int)), Option.none] [] = some (.ret (encP (trim (psub a b))), [some (encP a), some (encP b), some (.int ((max a.length b.length : Nat) : Int)), Option.none], []) := by
    have e := lc_range (F := run Γ W n) (elt := .call 7 [(.call 13 [(.var 0 false), (.var 3 false)]), (.call 13 [(.var 1 false), (.var 3 false)])]) (e := .var 2 false) (i := 3) (c := false) (ρ := [some (encP a), some (encP b), some (.int ((max a.length b.length : Nat) : Int)), Option.none]) (s := []) (n := max a.length b.length) (y := fun k => enc (a.getD k 0 - b.getD k 0)) (by simp) (by omega) (by simp only [evE, evL, evC, bnd, bndS, var0, varS, exS, exB, asD, tgD, tgsD, ne_int, eq_int, lt_int, gt_int, ge_int, le_int, add_int, sub_int, abs_int, int_int, idx0, idx1, tup1, tup2, tup3, Option.map_some]) (fun k _ => by
      simp only [List.set, evE, evL, evC, bnd, bndS, var0, varS, exS, exB, asD, tgD, tgsD, ne_int, eq_int, lt_int, gt_int, ge_int, le_int, add_int, sub_int, abs_int, int_int, idx0, idx1, tup1, tup2, tup3, Option.map_some, l13 (show 1 ≤ n by omega) a k [], l13 (show 1 ≤ n by omega) b k [], l7 (show 3 ≤ n by omega) (ha.getD k) (hb.getD k) []])
    rw [encs_map] at e
    exact ex_rete (ev_call1 e (l11 (show 1 ≤ n by omega) (psub a b) (by unfold psub; simp; omega) []))
  exact ⟨_, [], (ex_next h1).trans (ex_ret h2)⟩
end Pk32
end

section
set_option Elab.async false
set_option linter.all false
set_option maxRecDepth 100000
set_option maxHeartbeats 4000000
namespace Pk32
open PySem DL Gk32
/-! ### sizes -/
/-- a fraction over M of at most N -/
def Bd (M N : Nat) (q : Rat) : Prop := ∃ z : Int, q * (M : Rat) = (z : Rat) ∧ z.natAbs ≤ N
theorem Bd.zero (M N : Nat) : Bd M N 0 := ⟨0, by grind, Nat.zero_le _⟩
theorem Bd.mono {M N N' : Nat} {q : Rat} (h : Bd M N q) (e : N ≤ N') : Bd M N' q := let ⟨z, h1, h2⟩ := h; ⟨z, h1, Nat.le_trans h2 e⟩
theorem Bd.add {M N N' : Nat} {p q : Rat} (h : Bd M N p) (h' : Bd M N' q) : Bd M (N + N') (p + q) := by
  obtain ⟨z, h1, h2⟩ := h
  obtain ⟨y, h3, h4⟩ := h'
  refine ⟨z + y, ?_, by omega⟩
  rw [Rat.intCast_add, ← h1, ← h3]
  grind
theorem Bd.mul {M M' N N' : Nat} {p q : Rat} (h : Bd M N p) (h' : Bd M' N' q) : Bd (M * M') (N * N') (p * q) := by
  obtain ⟨z, h1, h2⟩ := h
  obtain ⟨y, h3, h4⟩ := h'
  refine ⟨z * y, ?_, ?_⟩
  · rw [Rat.intCast_mul, ← h1, ← h3, Rat.natCast_mul]
    grind
  · rw [Int.natAbs_mul]
    exact Nat.mul_le_mul h2 h4
theorem Bd.lift {M N k : Nat} {q : Rat} (h : Bd M N q) : Bd (M * k) (N * k) q := by
  obtain ⟨z, h1, h2⟩ := h
  refine ⟨z * k, ?_, ?_⟩
  · rw [Rat.intCast_mul, ← h1, Rat.natCast_mul, Rat.intCast_natCast]
    grind
  · rw [Int.natAbs_mul]
    exact Nat.mul_le_mul h2 (by simp)
theorem num_den (q : Rat) : q * (q.den : Rat) = (q.num : Rat) := by
  have h : (q.den : Rat) ≠ 0 := by
    intro e
    have : ((q.den : Nat) : Rat) = ((0 : Nat) : Rat) := e
    exact q.den_nz (Rat.natCast_inj.mp this)
  have e : q = (q.num : Rat) / (q.den : Rat) := by
    rw [← Rat.mkRat_eq_div]
    exact (Rat.mkRat_self q).symm
  have : (q.num : Rat) / (q.den : Rat) * (q.den : Rat) = (q.num : Rat) := by
    rw [Rat.div_mul_cancel h]
  rw [← e] at this
  exact this
theorem Bd.size {M N : Nat} {q : Rat} (h : Bd M N q) (hM : 0 < M) : q.num.natAbs ≤ N ∧ q.den ≤ M := by
  obtain ⟨z, h1, h2⟩ := h
  have e : q.num * (M : Int) = z * (q.den : Int) := by
    have : ((q.num * (M : Int) : Int) : Rat) = ((z * (q.den : Int) : Int) : Rat) := by
      rw [Rat.intCast_mul, Rat.intCast_mul, ← num_den, ← h1, Rat.intCast_natCast, Rat.intCast_natCast]
      grind
    exact Rat.intCast_inj.mp this
  have e2 : q.num.natAbs * M = z.natAbs * q.den := by
    have := congrArg Int.natAbs e
    rw [Int.natAbs_mul, Int.natAbs_mul] at this
    simpa using this
  have d : q.den ∣ M := by
    refine Nat.Coprime.dvd_of_dvd_mul_left (m := q.num.natAbs) q.reduced.symm ?_
    rw [e2]
    exact Nat.dvd_mul_left ..
  have d2 := Nat.le_of_dvd hM d
  refine ⟨?_, d2⟩
  have : q.num.natAbs * M ≤ z.natAbs * M := by
    rw [e2]
    exact Nat.mul_le_mul_left _ d2
  exact Nat.le_trans (Nat.le_of_mul_le_mul_right this hM) h2
theorem Bd.sm {M N : Nat} {q : Rat} (h : Bd M N q) (hM : 0 < M) (h1 : M < 2 ^ 120) (h2 : N < 2 ^ 120) : Sm q := ⟨Nat.lt_of_le_of_lt (h.size hM).1 h2, Nat.lt_of_le_of_lt (h.size hM).2 h1⟩
def BdL (M N : Nat) (l : List Rat) : Prop := ∀ q ∈ l, Bd M N q
theorem BdL.getD {M N : Nat} {l : List Rat} (h : BdL M N l) (k : Nat) : Bd M N (l.getD k 0) := by
  rw [List.getD_eq_getElem?_getD]
  by_cases hk : k < l.length
  · rw [List.getElem?_eq_getElem hk]
    exact h _ (List.getElem_mem hk)
  · rw [List.getElem?_eq_none (by omega)]
    exact .zero ..
theorem BdL.sm {M N : Nat} {l : List Rat} (h : BdL M N l) (hM : 0 < M) (h1 : M < 2 ^ 120) (h2 : N < 2 ^ 120) : SmL l := fun q m => (h q m).sm hM h1 h2
theorem dz_sub : ∀ (l : List Rat), ∀ q ∈ dz l, q ∈ l
  | [], _, m => m
  | a :: l, q, m => by
    rw [dz] at m
    split at m
    · exact List.mem_cons_of_mem _ (dz_sub l q m)
    · exact m
theorem dz_len : ∀ (l : List Rat), (dz l).length ≤ l.length
  | [] => Nat.le_refl _
  | a :: l => by
    rw [dz]
    split
    · exact Nat.le_trans (dz_len l) (Nat.le_succ _)
    · exact Nat.le_refl _
theorem trim_sub {l : List Rat} {q : Rat} (m : q ∈ trim l) : q ∈ l := by
  unfold trim at m
  rw [List.mem_reverse] at m
  have := dz_sub _ _ m
  rwa [List.mem_reverse] at this
theorem trim_len (l : List Rat) : (trim l).length ≤ l.length := by
  unfold trim
  rw [List.length_reverse]
  have := dz_len l.reverse
  rwa [List.length_reverse] at this
theorem BdL.trim {M N : Nat} {l : List Rat} (h : BdL M N l) : BdL M N (trim l) := fun q m => h q (trim_sub m)
/-! ### products -/
def tStep (a b : List Rat) (i : Nat) (fo : List Rat) (j : Nat) : List Rat := fo.set (i + j) (fo.getD (i + j) 0 + a.getD i 0 * b.getD j 0)
def tRow (a b : List Rat) (fo : List Rat) (i : Nat) : List Rat := (List.range b.length).foldl (tStep a b i) fo
def tAll (a b : List Rat) : List Rat := (List.range a.length).foldl (tRow a b) (List.replicate (a.length + b.length) 0)
def pmul (a b : List Rat) : List Rat := trim (tAll a b)
def bT2 (kp kt : Nat) : List S := [.asg (.sub (.var 2 false) (.bin .add (.var 3 false) (.var 4 false) false)) (.call kp [(.idx (.var 2 false) (.bin .add (.var 3 false) (.var 4 false) false)), (.call kt [(.idx (.var 0 false) (.var 3 false)), (.idx (.var 1 false) (.var 4 false))])])]
def bT1 (kp kt : Nat) : List S := [.for_ (.name 4) 1 [(.bi .len [(.var 1 false)] false)] (bT2 kp kt)]
def fTimesP (kp kt kc : Nat) : Fn := ⟨5, 2, [.asg (.tg (.name 2)) (.bin .mul (.lst [(.tup [(.const (.int 0)), (.const (.int 1))])] false) (.bin .add (.bi .len [(.var 0 false)] false) (.bi .len [(.var 1 false)] false) false) true),
    .for_ (.name 3) 1 [(.bi .len [(.var 0 false)] false)] (bT1 kp kt), .ret (.call kc [(.var 2 true)])]⟩
theorem encs_set (l : List Rat) (k : Nat) (q : Rat) : (encs l).set k (enc q) = encs (l.set k q) := by
  unfold encs
  rw [List.map_set]
theorem set_cell {l : List Rat} {k : Nat} {q : Rat} (h : k < l.length) : setD [.lst (encs l)] (.ref 0) (.int k) (enc q) = some [.lst (encs (l.set k q))] := by
  have e : ixOf (encs l).length k = some k := by
    unfold ixOf
    rw [encs_len, if_pos (by omega), if_pos (by omega)]
    rfl
  unfold setD
  dsimp only [List.getElem?_cons_zero]
  rw [e]
  dsimp only
  rw [encs_set]
  rfl
theorem bd_set {M N : Nat} {l : List Rat} {k : Nat} {q : Rat} (h : BdL M N l) (hq : Bd M N q) : BdL M N (l.set k q) := fun z m => by
  rcases List.mem_or_eq_of_mem_set m with m | rfl
  · exact h z m
  · exact hq
abbrev PlusOk (k : Nat) : Prop := ∀ {m : Nat}, 3 ≤ m → ∀ {p q : Rat}, Sm p → Sm q → C m k [enc p, enc q] (enc (p + q))
abbrev TimesOk (k : Nat) : Prop := ∀ {m : Nat}, 3 ≤ m → ∀ {p q : Rat}, Sm p → Sm q → C m k [enc p, enc q] (enc (p * q))
abbrev CutOk (k : Nat) : Prop := ∀ {m : Nat}, 1 ≤ m → ∀ (l : List Rat), l.length < 1000 → C m k [.lst (encs l)] (encP (trim l))
/-- sizes of a product -/
structure Fit (a b : List Rat) (M N M' N' : Nat) : Prop where
  ba : BdL M N a
  bb : BdL M' N' b
  p : 0 < M ∧ 0 < M'
  s : M < 2 ^ 120 ∧ N < 2 ^ 120 ∧ M' < 2 ^ 120 ∧ N' < 2 ^ 120 ∧ M * M' < 2 ^ 120 ∧ N * N' < 2 ^ 120 ∧ N * N' * (a.length * b.length) < 2 ^ 120
  l : a.length < 400 ∧ b.length < 400
section
variable {a b : List Rat} {M N M' N' : Nat} (H : Fit a b M N M' N')
include H
theorem step_bd {i j k : Nat} {fo : List Rat} (h : BdL (M * M') (N * N' * k) fo) : BdL (M * M') (N * N' * (k + 1)) (tStep a b i fo j) := by
  unfold tStep
  refine bd_set (fun z m => (h z m).mono (Nat.mul_le_mul_left _ (Nat.le_succ _))) ?_
  exact ((h.getD _).add ((H.ba.getD i).mul (H.bb.getD j))).mono (by rw [Nat.mul_add, Nat.mul_one]; exact Nat.le_refl _)
theorem pos_mm : 0 < M * M' := Nat.mul_pos H.p.1 H.p.2
theorem inner {n kp kt : Nat} (hn : 3 ≤ n) (hp : PlusOk kp) (ht : TimesOk kt) {i : Nat} (hi : i < a.length) {fo : List Rat} (hl : fo.length = a.length + b.length) (hb : BdL (M * M') (N * N' * (i * b.length)) fo) (t : Option D) :
    ∃ t', forGo (lpB (run Γ W n) (.name 4) (bT2 kp kt)) (rangeD 0 b.length) [some (encP a), some (encP b), some (.ref 0), some (.int i), t] [.lst (encs fo)] = some (.next, [some (encP a), some (encP b), some (.ref 0), some (.int i), t'], [.lst (encs (tRow a b fo i))]) ∧ (tRow a b fo i).length = a.length + b.length ∧ BdL (M * M') (N * N' * ((i + 1) * b.length)) (tRow a b fo i) := by
  obtain ⟨ρ', s', e, t', fo', rfl, h1, h2, rfl, rfl⟩ := fg_count (f := lpB (run Γ W n) (.name 4) (bT2 kp kt)) (n := b.length)
    (I := fun k ρ s => ∃ t' fo', fo' = (List.range k).foldl (tStep a b i) fo ∧ fo'.length = a.length + b.length ∧ BdL (M * M') (N * N' * (i * b.length + k)) fo' ∧ ρ = [some (encP a), some (encP b), some (.ref 0), some (.int i), t'] ∧ s = [.lst (encs fo')]) (fun j hj ρ s ⟨t', fo', e1, e2, e3, e4, e5⟩ => by
      subst e4 e5
      refine ⟨_, _, ?_, some (.int j), tStep a b i fo' j, ?_, ?_, step_bd H e3, rfl, rfl⟩
      · rw [lpB_name (by simp)]
        refine (ex_next ?_).trans ex_nil
        have hs : i * b.length + j < a.length * b.length := by
          have : (i + 1) * b.length ≤ a.length * b.length := Nat.mul_le_mul_right _ hi
          rw [Nat.add_mul, Nat.one_mul] at this
          omega
        have z1 : Sm (fo'.getD (i + j) 0) := (e3.getD (i + j)).sm (pos_mm H) H.s.2.2.2.2.1 (Nat.lt_of_le_of_lt (Nat.mul_le_mul_left _ (Nat.le_of_lt hs)) H.s.2.2.2.2.2.2)
        have z2 : Sm (a.getD i 0 * b.getD j 0) := ((H.ba.getD i).mul (H.bb.getD j)).sm (pos_mm H) H.s.2.2.2.2.1 H.s.2.2.2.2.2.1
        have z3 : Sm (a.getD i 0) := (H.ba.getD i).sm H.p.1 H.s.1 H.s.2.1
        have z4 : Sm (b.getD j 0) := (H.bb.getD j).sm H.p.2 H.s.2.2.1 H.s.2.2.2.1
        have k1 : gIdx (.ref 0) (.int ((i + j : Nat) : Int)) [.lst (encs fo')] = some (enc (fo'.getD (i + j) 0), [.lst (encs fo')]) := idx_at (.inl rfl) (by omega)
        have k2 : gIdx (encP a) (.int (i : Int)) [.lst (encs fo')] = some (enc (a.getD i 0), [.lst (encs fo')]) := idx_at (.inr rfl) hi
        have k3 : gIdx (encP b) (.int (j : Int)) [.lst (encs fo')] = some (enc (b.getD j 0), [.lst (encs fo')]) := idx_at (.inr rfl) hj
        have k4 : ((i : Int) + (j : Int)) = ((i + j : Nat) : Int) := by omega
        simp only [List.set, evE, evL, evC, bnd, bndS, var0, varS, exS, exB, asD, tgD, tgsD, ne_int, eq_int, lt_int, gt_int, ge_int, le_int, add_int, sub_int, abs_int, int_int, idx0, idx1, tup1, tup2, tup3, Option.map_some, k4, k1, k2, k3, ht (show 3 ≤ n by omega) z3 z4 [.lst (encs fo')], hp (show 3 ≤ n by omega) z1 z2 [.lst (encs fo')]]
        rw [set_cell (by omega)]
        rfl
      · rw [List.range_succ, List.foldl_append, ← e1]
        rfl
      · unfold tStep
        rw [List.length_set]
        exact e2) ⟨t, fo, rfl, hl, hb, rfl, rfl⟩
  refine ⟨t', e, h1, ?_⟩
  rw [Nat.add_mul, Nat.one_mul]
  exact h2
theorem outer {n kp kt : Nat} (hn : 3 ≤ n) (hp : PlusOk kp) (ht : TimesOk kt) : ∃ t3 t4, forGo (lpB (run Γ W n) (.name 3) (bT1 kp kt)) (rangeD 0 a.length) [some (encP a), some (encP b), some (.ref 0), Option.none, Option.none] [.lst (encs (List.replicate (a.length + b.length) 0))] = some (.next, [some (encP a), some (encP b), some (.ref 0), t3, t4], [.lst (encs (tAll a b))]) ∧ (tAll a b).length = a.length + b.length ∧ BdL (M * M') (N * N' * (a.length * b.length)) (tAll a b) := by
  obtain ⟨ρ', s', e, t3, t4, fo', rfl, h1, h2, rfl, rfl⟩ := fg_count (f := lpB (run Γ W n) (.name 3) (bT1 kp kt)) (n := a.length)
    (I := fun k ρ s => ∃ t3 t4 fo', fo' = (List.range k).foldl (tRow a b) (List.replicate (a.length + b.length) 0) ∧ fo'.length = a.length + b.length ∧ BdL (M * M') (N * N' * (k * b.length)) fo' ∧ ρ = [some (encP a), some (encP b), some (.ref 0), t3, t4] ∧ s = [.lst (encs fo')]) (fun i hi ρ s ⟨t3, t4, fo', e1, e2, e3, e4, e5⟩ => by
      subst e4 e5
      obtain ⟨t', f1, f2, f3⟩ := inner H hn hp ht hi e2 e3 t4
      refine ⟨_, _, ?_, some (.int i), t', tRow a b fo' i, ?_, f2, f3, rfl, rfl⟩
      · rw [lpB_name (by simp)]
        refine (ex_next (for_range2 (n := b.length) (by have := H.l; omega) ?_ f1)).trans ex_nil
        simp only [List.set, evE, evL, evC, bnd, bndS, var0, varS, exS, exB, asD, tgD, tgsD, ne_int, eq_int, lt_int, gt_int, ge_int, le_int, add_int, sub_int, abs_int, int_int, idx0, idx1, tup1, tup2, tup3, Option.map_some]
        rw [len_of (l := encs b) (.inr rfl), encs_len]
      · rw [List.range_succ, List.foldl_append, ← e1]
        rfl) ⟨Option.none, Option.none, _, rfl, List.length_replicate .., fun q m => by
          rw [List.eq_of_mem_replicate m]
          exact .zero .., rfl, rfl⟩
  exact ⟨t3, t4, e, h1, h2⟩
theorem reps_encs : ∀ n : Nat, reps n [enc 0] = encs (List.replicate n 0)
  | 0 => rfl
  | n + 1 => by
    rw [reps, reps_encs n, List.replicate_succ]
    rfl
theorem lTimesP {m f kp kt kc : Nat} (hm : 4 ≤ m) (hf : Γ.fns[f]? = some (fTimesP kp kt kc)) (hp : PlusOk kp) (ht : TimesOk kt) (hc : CutOk kc) : C m f [encP a, encP b] (encP (pmul a b)) := mk 3 hm hf rfl (by simp [D.clos, clo_encP]) (clo_encP _) fun n hn => by
  obtain ⟨t3, t4, e, h1, _⟩ := outer H hn hp ht
  have hl := H.l
  have s1 : exS Γ (run Γ W n) W (.asg (.tg (.name 2)) (.bin .mul (.lst [(.tup [(.const (.int 0)), (.const (.int 1))])] false) (.bin .add (.bi .len [(.var 0 false)] false) (.bi .len [(.var 1 false)] false) false) true)) [some (encP a), some (encP b), Option.none, Option.none, Option.none] [] = some (.next, [some (encP a), some (encP b), some (.ref 0), Option.none, Option.none], [.lst (encs (List.replicate (a.length + b.length) 0))]) := by
    refine (ex_asg (by simp) (d := .ref 0) (s1 := [.lst (encs (List.replicate (a.length + b.length) 0))]) ?_).trans rfl
    simp only [evE, evL, evC, bnd, bndS, var0, varS, exS, exB, asD, tgD, tgsD, ne_int, eq_int, lt_int, gt_int, ge_int, le_int, add_int, sub_int, abs_int, int_int, idx0, idx1, tup1, tup2, tup3, Option.map_some, len_of (x := encP a) (l := encs a) (.inr rfl), len_of (x := encP b) (l := encs b) (.inr rfl), encs_len]
    rw [show gLst false [D.tup [D.int 0, D.int 1]] ([] : Sto) = some (.lst [enc 0], []) from rfl]
    have k4 : ((a.length : Int) + (b.length : Int)) = ((a.length + b.length : Nat) : Int) := by omega
    dsimp only
    rw [k4]
    show (match (if decide (-1000 ≤ ((a.length + b.length : Nat) : Int)) && decide (((a.length + b.length : Nat) : Int) ≤ 1000) && decide ([enc 0].length ≤ 1000) then some (D.lst (reps ((a.length + b.length : Nat) : Int).toNat [enc 0])) else Option.none) with
      | some z => some (laid true z [])
      | Option.none => Option.none) = _
    rw [if_pos (by rw [decide_eq_true (show (-1000 : Int) ≤ ((a.length + b.length : Nat) : Int) by omega), decide_eq_true (show ((a.length + b.length : Nat) : Int) ≤ 1000 by omega)]; rfl), Int.toNat_natCast, reps_encs]
    rfl
    exact H
  have s2 : exS Γ (run Γ W n) W (.for_ (.name 3) 1 [(.bi .len [(.var 0 false)] false)] (bT1 kp kt)) [some (encP a), some (encP b), some (.ref 0), Option.none, Option.none] [.lst (encs (List.replicate (a.length + b.length) 0))] = some (.next, [some (encP a), some (encP b), some (.ref 0), t3, t4], [.lst (encs (tAll a b))]) := by
    refine for_range2 (n := a.length) (by omega) ?_ e
    simp only [evE, evL, evC, bnd, bndS, var0, varS, exS, exB, asD, tgD, tgsD, ne_int, eq_int, lt_int, gt_int, ge_int, le_int, add_int, sub_int, abs_int, int_int, idx0, idx1, tup1, tup2, tup3, Option.map_some]
    rw [len_of (l := encs a) (.inr rfl), encs_len]
  have s3 : exS Γ (run Γ W n) W (.ret (.call kc [(.var 2 true)])) [some (encP a), some (encP b), some (.ref 0), t3, t4] [.lst (encs (tAll a b))] = some (.ret (encP (pmul a b)), [some (encP a), some (encP b), some (.ref 0), t3, t4], [.dead]) := 
    ex_rete (ev_call1 (x := .lst (encs (tAll a b))) (s1 := [.dead]) (by simp only [evE]; rfl) (hc (show 1 ≤ n by omega) (tAll a b) (by omega) _))
  exact ⟨_, _, (ex_next s1).trans ((ex_next s2).trans (ex_ret s3))⟩
theorem l16 {m : Nat} (hm : 4 ≤ m) : C m 16 [encP a, encP b] (encP (pmul a b)) := lTimesP H hm rfl l6 l8 l11
theorem l92 {m : Nat} (hm : 4 ≤ m) : C m 92 [encP a, encP b] (encP (pmul a b)) := lTimesP H hm rfl l86 l88 l89
theorem pmul_bd : BdL (M * M') (N * N' * (a.length * b.length)) (pmul a b) := (outer H (n := 3) (Nat.le_refl _) l6 l8).choose_spec.choose_spec.2.2.trim
theorem tAll_len : (tAll a b).length = a.length + b.length := (outer H (n := 3) (Nat.le_refl _) l6 l8).choose_spec.choose_spec.2.1
theorem pmul_len : (pmul a b).length ≤ a.length + b.length := by
  have := trim_len (tAll a b)
  rw [tAll_len H] at this
  exact this
end
end Pk32
end

section
set_option Elab.async false
set_option linter.all false
set_option maxRecDepth 100000
set_option maxHeartbeats 4000000
namespace Pk32
open PySem DL Gk32
/-! ### values -/
def hv (x : Rat) : List Rat → Rat
  | [] => 0
  | q :: r => q + x * hv x r
theorem hv_snoc (x : Rat) (q : Rat) : ∀ l : List Rat, hv x (l ++ [q]) = hv x l + q * x ^ l.length
  | [] => by
    show q + x * 0 = 0 + q * x ^ 0
    grind
  | p :: l => by
    show p + x * hv x (l ++ [q]) = p + x * hv x l + q * x ^ (l.length + 1)
    rw [hv_snoc x q l, Rat.pow_succ]
    grind
theorem pow_bd {x : Rat} {Ma Na : Nat} (h : Bd Ma Na x) : ∀ t : Nat, Bd (Ma ^ t) (Na ^ t) (x ^ t)
  | 0 => ⟨1, by
    rw [Rat.pow_zero]
    simp, by simp⟩
  | t + 1 => by
    rw [Rat.pow_succ, Nat.pow_succ, Nat.pow_succ]
    exact (pow_bd h t).mul h
theorem hv_bd {x : Rat} {M N Ma Na : Nat} (hx : Bd Ma Na x) (le : Ma ≤ Na) : ∀ l : List Rat, BdL M N l → Bd (M * Ma ^ l.length) (N * l.length * Na ^ l.length) (hv x l)
  | [], _ => .zero ..
  | q :: l, h => by
    have h1 := hx.mul (hv_bd hx le l fun z m => h z (List.mem_cons_of_mem _ m))
    have h2 := (h q (List.mem_cons_self ..)).lift (k := Ma ^ (l.length + 1))
    have e1 : Ma * (M * Ma ^ l.length) = M * Ma ^ (l.length + 1) := by rw [Nat.pow_succ, ← Nat.mul_assoc, Nat.mul_comm Ma M, Nat.mul_assoc, Nat.mul_comm Ma]
    rw [e1] at h1
    refine (h2.add h1).mono ?_
    rw [List.length_cons]
    have e2 : Na * (N * l.length * Na ^ l.length) = N * l.length * Na ^ (l.length + 1) := by rw [Nat.pow_succ, ← Nat.mul_assoc, Nat.mul_comm Na, Nat.mul_assoc, Nat.mul_comm Na]
    have e3 : N * Ma ^ (l.length + 1) ≤ N * Na ^ (l.length + 1) := Nat.mul_le_mul_left _ (Nat.pow_le_pow_left le _)
    have e4 : N * (l.length + 1) * Na ^ (l.length + 1) = N * l.length * Na ^ (l.length + 1) + N * Na ^ (l.length + 1) := by rw [Nat.mul_add, Nat.mul_one, Nat.add_mul]
    omega
/-- sizes of a value -/
structure FitV (l : List Rat) (x : Rat) (M N Ma Na : Nat) : Prop where
  b : BdL M N l
  x : Bd Ma Na x
  p : 0 < M ∧ 0 < Ma ∧ Ma ≤ Na
  s : M * Ma ^ l.length < 2 ^ 120 ∧ N * (l.length + 1) * Na ^ l.length < 2 ^ 120 ∧ Ma ^ l.length < 2 ^ 120 ∧ Na ^ l.length < 2 ^ 120 ∧ Ma < 2 ^ 120 ∧ Na < 2 ^ 120 ∧ M < 2 ^ 120 ∧ N < 2 ^ 120
  l : l.length < 1000
section
variable {l : List Rat} {x : Rat} {M N Ma Na : Nat} (H : FitV l x M N Ma Na)
include H
theorem fv_sm {t a : Nat} {q : Rat} (ht : t ≤ l.length) (ha : a ≤ l.length + 1) (h : Bd (M * Ma ^ t) (N * a * Na ^ t) q) : Sm q := by
  refine h.sm (Nat.mul_pos H.p.1 (Nat.pow_pos H.p.2.1)) (Nat.lt_of_le_of_lt (Nat.mul_le_mul_left _ (Nat.pow_le_pow_right H.p.2.1 ht)) H.s.1) (Nat.lt_of_le_of_lt ?_ H.s.2.1)
  exact Nat.mul_le_mul (Nat.mul_le_mul_left _ ha) (Nat.pow_le_pow_right (Nat.lt_of_lt_of_le H.p.2.1 H.p.2.2) ht)
theorem fv_x {t : Nat} (ht : t ≤ l.length) : Sm (x ^ t) :=
  (pow_bd H.x t).sm (Nat.pow_pos H.p.2.1) (Nat.lt_of_le_of_lt (Nat.pow_le_pow_right H.p.2.1 ht) H.s.2.2.1) (Nat.lt_of_le_of_lt (Nat.pow_le_pow_right (Nat.lt_of_lt_of_le H.p.2.1 H.p.2.2) ht) H.s.2.2.2.1)
theorem fv_at : Sm x := H.x.sm H.p.2.1 H.s.2.2.2.2.1 H.s.2.2.2.2.2.1
theorem fv_q {q : Rat} (m : q ∈ l) : Sm q := (H.b q m).sm H.p.1 H.s.2.2.2.2.2.2.1 H.s.2.2.2.2.2.2.2
theorem fv_hv {r : List Rat} (hr : BdL M N r) (ht : r.length ≤ l.length) : Sm (hv x r) := fv_sm H ht (by omega) (hv_bd H.x H.p.2.2 r hr)
theorem fv_hx {r : List Rat} (hr : BdL M N r) (ht : r.length < l.length) : Sm (hv x r * x) := by
  have z := (hv_bd H.x H.p.2.2 r hr).mul H.x
  have e1 : M * Ma ^ r.length * Ma = M * Ma ^ (r.length + 1) := by rw [Nat.pow_succ, Nat.mul_assoc]
  have e2 : N * r.length * Na ^ r.length * Na = N * r.length * Na ^ (r.length + 1) := by rw [Nat.pow_succ, Nat.mul_assoc]
  rw [e1, e2] at z
  exact fv_sm H (t := r.length + 1) (by omega) (by omega) z
theorem fv_qx {q : Rat} (m : q ∈ l) {t : Nat} (ht : t ≤ l.length) : Sm (q * x ^ t) := by
  have z := (H.b q m).mul (pow_bd H.x t)
  have z : Bd (M * Ma ^ t) (N * 1 * Na ^ t) (q * x ^ t) := by rw [Nat.mul_one]; exact z
  exact fv_sm H ht (by omega) z
end
theorem for_tup {F : DL.Fun} {tg : Tg} {e : E} {body : List S} {ρ ρ' : Rho} {s s1 s2 : Sto} {xs : List D} {fl : Fl} (he : evE Γ F e ρ s = some (.tup xs, s1)) (h : forGo (lpB F tg body) xs ρ s1 = some (fl, ρ', s2)) :
    exS Γ F W (.for_ tg 0 [e] body) ρ s = some (fl, ρ', s2) := by
  have z : exS Γ F W (.for_ tg 0 [e] body) ρ s = bndS (evL Γ F [e] ρ s) fun xs s1 => forAll 0 (lpB F tg body) xs ρ s1 := by
    rw [exS]
    rfl
  rw [z]
  have y : evL Γ F [e] ρ s = some ([.tup xs], s1) := by simp only [evL, bnd, he]
  rw [y]
  show freed [] (forGo (lpB F tg body) xs ρ s1) = _
  rw [h]
  rfl
theorem encs_get (l : List Rat) (j : Nat) (h : j < (encs l).length) : (encs l)[j] = enc (l[j]'(by rwa [encs_len] at h)) := by
  exact List.getElem_map ..
/-! poly_value -/
def b17 : List S := [.asg (.tg (.name 2)) (.call 6 [(.call 8 [(.var 2 false), (.var 1 false)]), (.var 3 false)])]
theorem enc_top (q : Rat) : enc q = .tup [.int q.num, .int q.den] := rfl
theorem l17 {m : Nat} (hm : 4 ≤ m) {l : List Rat} {x : Rat} {M N Ma Na : Nat} (H : FitV l x M N Ma Na) : C m 17 [encP l, enc x] (enc (hv x l)) := mk 3 hm rfl rfl (by simp [D.clos, clo_encP]; rfl) rfl fun n hn => by
  obtain ⟨ρ', s', e, t3, rfl, rfl⟩ := fg_inv (f := lpB (run Γ W n) (.name 3) b17)
    (I := fun k ρ s => ∃ t3, ρ = [some (encP l), some (enc x), some (enc (hv x (l.drop (l.length - k)))), t3] ∧ s = []) (encs l.reverse) 0 (fun j hj ρ s ⟨t3, e1, e2⟩ => by
      subst e1 e2
      rw [encs_get]
      rw [encs_len, List.length_reverse] at hj
      have hg : l.reverse[j]'(by rw [List.length_reverse]; exact hj) = l[l.length - 1 - j]'(by omega) := List.getElem_reverse ..
      rw [hg]
      have hq : l[l.length - 1 - j]'(by omega) ∈ l := List.getElem_mem ..
      have ed : l.drop (l.length - (j + 1)) = l[l.length - 1 - j]'(by omega) :: l.drop (l.length - j) := by
        have := List.drop_eq_getElem_cons (l := l) (i := l.length - 1 - j) (by omega)
        rw [show l.length - (j + 1) = l.length - 1 - j by omega, this]
        congr 2
        omega
      have bd : BdL M N (l.drop (l.length - j)) := fun q m => H.b q (List.mem_of_mem_drop m)
      have dl : (l.drop (l.length - j)).length = j := by
        rw [List.length_drop]
        omega
      refine ⟨[some (encP l), some (enc x), some (enc (hv x (l.drop (l.length - (j + 1))))), some (enc (l[l.length - 1 - j]'(by omega)))], [], ?_, some (enc (l[l.length - 1 - j]'(by omega))), ?_, rfl⟩
      · rw [lpB_name (by simp)]
        exact (ex_next (ρ' := [some (encP l), some (enc x), some (enc (hv x (l.drop (l.length - (j + 1))))), some (enc (l[l.length - 1 - j]'(by omega)))]) (s' := []) (ex_asg (d := enc (hv x (l.drop (l.length - (j + 1))))) (s1 := []) (by simp) (by
          simp only [List.set, Nat.zero_add]
          simp only [evE, evL, evC, bnd, bndS, var0, varS, exS, exB, asD, tgD, tgsD, ne_int, eq_int, lt_int, gt_int, ge_int, le_int, add_int, sub_int, abs_int, int_int, idx0, idx1, tup1, tup2, tup3, Option.map_some, l8 (show 3 ≤ n by omega) (fv_hv H bd (by omega)) (fv_at H) [], l6 (show 3 ≤ n by omega) (fv_hx H bd (by omega)) (fv_q H hq) []]
          rw [ed]
          show some (enc (hv x (l.drop (l.length - j)) * x + l[l.length - 1 - j]'(by omega)), ([] : Sto)) = some (enc (l[l.length - 1 - j]'(by omega) + x * hv x (l.drop (l.length - j))), [])
          congr 3
          grind))).trans ex_nil
      · simp only [Nat.zero_add]) (ρ := [some (encP l), some (enc x), some (enc 0), Option.none]) (s := []) ⟨Option.none, by rw [Nat.sub_zero, List.drop_length]; rfl, rfl⟩
  have fin : l.drop (l.length - (0 + (encs l.reverse).length)) = l := by
    rw [encs_len, List.length_reverse, Nat.zero_add, Nat.sub_self]
    rfl
  rw [fin] at e
  have s1 : exS Γ (run Γ W n) W (.asg (.tg (.name 2)) (.tup [(.const (.int 0)), (.const (.int 1))])) [some (encP l), some (enc x), Option.none, Option.none] [] = some (.next, [some (encP l), some (enc x), some (enc 0), Option.none], []) := by
    simp only [evE, evL, evC, bnd, bndS, var0, varS, exS, exB, asD, tgD, tgsD, ne_int, eq_int, lt_int, gt_int, ge_int, le_int, add_int, sub_int, abs_int, int_int, idx0, idx1, tup1, tup2, tup3, Option.map_some]
    rfl
  have s2 : exS Γ (run Γ W n) W (.for_ (.name 3) 0 [(.rev (.var 0 false) false)] b17) [some (encP l), some (enc x), some (enc 0), Option.none] [] = some (.next, [some (encP l), some (enc x), some (enc (hv x l)), t3], []) := by
    refine for_tup ?_ e
    simp only [evE, evL, evC, bnd, bndS, var0, varS, exS, exB, asD, tgD, tgsD, ne_int, eq_int, lt_int, gt_int, ge_int, le_int, add_int, sub_int, abs_int, int_int, idx0, idx1, tup1, tup2, tup3, Option.map_some]
    show some (D.tup (encs l).reverse, ([] : Sto)) = _
    unfold encs
    rw [List.map_reverse]
  exact ⟨_, _, (ex_next s1).trans ((ex_next s2).trans (ex_ret (ex_rete (s1 := []) (by simp only [evE, evL, evC, bnd, bndS, var0, varS, exS, exB, asD, tgD, tgsD, ne_int, eq_int, lt_int, gt_int, ge_int, le_int, add_int, sub_int, abs_int, int_int, idx0, idx1, tup1, tup2, tup3, Option.map_some]))))⟩
/-! _law_at -/
def b91 : List S := [.asg (.tg (.tup [(.name 2), (.name 3)])) (.tup [(.call 86 [(.var 2 false), (.call 88 [(.var 4 false), (.var 3 false)])]), (.call 88 [(.var 3 false), (.var 1 false)])])]
theorem l91 {m : Nat} (hm : 4 ≤ m) {l : List Rat} {x : Rat} {M N Ma Na : Nat} (H : FitV l x M N Ma Na) : C m 91 [encP l, enc x] (enc (hv x l)) := mk 3 hm rfl rfl (by simp [D.clos, clo_encP]; rfl) rfl fun n hn => by
  obtain ⟨ρ', s', e, t3, rfl, rfl⟩ := fg_inv (f := lpB (run Γ W n) (.name 4) b91)
    (I := fun k ρ s => ∃ t3, ρ = [some (encP l), some (enc x), some (enc (hv x (l.take k))), some (enc (x ^ k)), t3] ∧ s = []) (encs l) 0 (fun j hj ρ s ⟨t3, e1, e2⟩ => by
      subst e1 e2
      rw [encs_get]
      rw [encs_len] at hj
      have hq : l[j]'hj ∈ l := List.getElem_mem ..
      have ed : l.take (j + 1) = l.take j ++ [l[j]'hj] := by rw [List.take_succ_eq_append_getElem hj]
      have bd : BdL M N (l.take j) := fun q m => H.b q (List.mem_of_mem_take m)
      have dl : (l.take j).length = j := by
        rw [List.length_take]
        omega
      refine ⟨[some (encP l), some (enc x), some (enc (hv x (l.take (j + 1)))), some (enc (x ^ (j + 1))), some (enc (l[j]'hj))], [], ?_, some (enc (l[j]'hj)), ?_, rfl⟩
      · rw [lpB_name (by simp)]
        refine (ex_next (ρ' := [some (encP l), some (enc x), some (enc (hv x (l.take (j + 1)))), some (enc (x ^ (j + 1))), some (enc (l[j]'hj))]) (s' := []) ?_).trans ex_nil
        simp only [List.set, Nat.zero_add]
        simp only [evE, evL, evC, bnd, bndS, var0, varS, exS, exB, asD, tgD, tgsD, ne_int, eq_int, lt_int, gt_int, ge_int, le_int, add_int, sub_int, abs_int, int_int, idx0, idx1, tup1, tup2, tup3, Option.map_some, l88 (show 3 ≤ n by omega) (fv_q H hq) (fv_x H (t := j) (by omega)) [], l86 (show 3 ≤ n by omega) (fv_hv H bd (by omega)) (fv_qx H hq (t := j) (by omega)) [], l88 (show 3 ≤ n by omega) (fv_x H (t := j) (by omega)) (fv_at H) []]
        rw [ed, hv_snoc, dl, Rat.pow_succ]
        rfl
      · simp only [Nat.zero_add]) (ρ := [some (encP l), some (enc x), some (enc 0), some (enc 1), Option.none]) (s := []) ⟨Option.none, by rw [Rat.pow_zero]; rfl, rfl⟩
  have fin : l.take (0 + (encs l).length) = l := by
    rw [encs_len, Nat.zero_add, List.take_length]
  rw [fin] at e
  have s1 : exS Γ (run Γ W n) W (.asg (.tg (.tup [(.name 2), (.name 3)])) (.tup [(.tup [(.const (.int 0)), (.const (.int 1))]), (.tup [(.const (.int 1)), (.const (.int 1))])])) [some (encP l), some (enc x), Option.none, Option.none, Option.none] [] = some (.next, [some (encP l), some (enc x), some (enc 0), some (enc 1), Option.none], []) := by
    simp only [evE, evL, evC, bnd, bndS, var0, varS, exS, exB, asD, tgD, tgsD, ne_int, eq_int, lt_int, gt_int, ge_int, le_int, add_int, sub_int, abs_int, int_int, idx0, idx1, tup1, tup2, tup3, Option.map_some]
    rfl
  have s2 : exS Γ (run Γ W n) W (.for_ (.name 4) 0 [(.var 0 false)] b91) [some (encP l), some (enc x), some (enc 0), some (enc 1), Option.none] [] = some (.next, [some (encP l), some (enc x), some (enc (hv x l)), some (enc (x ^ (0 + (encs l).length))), t3], []) := for_tup (by simp only [evE, evL, evC, bnd, bndS, var0, varS, exS, exB, asD, tgD, tgsD, ne_int, eq_int, lt_int, gt_int, ge_int, le_int, add_int, sub_int, abs_int, int_int, idx0, idx1, tup1, tup2, tup3, Option.map_some]; rfl) e
  exact ⟨_, _, (ex_next s1).trans ((ex_next s2).trans (ex_ret (ex_rete (s1 := []) (by simp only [evE, evL, evC, bnd, bndS, var0, varS, exS, exB, asD, tgD, tgsD, ne_int, eq_int, lt_int, gt_int, ge_int, le_int, add_int, sub_int, abs_int, int_int, idx0, idx1, tup1, tup2, tup3, Option.map_some]))))⟩
/-! poly_slope -/
def slo (l : List Rat) : List Rat := (List.range (l.length - 1)).map fun j => l.getD (1 + j) 0 * ((1 + j : Nat) : Rat)
theorem enc_nat (k : Nat) : enc (k : Rat) = .tup [.int (k : Nat), .int 1] := by
  unfold enc
  rw [Rat.num_natCast, Rat.den_natCast]
  rfl
theorem sm_nat {k : Nat} (h : k < 2 ^ 120) : Sm (k : Rat) := by
  constructor
  · rw [Rat.num_natCast]
    simpa using h
  · rw [Rat.den_natCast]
    decide
theorem l18 {m : Nat} (hm : 4 ≤ m) {l : List Rat} (hs : SmL l) (hl : l.length < 400) : C m 18 [encP l] (encP (trim (slo l))) := mk 3 hm rfl rfl (by simp [D.clos, clo_encP]) (clo_encP _) fun n hn => by
  have e := lc_range2 (F := run Γ W n) (elt := .call 8 [(.idx (.var 0 false) (.var 1 false)), (.tup [(.var 1 false), (.const (.int 1))])]) (e0 := .const (.int 1)) (e := .bi .len [(.var 0 false)] false) (i := 1) (c := false) (ρ := [some (encP l), Option.none]) (s := []) (a := 1) (n := l.length) (y := fun j => enc (l.getD (1 + j) 0 * ((1 + j : Nat) : Rat))) (by simp) (by omega) (by decide) (by simp only [evE]; rfl) (by
      simp only [evE, evL, evC, bnd, bndS, var0, varS, exS, exB, asD, tgD, tgsD, ne_int, eq_int, lt_int, gt_int, ge_int, le_int, add_int, sub_int, abs_int, int_int, idx0, idx1, tup1, tup2, tup3, Option.map_some]
      rw [len_of (l := encs l) (.inr rfl), encs_len]) (fun k hk => by
      have k1 : gIdx (encP l) (.int ((1 + k : Nat) : Int)) [] = some (enc (l.getD (1 + k) 0), []) := idx_at (.inr rfl) (by omega)
      have z := l8 (show 3 ≤ n by omega) (hs.getD (1 + k)) (sm_nat (k := 1 + k) (by omega)) []
      rw [enc_nat] at z
      simp only [List.set, evE, evL, evC, bnd, bndS, var0, varS, exS, exB, asD, tgD, tgsD, ne_int, eq_int, lt_int, gt_int, ge_int, le_int, add_int, sub_int, abs_int, int_int, idx0, idx1, tup1, tup2, tup3, Option.map_some, k1, z])
  rw [encs_map] at e
  exact ⟨_, _, ex_ret (ex_rete (ev_call1 e (l11 (show 1 ≤ n by omega) (slo l) (by unfold slo; simp; omega) [])))⟩
/-! poly_power -/
def ppow (l : List Rat) : Nat → List Rat
  | 0 => [1]
  | k + 1 => pmul (ppow l k) l
theorem norm11 : Rat.normalize 1 1 (by decide) = 1 := by decide +kernel
theorem l20 {m : Nat} (hm : 5 ≤ m) {l : List Rat} {k : Nat} (hk : k < 1000) (H : ∀ j, j < k → ∃ M N M' N', Fit (ppow l j) l M N M' N') : C m 20 [encP l, .int k] (encP (ppow l k)) := mk 4 hm rfl rfl (by simp [D.clos, D.clo, clo_encP]) (clo_encP _) fun n hn => by
  obtain ⟨ρ', s', e, t3, rfl, rfl⟩ := fg_count (f := lpB (run Γ W n) (.name 3) [.asg (.tg (.name 2)) (.call 16 [(.var 2 false), (.var 0 false)])]) (n := k)
    (I := fun j ρ s => ∃ t3, ρ = [some (encP l), some (.int k), some (encP (ppow l j)), t3] ∧ s = []) (fun j hj ρ s ⟨t3, e1, e2⟩ => by
      subst e1 e2
      obtain ⟨M, N, M', N', h⟩ := H j hj
      refine ⟨_, _, ?_, some (.int j), rfl, rfl⟩
      rw [lpB_name (by simp)]
      refine (ex_next (ex_asg (d := encP (ppow l (j + 1))) (s1 := []) (by simp) ?_)).trans ex_nil
      exact ev_call2 (s1 := []) (s2 := []) (x := encP (ppow l j)) (y := encP l) (by simp only [List.set, evE, evL, evC, bnd, bndS, var0, varS, exS, exB, asD, tgD, tgsD, ne_int, eq_int, lt_int, gt_int, ge_int, le_int, add_int, sub_int, abs_int, int_int, idx0, idx1, tup1, tup2, tup3, Option.map_some]) (by simp only [List.set, evE, evL, evC, bnd, bndS, var0, varS, exS, exB, asD, tgD, tgsD, ne_int, eq_int, lt_int, gt_int, ge_int, le_int, add_int, sub_int, abs_int, int_int, idx0, idx1, tup1, tup2, tup3, Option.map_some]) (l16 h (show 4 ≤ n by omega) [])) (ρ := [some (encP l), some (.int k), some (encP [1]), Option.none]) (s := []) ⟨Option.none, rfl, rfl⟩
  have z := l5 (show 2 ≤ n by omega) (a := 1) (b := 1) (by decide) (by decide) []
  rw [norm11] at z
  have s1 : exS Γ (run Γ W n) W (.asg (.tg (.name 2)) (.tup [(.call 5 [(.const (.int 1)), (.const (.int 1))])])) [some (encP l), some (.int k), Option.none, Option.none] [] = some (.next, [some (encP l), some (.int k), some (encP [1]), Option.none], []) := by
    simp only [evE, evL, evC, bnd, bndS, var0, varS, exS, exB, asD, tgD, tgsD, ne_int, eq_int, lt_int, gt_int, ge_int, le_int, add_int, sub_int, abs_int, int_int, idx0, idx1, tup1, tup2, tup3, Option.map_some]
    have z : run Γ W n 5 [.int 1, .int 1] [] = some (enc 1, []) := z
    simp only [z]
    rfl
  have s2 : exS Γ (run Γ W n) W (.for_ (.name 3) 1 [(.var 1 false)] [.asg (.tg (.name 2)) (.call 16 [(.var 2 false), (.var 0 false)])]) [some (encP l), some (.int k), some (encP [1]), Option.none] [] = some (.next, [some (encP l), some (.int k), some (encP (ppow l k)), t3], []) := for_range2 (n := k) (by omega) (by simp only [evE, evL, evC, bnd, bndS, var0, varS, exS, exB, asD, tgD, tgsD, ne_int, eq_int, lt_int, gt_int, ge_int, le_int, add_int, sub_int, abs_int, int_int, idx0, idx1, tup1, tup2, tup3, Option.map_some]) e
  exact ⟨_, _, (ex_next s1).trans ((ex_next s2).trans (ex_ret (ex_rete (s1 := []) (by simp only [evE, evL, evC, bnd, bndS, var0, varS, exS, exB, asD, tgD, tgsD, ne_int, eq_int, lt_int, gt_int, ge_int, le_int, add_int, sub_int, abs_int, int_int, idx0, idx1, tup1, tup2, tup3, Option.map_some]))))⟩
end Pk32
end

section
set_option Elab.async false
set_option linter.all false
set_option maxRecDepth 100000
set_option maxHeartbeats 4000000
namespace Pk32
open PySem DL Gk32
/-! ### what is a fraction -/
theorem l0 {m : Nat} (hm : 1 ≤ m) (i : Int) : C m 0 [.int i] (.bool true) := mk 0 hm rfl rfl rfl rfl fun n _ => ⟨_, _, ex_ret (ex_rete (s1 := []) (by
  simp only [evE, evL, bnd, var0]
  rfl))⟩
theorem l82 {m : Nat} (hm : 1 ≤ m) (i : Int) : C m 82 [.int i] (.bool true) := mk 0 hm rfl rfl rfl rfl fun n _ => ⟨_, _, ex_ret (ex_rete (s1 := []) (by
  simp only [evE, evL, bnd, var0]
  rfl))⟩
theorem gcd_rat (q : Rat) : Int.gcd q.num (q.den : Int) = 1 := q.reduced
theorem bool_t {F : DL.Fun} {a : E} {ρ : Rho} {s s1 : Sto} (h : evE Γ F a ρ s = some (.bool true, s1)) : evE Γ F (.not a) ρ s = some (.bool false, s1) := by
  simp only [evE, bnd, h]
  rfl
theorem bool_f {F : DL.Fun} {a : E} {ρ : Rho} {s s1 : Sto} (h : evE Γ F a ρ s = some (.bool false, s1)) : evE Γ F (.not a) ρ s = some (.bool true, s1) := by
  simp only [evE, bnd, h]
  rfl
theorem or_f {F : DL.Fun} {a b : E} {ρ : Rho} {s s1 : Sto} {r : Res D} (h : evE Γ F a ρ s = some (.bool false, s1)) (h2 : evE Γ F b ρ s1 = r) : evE Γ F (.or a b) ρ s = r := by
  simp only [evE, bnd, h, h2]
theorem or_t {F : DL.Fun} {a b : E} {ρ : Rho} {s s1 : Sto} (h : evE Γ F a ρ s = some (.bool true, s1)) : evE Γ F (.or a b) ρ s = some (.bool true, s1) := by
  simp only [evE, bnd, h]
theorem and_t {F : DL.Fun} {a b : E} {ρ : Rho} {s s1 : Sto} {r : Res D} (h : evE Γ F a ρ s = some (.bool true, s1)) (h2 : evE Γ F b ρ s1 = r) : evE Γ F (.and a b) ρ s = r := by
  simp only [evE, bnd, h, h2]
theorem and_f {F : DL.Fun} {a b : E} {ρ : Rho} {s s1 : Sto} (h : evE Γ F a ρ s = some (.bool false, s1)) : evE Γ F (.and a b) ρ s = some (.bool false, s1) := by
  simp only [evE, bnd, h]
theorem ite_f {F : DL.Fun} {t : E} {a b : List S} {ρ : Rho} {s s1 : Sto} {r : ResS} (h : evE Γ F t ρ s = some (.bool false, s1)) (h2 : exB Γ F W b ρ s1 = r) : exS Γ F W (.ite t a b) ρ s = r := by
  simp only [exS, bndS, h, h2]
theorem ite_t {F : DL.Fun} {t : E} {a b : List S} {ρ : Rho} {s s1 : Sto} {r : ResS} (h : evE Γ F t ρ s = some (.bool true, s1)) (h2 : exB Γ F W a ρ s1 = r) : exS Γ F W (.ite t a b) ρ s = r := by
  simp only [exS, bndS, h, h2]
theorem l1 {m : Nat} (hm : 1 ≤ m) (q : Rat) : C m 1 [enc q, .int 2] (.bool true) := mk 0 hm rfl rfl rfl rfl fun n _ => ⟨_, _, ex_ret (ex_rete (s1 := []) (by
  refine and_t (s1 := []) (by simp only [evE, evL, bnd]; rfl) ?_
  simp only [evE, evL, evC, bnd, bndS, var0, varS, exS, exB, asD, tgD, tgsD, ne_int, eq_int, lt_int, gt_int, ge_int, le_int, add_int, sub_int, abs_int, int_int, idx0, idx1, tup1, tup2, tup3, Option.map_some]
  rfl))⟩
theorem den_big {q : Rat} (h : Sm q) : (q.den : Int) < 2 ^ 250 := by
  have := h.2
  have e : ((2 ^ 120 : Nat) : Int) = 2 ^ 120 := by norm_cast
  have e2 : (2 : Int) ^ 120 < 2 ^ 250 := by decide +kernel
  omega
theorem l10 {m : Nat} (hm : 2 ≤ m) {q : Rat} (h : Sm q) : C m 10 [enc q] (.bool true) := mk 1 hm rfl rfl rfl rfl fun n hn => by
  have g : ¬ ((q.den : Int) < 1) := by
    have := q.den_pos
    omega
  have s1 : exS Γ (run Γ W n) W (.ite (.or (.not (.call 1 [(.var 0 false), (.const (.int 2))])) (.or (.not (.call 0 [(.idx (.var 0 false) (.const (.int 0)))])) (.or (.not (.call 0 [(.idx (.var 0 false) (.const (.int 1)))])) (.cmp .lt (.idx (.var 0 false) (.const (.int 1))) (.const (.int 1)))))) [.ret (.const (.bool false))] []) [some (enc q)] [] = some (.next, [some (enc q)], []) := by
    refine ite_f (s1 := []) (or_f (bool_t (s1 := []) ?_) (or_f (bool_t (s1 := []) ?_) (or_f (bool_t (s1 := []) ?_) ?_))) ex_nil
    · exact ev_call2 (s1 := []) (s2 := []) (x := enc q) (y := .int 2) (by simp only [evE, evL, evC, bnd, bndS, var0, varS, exS, exB, asD, tgD, tgsD, ne_int, eq_int, lt_int, gt_int, ge_int, le_int, add_int, sub_int, abs_int, int_int, idx0, idx1, tup1, tup2, tup3, Option.map_some]) (by simp only [evE, evL, evC, bnd, bndS, var0, varS, exS, exB, asD, tgD, tgsD, ne_int, eq_int, lt_int, gt_int, ge_int, le_int, add_int, sub_int, abs_int, int_int, idx0, idx1, tup1, tup2, tup3, Option.map_some]) (l1 hn q [])
    · exact ev_call1 (s1 := []) (x := .int q.num) (by simp only [evE, evL, evC, bnd, bndS, var0, varS, exS, exB, asD, tgD, tgsD, ne_int, eq_int, lt_int, gt_int, ge_int, le_int, add_int, sub_int, abs_int, int_int, idx0, idx1, tup1, tup2, tup3, Option.map_some, idx_num]) (l0 hn _ [])
    · exact ev_call1 (s1 := []) (x := .int q.den) (by simp only [evE, evL, evC, bnd, bndS, var0, varS, exS, exB, asD, tgD, tgsD, ne_int, eq_int, lt_int, gt_int, ge_int, le_int, add_int, sub_int, abs_int, int_int, idx0, idx1, tup1, tup2, tup3, Option.map_some, idx_den]) (l0 hn _ [])
    · simp only [evE, evL, evC, bnd, bndS, var0, varS, exS, exB, asD, tgD, tgsD, ne_int, eq_int, lt_int, gt_int, ge_int, le_int, add_int, sub_int, abs_int, int_int, idx0, idx1, tup1, tup2, tup3, Option.map_some, idx_den, decide_eq_false g]
  have s2 : evE Γ (run Γ W n) (.cmp .eq (.call 4 [(.idx (.var 0 false) (.const (.int 0))), (.idx (.var 0 false) (.const (.int 1)))]) (.const (.int 1))) [some (enc q)] [] = some (.bool true, []) := by
    simp only [evE, evL, evC, bnd, bndS, var0, varS, exS, exB, asD, tgD, tgsD, ne_int, eq_int, lt_int, gt_int, ge_int, le_int, add_int, sub_int, abs_int, int_int, idx0, idx1, tup1, tup2, tup3, Option.map_some, idx_num, idx_den, l4 hn (a := q.num) (b := q.den) (by omega) (den_big h) [], gcd_rat]
    rfl
  exact ⟨_, _, (ex_next s1).trans (ex_ret (ex_rete s2))⟩
/-- what is no fraction -/
def bads : List D := [.tup [.int 2, .int 4], .int 3, .tup [.int 1, .int 0], .none, .tup [.bool true, .int 2]]
theorem bads_clo : ∀ x ∈ bads, x.clo = true := by decide +kernel
theorem l10b (n : Nat) (s : Sto) : ∀ x ∈ bads, run Γ W (n + 2) 10 [x] s = some (.bool false, s) := by
  intro x hx
  simp only [bads, List.mem_cons, List.not_mem_nil, or_false] at hx
  rcases hx with rfl | rfl | rfl | rfl | rfl <;> kernel_rfl
end Pk32
end

section
set_option Elab.async false
set_option linter.all false
set_option maxRecDepth 100000
set_option maxHeartbeats 4000000
namespace Pk32
open PySem DL Gk32
/-! ### what is a polynomial -/
def lastOk (l : List Rat) : Bool := match l.reverse with
  | [] => true
  | q :: _ => !decide (q = 0)
theorem lastOk_snoc (q : Rat) (r : List Rat) : lastOk (q :: r).reverse = !decide (q = 0) := by
  unfold lastOk
  rw [List.reverse_reverse]
def eLast (i : Nat) : E := .or (.cmp .eq (.var i false) (.tup [])) (.cmp .ne (.idx (.idx (.var i false) (.neg (.const (.int 1)))) (.const (.int 0))) (.const (.int 0)))
theorem ev_var {F : DL.Fun} {i : Nat} {ρ : Rho} {s : Sto} {d : D} (h : ρ[i]? = some (some d)) : evE Γ F (.var i false) ρ s = some (d, s) := by
  simp only [evE, varE, h]
  rfl
theorem eq_tup_nil {s : Sto} {xs : List D} {y : PyData} {ys : List PyData} (h : D.pys xs = some ys) (hd : PyData.depthAll ys ≤ 40) : gCmp .eq (.tup xs) (.tup []) s = some (.bool xs.isEmpty, s) := by
  have e1 : (D.tup xs).py = some (.tuple ys) := by
    rw [D.py, h]
    rfl
  have e3 : (PyData.tuple ys).depth ≤ 50 := by
    rw [PyData.depth]
    omega
  have e4 : PyData.eqv (.tuple ys) (.tuple []) = xs.isEmpty := by
    rw [PyData.eqv]
    cases xs with
    | nil =>
      have : ys = [] := by
        rw [D.pys] at h
        cases h
        rfl
      rw [this, PyData.eqvAll]
      rfl
    | cons x xs =>
      rw [D.pys] at h
      split at h
      · cases h
        rw [PyData.eqvAll]
        rfl
        all_goals simp
      · cases h
  show ((match (D.tup xs).py, (D.tup []).py with
    | some x, some y => if x.depth ≤ 50 then some (PyData.eqv x y) else Option.none
    | _, _ => Option.none).map fun r => _) = _
  rw [e1, show (D.tup []).py = some (.tuple []) from rfl]
  dsimp only
  rw [if_pos e3, e4]
  rfl
theorem last_ok {F : DL.Fun} {i : Nat} {ρ : Rho} {s : Sto} {l : List Rat} (h : ρ[i]? = some (some (encP l))) : evE Γ F (eLast i) ρ s = some (.bool (lastOk l), s) := by
  have c1 : evE Γ F (.cmp .eq (.var i false) (.tup [])) ρ s = some (.bool (encs l).isEmpty, s) := by
    simp only [evE, evL, bnd]
    have z := ev_var (F := F) (s := s) h
    simp only [evE] at z
    rw [z]
    have := depth_encs l
    exact eq_tup_nil (y := .none) (pys_encs l) (by omega)
  unfold eLast
  cases hr : l.reverse with
  | nil =>
    have : l = [] := by simpa using hr
    subst this
    exact or_t c1
  | cons q r =>
    have el : l = (q :: r).reverse := by rw [← hr, List.reverse_reverse]
    have e0 : (encs l).isEmpty = false := by
      rw [el, encs_snoc]
      simp
    rw [e0] at c1
    refine or_f c1 ?_
    have e3 : gIdx (encP l) (.int (-1)) s = some (enc q, s) := by
      rw [el]
      exact idx_last (.inr rfl)
    have z := ev_var (F := F) (s := s) h
    simp only [evE] at z
    simp only [evE, evL, evC, bnd, bndS, var0, varS, exS, exB, asD, tgD, tgsD, ne_int, eq_int, lt_int, gt_int, ge_int, le_int, add_int, sub_int, abs_int, int_int, idx0, idx1, tup1, tup2, tup3, Option.map_some, z, neg_int, e3, idx_num]
    rw [el, lastOk_snoc]
    by_cases hq : q = 0
    · rw [num0 hq, hq]
      rfl
    · rw [decide_eq_false (num1 hq), decide_eq_false hq]
theorem walk_tup {xs : List D} {s : Sto} : walkD 0 [.tup xs] s = some (xs, s, []) := rfl
theorem allBools_map : ∀ (l : List Bool), allBools (l.map D.bool) = some l
  | [] => rfl
  | b :: l => by
    rw [List.map_cons, allBools, allBools_map l]
    rfl
theorem all_of {l : List Bool} {s : Sto} : gBi .all false [.lst (l.map .bool)] s = some (.bool (l.all id), s) := by
  show ((allBools (l.map .bool)).map fun bs => D.bool (bs.all id)).map (fun z => laid false z s) = _
  rw [allBools_map]
  rfl
theorem lcm {F : DL.Fun} {elt : E} {i : Nat} {ρ : Rho} {s : Sto} (hi : i < ρ.length) : ∀ (its : List D) (bs : List Bool) (acc : List D), acc.length + its.length ≤ 1000000 → its.length = bs.length → (∀ p ∈ its.zip bs, evE Γ F elt (ρ.set i (some p.1)) s = some (.bool p.2, s)) → lcGo (lcB F elt (.name i) [] [i] ρ) its s acc = some (acc ++ bs.map .bool, s)
  | [], [], acc, _, _, _ => by simp [lcGo]
  | x :: its, b :: bs, acc, h, hl, hf => by
    rw [lcGo, lcB_one hi (hf (x, b) (List.mem_cons_self ..))]
    dsimp only
    simp only [List.length_cons] at h
    rw [if_pos (by unfold lineOk; exact decide_eq_true (by omega)), lcm hi its bs (acc ++ [D.bool b]) (by rw [List.length_append, List.length_singleton]; omega) (by simpa using hl) fun z hz => hf z (by rw [List.zip_cons_cons]; exact List.mem_cons_of_mem _ hz)]
    simp
  | [], _ :: _, _, _, hl, _ => by cases hl
  | _ :: _, [], _, _, hl, _ => by cases hl
def eAll : E := .bi .all [(.lc (.call 10 [(.var 1 false)]) (.name 1) 0 [(.var 0 false)] [] [1] false)] false
theorem ev_all {n : Nat} {xs : List D} {bs : List Bool} (hx : xs.length ≤ 1000) (hl : xs.length = bs.length) (h : ∀ p ∈ xs.zip bs, run Γ W n 10 [p.1] [] = some (.bool p.2, [])) : evE Γ (run Γ W n) eAll [some (.tup xs), Option.none] [] = some (.bool (bs.all id), []) := by
  have e := ev_lc (F := run Γ W n) (elt := .call 10 [(.var 1 false)]) (tg := .name 1) (k := 0) (src := [.var 0 false]) (cond := []) (own := [1]) (c := false) (ρ := [some (.tup xs), Option.none]) (s := []) (xs := [.tup xs]) (its := xs) (ys := bs.map .bool) (by simp only [evE, evL, evC, bnd, bndS, var0, varS, exS, exB, asD, tgD, tgsD, ne_int, eq_int, lt_int, gt_int, ge_int, le_int, add_int, sub_int, abs_int, int_int, idx0, idx1, tup1, tup2, tup3, Option.map_some]) walk_tup (by
    have := lcm (F := run Γ W n) (elt := .call 10 [(.var 1 false)]) (i := 1) (ρ := [some (.tup xs), Option.none]) (s := []) (by simp) xs bs [] (by simp; omega) hl (fun p hp => ev_call1 (s1 := []) (x := p.1) (by simp only [List.set, evE, evL, evC, bnd, bndS, var0, varS, exS, exB, asD, tgD, tgsD, ne_int, eq_int, lt_int, gt_int, ge_int, le_int, add_int, sub_int, abs_int, int_int, idx0, idx1, tup1, tup2, tup3, Option.map_some]) (h p hp))
    simpa using this)
  unfold eAll
  have z : evE Γ (run Γ W n) (.bi .all [(.lc (.call 10 [(.var 1 false)]) (.name 1) 0 [(.var 0 false)] [] [1] false)] false) [some (.tup xs), Option.none] [] = bnd (evL Γ (run Γ W n) [(.lc (.call 10 [(.var 1 false)]) (.name 1) 0 [(.var 0 false)] [] [1] false)] [some (.tup xs), Option.none] []) fun ys s1 => gBi .all false ys s1 := by rw [evE]
  rw [z, evL, e]
  show bnd (bnd (some ((laid false (.lst (bs.map .bool)) ([] : Sto)))) _) _ = _
  show gBi .all false [.lst (bs.map .bool)] [] = _
  exact all_of
def s12 : S := .ite (.or (.not (.bi .istuple [(.var 0 false)] false)) (.not eAll)) [.ret (.const (.bool false))] []
theorem l12 {m : Nat} (hm : 3 ≤ m) {l : List Rat} (hs : SmL l) (hl : l.length < 900) : C m 12 [encP l] (.bool (lastOk l)) := mk 2 hm rfl rfl (by simp [D.clos, clo_encP]) rfl fun n hn => by
  have a := ev_all (n := n) (xs := encs l) (bs := List.replicate l.length true) (by rw [encs_len]; omega) (by rw [encs_len, List.length_replicate]) (fun p hp => by
    obtain ⟨h1, h2⟩ := List.of_mem_zip hp
    rw [List.eq_of_mem_replicate h2]
    obtain ⟨q, hq, e⟩ := List.mem_map.mp h1
    rw [← e]
    exact l10 hn (hs q hq) [])
  have a2 : ((List.replicate l.length true).all id) = true := by
    rw [List.all_eq_true]
    intro b hb
    rw [List.eq_of_mem_replicate hb]
    rfl
  rw [a2] at a
  have s1 : exS Γ (run Γ W n) W s12 [some (encP l), Option.none] [] = some (.next, [some (encP l), Option.none], []) := ite_f (or_f (bool_t (s1 := []) (by simp only [evE, evL, bnd, var0]; rfl)) (bool_t a)) ex_nil
  exact ⟨_, _, (ex_next s1).trans (ex_ret (ex_rete (last_ok rfl)))⟩
theorem clos_app : ∀ (xs ys : List D), D.clos (xs ++ ys) = (D.clos xs && D.clos ys)
  | [], ys => by simp [D.clos]
  | x :: xs, ys => by
    rw [List.cons_append, D.clos, D.clos, clos_app xs ys, Bool.and_assoc]
theorem l12b {m : Nat} (hm : 3 ≤ m) {l : List Rat} (hs : SmL l) (hl : l.length < 900) {x : D} (hx : x ∈ bads) : C m 12 [.tup (encs l ++ [x])] (.bool false) := mk 2 hm rfl rfl (by
    have := bads_clo x hx
    simp [D.clos, D.clo, clos_app, clos_encs, this]) rfl fun n hn => by
  have a := ev_all (n := n) (xs := encs l ++ [x]) (bs := List.replicate l.length true ++ [false]) (by rw [List.length_append, encs_len, List.length_singleton]; omega) (by simp [encs_len]) (fun p hp => by
    rw [List.zip_append (by simp [encs_len])] at hp
    rcases List.mem_append.mp hp with hp | hp
    · obtain ⟨h1, h2⟩ := List.of_mem_zip hp
      rw [List.eq_of_mem_replicate h2]
      obtain ⟨q, hq, e⟩ := List.mem_map.mp h1
      rw [← e]
      exact l10 hn (hs q hq) []
    · have : p = (x, false) := by simpa using hp
      rw [this]
      obtain ⟨k, rfl⟩ : ∃ k, n = k + 2 := ⟨n - 2, by omega⟩
      exact l10b k [] x hx)
  have a2 : ((List.replicate l.length true ++ [false]).all id) = false := by simp
  rw [a2] at a
  have s1 : exS Γ (run Γ W n) W s12 [some (.tup (encs l ++ [x])), Option.none] [] = some (.ret (.bool false), [some (.tup (encs l ++ [x])), Option.none], []) := ite_t (or_f (bool_t (s1 := []) (by simp only [evE, evL, bnd, var0]; rfl)) (bool_f a)) (ex_ret (ex_rete (by simp only [evE])))
  exact ⟨_, _, ex_ret s1⟩
theorem l12n {m : Nat} (hm : 1 ≤ m) : C m 12 [.none] (.bool false) := mk 0 hm rfl rfl rfl rfl fun n hn => by
  have s1 : exS Γ (run Γ W n) W s12 [some .none, Option.none] [] = some (.ret (.bool false), [some .none, Option.none], []) := ite_t (or_t (bool_f (s1 := []) (by simp only [evE, evL, bnd, var0]; rfl))) (ex_ret (ex_rete (by simp only [evE])))
  exact ⟨_, _, ex_ret s1⟩
theorem l12l {m : Nat} (hm : 1 ≤ m) (l : List Rat) : C m 12 [.lst (encs l)] (.bool false) := mk 0 hm rfl rfl (by simp [D.clos, D.clo, clos_encs]) rfl fun n hn => by
  have s1 : exS Γ (run Γ W n) W s12 [some (.lst (encs l)), Option.none] [] = some (.ret (.bool false), [some (.lst (encs l)), Option.none], []) := ite_t (or_t (bool_f (s1 := []) (by simp only [evE, evL, bnd, var0]; rfl))) (ex_ret (ex_rete (by simp only [evE])))
  exact ⟨_, _, ex_ret s1⟩
theorem l83 {m : Nat} (hm : 1 ≤ m) (b : Bool) : C m 83 [.bool b, .bool b] (.bool true) := fun s => by
  obtain ⟨k, rfl⟩ : ∃ k, m = k + 1 := ⟨m - 1, by omega⟩
  cases b <;> kernel_rfl
end Pk32
end

section
set_option Elab.async false
set_option linter.all false
set_option maxRecDepth 100000
set_option maxHeartbeats 4000000
namespace Pk32
open PySem DL Gk32
/-! ### the law's own look at things -/
def eNum : E := .lc (.var 13 false) (.name 13) 0 [(.var 17 false)] [(.not (.call 82 [(.var 13 false)]))] [13] false
def eBad : E := .or (.not (.bi .istuple [(.var 17 false)] false)) (.or (.cmp .ne (.bi .len [(.var 17 false)] false) (.const (.int 2))) (.or (.cmp .ne eNum (.lst [] false)) (.or (.cmp .lt (.idx (.var 17 false) (.const (.int 1))) (.const (.int 1))) (.cmp .ne (.call 84 [(.idx (.var 17 false) (.const (.int 0))), (.idx (.var 17 false) (.const (.int 1)))]) (.const (.int 1))))))
section
variable {o0 o1 o2 o3 o4 o5 o6 o7 o8 o9 o10 o11 o12 o13 o14 o15 o16 o17 o18 o19 o20 o21 o22 o23 o24 : Option D}
theorem num_ok {n : Nat} (hn : 1 ≤ n) (q : Rat) (s : Sto) : evE Γ (run Γ W n) eNum [o0, o1, o2, o3, o4, o5, o6, o7, o8, o9, o10, o11, o12, o13, o14, o15, o16, some (enc q), o18, o19, o20, o21, o22, o23, o24] s = some (.lst [], s) := by
  have z := ev_lc (F := run Γ W n) (elt := .var 13 false) (tg := .name 13) (k := 0) (src := [(.var 17 false)]) (cond := [(.not (.call 82 [(.var 13 false)]))]) (own := [13]) (c := false) (ρ := [o0, o1, o2, o3, o4, o5, o6, o7, o8, o9, o10, o11, o12, o13, o14, o15, o16, some (enc q), o18, o19, o20, o21, o22, o23, o24]) (s := s) (xs := [enc q]) (its := [.int q.num, .int q.den]) (ys := []) (by simp only [evE, evL, evC, bnd, bndS, var0, varS, exS, exB, asD, tgD, tgsD, ne_int, eq_int, lt_int, gt_int, ge_int, le_int, add_int, sub_int, abs_int, int_int, idx0, idx1, tup1, tup2, tup3, Option.map_some]) rfl (by
    have a : ∀ i : Int, lcB (run Γ W n) (.var 13 false) (.name 13) [(.not (.call 82 [(.var 13 false)]))] [13] [o0, o1, o2, o3, o4, o5, o6, o7, o8, o9, o10, o11, o12, o13, o14, o15, o16, some (enc q), o18, o19, o20, o21, o22, o23, o24] (.int i) s = some (Option.none, s) := fun i => by
      have e : evE Γ (run Γ W n) (.not (.call 82 [(.var 13 false)])) [o0, o1, o2, o3, o4, o5, o6, o7, o8, o9, o10, o11, o12, some (.int i), o14, o15, o16, some (enc q), o18, o19, o20, o21, o22, o23, o24] s = some (.bool false, s) := bool_t (ev_call1 (s1 := s) (x := .int i) (by simp only [evE, evL, evC, bnd, bndS, var0, varS, exS, exB, asD, tgD, tgsD, ne_int, eq_int, lt_int, gt_int, ge_int, le_int, add_int, sub_int, abs_int, int_int, idx0, idx1, tup1, tup2, tup3, Option.map_some]) (l82 hn i s))
      show (bnd (evC Γ (run Γ W n) [(.not (.call 82 [(.var 13 false)]))] [o0, o1, o2, o3, o4, o5, o6, o7, o8, o9, o10, o11, o12, some (.int i), o14, o15, o16, some (enc q), o18, o19, o20, o21, o22, o23, o24] s) fun b s3 => match b with
        | .bool true => bnd (evE Γ (run Γ W n) (.var 13 false) [o0, o1, o2, o3, o4, o5, o6, o7, o8, o9, o10, o11, o12, some (.int i), o14, o15, o16, some (enc q), o18, o19, o20, o21, o22, o23, o24] s3) fun y s4 => some (some y, s4)
        | .bool false => some (Option.none, s3)
        | _ => Option.none) = _
      rw [evC, e]
      rfl
    simp only [lcGo, a])
  exact z
theorem bad_ok {n : Nat} (hn : 1 ≤ n) {q : Rat} (h : Sm q) (s : Sto) : evE Γ (run Γ W n) eBad [o0, o1, o2, o3, o4, o5, o6, o7, o8, o9, o10, o11, o12, o13, o14, o15, o16, some (enc q), o18, o19, o20, o21, o22, o23, o24] s = some (.bool false, s) := by
  have g : ¬ ((q.den : Int) < 1) := by
    have := q.den_pos
    omega
  refine or_f (s1 := s) (bool_t ?_) (or_f (s1 := s) ?_ (or_f (s1 := s) ?_ (or_f (s1 := s) ?_ ?_)))
  · simp only [evE, evL, evC, bnd, bndS, var0, varS, exS, exB, asD, tgD, tgsD, ne_int, eq_int, lt_int, gt_int, ge_int, le_int, add_int, sub_int, abs_int, int_int, idx0, idx1, tup1, tup2, tup3, Option.map_some]
    rfl
  · simp only [evE, evL, evC, bnd, bndS, var0, varS, exS, exB, asD, tgD, tgsD, ne_int, eq_int, lt_int, gt_int, ge_int, le_int, add_int, sub_int, abs_int, int_int, idx0, idx1, tup1, tup2, tup3, Option.map_some]
    rfl
  · have z := num_ok (o0 := o0) (o1 := o1) (o2 := o2) (o3 := o3) (o4 := o4) (o5 := o5) (o6 := o6) (o7 := o7) (o8 := o8) (o9 := o9) (o10 := o10) (o11 := o11) (o12 := o12) (o13 := o13) (o14 := o14) (o15 := o15) (o16 := o16) (o18 := o18) (o19 := o19) (o20 := o20) (o21 := o21) (o22 := o22) (o23 := o23) (o24 := o24) hn q s
    have y : evE Γ (run Γ W n) (.cmp .ne eNum (.lst [] false)) [o0, o1, o2, o3, o4, o5, o6, o7, o8, o9, o10, o11, o12, o13, o14, o15, o16, some (enc q), o18, o19, o20, o21, o22, o23, o24] s = bnd (evE Γ (run Γ W n) eNum [o0, o1, o2, o3, o4, o5, o6, o7, o8, o9, o10, o11, o12, o13, o14, o15, o16, some (enc q), o18, o19, o20, o21, o22, o23, o24] s) fun x s1 => bnd (evE Γ (run Γ W n) (.lst [] false) [o0, o1, o2, o3, o4, o5, o6, o7, o8, o9, o10, o11, o12, o13, o14, o15, o16, some (enc q), o18, o19, o20, o21, o22, o23, o24] s1) fun y s2 => gCmp .ne x y s2 := by rw [evE]
    rw [y, z]
    show bnd (evE Γ (run Γ W n) (.lst [] false) [o0, o1, o2, o3, o4, o5, o6, o7, o8, o9, o10, o11, o12, o13, o14, o15, o16, some (enc q), o18, o19, o20, o21, o22, o23, o24] s) (fun y s2 => gCmp .ne (.lst []) y s2) = _
    simp only [evE, evL, bnd]
    show gCmp .ne (.lst []) (.lst []) s = _
    exact ne_nil (l := []) rfl
  · simp only [evE, evL, evC, bnd, bndS, var0, varS, exS, exB, asD, tgD, tgsD, ne_int, eq_int, lt_int, gt_int, ge_int, le_int, add_int, sub_int, abs_int, int_int, idx0, idx1, tup1, tup2, tup3, Option.map_some, idx_den, decide_eq_false g]
  · simp only [evE, evL, evC, bnd, bndS, var0, varS, exS, exB, asD, tgD, tgsD, ne_int, eq_int, lt_int, gt_int, ge_int, le_int, add_int, sub_int, abs_int, int_int, idx0, idx1, tup1, tup2, tup3, Option.map_some, idx_num, idx_den, l84 hn (a := q.num) (b := q.den) (by omega) (den_big h) s, gcd_rat]
    rfl
theorem bad_bad (n : Nat) (s : Sto) : ∀ x ∈ bads, evE Γ (run Γ W (n + 1)) eBad [o0, o1, o2, o3, o4, o5, o6, o7, o8, o9, o10, o11, o12, o13, o14, o15, o16, some x, o18, o19, o20, o21, o22, o23, o24] s = some (.bool true, s) := by
  intro x hx
  simp only [bads, List.mem_cons, List.not_mem_nil, or_false] at hx
  rcases hx with rfl | rfl | rfl | rfl | rfl <;> kernel_rfl
def bEl : List S := [.ite eBad [.asg (.tg (.name 16)) (.const (.bool false))] []]
def bTh : List S := [.asg (.tg (.name 16)) (.bi .istuple [(.var 15 false)] false),
    .for_ (.name 17) 0 [(.ite (.var 16 false) (.var 15 false) (.tup []))] bEl,
    .ite (.not (.call 83 [(.call 12 [(.var 15 false)]), (.and (.var 16 false) (eLast 15))])) [.ret (.const (.bool false))] []]
theorem el_ok {n : Nat} (hn : 1 ≤ n) {q : Rat} (h : Sm q) (s : Sto) : lpB (run Γ W n) (.name 17) bEl (enc q) [o0, o1, o2, o3, o4, o5, o6, o7, o8, o9, o10, o11, o12, o13, o14, o15, o16, o17, o18, o19, o20, o21, o22, o23, o24] s = some (.next, [o0, o1, o2, o3, o4, o5, o6, o7, o8, o9, o10, o11, o12, o13, o14, o15, o16, some (enc q), o18, o19, o20, o21, o22, o23, o24], s) := by
  rw [lpB_name (by simp)]
  exact (ex_next (ite_f (bad_ok hn h s) ex_nil)).trans ex_nil
theorem el_bad (n : Nat) (s : Sto) {x : D} (hx : x ∈ bads) : lpB (run Γ W (n + 1)) (.name 17) bEl x [o0, o1, o2, o3, o4, o5, o6, o7, o8, o9, o10, o11, o12, o13, o14, o15, o16, o17, o18, o19, o20, o21, o22, o23, o24] s = some (.next, [o0, o1, o2, o3, o4, o5, o6, o7, o8, o9, o10, o11, o12, o13, o14, o15, some (.bool false), some x, o18, o19, o20, o21, o22, o23, o24], s) := by
  rw [lpB_name (by simp)]
  exact (ex_next (ite_t (bad_bad n s x hx) ((ex_next (ρ' := [o0, o1, o2, o3, o4, o5, o6, o7, o8, o9, o10, o11, o12, o13, o14, o15, some (.bool false), some x, o18, o19, o20, o21, o22, o23, o24]) (s' := s) (ex_asg (by simp) (by simp only [evE]))).trans ex_nil))).trans ex_nil
theorem els_ok {n : Nat} (hn : 1 ≤ n) (s : Sto) : ∀ (l : List Rat) (o : Option D), SmL l → ∀ (r : List D), ∃ o', forGo (lpB (run Γ W n) (.name 17) bEl) (encs l ++ r) [o0, o1, o2, o3, o4, o5, o6, o7, o8, o9, o10, o11, o12, o13, o14, o15, o16, o, o18, o19, o20, o21, o22, o23, o24] s = forGo (lpB (run Γ W n) (.name 17) bEl) r [o0, o1, o2, o3, o4, o5, o6, o7, o8, o9, o10, o11, o12, o13, o14, o15, o16, o', o18, o19, o20, o21, o22, o23, o24] s
  | [], o, _, r => ⟨o, rfl⟩
  | q :: l, o, h, r => by
    obtain ⟨o', e⟩ := els_ok hn s l (some (enc q)) (fun z m => h z (List.mem_cons_of_mem _ m)) r
    refine ⟨o', ?_⟩
    show forGo _ (enc q :: (encs l ++ r)) _ s = _
    rw [fg_next (el_ok (o17 := o) hn (h q (List.mem_cons_self ..)) s)]
    exact e
/-- a thing is looked at, and both say the same -/
def ThOk (n : Nat) (d : D) : Prop := ∀ (o0 o1 o2 o3 o4 o5 o6 o7 o8 o9 o10 o11 o12 o13 o14 o15 o16 o17 o18 o19 o20 o21 o22 o23 o24 : Option D) (s : Sto), ∃ p15 p16 p17 : Option D, lpB (run Γ W n) (.name 15) bTh d [o0, o1, o2, o3, o4, o5, o6, o7, o8, o9, o10, o11, o12, o13, o14, o15, o16, o17, o18, o19, o20, o21, o22, o23, o24] s = some (.next, [o0, o1, o2, o3, o4, o5, o6, o7, o8, o9, o10, o11, o12, o13, o14, p15, p16, p17, o18, o19, o20, o21, o22, o23, o24], s)
theorem th_end {n : Nat} (hn : 1 ≤ n) {d : D} {b : Bool} {s : Sto} (h12 : C n 12 [d] (.bool b)) (he : evE Γ (run Γ W n) (.and (.var 16 false) (eLast 15)) [o0, o1, o2, o3, o4, o5, o6, o7, o8, o9, o10, o11, o12, o13, o14, some d, o16, o17, o18, o19, o20, o21, o22, o23, o24] s = some (.bool b, s)) :
    exS Γ (run Γ W n) W (.ite (.not (.call 83 [(.call 12 [(.var 15 false)]), (.and (.var 16 false) (eLast 15))])) [.ret (.const (.bool false))] []) [o0, o1, o2, o3, o4, o5, o6, o7, o8, o9, o10, o11, o12, o13, o14, some d, o16, o17, o18, o19, o20, o21, o22, o23, o24] s = some (.next, [o0, o1, o2, o3, o4, o5, o6, o7, o8, o9, o10, o11, o12, o13, o14, some d, o16, o17, o18, o19, o20, o21, o22, o23, o24], s) :=
  ite_f (bool_t (ev_call2 (s1 := s) (s2 := s) (ev_call1 (s1 := s) (x := d) (by simp only [evE, evL, evC, bnd, bndS, var0, varS, exS, exB, asD, tgD, tgsD, ne_int, eq_int, lt_int, gt_int, ge_int, le_int, add_int, sub_int, abs_int, int_int, idx0, idx1, tup1, tup2, tup3, Option.map_some]) (h12 s)) he (l83 hn b s))) ex_nil
theorem th_poly {n : Nat} (hn : 3 ≤ n) {l : List Rat} (hs : SmL l) (hl : l.length < 900) : ThOk n (encP l) := by
  intro o0 o1 o2 o3 o4 o5 o6 o7 o8 o9 o10 o11 o12 o13 o14 o15 o16 o17 o18 o19 o20 o21 o22 o23 o24 s
  obtain ⟨o', e⟩ := els_ok (o0 := o0) (o1 := o1) (o2 := o2) (o3 := o3) (o4 := o4) (o5 := o5) (o6 := o6) (o7 := o7) (o8 := o8) (o9 := o9) (o10 := o10) (o11 := o11) (o12 := o12) (o13 := o13) (o14 := o14) (o15 := some (encP l)) (o16 := some (.bool true)) (o18 := o18) (o19 := o19) (o20 := o20) (o21 := o21) (o22 := o22) (o23 := o23) (o24 := o24) (show 1 ≤ n by omega) s l o17 hs []
  rw [List.append_nil, fg_nil] at e
  refine ⟨some (encP l), some (.bool true), o', ?_⟩
  rw [lpB_name (by simp)]
  refine (ex_next (ρ' := [o0, o1, o2, o3, o4, o5, o6, o7, o8, o9, o10, o11, o12, o13, o14, some (encP l), some (.bool true), o17, o18, o19, o20, o21, o22, o23, o24]) (s' := s) (ex_asg (d := .bool true) (by simp) (by
    simp only [List.set, evE, evL, evC, bnd, bndS, var0, varS, exS, exB, asD, tgD, tgsD, ne_int, eq_int, lt_int, gt_int, ge_int, le_int, add_int, sub_int, abs_int, int_int, idx0, idx1, tup1, tup2, tup3, Option.map_some]
    rfl))).trans ((ex_next (for_tup (xs := encs l) (s1 := s) (by
    simp only [evE, evL, evC, bnd, bndS, var0, varS, exS, exB, asD, tgD, tgsD, ne_int, eq_int, lt_int, gt_int, ge_int, le_int, add_int, sub_int, abs_int, int_int, idx0, idx1, tup1, tup2, tup3, Option.map_some]
    rfl) e)).trans ((ex_next (th_end (b := lastOk l) (by omega) (l12 (show 3 ≤ n by omega) hs hl) ?_)).trans ex_nil))
  exact and_t (s1 := s) (by simp only [evE, evL, evC, bnd, bndS, var0, varS, exS, exB, asD, tgD, tgsD, ne_int, eq_int, lt_int, gt_int, ge_int, le_int, add_int, sub_int, abs_int, int_int, idx0, idx1, tup1, tup2, tup3, Option.map_some]) (last_ok rfl)
theorem th_bad {n : Nat} (hn : 3 ≤ n) {l : List Rat} (hs : SmL l) (hl : l.length < 900) {x : D} (hx : x ∈ bads) : ThOk n (.tup (encs l ++ [x])) := by
  intro o0 o1 o2 o3 o4 o5 o6 o7 o8 o9 o10 o11 o12 o13 o14 o15 o16 o17 o18 o19 o20 o21 o22 o23 o24 s
  obtain ⟨o', e⟩ := els_ok (o0 := o0) (o1 := o1) (o2 := o2) (o3 := o3) (o4 := o4) (o5 := o5) (o6 := o6) (o7 := o7) (o8 := o8) (o9 := o9) (o10 := o10) (o11 := o11) (o12 := o12) (o13 := o13) (o14 := o14) (o15 := some (.tup (encs l ++ [x]))) (o16 := some (.bool true)) (o18 := o18) (o19 := o19) (o20 := o20) (o21 := o21) (o22 := o22) (o23 := o23) (o24 := o24) (show 1 ≤ n by omega) s l o17 hs [x]
  obtain ⟨k, rfl⟩ : ∃ k, n = k + 1 := ⟨n - 1, by omega⟩
  rw [fg_next (el_bad (o17 := o') k s hx), fg_nil] at e
  refine ⟨some (.tup (encs l ++ [x])), some (.bool false), some x, ?_⟩
  rw [lpB_name (by simp)]
  refine (ex_next (ρ' := [o0, o1, o2, o3, o4, o5, o6, o7, o8, o9, o10, o11, o12, o13, o14, some (.tup (encs l ++ [x])), some (.bool true), o17, o18, o19, o20, o21, o22, o23, o24]) (s' := s) (ex_asg (d := .bool true) (by simp) (by
    simp only [List.set, evE, evL, evC, bnd, bndS, var0, varS, exS, exB, asD, tgD, tgsD, ne_int, eq_int, lt_int, gt_int, ge_int, le_int, add_int, sub_int, abs_int, int_int, idx0, idx1, tup1, tup2, tup3, Option.map_some]
    rfl))).trans ((ex_next (for_tup (xs := encs l ++ [x]) (s1 := s) (by
    simp only [evE, evL, evC, bnd, bndS, var0, varS, exS, exB, asD, tgD, tgsD, ne_int, eq_int, lt_int, gt_int, ge_int, le_int, add_int, sub_int, abs_int, int_int, idx0, idx1, tup1, tup2, tup3, Option.map_some]) e)).trans ((ex_next (th_end (b := false) (by omega) (l12b hn hs hl hx) ?_)).trans ex_nil))
  exact and_f (by simp only [evE, evL, evC, bnd, bndS, var0, varS, exS, exB, asD, tgD, tgsD, ne_int, eq_int, lt_int, gt_int, ge_int, le_int, add_int, sub_int, abs_int, int_int, idx0, idx1, tup1, tup2, tup3, Option.map_some])
theorem th_none {n : Nat} (hn : 3 ≤ n) {d : D} (h12 : C n 12 [d] (.bool false)) (hd : ∀ s, gBi .istuple false [d] s = some (.bool false, s)) : ThOk n d := by
  intro o0 o1 o2 o3 o4 o5 o6 o7 o8 o9 o10 o11 o12 o13 o14 o15 o16 o17 o18 o19 o20 o21 o22 o23 o24 s
  refine ⟨some d, some (.bool false), o17, ?_⟩
  rw [lpB_name (by simp)]
  refine (ex_next (ρ' := [o0, o1, o2, o3, o4, o5, o6, o7, o8, o9, o10, o11, o12, o13, o14, some d, some (.bool false), o17, o18, o19, o20, o21, o22, o23, o24]) (s' := s) (ex_asg (d := .bool false) (by simp) (by
    simp only [List.set, evE, evL, evC, bnd, bndS, var0, varS, exS, exB, asD, tgD, tgsD, ne_int, eq_int, lt_int, gt_int, ge_int, le_int, add_int, sub_int, abs_int, int_int, idx0, idx1, tup1, tup2, tup3, Option.map_some]
    rw [hd]))).trans ((ex_next (for_tup (xs := []) (s1 := s) (by
    simp only [evE, evL, evC, bnd, bndS, var0, varS, exS, exB, asD, tgD, tgsD, ne_int, eq_int, lt_int, gt_int, ge_int, le_int, add_int, sub_int, abs_int, int_int, idx0, idx1, tup1, tup2, tup3, Option.map_some]
    rfl) fg_nil)).trans ((ex_next (th_end (b := false) (by omega) h12 ?_)).trans ex_nil))
  exact and_f (by simp only [evE, evL, evC, bnd, bndS, var0, varS, exS, exB, asD, tgD, tgsD, ne_int, eq_int, lt_int, gt_int, ge_int, le_int, add_int, sub_int, abs_int, int_int, idx0, idx1, tup1, tup2, tup3, Option.map_some])
theorem things_ok {n : Nat} (s : Sto) : ∀ (its : List D), (∀ d ∈ its, ThOk n d) → ∀ p15 p16 p17 : Option D, ∃ q15 q16 q17, forGo (lpB (run Γ W n) (.name 15) bTh) its [o0, o1, o2, o3, o4, o5, o6, o7, o8, o9, o10, o11, o12, o13, o14, p15, p16, p17, o18, o19, o20, o21, o22, o23, o24] s = some (.next, [o0, o1, o2, o3, o4, o5, o6, o7, o8, o9, o10, o11, o12, o13, o14, q15, q16, q17, o18, o19, o20, o21, o22, o23, o24], s)
  | [], _, p15, p16, p17 => ⟨p15, p16, p17, rfl⟩
  | d :: its, h, p15, p16, p17 => by
    obtain ⟨a, b, c, e⟩ := h d (List.mem_cons_self ..) o0 o1 o2 o3 o4 o5 o6 o7 o8 o9 o10 o11 o12 o13 o14 p15 p16 p17 o18 o19 o20 o21 o22 o23 o24 s
    obtain ⟨q15, q16, q17, e2⟩ := things_ok s its (fun z m => h z (List.mem_cons_of_mem _ m)) a b c
    exact ⟨q15, q16, q17, (fg_next e).trans e2⟩
end
end Pk32
end

section
set_option Elab.async false
set_option linter.all false
set_option maxRecDepth 100000
set_option maxHeartbeats 4000000
namespace Pk32
open PySem DL Gk32
section
variable {F : DL.Fun} {a b : E} {ρ : Rho} {s s1 s2 : Sto} {x y : D} {r : Res D}
theorem ev_bin {op : BOp} {c : Bool} (h : evE Γ F a ρ s = some (x, s1)) (h1 : evE Γ F b ρ s1 = some (y, s2)) (h2 : gBin op c x y s2 = r) : evE Γ F (.bin op a b c) ρ s = r := by
  simp only [evE, bnd, h, h1, h2]
theorem ev_cmp {op : COp} (h : evE Γ F a ρ s = some (x, s1)) (h1 : evE Γ F b ρ s1 = some (y, s2)) (h2 : gCmp op x y s2 = r) : evE Γ F (.cmp op a b) ρ s = r := by
  simp only [evE, bnd, h, h1, h2]
theorem ev_idx (h : evE Γ F a ρ s = some (x, s1)) (h1 : evE Γ F b ρ s1 = some (y, s2)) (h2 : gIdx x y s2 = r) : evE Γ F (.idx a b) ρ s = r := by
  simp only [evE, bnd, h, h1, h2]
theorem ev_bi1 {f : Bi} {c : Bool} (h : evE Γ F a ρ s = some (x, s1)) (h2 : gBi f c [x] s1 = r) : evE Γ F (.bi f [a] c) ρ s = r := by
  simp only [evE, evL, bnd, h, h2]
theorem ev_bi2 {f : Bi} {c : Bool} (h : evE Γ F a ρ s = some (x, s1)) (h1 : evE Γ F b ρ s1 = some (y, s2)) (h2 : gBi f c [x, y] s2 = r) : evE Γ F (.bi f [a, b] c) ρ s = r := by
  simp only [evE, evL, bnd, h, h1, h2]
theorem ev_const {d : D} : evE Γ F (.const d) ρ s = some (d, s) := by rw [evE]
end
theorem call_ret {F : DL.Fun} {fd : Fn} {xs : List D} {s s' : Sto} {d : D} {ρ : Rho} (hl : xs.length = fd.pars) (h : exB Γ F W fd.body (startD fd.slots xs) s = some (.ret d, ρ, s')) : callD Γ F W fd xs s = some (d, s') := by
  unfold callD
  rw [if_pos hl, h]
/-! ### the law's draws -/
/-- the law's store: its dict -/
def st (zs : List Int) (k : Nat) : Sto := [.dct [.str s46, .str s45] [.lst (zs.map .int), .int k]]
theorem st_len (zs : List Int) (k : Nat) (n : Nat) (ρ : Rho) (h : ρ[0]? = some (some (.ref 0))) : evE Γ (run Γ W n) (.bi .len [(.idx (.var 0 false) (.const (.str s46)))] false) ρ (st zs k) = some (.int zs.length, st zs k) := by
  have e0 := ev_var (F := run Γ W n) (s := st zs k) h
  have e1 : gIdx (.ref 0) (.str s46) (st zs k) = some (.lst (zs.map .int), st zs k) := by kernel_rfl
  simp only [evE, evL, bnd] at e0 ⊢
  simp only [e0, e1]
  rw [len_of (l := zs.map .int) (.inl rfl), List.length_map]
theorem next_raw {n : Nat} (zs : List Int) (k : Nat) {m : Int} (hm : 0 < m) : ∃ r : Int, 0 ≤ r ∧ r < m ∧ callD Γ (run Γ W n) W f81 [.ref 0, .int m] (st zs k) = some (.int r, st zs (k + 1)) := by
  have s1 : exS Γ (run Γ W n) W (.augs (.var 0 false) (.const (.str s45)) .add (.const (.int 1))) [some (.ref 0), some (.int m)] (st zs k) = some (.next, [some (.ref 0), some (.int m)], st zs (k + 1)) := by kernel_rfl
  have e1 : gIdx (.ref 0) (.str s45) (st zs (k + 1)) = some (.int ((k + 1 : Nat) : Int), st zs (k + 1)) := by kernel_rfl
  have e2 : gIdx (.ref 0) (.str s46) (st zs (k + 1)) = some (.lst (zs.map .int), st zs (k + 1)) := by kernel_rfl
  have e3 := st_len zs (k + 1) n [some (.ref 0), some (.int m)] rfl
  have c : evE Γ (run Γ W n) (.cmp .gt (.idx (.var 0 false) (.const (.str s45))) (.bi .len [(.idx (.var 0 false) (.const (.str s46)))] false)) [some (.ref 0), some (.int m)] (st zs (k + 1)) = some (.bool (decide ((zs.length : Int) < ((k + 1 : Nat) : Int))), st zs (k + 1)) := by
    exact ev_cmp (ev_idx (ev_var rfl) ev_const e1) e3 gt_int
  by_cases h : zs.length < k + 1
  · refine ⟨0, Int.le_refl _, hm, ?_⟩
    rw [decide_eq_true (show (zs.length : Int) < ((k + 1 : Nat) : Int) by omega)] at c
    have z : exB Γ (run Γ W n) W f81.body (startD f81.slots [.ref 0, .int m]) (st zs k) = some (.ret (.int 0), [some (.ref 0), some (.int m)], st zs (k + 1)) := (ex_next s1).trans (ex_ret (ite_t c (ex_ret (ex_rete (by simp only [evE])))))
    exact call_ret rfl z
  · rw [decide_eq_false (show ¬ (zs.length : Int) < ((k + 1 : Nat) : Int) by omega)] at c
    obtain ⟨r0, r1⟩ := fmod_nn (a := zs.getD k 0) hm
    refine ⟨(zs.getD k 0).fmod m, r0, r1, ?_⟩
    have e4 : gIdx (.lst (zs.map .int)) (.int (k : Int)) (st zs (k + 1)) = some (.int (zs.getD k 0), st zs (k + 1)) := by
      have e : ixOf (zs.map D.int).length k = some k := by
        unfold ixOf
        rw [List.length_map, if_pos (by omega), if_pos (by omega)]
        rfl
      show ((ixOf (zs.map D.int).length k).bind fun j => (zs.map D.int)[j]?).map _ = _
      rw [e, Option.bind_some, List.getElem?_map, List.getElem?_eq_getElem (by omega), List.getD_eq_getElem?_getD, List.getElem?_eq_getElem (by omega)]
      rfl
    have k1 : (((k + 1 : Nat) : Int) - 1) = (k : Int) := by omega
    have z : exB Γ (run Γ W n) W f81.body (startD f81.slots [.ref 0, .int m]) (st zs k) = some (.ret (.int ((zs.getD k 0).fmod m)), [some (.ref 0), some (.int m)], st zs (k + 1)) := (ex_next s1).trans ((ex_next (ite_f c ex_nil)).trans (ex_ret (ex_rete (by
      simp only [evE, evL, evC, bnd, bndS, var0, varS, exS, exB, asD, tgD, tgsD, ne_int, eq_int, lt_int, gt_int, ge_int, le_int, add_int, sub_int, abs_int, int_int, idx0, idx1, tup1, tup2, tup3, Option.map_some, e1, e2, k1, e4, mod_int (show m ≠ 0 by omega)]))))
    exact call_ret rfl z
theorem next_ok {n : Nat} (hn : 1 ≤ n) (zs : List Int) (k : Nat) {m : Int} (hm : 0 < m) : ∃ r : Int, 0 ≤ r ∧ r < m ∧ run Γ W n 81 [.ref 0, .int m] (st zs k) = some (.int r, st zs (k + 1)) := by
  obtain ⟨j, rfl⟩ : ∃ j, n = j + 1 := ⟨n - 1, by omega⟩
  obtain ⟨r, h0, h1, e⟩ := next_raw (n := j) zs k hm
  exact ⟨r, h0, h1, e⟩
/-- a call of it -/
theorem ev_next {n : Nat} (hn : 1 ≤ n) {i : Nat} {ρ : Rho} (h : ρ[i]? = some (some (.ref 0))) (zs : List Int) (k : Nat) {m : Int} (hm : 0 < m) : ∃ r : Int, 0 ≤ r ∧ r < m ∧ evE Γ (run Γ W n) (.call 81 [(.var i false), (.const (.int m))]) ρ (st zs k) = some (.int r, st zs (k + 1)) := by
  obtain ⟨r, h0, h1, e⟩ := next_ok hn zs k hm
  exact ⟨r, h0, h1, ev_call2 (ev_var h) (by simp only [evE]) e⟩
theorem norm_bd {a : Int} {b c : Nat} (h0 : b ≠ 0) {M N : Nat} (hM : M = b * c) (hN : a.natAbs * c ≤ N) : Bd M N (Rat.normalize a b h0) := by
  refine ⟨a * c, ?_, ?_⟩
  · rw [Rat.normalize_eq_mkRat, Rat.mkRat_eq_div, hM, Rat.natCast_mul, Rat.intCast_mul, Rat.intCast_natCast]
    have hb : (b : Rat) ≠ 0 := by
      intro e
      have : ((b : Nat) : Rat) = ((0 : Nat) : Rat) := e
      exact h0 (Rat.natCast_inj.mp this)
    have := Rat.div_mul_cancel (a := (a : Rat)) hb
    calc (a : Rat) / (b : Rat) * ((b : Rat) * (c : Rat)) = ((a : Rat) / (b : Rat) * (b : Rat)) * (c : Rat) := by grind
      _ = _ := by rw [this]
  · rw [Int.natAbs_mul]
    simpa using hN
/-- a drawn fraction: a numerator less u, a denominator of at most v -/
theorem ev_frac {n : Nat} (hn : 2 ≤ n) {i : Nat} {ρ : Rho} (h : ρ[i]? = some (some (.ref 0))) (zs : List Int) (k : Nat) {u v w M N : Nat} (hu : 0 < u) (hv : 0 < v) (hv2 : v < 100) (hu2 : u < 100)
    (hb : ∀ (a : Int) (b : Nat) (h0 : b ≠ 0), -(w : Int) ≤ a → a < (u : Int) - w → b ≤ v → Bd M N (Rat.normalize a b h0)) : ∃ q : Rat, Bd M N q ∧ evE Γ (run Γ W n) (.call 85 [(.bin .sub (.call 81 [(.var i false), (.const (.int u))]) (.const (.int w)) false), (.bin .add (.const (.int 1)) (.call 81 [(.var i false), (.const (.int v))]) false)]) ρ (st zs k) = some (enc q, st zs (k + 2)) := by
  obtain ⟨r, r0, r1, e1⟩ := ev_next (n := n) (by omega) h zs k (m := u) (by omega)
  obtain ⟨t, t0, t1, e2⟩ := ev_next (n := n) (by omega) h zs (k + 1) (m := v) (by omega)
  have hd : (1 + t).toNat ≠ 0 := by omega
  have c : ((1 + t).toNat : Int) = 1 + t := by omega
  refine ⟨Rat.normalize (r - w) (1 + t).toNat hd, hb _ _ hd (by omega) (by omega) (by omega), ?_⟩
  have z := l85 hn (a := r - w) (b := (1 + t).toNat) hd (by omega) (st zs (k + 2))
  rw [c] at z
  refine ev_call2 (x := .int (r - w)) (y := .int (1 + t)) (s1 := st zs (k + 1)) (s2 := st zs (k + 2)) ?_ ?_ z
  · exact ev_bin e1 ev_const sub_int
  · exact ev_bin ev_const e2 add_int
/-! _law_poly -/
def eDraw : E := .call 85 [(.bin .sub (.call 81 [(.var 0 false), (.const (.int 7))]) (.const (.int 3)) false), (.bin .add (.const (.int 1)) (.call 81 [(.var 0 false), (.const (.int 3))]) false)]
theorem draw_lc {n : Nat} (hn : 2 ≤ n) (zs : List Int) : ∀ (its : List D) (k : Nat) (acc : List Rat), acc.length + its.length < 100 → BdL 6 18 acc → ∃ (l : List Rat) (k' : Nat), l.length = acc.length + its.length ∧ BdL 6 18 l ∧ lcGo (lcB (run Γ W n) eDraw (.name 1) [] [1] [some (.ref 0), Option.none]) its (st zs k) (encs acc) = some (encs l, st zs k')
  | [], k, acc, _, h => ⟨acc, k, rfl, h, by rw [lcGo]⟩
  | x :: its, k, acc, hl, h => by
    obtain ⟨q, hq, e⟩ := ev_frac (n := n) hn (i := 0) (ρ := [some (.ref 0), some x]) rfl zs k (u := 7) (v := 3) (w := 3) (M := 6) (N := 18) (by decide) (by decide) (by decide) (by decide) (fun a b h0 h1 h2 h3 => by
      have : b = 1 ∨ b = 2 ∨ b = 3 := by omega
      rcases this with rfl | rfl | rfl
      · exact norm_bd (c := 6) h0 rfl (by omega)
      · exact norm_bd (c := 3) h0 rfl (by omega)
      · exact norm_bd (c := 2) h0 rfl (by omega))
    simp only [List.length_cons] at hl
    obtain ⟨l, k', e1, e2, e3⟩ := draw_lc hn zs its (k + 2) (acc ++ [q]) (by rw [List.length_append, List.length_singleton]; omega) (fun z m => by
      rcases List.mem_append.mp m with m | m
      · exact h z m
      · rw [List.mem_singleton.mp m]
        exact hq)
    refine ⟨l, k', ?_, e2, ?_⟩
    · rw [e1, List.length_append, List.length_singleton, List.length_cons]
      omega
    · have f : lcB (run Γ W n) eDraw (.name 1) [] [1] [some (.ref 0), Option.none] x (st zs k) = some (some (enc q), st zs (k + 2)) := by
        show bnd (evC Γ (run Γ W n) [] [some (.ref 0), some x] (st zs k)) (fun b s3 => match b with
          | .bool true => bnd (evE Γ (run Γ W n) eDraw [some (.ref 0), some x] s3) fun y s4 => some (some y, s4)
          | .bool false => some (Option.none, s3)
          | _ => Option.none) = _
        rw [evC]
        show bnd (evE Γ (run Γ W n) eDraw [some (.ref 0), some x] (st zs k)) _ = _
        rw [show evE Γ (run Γ W n) eDraw [some (.ref 0), some x] (st zs k) = some (enc q, st zs (k + 2)) from e]
        rfl
      rw [lcGo, f]
      dsimp only
      rw [if_pos (by unfold lineOk; rw [encs_len]; exact decide_eq_true (by omega))]
      rw [show encs acc ++ [enc q] = encs (acc ++ [q]) by unfold encs; rw [List.map_append]; rfl]
      exact e3
theorem poly_ok {m : Nat} (hm : 4 ≤ m) (zs : List Int) (k : Nat) : ∃ (l : List Rat) (k' : Nat), l.length ≤ 4 ∧ BdL 6 18 l ∧ run Γ W m 90 [.ref 0] (st zs k) = some (encP (trim l), st zs k') := by
  obtain ⟨n, rfl⟩ : ∃ n, m = n + 1 := ⟨m - 1, by omega⟩
  obtain ⟨r, r0, r1, e1⟩ := ev_next (n := n) (by omega) (i := 0) (ρ := [some (.ref 0), Option.none]) rfl zs k (m := 5) (by decide)
  obtain ⟨l, k', g1, g2, g3⟩ := draw_lc (n := n) (by omega) zs (rangeD 0 r.toNat) (k + 1) [] (by rw [range_len]; simp; omega) (fun q m => by cases m)
  rw [range_len] at g1
  refine ⟨l, k', by rw [g1]; simp; omega, g2, ?_⟩
  have e : evE Γ (run Γ W n) (.lc eDraw (.name 1) 1 [(.call 81 [(.var 0 false), (.const (.int 5))])] [] [1] false) [some (.ref 0), Option.none] (st zs k) = some (.lst (encs l), st zs k') := by
    have z : evE Γ (run Γ W n) (.lc eDraw (.name 1) 1 [(.call 81 [(.var 0 false), (.const (.int 5))])] [] [1] false) [some (.ref 0), Option.none] (st zs k) = bnd (evL Γ (run Γ W n) [(.call 81 [(.var 0 false), (.const (.int 5))])] [some (.ref 0), Option.none] (st zs k)) fun xs s1 => bnd (lcAll 1 (lcB (run Γ W n) eDraw (.name 1) [] [1] [some (.ref 0), Option.none]) xs s1 []) fun ys s6 => some (laid false (.lst ys) s6) := by
      rw [evE]
      rfl
    have y : evL Γ (run Γ W n) [(.call 81 [(.var 0 false), (.const (.int 5))])] [some (.ref 0), Option.none] (st zs k) = some ([.int r], st zs (k + 1)) := by
      rw [evL, e1]
      rfl
    have w : walkD 1 [.int r] (st zs (k + 1)) = some (rangeD 0 r.toNat, st zs (k + 1), []) := by
      show (if decide (r ≤ 1000000) && decide (-1000000 ≤ r) then some (rangeD 0 r.toNat, st zs (k + 1), []) else Option.none) = _
      rw [if_pos (by rw [decide_eq_true (show r ≤ 1000000 by omega), decide_eq_true (show (-1000000 : Int) ≤ r by omega)]; rfl)]
    rw [z, y]
    show bnd (lcAll 1 _ [.int r] (st zs (k + 1)) []) _ = _
    unfold lcAll
    rw [w]
    dsimp only
    rw [show lcGo (lcB (run Γ W n) eDraw (.name 1) [] [1] [some (.ref 0), Option.none]) (rangeD 0 r.toNat) (st zs (k + 1)) [] = some (encs l, st zs k') from g3]
    rfl
  have b : exB Γ (run Γ W n) W f90.body (startD f90.slots [.ref 0]) (st zs k) = some (.ret (encP (trim l)), [some (.ref 0), Option.none], st zs k') := ex_ret (ex_rete (ev_call1 e (l89 (show 1 ≤ n by omega) l (by rw [g1]; simp; omega) _)))
  show callD Γ (run Γ W n) W f90 [.ref 0] (st zs k) = _
  exact call_ret rfl b
end Pk32
end

section
set_option Elab.async false
set_option linter.all false
set_option maxRecDepth 100000
set_option maxHeartbeats 4000000
namespace Pk32
open PySem DL Gk32
/-! ### lists that grow -/
theorem ex_app {F : DL.Fun} {i : Nat} {e : E} {ρ : Rho} {xs : List D} {d : D} (h : ρ[i]? = some (some (.ref 0))) (he : evE Γ F e ρ [.lst xs] = some (d, [.lst xs])) (hl : xs.length ≤ 1000000) :
    exS Γ F W (.expr (.bm .append (.var i false) [e])) ρ [.lst xs] = some (.next, ρ, [.lst (xs ++ [d])]) := by
  have z : evE Γ F (.bm .append (.var i false) [e]) ρ [.lst xs] = bnd (evE Γ F (.var i false) ρ [.lst xs]) fun x s1 => if bmTy .append (top s1 x) then bnd (evL Γ F [e] ρ s1) fun xs s2 => bmD s2 .append x xs else Option.none := by conv => lhs; rw [evE]
  have y : evL Γ F [e] ρ [.lst xs] = some ([d], [.lst xs]) := by
    rw [evL, he]
    rfl
  have w : bmD [.lst xs] .append (.ref 0) [d] = some (.none, [.lst (xs ++ [d])]) := by
    show (if lineOk xs.length then some (D.none, [Cell.lst (xs ++ [d])]) else Option.none) = _
    rw [if_pos (by unfold lineOk; exact decide_eq_true hl)]
  rw [exS, z, ev_var h]
  show bndS (bnd (evL Γ F [e] ρ [.lst xs]) fun xs s2 => bmD s2 .append (.ref 0) xs) _ = _
  rw [y]
  show bndS (bmD [.lst xs] .append (.ref 0) [d]) _ = _
  rw [w]
  rfl
/-! ### _law_draws -/
def b60 : List S := [.ite (.cmp .gt (.var 6 false) (.const (.int 0))) [.expr (.bm .append (.var 2 false) [(.bin .mod (.bi .int [(.var 6 false)] false) (.const (.int 997)) false)]),
    .asg (.tg (.name 6)) (.bin .fdiv (.var 6 false) (.const (.int 997)) false)] []]
def eMix : E := .bin .mod (.bi .int [(.bin .add (.bin .add (.bin .mul (.var 3 false) (.const (.int 48271)) false) (.bin .mod (.var 5 false) (.const (.int 1000003)) false) false) (.var 4 false) false)] false) (.const (.int 65537)) false
def eApp1 : E := .bin .mod (.bi .int [(.var 5 false)] false) (.const (.int 997)) false
def eApp2 : E := .bin .mod (.bin .mod (.bi .int [(.bin .add (.bin .mul (.var 3 false) (.const (.int 69621)) false) (.const (.int 5)) false)] false) (.const (.int 65521)) false) (.const (.int 997)) false
def bDr : List S := [.asg (.tg (.name 5)) (.bi .abs [(.bi .int [(.idx (.var 0 false) (.var 4 false))] false)] false),
    .asg (.tg (.name 3)) eMix,
    .asg (.tg (.name 6)) (.const (.int 0)),
    .ite (.cmp .ge (.var 5 false) (.bin .pow (.const (.int 10)) (.const (.int 18)) false)) [.asg (.tg (.name 6)) (.var 5 false)] [.expr (.bm .append (.var 2 false) [eApp1]), .expr (.bm .append (.var 2 false) [eApp2])],
    .for_ (.name 7) 1 [(.const (.int 60))] b60]
def eMix2 : E := .bin .mod (.bi .int [(.bin .add (.bin .add (.bin .mul (.var 3 false) (.const (.int 16807)) false) (.var 4 false) false) (.const (.int 1)) false)] false) (.const (.int 65537)) false
def bDr2 : List S := [.asg (.tg (.name 3)) eMix2, .expr (.bm .append (.var 2 false) [(.bin .mod (.bi .int [(.var 3 false)] false) (.const (.int 997)) false)])]
def inz (zs : List Int) : List D := zs.map .int
theorem ints_app (zs : List Int) (z : Int) : inz zs ++ [.int z] = inz (zs ++ [z]) := by
  unfold inz
  rw [List.map_append]
  rfl
theorem ints_len (zs : List Int) : (inz zs).length = zs.length := List.length_map ..
theorem wide_small {a : Int} (h0 : 0 ≤ a) (h1 : a < 65537) : wideOk a = true := wide_of (by
  have : a.natAbs < 65537 := by omega
  exact Nat.lt_trans this (by decide))
section
variable {F : DL.Fun} {ns : List Int}
theorem for60 (its : List D) : ∀ (r mx : Int) (zs : List Int) (o4 o5 o7 : Option D) (L : Nat), zs.length ≤ L → L + its.length ≤ 1000000 → ∃ (r' : Int) (zs' : List Int) (o7' : Option D), zs'.length ≤ L + its.length ∧
    forGo (lpB F (.name 7) b60) its [some (.scr ns), some (.int 300), some (.ref 0), some (.int mx), o4, o5, some (.int r), o7] [.lst (inz zs)] = some (.next, [some (.scr ns), some (.int 300), some (.ref 0), some (.int mx), o4, o5, some (.int r'), o7'], [.lst (inz zs')]) := by
  induction its with
  | nil => exact fun r mx zs o4 o5 o7 L h1 h2 => ⟨r, zs, o7, h1, rfl⟩
  | cons x its ih =>
    intro r mx zs o4 o5 o7 L h1 h2
    simp only [List.length_cons] at h2
    by_cases hr : 0 < r
    · obtain ⟨r', zs', o7', e1, e2⟩ := ih (r.fdiv 997) mx (zs ++ [r.fmod 997]) o4 o5 (some x) (L + 1) (by rw [List.length_append, List.length_singleton]; omega) (by omega)
      refine ⟨r', zs', o7', by rw [List.length_cons]; omega, ?_⟩
      rw [← e2]
      refine fg_next ?_
      rw [lpB_name (by simp)]
      refine (ex_next (ite_t (s1 := [.lst (inz zs)]) ?_ ((ex_next (ex_app (d := .int (r.fmod 997)) rfl ?_ (by rw [ints_len]; omega))).trans ((ex_next (ρ' := [some (.scr ns), some (.int 300), some (.ref 0), some (.int mx), o4, o5, some (.int (r.fdiv 997)), some x]) (s' := [.lst (inz (zs ++ [r.fmod 997]))]) ?_).trans ex_nil)))).trans ex_nil
      · refine ev_cmp (ev_var rfl) ev_const (gt_int.trans ?_)
        rw [decide_eq_true hr]
      · exact ev_bin (ev_bi1 (ev_var rfl) int_int) ev_const (mod_int (by decide))
      · rw [ints_app]
        exact ex_asg (by simp) (ev_bin (ev_var rfl) ev_const (fdiv_int (by decide) (by decide)))
    · obtain ⟨r', zs', o7', e1, e2⟩ := ih r mx zs o4 o5 (some x) L h1 (by omega)
      refine ⟨r', zs', o7', by rw [List.length_cons]; omega, ?_⟩
      rw [← e2]
      refine fg_next ?_
      rw [lpB_name (by simp)]
      refine (ex_next (ite_f (s1 := [.lst (inz zs)]) ?_ ex_nil)).trans ex_nil
      refine ev_cmp (ev_var rfl) ev_const (gt_int.trans ?_)
      rw [decide_eq_false hr]
theorem turnDr {k : Nat} (hk : k < ns.length) (hk2 : k < 100) {mx : Int} (m0 : 0 ≤ mx) (m1 : mx < 65537) {zs : List Int} (hz : zs.length ≤ 100 * k) (o4 o5 o6 o7 : Option D) : ∃ (mx' : Int) (zs' : List Int) (p4 p5 p6 p7 : Option D), 0 ≤ mx' ∧ mx' < 65537 ∧ zs'.length ≤ 100 * (k + 1) ∧
    lpB F (.name 4) bDr (.int k) [some (.scr ns), some (.int 300), some (.ref 0), some (.int mx), o4, o5, o6, o7] [.lst (inz zs)] = some (.next, [some (.scr ns), some (.int 300), some (.ref 0), some (.int mx'), p4, p5, p6, p7], [.lst (inz zs')]) := by
  let c0 : Int := ns.getD k 0
  let c : Int := if c0 < 0 then -c0 else c0
  let y : Int := (mx * 48271 + c.fmod 1000003 + (k : Int)).fmod 65537
  obtain ⟨y0, y1⟩ := fmod_nn (a := mx * 48271 + c.fmod 1000003 + (k : Int)) (b := 65537) (by decide)
  have i0 : ∀ s : Sto, gIdx (.scr ns) (.int (k : Int)) s = some (.int c0, s) := fun s => by
    have e : ixOf ns.length k = some k := by
      unfold ixOf
      rw [if_pos (by omega), if_pos (by omega)]
      rfl
    show ((ixOf ns.length k).bind fun j => (ns[j]?).map D.int).map _ = _
    rw [e, Option.bind_some, List.getElem?_eq_getElem hk]
    show some (D.int (ns[k]'hk), s) = _
    have : c0 = ns[k]'hk := by
      show ns.getD k 0 = _
      rw [List.getD_eq_getElem?_getD, List.getElem?_eq_getElem hk]
      rfl
    rw [this]
  have s1 : exS Γ F W (.asg (.tg (.name 5)) (.bi .abs [(.bi .int [(.idx (.var 0 false) (.var 4 false))] false)] false)) [some (.scr ns), some (.int 300), some (.ref 0), some (.int mx), some (.int k), o5, o6, o7] [.lst (inz zs)] = some (.next, [some (.scr ns), some (.int 300), some (.ref 0), some (.int mx), some (.int k), some (.int c), o6, o7], [.lst (inz zs)]) :=
    ex_asg (by simp) (ev_bi1 (ev_bi1 (ev_idx (ev_var rfl) (ev_var rfl) (i0 _)) int_int) abs_int)
  have s2 : exS Γ F W (.asg (.tg (.name 3)) eMix) [some (.scr ns), some (.int 300), some (.ref 0), some (.int mx), some (.int k), some (.int c), o6, o7] [.lst (inz zs)] = some (.next, [some (.scr ns), some (.int 300), some (.ref 0), some (.int y), some (.int k), some (.int c), o6, o7], [.lst (inz zs)]) :=
    ex_asg (by simp) (ev_bin (ev_bi1 (ev_bin (ev_bin (ev_bin (ev_var rfl) ev_const (mul_int (wide_small m0 m1) (by decide))) (ev_bin (ev_var rfl) ev_const (mod_int (by decide))) add_int) (ev_var rfl) add_int) int_int) ev_const (mod_int (by decide)))
  have s3 : exS Γ F W (.asg (.tg (.name 6)) (.const (.int 0))) [some (.scr ns), some (.int 300), some (.ref 0), some (.int y), some (.int k), some (.int c), o6, o7] [.lst (inz zs)] = some (.next, [some (.scr ns), some (.int 300), some (.ref 0), some (.int y), some (.int k), some (.int c), some (.int 0), o7], [.lst (inz zs)]) :=
    ex_asg (by simp) ev_const
  have pw : ∀ (ρ : Rho) (s : Sto), evE Γ F (.bin .pow (.const (.int 10)) (.const (.int 18)) false) ρ s = some (.int 1000000000000000000, s) := fun ρ s => ev_bin ev_const ev_const (by kernel_rfl)
  have s4 : ∃ (r : Int) (zs1 : List Int), zs1.length ≤ 100 * k + 2 ∧ exS Γ F W (.ite (.cmp .ge (.var 5 false) (.bin .pow (.const (.int 10)) (.const (.int 18)) false)) [.asg (.tg (.name 6)) (.var 5 false)] [.expr (.bm .append (.var 2 false) [eApp1]), .expr (.bm .append (.var 2 false) [eApp2])]) [some (.scr ns), some (.int 300), some (.ref 0), some (.int y), some (.int k), some (.int c), some (.int 0), o7] [.lst (inz zs)] = some (.next, [some (.scr ns), some (.int 300), some (.ref 0), some (.int y), some (.int k), some (.int c), some (.int r), o7], [.lst (inz zs1)]) := by
    by_cases h : (1000000000000000000 : Int) ≤ c
    · refine ⟨c, zs, by omega, ite_t (s1 := [.lst (inz zs)]) (ev_cmp (ev_var rfl) (pw _ _) (ge_int.trans (by rw [decide_eq_true h]))) ((ex_next (ex_asg (by simp) (ev_var rfl))).trans ex_nil)⟩
    · refine ⟨0, zs ++ [c.fmod 997] ++ [((y * 69621 + 5).fmod 65521).fmod 997], by simp; omega, ite_f (s1 := [.lst (inz zs)]) (ev_cmp (ev_var rfl) (pw _ _) (ge_int.trans (by rw [decide_eq_false h]))) ?_⟩
      refine (ex_next (ex_app (d := .int (c.fmod 997)) rfl (ev_bin (ev_bi1 (ev_var rfl) int_int) ev_const (mod_int (by decide))) (by rw [ints_len]; omega))).trans ?_
      rw [ints_app]
      refine (ex_next (ex_app (d := .int (((y * 69621 + 5).fmod 65521).fmod 997)) rfl (ev_bin (ev_bin (ev_bi1 (ev_bin (ev_bin (ev_var rfl) ev_const (mul_int (wide_small y0 y1) (by decide))) ev_const add_int) int_int) ev_const (mod_int (by decide))) ev_const (mod_int (by decide))) (by rw [ints_len, List.length_append, List.length_singleton]; omega))).trans ?_
      rw [ints_app, ex_nil]
  obtain ⟨r, zs1, hz1, s4⟩ := s4
  obtain ⟨r', zs', o7', hz', e⟩ := for60 (F := F) (ns := ns) (rangeD 0 60) r y zs1 (some (.int k)) (some (.int c)) o7 (100 * k + 2) hz1 (by rw [range_len]; omega)
  rw [range_len] at hz'
  refine ⟨y, zs', some (.int k), some (.int c), some (.int r'), o7', y0, y1, by omega, ?_⟩
  rw [lpB_name (by simp)]
  exact (ex_next s1).trans ((ex_next s2).trans ((ex_next s3).trans ((ex_next s4).trans ((ex_next (for_range2 (n := 60) (by decide) ev_const e)).trans ex_nil))))
end
theorem draws_ok {m : Nat} (hm : 1 ≤ m) (ns : List Int) (hl : ns.length ≤ 63) : ∃ zs : List Int, C m 80 [.scr ns, .int 300] (.lst (zs.map .int)) := by
  obtain ⟨n, rfl⟩ : ∃ n, m = n + 1 := ⟨m - 1, by omega⟩
  obtain ⟨ρ1, s1, e1, mx, zs, p4, p5, p6, p7, m0, m1, hz, rfl, rfl⟩ := fg_count (f := lpB (run Γ W n) (.name 4) bDr) (n := ns.length)
    (I := fun k ρ s => ∃ (mx : Int) (zs : List Int) (p4 p5 p6 p7 : Option D), 0 ≤ mx ∧ mx < 65537 ∧ zs.length ≤ 100 * k ∧ ρ = [some (.scr ns), some (.int 300), some (.ref 0), some (.int mx), p4, p5, p6, p7] ∧ s = [.lst (inz zs)]) (fun j hj ρ s ⟨mx, zs, p4, p5, p6, p7, m0, m1, hz, e4, e5⟩ => by
      subst e4 e5
      obtain ⟨mx', zs', q4, q5, q6, q7, a, b, c, e⟩ := turnDr (F := run Γ W n) hj (by omega) m0 m1 hz p4 p5 p6 p7
      exact ⟨_, _, e, mx', zs', q4, q5, q6, q7, a, b, c, rfl, rfl⟩) (ρ := [some (.scr ns), some (.int 300), some (.ref 0), some (.int 7), Option.none, Option.none, Option.none, Option.none]) (s := [.lst (inz [])]) ⟨7, [], Option.none, Option.none, Option.none, Option.none, by decide, by decide, by simp, rfl, rfl⟩
  obtain ⟨ρ2, s2, e2, mx2, zs2, q4, m20, m21, hz2, rfl, rfl⟩ := fg_count (f := lpB (run Γ W n) (.name 4) bDr2) (n := 300)
    (I := fun k ρ s => ∃ (mx : Int) (zs : List Int) (p4 : Option D), 0 ≤ mx ∧ mx < 65537 ∧ zs.length ≤ 100 * ns.length + k ∧ ρ = [some (.scr ns), some (.int 300), some (.ref 0), some (.int mx), p4, p5, p6, p7] ∧ s = [.lst (inz zs)]) (fun j hj ρ s ⟨mx, zs, p4, m0, m1, hz, e4, e5⟩ => by
      subst e4 e5
      obtain ⟨y0, y1⟩ := fmod_nn (a := mx * 16807 + (j : Int) + 1) (b := 65537) (by decide)
      refine ⟨[some (.scr ns), some (.int 300), some (.ref 0), some (.int ((mx * 16807 + (j : Int) + 1).fmod 65537)), some (.int j), p5, p6, p7], [.lst (inz (zs ++ [((mx * 16807 + (j : Int) + 1).fmod 65537).fmod 997]))], ?_, (mx * 16807 + (j : Int) + 1).fmod 65537, zs ++ [((mx * 16807 + (j : Int) + 1).fmod 65537).fmod 997], some (.int j), y0, y1, by rw [List.length_append, List.length_singleton]; omega, rfl, rfl⟩
      rw [lpB_name (by simp)]
      refine (ex_next (ρ' := [some (.scr ns), some (.int 300), some (.ref 0), some (.int ((mx * 16807 + (j : Int) + 1).fmod 65537)), some (.int j), p5, p6, p7]) (s' := [.lst (inz zs)]) (ex_asg (by simp) (ev_bin (ev_bi1 (ev_bin (ev_bin (ev_bin (ev_var rfl) ev_const (mul_int (wide_small m0 m1) (by decide))) (ev_var rfl) add_int) ev_const add_int) int_int) ev_const (mod_int (by decide))))).trans ?_
      refine (ex_next (ex_app (d := .int (((mx * 16807 + (j : Int) + 1).fmod 65537).fmod 997)) rfl (ev_bin (ev_bi1 (ev_var rfl) int_int) ev_const (mod_int (by decide))) (by rw [ints_len]; omega))).trans ?_
      rw [ints_app, ex_nil]) (ρ := [some (.scr ns), some (.int 300), some (.ref 0), some (.int mx), p4, p5, p6, p7]) (s := [.lst (inz zs)]) ⟨mx, zs, p4, m0, m1, by omega, rfl, rfl⟩
  have sl : evE Γ (run Γ W n) (.slc (.var 2 true) .nil (.var 1 false) false) [some (.scr ns), some (.int 300), some (.ref 0), some (.int mx2), q4, p5, p6, p7] [.lst (inz zs2)] = some (.lst (inz (zs2.take 300)), [.dead]) := by
    simp only [evE, bnd, varE]
    show (slcD [.dead] (.lst (inz zs2)) .none (.int 300)).map (fun z => laid false z [.dead]) = _
    have h : slcD [.dead] (.lst (inz zs2)) .none (.int 300) = some (.lst (inz (zs2.take 300))) := by
      show some (D.lst (((inz zs2).drop 0).take ((min (300 : Int).toNat (inz zs2).length) - 0))) = _
      rw [List.drop_zero, Nat.sub_zero]
      unfold inz
      rw [List.map_take, List.length_map]
      congr 2
      show List.take (min 300 _) _ = _
      rw [Nat.min_comm]
      by_cases h : zs2.length ≤ 300
      · rw [Nat.min_eq_left h, List.take_of_length_le (by simp), List.take_of_length_le (by simp; exact h)]
      · rw [Nat.min_eq_right (by omega)]
    rw [h]
    rfl
  have b : exB Γ (run Γ W n) W f80.body (startD f80.slots [.scr ns, .int 300]) [] = some (.ret (.lst (inz (zs2.take 300))), [some (.scr ns), some (.int 300), some (.ref 0), some (.int mx2), q4, p5, p6, p7], [.dead]) := by
    have i1 : evE Γ (run Γ W n) (.bi .len [(.var 0 false)] false) [some (.scr ns), some (.int 300), some (.ref 0), some (.int 7), Option.none, Option.none, Option.none, Option.none] [.lst (inz [])] = some (.int ns.length, [.lst (inz [])]) := ev_bi1 (ev_var rfl) rfl
    refine (ex_next (ρ' := [some (.scr ns), some (.int 300), some (.ref 0), Option.none, Option.none, Option.none, Option.none, Option.none]) (s' := [.lst (inz [])]) (ex_asg (by simp [startD, f80]) (by simp only [evE, evL, bnd]; rfl))).trans ?_
    refine (ex_next (ρ' := [some (.scr ns), some (.int 300), some (.ref 0), some (.int 7), Option.none, Option.none, Option.none, Option.none]) (s' := [.lst (inz [])]) (ex_asg (by simp) ev_const)).trans ?_
    refine (ex_next (for_range2 (n := ns.length) (by omega) i1 e1)).trans ?_
    refine (ex_next (for_range2 (n := 300) (by decide) (ev_var rfl) e2)).trans ?_
    exact ex_ret (ex_rete sl)
  have clo : ∀ zs : List Int, D.clos (inz zs) = true := fun zs => by
    induction zs with
    | nil => rfl
    | cons z zs ih => exact ih
  exact ⟨zs2.take 300, fun s => run_tree (fd := f80) rfl rfl (call_ret rfl b) (clo _)⟩
end Pk32
end

section
set_option Elab.async false
set_option linter.all false
set_option maxRecDepth 100000
set_option maxHeartbeats 4000000
namespace Pk32
open PySem DL Gk32
/-! ### texts -/
def txt (i : Int) : Str := Str.ofString (toString i)
theorem txt_len : ∀ i : Int, i.natAbs ≤ 18 → (txt i).length ≤ 3 := by
  have h : ∀ k : Fin 37, (txt ((k.val : Int) - 18)).length ≤ 3 := by decide +kernel
  intro i hi
  have z := h ⟨(i + 18).toNat, by omega⟩
  have e : (((i + 18).toNat : Nat) : Int) - 18 = i := by omega
  dsimp only at z
  rw [e] at z
  exact z
def suf : Nat → Str
  | 0 => s0
  | 1 => s47
  | k => s48 ++ txt k
theorem suf_len : ∀ k, k < 4 → (suf k).length ≤ 6 := by decide +kernel
theorem s3_len : s3.length = 1 := rfl
def piece (q : Rat) (k : Nat) : Str := txt q.num ++ s3 ++ txt q.den ++ suf k
theorem app_len (a b : Str) : (a ++ b).length = a.length + b.length := by
  show (a.cps ++ b.cps).size = _
  rw [Array.size_append]
  rfl
theorem str_int {a : Int} {s : Sto} (h : a.natAbs ≤ 18) : gBi .str false [.int a] s = some (.str (txt a), s) := by
  have h2 : a.natAbs.log2 < 1900 := by
    have : a.natAbs < 2 ^ 120 := Nat.lt_of_le_of_lt h (by decide)
    exact Nat.lt_of_lt_of_le (log_lt this (by decide)) (by decide)
  show (if a.natAbs.log2 < 1900 then some (D.str (txt a)) else Option.none).map (fun z => laid false z s) = _
  rw [if_pos h2]
  rfl
theorem add_str {a b : Str} {s : Sto} (h : a.length + b.length ≤ 100) : gBin .add false (.str a) (.str b) s = some (.str (a ++ b), s) := by
  show (match (if lineOk (a.length + b.length) then some (D.str (a ++ b)) else Option.none) with
    | some z => some (laid false z s)
    | Option.none => Option.none) = _
  rw [if_pos (by unfold lineOk; exact decide_eq_true (by omega))]
  rfl
def txz (ts : List Str) : List D := ts.map .str
theorem strs_app (ts : List Str) (t : Str) : txz ts ++ [.str t] = txz (ts ++ [t]) := by
  unfold txz
  rw [List.map_append]
  rfl
theorem pys_txz : ∀ ts : List Str, D.pys (txz ts) = some (ts.map .str)
  | [] => rfl
  | t :: ts => by
    rw [show txz (t :: ts) = .str t :: txz ts from rfl, D.pys, pys_txz ts]
    rfl
theorem texts_txz : ∀ ts : List Str, texts (txz ts) = some ts
  | [] => rfl
  | t :: ts => by
    rw [show txz (t :: ts) = .str t :: txz ts from rfl, texts, texts_txz ts]
    rfl
theorem depth_strs : ∀ ts : List Str, PyData.depthAll (ts.map PyData.str) ≤ 1
  | [] => by simp [PyData.depthAll]
  | t :: ts => by
    have := depth_strs ts
    simp [PyData.depthAll, PyData.depth]
    omega
theorem ne_nilS {x : D} {s : Sto} {ts : List Str} (h : top s x = .lst (txz ts)) : gCmp .ne x (.lst []) s = some (.bool (!ts.isEmpty), s) := by
  have := depth_strs ts
  have e1 : (D.lst (txz ts)).py = some (.list (ts.map .str)) := by
    rw [D.py, pys_txz]
    rfl
  have e3 : (PyData.list (ts.map PyData.str)).depth ≤ 50 := by
    rw [PyData.depth]
    omega
  have e : eqPy (.lst (txz ts)) (.lst []) = some ts.isEmpty := by
    unfold eqPy
    rw [e1, show (D.lst []).py = some (.list []) from rfl]
    dsimp only
    rw [if_pos e3, PyData.eqv]
    cases ts with
    | nil => rw [List.map_nil, PyData.eqvAll]; rfl
    | cons q l => rw [List.map_cons, PyData.eqvAll]; rfl
  show ((eqPy (top s x) (.lst [])).map fun r => !r).map _ = _
  rw [h, e]
  rfl
/-- the parts -/
def parts (l : List Rat) (k : Nat) : List Str := (List.range k).foldl (fun ts j => if l.getD j 0 = 0 then ts else ts ++ [piece (l.getD j 0) j]) []
def text (l : List Rat) : Str := if (parts l l.length).isEmpty then s5 else Str.join s4 (parts l l.length)
theorem parts_len (l : List Rat) : ∀ k, (parts l k).length ≤ k
  | 0 => Nat.le_refl _
  | k + 1 => by
    have := parts_len l k
    unfold parts at this ⊢
    rw [List.range_succ, List.foldl_append]
    show (if l.getD k 0 = 0 then _ else _ : List Str).length ≤ _
    split
    · omega
    · rw [List.length_append, List.length_singleton]
      omega
theorem piece_len {q : Rat} {k : Nat} (h : q.num.natAbs ≤ 18 ∧ q.den ≤ 6) (hk : k < 4) : (piece q k).length ≤ 20 := by
  unfold piece
  have h1 := txt_len q.num h.1
  have h2 := txt_len (q.den : Int) (by omega)
  have h3 := suf_len k hk
  have h4 := s3_len
  rw [app_len, app_len, app_len]
  omega
theorem parts_each {l : List Rat} (h : BdL 6 18 l) : ∀ k, k ≤ 4 → ∀ t ∈ parts l k, t.length ≤ 20
  | 0, _, t, m => by cases m
  | k + 1, hk, t, m => by
    have ih := parts_each h k (by omega)
    unfold parts at m ih
    rw [List.range_succ, List.foldl_append] at m
    replace m : t ∈ (if l.getD k 0 = 0 then (List.range k).foldl (fun ts j => if l.getD j 0 = 0 then ts else ts ++ [piece (l.getD j 0) j]) [] else (List.range k).foldl (fun ts j => if l.getD j 0 = 0 then ts else ts ++ [piece (l.getD j 0) j]) [] ++ [piece (l.getD k 0) k]) := m
    split at m
    · exact ih t m
    · rcases List.mem_append.mp m with m | m
      · exact ih t m
      · rw [List.mem_singleton.mp m]
        exact piece_len ((h.getD k).size (by decide)) (by omega)
theorem sum_len {ts : List Str} (h : ∀ t ∈ ts, t.length ≤ 20) : (ts.map (·.length)).sum ≤ 20 * ts.length := by
  induction ts with
  | nil => exact Nat.le_refl _
  | cons t ts ih =>
    rw [List.map_cons, List.sum_cons, List.length_cons]
    have := ih fun t m => h t (List.mem_cons_of_mem _ m)
    have := h t (List.mem_cons_self ..)
    omega
theorem piece_ev {F : DL.Fun} {ρ : Rho} {s : Sto} {eq es : E} {q : Rat} {k : Nat} (hb : q.num.natAbs ≤ 18 ∧ q.den ≤ 6) (hk : k < 4) (h : evE Γ F eq ρ s = some (enc q, s)) (hs : evE Γ F es ρ s = some (.str (suf k), s)) :
    evE Γ F (.bin .add (.bin .add (.bin .add (.bi .str [(.idx eq (.const (.int 0)))] false) (.const (.str s3)) false) (.bi .str [(.idx eq (.const (.int 1)))] false) false) es false) ρ s = some (.str (piece q k), s) := by
  have h1 := txt_len q.num hb.1
  have h2 := txt_len (q.den : Int) (by omega)
  have h3 := suf_len k hk
  have h4 := s3_len
  refine ev_bin (ev_bin (ev_bin (ev_bi1 (ev_idx h ev_const idx_num) (str_int hb.1)) ev_const (add_str (by omega))) (ev_bi1 (ev_idx h ev_const idx_den) (str_int (by omega))) (add_str (by rw [app_len]; omega))) hs (add_str (by rw [app_len, app_len]; omega))
/-! poly_text, _law_text: over the place of the list -/
def eSuf19 : E := .ite (.cmp .eq (.var 3 false) (.const (.int 0))) (.const (.str s0)) (.ite (.cmp .eq (.var 3 false) (.const (.int 1))) (.bin .add (.const (.str s1)) (.var 1 false) false) (.bin .add (.bin .add (.bin .add (.const (.str s1)) (.var 1 false) false) (.const (.str s2)) false) (.bi .str [(.var 3 false)] false) false))
def eSuf93 : E := .ite (.cmp .eq (.var 2 false) (.const (.int 0))) (.const (.str s0)) (.ite (.cmp .eq (.var 2 false) (.const (.int 1))) (.const (.str s47)) (.bin .add (.const (.str s48)) (.bi .str [(.var 2 false)] false) false))
theorem suf19 {F : DL.Fun} {o0 o2 o4 : Option D} {s : Sto} : ∀ k : Nat, k < 4 → evE Γ F eSuf19 [o0, some (.str s49), o2, some (.int k), o4] s = some (.str (suf k), s)
  | 0, _ => by kernel_rfl
  | 1, _ => by kernel_rfl
  | 2, _ => by kernel_rfl
  | 3, _ => by kernel_rfl
  | n + 4, h => by omega
theorem suf93 {F : DL.Fun} {o0 o1 : Option D} {s : Sto} : ∀ k : Nat, k < 4 → evE Γ F eSuf93 [o0, o1, some (.int k)] s = some (.str (suf k), s)
  | 0, _ => by kernel_rfl
  | 1, _ => by kernel_rfl
  | 2, _ => by kernel_rfl
  | 3, _ => by kernel_rfl
  | n + 4, h => by omega
theorem ev_ite {F : DL.Fun} {t a b : E} {ρ : Rho} {s s1 : Sto} {v : Bool} {r : Res D} (h : evE Γ F t ρ s = some (.bool v, s1)) (h2 : (if v then evE Γ F a ρ s1 else evE Γ F b ρ s1) = r) : evE Γ F (.ite t a b) ρ s = r := by
  simp only [evE, bnd, h]
  cases v
  · exact h2
  · exact h2
theorem text_end {F : DL.Fun} {i : Nat} {ρ : Rho} {l : List Rat} (hl : l.length ≤ 4) (hb : BdL 6 18 l) (h : ρ[i]? = some (some (.ref 0))) : evE Γ F (.ite (.cmp .ne (.var i false) (.lst [] false)) (.bm .join (.const (.str s4)) [(.var i false)]) (.const (.str s5))) ρ [.lst (txz (parts l l.length))] = some (.str (text l), [.lst (txz (parts l l.length))]) := by
  refine ev_ite (v := !(parts l l.length).isEmpty) (s1 := [.lst (txz (parts l l.length))]) (ev_cmp (ev_var h) (by simp only [evE, evL, bnd]; rfl) (ne_nilS rfl)) ?_
  unfold text
  cases hp : (parts l l.length).isEmpty with
  | true =>
    rw [if_neg (by simp), if_pos rfl]
    exact ev_const
  | false =>
    rw [if_pos (by simp), if_neg (by simp)]
    have z : evE Γ F (.bm .join (.const (.str s4)) [(.var i false)]) ρ [.lst (txz (parts l l.length))] = bnd (evE Γ F (.const (.str s4)) ρ [.lst (txz (parts l l.length))]) fun x s1 => if bmTy .join (top s1 x) then bnd (evL Γ F [(.var i false)] ρ s1) fun xs s2 => bmD s2 .join x xs else Option.none := by conv => lhs; rw [evE]
    have y : evL Γ F [(.var i false)] ρ [.lst (txz (parts l l.length))] = some ([.ref 0], [.lst (txz (parts l l.length))]) := by
      conv => lhs; rw [evL]
      rw [ev_var h]
      rfl
    have s1 := sum_len (parts_each hb l.length hl)
    have s2 := parts_len l l.length
    have s4l : s4.length = 3 := rfl
    have w : bmD [.lst (txz (parts l l.length))] .join (.str s4) [.ref 0] = some (.str (Str.join s4 (parts l l.length)), [.lst (txz (parts l l.length))]) := by
      show (match texts (txz (parts l l.length)) with
        | some ts => if lineOk ((List.map (fun t : Str => t.length) ts).sum + ts.length * s4.length) then some (D.str (Str.join s4 ts), [Cell.lst (txz (parts l l.length))]) else Option.none
        | Option.none => Option.none) = _
      rw [texts_txz]
      dsimp only
      rw [if_pos (by unfold lineOk; exact decide_eq_true (by rw [s4l]; omega))]
    rw [z, ev_const]
    show bnd (evL Γ F [(.var i false)] ρ [.lst (txz (parts l l.length))]) (fun xs s2 => bmD s2 .join (.str s4) xs) = _
    rw [y]
    exact w
theorem parts_succ (l : List Rat) (k : Nat) : parts l (k + 1) = if l.getD k 0 = 0 then parts l k else parts l k ++ [piece (l.getD k 0) k] := by
  unfold parts
  rw [List.range_succ, List.foldl_append]
  rfl
theorem l19 {m : Nat} (hm : 1 ≤ m) {l : List Rat} (hl : l.length ≤ 4) (hb : BdL 6 18 l) : C m 19 [encP l, .str s49] (.str (text l)) := mk 0 hm rfl rfl (by simp [D.clos, D.clo, clo_encP]) rfl fun n hn => by
  obtain ⟨ρ1, s1, e1, p3, p4, rfl, rfl⟩ := fg_count (f := lpB (run Γ W n) (.name 3) [.ite (.cmp .ne (.idx (.idx (.var 0 false) (.var 3 false)) (.const (.int 0))) (.const (.int 0))) [.asg (.tg (.name 4)) eSuf19,
    .expr (.bm .append (.var 2 false) [(.bin .add (.bin .add (.bin .add (.bi .str [(.idx (.idx (.var 0 false) (.var 3 false)) (.const (.int 0)))] false) (.const (.str s3)) false) (.bi .str [(.idx (.idx (.var 0 false) (.var 3 false)) (.const (.int 1)))] false) false) (.var 4 false) false)])] []]) (n := l.length)
    (I := fun k ρ s => ∃ p3 p4, ρ = [some (encP l), some (.str s49), some (.ref 0), p3, p4] ∧ s = [.lst (txz (parts l k))]) (fun k hk ρ s ⟨p3, p4, e4, e5⟩ => by
      subst e4 e5
      have hi : ∀ (ρ : Rho), ρ[0]? = some (some (encP l)) → ρ[3]? = some (some (.int k)) → evE Γ (run Γ W n) (.idx (.var 0 false) (.var 3 false)) ρ [.lst (txz (parts l k))] = some (enc (l.getD k 0), [.lst (txz (parts l k))]) := fun ρ h0 h3 => ev_idx (ev_var h0) (ev_var h3) (idx_at (.inr rfl) hk)
      by_cases hq : l.getD k 0 = 0
      · refine ⟨_, _, ?_, some (.int k), p4, rfl, rfl⟩
        rw [lpB_name (by simp), parts_succ, if_pos hq]
        exact (ex_next (ite_f (s1 := [.lst (txz (parts l k))]) (ev_cmp (ev_idx (hi _ rfl rfl) ev_const idx_num) ev_const (ne_int.trans (by rw [decide_eq_true (num0 hq)]; rfl))) ex_nil)).trans ex_nil
      · refine ⟨[some (encP l), some (.str s49), some (.ref 0), some (.int k), some (.str (suf k))], _, ?_, some (.int k), some (.str (suf k)), rfl, rfl⟩
        rw [lpB_name (by simp), parts_succ, if_neg hq]
        refine (ex_next (ite_t (s1 := [.lst (txz (parts l k))]) (ev_cmp (ev_idx (hi _ rfl rfl) ev_const idx_num) ev_const (ne_int.trans (by rw [decide_eq_false (num1 hq)]; rfl))) ((ex_next (ex_asg (by simp) (suf19 k (by omega)))).trans ((ex_next (ex_app (d := .str (piece (l.getD k 0) k)) rfl (piece_ev ((hb.getD k).size (by decide)) (by omega) (hi _ rfl rfl) (ev_var rfl)) ?_)).trans ex_nil)))).trans ?_
        · have := parts_len l k
          unfold txz
          rw [List.length_map]
          omega
        · rw [strs_app, ex_nil]
          rfl) (ρ := [some (encP l), some (.str s49), some (.ref 0), Option.none, Option.none]) (s := [.lst (txz [])]) ⟨Option.none, Option.none, rfl, rfl⟩
  have i1 : evE Γ (run Γ W n) (.bi .len [(.var 0 false)] false) [some (encP l), some (.str s49), some (.ref 0), Option.none, Option.none] [.lst (txz [])] = some (.int l.length, [.lst (txz [])]) := ev_bi1 (ev_var rfl) (by rw [len_of (l := encs l) (.inr rfl), encs_len])
  exact ⟨_, _, (ex_next (ρ' := [some (encP l), some (.str s49), some (.ref 0), Option.none, Option.none]) (s' := [.lst (txz [])]) (ex_asg (by simp [startD, f19]) (by simp only [evE, evL, bnd]; rfl))).trans ((ex_next (for_range2 (by omega) i1 e1)).trans (ex_ret (ex_rete (text_end hl hb rfl))))⟩
theorem l93 {m : Nat} (hm : 1 ≤ m) {l : List Rat} (hl : l.length ≤ 4) (hb : BdL 6 18 l) : C m 93 [encP l] (.str (text l)) := mk 0 hm rfl rfl (by simp [D.clos, D.clo, clo_encP]) rfl fun n hn => by
  obtain ⟨ρ1, s1, e1, p2, rfl, rfl⟩ := fg_count (f := lpB (run Γ W n) (.name 2) [.ite (.cmp .ne (.idx (.idx (.var 0 false) (.var 2 false)) (.const (.int 0))) (.const (.int 0))) [.expr (.bm .append (.var 1 false) [(.bin .add (.bin .add (.bin .add (.bi .str [(.idx (.idx (.var 0 false) (.var 2 false)) (.const (.int 0)))] false) (.const (.str s3)) false) (.bi .str [(.idx (.idx (.var 0 false) (.var 2 false)) (.const (.int 1)))] false) false) eSuf93 false)])] []]) (n := l.length)
    (I := fun k ρ s => ∃ p2, ρ = [some (encP l), some (.ref 0), p2] ∧ s = [.lst (txz (parts l k))]) (fun k hk ρ s ⟨p2, e4, e5⟩ => by
      subst e4 e5
      have hi : ∀ (ρ : Rho), ρ[0]? = some (some (encP l)) → ρ[2]? = some (some (.int k)) → evE Γ (run Γ W n) (.idx (.var 0 false) (.var 2 false)) ρ [.lst (txz (parts l k))] = some (enc (l.getD k 0), [.lst (txz (parts l k))]) := fun ρ h0 h3 => ev_idx (ev_var h0) (ev_var h3) (idx_at (.inr rfl) hk)
      refine ⟨[some (encP l), some (.ref 0), some (.int k)], _, ?_, some (.int k), rfl, rfl⟩
      rw [lpB_name (by simp), parts_succ]
      by_cases hq : l.getD k 0 = 0
      · rw [if_pos hq]
        exact (ex_next (ite_f (s1 := [.lst (txz (parts l k))]) (ev_cmp (ev_idx (hi _ rfl rfl) ev_const idx_num) ev_const (ne_int.trans (by rw [decide_eq_true (num0 hq)]; rfl))) ex_nil)).trans ex_nil
      · rw [if_neg hq]
        refine (ex_next (ite_t (s1 := [.lst (txz (parts l k))]) (ev_cmp (ev_idx (hi _ rfl rfl) ev_const idx_num) ev_const (ne_int.trans (by rw [decide_eq_false (num1 hq)]; rfl))) ((ex_next (ex_app (d := .str (piece (l.getD k 0) k)) rfl (piece_ev ((hb.getD k).size (by decide)) (by omega) (hi _ rfl rfl) (suf93 k (by omega))) ?_)).trans ex_nil))).trans ?_
        · have := parts_len l k
          unfold txz
          rw [List.length_map]
          omega
        · rw [strs_app, ex_nil]) (ρ := [some (encP l), some (.ref 0), Option.none]) (s := [.lst (txz [])]) ⟨Option.none, rfl, rfl⟩
  have i1 : evE Γ (run Γ W n) (.bi .len [(.var 0 false)] false) [some (encP l), some (.ref 0), Option.none] [.lst (txz [])] = some (.int l.length, [.lst (txz [])]) := ev_bi1 (ev_var rfl) (by rw [len_of (l := encs l) (.inr rfl), encs_len])
  exact ⟨_, _, (ex_next (ρ' := [some (encP l), some (.ref 0), Option.none]) (s' := [.lst (txz [])]) (ex_asg (by simp [startD, f93]) (by simp only [evE, evL, bnd]; rfl))).trans ((ex_next (for_range2 (by omega) i1 e1)).trans (ex_ret (ex_rete (text_end hl hb rfl))))⟩
end Pk32
end

section
set_option Elab.async false
set_option linter.all false
set_option maxRecDepth 100000
set_option maxHeartbeats 4000000
namespace Pk32
/-! ### sums with weights -/
def sm : Nat → (Nat → Rat) → Rat
  | 0, _ => 0
  | n + 1, f => sm n f + f n
theorem sm_congr : ∀ {n : Nat} {f g : Nat → Rat}, (∀ k, k < n → f k = g k) → sm n f = sm n g
  | 0, _, _, _ => rfl
  | n + 1, f, g, h => by
    rw [sm, sm, sm_congr fun k hk => h k (Nat.lt_succ_of_lt hk), h n (Nat.lt_succ_self n)]
theorem sm_add : ∀ (n : Nat) (f g : Nat → Rat), sm n (fun k => f k + g k) = sm n f + sm n g
  | 0, _, _ => by
    show (0 : Rat) = 0 + 0
    grind
  | n + 1, f, g => by
    rw [sm, sm, sm, sm_add n f g]
    grind
theorem sm_mul : ∀ (n : Nat) (c : Rat) (f : Nat → Rat), sm n (fun k => c * f k) = c * sm n f
  | 0, c, _ => by
    show (0 : Rat) = c * 0
    grind
  | n + 1, c, f => by
    rw [sm, sm, sm_mul n c f]
    grind
theorem sm_zero : ∀ (n : Nat) {f : Nat → Rat}, (∀ k, k < n → f k = 0) → sm n f = 0
  | 0, _, _ => rfl
  | n + 1, f, h => by
    rw [sm, sm_zero n fun k hk => h k (Nat.lt_succ_of_lt hk), h n (Nat.lt_succ_self n)]
    grind
theorem sm_front : ∀ (n : Nat) (f : Nat → Rat), sm (n + 1) f = f 0 + sm n (fun k => f (k + 1))
  | 0, f => by
    show 0 + f 0 = f 0 + 0
    grind
  | n + 1, f => by
    rw [sm, sm_front n f, sm]
    grind
theorem sm_more : ∀ (d n : Nat) {f : Nat → Rat}, (∀ k, n ≤ k → f k = 0) → sm (n + d) f = sm n f
  | 0, n, f, h => rfl
  | d + 1, n, f, h => by
    rw [← Nat.add_assoc, sm, sm_more d n h, h (n + d) (by omega)]
    grind
/-- a list's sum with weights -/
def V (w : Nat → Rat) (l : List Rat) : Rat := sm l.length fun k => l.getD k 0 * w k
theorem getD_big {l : List Rat} {k : Nat} (h : l.length ≤ k) : l.getD k 0 = 0 := by
  rw [List.getD_eq_getElem?_getD, List.getElem?_eq_none h]
  rfl
theorem V_at {w : Nat → Rat} {l : List Rat} {n : Nat} (h : l.length ≤ n) : sm n (fun k => l.getD k 0 * w k) = V w l := by
  obtain ⟨d, rfl⟩ : ∃ d, n = l.length + d := ⟨n - l.length, by omega⟩
  exact sm_more d l.length fun k hk => by
    rw [getD_big hk]
    grind
theorem V_congr {w v : Nat → Rat} {l : List Rat} (h : ∀ k, w k = v k) : V w l = V v l := sm_congr fun k _ => by rw [h k]
theorem V_ext {w : Nat → Rat} {l m : List Rat} (h : ∀ k, l.getD k 0 = m.getD k 0) : V w l = V w m := by
  rw [← V_at (w := w) (Nat.le_max_left l.length m.length), ← V_at (w := w) (Nat.le_max_right l.length m.length)]
  exact sm_congr fun k _ => by rw [h k]
theorem V_lin {w : Nat → Rat} {l : List Rat} (c : Rat) : V (fun k => c * w k) l = c * V w l := by
  unfold V
  rw [← sm_mul]
  exact sm_congr fun k _ => by grind
theorem V_add {w v : Nat → Rat} {l : List Rat} : V (fun k => w k + v k) l = V w l + V v l := by
  unfold V
  rw [← sm_add]
  exact sm_congr fun k _ => by grind
theorem getD_map (f : Nat → Rat) (n k : Nat) : ((List.range n).map f).getD k 0 = if k < n then f k else 0 := by
  rw [List.getD_eq_getElem?_getD, List.getElem?_map]
  by_cases h : k < n
  · rw [List.getElem?_range h, if_pos h]
    rfl
  · rw [List.getElem?_eq_none (by simp; omega), if_neg h]
    rfl
theorem V_map {w : Nat → Rat} {f : Nat → Rat} {n : Nat} : V w ((List.range n).map f) = sm n fun k => f k * w k := by
  rw [← V_at (n := n) (by simp)]
  exact sm_congr fun k hk => by rw [getD_map, if_pos hk]
theorem getD_set (l : List Rat) (i : Nat) (q : Rat) (k : Nat) (h : i < l.length) : (l.set i q).getD k 0 = if k = i then q else l.getD k 0 := by
  rw [List.getD_eq_getElem?_getD, List.getD_eq_getElem?_getD, List.getElem?_set]
  by_cases e : i = k
  · subst e
    rw [if_pos rfl, if_pos rfl, if_pos h]
    rfl
  · rw [if_neg e, if_neg (fun z => e z.symm)]
theorem sm_one : ∀ (n i : Nat) (c : Rat) (f : Nat → Rat), i < n → sm n (fun k => if k = i then f k + c else f k) = sm n f + c
  | 0, i, c, f, h => by omega
  | n + 1, i, c, f, h => by
    rw [sm, sm]
    by_cases e : i = n
    · subst e
      rw [if_pos rfl, sm_congr (g := f) fun k hk => by rw [if_neg (by omega)]]
      grind
    · rw [if_neg (fun z => e z.symm), sm_one n i c f (by omega)]
      grind
theorem V_set {w : Nat → Rat} {l : List Rat} {i : Nat} {q : Rat} (h : i < l.length) : V w (l.set i (l.getD i 0 + q)) = V w l + q * w i := by
  unfold V
  rw [List.length_set, ← sm_one l.length i (q * w i) (fun k => l.getD k 0 * w k) h]
  refine sm_congr fun k _ => ?_
  rw [getD_set _ _ _ _ h]
  by_cases e : k = i
  · rw [if_pos e, if_pos e, e]
    grind
  · rw [if_neg e, if_neg e]
theorem V_zeros {w : Nat → Rat} {n : Nat} : V w (List.replicate n 0) = 0 := by
  unfold V
  refine sm_zero _ fun k hk => ?_
  rw [List.getD_eq_getElem?_getD, List.getElem?_replicate]
  split
  · show (0 : Rat) * w k = 0
    grind
  · show (0 : Rat) * w k = 0
    grind
/-! trim -/
theorem dz_tail : ∀ l : List Rat, ∃ z, l = List.replicate z 0 ++ dz l
  | [] => ⟨0, rfl⟩
  | q :: l => by
    by_cases h : q = 0
    · obtain ⟨z, e⟩ := dz_tail l
      refine ⟨z + 1, ?_⟩
      rw [dz, if_pos h, List.replicate_succ, List.cons_append, ← e, h]
    · refine ⟨0, ?_⟩
      rw [dz, if_neg h]
      rfl
theorem trim_tail (l : List Rat) : ∃ z, l = trim l ++ List.replicate z 0 := by
  obtain ⟨z, e⟩ := dz_tail l.reverse
  refine ⟨z, ?_⟩
  have := congrArg List.reverse e
  rw [List.reverse_reverse, List.reverse_append, List.reverse_replicate] at this
  exact this
theorem trim_getD (l : List Rat) (k : Nat) : (trim l).getD k 0 = l.getD k 0 := by
  obtain ⟨z, e⟩ := trim_tail l
  conv => rhs; rw [e]
  rw [List.getD_eq_getElem?_getD, List.getD_eq_getElem?_getD]
  by_cases h : k < (trim l).length
  · rw [List.getElem?_append_left h]
  · rw [List.getElem?_append_right (by omega), List.getElem?_eq_none (by omega), List.getElem?_replicate]
    split <;> rfl
theorem V_trim {w : Nat → Rat} {l : List Rat} : V w (trim l) = V w l := V_ext (trim_getD l)
theorem dz_head : ∀ (l : List Rat) (q : Rat) (r : List Rat), dz l = q :: r → q ≠ 0
  | [], q, r, h => by cases h
  | a :: l, q, r, h => by
    rw [dz] at h
    split at h
    · exact dz_head l q r h
    · rename_i ha
      cases h
      exact ha
theorem trim_last {l : List Rat} (h : 0 < (trim l).length) : (trim l).getD ((trim l).length - 1) 0 ≠ 0 := by
  unfold trim at h ⊢
  cases hd : dz l.reverse with
  | nil =>
    rw [hd] at h
    cases h
  | cons q r =>
    have := dz_head _ _ _ hd
    rw [List.reverse_cons, List.length_append, List.length_singleton, Nat.add_sub_cancel, List.getD_eq_getElem?_getD, List.getElem?_append_right (Nat.le_refl _), Nat.sub_self]
    exact this
theorem trim_ext {l m : List Rat} (h : ∀ k, l.getD k 0 = m.getD k 0) : trim l = trim m := by
  have h2 : ∀ k, (trim l).getD k 0 = (trim m).getD k 0 := fun k => by rw [trim_getD, trim_getD, h]
  have le : ∀ {l m : List Rat}, (∀ k, (trim l).getD k 0 = (trim m).getD k 0) → (trim l).length ≤ (trim m).length := fun {l m} h => by
    by_cases e : (trim l).length ≤ (trim m).length
    · exact e
    · have z := trim_last (l := l) (by omega)
      rw [h, getD_big (by omega)] at z
      exact absurd rfl z
  refine List.ext_getElem (Nat.le_antisymm (le h2) (le fun k => (h2 k).symm)) fun i h1 h3 => ?_
  have := h2 i
  rw [List.getD_eq_getElem?_getD, List.getD_eq_getElem?_getD, List.getElem?_eq_getElem h1, List.getElem?_eq_getElem h3] at this
  exact this
theorem V_delta (l : List Rat) (k : Nat) : V (fun j => if j = k then 1 else 0) l = l.getD k 0 := by
  rw [← V_at (n := max l.length (k + 1)) (Nat.le_max_left ..)]
  have e := sm_one (max l.length (k + 1)) k (l.getD k 0) (fun _ => 0) (by omega)
  rw [sm_zero _ (f := fun _ => 0) fun _ _ => rfl] at e
  have e2 : (0 : Rat) + l.getD k 0 = l.getD k 0 := by grind
  rw [e2] at e
  rw [← e]
  refine sm_congr fun j _ => ?_
  by_cases h : j = k
  · rw [if_pos h, if_pos h, h]
    grind
  · rw [if_neg h, if_neg h]
    grind
theorem trim_V {l m : List Rat} (h : ∀ w, V w l = V w m) : trim l = trim m := trim_ext fun k => by rw [← V_delta, ← V_delta, h]
/-! products -/
theorem V_row {w : Nat → Rat} {a b : List Rat} {i : Nat} : ∀ (n : Nat) (fo : List Rat), n ≤ b.length → i < a.length → fo.length = a.length + b.length → V w ((List.range n).foldl (tStep a b i) fo) = V w fo + sm n (fun j => a.getD i 0 * b.getD j 0 * w (i + j)) ∧ ((List.range n).foldl (tStep a b i) fo).length = a.length + b.length
  | 0, fo, _, _, hl => ⟨by
    show V w fo = V w fo + 0
    grind, hl⟩
  | n + 1, fo, hn, hi, hl => by
    obtain ⟨e1, e2⟩ := V_row (w := w) (i := i) n fo (by omega) hi hl
    rw [List.range_succ, List.foldl_append]
    refine ⟨?_, ?_⟩
    · show V w (tStep a b i _ n) = _
      unfold tStep at e1 e2 ⊢
      rw [V_set (by omega), e1, sm]
      grind
    · show (tStep a b i _ n).length = _
      unfold tStep at e2 ⊢
      rw [List.length_set]
      exact e2
theorem V_rows {w : Nat → Rat} {a b : List Rat} : ∀ (n : Nat), n ≤ a.length → V w ((List.range n).foldl (tRow a b) (List.replicate (a.length + b.length) 0)) = sm n (fun i => sm b.length (fun j => a.getD i 0 * b.getD j 0 * w (i + j))) ∧ ((List.range n).foldl (tRow a b) (List.replicate (a.length + b.length) 0)).length = a.length + b.length
  | 0, _ => ⟨V_zeros, List.length_replicate ..⟩
  | n + 1, hn => by
    obtain ⟨e1, e2⟩ := V_rows (w := w) (a := a) (b := b) n (by omega)
    obtain ⟨e3, e4⟩ := V_row (w := w) (a := a) (b := b) (i := n) b.length _ (Nat.le_refl _) (by omega) e2
    rw [List.range_succ, List.foldl_append]
    refine ⟨?_, e4⟩
    show V w (tRow a b _ n) = _
    unfold tRow at e1 e3 ⊢
    rw [e3, e1, sm]
theorem V_pmul {w : Nat → Rat} {a b : List Rat} : V w (pmul a b) = V (fun i => V (fun j => w (i + j)) b) a := by
  unfold pmul
  rw [V_trim]
  unfold tAll
  rw [(V_rows a.length (Nat.le_refl _)).1]
  unfold V
  refine sm_congr fun i _ => ?_
  rw [← sm_mul]
  exact sm_congr fun j _ => by grind
theorem V_padd {w : Nat → Rat} {a b : List Rat} : V w (padd a b) = V w a + V w b := by
  unfold padd
  rw [V_map, ← V_at (w := w) (Nat.le_max_left a.length b.length), ← V_at (w := w) (Nat.le_max_right a.length b.length), ← sm_add]
  exact sm_congr fun k _ => by grind
theorem V_slo {w : Nat → Rat} {l : List Rat} : V w (slo l) = V (fun m => (m : Rat) * w (m - 1)) l := by
  unfold slo
  rw [V_map]
  cases hl : l.length with
  | zero =>
    unfold V
    rw [hl]
    rfl
  | succ n =>
    have e : V (fun m => (m : Rat) * w (m - 1)) l = sm (n + 1) (fun m => l.getD m 0 * ((m : Rat) * w (m - 1))) := by
      unfold V
      rw [hl]
    rw [e, sm_front]
    rw [Nat.add_sub_cancel]
    have z : l.getD 0 0 * (((0 : Nat) : Rat) * w (0 - 1)) = 0 := by
      show l.getD 0 0 * ((0 : Rat) * w 0) = 0
      grind
    rw [z]
    have y : ∀ q : Rat, 0 + q = q := fun q => by grind
    rw [y]
    refine sm_congr fun k _ => ?_
    rw [Nat.add_comm 1 k, Nat.add_sub_cancel]
    grind
theorem hv_V (x : Rat) (l : List Rat) : hv x l = V (fun k => x ^ k) l := by
  have h : ∀ n, n ≤ l.length → hv x (l.take n) = sm n (fun k => l.getD k 0 * x ^ k) := fun n => by
    induction n with
    | zero => exact fun _ => rfl
    | succ n ih =>
      intro hn
      rw [List.take_succ_eq_append_getElem (by omega), hv_snoc, ih (by omega), sm, List.length_take, Nat.min_eq_left (by omega), List.getD_eq_getElem?_getD, List.getElem?_eq_getElem (by omega)]
      rfl
  have := h l.length (Nat.le_refl _)
  rw [List.take_length] at this
  exact this
theorem pow_plus (x : Rat) (i : Nat) : ∀ j : Nat, x ^ i * x ^ j = x ^ (i + j)
  | 0 => by
    rw [Rat.pow_zero, Nat.add_zero]
    grind
  | j + 1 => by
    rw [← Nat.add_assoc, Rat.pow_succ, Rat.pow_succ, ← pow_plus x i j]
    grind
/-- a product's value -/
theorem hv_pmul (x : Rat) (a b : List Rat) : hv x (pmul a b) = hv x a * hv x b := by
  rw [hv_V, hv_V, hv_V, V_pmul]
  have e : V (fun i => V (fun j => x ^ (i + j)) b) a = V (fun i => V (fun j => x ^ j) b * x ^ i) a := V_congr fun i => by
    rw [← (show V (fun j => x ^ i * x ^ j) b = V (fun j => x ^ (i + j)) b from V_congr fun j => pow_plus x i j), V_lin]
    grind
  rw [e, V_lin]
  grind
/-- a product's slope -/
theorem slo_pmul (a b : List Rat) : trim (slo (pmul a b)) = trim (padd (pmul (trim (slo a)) b) (pmul a (trim (slo b)))) := trim_V fun w => by
  rw [V_slo, V_pmul, V_padd, V_pmul, V_pmul, V_trim, V_slo, ← V_add]
  refine V_congr fun i => ?_
  rw [V_trim, V_slo, ← V_lin, ← V_add]
  refine V_congr fun j => ?_
  have c : ((i + j : Nat) : Rat) = (i : Rat) + (j : Rat) := Rat.natCast_add ..
  rw [c]
  have c0 : ((0 : Nat) : Rat) = 0 := rfl
  rcases i with _ | i
  · rcases j with _ | j
    · rw [c0]
      grind
    · rw [c0, show (0 : Nat) + (j + 1) - 1 = 0 + (j + 1 - 1) by omega]
      grind
  · rcases j with _ | j
    · rw [c0, show i + 1 + 0 - 1 = i + 1 - 1 + 0 by omega]
      grind
    · rw [show i + 1 + (j + 1) - 1 = i + j + 1 by omega, show i + 1 - 1 + (j + 1) = i + j + 1 by omega, show i + 1 + (j + 1 - 1) = i + j + 1 by omega]
      grind
end Pk32
end

section
set_option Elab.async false
set_option linter.all false
set_option maxRecDepth 100000
set_option maxHeartbeats 0
namespace Pk32
open PySem DL Gk32
/-! ### a coin tossed again: closed runs -/
def bA : List S := [
    .asg (.tg (.tup [(.name 18), (.name 19)])) (.tup [(.tup []), (.tup [(.const (.str s27)), (.const (.int 1))])]),
    .for_ (.name 13) 1 [(.var 11 false)] [.asg (.tg (.tup [(.name 18), (.name 19)])) (.tup [(.bin .add (.var 18 false) (.tup [(.tup [(.const (.str s39)), (.idx (.const (.str s50)) (.var 13 false)), (.tup [(.const (.str s20)), (.const (.str s51))])])]) false), (.tup [(.const (.str s23)), (.const (.str s13)), (.var 19 false), (.tup [(.const (.str s32)), (.idx (.const (.str s50)) (.var 13 false))])])])],
    .asg (.tg (.name 20)) (.call 76 [(.tup [(.dct [] false), (.var 18 false), (.var 19 false)]), (.const (.str s51)), (.dct [] false)]),
    .ite (.or (.cmp .ne (.bm .get2 (.var 20 false) [(.const (.int 1)), (.tup [])]) (.call 20 [(.tup [(.tup [(.const (.int 0)), (.const (.int 1))]), (.tup [(.const (.int 1)), (.const (.int 1))])]), (.var 11 false)])) (.or (.cmp .ne (.call 77 [(.var 20 false)]) (.tup [(.tup [(.const (.int 1)), (.const (.int 1))])])) (.cmp .ne (.call 79 [(.var 20 false)]) (.var 11 false)))) [.ret (.const (.bool false))] []]
def bB : List S := [
    .asg (.tg (.name 17)) (.call 91 [(.idx (.var 20 false) (.const (.int 1))), (.var 21 false)]),
    .asg (.tg (.name 22)) (.lc (.tup [(.var 23 false), (.var 24 false)]) (.tup [(.name 23), (.name 24)]) 0 [(.tup [(.tup [(.const (.int 0)), (.call 87 [(.tup [(.const (.int 1)), (.const (.int 1))]), (.var 17 false)])]), (.tup [(.const (.int 1)), (.var 17 false)])])] [(.cmp .ne (.idx (.var 24 false) (.const (.int 0))) (.const (.int 0)))] [23, 24] false),
    .ite (.cmp .ne (.call 78 [(.var 20 false), (.var 21 false)]) (.bi .tuple [(.var 22 false)] false)) [.ret (.const (.bool false))] []]
def lt (i : Nat) : D := .str ⟨#[120 + i]⟩
def bodyD (k : Nat) : D := .tup ((List.range k).map fun i => .tup [.str s39, lt i, .tup [.str s20, .str s51]])
def ansD : Nat → D
  | 0 => .tup [.str s27, .int 1]
  | i + 1 => .tup [.str s23, .str s13, ansD i, .tup [.str s32, lt i]]
def f1 : D := .tup [.int 1, .int 1]
def f0 : D := .tup [.int 0, .int 1]
def fm : D := .tup [.int (-1), .int 1]
def polysD : Nat → D
  | 0 => .dct [.int 1] [.tup [f1]]
  | 1 => .dct [.int 0, .int 1] [.tup [f1, fm], .tup [f0, f1]]
  | 2 => .dct [.int 0, .int 1] [.tup [f1, f0, fm], .tup [f0, f0, f1]]
  | _ => .dct [.int 0, .int 1] [.tup [f1, f0, f0, fm], .tup [f0, f0, f0, f1]]
def p13 (k : Nat) (o : Option D) : Option D := match k with
  | 0 => o
  | i + 1 => some (.int i)
section
variable {o0 o1 o2 o3 o4 o5 o6 o7 o8 o9 o10 o11 o12 o13 o14 o15 o16 o17 o18 o19 o20 o21 o22 o23 o24 : Option D}
set_option maxRecDepth 1000000
theorem pA0 (n : Nat) (s : Sto) : exB Γ (run Γ W (n + 50)) W bA [o0, o1, o2, o3, o4, o5, o6, o7, o8, o9, o10, some (.int 0), o12, o13, o14, o15, o16, o17, o18, o19, o20, o21, o22, o23, o24] s = some (.next, [o0, o1, o2, o3, o4, o5, o6, o7, o8, o9, o10, some (.int 0), o12, p13 0 o13, o14, o15, o16, o17, some (bodyD 0), some (ansD 0), some (polysD 0), o21, o22, o23, o24], s) := by kernel_rfl
theorem pA1 (n : Nat) (s : Sto) : exB Γ (run Γ W (n + 50)) W bA [o0, o1, o2, o3, o4, o5, o6, o7, o8, o9, o10, some (.int 1), o12, o13, o14, o15, o16, o17, o18, o19, o20, o21, o22, o23, o24] s = some (.next, [o0, o1, o2, o3, o4, o5, o6, o7, o8, o9, o10, some (.int 1), o12, p13 1 o13, o14, o15, o16, o17, some (bodyD 1), some (ansD 1), some (polysD 1), o21, o22, o23, o24], s) := by kernel_rfl
theorem pA2 (n : Nat) (s : Sto) : exB Γ (run Γ W (n + 50)) W bA [o0, o1, o2, o3, o4, o5, o6, o7, o8, o9, o10, some (.int 2), o12, o13, o14, o15, o16, o17, o18, o19, o20, o21, o22, o23, o24] s = some (.next, [o0, o1, o2, o3, o4, o5, o6, o7, o8, o9, o10, some (.int 2), o12, p13 2 o13, o14, o15, o16, o17, some (bodyD 2), some (ansD 2), some (polysD 2), o21, o22, o23, o24], s) := by kernel_rfl
theorem pA3 (n : Nat) (s : Sto) : exB Γ (run Γ W (n + 50)) W bA [o0, o1, o2, o3, o4, o5, o6, o7, o8, o9, o10, some (.int 3), o12, o13, o14, o15, o16, o17, o18, o19, o20, o21, o22, o23, o24] s = some (.next, [o0, o1, o2, o3, o4, o5, o6, o7, o8, o9, o10, some (.int 3), o12, p13 3 o13, o14, o15, o16, o17, some (bodyD 3), some (ansD 3), some (polysD 3), o21, o22, o23, o24], s) := by kernel_rfl
theorem pB00 (n : Nat) (s : Sto) : exB Γ (run Γ W (n + 50)) W bB [o0, o1, o2, o3, o4, o5, o6, o7, o8, o9, o10, o11, o12, o13, o14, o15, o16, o17, o18, o19, some (polysD 0), some (.tup [.int 0, .int 1]), o22, o23, o24] s = some (.next, [o0, o1, o2, o3, o4, o5, o6, o7, o8, o9, o10, o11, o12, o13, o14, o15, o16, some (.tup [.int 1, .int 1]), o18, o19, some (polysD 0), some (.tup [.int 0, .int 1]), some (.lst [.tup [.int 1, .tup [.int 1, .int 1]]]), o23, o24], s) := by kernel_rfl
theorem pB01 (n : Nat) (s : Sto) : exB Γ (run Γ W (n + 50)) W bB [o0, o1, o2, o3, o4, o5, o6, o7, o8, o9, o10, o11, o12, o13, o14, o15, o16, o17, o18, o19, some (polysD 0), some (.tup [.int 1, .int 3]), o22, o23, o24] s = some (.next, [o0, o1, o2, o3, o4, o5, o6, o7, o8, o9, o10, o11, o12, o13, o14, o15, o16, some (.tup [.int 1, .int 1]), o18, o19, some (polysD 0), some (.tup [.int 1, .int 3]), some (.lst [.tup [.int 1, .tup [.int 1, .int 1]]]), o23, o24], s) := by kernel_rfl
theorem pB02 (n : Nat) (s : Sto) : exB Γ (run Γ W (n + 50)) W bB [o0, o1, o2, o3, o4, o5, o6, o7, o8, o9, o10, o11, o12, o13, o14, o15, o16, o17, o18, o19, some (polysD 0), some (.tup [.int 2, .int 3]), o22, o23, o24] s = some (.next, [o0, o1, o2, o3, o4, o5, o6, o7, o8, o9, o10, o11, o12, o13, o14, o15, o16, some (.tup [.int 1, .int 1]), o18, o19, some (polysD 0), some (.tup [.int 2, .int 3]), some (.lst [.tup [.int 1, .tup [.int 1, .int 1]]]), o23, o24], s) := by kernel_rfl
theorem pB03 (n : Nat) (s : Sto) : exB Γ (run Γ W (n + 50)) W bB [o0, o1, o2, o3, o4, o5, o6, o7, o8, o9, o10, o11, o12, o13, o14, o15, o16, o17, o18, o19, some (polysD 0), some (.tup [.int 1, .int 1]), o22, o23, o24] s = some (.next, [o0, o1, o2, o3, o4, o5, o6, o7, o8, o9, o10, o11, o12, o13, o14, o15, o16, some (.tup [.int 1, .int 1]), o18, o19, some (polysD 0), some (.tup [.int 1, .int 1]), some (.lst [.tup [.int 1, .tup [.int 1, .int 1]]]), o23, o24], s) := by kernel_rfl
theorem pB10 (n : Nat) (s : Sto) : exB Γ (run Γ W (n + 50)) W bB [o0, o1, o2, o3, o4, o5, o6, o7, o8, o9, o10, o11, o12, o13, o14, o15, o16, o17, o18, o19, some (polysD 1), some (.tup [.int 0, .int 1]), o22, o23, o24] s = some (.next, [o0, o1, o2, o3, o4, o5, o6, o7, o8, o9, o10, o11, o12, o13, o14, o15, o16, some (.tup [.int 0, .int 1]), o18, o19, some (polysD 1), some (.tup [.int 0, .int 1]), some (.lst [.tup [.int 0, .tup [.int 1, .int 1]]]), o23, o24], s) := by kernel_rfl
theorem pB11 (n : Nat) (s : Sto) : exB Γ (run Γ W (n + 50)) W bB [o0, o1, o2, o3, o4, o5, o6, o7, o8, o9, o10, o11, o12, o13, o14, o15, o16, o17, o18, o19, some (polysD 1), some (.tup [.int 1, .int 3]), o22, o23, o24] s = some (.next, [o0, o1, o2, o3, o4, o5, o6, o7, o8, o9, o10, o11, o12, o13, o14, o15, o16, some (.tup [.int 1, .int 3]), o18, o19, some (polysD 1), some (.tup [.int 1, .int 3]), some (.lst [.tup [.int 0, .tup [.int 2, .int 3]], .tup [.int 1, .tup [.int 1, .int 3]]]), o23, o24], s) := by kernel_rfl
theorem pB12 (n : Nat) (s : Sto) : exB Γ (run Γ W (n + 50)) W bB [o0, o1, o2, o3, o4, o5, o6, o7, o8, o9, o10, o11, o12, o13, o14, o15, o16, o17, o18, o19, some (polysD 1), some (.tup [.int 2, .int 3]), o22, o23, o24] s = some (.next, [o0, o1, o2, o3, o4, o5, o6, o7, o8, o9, o10, o11, o12, o13, o14, o15, o16, some (.tup [.int 2, .int 3]), o18, o19, some (polysD 1), some (.tup [.int 2, .int 3]), some (.lst [.tup [.int 0, .tup [.int 1, .int 3]], .tup [.int 1, .tup [.int 2, .int 3]]]), o23, o24], s) := by kernel_rfl
theorem pB13 (n : Nat) (s : Sto) : exB Γ (run Γ W (n + 50)) W bB [o0, o1, o2, o3, o4, o5, o6, o7, o8, o9, o10, o11, o12, o13, o14, o15, o16, o17, o18, o19, some (polysD 1), some (.tup [.int 1, .int 1]), o22, o23, o24] s = some (.next, [o0, o1, o2, o3, o4, o5, o6, o7, o8, o9, o10, o11, o12, o13, o14, o15, o16, some (.tup [.int 1, .int 1]), o18, o19, some (polysD 1), some (.tup [.int 1, .int 1]), some (.lst [.tup [.int 1, .tup [.int 1, .int 1]]]), o23, o24], s) := by kernel_rfl
theorem pB20 (n : Nat) (s : Sto) : exB Γ (run Γ W (n + 50)) W bB [o0, o1, o2, o3, o4, o5, o6, o7, o8, o9, o10, o11, o12, o13, o14, o15, o16, o17, o18, o19, some (polysD 2), some (.tup [.int 0, .int 1]), o22, o23, o24] s = some (.next, [o0, o1, o2, o3, o4, o5, o6, o7, o8, o9, o10, o11, o12, o13, o14, o15, o16, some (.tup [.int 0, .int 1]), o18, o19, some (polysD 2), some (.tup [.int 0, .int 1]), some (.lst [.tup [.int 0, .tup [.int 1, .int 1]]]), o23, o24], s) := by kernel_rfl
theorem pB21 (n : Nat) (s : Sto) : exB Γ (run Γ W (n + 50)) W bB [o0, o1, o2, o3, o4, o5, o6, o7, o8, o9, o10, o11, o12, o13, o14, o15, o16, o17, o18, o19, some (polysD 2), some (.tup [.int 1, .int 3]), o22, o23, o24] s = some (.next, [o0, o1, o2, o3, o4, o5, o6, o7, o8, o9, o10, o11, o12, o13, o14, o15, o16, some (.tup [.int 1, .int 9]), o18, o19, some (polysD 2), some (.tup [.int 1, .int 3]), some (.lst [.tup [.int 0, .tup [.int 8, .int 9]], .tup [.int 1, .tup [.int 1, .int 9]]]), o23, o24], s) := by kernel_rfl
theorem pB22 (n : Nat) (s : Sto) : exB Γ (run Γ W (n + 50)) W bB [o0, o1, o2, o3, o4, o5, o6, o7, o8, o9, o10, o11, o12, o13, o14, o15, o16, o17, o18, o19, some (polysD 2), some (.tup [.int 2, .int 3]), o22, o23, o24] s = some (.next, [o0, o1, o2, o3, o4, o5, o6, o7, o8, o9, o10, o11, o12, o13, o14, o15, o16, some (.tup [.int 4, .int 9]), o18, o19, some (polysD 2), some (.tup [.int 2, .int 3]), some (.lst [.tup [.int 0, .tup [.int 5, .int 9]], .tup [.int 1, .tup [.int 4, .int 9]]]), o23, o24], s) := by kernel_rfl
theorem pB23 (n : Nat) (s : Sto) : exB Γ (run Γ W (n + 50)) W bB [o0, o1, o2, o3, o4, o5, o6, o7, o8, o9, o10, o11, o12, o13, o14, o15, o16, o17, o18, o19, some (polysD 2), some (.tup [.int 1, .int 1]), o22, o23, o24] s = some (.next, [o0, o1, o2, o3, o4, o5, o6, o7, o8, o9, o10, o11, o12, o13, o14, o15, o16, some (.tup [.int 1, .int 1]), o18, o19, some (polysD 2), some (.tup [.int 1, .int 1]), some (.lst [.tup [.int 1, .tup [.int 1, .int 1]]]), o23, o24], s) := by kernel_rfl
theorem pB30 (n : Nat) (s : Sto) : exB Γ (run Γ W (n + 50)) W bB [o0, o1, o2, o3, o4, o5, o6, o7, o8, o9, o10, o11, o12, o13, o14, o15, o16, o17, o18, o19, some (polysD 3), some (.tup [.int 0, .int 1]), o22, o23, o24] s = some (.next, [o0, o1, o2, o3, o4, o5, o6, o7, o8, o9, o10, o11, o12, o13, o14, o15, o16, some (.tup [.int 0, .int 1]), o18, o19, some (polysD 3), some (.tup [.int 0, .int 1]), some (.lst [.tup [.int 0, .tup [.int 1, .int 1]]]), o23, o24], s) := by kernel_rfl
theorem pB31 (n : Nat) (s : Sto) : exB Γ (run Γ W (n + 50)) W bB [o0, o1, o2, o3, o4, o5, o6, o7, o8, o9, o10, o11, o12, o13, o14, o15, o16, o17, o18, o19, some (polysD 3), some (.tup [.int 1, .int 3]), o22, o23, o24] s = some (.next, [o0, o1, o2, o3, o4, o5, o6, o7, o8, o9, o10, o11, o12, o13, o14, o15, o16, some (.tup [.int 1, .int 27]), o18, o19, some (polysD 3), some (.tup [.int 1, .int 3]), some (.lst [.tup [.int 0, .tup [.int 26, .int 27]], .tup [.int 1, .tup [.int 1, .int 27]]]), o23, o24], s) := by kernel_rfl
theorem pB32 (n : Nat) (s : Sto) : exB Γ (run Γ W (n + 50)) W bB [o0, o1, o2, o3, o4, o5, o6, o7, o8, o9, o10, o11, o12, o13, o14, o15, o16, o17, o18, o19, some (polysD 3), some (.tup [.int 2, .int 3]), o22, o23, o24] s = some (.next, [o0, o1, o2, o3, o4, o5, o6, o7, o8, o9, o10, o11, o12, o13, o14, o15, o16, some (.tup [.int 8, .int 27]), o18, o19, some (polysD 3), some (.tup [.int 2, .int 3]), some (.lst [.tup [.int 0, .tup [.int 19, .int 27]], .tup [.int 1, .tup [.int 8, .int 27]]]), o23, o24], s) := by kernel_rfl
theorem pB33 (n : Nat) (s : Sto) : exB Γ (run Γ W (n + 50)) W bB [o0, o1, o2, o3, o4, o5, o6, o7, o8, o9, o10, o11, o12, o13, o14, o15, o16, o17, o18, o19, some (polysD 3), some (.tup [.int 1, .int 1]), o22, o23, o24] s = some (.next, [o0, o1, o2, o3, o4, o5, o6, o7, o8, o9, o10, o11, o12, o13, o14, o15, o16, some (.tup [.int 1, .int 1]), o18, o19, some (polysD 3), some (.tup [.int 1, .int 1]), some (.lst [.tup [.int 1, .tup [.int 1, .int 1]]]), o23, o24], s) := by kernel_rfl
end
end Pk32
end

section
set_option Elab.async false
set_option linter.all false
set_option maxRecDepth 100000
set_option maxHeartbeats 4000000
namespace Pk32
open PySem DL Gk32
/-! ### steps -/
section
variable {F : DL.Fun} {a b c : E} {ρ : Rho} {s s1 s2 s3 : Sto} {x y z d : D}
theorem ev_tup2 (h : evE Γ F a ρ s = some (x, s1)) (h1 : evE Γ F b ρ s1 = some (y, s2)) : evE Γ F (.tup [a, b]) ρ s = some (.tup [x, y], s2) := by
  simp only [evE, evL, bnd, h, h1]
  rfl
theorem ev_tup3 (h : evE Γ F a ρ s = some (x, s1)) (h1 : evE Γ F b ρ s1 = some (y, s2)) (h2 : evE Γ F c ρ s2 = some (z, s3)) : evE Γ F (.tup [a, b, c]) ρ s = some (.tup [x, y, z], s3) := by
  simp only [evE, evL, bnd, h, h1, h2]
  rfl
theorem ex_asg2 {e : E} {i j : Nat} (hi : i < ρ.length) (hj : j < ρ.length) (h : evE Γ F e ρ s = some (.tup [x, y], s1)) : exS Γ F W (.asg (.tg (.tup [.name i, .name j])) e) ρ s = some (.next, (ρ.set i (some x)).set j (some y), s1) := by
  simp only [exS, bndS, h, asD, tgD, tgsD, if_pos hi, List.length_set, if_pos hj, Option.map_some]
theorem ex_asg3 {e : E} {i j k : Nat} (hi : i < ρ.length) (hj : j < ρ.length) (hk : k < ρ.length) (h : evE Γ F e ρ s = some (.tup [x, y, z], s1)) : exS Γ F W (.asg (.tg (.tup [.name i, .name j, .name k])) e) ρ s = some (.next, ((ρ.set i (some x)).set j (some y)).set k (some z), s1) := by
  simp only [exS, bndS, h, asD, tgD, tgsD, if_pos hi, List.length_set, if_pos hj, if_pos hk, Option.map_some]
theorem ev_same {yy : PyData} (h : evE Γ F a ρ s = some (d, s)) (h1 : evE Γ F b ρ s = some (d, s)) (h2 : Same d s yy) : evE Γ F (.cmp .ne a b) ρ s = some (.bool false, s) := ev_cmp h h1 h2.ne
end
theorem same_str (t : Str) (s : Sto) : Same (.str t) s (.str t) where
  py := rfl
  dep := by simp [PyData.depth]
  eqv := by simp [PyData.eqv]
/-! ### sizes -/
theorem BdL.mono {M N N' : Nat} {l : List Rat} (h : BdL M N l) (e : N ≤ N') : BdL M N' l := fun q m => (h q m).mono e
theorem fit_of {a b : List Rat} {M N M' N' : Nat} (A B : Nat) (ha : BdL M N a) (hb : BdL M' N' b) (la : a.length ≤ A) (lb : b.length ≤ B) (c : decide (0 < M ∧ 0 < M' ∧ M < 2 ^ 120 ∧ N < 2 ^ 120 ∧ M' < 2 ^ 120 ∧ N' < 2 ^ 120 ∧ M * M' < 2 ^ 120 ∧ N * N' < 2 ^ 120 ∧ N * N' * (A * B) < 2 ^ 120 ∧ A < 400 ∧ B < 400) = true) : Fit a b M N M' N' := by
  obtain ⟨c1, c2, c3, c4, c5, c6, c7, c8, c9, c10, c11⟩ := of_decide_eq_true c
  exact ⟨ha, hb, ⟨c1, c2⟩, ⟨c3, c4, c5, c6, c7, c8, Nat.lt_of_le_of_lt (Nat.mul_le_mul_left _ (Nat.mul_le_mul la lb)) c9⟩, ⟨by omega, by omega⟩⟩
theorem fitv_of {l : List Rat} {x : Rat} {M N Ma Na : Nat} (A : Nat) (hl : BdL M N l) (hx : Bd Ma Na x) (la : l.length ≤ A) (c : decide (0 < M ∧ 0 < Ma ∧ Ma ≤ Na ∧ M * Ma ^ A < 2 ^ 120 ∧ N * (A + 1) * Na ^ A < 2 ^ 120 ∧ Ma ^ A < 2 ^ 120 ∧ Na ^ A < 2 ^ 120 ∧ Ma < 2 ^ 120 ∧ Na < 2 ^ 120 ∧ M < 2 ^ 120 ∧ N < 2 ^ 120 ∧ A < 1000) = true) : FitV l x M N Ma Na := by
  obtain ⟨c1, c2, c3, c4, c5, c6, c7, c8, c9, c10, c11, c12⟩ := of_decide_eq_true c
  have m1 : Ma ^ l.length ≤ Ma ^ A := Nat.pow_le_pow_right c2 la
  have m2 : Na ^ l.length ≤ Na ^ A := Nat.pow_le_pow_right (by omega) la
  exact ⟨hl, hx, ⟨c1, c2, c3⟩, ⟨Nat.lt_of_le_of_lt (Nat.mul_le_mul_left _ m1) c4, Nat.lt_of_le_of_lt (Nat.mul_le_mul (Nat.mul_le_mul_left _ (by omega)) m2) c5, Nat.lt_of_le_of_lt m1 c6, Nat.lt_of_le_of_lt m2 c7, c8, c9, c10, c11⟩, by omega⟩
theorem pow_ok {a : List Rat} (la : a.length ≤ 4) (ba : BdL 6 18 a) : ∀ k, k ≤ 3 → (ppow a k).length ≤ 1 + 4 * k ∧ BdL (6 ^ k) (1080 ^ k) (ppow a k) ∧ (k < 3 → Fit (ppow a k) a (6 ^ k) (1080 ^ k) 6 18)
  | 0, _ => by
    have h : BdL (6 ^ 0) (1080 ^ 0) [1] := fun q m => by
      rw [List.mem_singleton.mp m]
      exact ⟨1, by simp, by simp⟩
    exact ⟨Nat.le_refl _, h, fun _ => fit_of 13 4 h ba (show (1 : Nat) ≤ 13 by decide) la (by decide +kernel)⟩
  | k + 1, hk => by
    obtain ⟨h1, h2, h3⟩ := pow_ok la ba k (by omega)
    have F := h3 (by omega)
    have l1 : (pmul (ppow a k) a).length ≤ 1 + 4 * (k + 1) := Nat.le_trans (pmul_len F) (by omega)
    have b1 : BdL (6 ^ (k + 1)) (1080 ^ (k + 1)) (pmul (ppow a k) a) := by
      have z := pmul_bd F
      rw [← Nat.pow_succ] at z
      refine z.mono ?_
      have e : (ppow a k).length * a.length ≤ 13 * 4 := Nat.mul_le_mul (by omega) la
      rw [Nat.pow_succ, Nat.mul_assoc]
      exact Nat.mul_le_mul_left _ (Nat.le_trans (Nat.mul_le_mul_left 18 e) (by decide))
    refine ⟨l1, b1, fun h => fit_of 13 4 b1 ba (Nat.le_trans l1 (by omega)) la ?_⟩
    have : k = 0 ∨ k = 1 := by omega
    rcases this with rfl | rfl <;> decide +kernel
theorem slo_bd {l : List Rat} {M N : Nat} (h : BdL M N l) (hl : l.length ≤ 8) : BdL M (N * 8) (trim (slo l)) ∧ (trim (slo l)).length ≤ l.length := by
  constructor
  · refine BdL.trim fun q m => ?_
    unfold slo at m
    obtain ⟨j, hj, e⟩ := List.mem_map.mp m
    have hj := List.mem_range.mp hj
    rw [← e]
    have c : Bd 1 8 ((1 + j : Nat) : Rat) := ⟨((1 + j : Nat) : Int), by
      rw [Rat.intCast_natCast]
      have : ((1 : Nat) : Rat) = 1 := rfl
      rw [this]
      grind, by simp; omega⟩
    have z := (h.getD (1 + j)).mul c
    rw [Nat.mul_one] at z
    exact z
  · refine Nat.le_trans (trim_len _) ?_
    unfold slo
    simp
/-! ### a turn -/
def t0 : S := .asg (.tg (.tup [(.name 3), (.name 4), (.name 5)])) (.tup [(.call 90 [(.var 1 false)]), (.call 90 [(.var 1 false)]), (.call 85 [(.bin .sub (.call 81 [(.var 1 false), (.const (.int 9))]) (.const (.int 4)) false), (.bin .add (.const (.int 1)) (.call 81 [(.var 1 false), (.const (.int 4))]) false)])])
def t1 : S := .asg (.tg (.name 6)) (.bi .max2 [(.bi .len [(.var 3 false)] false), (.bi .len [(.var 4 false)] false)] false)
def eFill (i : Nat) : E := .bin .add (.bi .list [(.var i false)] false) (.bin .mul (.lst [(.tup [(.const (.int 0)), (.const (.int 1))])] false) (.bin .sub (.var 6 false) (.bi .len [(.var i false)] false) false) false) false
def t2 : S := .asg (.tg (.tup [(.name 7), (.name 8)])) (.tup [eFill 3, eFill 4])
def eLc (f : Nat) : E := .lc (.call f [(.idx (.var 7 false) (.var 11 false)), (.idx (.var 8 false) (.var 11 false))]) (.name 11) 1 [(.var 6 false)] [] [11] false
def t3 : S := .ite (.or (.cmp .ne (.call 14 [(.var 3 false), (.var 4 false)]) (.call 89 [eLc 86])) (.cmp .ne (.call 15 [(.var 3 false), (.var 4 false)]) (.call 89 [eLc 87]))) [.ret (.const (.bool false))] []
def t4 : S := .asg (.tg (.name 9)) (.call 92 [(.var 3 false), (.var 4 false)])
def t5 : S := .ite (.or (.cmp .ne (.call 16 [(.var 3 false), (.var 4 false)]) (.var 9 false)) (.or (.cmp .ne (.call 17 [(.var 3 false), (.var 5 false)]) (.call 91 [(.var 3 false), (.var 5 false)])) (.cmp .ne (.call 17 [(.var 9 false), (.var 5 false)]) (.call 88 [(.call 91 [(.var 3 false), (.var 5 false)]), (.call 91 [(.var 4 false), (.var 5 false)])])))) [.ret (.const (.bool false))] []
def t6 : S := .asg (.tg (.name 10)) (.call 89 [(.lc (.call 88 [(.idx (.var 3 false) (.var 11 false)), (.tup [(.var 11 false), (.const (.int 1))])]) (.name 11) 2 [(.const (.int 1)), (.bi .len [(.var 3 false)] false)] [] [11] false)])
def t7 : S := .ite (.or (.cmp .ne (.call 18 [(.var 3 false)]) (.var 10 false)) (.cmp .ne (.call 18 [(.var 9 false)]) (.call 14 [(.call 16 [(.call 18 [(.var 3 false)]), (.var 4 false)]), (.call 16 [(.var 3 false), (.call 18 [(.var 4 false)])])]))) [.ret (.const (.bool false))] []
def t8 : S := .asg (.tg (.tup [(.name 11), (.name 12)])) (.tup [(.call 81 [(.var 1 false), (.const (.int 4))]), (.tup [(.tup [(.const (.int 1)), (.const (.int 1))])])])
def t9 : S := .for_ (.name 13) 1 [(.var 11 false)] [.asg (.tg (.name 12)) (.call 92 [(.var 12 false), (.var 3 false)])]
def t10 : S := .ite (.or (.cmp .ne (.call 20 [(.var 3 false), (.var 11 false)]) (.var 12 false)) (.cmp .ne (.call 19 [(.var 3 false), (.const (.str s49))]) (.call 93 [(.var 3 false)]))) [.ret (.const (.bool false))] []
def t11 : S := .asg (.tg (.name 14)) (.lst [(.var 3 false), (.bi .list [(.var 3 false)] false), (.const .none), (.tup []), (.bin .add (.var 3 false) (.tup [(.tup [(.const (.int 0)), (.const (.int 1))])]) false), (.bin .add (.var 3 false) (.tup [(.tup [(.const (.int 1)), (.const (.int 2))])]) false), (.bin .add (.var 3 false) (.tup [(.tup [(.const (.int 2)), (.const (.int 4))])]) false), (.bin .add (.var 3 false) (.tup [(.const (.int 3))]) false), (.bin .add (.var 3 false) (.tup [(.tup [(.const (.int 1)), (.const (.int 0))])]) false), (.bin .add (.var 3 false) (.tup [(.const .none)]) false), (.bin .add (.var 3 false) (.tup [(.tup [(.const (.bool true)), (.const (.int 2))])]) false)] false)
def t12 : S := .for_ (.name 15) 0 [(.var 14 false)] bTh
def t13 : S := .asg (.tg (.name 21)) (.call 85 [(.call 81 [(.var 1 false), (.const (.int 4))]), (.const (.int 3))])
def bTurn : List S := [t0, t1, t2, t3, t4, t5, t6, t7, t8, t9, t10, t11, t12] ++ bA ++ [t13] ++ bB
theorem f94_is : f94 = ⟨25, 1, [.asg (.tg (.name 1)) (.dct [(.const (.str s46)), (.call 80 [(.var 0 false), (.const (.int 300))]), (.const (.str s45)), (.const (.int 0))] true),
    .for_ (.name 2) 1 [(.const (.int 6))] bTurn, .ret (.const (.bool true))]⟩ := rfl
end Pk32
end

section
set_option Elab.async false
set_option linter.all false
set_option maxRecDepth 100000
set_option maxHeartbeats 4000000
namespace Pk32
open PySem DL Gk32
section
variable {o0 o1 o2 o3 o4 o5 o6 o7 o8 o9 o10 o11 o12 o13 o14 o15 o16 o17 o18 o19 o20 o21 o22 o23 o24 : Option D} {n : Nat} (hn : 10 ≤ n) (zs : List Int) (k : Nat)
include hn
theorem ok_t0 (h1 : o1 = some (.ref 0)) : ∃ (a b : List Rat) (x : Rat) (k' : Nat), a.length ≤ 4 ∧ BdL 6 18 a ∧ b.length ≤ 4 ∧ BdL 6 18 b ∧ Bd 12 48 x ∧ exS Γ (run Γ W n) W t0 [o0, o1, o2, o3, o4, o5, o6, o7, o8, o9, o10, o11, o12, o13, o14, o15, o16, o17, o18, o19, o20, o21, o22, o23, o24] (st zs k) = some (.next, [o0, o1, o2, some (encP a), some (encP b), some (enc x), o6, o7, o8, o9, o10, o11, o12, o13, o14, o15, o16, o17, o18, o19, o20, o21, o22, o23, o24], st zs k') := by
  subst h1
  obtain ⟨a, k1, a1, a2, e1⟩ := poly_ok (m := n) (by omega) zs k
  obtain ⟨b, k2, b1, b2, e2⟩ := poly_ok (m := n) (by omega) zs k1
  obtain ⟨x, hx, e3⟩ := ev_frac (n := n) (by omega) (i := 1) (ρ := [o0, some (.ref 0), o2, o3, o4, o5, o6, o7, o8, o9, o10, o11, o12, o13, o14, o15, o16, o17, o18, o19, o20, o21, o22, o23, o24]) rfl zs k2 (u := 9) (v := 4) (w := 4) (M := 12) (N := 48) (by decide) (by decide) (by decide) (by decide) (fun a b h0 h1 h2 h3 => by
    have : b = 1 ∨ b = 2 ∨ b = 3 ∨ b = 4 := by omega
    rcases this with rfl | rfl | rfl | rfl
    · exact norm_bd (c := 12) h0 rfl (by omega)
    · exact norm_bd (c := 6) h0 rfl (by omega)
    · exact norm_bd (c := 4) h0 rfl (by omega)
    · exact norm_bd (c := 3) h0 rfl (by omega))
  exact ⟨trim a, trim b, x, k2 + 2, Nat.le_trans (trim_len a) a1, a2.trim, Nat.le_trans (trim_len b) b1, b2.trim, hx, ex_asg3 (by simp) (by simp) (by simp) (ev_tup3 (ev_call1 (ev_var rfl) e1) (ev_call1 (ev_var rfl) e2) e3)⟩
omit hn in
theorem ok_t1 (s : Sto) (a b : List Rat) : exS Γ (run Γ W n) W t1 [o0, o1, o2, some (encP a), some (encP b), o5, o6, o7, o8, o9, o10, o11, o12, o13, o14, o15, o16, o17, o18, o19, o20, o21, o22, o23, o24] s = some (.next, [o0, o1, o2, some (encP a), some (encP b), o5, some (.int ((max a.length b.length : Nat) : Int)), o7, o8, o9, o10, o11, o12, o13, o14, o15, o16, o17, o18, o19, o20, o21, o22, o23, o24], s) :=
  ex_asg (by simp) (ev_bi2 (ev_bi1 (ev_var rfl) (by rw [len_of (l := encs a) (.inr rfl), encs_len])) (ev_bi1 (ev_var rfl) (by rw [len_of (l := encs b) (.inr rfl), encs_len])) max_int)
def pad (a : List Rat) (m : Nat) : List Rat := a ++ List.replicate (m - a.length) 0
omit hn in
theorem pad_len {a : List Rat} {m : Nat} (h : a.length ≤ m) : (pad a m).length = m := by
  unfold pad
  rw [List.length_append, List.length_replicate]
  omega
omit hn in
theorem pad_getD (a : List Rat) (m j : Nat) : (pad a m).getD j 0 = a.getD j 0 := by
  unfold pad
  rw [List.getD_eq_getElem?_getD, List.getD_eq_getElem?_getD]
  by_cases h : j < a.length
  · rw [List.getElem?_append_left h]
  · rw [List.getElem?_append_right (by omega), List.getElem?_eq_none (l := a) (by omega), List.getElem?_replicate]
    split <;> rfl
omit hn in
theorem ev_fill {i : Nat} {ρ : Rho} {s : Sto} {a : List Rat} {m : Nat} (h : ρ[i]? = some (some (encP a))) (h6 : ρ[6]? = some (some (.int m))) (hl : a.length ≤ m) (hm : m ≤ 100) : evE Γ (run Γ W n) (eFill i) ρ s = some (.lst (encs (pad a m)), s) := by
  have e1 : evE Γ (run Γ W n) (.bin .sub (.var 6 false) (.bi .len [(.var i false)] false) false) ρ s = some (.int ((m - a.length : Nat) : Int), s) := by
    refine ev_bin (ev_var h6) (ev_bi1 (ev_var h) (by rw [len_of (l := encs a) (.inr rfl), encs_len])) (sub_int.trans ?_)
    rw [Int.ofNat_sub hl]
  have e2 : gBin .mul false (.lst [enc 0]) (.int ((m - a.length : Nat) : Int)) s = some (.lst (encs (List.replicate (m - a.length) 0)), s) := by
    have hf : ∀ j : Nat, reps j [enc 0] = encs (List.replicate j 0) := fun j => by
      induction j with
      | zero => rfl
      | succ j ih =>
        rw [reps, ih, List.replicate_succ]
        rfl
    show (match (if decide (-1000 ≤ ((m - a.length : Nat) : Int)) && decide (((m - a.length : Nat) : Int) ≤ 1000) && decide ([enc 0].length ≤ 1000) then some (D.lst (reps ((m - a.length : Nat) : Int).toNat [enc 0])) else Option.none) with
      | some z => some (laid false z s)
      | Option.none => Option.none) = _
    rw [if_pos (by rw [decide_eq_true (show (-1000 : Int) ≤ ((m - a.length : Nat) : Int) by omega), decide_eq_true (show ((m - a.length : Nat) : Int) ≤ 1000 by omega)]; rfl), Int.toNat_natCast, hf]
    rfl
  have e3 : gBin .add false (.lst (encs a)) (.lst (encs (List.replicate (m - a.length) 0))) s = some (.lst (encs (pad a m)), s) := by
    show (match (if lineOk ((encs a).length + (encs (List.replicate (m - a.length) 0)).length) then some (D.lst (encs a ++ encs (List.replicate (m - a.length) 0))) else Option.none) with
      | some z => some (laid false z s)
      | Option.none => Option.none) = _
    rw [if_pos (by unfold lineOk; rw [encs_len, encs_len, List.length_replicate]; exact decide_eq_true (by omega))]
    unfold pad encs
    rw [List.map_append]
    rfl
  exact ev_bin (ev_bi1 (ev_var h) rfl) (ev_bin (by simp only [evE, evL, bnd]; rfl) e1 e2) e3
omit hn in
theorem ok_t2 (s : Sto) {a b : List Rat} (la : a.length ≤ 4) (lb : b.length ≤ 4) : exS Γ (run Γ W n) W t2 [o0, o1, o2, some (encP a), some (encP b), o5, some (.int ((max a.length b.length : Nat) : Int)), o7, o8, o9, o10, o11, o12, o13, o14, o15, o16, o17, o18, o19, o20, o21, o22, o23, o24] s = some (.next, [o0, o1, o2, some (encP a), some (encP b), o5, some (.int ((max a.length b.length : Nat) : Int)), some (.lst (encs (pad a (max a.length b.length)))), some (.lst (encs (pad b (max a.length b.length)))), o9, o10, o11, o12, o13, o14, o15, o16, o17, o18, o19, o20, o21, o22, o23, o24], s) :=
  ex_asg2 (by simp) (by simp) (ev_tup2 (ev_fill rfl rfl (by omega) (by omega)) (ev_fill rfl rfl (by omega) (by omega)))
theorem ev_lcf {f : Nat} {g : Rat → Rat → Rat} {a b : List Rat} {M : Nat} (hM : M = max a.length b.length) (hm : M ≤ 100) {s : Sto} (ha : SmL a) (hb : SmL b) (hf : ∀ p q : Rat, Sm p → Sm q → C n f [enc p, enc q] (enc (g p q))) :
    evE Γ (run Γ W n) (.call 89 [eLc f]) [o0, o1, o2, o3, o4, o5, some (.int M), some (.lst (encs (pad a M))), some (.lst (encs (pad b M))), o9, o10, o11, o12, o13, o14, o15, o16, o17, o18, o19, o20, o21, o22, o23, o24] s = some (encP (trim ((List.range M).map fun j => g (a.getD j 0) (b.getD j 0))), s) := by
  have la : a.length ≤ M := by omega
  have lb : b.length ≤ M := by omega
  have e := lc_range (F := run Γ W n) (elt := .call f [(.idx (.var 7 false) (.var 11 false)), (.idx (.var 8 false) (.var 11 false))]) (e := .var 6 false) (i := 11) (c := false) (ρ := [o0, o1, o2, o3, o4, o5, some (.int M), some (.lst (encs (pad a M))), some (.lst (encs (pad b M))), o9, o10, o11, o12, o13, o14, o15, o16, o17, o18, o19, o20, o21, o22, o23, o24]) (s := s) (n := M) (y := fun j => enc (g (a.getD j 0) (b.getD j 0))) (by simp) (by omega) (ev_var rfl) (fun j hj => by
    refine ev_call2 (s1 := s) (s2 := s) (x := enc (a.getD j 0)) (y := enc (b.getD j 0)) ?_ ?_ (hf _ _ (ha.getD j) (hb.getD j) s)
    · refine ev_idx (ev_var rfl) (ev_var rfl) ((idx_at (l := pad a M) (.inl rfl) (by rw [pad_len la]; exact hj)).trans ?_)
      rw [pad_getD]
    · refine ev_idx (ev_var rfl) (ev_var rfl) ((idx_at (l := pad b M) (.inl rfl) (by rw [pad_len lb]; exact hj)).trans ?_)
      rw [pad_getD])
  rw [encs_map] at e
  exact ev_call1 e (l89 (show 1 ≤ n by omega) _ (by simp; omega) s)
theorem ok_t3 (s : Sto) {a b : List Rat} (la : a.length ≤ 4) (lb : b.length ≤ 4) (ha : SmL a) (hb : SmL b) : exS Γ (run Γ W n) W t3 [o0, o1, o2, some (encP a), some (encP b), o5, some (.int ((max a.length b.length : Nat) : Int)), some (.lst (encs (pad a (max a.length b.length)))), some (.lst (encs (pad b (max a.length b.length)))), o9, o10, o11, o12, o13, o14, o15, o16, o17, o18, o19, o20, o21, o22, o23, o24] s = some (.next, [o0, o1, o2, some (encP a), some (encP b), o5, some (.int ((max a.length b.length : Nat) : Int)), some (.lst (encs (pad a (max a.length b.length)))), some (.lst (encs (pad b (max a.length b.length)))), o9, o10, o11, o12, o13, o14, o15, o16, o17, o18, o19, o20, o21, o22, o23, o24], s) := by
  refine ite_f (s1 := s) (or_f (s1 := s) (ev_same (d := encP (trim (padd a b))) (ev_call2 (ev_var rfl) (ev_var rfl) (l14 (by omega) ha hb (by omega) (by omega) s)) ?_ (same_encP _ s)) (ev_same (d := encP (trim (psub a b))) (ev_call2 (ev_var rfl) (ev_var rfl) (l15 (by omega) ha hb (by omega) (by omega) s)) ?_ (same_encP _ s))) ex_nil
  · exact ev_lcf hn (g := fun p q => p + q) rfl (by omega) ha hb (fun p q hp hq => l86 (by omega) hp hq)
  · exact ev_lcf hn (g := fun p q => p - q) rfl (by omega) ha hb (fun p q hp hq => l87 (by omega) hp hq)
theorem ok_t4 (s : Sto) {a b : List Rat} (H : Fit a b 6 18 6 18) : exS Γ (run Γ W n) W t4 [o0, o1, o2, some (encP a), some (encP b), o5, o6, o7, o8, o9, o10, o11, o12, o13, o14, o15, o16, o17, o18, o19, o20, o21, o22, o23, o24] s = some (.next, [o0, o1, o2, some (encP a), some (encP b), o5, o6, o7, o8, some (encP (pmul a b)), o10, o11, o12, o13, o14, o15, o16, o17, o18, o19, o20, o21, o22, o23, o24], s) :=
  ex_asg (by simp) (ev_call2 (ev_var rfl) (ev_var rfl) (l92 H (by omega) s))
theorem ok_t5 (s : Sto) {a b : List Rat} {x : Rat} (H : Fit a b 6 18 6 18) (Va : FitV a x 6 18 12 48) (Vb : FitV b x 6 18 12 48) (Vp : FitV (pmul a b) x 36 5184 12 48) : exS Γ (run Γ W n) W t5 [o0, o1, o2, some (encP a), some (encP b), some (enc x), o6, o7, o8, some (encP (pmul a b)), o10, o11, o12, o13, o14, o15, o16, o17, o18, o19, o20, o21, o22, o23, o24] s = some (.next, [o0, o1, o2, some (encP a), some (encP b), some (enc x), o6, o7, o8, some (encP (pmul a b)), o10, o11, o12, o13, o14, o15, o16, o17, o18, o19, o20, o21, o22, o23, o24], s) := by
  refine ite_f (s1 := s) (or_f (s1 := s) (ev_same (ev_call2 (ev_var rfl) (ev_var rfl) (l16 H (by omega) s)) (ev_var rfl) (same_encP _ s)) (or_f (s1 := s) (ev_same (ev_call2 (ev_var rfl) (ev_var rfl) (l17 (by omega) Va s)) (ev_call2 (ev_var rfl) (ev_var rfl) (l91 (by omega) Va s)) (same_enc _ s)) (ev_same (d := enc (hv x (pmul a b))) (ev_call2 (ev_var rfl) (ev_var rfl) (l17 (by omega) Vp s)) ?_ (same_enc _ s)))) ex_nil
  rw [hv_pmul]
  exact ev_call2 (ev_call2 (ev_var rfl) (ev_var rfl) (l91 (by omega) Va s)) (ev_call2 (ev_var rfl) (ev_var rfl) (l91 (by omega) Vb s)) (l88 (by omega) (fv_hv Va Va.b (Nat.le_refl _)) (fv_hv Vb Vb.b (Nat.le_refl _)) s)
theorem ok_t6 (s : Sto) {a : List Rat} (hs : SmL a) (la : a.length ≤ 4) : exS Γ (run Γ W n) W t6 [o0, o1, o2, some (encP a), o4, o5, o6, o7, o8, o9, o10, o11, o12, o13, o14, o15, o16, o17, o18, o19, o20, o21, o22, o23, o24] s = some (.next, [o0, o1, o2, some (encP a), o4, o5, o6, o7, o8, o9, some (encP (trim (slo a))), o11, o12, o13, o14, o15, o16, o17, o18, o19, o20, o21, o22, o23, o24], s) := by
  have e := lc_range2 (F := run Γ W n) (elt := .call 88 [(.idx (.var 3 false) (.var 11 false)), (.tup [(.var 11 false), (.const (.int 1))])]) (e0 := .const (.int 1)) (e := .bi .len [(.var 3 false)] false) (i := 11) (c := false) (ρ := [o0, o1, o2, some (encP a), o4, o5, o6, o7, o8, o9, o10, o11, o12, o13, o14, o15, o16, o17, o18, o19, o20, o21, o22, o23, o24]) (s := s) (a := 1) (n := a.length) (y := fun j => enc (a.getD (1 + j) 0 * ((1 + j : Nat) : Rat))) (by simp) (by omega) (by decide) ev_const (ev_bi1 (ev_var rfl) (by rw [len_of (l := encs a) (.inr rfl), encs_len])) (fun j hj => by
      have z := l88 (show 3 ≤ n by omega) (hs.getD (1 + j)) (sm_nat (k := 1 + j) (by omega)) s
      rw [enc_nat] at z
      exact ev_call2 (ev_idx (ev_var rfl) (ev_var rfl) (idx_at (l := a) (.inr rfl) (by omega))) (ev_tup2 (ev_var rfl) ev_const) z)
  rw [encs_map] at e
  exact ex_asg (by simp) (ev_call1 e (l89 (show 1 ≤ n by omega) (slo a) (by unfold slo; simp; omega) s))
theorem ok_t7 (s : Sto) {a b : List Rat} (la : a.length ≤ 4) (lb : b.length ≤ 4) (ba : BdL 6 18 a) (bb : BdL 6 18 b) (sa : SmL a) (sb : SmL b) (sp : SmL (pmul a b)) (lp : (pmul a b).length ≤ 8) : exS Γ (run Γ W n) W t7 [o0, o1, o2, some (encP a), some (encP b), o5, o6, o7, o8, some (encP (pmul a b)), some (encP (trim (slo a))), o11, o12, o13, o14, o15, o16, o17, o18, o19, o20, o21, o22, o23, o24] s = some (.next, [o0, o1, o2, some (encP a), some (encP b), o5, o6, o7, o8, some (encP (pmul a b)), some (encP (trim (slo a))), o11, o12, o13, o14, o15, o16, o17, o18, o19, o20, o21, o22, o23, o24], s) := by
  obtain ⟨a1, a2⟩ := slo_bd ba (by omega)
  obtain ⟨b1, b2⟩ := slo_bd bb (by omega)
  have F1 : Fit (trim (slo a)) b 6 (18 * 8) 6 18 := fit_of 4 4 a1 bb (by omega) lb (by decide +kernel)
  have F2 : Fit a (trim (slo b)) 6 18 6 (18 * 8) := fit_of 4 4 ba b1 la (by omega) (by decide +kernel)
  have m1 : (trim (slo a)).length * b.length ≤ 4 * 4 := Nat.mul_le_mul (by omega) lb
  have m2 : a.length * (trim (slo b)).length ≤ 4 * 4 := Nat.mul_le_mul la (by omega)
  have s1 : SmL (pmul (trim (slo a)) b) := (pmul_bd F1).sm (by decide) (by decide) (Nat.lt_of_le_of_lt (Nat.mul_le_mul_left _ m1) (by decide))
  have s2 : SmL (pmul a (trim (slo b))) := (pmul_bd F2).sm (by decide) (by decide) (Nat.lt_of_le_of_lt (Nat.mul_le_mul_left _ m2) (by decide))
  have p1 := pmul_len F1
  have p2 := pmul_len F2
  refine ite_f (s1 := s) (or_f (s1 := s) (ev_same (ev_call1 (ev_var rfl) (l18 (by omega) sa (by omega) s)) (ev_var rfl) (same_encP _ s)) (ev_same (d := encP (trim (slo (pmul a b)))) (ev_call1 (ev_var rfl) (l18 (by omega) sp (by omega) s)) ?_ (same_encP _ s))) ex_nil
  rw [slo_pmul]
  exact ev_call2 (ev_call2 (ev_call1 (ev_var rfl) (l18 (by omega) sa (by omega) s)) (ev_var rfl) (l16 F1 (by omega) s)) (ev_call2 (ev_var rfl) (ev_call1 (ev_var rfl) (l18 (by omega) sb (by omega) s)) (l16 F2 (by omega) s)) (l14 (by omega) s1 s2 (by omega) (by omega) s)
theorem ok_t8 (h1 : o1 = some (.ref 0)) : ∃ r : Nat, r < 4 ∧ exS Γ (run Γ W n) W t8 [o0, o1, o2, o3, o4, o5, o6, o7, o8, o9, o10, o11, o12, o13, o14, o15, o16, o17, o18, o19, o20, o21, o22, o23, o24] (st zs k) = some (.next, [o0, o1, o2, o3, o4, o5, o6, o7, o8, o9, o10, some (.int (r : Int)), some (encP [1]), o13, o14, o15, o16, o17, o18, o19, o20, o21, o22, o23, o24], st zs (k + 1)) := by
  subst h1
  obtain ⟨r, r0, r1, e⟩ := ev_next (n := n) (by omega) (i := 1) (ρ := [o0, some (.ref 0), o2, o3, o4, o5, o6, o7, o8, o9, o10, o11, o12, o13, o14, o15, o16, o17, o18, o19, o20, o21, o22, o23, o24]) rfl zs k (m := 4) (by decide)
  obtain ⟨r, rfl⟩ : ∃ j : Nat, r = j := ⟨r.toNat, by omega⟩
  exact ⟨r, by omega, ex_asg2 (by simp) (by simp) (ev_tup2 e (by simp only [evE, evL, evC, bnd, bndS, var0, varS, exS, exB, asD, tgD, tgsD, ne_int, eq_int, lt_int, gt_int, ge_int, le_int, add_int, sub_int, abs_int, int_int, idx0, idx1, tup1, tup2, tup3, Option.map_some]; rfl))⟩
theorem ok_t9 (s : Sto) {a : List Rat} {r : Nat} (hr : r < 4) (H : ∀ j, j < r → Fit (ppow a j) a (6 ^ j) (1080 ^ j) 6 18) : ∃ p13 : Option D, exS Γ (run Γ W n) W t9 [o0, o1, o2, some (encP a), o4, o5, o6, o7, o8, o9, o10, some (.int r), some (encP [1]), o13, o14, o15, o16, o17, o18, o19, o20, o21, o22, o23, o24] s = some (.next, [o0, o1, o2, some (encP a), o4, o5, o6, o7, o8, o9, o10, some (.int r), some (encP (ppow a r)), p13, o14, o15, o16, o17, o18, o19, o20, o21, o22, o23, o24], s) := by
  obtain ⟨ρ', s', e, p13, rfl, rfl⟩ := fg_count (f := lpB (run Γ W n) (.name 13) [.asg (.tg (.name 12)) (.call 92 [(.var 12 false), (.var 3 false)])]) (n := r)
    (I := fun j ρ s' => ∃ p13 : Option D, ρ = [o0, o1, o2, some (encP a), o4, o5, o6, o7, o8, o9, o10, some (.int r), some (encP (ppow a j)), p13, o14, o15, o16, o17, o18, o19, o20, o21, o22, o23, o24] ∧ s' = s) (fun j hj ρ s' ⟨p13, e1, e2⟩ => by
      subst e1 e2
      refine ⟨[o0, o1, o2, some (encP a), o4, o5, o6, o7, o8, o9, o10, some (.int r), some (encP (ppow a (j + 1))), some (.int j), o14, o15, o16, o17, o18, o19, o20, o21, o22, o23, o24], s', ?_, some (.int j), rfl, rfl⟩
      rw [lpB_name (by simp)]
      exact (ex_next (ρ' := [o0, o1, o2, some (encP a), o4, o5, o6, o7, o8, o9, o10, some (.int r), some (encP (ppow a (j + 1))), some (.int j), o14, o15, o16, o17, o18, o19, o20, o21, o22, o23, o24]) (s' := s') (ex_asg (by simp) (ev_call2 (ev_var rfl) (ev_var rfl) (l92 (H j hj) (by omega) s')))).trans ex_nil) (ρ := [o0, o1, o2, some (encP a), o4, o5, o6, o7, o8, o9, o10, some (.int r), some (encP [1]), o13, o14, o15, o16, o17, o18, o19, o20, o21, o22, o23, o24]) (s := s) ⟨o13, rfl, rfl⟩
  exact ⟨p13, for_range2 (by omega) (ev_var rfl) e⟩
theorem ok_t10 (s : Sto) {a : List Rat} {r : Nat} (hr : r < 4) (la : a.length ≤ 4) (ba : BdL 6 18 a) (H : ∀ j, j < r → Fit (ppow a j) a (6 ^ j) (1080 ^ j) 6 18) : exS Γ (run Γ W n) W t10 [o0, o1, o2, some (encP a), o4, o5, o6, o7, o8, o9, o10, some (.int r), some (encP (ppow a r)), o13, o14, o15, o16, o17, o18, o19, o20, o21, o22, o23, o24] s = some (.next, [o0, o1, o2, some (encP a), o4, o5, o6, o7, o8, o9, o10, some (.int r), some (encP (ppow a r)), o13, o14, o15, o16, o17, o18, o19, o20, o21, o22, o23, o24], s) := 
  ite_f (s1 := s) (or_f (s1 := s) (ev_same (ev_call2 (ev_var rfl) (ev_var rfl) (l20 (by omega) (by omega) (fun j hj => ⟨_, _, _, _, H j hj⟩) s)) (ev_var rfl) (same_encP _ s)) (ev_same (ev_call2 (ev_var rfl) ev_const (l19 (by omega) la ba s)) (ev_call1 (ev_var rfl) (l93 (by omega) la ba s)) (same_str _ s))) ex_nil
def thingsD (a : List Rat) : List D := [encP a, .lst (encs a), .none, .tup [], encP (a ++ [0]), encP (a ++ [mkRat 1 2]), .tup (encs a ++ [.tup [.int 2, .int 4]]), .tup (encs a ++ [.int 3]), .tup (encs a ++ [.tup [.int 1, .int 0]]), .tup (encs a ++ [.none]), .tup (encs a ++ [.tup [.bool true, .int 2]])]
omit hn in
theorem add_tup {s : Sto} {xs : List D} {y : D} (h : xs.length ≤ 1000) : gBin .add false (.tup xs) (.tup [y]) s = some (.tup (xs ++ [y]), s) := by
  show (match (if lineOk (xs.length + [y].length) then some (D.tup (xs ++ [y])) else Option.none) with
      | some z => some (laid false z s)
      | Option.none => Option.none) = _
  rw [if_pos (by unfold lineOk; rw [List.length_singleton]; exact decide_eq_true (by omega))]
  rfl
omit hn in
theorem half : enc (mkRat 1 2) = .tup [.int 1, .int 2] := by
  have : (mkRat 1 2).num = 1 ∧ (mkRat 1 2).den = 2 := by decide +kernel
  unfold enc
  rw [this.1, this.2]
  rfl
omit hn in
theorem encs_app1 (a : List Rat) (q : Rat) : encs a ++ [enc q] = encs (a ++ [q]) := by
  unfold encs
  rw [List.map_append]
  rfl
omit hn in
theorem ok_t11 (s : Sto) {a : List Rat} (la : a.length ≤ 4) : exS Γ (run Γ W n) W t11 [o0, o1, o2, some (encP a), o4, o5, o6, o7, o8, o9, o10, o11, o12, o13, o14, o15, o16, o17, o18, o19, o20, o21, o22, o23, o24] s = some (.next, [o0, o1, o2, some (encP a), o4, o5, o6, o7, o8, o9, o10, o11, o12, o13, some (.lst (thingsD a)), o15, o16, o17, o18, o19, o20, o21, o22, o23, o24], s) := by
  refine ex_asg (by simp) ?_
  have hl : (encs a).length ≤ 1000 := by
    rw [encs_len]
    omega
  have ad : ∀ y : D, gBin .add false (encP a) (.tup [y]) s = some (.tup (encs a ++ [y]), s) := fun y => add_tup hl
  have li : gBi .list false [encP a] s = some (.lst (encs a), s) := rfl
  have a1 := ad (enc 0)
  have a2 := ad (enc (mkRat 1 2))
  rw [encs_app1] at a1 a2
  rw [half] at a2
  rw [enc0] at a1
  have t0' : gTup [] s = some (.tup [], s) := rfl
  simp only [evE, evL, evC, bnd, bndS, var0, varS, exS, exB, asD, tgD, tgsD, ne_int, eq_int, lt_int, gt_int, ge_int, le_int, add_int, sub_int, abs_int, int_int, idx0, idx1, tup1, tup2, tup3, Option.map_some, li, a1, a2, ad, t0']
  rfl
theorem ok_t12 (s : Sto) {a : List Rat} (la : a.length ≤ 4) (sa : SmL a) : ∃ p15 p16 p17 : Option D, exS Γ (run Γ W n) W t12 [o0, o1, o2, o3, o4, o5, o6, o7, o8, o9, o10, o11, o12, o13, some (.lst (thingsD a)), o15, o16, o17, o18, o19, o20, o21, o22, o23, o24] s = some (.next, [o0, o1, o2, o3, o4, o5, o6, o7, o8, o9, o10, o11, o12, o13, some (.lst (thingsD a)), p15, p16, p17, o18, o19, o20, o21, o22, o23, o24], s) := by
  have sapp : ∀ q : Rat, Sm q → SmL (a ++ [q]) := fun q hq z m => by
    rcases List.mem_append.mp m with m | m
    · exact sa z m
    · rw [List.mem_singleton.mp m]
      exact hq
  have sh : Sm (mkRat 1 2) := by constructor <;> decide +kernel
  obtain ⟨p15, p16, p17, e⟩ := things_ok (n := n) (o0 := o0) (o1 := o1) (o2 := o2) (o3 := o3) (o4 := o4) (o5 := o5) (o6 := o6) (o7 := o7) (o8 := o8) (o9 := o9) (o10 := o10) (o11 := o11) (o12 := o12) (o13 := o13) (o14 := some (.lst (thingsD a))) (o18 := o18) (o19 := o19) (o20 := o20) (o21 := o21) (o22 := o22) (o23 := o23) (o24 := o24) s (thingsD a) (fun d hd => by
    simp only [thingsD, List.mem_cons, List.not_mem_nil, or_false] at hd
    rcases hd with rfl | rfl | rfl | rfl | rfl | rfl | rfl | rfl | rfl | rfl | rfl
    · exact th_poly (by omega) sa (by omega)
    · exact th_none (by omega) (l12l (by omega) a) fun s => rfl
    · exact th_none (by omega) (l12n (by omega)) fun s => rfl
    · exact th_poly (l := []) (by omega) (fun q m => by cases m) (by simp)
    · exact th_poly (by omega) (sapp 0 Sm.zero) (by simp; omega)
    · exact th_poly (by omega) (sapp _ sh) (by simp; omega)
    · exact th_bad (by omega) sa (by omega) (by simp [bads])
    · exact th_bad (by omega) sa (by omega) (by simp [bads])
    · exact th_bad (by omega) sa (by omega) (by simp [bads])
    · exact th_bad (by omega) sa (by omega) (by simp [bads])
    · exact th_bad (by omega) sa (by omega) (by simp [bads])) o15 o16 o17
  refine ⟨p15, p16, p17, ?_⟩
  have z : exS Γ (run Γ W n) W t12 [o0, o1, o2, o3, o4, o5, o6, o7, o8, o9, o10, o11, o12, o13, some (.lst (thingsD a)), o15, o16, o17, o18, o19, o20, o21, o22, o23, o24] s = bndS (evL Γ (run Γ W n) [(.var 14 false)] [o0, o1, o2, o3, o4, o5, o6, o7, o8, o9, o10, o11, o12, o13, some (.lst (thingsD a)), o15, o16, o17, o18, o19, o20, o21, o22, o23, o24] s) fun xs s1 => forAll 0 (lpB (run Γ W n) (.name 15) bTh) xs [o0, o1, o2, o3, o4, o5, o6, o7, o8, o9, o10, o11, o12, o13, some (.lst (thingsD a)), o15, o16, o17, o18, o19, o20, o21, o22, o23, o24] s1 := by
    unfold t12
    rw [exS]
    rfl
  rw [z]
  have y : evL Γ (run Γ W n) [(.var 14 false)] [o0, o1, o2, o3, o4, o5, o6, o7, o8, o9, o10, o11, o12, o13, some (.lst (thingsD a)), o15, o16, o17, o18, o19, o20, o21, o22, o23, o24] s = some ([.lst (thingsD a)], s) := by simp only [evE, evL, evC, bnd, bndS, var0, varS, exS, exB, asD, tgD, tgsD, ne_int, eq_int, lt_int, gt_int, ge_int, le_int, add_int, sub_int, abs_int, int_int, idx0, idx1, tup1, tup2, tup3, Option.map_some]
  rw [y]
  show freed [] (forGo (lpB (run Γ W n) (.name 15) bTh) (thingsD a) [o0, o1, o2, o3, o4, o5, o6, o7, o8, o9, o10, o11, o12, o13, some (.lst (thingsD a)), o15, o16, o17, o18, o19, o20, o21, o22, o23, o24] s) = _
  rw [e]
  rfl
end
end Pk32
end

section
set_option Elab.async false
set_option linter.all false
set_option maxRecDepth 100000
set_option maxHeartbeats 4000000
namespace Pk32
open PySem DL Gk32
theorem ex_app2 {F : DL.Fun} : ∀ (xs ys : List S) {ρ ρ' : Rho} {s s' : Sto}, exB Γ F W xs ρ s = some (.next, ρ', s') → exB Γ F W (xs ++ ys) ρ s = exB Γ F W ys ρ' s'
  | [], ys, ρ, ρ', s, s', h => by
    rw [ex_nil] at h
    cases h
    rfl
  | c :: xs, ys, ρ, ρ', s, s', h => by
    rw [exB] at h
    rw [List.cons_append, exB]
    cases e : exS Γ F W c ρ s with
    | none =>
      rw [e] at h
      cases h
    | some p =>
      obtain ⟨fl, ρ1, s1⟩ := p
      rw [e] at h
      cases fl with
      | next => exact ex_app2 xs ys h
      | brk => cases h
      | cont => cases h
      | ret d => cases h
section
variable {o0 o1 o2 o3 o4 o5 o6 o7 o8 o9 o10 o11 o12 o13 o14 o15 o16 o17 o18 o19 o20 o21 o22 o23 o24 : Option D} {n : Nat} (hn : 50 ≤ n) (zs : List Int) (k : Nat)
include hn
theorem ok_A (s : Sto) {r : Nat} (hr : r < 4) : ∃ p13 p18 p19 : Option D, exB Γ (run Γ W n) W bA [o0, o1, o2, o3, o4, o5, o6, o7, o8, o9, o10, some (.int r), o12, o13, o14, o15, o16, o17, o18, o19, o20, o21, o22, o23, o24] s = some (.next, [o0, o1, o2, o3, o4, o5, o6, o7, o8, o9, o10, some (.int r), o12, p13, o14, o15, o16, o17, p18, p19, some (polysD r), o21, o22, o23, o24], s) := by
  obtain ⟨m, rfl⟩ : ∃ m, n = m + 50 := ⟨n - 50, by omega⟩
  have : r = 0 ∨ r = 1 ∨ r = 2 ∨ r = 3 := by omega
  rcases this with rfl | rfl | rfl | rfl
  · exact ⟨_, _, _, pA0 m s⟩
  · exact ⟨_, _, _, pA1 m s⟩
  · exact ⟨_, _, _, pA2 m s⟩
  · exact ⟨_, _, _, pA3 m s⟩
theorem ok_t13 (h1 : o1 = some (.ref 0)) : ∃ t : Nat, ∃ x : D, (t = 0 ∧ x = .tup [.int 0, .int 1] ∨ t = 1 ∧ x = .tup [.int 1, .int 3] ∨ t = 2 ∧ x = .tup [.int 2, .int 3] ∨ t = 3 ∧ x = .tup [.int 1, .int 1]) ∧ exS Γ (run Γ W n) W t13 [o0, o1, o2, o3, o4, o5, o6, o7, o8, o9, o10, o11, o12, o13, o14, o15, o16, o17, o18, o19, o20, o21, o22, o23, o24] (st zs k) = some (.next, [o0, o1, o2, o3, o4, o5, o6, o7, o8, o9, o10, o11, o12, o13, o14, o15, o16, o17, o18, o19, o20, some x, o22, o23, o24], st zs (k + 1)) := by
  subst h1
  obtain ⟨r, r0, r1, e⟩ := ev_next (n := n) (by omega) (i := 1) (ρ := [o0, some (.ref 0), o2, o3, o4, o5, o6, o7, o8, o9, o10, o11, o12, o13, o14, o15, o16, o17, o18, o19, o20, o21, o22, o23, o24]) rfl zs k (m := 4) (by decide)
  obtain ⟨t, rfl⟩ : ∃ j : Nat, r = j := ⟨r.toNat, by omega⟩
  have z := l85 (m := n) (by omega) (a := (t : Int)) (b := 3) (by decide) (by decide) (st zs (k + 1))
  have st13 : exS Γ (run Γ W n) W t13 [o0, some (.ref 0), o2, o3, o4, o5, o6, o7, o8, o9, o10, o11, o12, o13, o14, o15, o16, o17, o18, o19, o20, o21, o22, o23, o24] (st zs k) = some (.next, [o0, some (.ref 0), o2, o3, o4, o5, o6, o7, o8, o9, o10, o11, o12, o13, o14, o15, o16, o17, o18, o19, o20, some (enc (Rat.normalize t 3 (by decide))), o22, o23, o24], st zs (k + 1)) := ex_asg (by simp) (ev_call2 e ev_const z)
  have : t = 0 ∨ t = 1 ∨ t = 2 ∨ t = 3 := by omega
  rcases this with rfl | rfl | rfl | rfl
  · exact ⟨0, _, .inl ⟨rfl, by kernel_rfl⟩, st13⟩
  · exact ⟨1, _, .inr (.inl ⟨rfl, by kernel_rfl⟩), st13⟩
  · exact ⟨2, _, .inr (.inr (.inl ⟨rfl, by kernel_rfl⟩)), st13⟩
  · exact ⟨3, _, .inr (.inr (.inr ⟨rfl, by kernel_rfl⟩)), st13⟩
theorem ok_B (s : Sto) {r t : Nat} (hr : r < 4) {x : D} (hx : t = 0 ∧ x = .tup [.int 0, .int 1] ∨ t = 1 ∧ x = .tup [.int 1, .int 3] ∨ t = 2 ∧ x = .tup [.int 2, .int 3] ∨ t = 3 ∧ x = .tup [.int 1, .int 1]) : ∃ p17 p22 : Option D, exB Γ (run Γ W n) W bB [o0, o1, o2, o3, o4, o5, o6, o7, o8, o9, o10, o11, o12, o13, o14, o15, o16, o17, o18, o19, some (polysD r), some x, o22, o23, o24] s = some (.next, [o0, o1, o2, o3, o4, o5, o6, o7, o8, o9, o10, o11, o12, o13, o14, o15, o16, p17, o18, o19, some (polysD r), some x, p22, o23, o24], s) := by
  obtain ⟨m, rfl⟩ : ∃ m, n = m + 50 := ⟨n - 50, by omega⟩
  have : r = 0 ∨ r = 1 ∨ r = 2 ∨ r = 3 := by omega
  rcases this with rfl | rfl | rfl | rfl
  · rcases hx with ⟨rfl, rfl⟩ | ⟨rfl, rfl⟩ | ⟨rfl, rfl⟩ | ⟨rfl, rfl⟩
    · exact ⟨_, _, pB00 m s⟩
    · exact ⟨_, _, pB01 m s⟩
    · exact ⟨_, _, pB02 m s⟩
    · exact ⟨_, _, pB03 m s⟩
  · rcases hx with ⟨rfl, rfl⟩ | ⟨rfl, rfl⟩ | ⟨rfl, rfl⟩ | ⟨rfl, rfl⟩
    · exact ⟨_, _, pB10 m s⟩
    · exact ⟨_, _, pB11 m s⟩
    · exact ⟨_, _, pB12 m s⟩
    · exact ⟨_, _, pB13 m s⟩
  · rcases hx with ⟨rfl, rfl⟩ | ⟨rfl, rfl⟩ | ⟨rfl, rfl⟩ | ⟨rfl, rfl⟩
    · exact ⟨_, _, pB20 m s⟩
    · exact ⟨_, _, pB21 m s⟩
    · exact ⟨_, _, pB22 m s⟩
    · exact ⟨_, _, pB23 m s⟩
  · rcases hx with ⟨rfl, rfl⟩ | ⟨rfl, rfl⟩ | ⟨rfl, rfl⟩ | ⟨rfl, rfl⟩
    · exact ⟨_, _, pB30 m s⟩
    · exact ⟨_, _, pB31 m s⟩
    · exact ⟨_, _, pB32 m s⟩
    · exact ⟨_, _, pB33 m s⟩
/-- what a turn leaves -/
def Kept (zs : List Int) (q0 : Option D) (ρ : Rho) (s : Sto) : Prop := ∃ (o2 o3 o4 o5 o6 o7 o8 o9 o10 o11 o12 o13 o14 o15 o16 o17 o18 o19 o20 o21 o22 o23 o24 : Option D) (k : Nat), ρ = [q0, some (.ref 0), o2, o3, o4, o5, o6, o7, o8, o9, o10, o11, o12, o13, o14, o15, o16, o17, o18, o19, o20, o21, o22, o23, o24] ∧ s = st zs k
theorem turn (q0 : Option D) (j : Int) {ρ : Rho} {s : Sto} (h : Kept zs q0 ρ s) : ∃ ρ' s', lpB (run Γ W n) (.name 2) bTurn (.int j) ρ s = some (.next, ρ', s') ∧ Kept zs q0 ρ' s' := by
  obtain ⟨o2, o3, o4, o5, o6, o7, o8, o9, o10, o11, o12, o13, o14, o15, o16, o17, o18, o19, o20, o21, o22, o23, o24, k, rfl, rfl⟩ := h
  obtain ⟨a, b, x, k1, la, ba, lb, bb, bx, e0⟩ := ok_t0 (n := n) (by omega) zs k (o0 := q0) (o1 := some (.ref 0)) (o2 := some (.int j)) (o3 := o3) (o4 := o4) (o5 := o5) (o6 := o6) (o7 := o7) (o8 := o8) (o9 := o9) (o10 := o10) (o11 := o11) (o12 := o12) (o13 := o13) (o14 := o14) (o15 := o15) (o16 := o16) (o17 := o17) (o18 := o18) (o19 := o19) (o20 := o20) (o21 := o21) (o22 := o22) (o23 := o23) (o24 := o24) rfl
  have sa : SmL a := ba.sm (by decide) (by decide) (by decide)
  have sb : SmL b := bb.sm (by decide) (by decide) (by decide)
  have H : Fit a b 6 18 6 18 := fit_of 4 4 ba bb la lb (by decide +kernel)
  have lp : (pmul a b).length ≤ 8 := Nat.le_trans (pmul_len H) (by omega)
  have bp : BdL 36 5184 (pmul a b) := (pmul_bd H).mono (Nat.le_trans (Nat.mul_le_mul_left _ (Nat.mul_le_mul la lb)) (by decide))
  have sp : SmL (pmul a b) := bp.sm (by decide) (by decide) (by decide)
  have Va : FitV a x 6 18 12 48 := fitv_of 4 ba bx la (by decide +kernel)
  have Vb : FitV b x 6 18 12 48 := fitv_of 4 bb bx lb (by decide +kernel)
  have Vp : FitV (pmul a b) x 36 5184 12 48 := fitv_of 8 bp bx lp (by decide +kernel)
  obtain ⟨r, hr, e8⟩ := ok_t8 (n := n) (by omega) zs k1 (o0 := q0) (o1 := some (.ref 0)) (o2 := some (.int j)) (o3 := some (encP a)) (o4 := some (encP b)) (o5 := some (enc x)) (o6 := some (.int ((max a.length b.length : Nat) : Int))) (o7 := some (.lst (encs (pad a (max a.length b.length))))) (o8 := some (.lst (encs (pad b (max a.length b.length))))) (o9 := some (encP (pmul a b))) (o10 := some (encP (trim (slo a)))) (o11 := o11) (o12 := o12) (o13 := o13) (o14 := o14) (o15 := o15) (o16 := o16) (o17 := o17) (o18 := o18) (o19 := o19) (o20 := o20) (o21 := o21) (o22 := o22) (o23 := o23) (o24 := o24) rfl
  have PW : ∀ i, i < r → Fit (ppow a i) a (6 ^ i) (1080 ^ i) 6 18 := fun i hi => (pow_ok la ba i (by omega)).2.2 (by omega)
  obtain ⟨p13, e9⟩ := ok_t9 (n := n) (by omega) (st zs (k1 + 1)) hr PW (o0 := q0) (o1 := some (.ref 0)) (o2 := some (.int j)) (o4 := some (encP b)) (o5 := some (enc x)) (o6 := some (.int ((max a.length b.length : Nat) : Int))) (o7 := some (.lst (encs (pad a (max a.length b.length))))) (o8 := some (.lst (encs (pad b (max a.length b.length))))) (o9 := some (encP (pmul a b))) (o10 := some (encP (trim (slo a)))) (o13 := o13) (o14 := o14) (o15 := o15) (o16 := o16) (o17 := o17) (o18 := o18) (o19 := o19) (o20 := o20) (o21 := o21) (o22 := o22) (o23 := o23) (o24 := o24)
  obtain ⟨p15, p16, p17, e12⟩ := ok_t12 (n := n) (by omega) (st zs (k1 + 1)) la sa (o0 := q0) (o1 := some (.ref 0)) (o2 := some (.int j)) (o3 := some (encP a)) (o4 := some (encP b)) (o5 := some (enc x)) (o6 := some (.int ((max a.length b.length : Nat) : Int))) (o7 := some (.lst (encs (pad a (max a.length b.length))))) (o8 := some (.lst (encs (pad b (max a.length b.length))))) (o9 := some (encP (pmul a b))) (o10 := some (encP (trim (slo a)))) (o11 := some (.int r)) (o12 := some (encP (ppow a r))) (o13 := p13) (o15 := o15) (o16 := o16) (o17 := o17) (o18 := o18) (o19 := o19) (o20 := o20) (o21 := o21) (o22 := o22) (o23 := o23) (o24 := o24)
  obtain ⟨r13, r18, r19, eA⟩ := ok_A hn (st zs (k1 + 1)) hr (o0 := q0) (o1 := some (.ref 0)) (o2 := some (.int j)) (o3 := some (encP a)) (o4 := some (encP b)) (o5 := some (enc x)) (o6 := some (.int ((max a.length b.length : Nat) : Int))) (o7 := some (.lst (encs (pad a (max a.length b.length))))) (o8 := some (.lst (encs (pad b (max a.length b.length))))) (o9 := some (encP (pmul a b))) (o10 := some (encP (trim (slo a)))) (o12 := some (encP (ppow a r))) (o13 := p13) (o14 := some (.lst (thingsD a))) (o15 := p15) (o16 := p16) (o17 := p17) (o18 := o18) (o19 := o19) (o20 := o20) (o21 := o21) (o22 := o22) (o23 := o23) (o24 := o24)
  obtain ⟨t, y, hy, e13⟩ := ok_t13 hn zs (k1 + 1) (o0 := q0) (o1 := some (.ref 0)) (o2 := some (.int j)) (o3 := some (encP a)) (o4 := some (encP b)) (o5 := some (enc x)) (o6 := some (.int ((max a.length b.length : Nat) : Int))) (o7 := some (.lst (encs (pad a (max a.length b.length))))) (o8 := some (.lst (encs (pad b (max a.length b.length))))) (o9 := some (encP (pmul a b))) (o10 := some (encP (trim (slo a)))) (o11 := some (.int r)) (o12 := some (encP (ppow a r))) (o13 := r13) (o14 := some (.lst (thingsD a))) (o15 := p15) (o16 := p16) (o17 := p17) (o18 := r18) (o19 := r19) (o20 := some (polysD r)) (o21 := o21) (o22 := o22) (o23 := o23) (o24 := o24) rfl
  obtain ⟨q17, q22, eB⟩ := ok_B hn (st zs (k1 + 1 + 1)) hr hy (o0 := q0) (o1 := some (.ref 0)) (o2 := some (.int j)) (o3 := some (encP a)) (o4 := some (encP b)) (o5 := some (enc x)) (o6 := some (.int ((max a.length b.length : Nat) : Int))) (o7 := some (.lst (encs (pad a (max a.length b.length))))) (o8 := some (.lst (encs (pad b (max a.length b.length))))) (o9 := some (encP (pmul a b))) (o10 := some (encP (trim (slo a)))) (o11 := some (.int r)) (o12 := some (encP (ppow a r))) (o13 := r13) (o14 := some (.lst (thingsD a))) (o15 := p15) (o16 := p16) (o17 := p17) (o18 := r18) (o19 := r19) (o22 := o22) (o23 := o23) (o24 := o24)
  have head : exB Γ (run Γ W n) W [t0, t1, t2, t3, t4, t5, t6, t7, t8, t9, t10, t11, t12] [q0, some (.ref 0), some (.int j), o3, o4, o5, o6, o7, o8, o9, o10, o11, o12, o13, o14, o15, o16, o17, o18, o19, o20, o21, o22, o23, o24] (st zs k) = some (.next, [q0, some (.ref 0), some (.int j), some (encP a), some (encP b), some (enc x), some (.int ((max a.length b.length : Nat) : Int)), some (.lst (encs (pad a (max a.length b.length)))), some (.lst (encs (pad b (max a.length b.length)))), some (encP (pmul a b)), some (encP (trim (slo a))), some (.int r), some (encP (ppow a r)), p13, some (.lst (thingsD a)), p15, p16, p17, o18, o19, o20, o21, o22, o23, o24], st zs (k1 + 1)) :=
    (ex_next e0).trans ((ex_next (ok_t1 _ a b)).trans ((ex_next (ok_t2 _ la lb)).trans ((ex_next (ok_t3 (by omega) _ la lb sa sb)).trans ((ex_next (ok_t4 (by omega) _ H)).trans ((ex_next (ok_t5 (by omega) _ H Va Vb Vp)).trans ((ex_next (ok_t6 (by omega) _ sa la)).trans ((ex_next (ok_t7 (by omega) _ la lb ba bb sa sb sp lp)).trans ((ex_next e8).trans ((ex_next e9).trans ((ex_next (ok_t10 (by omega) _ hr la ba PW)).trans ((ex_next (ok_t11 _ la)).trans ((ex_next e12).trans ex_nil))))))))))))
  have full : lpB (run Γ W n) (.name 2) bTurn (.int j) [q0, some (.ref 0), o2, o3, o4, o5, o6, o7, o8, o9, o10, o11, o12, o13, o14, o15, o16, o17, o18, o19, o20, o21, o22, o23, o24] (st zs k) = some (.next, [q0, some (.ref 0), some (.int j), some (encP a), some (encP b), some (enc x), some (.int ((max a.length b.length : Nat) : Int)), some (.lst (encs (pad a (max a.length b.length)))), some (.lst (encs (pad b (max a.length b.length)))), some (encP (pmul a b)), some (encP (trim (slo a))), some (.int r), some (encP (ppow a r)), r13, some (.lst (thingsD a)), p15, p16, q17, r18, r19, some (polysD r), some y, q22, o23, o24], st zs (k1 + 1 + 1)) := by
    rw [lpB_name (by simp)]
    show exB Γ (run Γ W n) W ([t0, t1, t2, t3, t4, t5, t6, t7, t8, t9, t10, t11, t12] ++ bA ++ [t13] ++ bB) [q0, some (.ref 0), some (.int j), o3, o4, o5, o6, o7, o8, o9, o10, o11, o12, o13, o14, o15, o16, o17, o18, o19, o20, o21, o22, o23, o24] (st zs k) = _
    rw [List.append_assoc, List.append_assoc, ex_app2 _ _ head, ex_app2 _ _ eA, ex_app2 [t13] bB ((ex_next e13).trans ex_nil), eB]
  exact ⟨_, _, full, _, _, _, _, _, _, _, _, _, _, _, _, _, _, _, _, _, _, _, _, _, _, _, k1 + 1 + 1, rfl, rfl⟩
end
theorem go (ns : List Int) (hl : ns.length ≤ 63) : ∃ s', run Γ W (59 + 1) 94 [.scr ns] [] = some (.bool true, s') := by
  obtain ⟨zs, dz⟩ := draws_ok (m := 59) (by decide) ns hl
  have s1 : exS Γ (run Γ W 59) W (.asg (.tg (.name 1)) (.dct [(.const (.str s46)), (.call 80 [(.var 0 false), (.const (.int 300))]), (.const (.str s45)), (.const (.int 0))] true)) (startD 25 [.scr ns]) [] = some (.next, (startD 25 [.scr ns]).set 1 (some (.ref 0)), st zs 0) := by
    refine ex_asg (by simp [startD]) ?_
    have e : evL Γ (run Γ W 59) [(.const (.str s46)), (.call 80 [(.var 0 false), (.const (.int 300))]), (.const (.str s45)), (.const (.int 0))] (startD 25 [.scr ns]) [] = some ([.str s46, .lst (zs.map .int), .str s45, .int 0], []) := by
      have c : evE Γ (run Γ W 59) (.call 80 [(.var 0 false), (.const (.int 300))]) (startD 25 [.scr ns]) [] = some (.lst (zs.map .int), []) := ev_call2 (ev_var rfl) ev_const (dz [])
      simp only [evL, bnd, ev_const, c]
    have z : evE Γ (run Γ W 59) (.dct [(.const (.str s46)), (.call 80 [(.var 0 false), (.const (.int 300))]), (.const (.str s45)), (.const (.int 0))] true) (startD 25 [.scr ns]) [] = bnd (evL Γ (run Γ W 59) [(.const (.str s46)), (.call 80 [(.var 0 false), (.const (.int 300))]), (.const (.str s45)), (.const (.int 0))] (startD 25 [.scr ns]) []) fun xs s1 => gDct true xs s1 := by
      conv => lhs; rw [evE]
    rw [z, e]
    show gDct true [.str s46, .lst (zs.map .int), .str s45, .int 0] [] = _
    kernel_rfl
  obtain ⟨ρ', s', e, _⟩ := fg_count (f := lpB (run Γ W 59) (.name 2) bTurn) (n := 6) (I := fun _ ρ s => Kept zs (some (.scr ns)) ρ s) (fun j _ ρ s h => turn (n := 59) (by decide) zs (some (.scr ns)) j h) (ρ := (startD 25 [.scr ns]).set 1 (some (.ref 0))) (s := st zs 0) ⟨Option.none, Option.none, Option.none, Option.none, Option.none, Option.none, Option.none, Option.none, Option.none, Option.none, Option.none, Option.none, Option.none, Option.none, Option.none, Option.none, Option.none, Option.none, Option.none, Option.none, Option.none, Option.none, Option.none, 0, rfl, rfl⟩
  have b : exB Γ (run Γ W 59) W f94.body (startD f94.slots [.scr ns]) [] = some (.ret (.bool true), ρ', s') := by
    rw [f94_is]
    exact (ex_next s1).trans ((ex_next (for_range2 (n := 6) (by decide) ev_const e)).trans (ex_ret (ex_rete ev_const)))
  exact ⟨[], run_tree (fd := f94) rfl rfl (call_ret rfl b) rfl⟩
end Pk32
end

section
set_option Elab.async false
set_option linter.all false
set_option maxRecDepth 100000
/-! DL, part c: how data lie in the abstract heap; what a step may change. -/
namespace DL
open PySem PySem.Spec PyProof.Rows L2

/-- a dict's object, entry by entry -/
def rawO (a : Addr) (es : Array DictEntry) (ep : Nat) : HO := .ext fun h => h.DictRaw a es ep
/-- the cells' places; the places of what is being made (a list of a comprehension, a dict of a display): hidden, nothing stands for them -/
structure Al where
  l : List Addr
  g : List Addr
def Al.push (α : Al) (p : Addr) : Al := ⟨α.l ++ [p], α.g⟩
/-- a place that no live cell has, nothing hidden -/
def Fz (α : Al) (s : Sto) (a : Addr) : Prop := a ∉ α.g ∧ ∀ i : Nat, α.l[i]? = some a → s[i]? = some Cell.dead

/-- keys of a dict: tuples all or none, to depth 8, each once -/
structure KeysGood (ks : List D) : Prop where
  keys : ∃ xs, D.keys ks = some xs ∧ xs.Nodup ∧ ∀ x ∈ xs, x.depth ≤ 8
  sort : ∃ b, ∀ k ∈ ks, k.sort = some b
  line : ks.length ≤ sizeLine

/-- a tuple whose object is known: it has no dict of its own -/
def SqX (K : PySem.W.Frag) (H : Hp) (a : Addr) (xs : List V) : Prop := (∃ o : Obj, H a = some (.frz o (.tup xs)) ∧ o.dict = none) ∨
  ∃ (o : Obj) (its : Array Value) (n : Nat), K.lookup a = some o ∧ o.cls = .type "tuple" ∧ o.dict = none ∧ o.data = .seq its n ∧ its.size ≤ sizeLine ∧ Vals xs its.toList
theorem SqX.t {K : PySem.W.Frag} {H : Hp} {a : Addr} {xs : List V} (h : SqX K H a xs) : SqT K H a xs := by
  rcases h with ⟨o, h, _⟩ | ⟨o, its, n, h1, h2, _, h3, h4, h5⟩
  · exact .inl (.inr ⟨o, h⟩)
  · exact .inr ⟨o, its, n, h1, h2, h3, h4, h5⟩
section
variable (K : PySem.W.Frag) (w : World) (α : Al) (s : Sto) (H : Hp)
mutual
inductive Rp : D → V → Prop
  | none : Rp .none .non
  | bool (b : Bool) : Rp (.bool b) (.bl b)
  | int (i : Int) : Rp (.int i) (.int i)
  | str (x : Str) : Rp (.str x) (.str x)
  | tup {a : Addr} {vs : List V} {ds : List D} : SqX K H a vs → RpL ds vs → Rp (.tup ds) (.ref a)
  | lst {a : Addr} {vs : List V} {ds : List D} : Rd H a (.lst vs) → Fz α s a → RpL ds vs → Rp (.lst ds) (.ref a)
  | dct {a : Addr} {es : Array DictEntry} {ep : Nat} {ks vs : List D} {us : List V} : H a = some (rawO a es ep) → Fz α s a → (a == sysModules) = false → KeysGood ks → Ents ks es.toList → RpL vs us → Vals us (es.toList.map (·.val)) → Rp (.dct ks vs) (.ref a)
  | ref {n : Nat} {a : Addr} : α.l[n]? = some a → Rp (.ref n) (.ref a)
  | scr {a : Addr} {ns : List Int} : (SqL K (fun _ => Option.none) a (ns.map V.int) ∨ Rd H a (.lst (ns.map V.int)) ∧ Fz α s a) → Rp (.scr ns) (.ref a)
inductive RpL : List D → List V → Prop
  | nil : RpL [] []
  | cons {d : D} {v : V} {ds : List D} {vs : List V} : Rp d v → RpL ds vs → RpL (d :: ds) (v :: vs)
inductive Ents : List D → List DictEntry → Prop
  | nil : Ents [] []
  | cons {k : D} {kv : V} {x : NestedKey} {ks : List D} {e : DictEntry} {es : List DictEntry} : Rp k kv → RelV kv e.key → k.key = some x → e.hash = x.hash w → Ents ks es → Ents (k :: ks) (e :: es)
end
end

/-- names and values of an instance -/
def fldV (fs : List (Str × D)) (fvs : List (Str × V)) : Prop := fs.map (·.1) = fvs.map (·.1)
inductive CellR (K : PySem.W.Frag) (w : World) (cA : Nat → Addr) (α : Al) (s : Sto) (H : Hp) : Addr → Cell → Prop
  | lst {a : Addr} {vs : List V} {ds : List D} : H a = some (.lst vs) → RpL K w α s H ds vs → CellR K w cA α s H a (.lst ds)
  | lkl {a : Addr} {vs : List V} {ds : List D} : H a = some (.lst vs) → RpL K w α s H ds vs → CellR K w cA α s H a (.lkl ds)
  | dct {a : Addr} {es : Array DictEntry} {ep : Nat} {ks vs : List D} {us : List V} : H a = some (rawO a es ep) → (a == sysModules) = false → KeysGood ks → Ents K w α s H ks es.toList → RpL K w α s H vs us → Vals us (es.toList.map (·.val)) → CellR K w cA α s H a (.dct ks vs)
  | lkd {a : Addr} {es : Array DictEntry} {ep : Nat} {ks vs : List D} {us : List V} : H a = some (rawO a es ep) → (a == sysModules) = false → KeysGood ks → Ents K w α s H ks es.toList → RpL K w α s H vs us → Vals us (es.toList.map (·.val)) → CellR K w cA α s H a (.lkd ks vs)
  | ins {a dx : Addr} {c : Nat} {fs : List (Str × D)} {fvs : List (Str × V)} : H a = some (.ins (cA c) dx fvs) → fldV fs fvs → RpL K w α s H (fs.map (·.2)) (fvs.map (·.2)) → CellR K w cA α s H a (.ins c fs)
  | dead {a : Addr} {o : HO} : H a = some o → CellR K w cA α s H a .dead

/-- the store lies in the heap -/
structure RS (K : PySem.W.Frag) (w : World) (cA : Nat → Addr) (α : Al) (s : Sto) (H : Hp) : Prop where
  len : α.l.length = s.length
  nd : α.l.Nodup
  cell : ∀ (i : Nat) (a : Addr) (c : Cell), α.l[i]? = some a → s[i]? = some c → CellR K w cA α s H a c
  hid : ∀ a ∈ α.g, a ∉ α.l ∧ ∃ o, H a = some o
def lckd : Cell → Bool
  | .lkl _ => true
  | .lkd _ _ => true
  | _ => false
/-- what stands for trees is kept -/
structure Gw (α : Al) (s : Sto) (H : Hp) (α' : Al) (s' : Sto) (H' : Hp) : Prop where
  pre : α.l <+: α'.l
  tup : ∀ a o xs, H a = some (.frz o (.tup xs)) → H' a = some (.frz o (.tup xs))
  fz : ∀ a o, H a = some o → Fz α s a → H' a = some o ∧ Fz α' s' a
/-- and what is hidden or locked, too -/
structure Gh (α : Al) (s : Sto) (H : Hp) (α' : Al) (s' : Sto) (H' : Hp) : Prop where
  w : Gw α s H α' s' H'
  sub : ∀ a ∈ α.g, a ∈ α'.g ∧ H' a = H a
  lk : ∀ (i : Nat) (a : Addr) (c : Cell), α.l[i]? = some a → s[i]? = some c → lckd c = true → s'[i]? = some c ∧ H' a = H a
/-- what a step may have changed -/
structure Go (α : Al) (s : Sto) (H : Hp) (α' : Al) (s' : Sto) (H' : Hp) : Prop where
  h : Gh α s H α' s' H'
  g : α'.g = α.g
/-- slots -/
def REnv (K : PySem.W.Frag) (w : World) (α : Al) (s : Sto) (H : Hp) (ρ : Rho) (σ : L2.St) : Prop :=
  ρ.length = σ.length ∧ ∀ (i : Nat) (d : D), ρ[i]? = some (some d) → ∃ v, σ[i]? = some (some v) ∧ Rp K w α s H d v

section
variable {K : PySem.W.Frag} {w : World} {cA : Nat → Addr} {α α' α2 : Al} {s s' s2 : Sto} {H H' H2 : Hp}
theorem pre_get {l l' : List Addr} {a : Addr} {i : Nat} (h : l <+: l') (e : l[i]? = some a) : l'[i]? = some a := by
  obtain ⟨r, rfl⟩ := h
  rw [List.getElem?_append_left (List.getElem?_eq_some_iff.mp e).1]
  exact e
theorem Gw.refl : Gw α s H α s H := ⟨List.prefix_rfl, fun _ _ _ h => h, fun _ _ h f => ⟨h, f⟩⟩
theorem Gw.trans (a : Gw α s H α' s' H') (b : Gw α' s' H' α2 s2 H2) : Gw α s H α2 s2 H2 where
  pre := a.pre.trans b.pre
  tup := fun c o xs h => b.tup c o xs (a.tup c o xs h)
  fz := fun c o h f => let ⟨h1, f1⟩ := a.fz c o h f; b.fz c o h1 f1
theorem Gh.refl : Gh α s H α s H := ⟨.refl, fun _ h => ⟨h, rfl⟩, fun _ _ _ _ h _ => ⟨h, rfl⟩⟩
theorem Gh.trans (a : Gh α s H α' s' H') (b : Gh α' s' H' α2 s2 H2) : Gh α s H α2 s2 H2 where
  w := a.w.trans b.w
  sub := fun c h => let ⟨h1, e1⟩ := a.sub c h; let ⟨h2, e2⟩ := b.sub c h1; ⟨h2, e2.trans e1⟩
  lk := fun i c l h e k => by
    obtain ⟨h1, h2⟩ := a.lk i c l h e k
    obtain ⟨h3, h4⟩ := b.lk i c l (pre_get a.w.pre h) h1 k
    exact ⟨h3, h4.trans h2⟩
theorem Go.refl : Go α s H α s H := ⟨.refl, rfl⟩
theorem Go.trans (a : Go α s H α' s' H') (b : Go α' s' H' α2 s2 H2) : Go α s H α2 s2 H2 := ⟨a.h.trans b.h, b.g.trans a.g⟩
theorem Gw.sqX (g : Gw α s H α' s' H') {a : Addr} {xs : List V} (h : SqX K H a xs) : SqX K H' a xs := by
  rcases h with ⟨o, h, d⟩ | h
  · exact .inl ⟨o, g.tup a o xs h, d⟩
  · exact .inr h
theorem Gw.rdL (g : Gw α s H α' s' H') {a : Addr} {u : HO} (h : Rd H a u) (f : Fz α s a) : Rd H' a u ∧ Fz α' s' a := by
  rcases h with h | ⟨o, h⟩
  · exact ⟨.inl (g.fz a _ h f).1, (g.fz a _ h f).2⟩
  · exact ⟨.inr ⟨o, (g.fz a _ h f).1⟩, (g.fz a _ h f).2⟩
theorem sqL_k {a : Addr} {vs : List V} (h : SqL K (fun _ => Option.none) a vs) (H : Hp) : SqL K H a vs := by
  rcases h with (h | ⟨o, h⟩) | h
  · cases h
  · cases h
  · exact .inr h
mutual
theorem Gw.rp (g : Gw α s H α' s' H') : ∀ (d : D) (v : V), Rp K w α s H d v → Rp K w α' s' H' d v
  | .none, _, h => by cases h; exact .none
  | .bool b, _, h => by cases h; exact .bool b
  | .int i, _, h => by cases h; exact .int i
  | .str x, _, h => by cases h; exact .str x
  | .tup ds, _, h => by
    cases h with
    | tup h1 h2 => exact .tup (g.sqX h1) (Gw.rpL g ds _ h2)
  | .lst ds, _, h => by
    cases h with
    | lst h1 h2 h3 => exact .lst (g.rdL h1 h2).1 (g.rdL h1 h2).2 (Gw.rpL g ds _ h3)
  | .dct ks vs, _, h => by
    cases h with
    | dct h1 h2 h3 h4 h5 h6 h7 => exact .dct (g.fz _ _ h1 h2).1 (g.fz _ _ h1 h2).2 h3 h4 (Gw.ents g ks _ h5) (Gw.rpL g vs _ h6) h7
  | .ref n, _, h => by
    cases h with
    | ref h1 => exact .ref (pre_get g.pre h1)
  | .scr ns, _, h => by
    cases h with
    | scr h1 =>
      rcases h1 with h1 | ⟨h1, h2⟩
      · exact .scr (.inl h1)
      · exact .scr (.inr (g.rdL h1 h2))
theorem Gw.rpL (g : Gw α s H α' s' H') : ∀ (ds : List D) (vs : List V), RpL K w α s H ds vs → RpL K w α' s' H' ds vs
  | [], _, h => by cases h; exact .nil
  | d :: ds, _, h => by
    cases h with
    | cons h1 h2 => exact .cons (Gw.rp g d _ h1) (Gw.rpL g ds _ h2)
theorem Gw.ents (g : Gw α s H α' s' H') : ∀ (ks : List D) (es : List DictEntry), Ents K w α s H ks es → Ents K w α' s' H' ks es
  | [], _, h => by cases h; exact .nil
  | k :: ks, _, h => by
    cases h with
    | cons h1 h2 h5 h6 h7 => exact .cons (Gw.rp g k _ h1) h2 h5 h6 (Gw.ents g ks _ h7)
end
theorem Gw.env (g : Gw α s H α' s' H') {ρ : Rho} {σ : L2.St} (h : REnv K w α s H ρ σ) : REnv K w α' s' H' ρ σ :=
  ⟨h.1, fun i d e => let ⟨v, e1, r⟩ := h.2 i d e; ⟨v, e1, g.rp d v r⟩⟩
/-- a cell carried on, where its own object stands -/
theorem Gw.cell (g : Gw α s H α' s' H') {a : Addr} {c : Cell} (h : CellR K w cA α s H a c) (e : H' a = H a) : CellR K w cA α' s' H' a c := by
  cases h with
  | lst h1 h2 => exact .lst (e.trans h1) (g.rpL _ _ h2)
  | lkl h1 h2 => exact .lkl (e.trans h1) (g.rpL _ _ h2)
  | dct h1 h2 h3 h4 h5 h6 => exact .dct (e.trans h1) h2 h3 (g.ents _ _ h4) (g.rpL _ _ h5) h6
  | lkd h1 h2 h3 h4 h5 h6 => exact .lkd (e.trans h1) h2 h3 (g.ents _ _ h4) (g.rpL _ _ h5) h6
  | ins h1 h2 h3 => exact .ins (e.trans h1) h2 (g.rpL _ _ h3)
  | dead h1 => exact .dead (e.trans h1)
theorem Go.rp (g : Go α s H α' s' H') (d : D) (v : V) (r : Rp K w α s H d v) : Rp K w α' s' H' d v := g.h.w.rp d v r
theorem Go.rpL (g : Go α s H α' s' H') (d : List D) (v : List V) (r : RpL K w α s H d v) : RpL K w α' s' H' d v := g.h.w.rpL d v r
theorem Go.ents (g : Go α s H α' s' H') (d : List D) (v : List DictEntry) (r : Ents K w α s H d v) : Ents K w α' s' H' d v := g.h.w.ents d v r
theorem Go.env (g : Go α s H α' s' H') {ρ : Rho} {σ : L2.St} (h : REnv K w α s H ρ σ) : REnv K w α' s' H' ρ σ := g.h.w.env h
theorem CellR.some {a : Addr} {c : Cell} (h : CellR K w cA α s H a c) : ∃ o, H a = Option.some o := by
  cases h <;> exact ⟨_, by assumption⟩
theorem RS.there (r : RS K w cA α s H) {i : Nat} {a : Addr} (h : α.l[i]? = some a) : ∃ o, H a = some o := by
  have hi := (List.getElem?_eq_some_iff.mp h).1
  rw [r.len] at hi
  exact (r.cell i a _ h (List.getElem?_eq_getElem hi)).some
theorem RS.fresh (r : RS K w cA α s H) {p : Addr} (h : H p = none) : p ∉ α.l := fun m => by
  obtain ⟨i, e⟩ := List.mem_iff_getElem?.mp m
  obtain ⟨o, q⟩ := r.there e
  rw [h] at q; cases q
theorem RS.freshG (r : RS K w cA α s H) {p : Addr} (h : H p = none) : p ∉ α.g := fun m => by
  obtain ⟨_, o, q⟩ := r.hid p m
  rw [h] at q; cases q
theorem RS.ix (r : RS K w cA α s H) {i j : Nat} {a : Addr} (h : α.l[i]? = some a) (h' : α.l[j]? = some a) : i = j :=
  (List.getElem?_inj (List.getElem?_eq_some_iff.mp h).1 r.nd).mp (h.trans h'.symm)

/-! ### steps -/
/-- a new object, no cell -/
theorem Go.newO (r : RS K w cA α s H) {p : Addr} {o : HO} (h : H p = none) : Go α s H α s (upd H p o) where
  h := {
    w := {
      pre := List.prefix_rfl
      tup := fun a o xs q => by rw [upd_ne (by rintro rfl; rw [h] at q; cases q)]; exact q
      fz := fun a u q f => ⟨by rw [upd_ne (by rintro rfl; rw [h] at q; cases q)]; exact q, f⟩ }
    sub := fun a ha => ⟨ha, upd_ne (by rintro rfl; exact r.freshG h ha)⟩
    lk := fun i a c e1 e2 _ => ⟨e2, by
      obtain ⟨u, q⟩ := r.there e1
      rw [upd_ne (by rintro rfl; rw [h] at q; cases q)]⟩ }
  g := rfl
theorem RS.newO (r : RS K w cA α s H) {p : Addr} {o : HO} (h : H p = none) : RS K w cA α s (upd H p o) where
  len := r.len
  nd := r.nd
  cell := fun i a c e1 e2 => (Go.newO r h).h.w.cell (r.cell i a c e1 e2) (by
    obtain ⟨u, q⟩ := r.there e1
    rw [upd_ne (by rintro rfl; rw [h] at q; cases q)])
  hid := fun a ha => ⟨(r.hid a ha).1, by
    obtain ⟨_, u, q⟩ := r.hid a ha
    exact ⟨u, by rw [upd_ne (by rintro rfl; rw [h] at q; cases q)]; exact q⟩⟩
theorem RS.fzNew (r : RS K w cA α s H) {p : Addr} (h : H p = none) : Fz α s p := ⟨r.freshG h, fun i e => absurd (List.mem_of_getElem? e) (r.fresh h)⟩
theorem RS.noG (r : RS K w cA α s H) {i : Nat} {a : Addr} (h : α.l[i]? = some a) : a ∉ α.g := fun m => (r.hid a m).1 (List.mem_of_getElem? h)
theorem push_last (α : Al) (p : Addr) : (α.push p).l[α.l.length]? = some p := by
  show (α.l ++ [p])[α.l.length]? = some p
  rw [List.getElem?_append_right (Nat.le_refl _), Nat.sub_self]
  rfl
/-- a place that is no cell yet becomes one -/
theorem get_push {p a : Addr} {i : Nat} (e : (α.push p).l[i]? = some a) : (i < α.l.length ∧ α.l[i]? = some a) ∨ (i = α.l.length ∧ a = p) := by
  have e : (α.l ++ [p])[i]? = some a := e
  by_cases hi : i < α.l.length
  · rw [List.getElem?_append_left hi] at e
    exact .inl ⟨hi, e⟩
  · rw [List.getElem?_append_right (by omega), List.getElem?_singleton] at e
    split at e
    · exact .inr ⟨by omega, (Option.some.inj e).symm⟩
    · cases e
theorem Gw.push (r : RS K w cA α s H) {p : Addr} {c : Cell} (fr : ∀ a o, H a = some o → Fz α s a → a ≠ p) : Gw α s H (α.push p) (s ++ [c]) H where
  pre := ⟨[p], rfl⟩
  tup := fun _ _ _ q => q
  fz := fun a o q f => ⟨q, f.1, fun i e => by
    rcases get_push e with ⟨hi, e⟩ | ⟨_, e⟩
    · rw [List.getElem?_append_left (by rw [← r.len]; exact hi)]
      exact f.2 i e
    · exact absurd e (fr a o q f)⟩
theorem RS.pushed (r : RS K w cA α s H) {p : Addr} {c : Cell} (np : p ∉ α.l) (ng : p ∉ α.g) (gw : Gw α s H (α.push p) (s ++ [c]) H) (hc : CellR K w cA (α.push p) (s ++ [c]) H p c) : RS K w cA (α.push p) (s ++ [c]) H where
  len := by show (α.l ++ [p]).length = _; simp [r.len]
  nd := by
    show (α.l ++ [p]).Nodup
    rw [List.nodup_append]
    exact ⟨r.nd, by simp, fun a ha b hb => by
      have : b = p := by simpa using hb
      subst this
      rintro rfl
      exact np ha⟩
  cell := fun i a c' e1 e2 => by
    rcases get_push e1 with ⟨hi, e1⟩ | ⟨hi, e1⟩
    · rw [List.getElem?_append_left (by rw [← r.len]; exact hi)] at e2
      exact gw.cell (r.cell i a c' e1 e2) rfl
    · subst e1
      rw [List.getElem?_append_right (by rw [← r.len]; omega), hi, ← r.len, Nat.sub_self] at e2
      cases e2
      exact hc
  hid := fun a ha => ⟨by
    show a ∉ α.l ++ [p]
    rw [List.mem_append]
    rintro (h | h)
    · exact (r.hid a ha).1 h
    · have : a = p := by simpa using h
      subst this
      exact ng ha, (r.hid a ha).2⟩
/-- a new object that is a cell -/
theorem Go.newC (r : RS K w cA α s H) {p : Addr} {o : HO} {c : Cell} (h : H p = none) : Go α s H (α.push p) (s ++ [c]) (upd H p o) where
  h := {
    w := {
      pre := ⟨[p], rfl⟩
      tup := (Go.newO r h).h.w.tup
      fz := fun a u q f => ⟨((Go.newO (o := o) r h).h.w.fz a u q f).1, f.1, fun i e => by
        have ne : a ≠ p := by rintro rfl; rw [h] at q; cases q
        rcases get_push e with ⟨hi, e⟩ | ⟨_, e⟩
        · rw [List.getElem?_append_left (by rw [← r.len]; exact hi)]
          exact f.2 i e
        · exact absurd e ne⟩ }
    sub := fun a ha => ⟨ha, upd_ne (by rintro rfl; exact r.freshG h ha)⟩
    lk := fun i a c' e1 e2 k => ⟨by rw [List.getElem?_append_left (List.getElem?_eq_some_iff.mp e2).1]; exact e2, ((Go.newO (o := o) r h).h.lk i a c' e1 e2 k).2⟩ }
  g := rfl
theorem RS.newC (r : RS K w cA α s H) {p : Addr} {o : HO} {c : Cell} (h : H p = none) (hc : CellR K w cA (α.push p) (s ++ [c]) (upd H p o) p c) : RS K w cA (α.push p) (s ++ [c]) (upd H p o) where
  len := by show (α.l ++ [p]).length = _; simp [r.len]
  nd := by
    show (α.l ++ [p]).Nodup
    rw [List.nodup_append]
    exact ⟨r.nd, by simp, fun a ha b hb => by
      have : b = p := by simpa using hb
      subst this
      rintro rfl
      exact r.fresh h ha⟩
  cell := fun i a c' e1 e2 => by
    rcases get_push e1 with ⟨hi, e1⟩ | ⟨hi, e1⟩
    · rw [List.getElem?_append_left (by rw [← r.len]; exact hi)] at e2
      exact (Go.newC r h).h.w.cell (r.cell i a c' e1 e2) (by
        obtain ⟨u, q⟩ := r.there e1
        rw [upd_ne (by rintro rfl; rw [h] at q; cases q)])
    · subst e1
      rw [List.getElem?_append_right (by rw [← r.len]; omega), hi, ← r.len, Nat.sub_self] at e2
      cases e2
      exact hc
  hid := fun a ha => ⟨by
    show a ∉ α.l ++ [p]
    rw [List.mem_append]
    rintro (h' | h')
    · exact (r.hid a ha).1 h'
    · have : a = p := by simpa using h'
      subst this
      exact r.freshG h ha, by
    obtain ⟨_, u, q⟩ := r.hid a ha
    exact ⟨u, by rw [upd_ne (by rintro rfl; rw [h] at q; cases q)]; exact q⟩⟩
/-- a live cell written -/
theorem Go.wr (r : RS K w cA α s H) {n : Nat} {a : Addr} {c c' : Cell} {o : HO} (ha : α.l[n]? = some a) (hc : s[n]? = some c) (nd : c ≠ .dead) (nl : lckd c = false) (nt : ∀ o xs, H a ≠ some (.frz o (.tup xs))) : Go α s H α (s.set n c') (upd H a o) where
  h := {
    w := {
      pre := List.prefix_rfl
      tup := fun b o xs q => by rw [upd_ne (by rintro rfl; exact nt o xs q)]; exact q
      fz := fun b u q f => by
        have ne : b ≠ a := by
          rintro rfl
          have z := f.2 n ha
          rw [hc] at z
          exact nd (Option.some.inj z)
        refine ⟨by rw [upd_ne ne]; exact q, f.1, fun i e => ?_⟩
        have hi : n ≠ i := by rintro rfl; rw [ha] at e; exact ne (Option.some.inj e).symm
        rw [List.getElem?_set_ne hi]
        exact f.2 i e }
    sub := fun b hb => ⟨hb, upd_ne (by rintro rfl; exact (r.hid b hb).1 (List.mem_of_getElem? ha))⟩
    lk := fun i b c2 e1 e2 k => by
      have hi : n ≠ i := by rintro rfl; rw [hc] at e2; cases e2; rw [nl] at k; cases k
      have ne : b ≠ a := by rintro rfl; exact hi (r.ix ha e1)
      exact ⟨by rw [List.getElem?_set_ne hi]; exact e2, upd_ne ne⟩ }
  g := rfl
theorem RS.wr (r : RS K w cA α s H) {n : Nat} {a : Addr} {c c' : Cell} {o : HO} (ha : α.l[n]? = some a) (hc : s[n]? = some c) (nd : c ≠ .dead) (nl : lckd c = false) (nt : ∀ o xs, H a ≠ some (.frz o (.tup xs)))
    (h : CellR K w cA α (s.set n c') (upd H a o) a c') : RS K w cA α (s.set n c') (upd H a o) where
  len := by rw [List.length_set]; exact r.len
  nd := r.nd
  cell := fun i b c2 e1 e2 => by
    by_cases hi : n = i
    · subst hi
      rw [ha] at e1; cases e1
      rw [List.getElem?_set_self (List.getElem?_eq_some_iff.mp hc).1] at e2
      cases e2
      exact h
    · rw [List.getElem?_set_ne hi] at e2
      have ne : b ≠ a := by rintro rfl; exact hi (r.ix ha e1)
      exact (Go.wr r ha hc nd nl nt).h.w.cell (r.cell i b c2 e1 e2) (upd_ne ne)
  hid := fun b hb => ⟨(r.hid b hb).1, by
    obtain ⟨np, u, q⟩ := r.hid b hb
    exact ⟨u, by rw [upd_ne (by rintro rfl; exact np (List.mem_of_getElem? ha))]; exact q⟩⟩
/-- a cell's mark alone is turned: to dead, locked -/
theorem Go.mark (r : RS K w cA α s H) {n : Nat} {c c' : Cell} (hc : s[n]? = some c) (nd : c ≠ .dead) (nl : lckd c = false) : Go α s H α (s.set n c') H where
  h := {
    w := {
      pre := List.prefix_rfl
      tup := fun _ _ _ q => q
      fz := fun b u q f => ⟨q, f.1, fun i e => by
        have z := f.2 i e
        have hi : n ≠ i := by rintro rfl; rw [hc] at z; exact nd (Option.some.inj z)
        rw [List.getElem?_set_ne hi]
        exact z⟩ }
    sub := fun b hb => ⟨hb, rfl⟩
    lk := fun i b c2 e1 e2 k => by
      have hi : n ≠ i := by rintro rfl; rw [hc] at e2; cases e2; rw [nl] at k; cases k
      exact ⟨by rw [List.getElem?_set_ne hi]; exact e2, rfl⟩ }
  g := rfl
theorem RS.mark (r : RS K w cA α s H) {n : Nat} {a : Addr} {c c' : Cell} (ha : α.l[n]? = some a) (hc : s[n]? = some c) (gw : Gw α s H α (s.set n c') H)
    (h : CellR K w cA α (s.set n c') H a c') : RS K w cA α (s.set n c') H where
  len := by rw [List.length_set]; exact r.len
  nd := r.nd
  cell := fun i b c2 e1 e2 => by
    by_cases hi : n = i
    · subst hi
      rw [ha] at e1; cases e1
      rw [List.getElem?_set_self (List.getElem?_eq_some_iff.mp hc).1] at e2
      cases e2
      exact h
    · rw [List.getElem?_set_ne hi] at e2
      exact gw.cell (r.cell i b c2 e1 e2) rfl
  hid := r.hid

/-! ### what is being made -/
def Al.hide (α : Al) (p : Addr) : Al := ⟨α.l, p :: α.g⟩
/-- a new object, hidden -/
theorem Gh.hide (r : RS K w cA α s H) {p : Addr} {o : HO} (h : H p = none) : Gh α s H (α.hide p) s (upd H p o) where
  w := {
    pre := List.prefix_rfl
    tup := (Go.newO r h).h.w.tup
    fz := fun a u q f => by
      have ne : a ≠ p := by rintro rfl; rw [h] at q; cases q
      refine ⟨by rw [upd_ne ne]; exact q, ?_, f.2⟩
      show a ∉ p :: α.g
      rw [List.mem_cons]
      rintro (z | z)
      · exact ne z
      · exact f.1 z }
  sub := fun a ha => ⟨List.mem_cons_of_mem _ ha, ((Go.newO (o := o) r h).h.sub a ha).2⟩
  lk := (Go.newO r h).h.lk
theorem RS.hide (r : RS K w cA α s H) {p : Addr} {o : HO} (h : H p = none) : RS K w cA (α.hide p) s (upd H p o) where
  len := r.len
  nd := r.nd
  cell := fun i a c e1 e2 => (Gh.hide r h).w.cell (r.cell i a c e1 e2) (by
    obtain ⟨u, q⟩ := r.there e1
    rw [upd_ne (by rintro rfl; rw [h] at q; cases q)])
  hid := fun a ha => by
    rcases List.mem_cons.mp ha with z | ha
    · subst z
      exact ⟨r.fresh h, o, upd_same⟩
    · obtain ⟨np, u, q⟩ := r.hid a ha
      exact ⟨np, u, by rw [upd_ne (by rintro rfl; rw [h] at q; cases q)]; exact q⟩
/-- what is hidden is written -/
theorem Gw.wrH (r : RS K w cA α s H) {p : Addr} {o : HO} (hp : p ∈ α.g) (nt : ∀ o xs, H p ≠ some (.frz o (.tup xs))) : Gw α s H α s (upd H p o) where
  pre := List.prefix_rfl
  tup := fun b o xs q => by rw [upd_ne (by rintro rfl; exact nt o xs q)]; exact q
  fz := fun b u q f => ⟨by rw [upd_ne (by rintro rfl; exact f.1 hp)]; exact q, f⟩
theorem RS.wrH (r : RS K w cA α s H) {p : Addr} {o : HO} (hp : p ∈ α.g) (nt : ∀ o xs, H p ≠ some (.frz o (.tup xs))) : RS K w cA α s (upd H p o) where
  len := r.len
  nd := r.nd
  cell := fun i a c e1 e2 => (Gw.wrH r hp nt).cell (r.cell i a c e1 e2) (upd_ne (by rintro rfl; exact (r.hid a hp).1 (List.mem_of_getElem? e1)))
  hid := fun a ha => ⟨(r.hid a ha).1, by
    obtain ⟨np, u, q⟩ := r.hid a ha
    by_cases z : a = p
    · subst z; exact ⟨o, upd_same⟩
    · exact ⟨u, by rw [upd_ne z]; exact q⟩⟩
theorem Gh.wrH {α0 : Al} {s0 : Sto} {H0 : Hp} (g : Gh α0 s0 H0 α s H) (r0 : RS K w cA α0 s0 H0) {p : Addr} {o : HO} (h0 : H0 p = none) : Gh α0 s0 H0 α s (upd H p o) where
  w := {
    pre := g.w.pre
    tup := fun b o xs q => by rw [upd_ne (by rintro rfl; rw [h0] at q; cases q)]; exact g.w.tup b o xs q
    fz := fun b u q f => by
      obtain ⟨h1, h2⟩ := g.w.fz b u q f
      exact ⟨by rw [upd_ne (by rintro rfl; rw [h0] at q; cases q)]; exact h1, h2⟩ }
  sub := fun b hb => by
    obtain ⟨h1, h2⟩ := g.sub b hb
    exact ⟨h1, by rw [upd_ne (by rintro rfl; exact r0.freshG h0 hb)]; exact h2⟩
  lk := fun i b c e1 e2 k => by
    obtain ⟨h1, h2⟩ := g.lk i b c e1 e2 k
    obtain ⟨u, q⟩ := r0.there e1
    exact ⟨h1, by rw [upd_ne (by rintro rfl; rw [h0] at q; cases q)]; exact h2⟩
/-- what was made is shown -/
def Al.show (α : Al) (g : List Addr) : Al := ⟨α.l, g⟩
theorem Gw.unhide {p : Addr} {g : List Addr} (e : α.g = p :: g) : Gw α s H (α.show g) s H where
  pre := List.prefix_rfl
  tup := fun _ _ _ q => q
  fz := fun a u q f => ⟨q, fun z => f.1 (by rw [e]; exact List.mem_cons_of_mem _ z), f.2⟩
theorem RS.unhide (r : RS K w cA α s H) {p : Addr} {g : List Addr} (e : α.g = p :: g) : RS K w cA (α.show g) s H where
  len := r.len
  nd := r.nd
  cell := fun i a c e1 e2 => (Gw.unhide e).cell (r.cell i a c e1 e2) rfl
  hid := fun a ha => r.hid a (by rw [e]; exact List.mem_cons_of_mem _ ha)
theorem Gh.unhide {α0 : Al} {s0 : Sto} {H0 : Hp} (g : Gh α0 s0 H0 α s H) {p : Addr} (e : α.g = p :: α0.g) : Go α0 s0 H0 (α.show α0.g) s H where
  h := {
    w := g.w.trans (Gw.unhide e)
    sub := fun a ha => ⟨ha, (g.sub a ha).2⟩
    lk := g.lk }
  g := rfl
end
end DL
end

section
set_option Elab.async false
set_option linter.all false
set_option maxRecDepth 100000
set_option maxHeartbeats 4000000
/-! DL, part d: readings that say what the evaluator says; operators. -/
namespace DL
open PySem PySem.Spec PyProof.Rows L2

section
variable (K : PySem.W.Frag) (w : World) (cA : Nat → Addr)
/-- what is wanted behind a step that gives d and the store s' -/
def Post (α : Al) (s : Sto) (H : Hp) (s' : Sto) (d : D) (Q : VK) : Prop := ∀ α' H' v, Go α s H α' s' H' → RS K w cA α' s' H' → Rp K w α' s' H' d v → Q v H'
def tE (f : Rho → Sto → Res D) : TE := fun σ H Q => ∃ α s ρ d s', RS K w cA α s H ∧ REnv K w α s H ρ σ ∧ f ρ s = some (d, s') ∧ Post K w cA α s H s' d Q
def tL (f : Rho → Sto → Res (List D)) : TA := fun σ H Q => ∃ α s ρ ds s', RS K w cA α s H ∧ REnv K w α s H ρ σ ∧ f ρ s = some (ds, s') ∧
  ∀ α' H' vs, Go α s H α' s' H' → RS K w cA α' s' H' → RpL K w α' s' H' ds vs → Q vs H'
def tT (f : Rho → Sto → Res D) : TT := fun σ H Q => ∃ α s ρ b s', RS K w cA α s H ∧ REnv K w α s H ρ σ ∧ f ρ s = some (.bool b, s') ∧
  ∀ α' H', Go α s H α' s' H' → RS K w cA α' s' H' → Q b H'
/-- by values -/
def r2 (g : D → D → Sto → Res D) : R2 := fun x y H Q => ∃ α s a b d s', RS K w cA α s H ∧ Rp K w α s H a x ∧ Rp K w α s H b y ∧ g a b s = some (d, s') ∧ Post K w cA α s H s' d Q
def r1 (g : D → Sto → Res D) : V → Hp → VK → Prop := fun x H Q => ∃ α s a d s', RS K w cA α s H ∧ Rp K w α s H a x ∧ g a s = some (d, s') ∧ Post K w cA α s H s' d Q
def rL (g : List D → Sto → Res D) : List V → Hp → VK → Prop := fun xs H Q => ∃ α s as d s', RS K w cA α s H ∧ RpL K w α s H as xs ∧ g as s = some (d, s') ∧ Post K w cA α s H s' d Q
def rML (g : D → List D → Sto → Res D) : V → List V → Hp → VK → Prop := fun x xs H Q => ∃ α s a as d s', RS K w cA α s H ∧ Rp K w α s H a x ∧ RpL K w α s H as xs ∧ g a as s = some (d, s') ∧ Post K w cA α s H s' d Q
end
section
variable {X : Cx} {K : PySem.W.Frag} {w : World} {cA : Nat → Addr} {a b : Expr} {fa fb ft : Rho → Sto → Res D} {pos : Pos}
theorem PE.weak {e : Expr} {t t' : TE} (h : PE X e t) (q : ∀ σ H Q, t' σ H Q → t σ H Q) : PE X e t' := ⟨fun pins s σ H Q I hw => h.run pins s σ H Q I (q σ H Q hw)⟩
theorem PT.weak {e : Expr} {t t' : TT} (h : PT X e t) (q : ∀ σ H Q, t' σ H Q → t σ H Q) : PT X e t' := ⟨fun pins s σ H Q I hw => h.run pins s σ H Q I (q σ H Q hw)⟩
theorem PA.weak {e : List Expr} {t t' : TA} (h : PA X e t) (q : ∀ σ H Q, t' σ H Q → t σ H Q) : PA X e t' := ⟨fun pos pins s σ H Q I hw => h.run pos pins s σ H Q I (q σ H Q hw)⟩
theorem PS.weak {e : Stmt} {t t' : TS} (h : PS X e t) (q : ∀ D σ H, t' D σ H → t D σ H) : PS X e t' := ⟨fun pins s σ H D I hw => h.run pins s σ H D I (q D σ H hw)⟩
theorem PSs.weak {e : List Stmt} {t t' : TS} (h : PSs X e t) (q : ∀ D σ H, t' D σ H → t D σ H) : PSs X e t' := ⟨fun pins s σ H D I hw => h.run pins s σ H D I (q D σ H hw)⟩
theorem OpR.weak {f : Value → Value → Sem Value} {r r' : R2} (h : OpR X f r) (q : ∀ x y H Q, r' x y H Q → r x y H Q) : OpR X f r' := fun pins s σ H x y v u Q I rx ry hw => h pins s σ H x y v u Q I rx ry (q _ _ _ _ hw)
theorem CallR.weak {f : Value} {r r' : List V → Hp → VK → Prop} (h : CallR X f r) (q : ∀ xs H Q, r' xs H Q → r xs H Q) : CallR X f r' := fun pins s σ H xs us Q I rx hw => h pins s σ H xs us Q I rx (q _ _ _ hw)
theorem CallR.alt {f : Value} {r : List V → Hp → VK → Prop} {ι : Sort _} {p : ι → List V → Hp → VK → Prop} (h : ∀ i, CallR X f (p i)) (q : ∀ xs H Q, r xs H Q → ∃ i, p i xs H Q) : CallR X f r := fun pins s σ H xs us Q I rx hw =>
  let ⟨i, hi⟩ := q _ _ _ hw; h i pins s σ H xs us Q I rx hi
theorem OpR.alt {f : Value → Value → Sem Value} {r : R2} {ι : Sort _} {p : ι → R2} (h : ∀ i, OpR X f (p i)) (q : ∀ x y H Q, r x y H Q → ∃ i, p i x y H Q) : OpR X f r := fun pins s σ H x y v u Q I rx ry hw =>
  let ⟨i, hi⟩ := q _ _ _ _ hw; h i pins s σ H x y v u Q I rx ry hi

/-! ### in a row -/
theorem tE_bnd {f : Rho → Sto → Res D} {g : Rho → D → Sto → Res D} {σ : L2.St} {H : Hp} {Q : VK} (h : tE K w cA (fun ρ s => bnd (f ρ s) (g ρ)) σ H Q) :
    tE K w cA f σ H fun x H1 => ∃ α s ρ a d s', RS K w cA α s H1 ∧ REnv K w α s H1 ρ σ ∧ Rp K w α s H1 a x ∧ g ρ a s = some (d, s') ∧ Post K w cA α s H1 s' d Q := by
  obtain ⟨α, s, ρ, d, s', R, E, e, P⟩ := h
  obtain ⟨x, s1, e1, e2⟩ := bnd_some e
  exact ⟨α, s, ρ, x, s1, R, E, e1, fun α1 H1 v1 G1 R1 r1 => ⟨α1, s1, ρ, x, d, s', R1, G1.env E, r1, e2, fun α2 H2 v2 G2 R2 q => P α2 H2 v2 (G1.trans G2) R2 q⟩⟩
theorem tE_two {g : D → D → Sto → Res D} {σ : L2.St} {H : Hp} {Q : VK} (h : tE K w cA (fun ρ s => bnd (fa ρ s) fun x s1 => bnd (fb ρ s1) fun y s2 => g x y s2) σ H Q) :
    tOp (r2 K w cA g) (tE K w cA fa) (tE K w cA fb) σ H Q := by
  obtain ⟨α, s, ρ, d, s', R, E, e, P⟩ := h
  obtain ⟨x, s1, e1, e2⟩ := bnd_some e
  obtain ⟨y, s2, e3, e4⟩ := bnd_some e2
  refine ⟨α, s, ρ, x, s1, R, E, e1, fun α1 H1 v1 G1 R1 q1 => ⟨α1, s1, ρ, y, s2, R1, G1.env E, e3, fun α2 H2 v2 G2 R2 q2 => ⟨α2, s2, x, y, d, s', R2, G2.rp _ _ q1, q2, e4, fun α3 H3 v3 G3 R3 q3 => P α3 H3 v3 ((G1.trans G2).trans G3) R3 q3⟩⟩⟩
theorem tE_one {g : D → Sto → Res D} {σ : L2.St} {H : Hp} {Q : VK} (h : tE K w cA (fun ρ s => bnd (fa ρ s) fun x s1 => g x s1) σ H Q) : tUn (r1 K w cA g) (tE K w cA fa) σ H Q := by
  obtain ⟨α, s, ρ, d, s', R, E, e, P⟩ := h
  obtain ⟨x, s1, e1, e2⟩ := bnd_some e
  exact ⟨α, s, ρ, x, s1, R, E, e1, fun α1 H1 v1 G1 R1 q1 => ⟨α1, s1, x, d, s', R1, q1, e2, fun α3 H3 v3 G3 R3 q3 => P α3 H3 v3 (G1.trans G3) R3 q3⟩⟩
theorem tE_list {fl : Rho → Sto → Res (List D)} {g : List D → Sto → Res D} {σ : L2.St} {H : Hp} {Q : VK} (h : tE K w cA (fun ρ s => bnd (fl ρ s) fun x s1 => g x s1) σ H Q) : tCB (rL K w cA g) (tL K w cA fl) σ H Q := by
  obtain ⟨α, s, ρ, d, s', R, E, e, P⟩ := h
  obtain ⟨x, s1, e1, e2⟩ := bnd_some e
  exact ⟨α, s, ρ, x, s1, R, E, e1, fun α1 H1 v1 G1 R1 q1 => ⟨α1, s1, x, d, s', R1, q1, e2, fun α3 H3 v3 G3 R3 q3 => P α3 H3 v3 (G1.trans G3) R3 q3⟩⟩
/-- an argument list -/
theorem pa_nilD : PA X [] (tL K w cA fun _ s => some ([], s)) := PA.weak pa_nil fun σ H Q ⟨α, s, ρ, ds, s', R, E, e, P⟩ => by
  cases e
  exact P α H [] .refl R .nil
theorem pa_consD {e : Expr} {es : List Expr} {f : Rho → Sto → Res D} {fl : Rho → Sto → Res (List D)} (he : PE X e (tE K w cA f)) (hes : PA X es (tL K w cA fl)) (hs : starEach (e :: es) X.env = (false, eval e X.env) :: starEach es X.env) :
    PA X (e :: es) (tL K w cA fun ρ s => bnd (f ρ s) fun x s1 => bnd (fl ρ s1) fun xs s2 => some (x :: xs, s2)) := PA.weak (pa_cons he hes hs) fun σ H Q ⟨α, s, ρ, ds, s', R, E, e, P⟩ => by
  obtain ⟨x, s1, e1, e2⟩ := bnd_some e
  obtain ⟨xs, s2, e3, e4⟩ := bnd_some e2
  cases e4
  exact ⟨α, s, ρ, x, s1, R, E, e1, fun α1 H1 v1 G1 R1 q1 => ⟨α1, s1, ρ, xs, s', R1, G1.env E, e3, fun α2 H2 vs G2 R2 q2 => P α2 H2 (v1 :: vs) (G1.trans G2) R2 (.cons (G2.rp _ _ q1) q2)⟩⟩

/-! ### names, constants -/
theorem frozen_ok {α : Al} {s s' : Sto} {H : Hp} {d0 d : D} {v : V} (R : RS K w cA α s H) (rv : Rp K w α s H d0 v) (e : frozen d0 s = some (d, s')) : Go α s H α s' H ∧ RS K w cA α s' H ∧ Rp K w α s' H d v := by
  have same : some (d0, s) = some (d, s') → Go α s H α s' H ∧ RS K w cA α s' H ∧ Rp K w α s' H d v := fun e => by
    cases e
    exact ⟨.refl, R, rv⟩
  cases d0 with
  | ref n =>
    cases rv with
    | @ref _ a ha =>
      unfold frozen at e
      dsimp only at e
      split at e
      · rename_i xs hs
        cases e
        have c := R.cell n a _ ha hs
        have G : Go α s H α (s.set n .dead) H := Go.mark R hs (by intro z; cases z) rfl
        have R' : RS K w cA α (s.set n .dead) H := RS.mark R ha hs G.h.w (.dead (R.there ha).choose_spec)
        refine ⟨G, R', ?_⟩
        cases c with
        | lst h1 h2 => exact .lst (.inl h1) ⟨R.noG ha, fun j e => by
            have : j = n := R.ix e ha
            subst this
            rw [List.getElem?_set_self (List.getElem?_eq_some_iff.mp hs).1]⟩ (G.rpL _ _ h2)
      · rename_i ks vs hs
        cases e
        have c := R.cell n a _ ha hs
        have G : Go α s H α (s.set n .dead) H := Go.mark R hs (by intro z; cases z) rfl
        have R' : RS K w cA α (s.set n .dead) H := RS.mark R ha hs G.h.w (.dead (R.there ha).choose_spec)
        refine ⟨G, R', ?_⟩
        cases c with
        | dct h1 h2 h3 h4 h5 h6 => exact .dct h1 ⟨R.noG ha, fun j e => by
            have : j = n := R.ix e ha
            subst this
            rw [List.getElem?_set_self (List.getElem?_eq_some_iff.mp hs).1]⟩ h2 h3 (G.ents _ _ h4) (G.rpL _ _ h5) h6
      · cases e
  | _ => exact same e
theorem pe_varD {i : Nat} {x : Str} (hN : X.N[i]? = some x) (hv : Vis X.env.scope x) (hd : (x == ("__debug__" : Str)) = false) (hcd : (x == ("__classdict__" : Str)) = false) (fz : Bool) :
    PE X (.Name x pos) (tE K w cA fun ρ s => match ρ[i]? with
      | some (some d) => if fz then frozen d s else some (d, s)
      | _ => Option.none) := PE.weak (pe_var hN hv hd hcd) fun σ H Q ⟨α, s, ρ, d, s', R, E, e, P⟩ => by
  dsimp only at e
  cases hi : ρ[i]? with
  | none => rw [hi] at e; cases e
  | some o =>
    cases o with
    | none => rw [hi] at e; cases e
    | some d0 =>
      rw [hi] at e
      obtain ⟨v, ev, rv⟩ := E.2 i d0 hi
      refine ⟨v, ev, ?_⟩
      cases fz with
      | false =>
        have e : some (d0, s) = some (d, s') := e
        cases e
        exact P α H v .refl R rv
      | true =>
        obtain ⟨G, R', r'⟩ := frozen_ok R rv (show frozen d0 s = some (d, s') from e)
        exact P α H v G R' r'
theorem pe_constD {e : Expr} {d : D} {v : V} (h : PE X e (tC v)) (r : ∀ α s H, Rp K w α s H d v) : PE X e (tE K w cA fun _ s => some (d, s)) := PE.weak h fun σ H Q ⟨α, s, ρ, d', s', R, E, e, P⟩ => by
  cases e
  exact P α H v .refl R (r α _ H)
end
end DL
end

section
set_option Elab.async false
set_option linter.all false
set_option maxRecDepth 100000
set_option maxHeartbeats 4000000
/-! DL, part dx: new tuples, their objects known. -/
namespace DL
open PySem PySem.Spec PyProof.Rows L2
/-- a new tuple's object -/
def tupOb (its : List Value) : Obj := { cls := .type "tuple", data := .seq its.toArray }
/-- .. tracked -/
def tupX (its : List Value) (xs : List V) : HO := .frz (tupOb its) (.tup xs)
section
variable {X : Cx} {pins : List (Addr × Obj)} {σ : L2.St} {s : Shared} {H : Hp}
theorem inv_tup {its : List Value} {xs : List V} {t' : Nat} (I : Inv X pins σ H s) (r : Vals xs its) (hz : xs.length ≤ sizeLine) : Inv X pins σ (upd H s.heap.objs.size (tupX its xs)) { s with heap := s.heap.push (tupOb its), toks := t' } :=
  I.laid (t' := t') (o := tupX its xs) (fun b ob q => Heap.get?_push_of_some _ q) (Nat.le_refl _) ⟨Heap.get?_push_size _ rfl, hz, its, r, IsTup.new _ _⟩
/-- t + u -/
def rCatX (K : PySem.W.Frag) : R2 := fun x y H Q => ∃ a b xs ys, x = .ref a ∧ y = .ref b ∧ SqT K H a xs ∧ SqT K H b ys ∧ xs.length + ys.length ≤ sizeLine ∧
  (xs = [] → Q (.ref b) H) ∧ (xs ≠ [] → ys = [] → Q (.ref a) H) ∧ (xs ≠ [] → ys ≠ [] → ∀ p its, H p = none → Q (.ref p) (upd H p (tupX its (xs ++ ys))))
theorem op_catX : OpR X (binaryOp .Add) (rCatX X.K) := by
  intro pins s σ H x y v u Q I rx ry h
  obtain ⟨a, b, xs, ys, rfl, rfl, ha, hb, hz, q0, q1, q2⟩ := h
  obtain rfl : v = Value.ref a := rx
  obtain rfl : u = Value.ref b := ry
  obtain ⟨its, r1, p1, _⟩ := I.tuple ha
  obtain ⟨its2, r2, p2, _⟩ := I.tuple hb
  by_cases hx : xs = []
  · subst hx
    cases r1
    exact cat_tup0 p1 p2 ⟨.ref b, H, I, rfl, q0 rfl⟩
  · refine HT.cat_tup p1 p2 (fun z => hx (r1.nil_iff.mp z)) (fun z => ⟨.ref a, H, I, rfl, q1 hx (r2.nil_iff.mp z)⟩) (fun z => ?_) (by rw [← r1.length, ← r2.length]; exact hz)
    exact ⟨.ref _, _, inv_tup (t' := s.toks) I (r1.append r2) (by rw [List.length_append]; exact hz), rfl, q2 hx (fun e => z (r2.nil_iff.mpr e)) _ _ I.fresh⟩
/-- tuple(xs) -/
theorem call_tupleX : CallR X (.type "tuple") (fun xs H Q => ∃ p ys, xs = [.ref p] ∧ ((SqL X.K H p ys ∧ ∀ l its, H l = none → Q (.ref l) (upd H l (tupX its ys))) ∨ (SqT X.K H p ys ∧ Q (.ref p) H))) := by
  intro pins s σ H xs us Q I r h
  obtain ⟨p, ys, rfl, h⟩ := h
  rw [Vals.ref1 r]
  rcases h with ⟨hq, q⟩ | ⟨hq, q⟩
  · obtain ⟨its, r', pl, hz⟩ := I.list hq
    have hlen := r'.length
    refine call_tuple_list pl.isList (fun h' kp => ?_) (by simp only [List.size_toArray] <;> omega)
    have I1 : Inv X pins σ H { s with heap := h' } := I.kept (t' := s.toks) kp
    exact ⟨.ref h'.objs.size, _, inv_tup (t' := s.toks) I1 r' hz, rfl, q _ _ (I1.hok.fresh (Nat.le_refl _))⟩
  · obtain ⟨its, r', pl, hz⟩ := I.tuple hq
    exact call_tuple_same pl ⟨.ref p, H, I, rfl, q⟩
/-- (e, ..) -/
def tTupX (t : TA) : TE := fun σ H Q => t σ H fun xs H1 => xs.length ≤ sizeLine ∧ ∀ p its, H1 p = none → Q (.ref p) (upd H1 p (tupX its xs))
theorem pe_tupX {es : List Expr} {t : TA} {k : Nat} {pos : Pos} (h : PA X es t) : PE X (.Tuple es k pos) (tTupX t) := by
  refine ⟨fun pins s σ H Q I hq => ?_⟩
  refine wpAny_Tuple_spliced (thn (h.run pos pins s σ H _ I hq) fun us s1 ⟨xs, H1, I1, r, z, q⟩ => ⟨by rw [← r.length]; exact z, ?_⟩)
  exact ⟨.ref _, _, inv_tup (t' := s1.toks) I1 r z, rfl, q _ _ I1.fresh⟩
/-- t[lo:hi] -/
def rSlX (K : PySem.W.Frag) : V → Option Int → Option Int → Hp → VK → Prop := fun x lo hi H Q => ∃ a xs, x = .ref a ∧ SqT K H a xs ∧
  (HT.sIx xs.length 0 lo = 0 ∧ HT.sIx xs.length xs.length hi = xs.length → Q (.ref a) H) ∧ (¬ (HT.sIx xs.length 0 lo = 0 ∧ HT.sIx xs.length xs.length hi = xs.length) → ∀ p its, H p = none → Q (.ref p) (upd H p (tupX its (cutV xs lo hi))))
theorem sl_tupX : SlR X (rSlX X.K) := by
  intro pins s σ H x v vl vu lo hi sl Q I rx hs pl pu h
  obtain ⟨a, xs, rfl, hx, q1, q2⟩ := h
  obtain rfl : v = Value.ref a := rx
  obtain ⟨its, r, ht, hz⟩ := I.tuple hx
  have hlen : its.toArray.size = xs.length := by rw [List.size_toArray]; exact r.length.symm
  refine ⟨"tuple", _, PyProof.Rows.slot_tuple_getitem.lookup, ht.typeIs, ?_⟩
  by_cases hw : HT.sIx xs.length 0 lo = 0 ∧ HT.sIx xs.length xs.length hi = xs.length
  · exact getItem_tuple_whole ht hs pl pu (by rw [hlen]; exact hw) ⟨.ref a, H, I, rfl, q1 hw⟩
  · refine HT.getItem_tuple_cut ht hs pl pu (by rw [hlen]; exact hw) ?_ (by rw [hlen]; exact hz)
    rw [hlen]
    exact ⟨.ref _, _, inv_tup (t' := s.toks) I ((r.drop (HT.sIx xs.length 0 lo)).take (HT.sIx xs.length xs.length hi - HT.sIx xs.length 0 lo)) (Nat.le_trans (cutV_length xs lo hi) hz), rfl, q2 hw _ _ I.fresh⟩
end
end DL
end

section
set_option Elab.async false
set_option linter.all false
set_option maxRecDepth 100000
set_option maxHeartbeats 4000000
/-! DL, part e: operators on data. -/
namespace DL
open PySem PySem.Spec PyProof.Rows L2

section
variable {K : PySem.W.Frag} {w : World} {cA : Nat → Addr} {α : Al} {s s' : Sto} {H : Hp} {a : D} {x : V}
/-! ### what a value is, by its tree -/
theorem top_own (h : ∀ n, a ≠ .ref n) : top s a = a := by
  cases a with
  | ref n => exact absurd rfl (h n)
  | _ => rfl
theorem top_tup {ds : List D} (r : Rp K w α s H a x) (e : top s a = .tup ds) : ∃ p vs, x = .ref p ∧ SqX K H p vs ∧ RpL K w α s H ds vs := by
  cases a with
  | ref n =>
    unfold top at e
    dsimp only at e
    split at e <;> cases e
  | tup xs =>
    cases e
    cases r with
    | tup h1 h2 => exact ⟨_, _, rfl, h1, h2⟩
  | _ => cases e
theorem top_int {i : Int} (r : Rp K w α s H a x) (e : top s a = .int i) : x = .int i := by
  cases a with
  | ref n =>
    unfold top at e
    dsimp only at e
    split at e <;> cases e
  | int j =>
    cases e
    cases r
    rfl
  | _ => cases e
theorem top_str {i : Str} (r : Rp K w α s H a x) (e : top s a = .str i) : x = .str i := by
  cases a with
  | ref n =>
    unfold top at e
    dsimp only at e
    split at e <;> cases e
  | str j =>
    cases e
    cases r
    rfl
  | _ => cases e
theorem top_lst {ds : List D} (R : RS K w cA α s H) (r : Rp K w α s H a x) (e : top s a = .lst ds) : ∃ p vs, x = .ref p ∧ Rd H p (.lst vs) ∧ RpL K w α s H ds vs := by
  cases a with
  | ref n =>
    cases r with
    | @ref _ p hp =>
      unfold top at e
      dsimp only at e
      split at e
      · rename_i xs hs
        cases e
        cases R.cell n p _ hp hs with
        | lst h1 h2 => exact ⟨p, _, rfl, .inl h1, h2⟩
      · rename_i xs hs
        cases e
        cases R.cell n p _ hp hs with
        | lkl h1 h2 => exact ⟨p, _, rfl, .inl h1, h2⟩
      · cases e
      · cases e
      · cases e
  | lst xs =>
    cases e
    cases r with
    | lst h1 h2 h3 => exact ⟨_, _, rfl, h1, h3⟩
  | _ => cases e
theorem top_dct {ks vs : List D} (R : RS K w cA α s H) (r : Rp K w α s H a x) (e : top s a = .dct ks vs) : ∃ (p : Addr) (es : Array DictEntry) (ep : Nat) (us : List V), x = .ref p ∧ H p = some (rawO p es ep) ∧ (p == sysModules) = false ∧ KeysGood ks ∧
    Ents K w α s H ks es.toList ∧ RpL K w α s H vs us ∧ Vals us (es.toList.map (·.val)) := by
  cases a with
  | ref n =>
    cases r with
    | @ref _ p hp =>
      unfold top at e
      dsimp only at e
      split at e
      · cases e
      · cases e
      · rename_i hs
        cases e
        cases R.cell n p _ hp hs with
        | dct h1 h2 h3 h4 h5 h6 => exact ⟨p, _, _, _, rfl, h1, h2, h3, h4, h5, h6⟩
      · rename_i hs
        cases e
        cases R.cell n p _ hp hs with
        | lkd h1 h2 h3 h4 h5 h6 => exact ⟨p, _, _, _, rfl, h1, h2, h3, h4, h5, h6⟩
      · cases e
  | dct ks' vs' =>
    cases e
    cases r with
    | dct h1 h2 h3 h4 h5 h6 h7 => exact ⟨_, _, _, _, rfl, h1, h3, h4, h5, h6, h7⟩
  | _ => cases e
theorem RpL.length : ∀ {ds : List D} {vs : List V}, RpL K w α s H ds vs → ds.length = vs.length
  | [], _, h => by cases h; rfl
  | _ :: ds, _, h => by
    cases h with
    | cons _ t => simp [RpL.length t]
theorem RpL.append : ∀ {ds es : List D} {vs us : List V}, RpL K w α s H ds vs → RpL K w α s H es us → RpL K w α s H (ds ++ es) (vs ++ us)
  | [], _, _, _, h, g => by cases h; exact g
  | _ :: ds, _, _, _, h, g => by
    cases h with
    | cons h1 t => exact .cons h1 (RpL.append t g)
theorem RpL.get : ∀ {ds : List D} {vs : List V} {i : Nat} {d : D}, RpL K w α s H ds vs → ds[i]? = some d → ∃ v, vs[i]? = some v ∧ Rp K w α s H d v
  | [], _, i, d, h, e => by simp at e
  | d0 :: ds, _, 0, d, h, e => by
    cases h with
    | cons h1 t => cases e; exact ⟨_, rfl, h1⟩
  | d0 :: ds, _, i + 1, d, h, e => by
    cases h with
    | cons h1 t =>
      obtain ⟨v, e1, r⟩ := RpL.get (i := i) (d := d) t (by simpa using e)
      exact ⟨v, by simpa using e1, r⟩
theorem RpL.get' : ∀ {ds : List D} {vs : List V} {i : Nat} {v : V}, RpL K w α s H ds vs → vs[i]? = some v → ∃ d, ds[i]? = some d ∧ Rp K w α s H d v
  | [], _, i, v, h, e => by cases h; simp at e
  | d0 :: ds, _, 0, v, h, e => by
    cases h with
    | cons h1 t => cases e; exact ⟨_, rfl, h1⟩
  | d0 :: ds, _, i + 1, v, h, e => by
    cases h with
    | cons h1 t =>
      obtain ⟨d, e1, r⟩ := RpL.get' (i := i) (v := v) t (by simpa using e)
      exact ⟨d, by simpa using e1, r⟩
theorem RpL.reps {ds : List D} {vs : List V} (h : RpL K w α s H ds vs) : ∀ n : Nat, RpL K w α s H (reps n ds) (List.replicate n vs).flatten
  | 0 => .nil
  | n + 1 => by
    show RpL K w α s H (ds ++ DL.reps n ds) _
    rw [List.replicate_succ, List.flatten_cons]
    exact h.append (RpL.reps h n)
theorem RpL.take : ∀ {ds : List D} {vs : List V} (n : Nat), RpL K w α s H ds vs → RpL K w α s H (ds.take n) (vs.take n)
  | _, _, 0, _ => .nil
  | [], _, n + 1, h => by cases h; exact .nil
  | _ :: _, _, n + 1, h => by
    cases h with
    | cons h1 t => exact .cons h1 (RpL.take n t)
theorem RpL.drop : ∀ {ds : List D} {vs : List V} (n : Nat), RpL K w α s H ds vs → RpL K w α s H (ds.drop n) (vs.drop n)
  | _, _, 0, h => h
  | [], _, n + 1, h => by cases h; exact .nil
  | _ :: _, _, n + 1, h => by
    cases h with
    | cons h1 t => exact RpL.drop n t
theorem RpL.reverse {ds : List D} {vs : List V} (h : RpL K w α s H ds vs) : RpL K w α s H ds.reverse vs.reverse := by
  induction ds generalizing vs with
  | nil => cases h; exact .nil
  | cons d ds ih =>
    cases h with
    | cons h1 t =>
      rw [List.reverse_cons, List.reverse_cons]
      exact (ih t).append (.cons h1 .nil)
theorem RpL.dropLast {ds : List D} {vs : List V} (h : RpL K w α s H ds vs) : RpL K w α s H ds.dropLast vs.dropLast := by
  rw [List.dropLast_eq_take, List.dropLast_eq_take, h.length]
  exact h.take _
theorem RpL.set : ∀ {ds : List D} {vs : List V} {d : D} {v : V}, RpL K w α s H ds vs → Rp K w α s H d v → ∀ i : Nat, RpL K w α s H (ds.set i d) (vs.set i v)
  | [], _, _, _, h, _, i => by cases h; exact .nil
  | _ :: _, _, _, _, h, r, 0 => by
    cases h with
    | cons h1 t => exact .cons r t
  | _ :: _, _, _, _, h, r, i + 1 => by
    cases h with
    | cons h1 t => exact .cons h1 (RpL.set t r i)

/-! ### new things -/
theorem laid_lst {ds : List D} {vs : List V} {p : Addr} (R : RS K w cA α s H) (h : H p = none) (r : RpL K w α s H ds vs) (c : Bool) :
    ∃ α', Go α s H α' (laid c (.lst ds) s).2 (upd H p (.lst vs)) ∧ RS K w cA α' (laid c (.lst ds) s).2 (upd H p (.lst vs)) ∧ Rp K w α' (laid c (.lst ds) s).2 (upd H p (.lst vs)) (laid c (.lst ds) s).1 (.ref p) := by
  cases c with
  | false =>
    have G : Go α s H α s (upd H p (.lst vs)) := Go.newO R h
    exact ⟨α, G, RS.newO R h, .lst (.inl upd_same) (RS.fzNew R h) (G.rpL _ _ r)⟩
  | true =>
    have G : Go α s H (α.push p) (s ++ [.lst ds]) (upd H p (.lst vs)) := Go.newC R h
    refine ⟨α.push p, G, RS.newC R h (.lst upd_same (G.rpL _ _ r)), .ref ?_⟩
    rw [← R.len]
    exact push_last α p
theorem laid_dct {ks ds : List D} {us : List V} {es : Array DictEntry} {ep : Nat} {p : Addr} (R : RS K w cA α s H) (h : H p = none) (sy : (p == sysModules) = false) (kg : KeysGood ks) (en : Ents K w α s H ks es.toList) (r : RpL K w α s H ds us) (vl : Vals us (es.toList.map (·.val))) (c : Bool) :
    ∃ α', Go α s H α' (laid c (.dct ks ds) s).2 (upd H p (rawO p es ep)) ∧ RS K w cA α' (laid c (.dct ks ds) s).2 (upd H p (rawO p es ep)) ∧ Rp K w α' (laid c (.dct ks ds) s).2 (upd H p (rawO p es ep)) (laid c (.dct ks ds) s).1 (.ref p) := by
  cases c with
  | false =>
    have G : Go α s H α s (upd H p (rawO p es ep)) := Go.newO R h
    exact ⟨α, G, RS.newO R h, .dct upd_same (RS.fzNew R h) sy kg (G.ents _ _ en) (G.rpL _ _ r) vl⟩
  | true =>
    have G : Go α s H (α.push p) (s ++ [.dct ks ds]) (upd H p (rawO p es ep)) := Go.newC R h
    refine ⟨α.push p, G, RS.newC R h (.dct upd_same sy kg (G.ents _ _ en) (G.rpL _ _ r) vl), .ref ?_⟩
    rw [← R.len]
    exact push_last α p
theorem laid_own {d : D} (c : Bool) (h1 : ∀ xs, d ≠ .lst xs) (h2 : ∀ ks vs, d ≠ .dct ks vs) : laid c d s = (d, s) := by
  unfold laid
  cases c with
  | false => rfl
  | true =>
    cases d with
    | lst xs => exact absurd rfl (h1 xs)
    | dct ks vs => exact absurd rfl (h2 ks vs)
    | _ => rfl
theorem new_tup {ds : List D} {vs : List V} {its : List Value} {p : Addr} (R : RS K w cA α s H) (h : H p = none) (r : RpL K w α s H ds vs) :
    Go α s H α s (upd H p (tupX its vs)) ∧ RS K w cA α s (upd H p (tupX its vs)) ∧ Rp K w α s (upd H p (tupX its vs)) (.tup ds) (.ref p) := by
  have G : Go α s H α s (upd H p (tupX its vs)) := Go.newO R h
  exact ⟨G, RS.newO R h, .tup (.inl ⟨tupOb its, upd_same, rfl⟩) (G.rpL _ _ r)⟩
theorem line_le {n : Nat} (h : lineOk n = true) : n ≤ 1000000 := of_decide_eq_true h
theorem line_big {n : Nat} (h : lineOk n = true) : n ≤ sizeLine := Nat.le_trans (line_le h) (by decide)
end

/-! ### lists read wherever they stand -/
section
variable {X : Cx} {pins : List (Addr × Obj)} {σ : L2.St} {H : Hp} {s : Shared}
theorem inv_rdL {l : Addr} {xs : List V} (I : Inv X pins σ H s) (h : Rd H l (.lst xs)) : xs.length ≤ sizeLine ∧ ∃ (its : List Value) (n : Nat), Vals xs its ∧ xs.length = its.length ∧ s.heap.get? l = some { cls := .type "list", data := .seq its.toArray n } := by
  obtain ⟨z, its, n, r, e⟩ := h.ok I.hok
  exact ⟨z, its, n, r, r.length, e⟩
theorem sqL_rd {K : PySem.W.Frag} {l : Addr} {xs : List V} (h : Rd H l (.lst xs)) : SqL K H l xs := .inl h
/-- lists joined, wherever they stand -/
theorem op_catR : OpR X (binaryOp .Add) (fun x y H Q => ∃ l b xs zs, x = .ref l ∧ y = .ref b ∧ Rd H l (.lst xs) ∧ Rd H b (.lst zs) ∧ xs.length + zs.length ≤ sizeLine ∧ ∀ p, H p = none → Q (.ref p) (upd H p (.lst (xs ++ zs)))) := by
  intro pins s σ H x y v u Q I rx ry h
  obtain ⟨l, b, xs, zs, rfl, rfl, hH, hB, hz, q⟩ := h
  cases rx
  cases ry
  obtain ⟨z, its, n, r, hl, e⟩ := inv_rdL I hH
  obtain ⟨z2, its2, n2, r2, hl2, e2⟩ := inv_rdL I hB
  refine PySem.P.add_list e e2 ?_ (by rw [List.size_toArray, List.size_toArray]; omega)
  have ea : its.toArray ++ its2.toArray = (its ++ its2).toArray := by simp
  rw [ea]
  exact ⟨.ref _, _, I.lnew (t' := s.toks) (r.append r2) (by rw [List.length_append]; omega), rfl, q _ I.fresh⟩
/-- a list so often, wherever it stands -/
theorem op_repR : OpR X (binaryOp .Mult) (fun x y H Q => ∃ l k xs, x = .ref l ∧ y = .int k ∧ Rd H l (.lst xs) ∧ -(2 ^ 63) ≤ k ∧ k < 2 ^ 63 ∧ xs.length * k.toNat ≤ sizeLine ∧
    ∀ p, H p = none → Q (.ref p) (upd H p (.lst (List.replicate k.toNat xs).flatten))) := by
  intro pins s σ H x y v u Q I rx ry h
  obtain ⟨l, k, xs, rfl, rfl, hH, h1, h2, hz, q⟩ := h
  cases rx
  obtain ⟨t, rfl⟩ := ry
  obtain ⟨z, its, n, r, hl, e⟩ := inv_rdL I hH
  have hcap : ¬ its.toArray.size * k.toNat > (2 ^ 63 - 1) / 8 := by
    have h5 : (sizeLine : Nat) ≤ (2 ^ 63 - 1) / 8 := by decide
    have h6 : its.toArray.size * k.toNat ≤ sizeLine := by rw [List.size_toArray, ← hl]; exact hz
    omega
  have hfit : ¬ (!Builtin.List.listFitsIndex k) = true := by rw [fitsIndex_both h1 h2]; exact Bool.false_ne_true
  have hlong : ¬ Builtin.List.listTooLong (its.toArray.size * k.toNat) = true := by
    rw [notLongL (by rw [List.size_toArray, ← hl]; exact hz)]
    exact Bool.false_ne_true
  have hnew : List.foldl (fun x1 x2 => x1 ++ x2) #[] (List.replicate (if its.toArray.isEmpty = true then 0 else k.toNat) its.toArray) = (List.replicate k.toNat its).flatten.toArray := by
    have f0 : ∀ m : Nat, List.foldl (fun x1 x2 => x1 ++ x2) #[] (List.replicate m its.toArray) = (List.replicate m its).flatten.toArray := fun m => by
      have h7 := foldl_rep its m []
      rw [List.nil_append] at h7
      exact h7
    rw [f0]
    cases its with
    | nil => simp
    | cons a r' => rw [if_neg (by simp)]
  refine wpAny_binaryOp_repeat_ref (T := "list") (U := "int") (by decide) ⟨_, e, rfl⟩ (fun s' => typeIs_int s' k t) noFill_list_mul F.fills_int_mul F.slot_int_rmul repeat_list F.slot_int_index.lookup
    (call_meets F.slot_int_rmul (typeIs_int s k t) F.entry_int_rmul (F.args_int_rmul_2 _ _) (int___rmul___int_list k t l its.toArray n)
      ⟨e, rfl, ⟨_, e, rfl⟩, call_meets F.slot_list_mul ⟨_, e, rfl⟩ F.entry_list_mul (F.args_list_mul_2 _ _) (AutoListH.list___mul___list_int_3 l its.toArray n k t hfit hcap hlong) ⟨e, ?_⟩⟩)
  rw [hnew]
  exact ⟨.ref _, _, I.lnew (t' := s.toks) (r.rep k.toNat) (by rw [PyProof.Rows.lm_len_rep_flat, Nat.mul_comm]; exact hz), rfl, q _ I.fresh⟩
/-- // by any number but 0, of less than 9000 bits -/
theorem op_fdivD : OpR X (binaryOp .FloorDiv) (rI (fun _ j => j ≠ 0 ∧ j.natAbs.log2 < 9000) fun i j => .int (i.fdiv j)) := opI fun i j _ _ _ _ _ hc q => floordiv_int hc.1 q (.inl (PyProof.noPylong_of_log2 hc.2))
end

section
variable {X : Cx} {w : World} {cA : Nat → Addr}
def pyB : BOp → Operator
  | .add => .Add | .sub => .Sub | .mul => .Mult | .fdiv => .FloorDiv | .mod => .Mod | .pow => .Pow
theorem reps_length (ds : List D) : ∀ n : Nat, (reps n ds).length = n * ds.length
  | 0 => by simp [reps]
  | n + 1 => by rw [reps, List.length_append, reps_length ds n, Nat.succ_mul, Nat.add_comm]
theorem op_bin (op : BOp) (c : Bool) : OpR X (binaryOp (pyB op)) (r2 X.K w cA (gBin op c)) := by
  intro pins s σ H x y v u Q I rx ry h
  obtain ⟨α, st, a, b, d, st', R, ra, rb, e, P⟩ := h
  unfold gBin at e
  cases ha : top st a with
  | int i =>
    have hx := top_int ra ha
    cases hb : top st b with
    | int j =>
      have hy := top_int rb hb
      subst hx hy
      rw [ha, hb] at e
      cases op with
      | add =>
        have e : some (laid c (.int (i + j)) st) = some (d, st') := e
        rw [laid_own c (by intro _ z; cases z) (by intro _ _ z; cases z)] at e
        cases e
        exact op_add pins s σ H _ _ v u Q I rx ry ⟨i, j, rfl, rfl, P α H _ .refl R (.int _)⟩
      | sub =>
        have e : some (laid c (.int (i - j)) st) = some (d, st') := e
        rw [laid_own c (by intro _ z; cases z) (by intro _ _ z; cases z)] at e
        cases e
        exact op_sub pins s σ H _ _ v u Q I rx ry ⟨i, j, rfl, rfl, P α H _ .refl R (.int _)⟩
      | mul =>
        dsimp only [binD] at e
        by_cases hc : (wideOk i && wideOk j) = true
        · rw [if_pos hc] at e
          dsimp only at e
          rw [laid_own c (by intro _ z; cases z) (by intro _ _ z; cases z)] at e
          cases e
          rw [Bool.and_eq_true] at hc
          have h1 := of_decide_eq_true hc.1
          have h2 := of_decide_eq_true hc.2
          exact op_mulW pins s σ H _ _ v u Q I rx ry ⟨i, j, rfl, rfl, (by unfold CMulW; omega), P α H _ .refl R (.int _)⟩
        · rw [if_neg hc] at e; cases e
      | fdiv =>
        dsimp only [binD] at e
        by_cases hc : j ≠ 0 ∧ j.natAbs.log2 < 9000
        · rw [if_pos hc] at e
          dsimp only at e
          rw [laid_own c (by intro _ z; cases z) (by intro _ _ z; cases z)] at e
          cases e
          exact op_fdivD pins s σ H _ _ v u Q I rx ry ⟨i, j, rfl, rfl, hc, P α H _ .refl R (.int _)⟩
        · rw [if_neg hc] at e; cases e
      | mod =>
        dsimp only [binD] at e
        by_cases hc : j ≠ 0
        · rw [if_pos hc] at e
          dsimp only at e
          rw [laid_own c (by intro _ z; cases z) (by intro _ _ z; cases z)] at e
          cases e
          exact op_modN pins s σ H _ _ v u Q I rx ry ⟨i, j, rfl, rfl, hc, P α H _ .refl R (.int _)⟩
        · rw [if_neg hc] at e; cases e
      | pow =>
        dsimp only [binD] at e
        by_cases hc : 0 ≤ j ∧ j ≤ 100 ∧ i.natAbs < 2 ^ 64
        · rw [if_pos hc] at e
          dsimp only at e
          rw [laid_own c (by intro _ z; cases z) (by intro _ _ z; cases z)] at e
          cases e
          exact op_pow pins s σ H _ _ v u Q I rx ry ⟨i, j, rfl, rfl, ⟨hc.1, by omega, hc.2.2⟩, P α H _ .refl R (.int _)⟩
        · rw [if_neg hc] at e; cases e
    | _ => rw [ha, hb] at e; cases op <;> cases e
  | str i =>
    have hx := top_str ra ha
    cases hb : top st b with
    | str j =>
      have hy := top_str rb hb
      subst hx hy
      rw [ha, hb] at e
      cases op with
      | add =>
        dsimp only [binD] at e
        by_cases hc : lineOk (i.length + j.length) = true
        · rw [if_pos hc] at e
          dsimp only at e
          rw [laid_own c (by intro _ z; cases z) (by intro _ _ z; cases z)] at e
          cases e
          exact op_add_str pins s σ H _ _ v u Q I rx ry ⟨i, j, rfl, rfl, line_big hc, P α H _ .refl R (.str _)⟩
        · rw [if_neg hc] at e; cases e
      | _ => cases e
    | _ => rw [ha, hb] at e; cases op <;> cases e
  | tup ds =>
    obtain ⟨p, vs, rfl, h1, h2⟩ := top_tup ra ha
    cases hb : top st b with
    | tup es =>
      obtain ⟨p2, us, rfl, h3, h4⟩ := top_tup rb hb
      rw [ha, hb] at e
      cases op with
      | add =>
        dsimp only [binD] at e
        by_cases hc : lineOk (ds.length + es.length) = true
        · rw [if_pos hc] at e
          dsimp only at e
          rw [laid_own c (by intro _ z; cases z) (by intro _ _ z; cases z)] at e
          cases e
          refine op_catX pins s σ H _ _ v u Q I rx ry ⟨p, p2, vs, us, rfl, rfl, h1.t, h3.t, by rw [← h2.length, ← h4.length]; exact line_big hc, fun z => ?_, fun z z2 => ?_, fun _ _ q its hq => ?_⟩
          · subst z
            cases h2
            exact P α H _ .refl R (.tup h3 h4)
          · subst z2
            cases h4
            rw [List.append_nil] at P
            exact P α H _ .refl R (.tup h1 h2)
          · obtain ⟨G, R', r⟩ := new_tup R hq (h2.append h4)
            exact P α _ _ G R' r
        · rw [if_neg hc] at e; cases e
      | _ => cases e
    | _ => rw [ha, hb] at e; cases op <;> cases e
  | lst ds =>
    obtain ⟨p, vs, rfl, h1, h2⟩ := top_lst R ra ha
    cases hb : top st b with
    | lst es =>
      obtain ⟨p2, us, rfl, h3, h4⟩ := top_lst R rb hb
      rw [ha, hb] at e
      cases op with
      | add =>
        dsimp only [binD] at e
        by_cases hc : lineOk (ds.length + es.length) = true
        · rw [if_pos hc] at e
          have e := Option.some.inj e
          refine op_catR pins s σ H _ _ v u Q I rx ry ⟨p, p2, vs, us, rfl, rfl, h1, h3, by rw [← h2.length, ← h4.length]; exact line_big hc, fun q hq => ?_⟩
          obtain ⟨α', G, R', r⟩ := laid_lst R hq (h2.append h4) c
          rw [e] at G R' r
          exact P α' _ _ G R' r
        · rw [if_neg hc] at e; cases e
      | _ => cases e
    | int k =>
      have hy := top_int rb hb
      subst hy
      rw [ha, hb] at e
      cases op with
      | mul =>
        dsimp only [binD] at e
        by_cases hc : (decide (-1000 ≤ k) && decide (k ≤ 1000) && decide (ds.length ≤ 1000)) = true
        · rw [if_pos hc] at e
          have e := Option.some.inj e
          simp only [Bool.and_eq_true, decide_eq_true_eq] at hc
          refine op_repR pins s σ H _ _ v u Q I rx ry ⟨p, k, vs, rfl, rfl, h1, by omega, by omega, ?_, fun q hq => ?_⟩
          · rw [← h2.length]
            have h5 : ds.length * k.toNat ≤ 1000 * 1000 := Nat.mul_le_mul hc.2 (by omega)
            exact Nat.le_trans h5 (by decide)
          · obtain ⟨α', G, R', r⟩ := laid_lst R hq (h2.reps k.toNat) c
            rw [e] at G R' r
            exact P α' _ _ G R' r
        · rw [if_neg hc] at e; cases e
      | _ => cases e
    | _ => rw [ha, hb] at e; cases op <;> cases e
  | _ => rw [ha] at e; cases hb : top st b <;> rw [hb] at e <;> cases op <;> cases e
end
end DL
end

section
set_option Elab.async false
set_option linter.all false
set_option maxRecDepth 100000
set_option maxHeartbeats 4000000
/-! DL, part f: comparisons; what dicts hold. -/
namespace DL
open PySem PySem.Spec PyProof.Rows L2

section
variable {X : Cx} {pins : List (Addr × Obj)} {σ : L2.St} {s : Shared} {w : World} {cA : Nat → Addr} {α : Al} {st st' : Sto} {H : Hp}
/-! ### trees read as data -/
mutual
theorem rp_reads (I : Inv X pins σ H s) : ∀ (d : D) (v : V) (u : Value) (p : PyData), Rp X.K w α st H d v → RelV v u → D.py d = some p → ∃ as, Reads s.heap u p as ∧ p.plain = true
  | .none, _, _, _, h, r, e => by cases h; cases r; cases e; exact ⟨_, .none, rfl⟩
  | .bool b, _, _, _, h, r, e => by cases h; cases r; cases e; exact ⟨_, .bool b, rfl⟩
  | .int i, _, _, _, h, r, e => by cases h; obtain ⟨t, rfl⟩ := r; cases e; exact ⟨_, .int i t, rfl⟩
  | .str x, _, _, _, h, r, e => by cases h; obtain ⟨t, rfl⟩ := r; cases e; exact ⟨_, .str x t, rfl⟩
  | .tup ds, _, _, _, h, r, e => by
    cases h with
    | tup h1 h2 =>
      cases r
      dsimp only [D.py] at e
      cases hp : D.pys ds with
      | none => rw [hp] at e; cases e
      | some ps =>
        rw [hp] at e
        cases e
        obtain ⟨its, rv, ⟨ob, ho, hc, n, hd⟩, _⟩ := I.tuple h1.t
        obtain ⟨as, ra, pl⟩ := rpL_reads I ds _ its ps h2 rv hp
        exact ⟨as, .tuple ho hc hd ra, pl⟩
  | .lst ds, _, _, _, h, r, e => by
    cases h with
    | lst h1 h2 h3 =>
      cases r
      dsimp only [D.py] at e
      cases hp : D.pys ds with
      | none => rw [hp] at e; cases e
      | some ps =>
        rw [hp] at e
        cases e
        obtain ⟨_, its, n, rv, _, ho⟩ := inv_rdL I h1
        obtain ⟨as, ra, pl⟩ := rpL_reads I ds _ its ps h3 rv hp
        exact ⟨_, .list ho rfl rfl ra, pl⟩
  | .dct _ _, _, _, _, _, _, e => by cases e
  | .ref _, _, _, _, _, _, e => by cases e
  | .scr _, _, _, _, _, _, e => by cases e
theorem rpL_reads (I : Inv X pins σ H s) : ∀ (ds : List D) (vs : List V) (us : List Value) (ps : List PyData), RpL X.K w α st H ds vs → Vals vs us → D.pys ds = some ps → ∃ as, ReadsAll s.heap us ps as ∧ PyData.plainAll ps = true
  | [], _, _, _, h, r, e => by cases h; cases r; cases e; exact ⟨_, .nil, rfl⟩
  | d :: ds, _, _, _, h, r, e => by
    cases h with
    | cons h1 h2 =>
      cases r with
      | cons r1 r2 =>
        dsimp only [D.pys] at e
        cases hp : D.py d with
        | none => rw [hp] at e; cases e
        | some p =>
          cases hps : D.pys ds with
          | none => rw [hp, hps] at e; cases e
          | some ps =>
            rw [hp, hps] at e
            cases e
            obtain ⟨as, ra, pl⟩ := rp_reads I d _ _ p h1 r1 hp
            obtain ⟨bs, rb, pm⟩ := rpL_reads I ds _ _ ps h2 r2 hps
            exact ⟨_, .cons ra rb, by rw [PyData.plainAll, pl, pm]; rfl⟩
end
theorem reads_top (I : Inv X pins σ H s) (R : RS X.K w cA α st H) {a : D} {x : V} {u : Value} {p : PyData} (h : Rp X.K w α st H a x) (r : RelV x u) (e : (top st a).py = some p) : ∃ as, Reads s.heap u p as ∧ p.plain = true := by
  cases a with
  | ref n =>
    cases ht : top st (.ref n) with
    | lst ds =>
      rw [ht] at e
      obtain ⟨q, vs, rfl, h1, h2⟩ := top_lst R h ht
      cases r
      dsimp only [D.py] at e
      cases hp : D.pys ds with
      | none => rw [hp] at e; cases e
      | some ps =>
        rw [hp] at e
        cases e
        obtain ⟨_, its, n, rv, _, ho⟩ := inv_rdL I h1
        obtain ⟨as, ra, pl⟩ := rpL_reads I ds _ its ps h2 rv hp
        exact ⟨_, .list ho rfl rfl ra, pl⟩
    | tup ds =>
      obtain ⟨q, vs, rfl, h1, h2⟩ := top_tup h ht
      unfold top at ht
      dsimp only at ht
      split at ht <;> cases ht
    | dct ks vs => rw [ht] at e; cases e
    | ref m => rw [ht] at e; cases e
    | scr m => rw [ht] at e; cases e
    | none => unfold top at ht; dsimp only at ht; split at ht <;> cases ht
    | bool b => unfold top at ht; dsimp only at ht; split at ht <;> cases ht
    | int b => unfold top at ht; dsimp only at ht; split at ht <;> cases ht
    | str b => unfold top at ht; dsimp only at ht; split at ht <;> cases ht
  | _ => exact rp_reads I _ x u p h r e

mutual
theorem rp_nested (I : Inv X pins σ H s) : ∀ (d : D) (v : V) (u : Value) (p : NestedKey), Rp X.K w α st H d v → RelV v u → D.key d = some p → NestedIs s.heap p u
  | .none, _, _, _, h, r, e => by cases h; cases r; cases e; exact .none
  | .bool b, _, _, _, h, r, e => by cases e
  | .int i, _, _, _, h, r, e => by cases h; obtain ⟨t, rfl⟩ := r; cases e; exact .int i t
  | .str x, _, _, _, h, r, e => by cases h; obtain ⟨t, rfl⟩ := r; cases e; exact .text x t
  | .tup ds, _, _, _, h, r, e => by
    cases h with
    | tup h1 h2 =>
      cases r
      dsimp only [D.key] at e
      cases hp : D.keys ds with
      | none => rw [hp] at e; cases e
      | some ps =>
        rw [hp] at e
        cases e
        obtain ⟨its, rv, ⟨ob, ho, hc, n, hd⟩, _⟩ := I.tuple h1.t
        exact .tup ho hc hd (rpL_nested I ds _ its ps h2 rv hp)
  | .lst ds, _, _, _, h, r, e => by cases e
  | .dct _ _, _, _, _, _, _, e => by cases e
  | .ref _, _, _, _, _, _, e => by cases e
  | .scr _, _, _, _, _, _, e => by cases e
theorem rpL_nested (I : Inv X pins σ H s) : ∀ (ds : List D) (vs : List V) (us : List Value) (ps : List NestedKey), RpL X.K w α st H ds vs → Vals vs us → D.keys ds = some ps → NestedAll s.heap ps us
  | [], _, _, _, h, r, e => by cases h; cases r; cases e; exact .nil
  | d :: ds, _, _, _, h, r, e => by
    cases h with
    | cons h1 h2 =>
      cases r with
      | cons r1 r2 =>
        dsimp only [D.keys] at e
        cases hp : D.key d with
        | none => rw [hp] at e; cases e
        | some p =>
          cases hps : D.keys ds with
          | none => rw [hp, hps] at e; cases e
          | some ps =>
            rw [hp, hps] at e
            cases e
            exact .cons (rp_nested I d _ _ p h1 r1 hp) (rpL_nested I ds _ _ ps h2 r2 hps)
end
end

section
variable {X : Cx} {w : World} {cA : Nat → Addr}
def pyC : COp → CmpOp
  | .eq => .Eq | .ne => .NotEq | .lt => .Lt | .le => .LtE | .gt => .Gt | .ge => .GtE | .is => .Is | .isnot => .IsNot | .isin => .In | .notin => .NotIn
theorem eqPy_some {a b : D} {r : Bool} (e : eqPy a b = some r) : ∃ x y, a.py = some x ∧ b.py = some y ∧ x.depth ≤ 50 ∧ r = PyData.eqv x y := by
  unfold eqPy at e
  split at e
  · rename_i x y hx hy
    split at e
    · rename_i h
      exact ⟨x, y, hx, hy, h, (Option.some.inj e).symm⟩
    · cases e
  · cases e
/-- an answer of truth -/
theorem post_bool {K : PySem.W.Frag} {α : Al} {st st' : Sto} {H : Hp} {d : D} {o : Option Bool} {Q : VK} (R : RS K w cA α st H) (e : o.map (fun r => ((D.bool r, st) : D × Sto)) = some (d, st')) (P : Post K w cA α st H st' d Q) : ∃ b, o = some b ∧ Q (.bl b) H := by
  cases o with
  | none => cases e
  | some b =>
    cases e
    exact ⟨b, rfl, P α H _ .refl R (.bool b)⟩
end
end DL
end

section
set_option Elab.async false
set_option linter.all false
set_option maxRecDepth 100000
set_option maxHeartbeats 4000000
/-! DL, part g: dicts by keys: leaves (the kit's mixKind), tuples (the kit's nestedKind). -/
namespace DL
open PySem PySem.Spec PyProof.Rows L2

/-! ### keys alone -/
def lk : D → Key
  | .int i => .inl i
  | .str x => .inr x
  | _ => .inl 0
theorem sort_leaf {k : D} (h : k.sort = some false) : (∃ i, k = .int i) ∨ ∃ x, k = .str x := by
  cases k with
  | int i => exact .inl ⟨i, rfl⟩
  | str x => exact .inr ⟨x, rfl⟩
  | _ => cases h
theorem sort_tup {k : D} (h : k.sort = some true) : ∃ ds, k = .tup ds := by
  cases k with
  | tup ds => exact ⟨ds, rfl⟩
  | _ => cases h
theorem same_key {a b : D} {x y : NestedKey} (ha : a.key = some x) (hb : b.key = some y) : D.same a b = decide (x = y) := by
  unfold D.same
  rw [ha, hb, NestedKey.decide_eq]
theorem same_leaf {a b : D} (ha : a.sort = some false) (hb : b.sort = some false) : D.same a b = decide (lk a = lk b) := by
  rcases sort_leaf ha with ⟨i, rfl⟩ | ⟨i, rfl⟩ <;> rcases sort_leaf hb with ⟨j, rfl⟩ | ⟨j, rfl⟩
  · rw [same_key (x := .num i) (y := .num j) rfl rfl]
    by_cases h : i = j
    · subst h; simp
    · rw [decide_eq_false (fun z => h (NestedKey.num.inj z))]; exact (decide_eq_false (fun z => h (Sum.inl.inj z))).symm
  · rw [same_key (x := .num i) (y := .text j) rfl rfl, decide_eq_false (fun z => by cases z), decide_eq_false (fun z => by cases z)]
  · rw [same_key (x := .text i) (y := .num j) rfl rfl, decide_eq_false (fun z => by cases z), decide_eq_false (fun z => by cases z)]
  · rw [same_key (x := .text i) (y := .text j) rfl rfl]
    by_cases h : i = j
    · subst h; simp
    · rw [decide_eq_false (fun z => h (NestedKey.text.inj z))]; exact (decide_eq_false (fun z => h (Sum.inr.inj z))).symm
theorem keyOk_some {k : D} (h : keyOk k = true) : ∃ b x, k.sort = some b ∧ k.key = some x ∧ x.depth ≤ 8 := by
  unfold keyOk at h
  rw [Bool.and_eq_true] at h
  obtain ⟨h1, h2⟩ := h
  obtain ⟨b, hb⟩ := Option.isSome_iff_exists.mp h1
  cases hk : k.key with
  | none => rw [hk] at h2; cases h2
  | some x =>
    rw [hk] at h2
    exact ⟨b, x, hb, rfl, of_decide_eq_true h2⟩
theorem dhas_get : ∀ {ks vs : List D} {q : D}, ks.length = vs.length → dhas ks q = (dget ks vs q).isSome
  | [], [], q, _ => rfl
  | k :: ks, v :: vs, q, h => by
    unfold dhas dget
    by_cases e : k.same q = true
    · rw [e, if_pos rfl]; rfl
    · have e' : k.same q = false := by simpa using e
      rw [e', if_neg Bool.false_ne_true, Bool.false_or]
      exact dhas_get (by simpa using h)
  | [], _ :: _, _, h => by simp at h
  | _ :: _, [], _, h => by simp at h
theorem keys_cons {k : D} {ks : List D} {xs : List NestedKey} (h : D.keys (k :: ks) = some xs) : ∃ x ys, k.key = some x ∧ D.keys ks = some ys ∧ xs = x :: ys := by
  dsimp only [D.keys] at h
  cases hp : D.key k with
  | none => rw [hp] at h; cases h
  | some p =>
    cases hps : D.keys ks with
    | none => rw [hp, hps] at h; cases h
    | some ps => rw [hp, hps] at h; exact ⟨p, ps, rfl, rfl, (Option.some.inj h).symm⟩
theorem keys_snoc : ∀ {ks : List D} {xs : List NestedKey} {q : D} {y : NestedKey}, D.keys ks = some xs → q.key = some y → D.keys (ks ++ [q]) = some (xs ++ [y])
  | [], xs, q, y, h, hq => by
    cases h
    dsimp only [List.nil_append, D.keys]
    rw [hq]
  | k :: ks, xs, q, y, h, hq => by
    obtain ⟨x, ys, h1, h2, rfl⟩ := keys_cons h
    dsimp only [List.cons_append, D.keys]
    rw [h1, keys_snoc h2 hq]
theorem dhas_mem : ∀ {ks : List D} {xs : List NestedKey} {q : D} {y : NestedKey}, D.keys ks = some xs → q.key = some y → (dhas ks q = true ↔ y ∈ xs)
  | [], xs, q, y, h, hq => by cases h; simp [dhas]
  | k :: ks, xs, q, y, h, hq => by
    obtain ⟨x, ys, h1, h2, rfl⟩ := keys_cons h
    unfold dhas
    rw [Bool.or_eq_true, same_key h1 hq, decide_eq_true_iff, dhas_mem h2 hq, List.mem_cons]
    exact or_congr eq_comm Iff.rfl
theorem keysGood_nil : KeysGood [] := ⟨⟨[], rfl, .nil, fun _ h => (by cases h)⟩, ⟨true, fun _ h => (by cases h)⟩, Nat.zero_le _⟩
theorem keysGood_put {ks vs : List D} {q u : D} (g : KeysGood ks) (hq : keyOk q = true) (hs : sortOk ks q = true) (hl : ks.length < sizeLine) : KeysGood (dput ks vs q u).1 := by
  unfold dput
  by_cases h : dhas ks q = true
  · rw [if_pos h]; exact g
  · rw [if_neg h]
    obtain ⟨⟨xs, h1, h2, h3⟩, ⟨b, hb⟩, _⟩ := g
    obtain ⟨c, y, hc, hy, hd⟩ := keyOk_some hq
    refine ⟨⟨xs ++ [y], keys_snoc h1 hy, ?_, ?_⟩, ⟨c, ?_⟩, by rw [List.length_append]; exact hl⟩
    · rw [List.nodup_append]
      refine ⟨h2, by simp, fun a ha e he => ?_⟩
      have : e = y := by simpa using he
      subst this
      rintro rfl
      exact h ((dhas_mem h1 hy).mpr ha)
    · intro x hx
      rcases List.mem_append.mp hx with h4 | h4
      · exact h3 x h4
      · have : x = y := by simpa using h4
        subst this
        exact hd
    · cases ks with
      | nil =>
        intro k hk
        have : k = q := by simpa using hk
        subst this
        exact hc
      | cons j r =>
        have e : j.sort = q.sort := by simpa [sortOk] using hs
        have e1 := hb j List.mem_cons_self
        rw [e, hc] at e1
        have e2 : c = b := Option.some.inj e1
        subst e2
        intro k hk
        rcases List.mem_append.mp hk with h4 | h4
        · exact hb k h4
        · have : k = q := by simpa using h4
          subst this
          exact hc

section
variable {X : Cx} {pins : List (Addr × Obj)} {σ : L2.St} {s : Shared} {w : World} {cA : Nat → Addr} {K : PySem.W.Frag} {α : Al} {st st' : Sto} {H : Hp}
theorem Ents.length : ∀ {ks : List D} {es : List DictEntry}, Ents K w α st H ks es → ks.length = es.length
  | [], _, h => by cases h; rfl
  | _ :: ks, _, h => by
    cases h with
    | cons _ _ _ _ t => simp [Ents.length t]
/-- the values by their keys -/
theorem dget_rel : ∀ {ks vs : List D} {us : List V} {q : D} {d : D}, RpL K w α st H vs us → dget ks vs q = some d → ∃ (j : Nat) (u : V), us[j]? = some u ∧ Rp K w α st H d u
  | [], [], _, _, _, h, e => by cases e
  | [], _ :: _, _, _, _, h, e => by cases e
  | _ :: _, [], _, _, _, h, e => by cases e
  | k :: ks, v :: vs, _, q, d, h, e => by
    cases h with
    | cons h1 h2 =>
      unfold dget at e
      split at e
      · cases e; exact ⟨0, _, rfl, h1⟩
      · obtain ⟨j, u, e1, r⟩ := dget_rel (ks := ks) h2 e
        exact ⟨j + 1, u, by simpa using e1, r⟩

/-! ### leaves -/
theorem Ents.leafOk {P : Program} : ∀ {ks : List D} {es : List DictEntry}, Ents K w α st H ks es → (∀ k ∈ ks, k.sort = some false) → (∀ e ∈ es, (∃ k, (mixKind P w).is k e.key = true ∧ e.hash = (mixKind P w).hash k)) ∧
    Pairs (mixKind P w) es ((ks.map lk).zip (es.map (·.val)))
  | [], _, h, _ => by
    cases h
    exact ⟨fun _ h => (by cases h), .nil⟩
  | k :: ks, _, h, hl => by
    cases h with
    | @cons _ kv x _ e es h1 h2 h3 h4 t =>
      obtain ⟨i1, i2⟩ := Ents.leafOk (P := P) t fun k hk => hl k (List.mem_cons_of_mem _ hk)
      have own : (mixKind P w).is (lk k) e.key = true ∧ e.hash = (mixKind P w).hash (lk k) := by
        rcases sort_leaf (hl k List.mem_cons_self) with ⟨i, rfl⟩ | ⟨y, rfl⟩
        · cases h1
          obtain ⟨tk, h2⟩ := h2
          rw [h2]
          cases h3
          exact ⟨mixKind_int P w i tk, h4⟩
        · cases h1
          obtain ⟨tk, h2⟩ := h2
          rw [h2]
          cases h3
          exact ⟨mixKind_str P w y tk, h4⟩
      refine ⟨fun e' he' => ?_, .cons own.1 rfl i2⟩
      rcases List.mem_cons.mp he' with rfl | he'
      · exact ⟨_, own⟩
      · exact i1 e' he'
theorem lk_map_nodup {ks : List D} {xs : List NestedKey} (hl : ∀ k ∈ ks, k.sort = some false) (h : D.keys ks = some xs) (hn : xs.Nodup) : (ks.map lk).Nodup := by
  induction ks generalizing xs with
  | nil => exact .nil
  | cons k ks ih =>
    obtain ⟨x, ys, h1, h2, rfl⟩ := keys_cons h
    rw [List.nodup_cons] at hn
    rw [List.map_cons, List.nodup_cons]
    refine ⟨fun m => hn.1 ?_, ih (fun k hk => hl k (List.mem_cons_of_mem _ hk)) h2 hn.2⟩
    obtain ⟨j, hj, e⟩ := List.mem_map.mp m
    have e1 := same_leaf (hl j (List.mem_cons_of_mem _ hj)) (hl k List.mem_cons_self)
    rw [e, decide_eq_true rfl] at e1
    refine (dhas_mem h2 h1).mp ?_
    clear ih h hn m h1 h2 hl e
    induction ks with
    | nil => cases hj
    | cons c ks ih2 =>
      unfold dhas
      rcases List.mem_cons.mp hj with rfl | hj
      · rw [e1]; rfl
      · rw [ih2 hj, Bool.or_true]
theorem leafDict {P : Program} {h : Heap} {p : Addr} {ks : List D} {es : Array DictEntry} {ep : Nat} (g : KeysGood ks) (hl : ∀ k ∈ ks, k.sort = some false) (en : Ents K w α st H ks es.toList) (hr : h.DictRaw p es ep) :
    h.DictOf (mixKind P w) p ((ks.map lk).zip (es.toList.map (·.val))) := by
  obtain ⟨o, ho, hx, hd⟩ := hr
  obtain ⟨k1, k2⟩ := Ents.leafOk (P := P) en hl
  refine ⟨o, es, ep, ho, hx, hd, fun e he => k1 e (by simpa using he), k2, ?_⟩
  rw [List.map_fst_zip (by rw [List.length_map, List.length_map, en.length]; exact Nat.le_refl _)]
  obtain ⟨xs, h1, h2, _⟩ := g.keys
  exact lk_map_nodup hl h1 h2
/-- what is found -/
theorem leaf_get : ∀ {ks vs : List D} {us : List V} {ws : List Value} {q : D}, (∀ k ∈ ks, k.sort = some false) → q.sort = some false → ks.length = vs.length → RpL K w α st H vs us → Vals us ws →
    match dget ks vs q with
    | some d => ∃ u x, valueAt ((ks.map lk).zip ws) (lk q) = some x ∧ RelV u x ∧ Rp K w α st H d u
    | Option.none => valueAt ((ks.map lk).zip ws) (lk q) = Option.none
  | [], [], _, _, _, _, _, _, h, r => by cases h; cases r; rfl
  | [], _ :: _, _, _, _, _, _, h, _, _ => by simp at h
  | _ :: _, [], _, _, _, _, _, h, _, _ => by simp at h
  | k :: ks, v :: vs, _, _, q, hl, hq, hn, h, r => by
    cases h with
    | cons h1 h2 =>
      cases r with
      | @cons a b _ ws' r1 r2 =>
        unfold dget
        have e := same_leaf (hl k List.mem_cons_self) hq
        have ih := leaf_get (ks := ks) (vs := vs) (q := q) (fun k hk => hl k (List.mem_cons_of_mem _ hk)) hq (by simpa using hn) h2 r2
        by_cases z : lk k = lk q
        · rw [z, decide_eq_true rfl] at e
          rw [e, if_pos rfl]
          exact ⟨_, _, by simp [valueAt, z], r1, h1⟩
        · rw [decide_eq_false z] at e
          rw [e, if_neg Bool.false_ne_true]
          have e2 : valueAt (((k :: ks).map lk).zip (b :: ws')) (lk q) = valueAt ((ks.map lk).zip ws') (lk q) := by simp [valueAt, z]
          rw [e2]
          exact ih
/-- stored -/
theorem leaf_put : ∀ {ks vs : List D} {us : List V} {ws : List Value} {q d : D} {u : V} {x : Value}, (∀ k ∈ ks, k.sort = some false) → q.sort = some false → (ks.map lk).Nodup → ks.length = vs.length → RpL K w α st H vs us → Vals us ws → Rp K w α st H d u → RelV u x →
    ∃ us', RpL K w α st H (dput ks vs q d).2 us' ∧ Vals us' ((stored ((ks.map lk).zip ws) (lk q) x).map (·.2)) ∧ (stored ((ks.map lk).zip ws) (lk q) x).map (·.1) = (dput ks vs q d).1.map lk := by
  intro ks vs us ws q d u x hl hq nd hn h r hd hx
  have hz : ks.length = ws.length := by rw [hn, h.length, r.length]
  have m1 : ((ks.map lk).zip ws).map (·.1) = ks.map lk := List.map_fst_zip (by rw [List.length_map, hz]; exact Nat.le_refl _)
  have m2 : ((ks.map lk).zip ws).map (·.2) = ws := List.map_snd_zip (by rw [List.length_map, hz]; exact Nat.le_refl _)
  have any : ((ks.map lk).zip ws).any (fun kv => decide (kv.1 = lk q)) = dhas ks q := by
    clear m1 m2 h r nd hn hd hx
    induction ks generalizing ws with
    | nil => rfl
    | cons k ks ih =>
      cases ws with
      | nil => simp at hz
      | cons y ws =>
        unfold dhas
        rw [same_leaf (hl k List.mem_cons_self) hq, ← ih (fun k hk => hl k (List.mem_cons_of_mem _ hk)) (by simpa using hz)]
        rfl
  unfold stored dput
  rw [any]
  by_cases z : dhas ks q = true
  · rw [if_pos z, if_pos z]
    dsimp only
    clear any m1 m2
    induction ks generalizing ws vs us with
    | nil => cases z
    | cons k ks ih =>
      cases vs with
      | nil => simp at hn
      | cons v vs =>
        cases h with
        | cons h1 h2 =>
          cases r with
          | @cons a b _ ws' r1 r2 =>
            rw [List.map_cons, List.nodup_cons] at nd
            have e := same_leaf (hl k List.mem_cons_self) hq
            rw [List.map_cons, List.zip_cons_cons, List.map_cons]
            unfold dset
            by_cases y : lk k = lk q
            · rw [y, decide_eq_true rfl] at e
              rw [e, if_pos rfl, if_pos y]
              have nm : lk q ∉ ((ks.map lk).zip ws').map (·.1) := by
                rw [List.map_fst_zip (by rw [List.length_map]; simp at hz; omega), ← y]
                exact nd.1
              rw [map_store_of_not_mem _ _ _ nm]
              refine ⟨_, .cons hd h2, ?_, ?_⟩
              · rw [List.map_cons, List.map_snd_zip (by rw [List.length_map]; simp at hz; omega)]
                exact .cons hx r2
              · rw [List.map_cons, List.map_fst_zip (by rw [List.length_map]; simp at hz; omega)]
            · rw [decide_eq_false y] at e
              unfold dhas at z
              rw [e, Bool.false_or] at z
              rw [e, if_neg Bool.false_ne_true, if_neg y]
              obtain ⟨us', g1, g2, g3⟩ := ih (fun k hk => hl k (List.mem_cons_of_mem _ hk)) nd.2 (by simpa using hn) h2 r2 (by simpa using hz) z
              exact ⟨_, .cons h1 g1, by rw [List.map_cons]; exact .cons r1 g2, by rw [List.map_cons, g3]⟩
  · rw [if_neg z, if_neg z]
    refine ⟨us ++ [u], h.append (.cons hd .nil), ?_, ?_⟩
    · rw [List.map_append, m2]
      exact r.append (.cons hx .nil)
    · rw [List.map_append, m1, List.map_append]
      rfl
/-- entries rebuilt -/
theorem ents_leaf {P : Program} : ∀ {ks : List D} {es : List DictEntry} {kvs : List (Key × Value)}, (∀ k ∈ ks, k.sort = some false) → kvs.map (·.1) = ks.map lk → Pairs (mixKind P w) es kvs →
    (∀ e ∈ es, ∃ k, (mixKind P w).is k e.key = true ∧ e.hash = (mixKind P w).hash k) → Ents K w α st H ks es ∧ es.map (·.val) = kvs.map (·.2)
  | [], _, _, _, e, p, _ => by
    cases p with
    | nil => exact ⟨.nil, rfl⟩
    | cons _ _ _ => cases e
  | k :: ks, _, _, hl, e, p, hh => by
    cases p with
    | nil => cases e
    | @cons en kv es kvs p1 p2 p3 =>
      rw [List.map_cons, List.map_cons] at e
      obtain ⟨e1, e2⟩ := List.cons.inj e
      obtain ⟨i1, i2⟩ := ents_leaf (P := P) (fun k hk => hl k (List.mem_cons_of_mem _ hk)) e2 p3 fun e' he' => hh e' (List.mem_cons_of_mem _ he')
      refine ⟨?_, by rw [List.map_cons, List.map_cons, i2, p2]⟩
      obtain ⟨k', q1, q2⟩ := hh en List.mem_cons_self
      have ek : k' = kv.1 := (mixKind P w).inj _ _ _ q1 p1
      rw [ek, e1] at q2
      rw [e1] at p1
      replace p1 : keyIs (lk k) en.key = true := p1
      rcases sort_leaf (hl k List.mem_cons_self) with ⟨i, rfl⟩ | ⟨y, rfl⟩
      · rcases keyIs_shape p1 with ⟨j, t, z1, z2⟩ | ⟨j, t, z1, z2⟩
        · have : i = j := Sum.inl.inj z1
          subst this
          exact .cons (kv := .int i) (x := .num i) (.int i) ⟨t, z2⟩ rfl q2 i1
        · cases z1
      · rcases keyIs_shape p1 with ⟨j, t, z1, z2⟩ | ⟨j, t, z1, z2⟩
        · cases z1
        · have : y = j := Sum.inr.inj z1
          subst this
          exact .cons (kv := .str y) (x := .text y) (.str y) ⟨t, z2⟩ rfl q2 i1

/-! ### tuples -/
theorem paired_app {α β : Type} {F : α → β → Prop} : ∀ {a c : List α} {b d : List β}, Paired F a b → Paired F c d → Paired F (a ++ c) (b ++ d)
  | _, _, _, _, .nil, h => h
  | _, _, _, _, .cons x t, h => .cons x (paired_app t h)
abbrev KX := NestedKey × Addr × Value
def TK (K : PySem.W.Frag) (w : World) (α : Al) (st : Sto) (H : Hp) : List D → List KX → Prop := Paired fun k x => k.key = some x.1 ∧ Rp K w α st H k (.ref x.2.1)
theorem Ents.tups {P : Program} : ∀ {ks : List D} {es : List DictEntry}, Ents K w α st H ks es → (∀ k ∈ ks, k.sort = some true) → ∃ xs : List KX, es = xs.map (entryOfKey (nestedKind P w)) ∧ TK K w α st H ks xs
  | [], _, h, _ => by
    cases h
    exact ⟨[], rfl, .nil⟩
  | k :: ks, _, h, hl => by
    cases h with
    | @cons _ kv x _ e es h1 h2 h3 h4 t =>
      obtain ⟨xs, i1, i2⟩ := Ents.tups (P := P) t fun k hk => hl k (List.mem_cons_of_mem _ hk)
      obtain ⟨ds, rfl⟩ := sort_tup (hl k List.mem_cons_self)
      cases h1 with
      | @tup a vs _ g1 g2 =>
        have h2 : e.key = Value.ref a := h2
        refine ⟨(x, a, e.val) :: xs, ?_, .cons ⟨h3, .tup g1 g2⟩ i2⟩
        rw [List.map_cons, i1]
        congr 1
        show e = ⟨x.hash w, .ref a, e.val⟩
        rw [← h4, ← h2]
theorem TK.keys : ∀ {ks : List D} {xs : List KX}, TK K w α st H ks xs → D.keys ks = some (xs.map (·.1))
  | [], _, h => by cases h; rfl
  | k :: ks, _, h => by
    cases h with
    | cons h1 t =>
      dsimp only [D.keys]
      rw [h1.1, TK.keys t]
      rfl
theorem TK.ents {P : Program} : ∀ {ks : List D} {xs : List KX}, TK K w α st H ks xs → Ents K w α st H ks (xs.map (entryOfKey (nestedKind P w)))
  | [], _, h => by cases h; exact .nil
  | k :: ks, _, h => by
    cases h with
    | @cons _ x _ xs h1 t => exact .cons (e := entryOfKey (nestedKind P w) x) h1.2 rfl h1.1 rfl (TK.ents t)
theorem vals_of_ents {P : Program} (xs : List KX) : (xs.map (entryOfKey (nestedKind P w))).map (·.val) = xs.map (·.2.2) := by
  rw [List.map_map]
  rfl
theorem TK.is {P : Program} {X : Cx} {pins : List (Addr × Obj)} {σ : L2.St} {s : Shared} (I : Inv X pins σ H s) : ∀ {ks : List D} {xs : List KX}, TK X.K w α st H ks xs → (∀ x ∈ xs, x.1.depth ≤ 8) → ∀ x ∈ xs, (nestedKind P w).is s.heap x.1 x.2.1
  | [], _, h, _, x, hx => by cases h; cases hx
  | k :: ks, _, h, hd, x, hx => by
    cases h with
    | @cons _ y _ xs h1 t =>
      rcases List.mem_cons.mp hx with rfl | hx
      · exact ⟨rp_nested I k _ _ _ h1.2 rfl h1.1, hd _ List.mem_cons_self⟩
      · exact TK.is I t (fun z hz => hd z (List.mem_cons_of_mem _ hz)) x hx
theorem tupDict {P : Program} {X : Cx} {pins : List (Addr × Obj)} {σ : L2.St} {s : Shared} (I : Inv X pins σ H s) {p : Addr} {ks : List D} {es : Array DictEntry} {ep : Nat} (g : KeysGood ks) (hl : ∀ k ∈ ks, k.sort = some true) (en : Ents X.K w α st H ks es.toList) (hr : s.heap.DictRaw p es ep) :
    ∃ xs : List KX, es.toList = xs.map (entryOfKey (nestedKind P w)) ∧ TK X.K w α st H ks xs ∧ s.heap.DictOfH (nestedKind P w) p xs := by
  obtain ⟨xs, h1, h2⟩ := Ents.tups (P := P) en hl
  obtain ⟨o, ho, hx, hd⟩ := hr
  obtain ⟨ys, k1, k2, k3⟩ := g.keys
  have e : ys = xs.map (·.1) := Option.some.inj (k1.symm.trans h2.keys)
  subst e
  exact ⟨xs, h1, h2, o, es, ep, ho, hx, hd, h1, TK.is I h2 fun x hx => k3 _ (List.mem_map.mpr ⟨x, hx, rfl⟩), k2⟩
theorem tup_get : ∀ {ks vs : List D} {us : List V} {xs : List KX} {q : D} {y : NestedKey}, TK K w α st H ks xs → q.key = some y → ks.length = vs.length → RpL K w α st H vs us → Vals us (xs.map (·.2.2)) →
    match dget ks vs q with
    | some d => ∃ u p, atKey xs y = some p ∧ RelV u p.2 ∧ Rp K w α st H d u
    | Option.none => atKey xs y = Option.none
  | [], [], _, _, _, _, t, _, _, h, r => by cases t; rfl
  | [], _ :: _, _, _, _, _, _, _, h, _, _ => by simp at h
  | _ :: _, [], _, _, _, _, _, _, h, _, _ => by simp at h
  | k :: ks, v :: vs, _, _, q, y, t, hq, hn, h, r => by
    cases t with
    | @cons _ x _ xs t1 t2 =>
      cases h with
      | cons h1 h2 =>
        rw [List.map_cons] at r
        cases r with
        | cons r1 r2 =>
          unfold dget
          have e := same_key t1.1 hq
          have ih := tup_get (ks := ks) (vs := vs) (q := q) t2 hq (by simpa using hn) h2 r2
          by_cases z : x.1 = y
          · rw [decide_eq_true z] at e
            rw [e, if_pos rfl]
            exact ⟨_, x.2, by simp [atKey, z], r1, h1⟩
          · rw [decide_eq_false z] at e
            rw [e, if_neg Bool.false_ne_true]
            have e2 : atKey (x :: xs) y = atKey xs y := by simp [atKey, z]
            rw [e2]
            exact ih
theorem atKey_isSome {ks : List D} {xs : List KX} {q : D} {y : NestedKey} (t : TK K w α st H ks xs) (hq : q.key = some y) : (atKey xs y).isSome = dhas ks q := by
  induction ks generalizing xs with
  | nil => cases t; rfl
  | cons k ks ih =>
    cases t with
    | @cons _ x _ xs t1 t2 =>
      unfold dhas
      rw [same_key t1.1 hq, ← ih t2]
      by_cases z : x.1 = y
      · simp [atKey, z]
      · simp [atKey, z]
theorem tup_put : ∀ {ks vs : List D} {us : List V} {xs : List KX} {q d : D} {y : NestedKey} {a : Addr} {u : V} {x : Value}, TK K w α st H ks xs → q.key = some y → Rp K w α st H q (.ref a) → (xs.map (·.1)).Nodup → ks.length = vs.length → RpL K w α st H vs us → Vals us (xs.map (·.2.2)) →
    Rp K w α st H d u → RelV u x → ∃ us', RpL K w α st H (dput ks vs q d).2 us' ∧ Vals us' ((storedH xs y a x).map (·.2.2)) ∧ TK K w α st H (dput ks vs q d).1 (storedH xs y a x) := by
  intro ks vs us xs q d y a u x t hq ha nd hn h r hd hx
  unfold storedH dput
  rw [atKey_isSome t hq]
  by_cases z : dhas ks q = true
  · rw [if_pos z, if_pos z]
    dsimp only
    induction ks generalizing xs vs us with
    | nil => cases z
    | cons k ks ih =>
      cases vs with
      | nil => simp at hn
      | cons v vs =>
        cases t with
        | @cons _ b _ xs t1 t2 =>
          cases h with
          | cons h1 h2 =>
            rw [List.map_cons] at r
            cases r with
            | cons r1 r2 =>
              rw [List.map_cons, List.nodup_cons] at nd
              have e := same_key t1.1 hq
              rw [List.map_cons]
              unfold dset
              by_cases g : b.1 = y
              · rw [decide_eq_true g] at e
                rw [e, if_pos rfl]
                have nm : y ∉ xs.map (·.1) := by rw [← g]; exact nd.1
                rw [map_putAt_of_not_mem _ _ _ nm]
                have pe : putAt y x b = (b.1, b.2.1, x) := by unfold putAt; rw [if_pos g]
                rw [pe]
                exact ⟨_, .cons hd h2, by rw [List.map_cons]; exact .cons hx r2, .cons t1 t2⟩
              · rw [decide_eq_false g] at e
                unfold dhas at z
                rw [e, Bool.false_or] at z
                rw [e, if_neg Bool.false_ne_true]
                obtain ⟨us', g1, g2, g3⟩ := ih t2 nd.2 (by simpa using hn) h2 r2 z
                have pe : putAt y x b = b := by unfold putAt; rw [if_neg g]
                rw [pe]
                exact ⟨_, .cons h1 g1, by rw [List.map_cons]; exact .cons r1 g2, .cons t1 g3⟩
  · rw [if_neg z, if_neg z]
    refine ⟨us ++ [u], h.append (.cons hd .nil), ?_, ?_⟩
    · rw [List.map_append]
      exact r.append (.cons hx .nil)
    · exact paired_app t (.cons ⟨hq, ha⟩ .nil)
end
end DL
end

section
set_option Elab.async false
set_option linter.all false
set_option maxRecDepth 100000
set_option maxHeartbeats 4000000
/-! DL, part h: comparisons, subscripts, stores by values. -/
namespace DL
open PySem PySem.Spec PyProof.Rows L2

theorem sort_all {ks : List D} {q : D} {c : Bool} (g : KeysGood ks) (hs : sortOk ks q = true) (hq : q.sort = some c) : ∀ k ∈ ks, k.sort = some c := by
  obtain ⟨b, hb⟩ := g.sort
  cases ks with
  | nil => intro k hk; cases hk
  | cons j r =>
    have e : j.sort = q.sort := by simpa [sortOk] using hs
    have e1 := hb j List.mem_cons_self
    rw [e, hq] at e1
    have e2 : c = b := Option.some.inj e1
    subst e2
    exact hb

section
variable {X : Cx} {pins : List (Addr × Obj)} {σ : L2.St} {s : Shared} {w : World} {cA : Nat → Addr} {α : Al} {st st' : Sto} {H : Hp} {A : Around} {E : Value → Shared → Prop} {q : D} {y : V} {u : Value} {ks vs : List D} {p : Addr} {es : Array DictEntry} {ep : Nat} {us : List V}
/-- a dict seen: its keys all leaves, or all tuples -/
theorem raw_at (I : Inv X pins σ H s) (h : H p = some (rawO p es ep)) : s.heap.DictRaw p es ep := by
  have o : ObjOk X.prog X.w H s.heap p (.ext fun h => h.DictRaw p es ep) := I.hok p _ h
  exact o.1
theorem leaf_is {P : Program} (hq : q.sort = some false) (rq : Rp X.K w α st H q y) (ry : RelV y u) : (mixKind P X.w).is (lk q) u = true := by
  rcases sort_leaf hq with ⟨i, rfl⟩ | ⟨x, rfl⟩
  · cases rq
    obtain ⟨t, rfl⟩ := ry
    exact mixKind_int P X.w i t
  · cases rq
    obtain ⟨t, rfl⟩ := ry
    exact mixKind_str P X.w x t
theorem tup_is {P : Program} (I : Inv X pins σ H s) {x : NestedKey} (hq : q.sort = some true) (hk : q.key = some x) (hd : x.depth ≤ 8) (rq : Rp X.K w α st H q y) (ry : RelV y u) : ∃ a, y = .ref a ∧ u = .ref a ∧ (nestedKind P X.w).is s.heap x a := by
  obtain ⟨ds, rfl⟩ := sort_tup hq
  cases rq with
  | @tup a vs _ h1 h2 =>
    have e : u = Value.ref a := ry
    subst e
    exact ⟨a, rfl, rfl, rp_nested I _ _ _ _ (.tup h1 h2) rfl hk, hd⟩
/-- the shape of what is asked -/
theorem dd_ask (I : Inv X pins σ H s) (hH : H p = some (rawO p es ep)) (g : KeysGood ks) (en : Ents X.K X.w α st H ks es.toList) (rl : RpL X.K X.w α st H vs us) (vl : Vals us (es.toList.map (·.val))) (rq : Rp X.K X.w α st H q y) (ry : RelV y u) (hk : keyOk q = true) (hs : sortOk ks q = true) :
    (∃ kvs, s.heap.DictOf (mixKind X.prog X.w) p kvs ∧ (mixKind X.prog X.w).is (lk q) u = true ∧ (match dget ks vs q with
      | some d => ∃ z x, valueAt kvs (lk q) = some x ∧ RelV z x ∧ Rp X.K X.w α st H d z
      | Option.none => valueAt kvs (lk q) = Option.none)) ∨
    ∃ (xs : List KX) (x : NestedKey) (a : Addr), y = .ref a ∧ u = .ref a ∧ s.heap.DictOfH (nestedKind X.prog X.w) p xs ∧ (nestedKind X.prog X.w).is s.heap x a ∧ (match dget ks vs q with
      | some d => ∃ z p, atKey xs x = some p ∧ RelV z p.2 ∧ Rp X.K X.w α st H d z
      | Option.none => atKey xs x = Option.none) := by
  obtain ⟨c, x, hc, hx, hd⟩ := keyOk_some hk
  have hl := sort_all g hs hc
  have hn : ks.length = vs.length := by rw [en.length, rl.length, vl.length, List.length_map]
  cases c with
  | false => exact .inl ⟨_, leafDict g hl en (raw_at I hH), leaf_is hc rq ry, leaf_get hl hc hn rl vl⟩
  | true =>
    obtain ⟨xs, h1, h2, h3⟩ := tupDict (P := X.prog) I g hl en (raw_at I hH)
    obtain ⟨a, e1, e2, h4⟩ := tup_is (P := X.prog) I hc hx hd rq ry
    rw [h1, vals_of_ents] at vl
    exact .inr ⟨xs, x, a, e1, e2, h3, h4, tup_get h2 hx hn rl vl⟩
theorem dd_len (en : Ents X.K X.w α st H ks es.toList) (rl : RpL X.K X.w α st H vs us) (vl : Vals us (es.toList.map (·.val))) : ks.length = vs.length := by rw [en.length, rl.length, vl.length, List.length_map]
theorem room9 {A : Around} (hu : A.units + 9 < cLine) : (nestedKind X.prog X.w).room A.in1 := by
  show A.units + 1 + 8 < cLine
  omega
theorem dd_in (hu : A.units + 9 < cLine) (I : Inv X pins σ H s) (hH : H p = some (rawO p es ep)) (sy : (p == sysModules) = false) (g : KeysGood ks) (en : Ents X.K X.w α st H ks es.toList) (rl : RpL X.K X.w α st H vs us) (vl : Vals us (es.toList.map (·.val))) (rq : Rp X.K X.w α st H q y) (ry : RelV y u) (hk : keyOk q = true) (hs : sortOk ks q = true)
    {Q : Value → Shared → Prop} (h : ∀ s', Inv X pins σ H s' → Q (.bool (dhas ks q)) s') : wpAny (model X.prog X.w) A (compareOp .In u (.ref p)) Q E s := by
  have e := dhas_get (q := q) (dd_len en rl vl)
  rcases dd_ask I hH g en rl vl rq ry hk hs with ⟨kvs, dd, is, m⟩ | ⟨xs, x, a, e1, e2, dd, is, m⟩
  · refine wpAny_in_of is sy dd.mapOf ?_
    have ev : (valueAt kvs (lk q)).isSome = dhas ks q := by
      rw [e]
      cases hg : dget ks vs q with
      | none => rw [hg] at m; rw [m]; rfl
      | some d => rw [hg] at m; obtain ⟨_, _, m, _⟩ := m; rw [m]; rfl
    rw [ev]
    exact h _ (I.tok _)
  · subst e2
    refine wpAny_in_heap (room9 hu) is sy dd ?_
    have ev : (atKey xs x).isSome = dhas ks q := by
      rw [e]
      cases hg : dget ks vs q with
      | none => rw [hg] at m; rw [m]; rfl
      | some d => rw [hg] at m; obtain ⟨_, _, m, _⟩ := m; rw [m]; rfl
    rw [ev]
    exact h _ (I.tok _)
theorem dd_notin (hu : A.units + 9 < cLine) (I : Inv X pins σ H s) (hH : H p = some (rawO p es ep)) (sy : (p == sysModules) = false) (g : KeysGood ks) (en : Ents X.K X.w α st H ks es.toList) (rl : RpL X.K X.w α st H vs us) (vl : Vals us (es.toList.map (·.val))) (rq : Rp X.K X.w α st H q y) (ry : RelV y u) (hk : keyOk q = true) (hs : sortOk ks q = true)
    {Q : Value → Shared → Prop} (h : ∀ s', Inv X pins σ H s' → Q (.bool (!dhas ks q)) s') : wpAny (model X.prog X.w) A (compareOp .NotIn u (.ref p)) Q E s := by
  have e := dhas_get (q := q) (dd_len en rl vl)
  rcases dd_ask I hH g en rl vl rq ry hk hs with ⟨kvs, dd, is, m⟩ | ⟨xs, x, a, e1, e2, dd, is, m⟩
  · refine wpAny_notIn_of is sy dd.mapOf ?_
    have ev : (valueAt kvs (lk q)).isSome = dhas ks q := by
      rw [e]
      cases hg : dget ks vs q with
      | none => rw [hg] at m; rw [m]; rfl
      | some d => rw [hg] at m; obtain ⟨_, _, m, _⟩ := m; rw [m]; rfl
    rw [ev]
    exact h _ (I.tok _)
  · subst e2
    refine wpAny_notIn_heap (room9 hu) is sy dd ?_
    have ev : (atKey xs x).isSome = dhas ks q := by
      rw [e]
      cases hg : dget ks vs q with
      | none => rw [hg] at m; rw [m]; rfl
      | some d => rw [hg] at m; obtain ⟨_, _, m, _⟩ := m; rw [m]; rfl
    rw [ev]
    exact h _ (I.tok _)
theorem dd_get {d : D} (hu : A.units + 9 < cLine) (I : Inv X pins σ H s) (hH : H p = some (rawO p es ep)) (g : KeysGood ks) (en : Ents X.K X.w α st H ks es.toList) (rl : RpL X.K X.w α st H vs us) (vl : Vals us (es.toList.map (·.val))) (rq : Rp X.K X.w α st H q y) (ry : RelV y u) (hk : keyOk q = true) (hs : sortOk ks q = true)
    (hg : dget ks vs q = some d) {Q : Value → Shared → Prop} (h : ∀ s' z x, Inv X pins σ H s' → RelV z x → Rp X.K X.w α st H d z → Q x s') : wpAny (model X.prog X.w) A (getItem (.ref p) u) Q E s := by
  rcases dd_ask I hH g en rl vl rq ry hk hs with ⟨kvs, dd, is, m⟩ | ⟨xs, x, a, e1, e2, dd, is, m⟩
  · rw [hg] at m
    obtain ⟨z, x, m1, m2, m3⟩ := m
    exact wpAny_getItem_of is dd.mapOf m1 (h _ z x (I.tok _) m2 m3)
  · rw [hg] at m
    subst e2
    obtain ⟨z, x, m1, m2, m3⟩ := m
    exact wpAny_getItem_heap (room9 hu) is dd m1 (h _ z _ (I.tok _) m2 m3)
/-- d.get(q[, x]) -/
theorem dd_get1 (hu : A.units + 9 < cLine) (I : Inv X pins σ H s) (hH : H p = some (rawO p es ep)) (sy : (p == sysModules) = false) (g : KeysGood ks) (en : Ents X.K X.w α st H ks es.toList) (rl : RpL X.K X.w α st H vs us) (vl : Vals us (es.toList.map (·.val))) (rq : Rp X.K X.w α st H q y) (ry : RelV y u) (hk : keyOk q = true) (hs : sortOk ks q = true)
    {Q : Value → Shared → Prop} (h : ∀ s' z x, Inv X pins σ H s' → RelV z x → Rp X.K X.w α st H ((dget ks vs q).getD .none) z → Q x s') : wpAny (model X.prog X.w) A (call (.builtin "dict.get") [.ref p, u]) Q E s := by
  have hT : s.TypeIs (.ref p) "dict" := (raw_at I hH).typeIs
  rcases dd_ask I hH g en rl vl rq ry hk hs with ⟨kvs, dd, is, m⟩ | ⟨xs, x, a, e1, e2, dd, is, m⟩
  · refine call_meetsIn PySem.F.slot_dict_get hT PySem.F.entry_dict_get (PySem.F.args_dict_get_2 _ _) (meets_dict_get (mixKind X.prog X.w) p is sy) ⟨_, dd.mapOf, ?_⟩
    cases hg : dget ks vs q with
    | none => rw [hg] at m h; rw [m]; exact h _ .non _ (I.tok _) rfl .none
    | some d => rw [hg] at m h; obtain ⟨z, x, m1, m2, m3⟩ := m; rw [m1]; exact h _ z x (I.tok _) m2 m3
  · subst e2
    refine call_meetsIn PySem.F.slot_dict_get hT PySem.F.entry_dict_get (PySem.F.args_dict_get_2 _ _) (meetsH_dict_get (nestedKind X.prog X.w) p a sy) ⟨room9 hu, x, xs, is, dd, ?_⟩
    cases hg : dget ks vs q with
    | none => rw [hg] at m h; rw [m]; exact h _ .non _ (I.tok _) rfl .none
    | some d => rw [hg] at m h; obtain ⟨z, x, m1, m2, m3⟩ := m; rw [m1]; exact h _ z _ (I.tok _) m2 m3
theorem dd_get2 {f : D} {fv : V} {fu : Value} (rf : Rp X.K X.w α st H f fv) (rfu : RelV fv fu) (hu : A.units + 9 < cLine) (I : Inv X pins σ H s) (hH : H p = some (rawO p es ep)) (sy : (p == sysModules) = false) (g : KeysGood ks) (en : Ents X.K X.w α st H ks es.toList) (rl : RpL X.K X.w α st H vs us) (vl : Vals us (es.toList.map (·.val))) (rq : Rp X.K X.w α st H q y) (ry : RelV y u) (hk : keyOk q = true) (hs : sortOk ks q = true)
    {Q : Value → Shared → Prop} (h : ∀ s' z x, Inv X pins σ H s' → RelV z x → Rp X.K X.w α st H ((dget ks vs q).getD f) z → Q x s') : wpAny (model X.prog X.w) A (call (.builtin "dict.get") [.ref p, u, fu]) Q E s := by
  have hT : s.TypeIs (.ref p) "dict" := (raw_at I hH).typeIs
  rcases dd_ask I hH g en rl vl rq ry hk hs with ⟨kvs, dd, is, m⟩ | ⟨xs, x, a, e1, e2, dd, is, m⟩
  · refine call_meetsIn PySem.F.slot_dict_get hT PySem.F.entry_dict_get (PySem.F.args_dict_get_3 _ _ _) (meets_dict_get_default (mixKind X.prog X.w) p is sy fu) ⟨_, dd.mapOf, ?_⟩
    cases hg : dget ks vs q with
    | none => rw [hg] at m h; rw [m]; exact h _ fv _ (I.tok _) rfu rf
    | some d => rw [hg] at m h; obtain ⟨z, x, m1, m2, m3⟩ := m; rw [m1]; exact h _ z x (I.tok _) m2 m3
  · subst e2
    refine call_meetsIn PySem.F.slot_dict_get hT PySem.F.entry_dict_get (PySem.F.args_dict_get_3 _ _ _) (meetsH_dict_get_default (nestedKind X.prog X.w) p a sy fu) ⟨room9 hu, x, xs, is, dd, ?_⟩
    cases hg : dget ks vs q with
    | none => rw [hg] at m h; rw [m]; exact h _ fv _ (I.tok _) rfu rf
    | some d => rw [hg] at m h; obtain ⟨z, x, m1, m2, m3⟩ := m; rw [m1]; exact h _ z _ (I.tok _) m2 m3
/-- a raw dict's object changed -/
theorem raw_write {h' : Heap} {t' : Nat} {es' : Array DictEntry} {ep' : Nat} (I : Inv X pins σ H s) (hH : H p = some (rawO p es ep)) (hs : Heap.SameBut p s.heap h') (hr : h'.DictRaw p es' ep') : Inv X pins σ (upd H p (rawO p es' ep')) { s with heap := h', toks := t' } := by
  refine d_write I (by rw [hH]; exact True.intro) hs (let ⟨o, ho, _⟩ := hr; ⟨o, ho⟩) ?_
  show ObjOk X.prog X.w _ h' p (.ext fun h => h.DictRaw p es' ep')
  exact ⟨hr, (let ⟨o, ho, _⟩ := hr; ⟨o, ho⟩), fun h1 h2 a e => a.at e⟩
/-- d[q] = x -/
theorem dd_put {d : D} {z : V} {x : Value} (hu : A.units + 9 < cLine) (I : Inv X pins σ H s) (hH : H p = some (rawO p es ep)) (g : KeysGood ks) (en : Ents X.K X.w α st H ks es.toList) (rl : RpL X.K X.w α st H vs us) (vl : Vals us (es.toList.map (·.val))) (rq : Rp X.K X.w α st H q y) (ry : RelV y u) (rd : Rp X.K X.w α st H d z) (rz : RelV z x)
    (hk : keyOk q = true) (hs : sortOk ks q = true) (hl : ks.length < sizeLine) {Q : Unit → Shared → Prop}
    (h : ∀ s' es' ep' us', Inv X pins σ (upd H p (rawO p es' ep')) s' → Ents X.K X.w α st H (dput ks vs q d).1 es'.toList → RpL X.K X.w α st H (dput ks vs q d).2 us' → Vals us' (es'.toList.map (·.val)) → Q () s') : wpAny (model X.prog X.w) A (setItem (.ref p) u x) Q E s := by
  obtain ⟨c, k, hc, hx, hd⟩ := keyOk_some hk
  have hle := sort_all g hs hc
  have hn := dd_len en rl vl
  have ez : ks.length = es.toList.length := en.length
  cases c with
  | false =>
    have dd := leafDict (P := X.prog) g hle en (raw_at I hH)
    obtain ⟨nk, h1, h2, _⟩ := g.keys
    obtain ⟨us', g1, g2, g3⟩ := leaf_put hle hc (lk_map_nodup hle h1 h2) hn rl vl rd rz
    refine wpAny_setItem_pairs (hsz := by rw [List.length_zip, List.length_map, List.length_map, ← ez]; omega) (leaf_is hc rq ry) dd fun h' dd' hsb => ?_
    obtain ⟨o, es', ep', ho, hxo, hdt, kk, pp, _⟩ := dd'
    have hle' : ∀ k ∈ (dput ks vs q d).1, k.sort = some false := by
      unfold dput
      split
      · exact hle
      · intro k hk
        rcases List.mem_append.mp hk with h4 | h4
        · exact hle k h4
        · have : k = q := by simpa using h4
          subst this
          exact hc
    obtain ⟨k1, k2⟩ := ents_leaf (K := X.K) (w := X.w) (α := α) (st := st) (H := H) (P := X.prog) hle' g3 pp fun e he => kk e (by simpa using he)
    exact h _ es' ep' us' (raw_write I hH hsb ⟨o, ho, hxo, hdt⟩) k1 g1 (by rw [k2]; exact g2)
  | true =>
    obtain ⟨xs, h1, h2, h3⟩ := tupDict (P := X.prog) I g hle en (raw_at I hH)
    obtain ⟨a, e1, e2, h4⟩ := tup_is (P := X.prog) I hc hx hd rq ry
    subst e1 e2
    have vl' := vl
    rw [h1, vals_of_ents] at vl'
    have nd : (xs.map (·.1)).Nodup := h3.choose_spec.choose_spec.choose_spec.2.2.2.2.2
    obtain ⟨us', g1, g2, g3⟩ := tup_put h2 hx rq nd hn rl vl' rd rz
    refine wpAny_setItem_heap (hsz := by have := congrArg List.length h1; rw [List.length_map] at this; omega) (room9 hu) h4 h3 fun h' dd' hsb => ?_
    obtain ⟨o, es', ep', ho, hxo, hdt, hes, _, _⟩ := dd'
    have k1 := TK.ents (P := X.prog) g3
    rw [← hes] at k1
    exact h _ es' ep' us' (raw_write I hH hsb ⟨o, ho, hxo, hdt⟩) k1 g1 (by rw [hes, vals_of_ents]; exact g2)
end
end DL
end

section
set_option Elab.async false
set_option linter.all false
set_option maxRecDepth 100000
set_option maxHeartbeats 4000000
/-! DL, part i: comparisons, subscripts, stores, as rules. -/
namespace DL
open PySem PySem.Spec PyProof.Rows L2

section
variable {X : Cx} {w : World} {cA : Nat → Addr}
theorem all_pys {K : PySem.W.Frag} {pins : List (Addr × Obj)} {σ : L2.St} {H : Hp} {s : Shared} {α : Al} {st : Sto} {b : D} {y : V} {u : Value} (I : Inv X pins σ H s) (R : RS X.K w cA α st H) (rb : Rp X.K w α st H b y) (ry : RelV y u) {xs : List D} {ps : List PyData} (hp : D.pys xs = some ps) :
    (top st b = .tup xs → ∃ as, Reads s.heap u (.tuple ps) as ∧ PyData.plainAll ps = true) ∧ (top st b = .lst xs → ∃ as, Reads s.heap u (.list ps) as ∧ PyData.plainAll ps = true) := by
  refine ⟨fun e => ?_, fun e => ?_⟩
  · obtain ⟨as, r, pl⟩ := reads_top (p := .tuple ps) I R rb ry (by rw [e]; dsimp only [D.py]; rw [hp]; rfl)
    exact ⟨as, r, pl⟩
  · obtain ⟨as, r, pl⟩ := reads_top (p := .list ps) I R rb ry (by rw [e]; dsimp only [D.py]; rw [hp]; rfl)
    exact ⟨as, r, pl⟩
theorem op_cmp (hu : X.A.units + 100 < cLine) (op : COp) : OpR X (compareOp (pyC op)) (r2 X.K X.w cA (gCmp op)) := by
  intro pins s σ H x y v u Q I rx ry h
  obtain ⟨α, st, a, b, d, st', R, ra, rb, e, P⟩ := h
  have hst : st' = st := by
    unfold gCmp at e
    cases hq : cmpD st op a b with
    | none => rw [hq] at e; cases e
    | some r => rw [hq] at e; cases e; rfl
  subst hst
  obtain ⟨r, hr, q⟩ := post_bool R e P
  have fin : ∀ s', Inv X pins σ H s' → EP X pins σ Q (.bool r) s' := fun s' I' => ⟨.bl r, H, I', rfl, q⟩
  clear e P
  cases op with
  | eq =>
    obtain ⟨p1, p2, e1, e2, hd, hv⟩ := eqPy_some (show eqPy (top st' a) (top st' b) = some r from hr)
    obtain ⟨as, r1, pl1⟩ := reads_top I R ra rx e1
    obtain ⟨bs, r2, pl2⟩ := reads_top I R rb ry e2
    refine SeqAt.eq_plain r1 r2 pl1 pl2 (by have : min p1.depth p2.depth ≤ p1.depth := Nat.min_le_left _ _; omega) ?_
    rw [← hv]
    exact fin s I
  | ne =>
    have hr : (eqPy (top st' a) (top st' b)).map (fun r => !r) = some r := hr
    cases hq : eqPy (top st' a) (top st' b) with
    | none => rw [hq] at hr; cases hr
    | some t =>
      rw [hq] at hr
      have hr : (!t) = r := Option.some.inj hr
      subst hr
      obtain ⟨p1, p2, e1, e2, hd, hv⟩ := eqPy_some hq
      obtain ⟨as, r1, pl1⟩ := reads_top I R ra rx e1
      obtain ⟨bs, r2, pl2⟩ := reads_top I R rb ry e2
      refine SeqAt.ne_plain r1 r2 pl1 pl2 (by have : min p1.depth p2.depth ≤ p1.depth := Nat.min_le_left _ _; omega) ?_
      rw [← hv]
      exact fin s I
  | lt =>
    dsimp only [cmpD] at hr
    split at hr
    · cases hr; cases ra; cases rb
      exact op_lt pins s σ H _ _ v u Q I rx ry ⟨_, _, rfl, rfl, q⟩
    · cases hr
  | le =>
    dsimp only [cmpD] at hr
    split at hr
    · cases hr; cases ra; cases rb
      exact op_le pins s σ H _ _ v u Q I rx ry ⟨_, _, rfl, rfl, q⟩
    · cases hr
  | gt =>
    dsimp only [cmpD] at hr
    split at hr
    · cases hr; cases ra; cases rb
      exact op_gt pins s σ H _ _ v u Q I rx ry ⟨_, _, rfl, rfl, q⟩
    · cases hr
  | ge =>
    dsimp only [cmpD] at hr
    split at hr
    · cases hr; cases ra; cases rb
      exact op_ge pins s σ H _ _ v u Q I rx ry ⟨_, _, rfl, rfl, q⟩
    · cases hr
  | is =>
    dsimp only [cmpD] at hr
    split at hr
    · cases hr; cases ra; cases rb
      exact op_isN pins s σ H _ _ v u Q I rx ry ⟨rfl, q⟩
    · cases hr; cases rb
      refine op_isN pins s σ H _ _ v u Q I rx ry ⟨rfl, ?_⟩
      have ne : x ≠ .non := by
        rintro rfl
        rename_i hne
        cases ra
        exact hne rfl
      rw [decide_eq_false ne]
      exact q
    · cases hr; cases ra; cases rb
      exact op_isBl pins s σ H _ _ v u Q I rx ry ⟨_, _, rfl, rfl, q⟩
    · cases hr
  | isnot =>
    dsimp only [cmpD] at hr
    split at hr
    · cases hr; cases ra; cases rb
      exact op_notN pins s σ H _ _ v u Q I rx ry ⟨rfl, q⟩
    · cases hr; cases rb
      refine op_notN pins s σ H _ _ v u Q I rx ry ⟨rfl, ?_⟩
      have ne : x ≠ .non := by
        rintro rfl
        rename_i hne
        cases ra
        exact hne rfl
      rw [decide_eq_false ne]
      exact q
    · cases hr; cases ra; cases rb
      exact op_notBl pins s σ H _ _ v u Q I rx ry ⟨_, _, rfl, rfl, q⟩
    · cases hr
  | isin =>
    dsimp only [cmpD] at hr
    split at hr
    · rename_i ks vs ht
      split at hr
      · rename_i hk
        rw [Bool.and_eq_true] at hk
        cases hr
        obtain ⟨p, es, ep, us, rfl, h1, h2, h3, h4, h5, h6⟩ := top_dct R rb ht
        obtain rfl : u = Value.ref p := ry
        exact dd_in (by omega) I h1 h2 h3 h4 h5 h6 ra rx hk.1 hk.2 fin
      · cases hr
    · rename_i xs ht
      split at hr
      · rename_i ps px hps hpx
        split at hr
        · rename_i hd
          cases hr
          obtain ⟨as, r1, pl1⟩ := (all_pys I R rb ry hps (K := X.K)).1 ht
          obtain ⟨bs, r2, pl2⟩ := rp_reads I _ _ _ _ ra rx hpx
          exact SeqAt.in_tuple_data r1 r2 pl1 pl2 (by have : min (PyData.depthAll ps) px.depth ≤ px.depth := Nat.min_le_right _ _; omega) (fin s I)
        · cases hr
      · cases hr
    · rename_i xs ht
      split at hr
      · rename_i ps px hps hpx
        split at hr
        · rename_i hd
          cases hr
          obtain ⟨as, r1, pl1⟩ := (all_pys I R rb ry hps (K := X.K)).2 ht
          obtain ⟨bs, r2, pl2⟩ := rp_reads I _ _ _ _ ra rx hpx
          exact SeqAt.in_list_data r1 r2 pl1 pl2 (by have : min (PyData.depthAll ps) px.depth ≤ px.depth := Nat.min_le_right _ _; omega) (fin s I)
        · cases hr
      · cases hr
    · cases hr
  | notin =>
    dsimp only [cmpD] at hr
    split at hr
    · rename_i ks vs ht
      split at hr
      · rename_i hk
        rw [Bool.and_eq_true] at hk
        cases hr
        obtain ⟨p, es, ep, us, rfl, h1, h2, h3, h4, h5, h6⟩ := top_dct R rb ht
        obtain rfl : u = Value.ref p := ry
        exact dd_notin (by omega) I h1 h2 h3 h4 h5 h6 ra rx hk.1 hk.2 fin
      · cases hr
    · rename_i xs ht
      split at hr
      · rename_i ps px hps hpx
        split at hr
        · rename_i hd
          cases hr
          obtain ⟨as, r1, pl1⟩ := (all_pys I R rb ry hps (K := X.K)).1 ht
          obtain ⟨bs, r2, pl2⟩ := rp_reads I _ _ _ _ ra rx hpx
          exact SeqAt.notIn_tuple_data r1 r2 pl1 pl2 (by have : min (PyData.depthAll ps) px.depth ≤ px.depth := Nat.min_le_right _ _; omega) (fin s I)
        · cases hr
      · cases hr
    · rename_i xs ht
      split at hr
      · rename_i ps px hps hpx
        split at hr
        · rename_i hd
          cases hr
          obtain ⟨as, r1, pl1⟩ := (all_pys I R rb ry hps (K := X.K)).2 ht
          obtain ⟨bs, r2, pl2⟩ := rp_reads I _ _ _ _ ra rx hpx
          exact SeqAt.notIn_list_data r1 r2 pl1 pl2 (by have : min (PyData.depthAll ps) px.depth ≤ px.depth := Nat.min_le_right _ _; omega) (fin s I)
        · cases hr
      · cases hr
    · cases hr

/-! ### subscripts -/
theorem ixOf_eq (n : Nat) (i : Int) : ixOf n i = ixN n i := rfl
theorem atI_ix {α : Type} {xs : List α} {i : Int} {j : Nat} {v : α} (h : ixOf xs.length i = some j) (e : xs[j]? = some v) : atI xs i = some v := by
  unfold atI
  rw [← ixOf_eq, h]
  exact e
theorem ixOf_map {n m : Nat} {i : Int} (h : n = m) : ixOf n i = ixOf m i := by rw [h]
theorem top_scr {K : PySem.W.Frag} {H : Hp} {α : Al} {st : Sto} {a : D} {x : V} {ns : List Int} (r : Rp K w α st H a x) (e : top st a = .scr ns) : ∃ p, x = .ref p ∧ SqL K H p (ns.map V.int) := by
  cases a with
  | ref n =>
    unfold top at e
    dsimp only at e
    split at e <;> cases e
  | scr xs =>
    cases e
    cases r with
    | scr h =>
      rcases h with h | ⟨h, _⟩
      · exact ⟨_, rfl, sqL_k h H⟩
      · exact ⟨_, rfl, .inl h⟩
  | _ => cases e
theorem idx_some {st st' : Sto} {a b d : D} (e : gIdx a b st = some (d, st')) : idxD st a b = some d ∧ st' = st := by
  unfold gIdx at e
  cases h : idxD st a b with
  | none => rw [h] at e; cases e
  | some z => rw [h] at e; cases e; exact ⟨rfl, rfl⟩
theorem ix_idx (hu : X.A.units + 100 < cLine) : IxR X (r2 X.K X.w cA gIdx) := by
  intro value slice pins s σ H x y v u Q I rx ry h hs
  obtain ⟨α, st, a, b, d, st', R, ra, rb, e, P⟩ := h
  obtain ⟨hi, rfl⟩ := idx_some e
  have own : ∀ z, Rp X.K X.w α st' H d z → Q z H := fun z r => P α H z .refl R r
  unfold idxD at hi
  split at hi
  · rename_i xs k ht
    cases rb
    obtain ⟨p, vs, rfl, h1, h2⟩ := top_tup ra ht
    obtain ⟨j, hj, hz⟩ := Option.bind_eq_some_iff.mp hi
    obtain ⟨z, ez, rz⟩ := h2.get hz
    exact ix_tup value slice pins s σ H _ _ v u Q I rx ry ⟨p, vs, k, z, rfl, rfl, h1.t, atI_ix (by rw [← h2.length]; exact hj) ez, own z rz⟩ hs
  · rename_i xs k ht
    cases rb
    obtain ⟨p, vs, rfl, h1, h2⟩ := top_lst R ra ht
    obtain ⟨j, hj, hz⟩ := Option.bind_eq_some_iff.mp hi
    obtain ⟨z, ez, rz⟩ := h2.get hz
    exact ix_list value slice pins s σ H _ _ v u Q I rx ry ⟨p, vs, k, z, rfl, rfl, sqL_rd h1, atI_ix (by rw [← h2.length]; exact hj) ez, own z rz⟩ hs
  · rename_i xs k ht
    cases rb
    obtain ⟨p, rfl, h1⟩ := top_scr ra ht
    obtain ⟨j, hj, hz⟩ := Option.bind_eq_some_iff.mp hi
    obtain ⟨n, hn, hz⟩ := Option.map_eq_some_iff.mp hz
    subst hz
    exact ix_list value slice pins s σ H _ _ v u Q I rx ry ⟨p, _, k, .int n, rfl, rfl, h1, atI_ix (by rw [List.length_map]; exact hj) (by rw [List.getElem?_map, hn]; rfl), own _ (.int n)⟩ hs
  · rename_i z k ht
    cases rb
    have hx := top_str ra ht
    subst hx
    split at hi
    · rename_i hl
      obtain ⟨j, hj, hz⟩ := Option.bind_eq_some_iff.mp hi
      obtain ⟨c, hc, hz⟩ := Option.map_eq_some_iff.mp hz
      subst hz
      exact ix_str value slice pins s σ H _ _ v u Q I rx ry ⟨z, k, c, rfl, rfl, line_big hl, atI_ix (by rw [← hj]; simp [Str.length]) hc, own _ (.str _)⟩ hs
    · cases hi
  · rename_i ks vs ht
    split at hi
    · rename_i hk
      rw [Bool.and_eq_true] at hk
      obtain ⟨p, es, ep, us, rfl, h1, h2, h3, h4, h5, h6⟩ := top_dct R ra ht
      obtain rfl : v = Value.ref p := rx
      exact tail_any (raw_at I h1).typeIs slot_dict_getitem.lookup (dd_get (by omega) I h1 h3 h4 h5 h6 rb ry hk.1 hk.2 hi fun s' z x I' rz rd => ⟨z, H, I', rz, own z rd⟩) hs
    · cases hi
  · cases hi
end
end DL
end

section
set_option Elab.async false
set_option linter.all false
set_option maxRecDepth 100000
set_option maxHeartbeats 4000000
/-! DL, part j: stores into cells; attributes. -/
namespace DL
open PySem PySem.Spec PyProof.Rows L2

section
variable {X : Cx} {w : World} {cA : Nat → Addr}
/-- a store of cells: what stands behind it -/
def rSet (K : PySem.W.Frag) (w : World) (cA : Nat → Addr) (g : D → D → D → Sto → Option Sto) : TSet := fun o i v H Q => ∃ α st a b d st', RS K w cA α st H ∧ Rp K w α st H a o ∧ Rp K w α st H b i ∧ Rp K w α st H d v ∧ g a b d st = some st' ∧ ∀ α' H', Go α st H α' st' H' → RS K w cA α' st' H' → Q H'
theorem not_rd_lst {H : Hp} {a : Addr} {vs : List V} (h : H a = some (.lst vs)) : ∀ o xs, H a ≠ some (.frz o (.tup xs)) := fun o xs r => by
  rw [h] at r; cases r
theorem not_rd_raw {H : Hp} {a b : Addr} {es : Array DictEntry} {ep : Nat} (h : H a = some (rawO b es ep)) : ∀ o xs, H a ≠ some (.frz o (.tup xs)) := fun o xs r => by
  rw [h] at r; exact nomatch Option.some.inj r
theorem not_rd_ins {H : Hp} {a C dx : Addr} {fs : List (Str × V)} (h : H a = some (.ins C dx fs)) : ∀ o xs, H a ≠ some (.frz o (.tup xs)) := fun o xs r => by
  rw [h] at r; cases r
theorem set_set (hu : X.A.units + 100 < cLine) : PSet X (rSet X.K X.w cA fun a b d s => setD s a b d) := by
  intro pins s σ H o i v ov iv u Q I ro ri rv h
  obtain ⟨α, st, a, b, d, st', R, ra, rb, rd, e, P⟩ := h
  unfold setD at e
  dsimp only at e
  split at e
  · rename_i n
    cases ra with
    | @ref _ p hp =>
      split at e
      · rename_i xs k hn
        split at e
        · rename_i j hj
          cases e
          cases R.cell n p _ hp hn with
          | @lst vs _ h1 h2 =>
            have G : Go α st H α (st.set n (.lst (xs.set j d))) (upd H p (.lst (vs.set j v))) := Go.wr R hp hn (by intro z; cases z) rfl (not_rd_lst h1)
            have R' : RS X.K X.w cA α (st.set n (.lst (xs.set j d))) (upd H p (.lst (vs.set j v))) := RS.wr R hp hn (by intro z; cases z) rfl (not_rd_lst h1) (.lst upd_same ((G.rpL _ _ h2).set (G.rp _ _ rd) j))
            cases rb
            exact set_list pins s σ H _ _ v ov iv u Q I ro ri rv ⟨p, vs, k, j, rfl, rfl, h1, by rw [← h2.length]; exact hj, P _ _ G R'⟩
        · cases e
      · rename_i bb bx by_ ks vs hn
        split at e
        · rename_i hk
          simp only [Bool.and_eq_true] at hk
          cases e
          cases R.cell n p _ hp hn with
          | @dct es ep _ _ us h1 h2 h3 h4 h5 h6 =>
            have eo : ov = Value.ref p := ro
            subst eo
            have hl : ks.length < sizeLine := Nat.lt_of_le_of_lt (line_le hk.2) (by rw [sizeLine_eq]; decide)
            refine dd_put (by omega) I h1 h3 h4 h5 h6 rb ri rd rv hk.1.1 hk.1.2 hl fun s' es' ep' us' I' k1 k2 k3 => ⟨_, I', ?_⟩
            have G : Go α st H α (st.set n (.dct (dput ks vs bb d).1 (dput ks vs bb d).2)) (upd H p (rawO p es' ep')) := Go.wr R hp hn (by intro z; cases z) rfl (not_rd_raw h1)
            have R' : RS X.K X.w cA α (st.set n (.dct (dput ks vs bb d).1 (dput ks vs bb d).2)) (upd H p (rawO p es' ep')) := RS.wr R hp hn (by intro z; cases z) rfl (not_rd_raw h1)
              (.dct upd_same h2 (keysGood_put h3 hk.1.1 hk.1.2 hl) (G.ents _ _ k1) (G.rpL _ _ k2) k3)
            exact P _ _ G R'
        · cases e
      · cases e
  · cases e

/-! ### attributes -/
/-- what is asked of the classes: no attribute of an instance is a class's -/
structure ClsOk (K : PySem.W.Frag) (C : Addr) (fs : List Str) : Prop where
  cls : Cls K C
  no : ∀ f ∈ fs, NoAttr K C f
theorem fldV_lookup {fs : List (Str × D)} {fvs : List (Str × V)} {K : PySem.W.Frag} {α : Al} {st : Sto} {H : Hp} {f : Str} {d : D} (h : fldV fs fvs) (r : RpL K w α st H (fs.map (·.2)) (fvs.map (·.2))) (e : fs.lookup f = some d) : ∃ v, fvs.lookup f = some v ∧ Rp K w α st H d v := by
  induction fs generalizing fvs with
  | nil => cases e
  | cons p fs ih =>
    obtain ⟨g, y⟩ := p
    unfold fldV at h
    cases fvs with
    | nil => cases h
    | cons q fvs =>
      obtain ⟨g', z⟩ := q
      rw [List.map_cons, List.map_cons] at h
      obtain ⟨h1, h2⟩ := List.cons.inj h
      have h1 : g = g' := h1
      subst h1
      cases r with
      | cons r1 r2 =>
        rw [List.lookup_cons] at e ⊢
        by_cases hf : (f == g) = true
        · rw [hf] at e ⊢
          cases e
          exact ⟨z, rfl, r1⟩
        · have hf' : (f == g) = false := by simpa using hf
          rw [hf'] at e ⊢
          exact ih h2 r2 e
theorem fldV_none {fs : List (Str × D)} {fvs : List (Str × V)} {f : Str} (h : fldV fs fvs) (e : fs.lookup f = Option.none) : fvs.lookup f = Option.none := by
  induction fs generalizing fvs with
  | nil =>
    cases fvs with
    | nil => rfl
    | cons _ _ => cases h
  | cons p fs ih =>
    obtain ⟨g, y⟩ := p
    unfold fldV at h
    cases fvs with
    | nil => cases h
    | cons q fvs =>
      obtain ⟨g', z⟩ := q
      rw [List.map_cons, List.map_cons] at h
      obtain ⟨h1, h2⟩ := List.cons.inj h
      have h1 : g = g' := h1
      subst h1
      rw [List.lookup_cons] at e ⊢
      by_cases hf : (f == g) = true
      · rw [hf] at e; cases e
      · have hf' : (f == g) = false := by simpa using hf
        rw [hf'] at e ⊢
        exact ih h2 e
theorem putFD_rel {fs : List (Str × D)} {fvs : List (Str × V)} {K : PySem.W.Frag} {α : Al} {st : Sto} {H : Hp} {f : Str} {d : D} {v : V} (h : fldV fs fvs) (r : RpL K w α st H (fs.map (·.2)) (fvs.map (·.2))) (rd : Rp K w α st H d v) :
    fldV (putFD f d fs) (putF f v fvs) ∧ RpL K w α st H ((putFD f d fs).map (·.2)) ((putF f v fvs).map (·.2)) := by
  induction fs generalizing fvs with
  | nil =>
    cases fvs with
    | nil => exact ⟨rfl, .cons rd .nil⟩
    | cons _ _ => cases h
  | cons p fs ih =>
    obtain ⟨g, y⟩ := p
    unfold fldV at h
    cases fvs with
    | nil => cases h
    | cons q fvs =>
      obtain ⟨g', z⟩ := q
      rw [List.map_cons, List.map_cons] at h
      obtain ⟨h1, h2⟩ := List.cons.inj h
      have h1 : g = g' := h1
      subst h1
      cases r with
      | cons r1 r2 =>
        unfold putFD putF
        by_cases hf : g = f
        · rw [if_pos hf, if_pos hf]
          exact ⟨congrArg (List.cons g) h2, .cons rd r2⟩
        · rw [if_neg hf, if_neg hf]
          obtain ⟨i1, i2⟩ := ih h2 r2
          exact ⟨congrArg (List.cons g) i1, .cons r1 i2⟩
end
end DL
end

section
set_option Elab.async false
set_option linter.all false
set_option maxRecDepth 100000
set_option maxHeartbeats 4000000
/-! DL, part k: built-in functions, the simple ones. -/
namespace DL
open PySem PySem.Spec PyProof.Rows L2

theorem gBi_some {b : Bi} {c : Bool} {es : List D} {s s' : Sto} {d : D} (e : gBi b c es s = some (d, s')) : ∃ z, biD s b es = some z ∧ laid c z s = (d, s') := by
  unfold gBi at e
  cases h : biD s b es with
  | none => rw [h] at e; cases e
  | some z => rw [h] at e; exact ⟨z, rfl, Option.some.inj e⟩
theorem allInts_map : ∀ {xs : List D} {ns : List Int}, allInts xs = some ns → xs = ns.map D.int
  | [], ns, h => by cases h; rfl
  | .int i :: r, ns, h => by
    dsimp only [allInts] at h
    obtain ⟨ms, h1, h2⟩ := Option.map_eq_some_iff.mp h
    subst h2
    rw [List.map_cons, ← allInts_map h1]
  | .none :: r, ns, h => by cases h
  | .bool _ :: r, ns, h => by cases h
  | .str _ :: r, ns, h => by cases h
  | .tup _ :: r, ns, h => by cases h
  | .lst _ :: r, ns, h => by cases h
  | .dct _ _ :: r, ns, h => by cases h
  | .ref _ :: r, ns, h => by cases h
  | .scr _ :: r, ns, h => by cases h
theorem allBools_map : ∀ {xs : List D} {ns : List Bool}, allBools xs = some ns → xs = ns.map D.bool
  | [], ns, h => by cases h; rfl
  | .bool i :: r, ns, h => by
    dsimp only [allBools] at h
    obtain ⟨ms, h1, h2⟩ := Option.map_eq_some_iff.mp h
    subst h2
    rw [List.map_cons, ← allBools_map h1]
  | .none :: r, ns, h => by cases h
  | .int _ :: r, ns, h => by cases h
  | .str _ :: r, ns, h => by cases h
  | .tup _ :: r, ns, h => by cases h
  | .lst _ :: r, ns, h => by cases h
  | .dct _ _ :: r, ns, h => by cases h
  | .ref _ :: r, ns, h => by cases h
  | .scr _ :: r, ns, h => by cases h

section
variable {K : PySem.W.Frag} {w : World} {cA : Nat → Addr} {α : Al} {st st' : Sto} {H : Hp}
theorem rpL_ints : ∀ {ns : List Int} {vs : List V}, RpL K w α st H (ns.map D.int) vs → vs = ns.map V.int
  | [], _, h => by cases h; rfl
  | n :: ns, _, h => by
    cases h with
    | cons h1 h2 =>
      cases h1
      rw [List.map_cons, rpL_ints h2]
theorem rpL_bools : ∀ {ns : List Bool} {vs : List V}, RpL K w α st H (ns.map D.bool) vs → vs = ns.map V.bl
  | [], _, h => by cases h; rfl
  | n :: ns, _, h => by
    cases h with
    | cons h1 h2 =>
      cases h1
      rw [List.map_cons, rpL_bools h2]
theorem ints_rpL : ∀ (ns : List Int), RpL K w α st H (ns.map D.int) (ns.map V.int)
  | [] => .nil
  | n :: ns => .cons (.int n) (ints_rpL ns)
theorem rpL1 {a : D} {xs : List V} (h : RpL K w α st H [a] xs) : ∃ x, xs = [x] ∧ Rp K w α st H a x := by
  cases h with
  | cons h1 h2 =>
    cases h2
    exact ⟨_, rfl, h1⟩
theorem rpL2 {a b : D} {xs : List V} (h : RpL K w α st H [a, b] xs) : ∃ x y, xs = [x, y] ∧ Rp K w α st H a x ∧ Rp K w α st H b y := by
  cases h with
  | cons h1 h2 =>
    obtain ⟨y, rfl, h3⟩ := rpL1 h2
    exact ⟨_, y, rfl, h1, h3⟩
/-- nothing new -/
theorem own_int {c : Bool} {i : Int} {d : D} (R : RS K w cA α st H) (e : laid c (.int i) st = (d, st')) {Q : VK} (P : Post K w cA α st H st' d Q) : Q (.int i) H := by
  rw [laid_own c (by intro _ z; cases z) (by intro _ _ z; cases z)] at e
  cases e
  exact P α H _ .refl R (.int i)
theorem own_bool {c : Bool} {i : Bool} {d : D} (R : RS K w cA α st H) (e : laid c (.bool i) st = (d, st')) {Q : VK} (P : Post K w cA α st H st' d Q) : Q (.bl i) H := by
  rw [laid_own c (by intro _ z; cases z) (by intro _ _ z; cases z)] at e
  cases e
  exact P α H _ .refl R (.bool i)
theorem own_str {c : Bool} {i : Str} {d : D} (R : RS K w cA α st H) (e : laid c (.str i) st = (d, st')) {Q : VK} (P : Post K w cA α st H st' d Q) : Q (.str i) H := by
  rw [laid_own c (by intro _ z; cases z) (by intro _ _ z; cases z)] at e
  cases e
  exact P α H _ .refl R (.str i)
/-- a new list -/
theorem post_lst {c : Bool} {ds : List D} {vs : List V} {p : Addr} {d : D} (R : RS K w cA α st H) (h : H p = none) (r : RpL K w α st H ds vs) (e : laid c (.lst ds) st = (d, st')) {Q : VK} (P : Post K w cA α st H st' d Q) : Q (.ref p) (upd H p (.lst vs)) := by
  obtain ⟨α', G, R', r'⟩ := laid_lst R h r c
  rw [e] at G R' r'
  exact P α' _ _ G R' r'
theorem post_dct {c : Bool} {ks ds : List D} {us : List V} {es : Array DictEntry} {ep : Nat} {p : Addr} {d : D} (R : RS K w cA α st H) (h : H p = none) (sy : (p == sysModules) = false) (kg : KeysGood ks) (en : Ents K w α st H ks es.toList) (r : RpL K w α st H ds us) (vl : Vals us (es.toList.map (·.val))) (e : laid c (.dct ks ds) st = (d, st')) {Q : VK} (P : Post K w cA α st H st' d Q) :
    Q (.ref p) (upd H p (rawO p es ep)) := by
  obtain ⟨α', G, R', r'⟩ := laid_dct (ep := ep) R h sy kg en r vl c
  rw [e] at G R' r'
  exact P α' _ _ G R' r'
end

section
variable {X : Cx} {w : World} {cA : Nat → Addr}
theorem call_len_raw2 {prog : Program} {A : Around} {E : Value → Shared → Prop} {s : Shared} {d : Addr} {es : Array DictEntry} {ep : Nat} {Q : Value → Shared → Prop} (hd : (d == sysModules) = false) (hm : s.heap.DictRaw d es ep) (hfit : (es.size : Int) < 2 ^ 63)
    (h : Q (.int es.size (s.toks + 1)) { s with toks := s.toks + 1 + 1 }) : wpAny (model prog w) A (call (.builtin "len") [.ref d]) Q E s := by
  have body : wpAny (model prog w) A.in1 (Builtin.«len» ⟨[.ref d], []⟩) (fun fin s' => ∃ r, fin = .done (.ret r) ∧ Q r s') E s := by
    unfold Builtin.«len»
    refine wpAny_bind (m := oneArg "len" _) (wpAny_pure ?_)
    refine wpAny_bind (wpAny_callSpecial?_slot (name := Str.ofString "__len__") hm.typeIs F.slot_dict_len (call_len_raw hd hm ?_))
    refine wpAny_bind (wpAny_holding (wpAny_pure ?_))
    refine wpAny_bind (wpAny_letGo ?_)
    show wpAny _ _ (if ((es.size : Nat) : Int) < 0 then _ else _) _ _ _
    rw [if_neg (by omega)]
    show wpAny _ _ (if ((es.size : Nat) : Int) ≥ 2 ^ 63 then _ else _) _ _ _
    rw [if_neg (by omega)]
    exact wpAny_bind (wpAny_mkInt (wpAny_pure ⟨_, rfl, h⟩))
  exact Calls.call_function_entry kind_len plain_len entry_len (args_len1 _) body
theorem call_lenD (c : Bool) : CallR X (.builtin "len") (rL X.K X.w cA (gBi .len c)) := by
  intro pins s σ H xs us Q I r h
  obtain ⟨α, st, as, d, st', R, ra, e, P⟩ := h
  obtain ⟨z, hz, e⟩ := gBi_some e
  rcases as with _ | ⟨a, _ | ⟨b, as⟩⟩
  · cases hz
  · obtain ⟨x, rfl, rx⟩ := rpL1 ra
    dsimp only [biD] at hz
    split at hz
    · rename_i ds ht
      cases hz
      obtain ⟨p, vs, rfl, h1, h2⟩ := top_tup rx ht
      refine call_len pins s σ H _ us Q I r ⟨_, vs.length, rfl, .inr ⟨vs, h1.t, rfl⟩, ?_⟩
      rw [← h2.length]
      exact own_int R e P
    · rename_i ds ht
      cases hz
      obtain ⟨p, vs, rfl, h1, h2⟩ := top_lst R rx ht
      refine call_len pins s σ H _ us Q I r ⟨_, vs.length, rfl, .inl ⟨vs, sqL_rd h1, rfl⟩, ?_⟩
      rw [← h2.length]
      exact own_int R e P
    · rename_i ks vs ht
      cases hz
      obtain ⟨p, es, ep, us', rfl, h1, h2, h3, h4, h5, h6⟩ := top_dct R rx ht
      rw [Vals.ref1 r]
      have hl : ks.length = es.size := by rw [h4.length, Array.length_toList]
      have hfit : (es.size : Int) < 2 ^ 63 := by
        have := h3.line
        rw [sizeLine_eq] at this
        omega
      refine call_len_raw2 h2 (raw_at I h1) hfit ⟨.int es.size, H, I.tok _, ⟨_, rfl⟩, ?_⟩
      rw [← hl]
      exact own_int R e P
    · rename_i ns ht
      cases hz
      obtain ⟨p, rfl, h1⟩ := top_scr rx ht
      refine call_len pins s σ H _ us Q I r ⟨_, _, rfl, .inl ⟨_, h1, rfl⟩, ?_⟩
      rw [List.length_map]
      exact own_int R e P
    · rename_i y ht
      have hx := top_str rx ht
      subst hx
      split at hz
      · rename_i hl
        cases hz
        exact call_len pins s σ H _ us Q I r ⟨_, y.length, rfl, ⟨line_big hl, rfl⟩, own_int R e P⟩
      · cases hz
    · cases hz
  · cases hz
theorem call_absD (c : Bool) : CallR X (.builtin "abs") (rL X.K X.w cA (gBi .abs c)) := by
  intro pins s σ H xs us Q I r h
  obtain ⟨α, st, as, d, st', R, ra, e, P⟩ := h
  obtain ⟨z, hz, e⟩ := gBi_some e
  rcases as with _ | ⟨a, _ | ⟨b, as⟩⟩
  · cases hz
  · obtain ⟨x, rfl, rx⟩ := rpL1 ra
    cases a with
    | int i =>
      cases hz
      cases rx
      exact call_abs pins s σ H _ us Q I r ⟨i, rfl, own_int R e P⟩
    | _ => cases hz
  · cases a <;> cases hz
theorem call_max2D (hc : X.calm = true) (c : Bool) : CallR X (.builtin "max") (rL X.K X.w cA (gBi .max2 c)) := by
  intro pins s σ H xs us Q I r h
  obtain ⟨α, st, as, d, st', R, ra, e, P⟩ := h
  obtain ⟨z, hz, e⟩ := gBi_some e
  rcases as with _ | ⟨a, _ | ⟨b, _ | ⟨b2, as⟩⟩⟩
  · cases hz
  · cases a <;> cases hz
  · obtain ⟨x, y, rfl, rx, ry⟩ := rpL2 ra
    cases a with
    | int i =>
      cases b with
      | int j =>
        cases hz
        cases rx
        cases ry
        exact call_max2 hc pins s σ H _ us Q I r ⟨i, j, rfl, own_int R e P⟩
      | _ => cases hz
    | _ => cases hz
  · cases a <;> cases b <;> cases hz
theorem call_min2D (hc : X.calm = true) (c : Bool) : CallR X (.builtin "min") (rL X.K X.w cA (gBi .min2 c)) := by
  intro pins s σ H xs us Q I r h
  obtain ⟨α, st, as, d, st', R, ra, e, P⟩ := h
  obtain ⟨z, hz, e⟩ := gBi_some e
  rcases as with _ | ⟨a, _ | ⟨b, _ | ⟨b2, as⟩⟩⟩
  · cases hz
  · cases a <;> cases hz
  · obtain ⟨x, y, rfl, rx, ry⟩ := rpL2 ra
    cases a with
    | int i =>
      cases b with
      | int j =>
        cases hz
        cases rx
        cases ry
        exact call_min2 hc pins s σ H _ us Q I r ⟨i, j, rfl, own_int R e P⟩
      | _ => cases hz
    | _ => cases hz
  · cases a <;> cases b <;> cases hz
theorem call_intD (c : Bool) : CallR X (.type "int") (rL X.K X.w cA (gBi .int c)) := by
  intro pins s σ H xs us Q I r h
  obtain ⟨α, st, as, d, st', R, ra, e, P⟩ := h
  obtain ⟨z, hz, e⟩ := gBi_some e
  rcases as with _ | ⟨a, _ | ⟨b, as⟩⟩
  · cases hz
  · obtain ⟨x, rfl, rx⟩ := rpL1 ra
    cases a with
    | int i =>
      cases hz
      cases rx
      exact call_int1 pins s σ H _ us Q I r (.inl ⟨i, rfl, own_int R e P⟩)
    | bool i =>
      cases hz
      cases rx
      exact call_int1 pins s σ H _ us Q I r (.inr ⟨i, rfl, own_int R e P⟩)
    | _ => cases hz
  · cases a <;> cases hz
theorem call_strD (c : Bool) : CallR X (.type "str") (rL X.K X.w cA (gBi .str c)) := by
  intro pins s σ H xs us Q I r h
  obtain ⟨α, st, as, d, st', R, ra, e, P⟩ := h
  obtain ⟨z, hz, e⟩ := gBi_some e
  rcases as with _ | ⟨a, _ | ⟨b, as⟩⟩
  · cases hz
  · obtain ⟨x, rfl, rx⟩ := rpL1 ra
    cases a with
    | int i =>
      dsimp only [biD] at hz
      split at hz
      · rename_i hl
        cases hz
        cases rx
        exact call_str_int pins s σ H _ us Q I r ⟨i, rfl, by omega, own_str R e P⟩
      · cases hz
    | _ => cases hz
  · cases a <;> cases hz
theorem call_sumD (hc : X.calm = true) (c : Bool) : CallR X (.builtin "sum") (rL X.K X.w cA (gBi .sum c)) := by
  intro pins s σ H xs us Q I r h
  obtain ⟨α, st, as, d, st', R, ra, e, P⟩ := h
  obtain ⟨z, hz, e⟩ := gBi_some e
  rcases as with _ | ⟨a, _ | ⟨b, as⟩⟩
  · cases hz
  · obtain ⟨x, rfl, rx⟩ := rpL1 ra
    dsimp only [biD] at hz
    split at hz
    · rename_i ds ht
      obtain ⟨ns, hn, hz⟩ := Option.map_eq_some_iff.mp hz
      subst hz
      obtain ⟨p, vs, rfl, h1, h2⟩ := top_lst R rx ht
      rw [allInts_map hn] at h2
      rw [rpL_ints h2] at h1
      exact cr_sum hc pins s σ H _ us Q I r ⟨p, ns, rfl, sqL_rd h1, own_int R e P⟩
    · cases hz
  · cases hz
theorem call_anyD (hc : X.calm = true) (c : Bool) : CallR X (.builtin "any") (rL X.K X.w cA (gBi .any c)) := by
  intro pins s σ H xs us Q I r h
  obtain ⟨α, st, as, d, st', R, ra, e, P⟩ := h
  obtain ⟨z, hz, e⟩ := gBi_some e
  rcases as with _ | ⟨a, _ | ⟨b, as⟩⟩
  · cases hz
  · obtain ⟨x, rfl, rx⟩ := rpL1 ra
    dsimp only [biD] at hz
    split at hz
    · rename_i ds ht
      obtain ⟨ns, hn, hz⟩ := Option.map_eq_some_iff.mp hz
      subst hz
      obtain ⟨p, vs, rfl, h1, h2⟩ := top_lst R rx ht
      rw [allBools_map hn] at h2
      rw [rpL_bools h2] at h1
      exact cr_any hc pins s σ H _ us Q I r ⟨p, ns, rfl, sqL_rd h1, own_bool R e P⟩
    · cases hz
  · cases hz
theorem call_allD (hc : X.calm = true) (c : Bool) : CallR X (.builtin "all") (rL X.K X.w cA (gBi .all c)) := by
  intro pins s σ H xs us Q I r h
  obtain ⟨α, st, as, d, st', R, ra, e, P⟩ := h
  obtain ⟨z, hz, e⟩ := gBi_some e
  rcases as with _ | ⟨a, _ | ⟨b, as⟩⟩
  · cases hz
  · obtain ⟨x, rfl, rx⟩ := rpL1 ra
    dsimp only [biD] at hz
    split at hz
    · rename_i ds ht
      obtain ⟨ns, hn, hz⟩ := Option.map_eq_some_iff.mp hz
      subst hz
      obtain ⟨p, vs, rfl, h1, h2⟩ := top_lst R rx ht
      rw [allBools_map hn] at h2
      rw [rpL_bools h2] at h1
      exact cr_all hc pins s σ H _ us Q I r ⟨p, ns, rfl, sqL_rd h1, own_bool R e P⟩
    · cases hz
  · cases hz
theorem foldl_maxI : ∀ (ns : List Int) (n : Int), (ns.foldl (fun a b => if a < b then b else a) n ∈ n :: ns) ∧ ∀ y ∈ n :: ns, y ≤ ns.foldl (fun a b => if a < b then b else a) n
  | [], n => ⟨List.mem_cons_self, fun y hy => by
    have : y = n := by simpa using hy
    exact Int.le_of_eq this⟩
  | m :: ns, n => by
    rw [List.foldl_cons]
    obtain ⟨h1, h2⟩ := foldl_maxI ns (if n < m then m else n)
    refine ⟨?_, fun y hy => ?_⟩
    · rcases List.mem_cons.mp h1 with h | h
      · rw [h]
        split <;> simp
      · exact List.mem_cons_of_mem _ (List.mem_cons_of_mem _ h)
    · have h3 := h2 _ List.mem_cons_self
      rcases List.mem_cons.mp hy with h | h
      · subst h
        refine Int.le_trans ?_ h3
        split <;> omega
      · rcases List.mem_cons.mp h with h | h
        · subst h
          refine Int.le_trans ?_ h3
          split <;> omega
        · exact h2 y (List.mem_cons_of_mem _ h)
theorem call_maxlD (hc : X.calm = true) (c : Bool) : CallR X (.builtin "max") (rL X.K X.w cA (gBi .maxl c)) := by
  intro pins s σ H xs us Q I r h
  obtain ⟨α, st, as, d, st', R, ra, e, P⟩ := h
  obtain ⟨z, hz, e⟩ := gBi_some e
  rcases as with _ | ⟨a, _ | ⟨b, as⟩⟩
  · cases hz
  · obtain ⟨x, rfl, rx⟩ := rpL1 ra
    dsimp only [biD] at hz
    split at hz
    · rename_i ds ht
      split at hz
      · rename_i n ns hn
        cases hz
        obtain ⟨p, vs, rfl, h1, h2⟩ := top_lst R rx ht
        rw [allInts_map hn] at h2
        rw [rpL_ints h2] at h1
        obtain ⟨g1, g2⟩ := foldl_maxI ns n
        refine cr_max hc pins s σ H _ us Q I r ⟨p, n :: ns, rfl, sqL_rd h1, Nat.succ_pos _, fun m hm1 hm2 => ?_⟩
        have em : m = ns.foldl (fun a b => if a < b then b else a) n := Int.le_antisymm (g2 m hm1) (hm2 _ g1)
        rw [em]
        exact own_int R e P
      · cases hz
    · cases hz
  · cases hz
theorem call_tupleD (c : Bool) : CallR X (.type "tuple") (rL X.K X.w cA (gBi .tuple c)) := by
  intro pins s σ H xs us Q I r h
  obtain ⟨α, st, as, d, st', R, ra, e, P⟩ := h
  obtain ⟨z, hz, e⟩ := gBi_some e
  rcases as with _ | ⟨a, _ | ⟨b, as⟩⟩
  · cases hz
  · obtain ⟨x, rfl, rx⟩ := rpL1 ra
    dsimp only [biD] at hz
    split at hz
    · rename_i ds ht
      cases hz
      rw [laid_own c (by intro _ z; cases z) (by intro _ _ z; cases z)] at e
      cases e
      obtain ⟨p, vs, rfl, h1, h2⟩ := top_tup rx ht
      exact call_tupleX pins s σ H _ us Q I r ⟨p, vs, rfl, .inr ⟨h1.t, P α H _ .refl R (.tup h1 h2)⟩⟩
    · rename_i ds ht
      cases hz
      rw [laid_own c (by intro _ z; cases z) (by intro _ _ z; cases z)] at e
      cases e
      obtain ⟨p, vs, rfl, h1, h2⟩ := top_lst R rx ht
      refine call_tupleX pins s σ H _ us Q I r ⟨p, vs, rfl, .inl ⟨sqL_rd h1, fun l its hl => ?_⟩⟩
      obtain ⟨G, R', r'⟩ := new_tup R hl h2
      exact P α _ _ G R' r'
    · cases hz
  · cases hz

/-! ### isinstance -/
theorem rd_tyL {K : PySem.W.Frag} {H : Hp} {a : Addr} {vs : List V} (h : Rd H a (.lst vs)) : TyX K H (.ref a) (.type "list") := by
  rcases h with h | ⟨o, h⟩
  · exact .base (.lst h)
  · exact .base (.frz h)
theorem sq_tyT {K : PySem.W.Frag} {H : Hp} {a : Addr} {vs : List V} (h : SqT K H a vs) : TyX K H (.ref a) (.type "tuple") := by
  rcases h with (h | ⟨o, h⟩) | ⟨o, its, n, h, hc, _⟩
  · exact .base (.tup h)
  · exact .fTuple h
  · exact .kTuple h hc
theorem call_isD {b : Bi} {n : String} {g : D → Option Bool} (hb : ∀ st a, biD st b [a] = (g a).map D.bool) (h0 : ∀ st, biD st b [] = Option.none) (h2 : ∀ st a a2 as, biD st b (a :: a2 :: as) = Option.none)
    (hg : ∀ (α : Al) (st : Sto) (H : Hp) (a : D) (x : V) (r : Bool), Rp X.K X.w α st H a x → g a = some r → ∃ t, TyX X.K H x t ∧ PySem.W.kitOne X.K t (.type n) = some r) (c : Bool) :
    CallR X (.builtin "isinstance") (fun xs H Q => ∃ x, xs = [x, .ty n] ∧ rL X.K X.w cA (gBi b c) [x] H Q) := by
  intro pins s σ H xs us Q I r h
  obtain ⟨x, rfl, α, st, as, d, st', R, ra, e, P⟩ := h
  obtain ⟨z, hz, e⟩ := gBi_some e
  rcases as with _ | ⟨a, _ | ⟨b2, as⟩⟩
  · cases ra
  · obtain ⟨x', hx, rx⟩ := rpL1 ra
    cases hx
    rw [hb] at hz
    obtain ⟨r0, hr, hz⟩ := Option.map_eq_some_iff.mp hz
    subst hz
    obtain ⟨t, ty, hk⟩ := hg α st H a x r0 rx hr
    exact call_isi pins s σ H _ us Q I r ⟨x, .ty n, t, .type n, r0, rfl, .ty n, ty, hk, own_bool R e P⟩
  · rw [h2] at hz
    cases hz
def isTyD (n : String) : D → Option Bool
  | .none => kitB "NoneType" n
  | .bool _ => kitB "bool" n
  | .int _ => kitB "int" n
  | .str _ => kitB "str" n
  | .tup _ => kitB "tuple" n
  | .lst _ => kitB "list" n
  | _ => Option.none
theorem isTyD_ok {n : String} (α : Al) (st : Sto) (H : Hp) (a : D) (x : V) (r : Bool) (h : Rp X.K X.w α st H a x) (e : isTyD n a = some r) : ∃ t, TyX X.K H x t ∧ PySem.W.kitOne X.K t (.type n) = some r := by
  cases h with
  | none => exact ⟨_, .base .non, kit_ty e⟩
  | bool b => exact ⟨_, .base (.bl b), kit_ty e⟩
  | int b => exact ⟨_, .base (.int b), kit_ty e⟩
  | str b => exact ⟨_, .base (.str b), kit_ty e⟩
  | tup h1 h2 => exact ⟨_, sq_tyT h1.t, kit_ty e⟩
  | lst h1 h2 h3 => exact ⟨_, rd_tyL h1, kit_ty e⟩
  | _ => cases e
theorem call_isint (c : Bool) : CallR X (.builtin "isinstance") (fun xs H Q => ∃ x, xs = [x, .ty "int"] ∧ rL X.K X.w cA (gBi .isint c) [x] H Q) :=
  call_isD (g := isTyD "int") (fun st a => by cases a <;> rfl) (fun _ => rfl) (fun st a _ _ => by cases a <;> rfl) isTyD_ok c
theorem call_isbool (c : Bool) : CallR X (.builtin "isinstance") (fun xs H Q => ∃ x, xs = [x, .ty "bool"] ∧ rL X.K X.w cA (gBi .isbool c) [x] H Q) :=
  call_isD (g := isTyD "bool") (fun st a => by cases a <;> rfl) (fun _ => rfl) (fun st a _ _ => by cases a <;> rfl) isTyD_ok c
theorem call_isstr (c : Bool) : CallR X (.builtin "isinstance") (fun xs H Q => ∃ x, xs = [x, .ty "str"] ∧ rL X.K X.w cA (gBi .isstr c) [x] H Q) :=
  call_isD (g := isTyD "str") (fun st a => by cases a <;> rfl) (fun _ => rfl) (fun st a _ _ => by cases a <;> rfl) isTyD_ok c
theorem call_istuple (c : Bool) : CallR X (.builtin "isinstance") (fun xs H Q => ∃ x, xs = [x, .ty "tuple"] ∧ rL X.K X.w cA (gBi .istuple c) [x] H Q) :=
  call_isD (g := isTyD "tuple") (fun st a => by cases a <;> rfl) (fun _ => rfl) (fun st a _ _ => by cases a <;> rfl) isTyD_ok c
end
end DL
end

section
set_option Elab.async false
set_option linter.all false
set_option maxRecDepth 100000
set_option maxHeartbeats 4000000
/-! DL, part l: list(d), sorted(d), min(xs), sorted(set(xs)). -/
namespace DL
open PySem PySem.Spec PyProof.Rows L2 PySem.W

theorem pys_length : ∀ {ds : List D} {ps : List PyData}, D.pys ds = some ps → ds.length = ps.length
  | [], ps, h => by cases h; rfl
  | d :: ds, ps, h => by
    dsimp only [D.pys] at h
    cases hp : D.py d with
    | none => rw [hp] at h; cases h
    | some p =>
      cases hq : D.pys ds with
      | none => rw [hp, hq] at h; cases h
      | some qs =>
        rw [hp, hq] at h
        cases h
        simp [pys_length hq]
theorem pys_cons {d : D} {ds : List D} {ps : List PyData} (h : D.pys (d :: ds) = some ps) : ∃ p qs, D.py d = some p ∧ D.pys ds = some qs ∧ ps = p :: qs := by
  dsimp only [D.pys] at h
  cases hp : D.py d with
  | none => rw [hp] at h; cases h
  | some p =>
    cases hq : D.pys ds with
    | none => rw [hp, hq] at h; cases h
    | some qs =>
      rw [hp, hq] at h
      cases h
      exact ⟨p, qs, rfl, rfl, rfl⟩
mutual
theorem py_inj : ∀ {a b : D} {p : PyData}, a.py = some p → b.py = some p → a = b
  | .none, b, p, ha, hb => by
    cases ha
    cases b with
    | none => rfl
    | tup xs => dsimp only [D.py] at hb; cases h : D.pys xs <;> rw [h] at hb <;> cases hb
    | lst xs => dsimp only [D.py] at hb; cases h : D.pys xs <;> rw [h] at hb <;> cases hb
    | _ => cases hb
  | .bool x, b, p, ha, hb => by
    cases ha
    cases b with
    | bool y => cases hb; rfl
    | tup xs => dsimp only [D.py] at hb; cases h : D.pys xs <;> rw [h] at hb <;> cases hb
    | lst xs => dsimp only [D.py] at hb; cases h : D.pys xs <;> rw [h] at hb <;> cases hb
    | _ => cases hb
  | .int x, b, p, ha, hb => by
    cases ha
    cases b with
    | int y => cases hb; rfl
    | tup xs => dsimp only [D.py] at hb; cases h : D.pys xs <;> rw [h] at hb <;> cases hb
    | lst xs => dsimp only [D.py] at hb; cases h : D.pys xs <;> rw [h] at hb <;> cases hb
    | _ => cases hb
  | .str x, b, p, ha, hb => by
    cases ha
    cases b with
    | str y => cases hb; rfl
    | tup xs => dsimp only [D.py] at hb; cases h : D.pys xs <;> rw [h] at hb <;> cases hb
    | lst xs => dsimp only [D.py] at hb; cases h : D.pys xs <;> rw [h] at hb <;> cases hb
    | _ => cases hb
  | .tup xs, b, p, ha, hb => by
    dsimp only [D.py] at ha
    obtain ⟨ps, hp, rfl⟩ := Option.map_eq_some_iff.mp ha
    cases b with
    | tup ys =>
      dsimp only [D.py] at hb
      obtain ⟨qs, hq, e⟩ := Option.map_eq_some_iff.mp hb
      cases e
      rw [pys_inj hp hq]
    | lst ys => dsimp only [D.py] at hb; cases h : D.pys ys <;> rw [h] at hb <;> cases hb
    | _ => cases hb
  | .lst xs, b, p, ha, hb => by
    dsimp only [D.py] at ha
    obtain ⟨ps, hp, rfl⟩ := Option.map_eq_some_iff.mp ha
    cases b with
    | lst ys =>
      dsimp only [D.py] at hb
      obtain ⟨qs, hq, e⟩ := Option.map_eq_some_iff.mp hb
      cases e
      rw [pys_inj hp hq]
    | tup ys => dsimp only [D.py] at hb; cases h : D.pys ys <;> rw [h] at hb <;> cases hb
    | _ => cases hb
  | .dct _ _, b, p, ha, hb => by cases ha
  | .ref _, b, p, ha, hb => by cases ha
  | .scr _, b, p, ha, hb => by cases ha
theorem pys_inj : ∀ {a b : List D} {p : List PyData}, D.pys a = some p → D.pys b = some p → a = b
  | [], b, p, ha, hb => by
    cases ha
    cases b with
    | nil => rfl
    | cons y ys =>
      obtain ⟨_, _, _, _, e⟩ := pys_cons hb
      cases e
  | x :: xs, b, p, ha, hb => by
    obtain ⟨p1, p2, h1, h2, rfl⟩ := pys_cons ha
    cases b with
    | nil => cases hb
    | cons y ys =>
      obtain ⟨q1, q2, g1, g2, e⟩ := pys_cons hb
      cases e
      rw [py_inj h1 g1, pys_inj h2 g2]
end
mutual
theorem reads_there {h : Heap} : ∀ (d : PyData) (v : Value) (as : List Addr), d.plain = true → Reads h v d as → ∀ a ∈ as, ∃ o, h.get? a = some o
  | .none, _, _, _, r => by cases r; intro a ha; cases ha
  | .bool b, _, _, _, r => by cases r; intro a ha; cases ha
  | .int i, _, _, _, r => by cases r; intro a ha; cases ha
  | .str x, _, _, _, r => by cases r; intro a ha; cases ha
  | .list xs, _, _, p, r => by
    cases r with
    | list h1 h2 h3 h4 =>
      intro a ha
      rcases List.mem_cons.mp ha with e | ha
      · subst e; exact ⟨_, h1⟩
      · exact readsAll_there xs _ _ p h4 a ha
  | .tuple xs, _, _, p, r => by
    cases r with
    | tuple h1 h2 h3 h4 => exact readsAll_there xs _ _ p h4
  | .dict _, _, _, p, r => by cases p
theorem readsAll_there {h : Heap} : ∀ (ds : List PyData) (vs : List Value) (as : List Addr), PyData.plainAll ds = true → ReadsAll h vs ds as → ∀ a ∈ as, ∃ o, h.get? a = some o
  | [], _, _, _, r => by cases r; intro a ha; cases ha
  | d :: ds, _, _, p, r => by
    have p' : d.plain = true ∧ PyData.plainAll ds = true := by simpa [PyData.plainAll] using p
    cases r with
    | cons r1 r2 =>
      intro a ha
      rcases List.mem_append.mp ha with ha | ha
      · exact reads_there d _ _ p'.1 r1 a ha
      · exact readsAll_there ds _ _ p'.2 r2 a ha
end

section
variable {X : Cx} {pins : List (Addr × Obj)} {σ : L2.St} {s : Shared} {w : World} {cA : Nat → Addr} {K : PySem.W.Frag} {α : Al} {st st' : Sto} {H : Hp}
theorem each_rel : ∀ {ds : List D} {zs : List V} {vs : List Value} {ps : List PyData}, RpL K w α st H ds zs → Vals zs vs → D.pys ds = some ps → EachIs (fun (v : Value) (b : D × PyData) => ∃ z, RelV z v ∧ Rp K w α st H b.1 z) vs (ds.zip ps)
  | [], _, _, _, h, r, e => by cases h; cases r; cases e; exact .nil
  | d :: ds, _, _, _, h, r, e => by
    obtain ⟨p, qs, e1, e2, rfl⟩ := pys_cons e
    cases h with
    | cons h1 h2 =>
      cases r with
      | cons r1 r2 => exact .cons ⟨_, r1, h1⟩ (each_rel h2 r2 e2)
theorem each_reads (I : Inv X pins σ H s) : ∀ {ds : List D} {zs : List V} {vs : List Value} {ps : List PyData}, RpL X.K w α st H ds zs → Vals zs vs → D.pys ds = some ps →
    EachIs (fun (v : Value) (b : D × PyData) => ∃ as, Reads s.heap v b.2 as ∧ ∀ a ∈ as, ∃ o, s.heap.get? a = some o) vs (ds.zip ps)
  | [], _, _, _, h, r, e => by cases h; cases r; cases e; exact .nil
  | d :: ds, _, _, _, h, r, e => by
    obtain ⟨p, qs, e1, e2, rfl⟩ := pys_cons e
    cases h with
    | cons h1 h2 =>
      cases r with
      | cons r1 r2 =>
        obtain ⟨as, ra, pl⟩ := rp_reads I d _ _ p h1 r1 e1
        exact .cons ⟨as, ra, reads_there _ _ _ pl ra⟩ (each_reads I h2 r2 e2)
theorem each_back : ∀ {out : List Value} {bs : List (D × PyData)}, EachIs (fun (v : Value) (b : D × PyData) => ∃ z, RelV z v ∧ Rp K w α st H b.1 z) out bs → ∃ zs, Vals zs out ∧ RpL K w α st H (bs.map (·.1)) zs
  | _, _, .nil => ⟨[], .nil, .nil⟩
  | _, _, .cons ⟨z, r, h⟩ t => let ⟨zs, a, b⟩ := each_back t; ⟨z :: zs, .cons r a, .cons h b⟩
theorem zip_snd {ds : List D} {ps : List PyData} (h : D.pys ds = some ps) : (ds.zip ps).map (·.2) = ps := List.map_snd_zip (by rw [pys_length h]; exact Nat.le_refl _)
theorem zip_len {ds : List D} {ps : List PyData} (h : D.pys ds = some ps) : (ds.zip ps).length = ds.length := by rw [List.length_zip, pys_length h, Nat.min_self]
theorem ord_alike {ps : List PyData} (h : ordOk ps = true) : AllAlike ps ∧ Sortable ps ∧ ∀ p ∈ ps, p.depth ≤ 50 := by
  unfold ordOk at h
  simp only [Bool.and_eq_true, Bool.or_eq_true, List.all_eq_true, decide_eq_true_eq] at h
  obtain ⟨⟨h1, h2⟩, h3⟩ := h
  refine ⟨fun d hd d' hd' => h1 d hd d' hd', ?_, h2⟩
  rcases h3 with h3 | h3
  · refine .inl fun d hd => ?_
    have := h3 d hd
    split at this
    · exact ⟨_, _, rfl⟩
    · cases this
  · refine .inr fun d hd => ?_
    have := h3 d hd
    refine ⟨fun z => ?_, fun xs z => ?_⟩ <;> subst z <;> cases this
theorem sortD_some {ds es : List D} (h : sortD ds = some es) : ∃ ps, D.pys ds = some ps ∧ ordOk ps = true ∧ ds.length ≤ sizeLine ∧ es = ((ds.zip ps).mergeSort leD).map (·.1) := by
  unfold sortD at h
  split at h
  · rename_i ps hp
    split at h
    · rename_i hc
      rw [Bool.and_eq_true] at hc
      exact ⟨ps, hp, hc.1, line_big hc.2, (Option.some.inj h).symm.trans (by rw [msF_eq _ _ (by rw [List.length_zip]; exact Nat.min_le_left ..)])⟩
    · cases h
  · cases h
theorem leD_eq : leD = dataLe false (fun b : D × PyData => b.2) := by
  rw [dataLe_eq]
  rfl
theorem sort_all_ok {ds : List D} {ps : List PyData} (h : D.pys ds = some ps) (ho : ordOk ps = true) {A : Around} (hu : A.units + 60 < cLine) : AllAlike ((ds.zip ps).map (·.2)) ∧ Sortable ((ds.zip ps).map (·.2)) ∧ ∀ b, b ∈ ds.zip ps → A.units + 2 + b.2.depth < cLine := by
  rw [zip_snd h]
  obtain ⟨h1, h2, h3⟩ := ord_alike ho
  refine ⟨h1, h2, fun b hb => ?_⟩
  have hp : b.2 ∈ ps := by
    rw [← zip_snd h]
    exact List.mem_map.mpr ⟨b, hb, rfl⟩
  have := h3 _ hp
  omega
/-- the keys of a dict as values -/
theorem Ents.keysV : ∀ {ks : List D} {es : List DictEntry}, Ents K w α st H ks es → ∃ kvs, RpL K w α st H ks kvs ∧ Vals kvs (es.map (·.key))
  | [], _, h => by cases h; exact ⟨[], .nil, .nil⟩
  | k :: ks, _, h => by
    cases h with
    | cons h1 h2 h3 h4 t =>
      obtain ⟨kvs, a, b⟩ := Ents.keysV t
      exact ⟨_, .cons h1 a, .cons h2 b⟩
theorem items_keys {es : Array DictEntry} {acc : List Value} (hl : acc.length = es.size) (h : ∀ (j : Nat) (v : Value), acc[j]? = some v → ∃ hi : j < es.size, v = es[j].key) : acc = es.toList.map (·.key) := by
  apply List.ext_getElem?
  intro j
  rw [List.getElem?_map]
  cases hj : acc[j]? with
  | none =>
    have h1 := List.getElem?_eq_none_iff.mp hj
    rw [List.getElem?_eq_none (by rw [Array.length_toList]; omega)]
    rfl
  | some v =>
    obtain ⟨hi, e⟩ := h j v hj
    rw [Array.getElem?_toList, Array.getElem?_eq_getElem hi, e]
    rfl
/-- sorted(d): its keys in a list of their own, sorted there -/
theorem sorted_src {prog : Program} {A : Around} {E : Value → Shared → Prop} {s : Shared} {T : String} {r d : Addr} {n : Nat} {P : Nat → Value → Prop} {OK : Heap → Prop} {Q : Value → Shared → Prop} (S : KdlSrc prog w T r d n P OK) (hh : A.handled = none) (hok : OK s.heap) (hn : n ≤ sizeLine)
    (h : ∀ (h' : Heap) (tk : Nat) (vs : List Value), (∀ b o, s.heap.get? b = some o → h'.get? b = some o) → vs.length = n → (∀ (j : Nat) (v : Value), vs[j]? = some v → P j v) →
      wpAny (model prog w) A.in1 (call (.builtin "list.sort") [.ref h'.objs.size]) (fun _ s' => Q (.ref h'.objs.size) s') E { s with heap := h'.push { cls := .type "list", data := .seq vs.toArray }, toks := tk }) :
    wpAny (model prog w) A (call (.builtin "sorted") [.ref r]) Q E s := by
  refine Calls.call_function_entry kind_sorted plain_sorted entry_sorted (args_sorted1 _) ?_
  unfold Builtin.«sorted»
  refine wpAny_bind (m := checkCount "sorted" 1 1 _) (wpAny_pure ?_)
  refine wpAny_bind (kdu_collect (A := A.in1) S hh hok hn fun h1 tk acc keep it => ?_)
  have len : acc.toList.length = n := by rw [Array.length_toList]; exact it.1
  refine wpAny_bind (wpAny_newList ?_ (Nat.le_trans (Nat.le_of_eq len) hn))
  have fin := h h1 tk acc.toList keep len (fun j v e => it.2 j v (by rw [← Array.getElem?_toList]; exact e))
  exact wpAny_bind (wpAny_holding (wpAny_mono fin (fun _ _ x => wpAny_pure ⟨_, rfl, x⟩) fun _ _ e => e))
end

section
variable {X : Cx} {cA : Nat → Addr}
theorem call_listD (hc : X.calm = true) (c : Bool) : CallR X (.type "list") (rL X.K X.w cA (gBi .list c)) := by
  intro pins s σ H xs us Q I r h
  obtain ⟨α, st, as, d, st', R, ra, e, P⟩ := h
  obtain ⟨z, hz, e⟩ := gBi_some e
  rcases as with _ | ⟨a, _ | ⟨b, as⟩⟩
  · cases hz
  · obtain ⟨x, rfl, rx⟩ := rpL1 ra
    dsimp only [biD] at hz
    split at hz
    · rename_i ds ht
      cases hz
      obtain ⟨p, vs, rfl, h1, h2⟩ := top_tup rx ht
      exact call_list_of pins s σ H _ us Q I r ⟨p, vs, rfl, .inr h1.t, fun l hl => post_lst R hl h2 e P⟩
    · rename_i ds ht
      cases hz
      obtain ⟨p, vs, rfl, h1, h2⟩ := top_lst R rx ht
      exact call_list_of pins s σ H _ us Q I r ⟨p, vs, rfl, .inl (sqL_rd h1), fun l hl => post_lst R hl h2 e P⟩
    · rename_i ks vs ht
      cases hz
      obtain ⟨p, es, ep, us', rfl, h1, h2, h3, h4, h5, h6⟩ := top_dct R rx ht
      rw [Vals.ref1 r]
      have hl : ks.length = es.size := by rw [h4.length, Array.length_toList]
      refine kdl_call (KdlSrc.rawDict h2) (I.ok.hd hc) (raw_at I h1) (by rw [← hl]; exact h3.line) fun h' tk acc c' kp ho it => ?_
      obtain ⟨kvs, k1, k2⟩ := h4.keysV
      have ea := items_keys (acc := acc.toList) (by rw [Array.length_toList]; exact it.1) (fun j v e => it.2 j v (by rw [← Array.getElem?_toList]; exact e))
      rw [← ea] at k2
      refine ⟨.ref s.heap.objs.size, upd H s.heap.objs.size (.lst kvs), I.laid (t' := tk) kp (Nat.le_refl _) ⟨by rw [← k1.length]; exact h3.line, acc.toList, c', k2, by rw [Array.toArray_toList]; exact ho⟩, rfl, post_lst R (I.hok.fresh (Nat.le_refl _)) k1 e P⟩
    · cases hz
  · cases hz
theorem call_sortedD (hu : X.A.units + 100 < cLine) (hc : X.calm = true) (c : Bool) : CallR X (.builtin "sorted") (rL X.K X.w cA (gBi .sorted c)) := by
  intro pins s σ H xs us Q I r h
  obtain ⟨α, st, as, d, st', R, ra, e, P⟩ := h
  obtain ⟨z, hz, e⟩ := gBi_some e
  rcases as with _ | ⟨a, _ | ⟨b, as⟩⟩
  · cases hz
  · obtain ⟨x, rfl, rx⟩ := rpL1 ra
    dsimp only [biD] at hz
    split at hz
    · rename_i ds ht
      obtain ⟨es, hs, hz⟩ := Option.map_eq_some_iff.mp hz
      subst hz
      obtain ⟨p, vs, rfl, h1, h2⟩ := top_lst R rx ht
      rw [Vals.ref1 r]
      obtain ⟨ps, hp, ho, hl, rfl⟩ := sortD_some hs
      obtain ⟨_, its, n, rv, _, hob⟩ := inv_rdL I h1
      obtain ⟨a1, a2, a3⟩ := sort_all_ok hp ho (A := X.A) (by omega)
      refine sorted_data (R := fun (v : Value) (b : D × PyData) => ∃ z, RelV z v ∧ Rp X.K X.w α st H b.1 z) (enc := fun b : D × PyData => b.2) (bs := ds.zip ps) ⟨_, hob, rfl, _, rfl⟩ (each_rel h2 rv hp) ((each_reads I h2 rv hp).mono fun _ _ ⟨as, r, _⟩ => ⟨as, r⟩) a1 a2 (by rw [zip_len hp]; exact hl) a3 fun out ol eo => ?_
      rw [← leD_eq] at eo
      obtain ⟨zs, v1, v2⟩ := each_back eo
      have fr : H (s.heap.objs.size + 1) = none := I.hok.fresh (Nat.le_succ _)
      obtain ⟨e', he'⟩ := sortedAll_at s.heap its (List.toArray out)
      refine ⟨.ref _, upd H (s.heap.objs.size + 1) (.lst zs), I.laid (t' := s.toks) (fun b o q => sortedAll_old q) (Nat.le_succ _) ⟨by rw [v1.length, ol, zip_len hp]; exact hl, out, e', v1, he'⟩, rfl, post_lst R fr v2 e P⟩
    · rename_i ks vs ht
      obtain ⟨es', hs, hz⟩ := Option.map_eq_some_iff.mp hz
      subst hz
      obtain ⟨p, es, ep, us', rfl, h1, h2, h3, h4, h5, h6⟩ := top_dct R rx ht
      rw [Vals.ref1 r]
      have hl : ks.length = es.size := by rw [h4.length, Array.length_toList]
      obtain ⟨ps, hp, ho, hl2, rfl⟩ := sortD_some hs
      obtain ⟨kvs, k1, k2⟩ := h4.keysV
      obtain ⟨a1, a2, a3⟩ := sort_all_ok hp ho (A := X.A) (by omega)
      refine sorted_src (KdlSrc.rawDict h2) (I.ok.hd hc) (raw_at I h1) (by rw [← hl]; exact h3.line) fun h' tk vs' kp ln it => ?_
      have ea := items_keys ln it
      rw [← ea] at k2
      have I1 : Inv X pins σ H { s with heap := h', toks := tk } := I.kept (t' := tk) kp
      have fr : H h'.objs.size = none := I1.hok.fresh (Nat.le_refl _)
      have hz' : kvs.length ≤ sizeLine := by rw [← k1.length]; exact h3.line
      have ho1 : (h'.push { cls := .type "list", data := .seq vs'.toArray }).get? h'.objs.size = some (seqObj "list" vs'.toArray 0) := Heap.get?_push_size _ rfl
      have I2 : Inv X pins σ (upd H h'.objs.size (.lst kvs)) { s with heap := h'.push { cls := .type "list", data := .seq vs'.toArray }, toks := tk } := I1.laid (t' := tk) (fun b o q => Heap.get?_push_of_some _ q) (Nat.le_refl _) ⟨hz', vs', 0, k2, ho1⟩
      have er := (each_reads I1 k1 k2 hp).mono (R' := fun (v : Value) (b : D × PyData) => ∃ as, Reads (h'.push { cls := .type "list", data := .seq vs'.toArray }) v b.2 as ∧ h'.objs.size ∉ as) fun v b ⟨as, r, t⟩ => ⟨as, PyProof.Rows.Reads.keeps (fun _ _ q => Heap.get?_push_of_some _ q) r, fun m => by
        obtain ⟨o, q⟩ := t _ m
        exact Nat.lt_irrefl _ (Heap.lt_size q)⟩
      refine list_sort_data (s := { s with heap := h'.push { cls := .type "list", data := .seq vs'.toArray }, toks := tk }) (R := fun (v : Value) (b : D × PyData) => ∃ z, RelV z v ∧ Rp X.K X.w α st H b.1 z) (enc := fun b : D × PyData => b.2) (bs := ks.zip ps) (n := 0) ho1 (each_rel k1 k2 hp) er a1 a2 (by rw [zip_len hp]; exact hl2) (fun b hb => by have := a3 b hb; show X.A.units + 1 + 1 + _ < _; omega) fun out ol eo => ?_
      rw [← leD_eq] at eo
      obtain ⟨zs, v1, v2⟩ := each_back eo
      obtain ⟨e', he'⟩ := sortedHeap_at (vs := vs') (out := List.toArray out) ho1
      have I3 := I2.write (x := h'.objs.size) (e := h'.objs.size) (o := .lst zs) (h' := sortedHeap (h'.push { cls := .type "list", data := .seq vs'.toArray }) h'.objs.size vs' (List.toArray out)) (t' := tk) (by rw [upd_same]; exact True.intro) (.inl rfl) (fun b o hb q => by rw [sortedHeap_old hb (Heap.lt_size q)]; exact q) ⟨_, he'⟩
        ⟨by rw [v1.length, ol, zip_len hp]; exact hl2, out, e', v1, he'⟩
      rw [upd_upd] at I3
      exact ⟨.ref h'.objs.size, _, I3, rfl, post_lst R fr v2 e P⟩
    · cases hz
  · cases hz
end
end DL
end

section
set_option Elab.async false
set_option linter.all false
set_option maxRecDepth 100000
set_option maxHeartbeats 4000000
/-! DL, part m: min(xs), sorted(set(xs)). -/
namespace DL
open PySem PySem.Spec PyProof.Rows L2 PySem.W PySem.Calls

section
variable {P : Program} {w : World} {A : Around} {E : Value → Shared → Prop} {s : Shared}
/-- the object of a new set -/
abbrev setOb (w : World) : Obj := { cls := .type "set", dict := none, data := .set #[] 0 (.fresh 0 0 (!w.params.followText "set-order")) }
set_option maxRecDepth 100000 in
set_option maxHeartbeats 3200000 in
theorem setListI {l : Addr} {items : Array Value} (ns : List Int) {Q : Value → Shared → Prop} (hh : A.handled = none) (hl : s.heap.IsList l items) (hit : IntsAre items.toList ns) (hb : ns.length + 1 < scanBound)
    (h : ∀ (h' : Heap) (tk c : Nat), SetR w h' s.heap.objs.size (fun j => decide (j ∈ ns)) c → c ≤ ns.length → (∀ b o, s.heap.get? b = some o → h'.get? b = some o) → Q (.ref s.heap.objs.size) { s with heap := h', toks := tk }) :
    wpAny (model P w) A (call (.type "set") [.ref l]) Q E s := by
  have hisz : items.size = ns.length := by
    have q := IntsAre.length hit
    rw [Array.length_toList] at q
    exact q
  obtain ⟨c, tl, hmro⟩ := F.called_set.mro
  have hmade := F.called_set.made
  have hsub := F.called_set.sub
  refine wpAny_call (codeAny_of_tree ?_)
  show wpAny _ _ (callAny (.type "set") _) _ _ _
  refine wpAny_pure ⟨Code.quiet_builtin _ (by decide +kernel), codeAny_builtin F.entry_type_call ?_⟩
  rw [Around.under_plain (weight_type_call_type "set" [.ref l] []) rfl]
  have h1 := F.called_set.notType
  have h2 := F.called_set.canCreate
  have hct := F.typeCall_set_1 (.ref l)
  repeat (any_goals (first | assumption | wp_step))

  refine codeAny_mono (code_set_led1 (.ref l) (E := E) (Q₁ := fun obj s₁ => obj = .ref s.heap.objs.size ∧ s₁ = { s with heap := s.heap.push (setOb w) }) ⟨rfl, rfl⟩) fun r s₁ hr => ?_
  cases r with
  | error e => exact hr
  | ok fl =>
    cases fl with
    | ret obj =>
      obtain ⟨rfl, rfl⟩ := hr
      have hS : (s.heap.push (setOb w)).get? s.heap.objs.size = some (setOb w) := Heap.get?_push_size _ rfl
      have hT : Shared.TypeIs { s with heap := s.heap.push (setOb w) } (.ref s.heap.objs.size) "set" := ⟨_, hS, rfl⟩
      have hli := F.called_set.init.lookup
      have hbi := F.called_set.init.bind (.ref s.heap.objs.size)
      repeat (any_goals (first | assumption | wp_step))

      refine codeAny_mono (codeAny_call_builtin (R := wants (fun r s₂ => r = .none ∧ ∃ h' tk c, s₂ = { s with heap := h', toks := tk } ∧ SetR w h' s.heap.objs.size (fun j => decide (j ∈ ns)) c ∧ c ≤ ns.length ∧
          (∀ b o, s.heap.get? b = some o → h'.get? b = some o)) E) F.called_set.init.plain F.entry_set_init (check_set_init_1 hT ?_)) fun r₂ s₂ hr₂ => ?_
      · obtain ⟨ol, hol, hcl, nl, hdl⟩ := hl
        obtain ⟨ocls, odict, odata, oslots⟩ := ol
        simp only at hcl hdl
        subst hcl; subst hdl
        have hol' : (s.heap.push (setOb w)).get? l = some { cls := .type "list", dict := odict, data := .seq items nl, slots := oslots } := Heap.get?_push_of_some _ hol
        have hsls := F.sub_list_set
        have hslf := F.sub_list_frozenset
        have hne : (Value.type "list" == Value.type "dict") = false := by decide
        have hl1 : (s.heap.push (setOb w)).IsList l items := ⟨_, hol', rfl, nl, rfl⟩
        unfold Builtin.«set.__init__» noKeywords Builtin.Frozenset.updateFrom
        generalize hPI : pyIter = PI
        wp_walk
        subst hPI

        refine wpAny_pyIter_list hl1 ?_
        refine wpAny_bind (wpAny_runValue ?_)
        have hlS : l < s.heap.objs.size := Heap.lt_size hol
        have hh3 : A.in1.in1.in1.handled = none := by simp [hh]
        have hz1 : (s.heap.push (setOb w)).objs.size = s.heap.objs.size + 1 := Heap.size_push ..
        have hneI : l ≠ (s.heap.push (setOb w)).objs.size := by
          rw [Heap.size_push]; exact Nat.ne_of_lt (Nat.lt_succ_of_lt hlS)
        have hSf : s.heap.objs.size ∉ [(s.heap.push (setOb w)).objs.size, l] := by
          rw [Heap.size_push]; simp only [List.mem_cons, List.mem_singleton, List.not_mem_nil, or_false, not_or]
          exact ⟨Nat.ne_of_lt (Nat.lt_succ_self _), Nat.ne_of_gt hlS⟩
        have hval : ∀ (i : Nat) (v : Value), items[i]? = some v → ∃ k t, ns[i]? = some k ∧ v = .int k t := fun i v hv => by
          have hi : i < ns.length := by rw [← hisz]; exact (Array.getElem?_eq_some_iff.mp hv).1
          obtain ⟨t, e⟩ := PyProof.Rows.IntsAre.int_at hit i v (by rw [Array.getElem?_toList]; exact hv)
          refine ⟨ns[i], t, List.getElem?_eq_getElem hi, ?_⟩
          rw [e, List.getD_eq_getElem?_getD, List.getElem?_eq_getElem hi] <;> rfl
        refine set_update_ints ((Walks.list hh3 _ l hneI items).toS) s.heap.objs.size
          hSf ns hisz hb hval (items.size - 0) 0 _ (by omega) (Nat.zero_le _)
          ⟨⟨_, Heap.get?_push_size _ rfl, rfl, rfl⟩, (hl1.push _)⟩ ?hS0 ?hR
        case hS0 =>
          have hget : ((s.heap.push (setOb w)).push { cls := .type "list_iterator", data := .fields #[.ref l, .int 0 0] }).get? s.heap.objs.size
              = some (setOb w) := Heap.get?_push_of_some _ hS
          exact ⟨0, Nat.le_refl 0, setR_new_at hget⟩
        case hR =>
          intro s' c' hm hc' hS'
          obtain ⟨h', g2, d', tk', os'⟩ := s'
          have eg : g2 = s.gens := hm.gens
          have ed : d' = s.drawn := hm.drawn
          have eo : os' = s.os := hm.os
          subst eg; subst ed; subst eo
          show wpAny _ _ _ _ _ _
          refine wpAny_pure ?_
          show wpAny _ _ (ret Value.none) _ _ _
          rw [hisz] at hc'
          refine wpAny_pure ⟨rfl, h', tk', c', rfl, hS', hc', fun b o e => ?_⟩
          have hb0 : b < s.heap.objs.size := Heap.lt_size e
          have hb1 : b ≠ s.heap.objs.size := Nat.ne_of_lt hb0
          have hb2 : b ≠ (s.heap.push (setOb w)).objs.size := by
            rw [Heap.size_push]; exact Nat.ne_of_lt (Nat.lt_succ_of_lt hb0)
          exact hm.heap b o (by simp only [List.mem_cons, List.mem_singleton, List.not_mem_nil, or_false, not_or]; exact ⟨hb1, hb2⟩) (Heap.get?_push_of_some _ (Heap.get?_push_of_some _ e))

      · cases r₂ with
        | error e => exact hr₂
        | ok fl₂ =>
          cases fl₂ with
          | ret r =>
            obtain ⟨rfl, h', tk, c', rfl, hS', hc', hk'⟩ := hr₂
            repeat (any_goals (first | assumption | wp_step))
            exact h _ _ _ hS' hc' hk'
          | _ => exact hr₂.elim
    | _ => exact hr.elim
end

/-! ### rising rows -/
theorem putI_mem (n : Int) : ∀ (l : List Int) (k : Int), k ∈ putI n l ↔ k = n ∨ k ∈ l
  | [], k => by simp [putI]
  | m :: r, k => by
    unfold putI
    split
    · simp
    · split
      · rw [List.mem_cons, putI_mem n r k, List.mem_cons]
        constructor
        · rintro (h | h | h)
          · exact .inr (.inl h)
          · exact .inl h
          · exact .inr (.inr h)
        · rintro (h | h | h)
          · exact .inr (.inl h)
          · exact .inl h
          · exact .inr (.inr h)
      · have : n = m := by omega
        subst this
        simp
theorem putI_sorted (n : Int) : ∀ (l : List Int), l.Pairwise (· < ·) → (putI n l).Pairwise (· < ·)
  | [], _ => by simp [putI]
  | m :: r, h => by
    have h' := List.pairwise_cons.mp h
    unfold putI
    split
    · rename_i lt
      refine List.pairwise_cons.mpr ⟨fun a ha => ?_, h⟩
      rcases List.mem_cons.mp ha with e | ha
      · subst e; exact lt
      · exact Int.lt_trans lt (h'.1 a ha)
    · split
      · rename_i lt
        refine List.pairwise_cons.mpr ⟨fun a ha => ?_, putI_sorted n r h'.2⟩
        rcases (putI_mem n r a).mp ha with e | ha
        · subst e; exact lt
        · exact h'.1 a ha
      · exact h
theorem setI_mem : ∀ (ns : List Int) (k : Int), k ∈ setI ns ↔ k ∈ ns
  | [], k => by simp [setI]
  | n :: ns, k => by
    show k ∈ putI n (setI ns) ↔ _
    rw [putI_mem, setI_mem ns k, List.mem_cons]
theorem setI_sorted : ∀ (ns : List Int), (setI ns).Pairwise (· < ·)
  | [] => .nil
  | n :: ns => putI_sorted n _ (setI_sorted ns)
theorem rising_eq : ∀ {a b : List Int}, a.Pairwise (· < ·) → b.Pairwise (· < ·) → (∀ k, k ∈ a ↔ k ∈ b) → a = b
  | [], [], _, _, _ => rfl
  | [], y :: b, _, _, h => by
    have := (h y).mpr List.mem_cons_self
    cases this
  | x :: a, [], _, _, h => by
    have := (h x).mp List.mem_cons_self
    cases this
  | x :: a, y :: b, ha, hb, h => by
    have ha' := List.pairwise_cons.mp ha
    have hb' := List.pairwise_cons.mp hb
    have e : x = y := by
      rcases List.mem_cons.mp ((h x).mp List.mem_cons_self) with e | h1
      · exact e
      · rcases List.mem_cons.mp ((h y).mpr List.mem_cons_self) with e | h2
        · exact e.symm
        · have := ha'.1 y h2
          have := hb'.1 x h1
          omega
    subst e
    rw [rising_eq ha'.2 hb'.2 fun k => ⟨fun hk => ?_, fun hk => ?_⟩]
    · rcases List.mem_cons.mp ((h k).mp (List.mem_cons_of_mem _ hk)) with e | h1
      · have := ha'.1 k hk
        omega
      · exact h1
    · rcases List.mem_cons.mp ((h k).mpr (List.mem_cons_of_mem _ hk)) with e | h1
      · have := hb'.1 k hk
        omega
      · exact h1
theorem setI_length (ns : List Int) : (setI ns).length ≤ ns.length := by
  have put : ∀ (n : Int) (l : List Int), (putI n l).length ≤ l.length + 1 := fun n l => by
    induction l with
    | nil => simp [putI]
    | cons m r ih =>
      unfold putI
      split
      · simp
      · split
        · simpa using ih
        · simp
  induction ns with
  | nil => simp [setI]
  | cons n ns ih => exact Nat.le_trans (put n (setI ns)) (Nat.succ_le_succ ih)

section
variable {X : Cx} {cA : Nat → Addr}
/-- set(x), a list or a tuple of ints -/
def rSetD (K : PySem.W.Frag) (w : World) (cA : Nat → Addr) : List V → Hp → VK → Prop := fun xs H Q => ∃ α st a x ds ns, xs = [x] ∧ RS K w cA α st H ∧ Rp K w α st H a x ∧ seqD st a = some ds ∧ allInts ds = some ns ∧ ns.length < 64 ∧
  ∀ p n, H p = none → n ≤ ns.length → Q (.ref p) (upd H p (SetO w p (fun j => decide (j ∈ ns)) n))
theorem ints_are : ∀ {ns : List Int} {us : List Value}, Vals (ns.map V.int) us → IntsAre us ns
  | [], _, h => by cases h; exact .nil
  | n :: ns, _, h => by
    rw [List.map_cons] at h
    cases h with
    | cons r t =>
      obtain ⟨k, rfl⟩ := r
      exact .cons n k (ints_are t)
theorem call_setD (hc : X.calm = true) : CallR X (.type "set") (rSetD X.K X.w cA) := by
  intro pins s σ H xs us Q I r h
  obtain ⟨α, st, a, x, ds, ns, rfl, R, ra, hq, hn, h64, q⟩ := h
  have fin : ∀ (h' : Heap) (tk c : Nat), SetR X.w h' s.heap.objs.size (fun j => decide (j ∈ ns)) c → c ≤ ns.length → (∀ b o, s.heap.get? b = some o → h'.get? b = some o) → EP X pins σ Q (.ref s.heap.objs.size) { s with heap := h', toks := tk } :=
    fun h' tk c R' hc' kp => ⟨.ref s.heap.objs.size, _, I.laid (t' := tk) kp (Nat.le_refl _) (setO_new R'), rfl, q _ c (I.hok.fresh (Nat.le_refl _)) hc'⟩
  have hb : ns.length + 1 < scanBound := by unfold scanBound; omega
  unfold seqD at hq
  split at hq
  · rename_i ds' ht
    cases hq
    obtain ⟨p, vs, rfl, h1, h2⟩ := top_tup ra ht
    rw [Vals.ref1 r]
    rw [allInts_map hn] at h2
    rw [rpL_ints h2] at h1
    obtain ⟨its, rv, hp, _⟩ := I.tuple h1.t
    exact call_set_tupI ns (I.ok.hd hc) hp (by simpa using ints_are rv) hb fin
  · rename_i ds' ht
    cases hq
    obtain ⟨p, vs, rfl, h1, h2⟩ := top_lst R ra ht
    rw [Vals.ref1 r]
    rw [allInts_map hn] at h2
    rw [rpL_ints h2] at h1
    obtain ⟨_, its, n, rv, _, ho⟩ := inv_rdL I h1
    exact setListI ns (I.ok.hd hc) ⟨_, ho, rfl, _, rfl⟩ (by simpa using ints_are rv) hb fin
  · cases hq
/-- sorted(set(x)) -/
theorem sortset_post {α : Al} {st st' : Sto} {H : Hp} {a d : D} {x : V} {c : Bool} {Q : VK} (R : RS X.K X.w cA α st H) (ra : Rp X.K X.w α st H a x) (e : gBi .sortset c [a] st = some (d, st')) (P : Post X.K X.w cA α st H st' d Q) :
    rSetD X.K X.w cA [x] H fun y H1 => rSortedSet X.w [y] H1 Q := by
  obtain ⟨z, hz, e⟩ := gBi_some e
  dsimp only [biD] at hz
  split at hz
  · rename_i ds hq
    split at hz
    · rename_i ns hn
      split at hz
      · rename_i h64
        cases hz
        refine ⟨α, st, a, x, ds, ns, rfl, R, ra, hq, hn, h64, fun p n hp hl => ⟨p, _, n, rfl, upd_same, by omega, fun ms p2 h1 h2 h3 h4 => ?_⟩⟩
        have em : ms = setI ns := rising_eq h1 (setI_sorted ns) fun k => by
          rw [h2, setI_mem]
          simp
        subst em
        have G := Go.newO (o := SetO X.w p (fun j => decide (j ∈ ns)) n) R hp
        have R' := RS.newO (o := SetO X.w p (fun j => decide (j ∈ ns)) n) R hp
        exact post_lst R' h4 (ints_rpL (setI ns)) e fun α' H' v G' R2 r => P α' H' v (G.trans G') R2 r
      · cases hz
    · cases hz
  · cases hz

/-! ### min of a list -/
theorem leastGo_mem : ∀ (r : List (D × PyData)) (a : D × PyData), leastGo a r ∈ a :: r
  | [], a => List.mem_cons_self
  | b :: r, a => by
    unfold leastGo
    rcases List.mem_cons.mp (leastGo_mem r (if dataLt b.2 a.2 then b else a)) with h | h
    · rw [h]
      split <;> simp
    · exact List.mem_cons_of_mem _ (List.mem_cons_of_mem _ h)
theorem leastGo_minD : ∀ (r : List (D × PyData)) (a : D × PyData), (leastGo a r).2 = minD a.2 (r.map (·.2))
  | [], a => rfl
  | b :: r, a => by
    unfold leastGo
    rw [leastGo_minD r]
    unfold minD
    rw [List.map_cons, List.foldl_cons]
    congr 1
    split <;> rfl
theorem zip_py : ∀ {ds : List D} {ps : List PyData} {b : D × PyData}, D.pys ds = some ps → b ∈ ds.zip ps → b.1.py = some b.2
  | [], _, b, h, hb => by cases h; cases hb
  | d :: ds, _, b, h, hb => by
    obtain ⟨p, qs, e1, e2, rfl⟩ := pys_cons h
    rw [List.zip_cons_cons] at hb
    rcases List.mem_cons.mp hb with rfl | hb
    · exact e1
    · exact zip_py e2 hb
theorem pys_get : ∀ {ds : List D} {ps : List PyData} {i : Nat} {d : D}, D.pys ds = some ps → ds[i]? = some d → ∃ p, ps[i]? = some p ∧ d.py = some p
  | [], _, i, d, h, e => by simp at e
  | d0 :: ds, _, 0, d, h, e => by
    obtain ⟨p, qs, e1, e2, rfl⟩ := pys_cons h
    cases e
    exact ⟨p, rfl, e1⟩
  | d0 :: ds, _, i + 1, d, h, e => by
    obtain ⟨p, qs, e1, e2, rfl⟩ := pys_cons h
    obtain ⟨p', a, b⟩ := pys_get (i := i) (d := d) e2 (by simpa using e)
    exact ⟨p', by simpa using a, b⟩
theorem depth_all_le : ∀ {ps : List PyData} {n : Nat}, (∀ p ∈ ps, p.depth ≤ n) → PyData.depthAll ps ≤ n
  | [], _, _ => by simp [PyData.depthAll]
  | p :: ps, n, h => by
    rw [PyData.depthAll]
    exact Nat.max_le.mpr ⟨h p List.mem_cons_self, depth_all_le fun q hq => h q (List.mem_cons_of_mem _ hq)⟩
theorem call_minlD (hu : X.A.units + 100 < cLine) (hc : X.calm = true) : CallR X (.builtin "min") (rL X.K X.w cA (gBi .minl false)) := by
  intro pins s σ H xs us Q I r h
  obtain ⟨α, st, as, d, st', R, ra, e, P⟩ := h
  obtain ⟨z, hz, e⟩ := gBi_some e
  cases e
  rcases as with _ | ⟨a, _ | ⟨b, as⟩⟩
  · cases hz
  · obtain ⟨x, rfl, rx⟩ := rpL1 ra
    dsimp only [biD] at hz
    split at hz
    · rename_i ds ht
      obtain ⟨p, vs, rfl, h1, h2⟩ := top_lst R rx ht
      rw [Vals.ref1 r]
      unfold leastD at hz
      split at hz
      · rename_i ps hp
        split at hz
        · rename_i ho
          split at hz
          · rename_i b rest hzip
            cases hz
            obtain ⟨_, its, n, rv, _, hob⟩ := inv_rdL I h1
            obtain ⟨a1, a2, a3⟩ := ord_alike ho
            have ep : ps = b.2 :: rest.map (·.2) := by rw [← zip_snd hp, hzip]; rfl
            obtain ⟨as, rs, pl⟩ := rpL_reads I ds vs its ps h2 rv hp
            rw [ep] at rs
            have nn : ∀ q ∈ ps, q ≠ .none := fun q hq => by
              rcases a2 with a2 | a2
              · obtain ⟨_, _, e⟩ := a2 q hq
                rw [e]
                intro z
                cases z
              · exact (a2 q hq).1
            refine min_list_data (x := b.2) (xs := rest.map (·.2)) (I.ok.hd hc) (⟨_, hob, rfl, _, rfl⟩ : s.heap.IsList p its.toArray) (by simpa using rs) (by rw [← ep]; exact ⟨a1, nn⟩) (by have := depth_all_le a3; rw [← ep]; omega) fun i v h' tk bs hi rd kp => ?_
            rw [← leastGo_minD] at rd
            have hi' : its[i]? = some v := by simpa using hi
            obtain ⟨zv, hzv⟩ : ∃ zv, vs[i]? = some zv := by
              cases hv : vs[i]? with
              | some zv => exact ⟨zv, rfl⟩
              | none => rw [rv.none_of hv] at hi'; cases hi'
            obtain ⟨u, hu', ru⟩ := rv.get hzv
            have eu : u = v := Option.some.inj (hu'.symm.trans hi')
            subst eu
            obtain ⟨d0, hd0, rd0⟩ := h2.get' hzv
            obtain ⟨p0, hp0, hpy⟩ := pys_get hp hd0
            obtain ⟨as0, r0, pl0⟩ := rp_reads I d0 zv u p0 rd0 ru hpy
            have r0' := PyProof.Rows.Reads.keeps kp r0
            have epp : p0 = (leastGo b rest).2 := SeqAt.plain_unique _ _ _ _ _ pl0 r0' rd
            have hm : leastGo b rest ∈ ds.zip ps := by rw [hzip]; exact leastGo_mem rest b
            have ed : d0 = (leastGo b rest).1 := py_inj hpy (by rw [epp]; exact zip_py hp hm)
            subst ed
            exact ⟨zv, H, I.kept (t' := tk) kp, ru, P α H zv .refl R rd0⟩
          · cases hz
        · cases hz
      · cases hz
    · cases hz
  · cases hz
end
end DL
end

section
set_option Elab.async false
set_option linter.all false
set_option maxRecDepth 100000
set_option maxHeartbeats 4000000
/-! DL, part n: dicts made of pairs. -/
namespace DL
open PySem PySem.Spec PyProof.Rows L2 PySem.W PySem.Calls

theorem sortOk_of {ks : List D} {k : D} {c : Bool} (h : ∀ j ∈ ks, j.sort = some c) (hk : k.sort = some c) : sortOk ks k = true := by
  cases ks with
  | nil => rfl
  | cons j r =>
    have e := h j List.mem_cons_self
    simp [sortOk, e, hk]
/-- the keys of the pairs: all of one sort -/
theorem pairsOk_all : ∀ {ps : List (D × D)} {ks : List D} {c : Bool}, (∀ j ∈ ks, j.sort = some c) → ks ≠ [] → pairsOk ks ps = true → ∀ p ∈ ps, keyOk p.1 = true ∧ p.1.sort = some c
  | [], _, _, _, _, _ => fun p hp => by cases hp
  | (k, v) :: r, ks, c, h, h0, e => by
    unfold pairsOk at e
    simp only [Bool.and_eq_true] at e
    obtain ⟨⟨e1, e2⟩, e3⟩ := e
    have hk : k.sort = some c := by
      cases ks with
      | nil => exact absurd rfl h0
      | cons j r' =>
        have e4 : j.sort = k.sort := by simpa [sortOk] using e2
        rw [← e4]
        exact h j List.mem_cons_self
    have ih := pairsOk_all (ps := r) (ks := ks ++ [k]) (c := c) (fun j hj => by
      rcases List.mem_append.mp hj with hj | hj
      · exact h j hj
      · have : j = k := by simpa using hj
        subst this
        exact hk) (by simp) e3
    intro p hp
    rcases List.mem_cons.mp hp with rfl | hp
    · exact ⟨e1, hk⟩
    · exact ih p hp
theorem pairsOk_nil {ps : List (D × D)} (e : pairsOk [] ps = true) : ∃ c, ∀ p ∈ ps, keyOk p.1 = true ∧ p.1.sort = some c := by
  cases ps with
  | nil => exact ⟨true, fun p hp => by cases hp⟩
  | cons p r =>
    obtain ⟨k, v⟩ := p
    unfold pairsOk at e
    simp only [Bool.and_eq_true] at e
    obtain ⟨⟨e1, e2⟩, e3⟩ := e
    obtain ⟨c, x, hc, _⟩ := keyOk_some e1
    refine ⟨c, fun p hp => ?_⟩
    rcases List.mem_cons.mp hp with rfl | hp
    · exact ⟨e1, hc⟩
    · exact pairsOk_all (ks := [k]) (fun j hj => by
        have : j = k := by simpa using hj
        subst this
        exact hc) (by simp) e3 p hp
theorem dput_len {ks vs : List D} {q u : D} (h : ks.length = vs.length) : (dput ks vs q u).1.length = (dput ks vs q u).2.length := by
  have set_len : ∀ (ks vs : List D), (dset ks vs q u).length = vs.length := by
    intro ks
    induction ks with
    | nil => intro vs; cases vs <;> rfl
    | cons k ks ih =>
      intro vs
      cases vs with
      | nil => rfl
      | cons v vs =>
        unfold dset
        split
        · rfl
        · simp [ih]
  unfold dput
  split
  · dsimp only
    rw [set_len, h]
  · simp [h]
theorem dput_keys_len (ks vs : List D) (q u : D) : (dput ks vs q u).1.length ≤ ks.length + 1 := by
  unfold dput
  split <;> simp
theorem dput_sort {ks vs : List D} {q u : D} {c : Bool} (h : ∀ j ∈ ks, j.sort = some c) (hq : q.sort = some c) : ∀ j ∈ (dput ks vs q u).1, j.sort = some c := by
  unfold dput
  split
  · exact h
  · intro j hj
    rcases List.mem_append.mp hj with hj | hj
    · exact h j hj
    · have : j = q := by simpa using hj
      subst this
      exact hq

section
variable {X : Cx} {pins : List (Addr × Obj)} {σ : L2.St} {s : Shared} {w : World} {cA : Nat → Addr} {K : PySem.W.Frag} {α : Al} {st st' : Sto} {H : Hp}
def PairsR (K : PySem.W.Frag) (w : World) (α : Al) (st : Sto) (H : Hp) : List (D × D) → List (Key × Value) → Prop := Paired fun p q => lk p.1 = q.1 ∧ ∃ u, RelV u q.2 ∧ Rp K w α st H p.2 u
theorem zip_back {β γ : Type} (l : List (β × γ)) : (l.map (·.1)).zip (l.map (·.2)) = l := by
  induction l with
  | nil => rfl
  | cons a l ih => rw [List.map_cons, List.map_cons, List.zip_cons_cons, ih]
theorem leaf_puts : ∀ {ps : List (D × D)} {ks vs : List D} {us : List V} {ws : List Value} {kvs : List (Key × Value)}, KeysGood ks → (∀ k ∈ ks, k.sort = some false) → (∀ p ∈ ps, keyOk p.1 = true ∧ p.1.sort = some false) → ks.length = vs.length → ks.length + ps.length ≤ sizeLine →
    RpL K w α st H vs us → Vals us ws → PairsR K w α st H ps kvs →
    ∃ us', KeysGood (dputs (ks, vs) ps).1 ∧ (∀ k ∈ (dputs (ks, vs) ps).1, k.sort = some false) ∧ RpL K w α st H (dputs (ks, vs) ps).2 us' ∧ Vals us' ((merged ((ks.map lk).zip ws) kvs).map (·.2)) ∧ (merged ((ks.map lk).zip ws) kvs).map (·.1) = (dputs (ks, vs) ps).1.map lk
  | [], ks, vs, us, ws, kvs, g, hl, _, hn, _, r, v, pr => by
    cases pr
    have hz : ks.length = ws.length := by rw [hn, r.length, v.length]
    refine ⟨us, g, hl, r, ?_, ?_⟩
    · show Vals us (((ks.map lk).zip ws).map (·.2))
      rw [List.map_snd_zip (by rw [List.length_map, hz]; exact Nat.le_refl _)]
      exact v
    · show ((ks.map lk).zip ws).map (·.1) = _
      rw [List.map_fst_zip (by rw [List.length_map, hz]; exact Nat.le_refl _)]
      rfl
  | (k, d) :: ps, ks, vs, us, ws, _, g, hl, hp, hn, hz, r, v, pr => by
    cases pr with
    | @cons _ q _ kvs h1 h2 =>
      obtain ⟨e1, u, ru, rd⟩ := h1
      obtain ⟨hk, hs⟩ := hp (k, d) List.mem_cons_self
      rw [List.length_cons] at hz
      obtain ⟨nk, n1, n2, _⟩ := g.keys
      obtain ⟨us1, g1, g2, g3⟩ := leaf_put hl hs (lk_map_nodup hl n1 n2) hn r v rd ru
      have e2 : stored ((ks.map lk).zip ws) q.1 q.2 = ((dput ks vs k d).1.map lk).zip ((stored ((ks.map lk).zip ws) (lk k) q.2).map (·.2)) := by
        rw [← g3, zip_back]
        show stored _ q.1 q.2 = stored _ (lk k) q.2
        rw [← e1]
      have step := leaf_puts (ps := ps) (ks := (dput ks vs k d).1) (vs := (dput ks vs k d).2) (keysGood_put g hk (sortOk_of hl hs) (by omega)) (dput_sort hl hs) (fun p hp' => hp p (List.mem_cons_of_mem _ hp')) (dput_len hn) (by have := dput_keys_len ks vs k d; omega) g1 g2 h2
      rw [← e2] at step
      exact step
/-- the new dict's entries -/
theorem leaf_new {P : Program} {h' : Heap} {p : Addr} {ks : List D} {kvs : List (Key × Value)} {us : List V} (dd : h'.DictOf (mixKind P w) p kvs) (hl : ∀ k ∈ ks, k.sort = some false) (e : kvs.map (·.1) = ks.map lk) (v : Vals us (kvs.map (·.2))) :
    ∃ (es : Array DictEntry) (ep : Nat), h'.DictRaw p es ep ∧ Ents K w α st H ks es.toList ∧ Vals us (es.toList.map (·.val)) := by
  obtain ⟨o, es, ep, ho, hx, hd, kk, pp, _⟩ := dd
  obtain ⟨k1, k2⟩ := ents_leaf (K := K) (w := w) (α := α) (st := st) (H := H) (P := P) hl e pp fun e he => kk e (by simpa using he)
  exact ⟨es, ep, ⟨o, ho, hx, hd⟩, k1, by rw [k2]; exact v⟩
def PairsT (K : PySem.W.Frag) (w : World) (α : Al) (st : Sto) (H : Hp) : List (D × D) → List KX → Prop := Paired fun p x => p.1.key = some x.1 ∧ Rp K w α st H p.1 (.ref x.2.1) ∧ ∃ u, RelV u x.2.2 ∧ Rp K w α st H p.2 u
theorem tup_puts : ∀ {ps : List (D × D)} {ks vs : List D} {us : List V} {xs kvs : List KX}, KeysGood ks → (∀ k ∈ ks, k.sort = some true) → (∀ p ∈ ps, keyOk p.1 = true ∧ p.1.sort = some true) → ks.length = vs.length → ks.length + ps.length ≤ sizeLine →
    RpL K w α st H vs us → Vals us (xs.map (·.2.2)) → TK K w α st H ks xs → PairsT K w α st H ps kvs →
    ∃ us', KeysGood (dputs (ks, vs) ps).1 ∧ RpL K w α st H (dputs (ks, vs) ps).2 us' ∧ Vals us' ((storedAllH xs kvs).map (·.2.2)) ∧ TK K w α st H (dputs (ks, vs) ps).1 (storedAllH xs kvs)
  | [], ks, vs, us, xs, kvs, g, hl, _, hn, _, r, v, tk, pr => by
    cases pr
    exact ⟨us, g, r, v, tk⟩
  | (k, d) :: ps, ks, vs, us, xs, _, g, hl, hp, hn, hz, r, v, tk, pr => by
    cases pr with
    | @cons _ q _ kvs h1 h2 =>
      obtain ⟨e1, rk, u, ru, rd⟩ := h1
      obtain ⟨hk, hs⟩ := hp (k, d) List.mem_cons_self
      rw [List.length_cons] at hz
      obtain ⟨nk, n1, n2, _⟩ := g.keys
      have en : nk = xs.map (·.1) := Option.some.inj (n1.symm.trans tk.keys)
      subst en
      obtain ⟨us1, g1, g2, g3⟩ := tup_put tk e1 rk n2 hn r v rd ru
      exact tup_puts (ps := ps) (ks := (dput ks vs k d).1) (vs := (dput ks vs k d).2) (xs := storedH xs q.1 q.2.1 q.2.2) (keysGood_put g hk (sortOk_of hl hs) (by omega)) (dput_sort hl hs) (fun p hp' => hp p (List.mem_cons_of_mem _ hp')) (dput_len hn) (by have := dput_keys_len ks vs k d; omega) g1 g2 g3 h2
theorem tup_new {P : Program} {h' : Heap} {p : Addr} {ks : List D} {xs : List KX} {us : List V} (dd : h'.DictOfH (nestedKind P w) p xs) (tk : TK K w α st H ks xs) (v : Vals us (xs.map (·.2.2))) :
    ∃ (es : Array DictEntry) (ep : Nat), h'.DictRaw p es ep ∧ Ents K w α st H ks es.toList ∧ Vals us (es.toList.map (·.val)) := by
  obtain ⟨o, es, ep, ho, hx, hd, hes, _, _⟩ := dd
  have k1 := TK.ents (P := P) tk
  rw [← hes] at k1
  exact ⟨es, ep, ⟨o, ho, hx, hd⟩, k1, by rw [hes, vals_of_ents]; exact v⟩
end

/-! ### dict(pairs) -/
theorem allPairs_map : ∀ {xs : List D} {ps : List (D × D)}, allPairs xs = some ps → xs = ps.map fun p => D.tup [p.1, p.2]
  | [], ps, h => by cases h; rfl
  | .tup [a, b] :: r, ps, h => by
    dsimp only [allPairs] at h
    obtain ⟨qs, h1, h2⟩ := Option.map_eq_some_iff.mp h
    subst h2
    rw [List.map_cons, ← allPairs_map h1]
  | .tup [] :: r, ps, h => by cases h
  | .tup [_] :: r, ps, h => by cases h
  | .tup (_ :: _ :: _ :: _) :: r, ps, h => by cases h
  | .none :: r, ps, h => by cases h
  | .bool _ :: r, ps, h => by cases h
  | .int _ :: r, ps, h => by cases h
  | .str _ :: r, ps, h => by cases h
  | .lst _ :: r, ps, h => by cases h
  | .dct _ _ :: r, ps, h => by cases h
  | .ref _ :: r, ps, h => by cases h
  | .scr _ :: r, ps, h => by cases h
def addrOf : Value → Addr
  | .ref a => a
  | _ => 0
section
variable {X : Cx} {pins : List (Addr × Obj)} {σ : L2.St} {s : Shared} {w : World} {cA : Nat → Addr} {α : Al} {st st' : Sto} {H : Hp}
/-- a row of pairs in the heap -/
theorem pairs_at (I : Inv X pins σ H s) : ∀ {ps : List (D × D)} {vs : List V} {its : List Value}, RpL X.K w α st H (ps.map fun p => D.tup [p.1, p.2]) vs → Vals vs its →
    ∃ qs : List (Value × Value), qs.length = ps.length ∧ its.length = ps.length ∧ (∀ (j : Nat) (k v : Value), qs[j]? = some (k, v) → its[j]? = some (.ref (addrOf (its.getD j .none))) ∧ PairAt s.heap (addrOf (its.getD j .none)) k v) ∧
      Paired (fun (p : D × D) (q : Value × Value) => ∃ x y, RelV x q.1 ∧ RelV y q.2 ∧ Rp X.K w α st H p.1 x ∧ Rp X.K w α st H p.2 y) ps qs
  | [], _, _, h, r => by
    cases h
    cases r
    exact ⟨[], rfl, rfl, fun j k v e => by simp at e, .nil⟩
  | (a, b) :: ps, _, _, h, r => by
    rw [List.map_cons] at h
    cases h with
    | cons h1 h2 =>
      cases r with
      | @cons _ u _ its r1 r2 =>
        cases h1 with
        | @tup t ws _ t1 t2 =>
          have eu : u = Value.ref t := r1
          subst eu
          obtain ⟨x, y, rfl, rx, ry⟩ := rpL2 t2
          obtain ⟨us, rv, ht, _⟩ := I.tuple t1.t
          obtain ⟨u1, u2, rfl, q1, q2⟩ := vals2 rv
          obtain ⟨qs, e1, e2, e3, e4⟩ := pairs_at I h2 r2
          refine ⟨(u1, u2) :: qs, by simp [e1], by simp [e2], fun j k v e => ?_, .cons ⟨x, y, q1, q2, rx, ry⟩ e4⟩
          cases j with
          | zero =>
            cases e
            exact ⟨rfl, .inl ht⟩
          | succ j =>
            obtain ⟨f1, f2⟩ := e3 j k v (by simpa using e)
            exact ⟨by simpa using f1, by simpa using f2⟩
theorem paired_at {β γ : Type} {F : β → γ → Prop} : ∀ {a : List β} {b : List γ}, Paired F a b → ∀ {j : Nat} {y : γ}, b[j]? = some y → ∃ x, a[j]? = some x ∧ F x y
  | _, _, .nil, j, y, e => by simp at e
  | _, _, .cons h t, 0, y, e => by cases e; exact ⟨_, rfl, h⟩
  | _, _, .cons h t, j + 1, y, e => by
    obtain ⟨x, a, b⟩ := paired_at t (j := j) (y := y) (by simpa using e)
    exact ⟨x, by simpa using a, b⟩
theorem paired_len {β γ : Type} {F : β → γ → Prop} : ∀ {a : List β} {b : List γ}, Paired F a b → a.length = b.length
  | _, _, .nil => rfl
  | _, _, .cons _ t => by simp [paired_len t]
abbrev PairQ (K : PySem.W.Frag) (w : World) (α : Al) (st : Sto) (H : Hp) : List (D × D) → List (Value × Value) → Prop := Paired (fun (p : D × D) (q : Value × Value) => ∃ x y, RelV x q.1 ∧ RelV y q.2 ∧ Rp K w α st H p.1 x ∧ Rp K w α st H p.2 y)
/-- the pairs as the leaf rules want them -/
theorem pairs_leaf : ∀ {ps : List (D × D)} {qs : List (Value × Value)}, (∀ p ∈ ps, p.1.sort = some false) → PairQ X.K X.w α st H ps qs →
    ∃ kvs : List (Key × Value), PairsR X.K X.w α st H ps kvs ∧ Paired (fun (q : Value × Value) (kv : Key × Value) => (mixKind X.prog X.w).is kv.1 q.1 = true ∧ q.2 = kv.2) qs kvs
  | [], _, _, h => by cases h; exact ⟨[], .nil, .nil⟩
  | p :: ps, _, hl, h => by
    cases h with
    | @cons _ q _ _ h t =>
      obtain ⟨x, y, r1, r2, h1, h2⟩ := h
      obtain ⟨kvs, a1, a2⟩ := pairs_leaf (fun p hp => hl p (List.mem_cons_of_mem _ hp)) t
      exact ⟨(lk p.1, q.2) :: kvs, .cons ⟨rfl, y, r2, h2⟩ a1, .cons ⟨leaf_is (hl p List.mem_cons_self) h1 r1, rfl⟩ a2⟩
theorem pairs_tup (I : Inv X pins σ H s) : ∀ {ps : List (D × D)} {qs : List (Value × Value)}, (∀ p ∈ ps, keyOk p.1 = true ∧ p.1.sort = some true) → PairQ X.K X.w α st H ps qs →
    ∃ kvs : List KX, PairsT X.K X.w α st H ps kvs ∧ Paired (fun (q : Value × Value) (kv : KX) => q.1 = .ref kv.2.1 ∧ q.2 = kv.2.2) qs kvs ∧ ∀ x ∈ kvs, x.1.depth ≤ 8 ∧ ∃ k : D, k.key = some x.1 ∧ Rp X.K X.w α st H k (.ref x.2.1)
  | [], _, _, h => by cases h; exact ⟨[], .nil, .nil, fun x hx => by cases hx⟩
  | p :: ps, _, hl, h => by
    cases h with
    | @cons _ q _ _ h t =>
      obtain ⟨x, y, r1, r2, h1, h2⟩ := h
      obtain ⟨kvs, a1, a2, a3⟩ := pairs_tup I (fun p hp => hl p (List.mem_cons_of_mem _ hp)) t
      obtain ⟨hk, hs⟩ := hl p List.mem_cons_self
      obtain ⟨c, n, hc, hn, hd⟩ := keyOk_some hk
      obtain ⟨a, e1, e2, e3⟩ := tup_is (P := X.prog) I hs hn hd h1 r1
      subst e1
      refine ⟨(n, a, q.2) :: kvs, .cons ⟨hn, h1, y, r2, h2⟩ a1, .cons ⟨e2, rfl⟩ a2, fun z hz => ?_⟩
      rcases List.mem_cons.mp hz with rfl | hz
      · exact ⟨hd, p.1, hn, h1⟩
      · exact a3 z hz
/-- what a dict(..) of a row of pairs gives, whatever the row is -/
theorem dict_post {T : String} {a : Addr} {fp wr : List Addr} {n : Nat} {Rel : Nat → Value → Value → Prop} {OK : Heap → Prop} {ps : List (D × D)} {qs : List (Value × Value)} {c : Bool} {d : D} {Q : VK} (hu : X.A.units + 100 < cLine) (hc : X.calm = true) (I : Inv X pins σ H s) (R : RS X.K X.w cA α st H)
    (P : PairArg X.prog X.w T a fp wr n Rel OK) (ok : OK s.heap) (hn : qs.length = n) (hrel : ∀ i k v, Rel i k v → qs[i]? = some (k, v)) (pr : PairQ X.K X.w α st H ps qs)
    (hok : pairsOk [] ps = true) (hl : ps.length ≤ sizeLine) (hw : ∀ b ∈ wr, FpOk X pins H b)
    (e : laid c (.dct (dputs ([], []) ps).1 (dputs ([], []) ps).2) st = (d, st')) (Pq : Post X.K X.w cA α st H st' d Q) :
    wpAny (model X.prog X.w) X.A (call (.type "dict") [.ref a]) (EP X pins σ Q) X.xe s := by
  have lp : ps.length = qs.length := paired_len pr
  obtain ⟨b, hb⟩ := pairsOk_nil hok
  have fr : H s.heap.objs.size = none := I.hok.fresh (Nat.le_refl _)
  have sy : (s.heap.objs.size == sysModules) = false := beq_eq_false_iff_ne.mpr (Nat.ne_of_gt I.big)
  have fin : ∀ (h' : Heap) (tk : Nat) (us' : List V), (∃ (es : Array DictEntry) (ep : Nat), h'.DictRaw s.heap.objs.size es ep ∧ Ents X.K X.w α st H (dputs ([], []) ps).1 es.toList ∧ Vals us' (es.toList.map (·.val))) → KeysGood (dputs ([], []) ps).1 → RpL X.K X.w α st H (dputs ([], []) ps).2 us' →
      (∀ b o, b ∉ wr → s.heap.get? b = some o → h'.get? b = some o) → EP X pins σ Q (.ref s.heap.objs.size) { s with heap := h', toks := tk } := by
    rintro h' tk us' ⟨es, ep, hr, en, vl⟩ kg rl kp
    have new : ObjOk X.prog X.w (upd H s.heap.objs.size (rawO s.heap.objs.size es ep)) h' s.heap.objs.size (rawO s.heap.objs.size es ep) := ⟨hr, (let ⟨o, ho, _⟩ := hr; ⟨o, ho⟩), fun h1 h2 x e => x.at e⟩
    have I1 := I.turnedNew (t' := tk) kp hw (Nat.le_refl _) new
    exact ⟨.ref s.heap.objs.size, _, I1, rfl, post_dct R fr sy kg en rl vl e Pq⟩
  cases b with
  | false =>
    obtain ⟨kvs, k1, k2⟩ := pairs_leaf (fun p hp => (hb p hp).2) pr
    refine call_dict_pairs (knd := mixKind X.prog X.w) (kvs := kvs) P (I.ok.hd hc) ok ⟨by rw [← paired_len k2, hn], fun i key v h => ?_⟩ (by rw [← hn, ← lp]; exact hl) fun h' tk dd kp => ?_
    · obtain ⟨kv, e1, e2⟩ : ∃ kv, kvs[i]? = some kv ∧ ((mixKind X.prog X.w).is kv.1 key = true ∧ v = kv.2) := by
        have hq := hrel i key v h
        have li : i < kvs.length := by rw [← paired_len k2]; exact (List.getElem?_eq_some_iff.mp hq).1
        obtain ⟨q, f1, f2⟩ := paired_at k2 (List.getElem?_eq_getElem li)
        have : q = (key, v) := Option.some.inj (f1.symm.trans hq)
        subst this
        exact ⟨_, List.getElem?_eq_getElem li, f2⟩
      exact ⟨kv.1, by rw [e1, e2.2], e2.1⟩
    · obtain ⟨us', g1, g2, g3, g4, g5⟩ := leaf_puts (us := []) (ws := []) (K := X.K) (w := X.w) (α := α) (st := st) (H := H) keysGood_nil (fun k hk => by cases hk) hb rfl (by rw [List.length_nil]; omega) .nil .nil k1
      exact fin h' tk us' (leaf_new dd g2 g5 g4) g1 g3 kp
  | true =>
    obtain ⟨kvs, k1, k2, k3⟩ := pairs_tup I hb pr
    refine call_dict_pairsH (knd := nestedKind X.prog X.w) (ps := kvs) P (I.ok.hd hc) (by show X.A.units + 1 + 1 + 8 < cLine; omega) ok ⟨by rw [← paired_len k2, hn], fun i key v h => ?_⟩ (fun h' kp x hx => by
      obtain ⟨hd, k, hk, rk⟩ := k3 x hx
      have I1 := I.turnedL (t' := s.toks) (h' := h') (ch := wr) (fun b o hb e => kp b o (Nat.ne_of_lt (Heap.lt_size e)) hb e) hw
      exact ⟨rp_nested I1 k _ _ _ rk rfl hk, hd⟩) (by rw [← hn, ← lp]; exact hl) fun h' tk dd kp => ?_
    · have hq := hrel i key v h
      have li : i < kvs.length := by rw [← paired_len k2]; exact (List.getElem?_eq_some_iff.mp hq).1
      obtain ⟨q, f1, f2⟩ := paired_at k2 (List.getElem?_eq_getElem li)
      have : q = (key, v) := Option.some.inj (f1.symm.trans hq)
      subst this
      exact ⟨kvs[i].1, kvs[i].2.1, by rw [List.getElem?_eq_getElem li]; rw [show v = kvs[i].2.2 from f2.2], f2.1⟩
    · obtain ⟨us', g1, g3, g4, g5⟩ := tup_puts (us := []) (xs := []) (K := X.K) (w := X.w) (α := α) (st := st) (H := H) keysGood_nil (fun k hk => by cases hk) hb rfl (by rw [List.length_nil]; omega) .nil .nil .nil k1
      exact fin h' tk us' (tup_new dd g5 g4) g1 g3 kp
end
end DL
end

section
set_option Elab.async false
set_option linter.all false
set_option maxRecDepth 100000
set_option maxHeartbeats 4000000
/-! DL, part o: dict(..), displays; what was made is shown. -/
namespace DL
open PySem PySem.Spec PyProof.Rows L2 PySem.W

section
variable {K : PySem.W.Frag} {w : World} {cA : Nat → Addr} {α α2 : Al} {st st2 : Sto} {H H2 : Hp} {p : Addr}
theorem fz_made (R0 : RS K w cA α st H) (h0 : H p = none) (R : RS K w cA α2 st2 H2) (eg : α2.g = p :: α.g) : Fz (α2.show α.g) st2 p :=
  ⟨R0.freshG h0, fun i e => absurd (List.mem_of_getElem? e) (R.hid p (by rw [eg]; exact List.mem_cons_self)).1⟩
theorem push_made (R0 : RS K w cA α st H) (h0 : H p = none) (R : RS K w cA α2 st2 H2) (G : Gh α st H α2 st2 H2) (eg : α2.g = p :: α.g) (c : Cell) : Gw α2 st2 H2 ((α2.show α.g).push p) (st2 ++ [c]) H2 ∧ Go α st H ((α2.show α.g).push p) (st2 ++ [c]) H2 := by
  have R1 : RS K w cA (α2.show α.g) st2 H2 := R.unhide eg
  have np : p ∉ α2.l := (R.hid p (by rw [eg]; exact List.mem_cons_self)).1
  have w1 : Gw α2 st2 H2 ((α2.show α.g).push p) (st2 ++ [c]) H2 := {
    pre := ⟨[p], rfl⟩
    tup := fun _ _ _ q => q
    fz := fun a o q f => by
      have ne : a ≠ p := by
        rintro rfl
        exact f.1 (by rw [eg]; exact List.mem_cons_self)
      refine ⟨q, fun z => f.1 (by rw [eg]; exact List.mem_cons_of_mem _ z), fun i e => ?_⟩
      rcases get_push e with ⟨hi, e⟩ | ⟨_, e⟩
      · rw [List.getElem?_append_left (by rw [← R1.len]; exact hi)]
        exact f.2 i e
      · exact absurd e ne }
  refine ⟨w1, ⟨⟨?_, fun a ha => ⟨ha, (G.sub a ha).2⟩, fun i a l e1 e2 k => ?_⟩, rfl⟩⟩
  · refine { pre := G.w.pre.trans ⟨[p], rfl⟩, tup := G.w.tup, fz := fun a o q f => ?_ }
    have ne : a ≠ p := by rintro rfl; rw [h0] at q; cases q
    obtain ⟨h1, f1⟩ := G.w.fz a o q f
    exact w1.fz a o h1 f1
  · obtain ⟨h1, h2⟩ := G.lk i a l e1 e2 k
    exact ⟨by rw [List.getElem?_append_left (List.getElem?_eq_some_iff.mp h1).1]; exact h1, h2⟩
theorem made_last (α2 : Al) (g : List Addr) (p : Addr) {st2 : Sto} (h : α2.l.length = st2.length) : ((α2.show g).push p).l[st2.length]? = some p := by
  rw [← h]
  exact push_last (α2.show g) p
theorem rs_pushed {c : Cell} {g : List Addr} (r : RS K w cA α st H) (np : p ∉ α.l) (hg : ∀ a ∈ g, a ∈ α.g ∧ a ≠ p) (gw : Gw α st H ((α.show g).push p) (st ++ [c]) H) (hc : CellR K w cA ((α.show g).push p) (st ++ [c]) H p c) : RS K w cA ((α.show g).push p) (st ++ [c]) H where
  len := by show (α.l ++ [p]).length = _; simp [r.len]
  nd := by
    show (α.l ++ [p]).Nodup
    rw [List.nodup_append]
    exact ⟨r.nd, by simp, fun a ha b hb => by
      have : b = p := by simpa using hb
      subst this
      rintro rfl
      exact np ha⟩
  cell := fun i a c' e1 e2 => by
    rcases get_push e1 with ⟨hi, e1⟩ | ⟨hi, e1⟩
    · have hi : i < α.l.length := hi
      rw [List.getElem?_append_left (by rw [← r.len]; exact hi)] at e2
      exact gw.cell (r.cell i a c' e1 e2) rfl
    · have hi : i = α.l.length := hi
      subst e1
      rw [List.getElem?_append_right (by rw [← r.len]; omega), hi, ← r.len, Nat.sub_self] at e2
      cases e2
      exact hc
  hid := fun a ha => ⟨by
    show a ∉ α.l ++ [p]
    rw [List.mem_append]
    rintro (h | h)
    · exact (r.hid a (hg a ha).1).1 h
    · have : a = p := by simpa using h
      exact (hg a ha).2 this, (r.hid a (hg a ha).1).2⟩
/-- a dict that was made behind a curtain -/
theorem made_dct {ks vs : List D} {us : List V} {es : Array DictEntry} {ep : Nat} (R0 : RS K w cA α st H) (h0 : H p = none) (R : RS K w cA α2 st2 H2) (G : Gh α st H α2 st2 H2) (eg : α2.g = p :: α.g) (hp : H2 p = some (rawO p es ep)) (sy : (p == sysModules) = false) (kg : KeysGood ks)
    (en : Ents K w α2 st2 H2 ks es.toList) (rl : RpL K w α2 st2 H2 vs us) (vl : Vals us (es.toList.map (·.val))) (c : Bool) :
    ∃ α', Go α st H α' (laid c (.dct ks vs) st2).2 H2 ∧ RS K w cA α' (laid c (.dct ks vs) st2).2 H2 ∧ Rp K w α' (laid c (.dct ks vs) st2).2 H2 (laid c (.dct ks vs) st2).1 (.ref p) := by
  cases c with
  | false =>
    have u : Gw α2 st2 H2 (α2.show α.g) st2 H2 := Gw.unhide eg
    exact ⟨α2.show α.g, G.unhide eg, R.unhide eg, .dct hp (fz_made R0 h0 R eg) sy kg (u.ents _ _ en) (u.rpL _ _ rl) vl⟩
  | true =>
    obtain ⟨w1, G1⟩ := push_made R0 h0 R G eg (.dct ks vs)
    exact ⟨_, G1, rs_pushed R (R.hid p (by rw [eg]; exact List.mem_cons_self)).1 (fun a ha => ⟨by rw [eg]; exact List.mem_cons_of_mem _ ha, by rintro rfl; exact R0.freshG h0 ha⟩) w1 (.dct hp sy kg (w1.ents _ _ en) (w1.rpL _ _ rl) vl), .ref (made_last α2 α.g p R.len)⟩
/-- a list -/
theorem made_lst {ds : List D} {us : List V} (R0 : RS K w cA α st H) (h0 : H p = none) (R : RS K w cA α2 st2 H2) (G : Gh α st H α2 st2 H2) (eg : α2.g = p :: α.g) (hp : H2 p = some (.lst us)) (rl : RpL K w α2 st2 H2 ds us) (c : Bool) :
    ∃ α', Go α st H α' (laid c (.lst ds) st2).2 H2 ∧ RS K w cA α' (laid c (.lst ds) st2).2 H2 ∧ Rp K w α' (laid c (.lst ds) st2).2 H2 (laid c (.lst ds) st2).1 (.ref p) := by
  cases c with
  | false =>
    have u : Gw α2 st2 H2 (α2.show α.g) st2 H2 := Gw.unhide eg
    exact ⟨α2.show α.g, G.unhide eg, R.unhide eg, .lst (.inl hp) (fz_made R0 h0 R eg) (u.rpL _ _ rl)⟩
  | true =>
    obtain ⟨w1, G1⟩ := push_made R0 h0 R G eg (.lst ds)
    exact ⟨_, G1, rs_pushed R (R.hid p (by rw [eg]; exact List.mem_cons_self)).1 (fun a ha => ⟨by rw [eg]; exact List.mem_cons_of_mem _ ha, by rintro rfl; exact R0.freshG h0 ha⟩) w1 (.lst hp (w1.rpL _ _ rl)), .ref (made_last α2 α.g p R.len)⟩
end

/-! ### dict(..) -/
section
variable {X : Cx} {cA : Nat → Addr}
theorem call_dict0D (c : Bool) : CallR X (.type "dict") (rL X.K X.w cA (gBi .dict0 c)) := by
  intro pins s σ H xs us Q I r h
  obtain ⟨α, st, as, d, st', R, ra, e, P⟩ := h
  obtain ⟨z, hz, e⟩ := gBi_some e
  rcases as with _ | ⟨a, as⟩
  · cases hz
    cases ra
    cases r
    have sy : (s.heap.objs.size == sysModules) = false := beq_eq_false_iff_ne.mpr (Nat.ne_of_gt I.big)
    have hr : (s.heap.push { cls := .type "dict", data := .dict #[] }).DictRaw s.heap.objs.size #[] 0 := ⟨_, Heap.get?_push_size _ rfl, ⟨rfl, rfl, rfl⟩, rfl⟩
    refine FK.call_dict0 ⟨.ref s.heap.objs.size, upd H s.heap.objs.size (rawO s.heap.objs.size #[] 0), I.laid (t' := s.toks) (fun _ _ q => Heap.get?_push_of_some _ q) (Nat.le_refl _) ⟨hr, (let ⟨o, ho, _⟩ := hr; ⟨o, ho⟩), fun h1 h2 x e => x.at e⟩, rfl, ?_⟩
    exact post_dct R (I.hok.fresh (Nat.le_refl _)) sy keysGood_nil .nil .nil .nil e P
  · cases hz
theorem apart_leaf {ks : List D} (g : KeysGood ks) (h : apartOk ks = true) : ∀ k ∈ ks, k.sort = some false := by
  obtain ⟨b, hb⟩ := g.sort
  cases b with
  | false => exact hb
  | true =>
    intro k hk
    obtain ⟨ds, e⟩ := sort_tup (hb k hk)
    have := List.all_eq_true.mp h k hk
    rw [e] at this
    cases this
theorem call_dictD (hu : X.A.units + 100 < cLine) (hc : X.calm = true) (c : Bool) : CallR X (.type "dict") (rL X.K X.w cA (gBi .dict c)) := by
  intro pins s σ H xs us Q I r h
  obtain ⟨α, st, as, d, st', R, ra, e, P⟩ := h
  obtain ⟨z, hz, e⟩ := gBi_some e
  rcases as with _ | ⟨a, _ | ⟨b, as⟩⟩
  · cases hz
  · obtain ⟨x, rfl, rx⟩ := rpL1 ra
    dsimp only [biD] at hz
    split at hz
    · rename_i ds ht
      split at hz
      · rename_i ps hp
        split at hz
        · rename_i hk
          rw [Bool.and_eq_true] at hk
          cases hz
          obtain ⟨p, vs, rfl, h1, h2⟩ := top_lst R rx ht
          rw [Vals.ref1 r]
          rw [allPairs_map hp] at h2
          obtain ⟨_, its, n, rv, _, ho⟩ := inv_rdL I h1
          obtain ⟨qs, e1, e2, e3, e4⟩ := pairs_at I h2 rv
          refine dict_post hu hc I R (PairArg.list p its.toArray (fun j => addrOf (its.getD j .none)) qs) ⟨⟨_, n, ho, rfl, rfl, rfl⟩, by rw [List.size_toArray, e1, e2], fun j k v hj => ?_⟩ rfl (fun i k v hi => hi) e4 hk.1 (line_big hk.2) (fun b hb => by cases hb) e P
          obtain ⟨f1, f2⟩ := e3 j k v hj
          exact ⟨by simpa using f1, f2⟩
        · cases hz
      · cases hz
    · rename_i ks vs ht
      split at hz
      · rename_i hap
        cases hz
        obtain ⟨p, es, ep, us', rfl, h1, h2, h3, h4, h5, h6⟩ := top_dct R rx ht
        rw [Vals.ref1 r]
        have hle := apart_leaf h3 hap
        have dd := leafDict (P := X.prog) h3 hle h4 (raw_at I h1)
        have hn : ks.length = es.toList.length := h4.length
        refine kt_call_dict h2 dd (by rw [List.length_zip, List.length_map, List.length_map, ← hn, Nat.min_self]; exact h3.line) fun h' d' hs => ?_
        have kp : ∀ b u, s.heap.get? b = some u → h'.get? b = some u := fun b u e => (hs.2 b (Nat.ne_of_lt (Heap.lt_size e))).trans (Heap.get?_push_of_some _ e)
        obtain ⟨es', ep', k1, k2, k3⟩ := leaf_new (K := X.K) (w := X.w) (α := α) (st := st) (H := H) (us := us') d' hle (List.map_fst_zip (by rw [List.length_map, List.length_map, hn]; exact Nat.le_refl _)) (by rw [List.map_snd_zip (by rw [List.length_map, List.length_map, hn]; exact Nat.le_refl _)]; exact h6)
        have sy : (s.heap.objs.size == sysModules) = false := beq_eq_false_iff_ne.mpr (Nat.ne_of_gt I.big)
        exact ⟨.ref s.heap.objs.size, upd H s.heap.objs.size (rawO s.heap.objs.size es' ep'), I.laid (t' := s.toks) kp (Nat.le_refl _) ⟨k1, (let ⟨o, ho, _⟩ := k1; ⟨o, ho⟩), fun h1 h2 x e => x.at e⟩, rfl, post_dct R (I.hok.fresh (Nat.le_refl _)) sy h3 k2 h5 k3 e P⟩
      · cases hz
    · cases hz
  · cases hz

/-! ### displays -/
/-- the pairs of a display, evaluated -/
structure PPd (X : Cx) (cA : Nat → Addr) (pos : Pos) (keys : List (Option Expr)) (values : List Expr) (fl : Rho → Sto → Res (List D)) : Prop where
  run : ∀ (pins : List (Addr × Obj)) (s : Shared) (σ : L2.St) (H : Hp) (α : Al) (st : Sto) (ρ : Rho) (ds : List D) (st' : Sto), Inv X pins σ H s → RS X.K X.w cA α st H → REnv X.K X.w α st H ρ σ → fl ρ st = some (ds, st') →
    wpAny (model X.prog X.w) X.A (evalPairs (pairTrees keys values X.env pos)) (fun vs s' => ∃ α' H' ps, Inv X pins σ H' s' ∧ Go α st H α' st' H' ∧ RS X.K X.w cA α' st' H' ∧ paired ds = some ps ∧ PairQ X.K X.w α' st' H' ps vs) X.xe s
theorem ppd_nil {pos : Pos} : PPd X cA pos [] [] (fun _ s => some ([], s)) := ⟨fun pins s σ H α st ρ ds st' I R E e => by
  cases e
  exact pairTrees_nil_walk ⟨α, H, [], I, .refl, R, rfl, .nil⟩⟩
theorem ppd_cons {pos : Pos} {k v : Expr} {ks : List (Option Expr)} {vs : List Expr} {fk fv : Rho → Sto → Res D} {fl : Rho → Sto → Res (List D)} (hk : PE X k (tE X.K X.w cA fk)) (hv : PE X v (tE X.K X.w cA fv)) (hr : PPd X cA pos ks vs fl) :
    PPd X cA pos (some k :: ks) (v :: vs) (fun ρ s => bnd (fk ρ s) fun x s1 => bnd (fv ρ s1) fun y s2 => bnd (fl ρ s2) fun r s3 => some (x :: y :: r, s3)) := ⟨fun pins s σ H α st ρ ds st' I R E e => by
  obtain ⟨x, s1, e1, e⟩ := bnd_some e
  obtain ⟨y, s2, e2, e⟩ := bnd_some e
  obtain ⟨r, s3, e3, e⟩ := bnd_some e
  cases e
  refine pairTrees_cons_walk (thn (hk.run pins s σ H (fun z H1 => ∃ α1, Go α st H α1 s1 H1 ∧ RS X.K X.w cA α1 s1 H1 ∧ Rp X.K X.w α1 s1 H1 x z) I ⟨α, st, ρ, x, s1, R, E, e1, fun α1 H1 z G1 R1 r1 => ⟨α1, G1, R1, r1⟩⟩) fun u t1 ⟨z1, H1, I1, rz1, α1, G1, R1, q1⟩ => ?_)
  refine thn (hv.run pins t1 σ H1 (fun z H2 => ∃ α2, Go α1 s1 H1 α2 s2 H2 ∧ RS X.K X.w cA α2 s2 H2 ∧ Rp X.K X.w α2 s2 H2 y z) I1 ⟨α1, s1, ρ, y, s2, R1, G1.env E, e2, fun α2 H2 z G2 R2 r2 => ⟨α2, G2, R2, r2⟩⟩) fun u2 t2 ⟨z2, H2, I2, rz2, α2, G2, R2, q2⟩ => ?_
  refine thn (hr.run pins t2 σ H2 α2 s2 ρ r st' I2 R2 (G2.env (G1.env E)) e3) fun ws t3 ⟨α3, H3, ps, I3, G3, R3, e4, pq⟩ => ?_
  exact ⟨α3, H3, (x, y) :: ps, I3, (G1.trans G2).trans G3, R3, by dsimp only [paired]; rw [e4]; rfl, .cons ⟨z1, z2, rz1, rz2, G3.rp _ _ (G2.rp _ _ q1), G3.rp _ _ q2⟩ pq⟩⟩
/-- d[q] = x by the dict's own store -/
theorem dd_set {pins : List (Addr × Obj)} {σ : L2.St} {s : Shared} {α : Al} {st : Sto} {H : Hp} {A : Around} {E : Value → Shared → Prop} {q : D} {y : V} {u : Value} {ks vs : List D} {p : Addr} {es : Array DictEntry} {ep : Nat} {us : List V} {d : D} {z : V} {x : Value}
    (hu : A.units + 9 < cLine) (I : Inv X pins σ H s) (hH : H p = some (rawO p es ep)) (g : KeysGood ks) (en : Ents X.K X.w α st H ks es.toList) (rl : RpL X.K X.w α st H vs us) (vl : Vals us (es.toList.map (·.val))) (rq : Rp X.K X.w α st H q y) (ry : RelV y u) (rd : Rp X.K X.w α st H d z) (rz : RelV z x)
    (hk : keyOk q = true) (hs : sortOk ks q = true) (hl : ks.length < sizeLine) {Q : Unit → Shared → Prop}
    (h : ∀ s' es' ep' us', Inv X pins σ (upd H p (rawO p es' ep')) s' → Ents X.K X.w α st H (dput ks vs q d).1 es'.toList → RpL X.K X.w α st H (dput ks vs q d).2 us' → Vals us' (es'.toList.map (·.val)) → Q () s') : wpAny (model X.prog X.w) A (dictSet p u x) Q E s := by
  obtain ⟨c, k, hc, hx, hd⟩ := keyOk_some hk
  have hle := sort_all g hs hc
  have hn := dd_len en rl vl
  have ez : ks.length = es.toList.length := en.length
  cases c with
  | false =>
    have dd := leafDict (P := X.prog) g hle en (raw_at I hH)
    obtain ⟨nk, h1, h2, _⟩ := g.keys
    obtain ⟨us', g1, g2, g3⟩ := leaf_put hle hc (lk_map_nodup hle h1 h2) hn rl vl rd rz
    refine wpAny_dictSet_pairs (hsz := by rw [List.length_zip, List.length_map, List.length_map, ← ez]; omega) (leaf_is hc rq ry) dd fun h' dd' hsb => ?_
    obtain ⟨es', ep', k1, k2, k3⟩ := leaf_new (K := X.K) (w := X.w) (α := α) (st := st) (H := H) dd' (dput_sort hle hc) g3 g2
    exact h _ es' ep' us' (raw_write I hH hsb k1) k2 g1 k3
  | true =>
    obtain ⟨xs, h1, h2, h3⟩ := tupDict (P := X.prog) I g hle en (raw_at I hH)
    obtain ⟨a, e1, e2, h4⟩ := tup_is (P := X.prog) I hc hx hd rq ry
    subst e1 e2
    have vl' := vl
    rw [h1, vals_of_ents] at vl'
    have nd : (xs.map (·.1)).Nodup := h3.choose_spec.choose_spec.choose_spec.2.2.2.2.2
    obtain ⟨us', g1, g2, g3⟩ := tup_put h2 hx rq nd hn rl vl' rd rz
    refine wpAny_dictSet_heap (hsz := by have := congrArg List.length h1; rw [List.length_map] at this; omega) (by show A.units + 8 < cLine; omega) h4 h3 fun h' dd' hsb => ?_
    obtain ⟨es', ep', k1, k2, k3⟩ := tup_new dd' g3 g2
    exact h _ es' ep' us' (raw_write I hH hsb k1) k2 g1 k3
/-- all pairs stored in the dict that is being made -/
theorem store_all (hu : X.A.units + 100 < cLine) {pins : List (Addr × Obj)} {σ : L2.St} {α : Al} {st : Sto} {p : Addr} (hp : p ∈ α.g) {c : Bool} {Q : PUnit → Shared → Prop} : ∀ {ps : List (D × D)} {ws : List (Value × Value)} {s : Shared} {H : Hp} {ks vs : List D} {us : List V} {es : Array DictEntry} {ep : Nat},
    Inv X pins σ H s → RS X.K X.w cA α st H → H p = some (rawO p es ep) → KeysGood ks → (∀ k ∈ ks, k.sort = some c) → (∀ q ∈ ps, keyOk q.1 = true ∧ q.1.sort = some c) → ks.length + ps.length < sizeLine →
    Ents X.K X.w α st H ks es.toList → RpL X.K X.w α st H vs us → Vals us (es.toList.map (·.val)) → PairQ X.K X.w α st H ps ws →
    (∀ s' es' ep' us', Inv X pins σ (upd H p (rawO p es' ep')) s' → RS X.K X.w cA α st (upd H p (rawO p es' ep')) → KeysGood (dputs (ks, vs) ps).1 → Ents X.K X.w α st (upd H p (rawO p es' ep')) (dputs (ks, vs) ps).1 es'.toList → RpL X.K X.w α st (upd H p (rawO p es' ep')) (dputs (ks, vs) ps).2 us' → Vals us' (es'.toList.map (·.val)) → Q PUnit.unit s') →
    wpAny (model X.prog X.w) X.A (storeAll p ws) Q X.xe s
  | [], _, s, H, ks, vs, us, es, ep, I, R, hH, kg, hs, hk, hz, en, rl, vl, pq, h => by
    cases pq
    have e : upd H p (rawO p es ep) = H := by
      funext b
      unfold upd
      split
      · rename_i eb; rw [eb, hH]
      · rfl
    unfold storeAll
    rw [List.forIn_nil]
    exact wpAny_pure (h s es ep us (by rw [e]; exact I) (by rw [e]; exact R) kg (by rw [e]; exact en) (by rw [e]; exact rl) vl)
  | (k, d) :: ps, _, s, H, ks, vs, us, es, ep, I, R, hH, kg, hs, hk, hz, en, rl, vl, pq, h => by
    cases pq with
    | @cons _ q _ ws h1 h2 =>
      obtain ⟨x, y, r1, r2, p1, p2⟩ := h1
      obtain ⟨k1, k2⟩ := hk (k, d) List.mem_cons_self
      rw [List.length_cons] at hz
      unfold storeAll
      rw [List.forIn_cons]
      refine wpAny_bind (wpAny_bind (dd_set (by omega) I hH kg en rl vl p1 r1 p2 r2 k1 (sortOk_of hs k2) (by omega) fun s' es' ep' us' I' e1 e2 e3 => wpAny_pure ?_))
      have gw : Gw α st H α st (upd H p (rawO p es' ep')) := Gw.wrH R hp (not_rd_raw hH)
      have pq' : PairQ X.K X.w α st (upd H p (rawO p es' ep')) ps ws := Paired.mapP h2 fun a b ⟨x, y, r1, r2, p1, p2⟩ => ⟨x, y, r1, r2, gw.rp _ _ p1, gw.rp _ _ p2⟩
      refine store_all hu hp I' (R.wrH hp (not_rd_raw hH)) upd_same (keysGood_put kg k1 (sortOk_of hs k2) (by omega)) (dput_sort hs k2) (fun q hq => hk q (List.mem_cons_of_mem _ hq)) (by have := dput_keys_len ks vs k d; show (dput ks vs k d).1.length + ps.length < sizeLine; omega) (gw.ents _ _ e1) (gw.rpL _ _ e2) e3 pq' fun s2 es2 ep2 us2 I2 R2 a1 a2 a3 a4 => ?_
      rw [upd_upd] at I2 R2 a2 a3
      exact h s2 es2 ep2 us2 I2 R2 a1 a2 a3 a4
theorem pe_dispD (hu : X.A.units + 100 < cLine) {pos : Pos} {keys : List (Option Expr)} {values : List Expr} {fl : Rho → Sto → Res (List D)} (h : PPd X cA pos keys values fl) (hall : keys.all (·.isSome) = true) (hl : keys.length = values.length) (h0 : keys ≠ []) (h15 : keys.length ≤ 15) (c : Bool) :
    PE X (.Dict keys values pos) (tE X.K X.w cA fun ρ s => bnd (fl ρ s) (gDct c)) := by
  refine ⟨fun pins s σ H Q I q => ?_⟩
  obtain ⟨α, st, ρ, d, st', R, E, e, P⟩ := q
  obtain ⟨xs, s1, e1, e2⟩ := bnd_some e
  have hn : H s.heap.objs.size = none := I.hok.fresh (Nat.le_refl _)
  have sy : (s.heap.objs.size == sysModules) = false := beq_eq_false_iff_ne.mpr (Nat.ne_of_gt I.big)
  have hr : (s.heap.push { cls := .type "dict", data := .dict #[] }).DictRaw s.heap.objs.size #[] 0 := ⟨_, Heap.get?_push_size _ rfl, ⟨rfl, rfl, rfl⟩, rfl⟩
  have I1 := I.laid (a := s.heap.objs.size) (o := rawO s.heap.objs.size #[] 0) (h' := s.heap.push { cls := .type "dict", data := .dict #[] }) (t' := s.toks) (fun _ _ q => Heap.get?_push_of_some _ q) (Nat.le_refl _) ⟨hr, (let ⟨o, ho, _⟩ := hr; ⟨o, ho⟩), fun h1 h2 x e => x.at e⟩
  have Gx : Gh α st H (α.hide s.heap.objs.size) st (upd H s.heap.objs.size (rawO s.heap.objs.size #[] 0)) := Gh.hide R hn
  have R1 : RS X.K X.w cA (α.hide s.heap.objs.size) st (upd H s.heap.objs.size (rawO s.heap.objs.size #[] 0)) := RS.hide R hn
  refine wpAny_Dict_any hall hl h0 h15 (thn (h.run pins _ σ _ _ st ρ xs s1 I1 R1 (Gx.w.env E) e1) fun vs t1 ⟨α2, H2, ps, I2, G2, R2, ep, pq⟩ => ?_)
  unfold gDct at e2
  rw [ep] at e2
  dsimp only at e2
  split at e2
  · rename_i hk
    rw [Bool.and_eq_true] at hk
    have e2 := Option.some.inj e2
    obtain ⟨cs, hcs⟩ := pairsOk_nil hk.1
    have h15' : ps.length ≤ 15 := of_decide_eq_true hk.2
    have eg : α2.g = s.heap.objs.size :: α.g := G2.g
    have hp : s.heap.objs.size ∈ α2.g := by rw [eg]; exact List.mem_cons_self
    have hH2 : H2 s.heap.objs.size = some (rawO s.heap.objs.size #[] 0) := by
      rw [(G2.h.sub s.heap.objs.size List.mem_cons_self).2, upd_same]
    refine store_all hu hp (ks := []) (vs := []) (us := []) I2 R2 hH2 keysGood_nil (fun k hk => by cases hk) hcs (by rw [sizeLine_eq]; show 0 + ps.length < 16777216; omega) .nil .nil .nil pq fun s' es' ep' us' I3 R3 kg en rl vl => ?_
    have G3 : Gh α st H α2 s1 (upd H2 s.heap.objs.size (rawO s.heap.objs.size es' ep')) := Gh.wrH (Gx.trans G2.h) R hn
    obtain ⟨α', G4, R4, r4⟩ := made_dct R hn R3 G3 eg upd_same sy kg en rl vl c
    rw [e2] at G4 R4 r4
    exact ⟨.ref _, _, I3, rfl, P α' _ _ G4 R4 r4⟩
  · cases e2
theorem pe_disp0D {pos : Pos} (c : Bool) : PE X (.Dict [] [] pos) (tE X.K X.w cA fun _ s => some (laid c (.dct [] []) s)) := ⟨fun pins s σ H Q I q => by
  obtain ⟨α, st, ρ, d, st', R, E, e, P⟩ := q
  have e := Option.some.inj e
  have sy : (s.heap.objs.size == sysModules) = false := beq_eq_false_iff_ne.mpr (Nat.ne_of_gt I.big)
  have hr : (s.heap.push { cls := .type "dict", data := .dict #[] }).DictRaw s.heap.objs.size #[] 0 := ⟨_, Heap.get?_push_size _ rfl, ⟨rfl, rfl, rfl⟩, rfl⟩
  refine wpAny_Dict_empty ⟨.ref s.heap.objs.size, upd H s.heap.objs.size (rawO s.heap.objs.size #[] 0), I.laid (t' := s.toks) (fun _ _ q => Heap.get?_push_of_some _ q) (Nat.le_refl _) ⟨hr, (let ⟨o, ho, _⟩ := hr; ⟨o, ho⟩), fun h1 h2 x e => x.at e⟩, rfl, ?_⟩
  exact post_dct R (I.hok.fresh (Nat.le_refl _)) sy keysGood_nil .nil .nil .nil e P⟩
end
end DL
end

section
set_option Elab.async false
set_option linter.all false
set_option maxRecDepth 100000
set_option maxHeartbeats 4000000
/-! DL, part p: methods of built-in types. -/
namespace DL
open PySem PySem.Spec PyProof.Rows L2 PySem.W

/-- the name of a method, by its type -/
def bmName : Bm → Str
  | .append => "append" | .extend => "extend" | .pop => "pop" | .get1 => "get" | .get2 => "get" | .index => "index" | .update => "update" | .join => "join"
/-- the type behind a tree -/
def tyD : D → String
  | .lst _ => "list" | .tup _ => "tuple" | .dct _ _ => "dict" | .str _ => "str" | _ => ""
def bmId (m : Bm) (d : D) : String := match m, d with
  | .append, _ => "list.append" | .extend, _ => "list.extend" | .pop, _ => "list.pop" | .get1, _ => "dict.get" | .get2, _ => "dict.get"
  | .index, .tup _ => "tuple.index" | .index, _ => "list.index" | .update, _ => "dict.update" | .join, _ => "str.join"
section
variable {X : Cx} {pins : List (Addr × Obj)} {σ : L2.St} {s : Shared} {cA : Nat → Addr} {α : Al} {st : Sto} {H : Hp}
theorem sqX_ob {a : Addr} {xs : List V} (I : Inv X pins σ H s) (h : SqX X.K H a xs) : ∃ ob, s.heap.get? a = some ob ∧ ob.cls = .type "tuple" ∧ ob.dict = none := by
  rcases h with ⟨o, h, d⟩ | ⟨o, its, n, h, hc, d, _⟩
  · obtain ⟨ho, hz, its, rv, ob, ho2, hc, _⟩ := (show ObjOk X.prog X.w H s.heap a (.frz o (.tup xs)) from I.hok a _ h)
    rw [ho] at ho2
    cases ho2
    exact ⟨o, ho, hc, d⟩
  · exact ⟨o, I.kIn a o h, hc, d⟩
/-- the type of what is named -/
theorem ty_at (I : Inv X pins σ H s) (R : RS X.K X.w cA α st H) {a : D} {x : V} {v : Value} (ra : Rp X.K X.w α st H a x) (rv : RelV x v) {m : Bm} (h : bmTy m (top st a) = true) : s.TypeIs v (tyD (top st a)) ∧ ∀ b, v = .ref b → ∃ ob, s.heap.get? b = some ob ∧ ob.dict = none := by
  cases ht : top st a with
  | lst ds =>
    obtain ⟨p, vs, rfl, h1, _⟩ := top_lst R ra ht
    obtain rfl : v = Value.ref p := rv
    obtain ⟨_, its, n, _, _, ho⟩ := inv_rdL I h1
    exact ⟨⟨_, ho, rfl⟩, fun b e => by cases e; exact ⟨_, ho, rfl⟩⟩
  | tup ds =>
    obtain ⟨p, vs, rfl, h1, _⟩ := top_tup ra ht
    obtain rfl : v = Value.ref p := rv
    obtain ⟨ob, ho, hc, hd⟩ := sqX_ob I h1
    exact ⟨⟨ob, ho, hc⟩, fun b e => by cases e; exact ⟨ob, ho, hd⟩⟩
  | dct ks vs =>
    obtain ⟨p, es, ep, us, rfl, h1, _⟩ := top_dct R ra ht
    obtain rfl : v = Value.ref p := rv
    obtain ⟨o, ho, hx, _⟩ := raw_at I h1
    exact ⟨⟨o, ho, hx.1⟩, fun b e => by cases e; exact ⟨o, ho, hx.2.1⟩⟩
  | str z =>
    have hx := top_str ra ht
    subst hx
    obtain ⟨t, rfl⟩ := rv
    exact ⟨typeIs_str s z t, fun b e => nomatch e⟩
  | _ => rw [ht] at h; cases m <;> cases h
end

section
variable {X : Cx} {cA : Nat → Addr}
theorem mt_appendD : MtR X "list.append" (rML X.K X.w cA (gBm .append)) := by
  intro pins s σ H x xs v us Q I rx rs h
  obtain ⟨α, st, a, as, d, st', R, ra, ras, e, P⟩ := h
  unfold gBm at e
  rcases as with _ | ⟨b, _ | ⟨b2, as⟩⟩
  · cases e
  · obtain ⟨y, rfl, ry⟩ := rpL1 ras
    dsimp only [bmD] at e
    split at e
    · rename_i n
      split at e
      · rename_i zs hn
        split at e
        · rename_i hl
          cases e
          cases ra with
          | @ref _ p hp =>
            cases R.cell n p _ hp hn with
            | @lst vs _ h1 h2 =>
              have G : Go α st H α (st.set n (.lst (zs ++ [b]))) (upd H p (.lst (vs ++ [y]))) := Go.wr R hp hn (by intro z; cases z) rfl (not_rd_lst h1)
              have R' : RS X.K X.w cA α (st.set n (.lst (zs ++ [b]))) (upd H p (.lst (vs ++ [y]))) := RS.wr R hp hn (by intro z; cases z) rfl (not_rd_lst h1) (.lst upd_same ((G.rpL _ _ h2).append (.cons (G.rp _ _ ry) .nil)))
              exact mt_append pins s σ H _ _ v us Q I rx rs ⟨p, vs, y, rfl, rfl, h1, by rw [← h2.length]; exact Nat.lt_of_le_of_lt (line_le hl) (by rw [sizeLine_eq]; decide), P _ _ _ G R' .none⟩
        · cases e
      · cases e
    · cases e
  · cases e
theorem mt_popD : MtR X "list.pop" (rML X.K X.w cA (gBm .pop)) := by
  intro pins s σ H x xs v us Q I rx rs h
  obtain ⟨α, st, a, as, d, st', R, ra, ras, e, P⟩ := h
  unfold gBm at e
  rcases as with _ | ⟨b, as⟩
  · cases ras
    dsimp only [bmD] at e
    split at e
    · rename_i n
      split at e
      · rename_i zs hn
        split at e
        · rename_i z hz
          cases e
          cases ra with
          | @ref _ p hp =>
            cases R.cell n p _ hp hn with
            | @lst vs _ h1 h2 =>
              have G : Go α st H α (st.set n (.lst zs.dropLast)) (upd H p (.lst vs.dropLast)) := Go.wr R hp hn (by intro z; cases z) rfl (not_rd_lst h1)
              have R' : RS X.K X.w cA α (st.set n (.lst zs.dropLast)) (upd H p (.lst vs.dropLast)) := RS.wr R hp hn (by intro z; cases z) rfl (not_rd_lst h1) (.lst upd_same (G.rpL _ _ h2).dropLast)
              rw [List.getLast?_eq_getElem?] at hz
              obtain ⟨y, hy, ry⟩ := h2.get hz
              rw [h2.length] at hy
              exact mt_pop pins s σ H _ _ v us Q I rx rs ⟨p, vs, y, rfl, rfl, h1, hy, P _ _ _ G R' (G.rp _ _ ry)⟩
        · cases e
      · cases e
    · cases e
  · cases e
theorem mt_extendR {pins : List (Addr × Obj)} {s : Shared} {σ : L2.St} {H : Hp} {l b : Addr} {xs zs : List V} {Q : VK} (I : Inv X pins σ H s) (hH : H l = some (.lst xs)) (hB : Rd H b (.lst zs)) (hz : xs.length + zs.length ≤ sizeLine) (q : Q .non (upd H l (.lst (xs ++ zs)))) :
    wpAny (model X.prog X.w) X.A (call (.builtin "list.extend") [.ref l, .ref b]) (EP X pins σ Q) X.xe s := by
  obtain ⟨z, its, n, r, hl, e⟩ := I.lstM hH
  obtain ⟨z2, its2, n2, r2, hl2, e2⟩ := inv_rdL I hB
  have hsz : its.toArray.size + its2.toArray.size ≤ sizeLine := by rw [List.size_toArray, List.size_toArray]; omega
  have hlong : ¬ (!its.toArray.isEmpty && Builtin.List.listTooLong (its.toArray.size + its2.toArray.size)) = true := by
    rw [notLongL hsz, Bool.and_false]
    exact Bool.false_ne_true
  refine call_meets F.slot_list_extend ⟨_, e, rfl⟩ F.entry_list_extend (F.args_list_extend_2 _ _)
    (AutoSeq1.list_extend_list_list_0 l its.toArray n b its2.toArray n2 hlong (by rw [List.size_toArray]; omega) (by omega)) ⟨e, e2, ?_⟩
  exact ⟨.non, _, I.lset (its' := its ++ its2) hH e (by simp) (r.append r2) (by rw [List.length_append]; omega), rfl, q⟩
theorem mt_extendD : MtR X "list.extend" (rML X.K X.w cA (gBm .extend)) := by
  intro pins s σ H x xs v us Q I rx rs h
  obtain ⟨α, st, a, as, d, st', R, ra, ras, e, P⟩ := h
  unfold gBm at e
  rcases as with _ | ⟨b, _ | ⟨b2, as⟩⟩
  · cases e
  · obtain ⟨y, rfl, ry⟩ := rpL1 ras
    dsimp only [bmD] at e
    split at e
    · rename_i n
      split at e
      · rename_i zs ys hn hy
        split at e
        · rename_i hl
          cases e
          cases ra with
          | @ref _ p hp =>
            cases R.cell n p _ hp hn with
            | @lst vs _ h1 h2 =>
              obtain ⟨q, ws, rfl, w1, w2⟩ := top_lst R ry hy
              have G : Go α st H α (st.set n (.lst (zs ++ ys))) (upd H p (.lst (vs ++ ws))) := Go.wr R hp hn (by intro z; cases z) rfl (not_rd_lst h1)
              have R' : RS X.K X.w cA α (st.set n (.lst (zs ++ ys))) (upd H p (.lst (vs ++ ws))) := RS.wr R hp hn (by intro z; cases z) rfl (not_rd_lst h1) (.lst upd_same ((G.rpL _ _ h2).append (G.rpL _ _ w2)))
              obtain rfl : v = Value.ref p := rx
              rw [Vals.ref1 rs]
              exact mt_extendR I h1 w1 (by rw [← h2.length, ← w2.length]; exact line_big hl) (P _ _ _ G R' .none)
        · cases e
      · cases e
    · cases e
  · cases e
theorem mt_get1D (hu : X.A.units + 100 < cLine) : MtR X "dict.get" (rML X.K X.w cA (gBm .get1)) := by
  intro pins s σ H x xs v us Q I rx rs h
  obtain ⟨α, st, a, as, d, st', R, ra, ras, e, P⟩ := h
  unfold gBm at e
  rcases as with _ | ⟨b, _ | ⟨b2, as⟩⟩
  · cases e
  · obtain ⟨y, rfl, ry⟩ := rpL1 ras
    dsimp only [bmD] at e
    split at e
    · rename_i ks vs ht
      split at e
      · rename_i hk
        rw [Bool.and_eq_true] at hk
        cases e
        obtain ⟨p, es, ep, ws, rfl, h1, h2, h3, h4, h5, h6⟩ := top_dct R ra ht
        obtain rfl : v = Value.ref p := rx
        obtain ⟨u, rfl, ru⟩ := vals1 rs
        exact dd_get1 (by omega) I h1 h2 h3 h4 h5 h6 ry ru hk.1 hk.2 fun s' z x I' rz rd => ⟨z, H, I', rz, P _ _ _ .refl R rd⟩
      · cases e
    · cases e
  · cases e
theorem mt_get2D (hu : X.A.units + 100 < cLine) : MtR X "dict.get" (rML X.K X.w cA (gBm .get2)) := by
  intro pins s σ H x xs v us Q I rx rs h
  obtain ⟨α, st, a, as, d, st', R, ra, ras, e, P⟩ := h
  unfold gBm at e
  rcases as with _ | ⟨b, _ | ⟨b2, _ | ⟨b3, as⟩⟩⟩
  · cases e
  · cases e
  · obtain ⟨y, f, rfl, ry, rf⟩ := rpL2 ras
    dsimp only [bmD] at e
    split at e
    · rename_i ks vs ht
      split at e
      · rename_i hk
        rw [Bool.and_eq_true] at hk
        cases e
        obtain ⟨p, es, ep, ws, rfl, h1, h2, h3, h4, h5, h6⟩ := top_dct R ra ht
        obtain rfl : v = Value.ref p := rx
        obtain ⟨u, u2, rfl, ru, ru2⟩ := vals2 rs
        exact dd_get2 rf ru2 (by omega) I h1 h2 h3 h4 h5 h6 ry ru hk.1 hk.2 fun s' z x I' rz rd => ⟨z, H, I', rz, P _ _ _ .refl R rd⟩
      · cases e
    · cases e
  · cases e
/-- the first place -/
theorem find_first {ps : List PyData} {d : PyData} {j : Nat} (h : (ps.findIdx? fun z => PyData.eqv z d) = some j) : ∃ hj : j < ps.length, PyData.eqv ps[j] d = true ∧ ∀ m (hm : m < ps.length), m < j → PyData.eqv ps[m] d = false := by
  obtain ⟨hj, h1, h2⟩ := List.findIdx?_eq_some_iff_getElem.mp h
  refine ⟨hj, h1, fun m hm lt => ?_⟩
  have := h2 m lt
  simpa using this
theorem read_at {h : Heap} {vs : List Value} {ps : List PyData} {as : List Addr} (pl : PyData.plainAll ps = true) (r : ReadsAll h vs ps as) {m : Nat} (h1 : m < vs.length) (h2 : m < ps.length) : SeqAt.readOf h vs[m] = ps[m] := by
  have e := SeqAt.readsAll_map_plain ps vs as pl r
  have e2 : (vs.map (SeqAt.readOf h))[m]? = ps[m]? := by rw [e]
  rw [List.getElem?_map, List.getElem?_eq_getElem h1, List.getElem?_eq_getElem h2] at e2
  exact Option.some.inj e2
theorem mt_indexL (hu : X.A.units + 100 < cLine) : MtR X "list.index" (fun x xs H Q => ∃ α st a as d st', (∃ zs, top st a = .lst zs) ∧ RS X.K X.w cA α st H ∧ Rp X.K X.w α st H a x ∧ RpL X.K X.w α st H as xs ∧ gBm .index a as st = some (d, st') ∧ Post X.K X.w cA α st H st' d Q) := by
  intro pins s σ H x xs v us Q I rx rs h
  obtain ⟨α, st, a, as, d, st', ⟨zs, ht⟩, R, ra, ras, e, P⟩ := h
  unfold gBm at e
  rcases as with _ | ⟨b, _ | ⟨b2, as⟩⟩
  · cases e
  · obtain ⟨y, rfl, ry⟩ := rpL1 ras
    dsimp only [bmD] at e
    rw [ht] at e
    dsimp only at e
    split at e
    · rename_i ps q hp hq
      split at e
      · rename_i hd
        obtain ⟨j, hj, e⟩ := Option.map_eq_some_iff.mp e
        cases e
        obtain ⟨p, vs, rfl, h1, h2⟩ := top_lst R ra ht
        obtain rfl : v = Value.ref p := rx
        obtain ⟨u, rfl, ru⟩ := vals1 rs
        obtain ⟨hz, its, n, rv, hl, ho⟩ := inv_rdL I h1
        obtain ⟨bs, rs', pl⟩ := rpL_reads I zs vs its ps h2 rv hp
        obtain ⟨cs, rq, plq⟩ := rp_reads I b y u q ry ru hq
        obtain ⟨hjl, f1, f2⟩ := find_first hj
        have len : its.length = ps.length := PySem.SeqAt.ReadsAll.length _ _ _ rs'
        have hji : j < its.toArray.size := by rw [List.size_toArray]; omega
        refine call_meets PySem.F.slot_list_index ⟨_, ho, rfl⟩ PySem.F.entry_list_index (PySem.F.args_list_index_2 _ _)
          (SeqAt.list_indexAt p its.toArray n none #[] u (fun v => PyData.eqv (SeqAt.readOf s.heap v) q) j hji (by have := sizeLine_eq; omega) ?_ ?_) ⟨ho, SeqAt.items_plain (A := X.A) (by simpa using rs') rq pl plq (by
            show X.A.units + 1 + _ < _
            have : min (PyData.depthAll ps) q.depth ≤ q.depth := Nat.min_le_right _ _
            omega), ?_⟩
        · show PyData.eqv (SeqAt.readOf s.heap its[j]) q = true
          rw [read_at pl rs' (by omega) hjl]
          exact f1
        · intro m hm lt
          have hm' : m < its.length := by simpa using hm
          show PyData.eqv (SeqAt.readOf s.heap its[m]) q = false
          rw [read_at pl rs' hm' (by omega)]
          exact f2 m (by omega) lt
        · exact ⟨.int (j : Nat), H, I.tok _, ⟨_, rfl⟩, P _ _ _ .refl R (.int _)⟩
      · cases e
    · cases e
  · cases e
theorem mt_indexT (hu : X.A.units + 100 < cLine) : MtR X "tuple.index" (fun x xs H Q => ∃ α st a as d st', (∃ zs, top st a = .tup zs) ∧ RS X.K X.w cA α st H ∧ Rp X.K X.w α st H a x ∧ RpL X.K X.w α st H as xs ∧ gBm .index a as st = some (d, st') ∧ Post X.K X.w cA α st H st' d Q) := by
  intro pins s σ H x xs v us Q I rx rs h
  obtain ⟨α, st, a, as, d, st', ⟨zs, ht⟩, R, ra, ras, e, P⟩ := h
  unfold gBm at e
  rcases as with _ | ⟨b, _ | ⟨b2, as⟩⟩
  · cases e
  · obtain ⟨y, rfl, ry⟩ := rpL1 ras
    dsimp only [bmD] at e
    rw [ht] at e
    dsimp only at e
    split at e
    · rename_i ps q hp hq
      split at e
      · rename_i hd
        obtain ⟨j, hj, e⟩ := Option.map_eq_some_iff.mp e
        cases e
        obtain ⟨p, vs, rfl, h1, h2⟩ := top_tup ra ht
        obtain rfl : v = Value.ref p := rx
        obtain ⟨u, rfl, ru⟩ := vals1 rs
        obtain ⟨its, rv, ⟨⟨cls, dd, data, sl⟩, ho, hc, n, hdt⟩, hz⟩ := I.tuple h1.t
        simp only at hc hdt
        subst hc hdt
        obtain ⟨bs, rs', pl⟩ := rpL_reads I zs vs its ps h2 rv hp
        obtain ⟨cs, rq, plq⟩ := rp_reads I b y u q ry ru hq
        obtain ⟨hjl, f1, f2⟩ := find_first hj
        have len : its.length = ps.length := PySem.SeqAt.ReadsAll.length _ _ _ rs'
        have hji : j < its.toArray.size := by rw [List.size_toArray]; omega
        have eqs := SeqAt.items_plain (A := X.A) (s := s) (vs := its.toArray) (by simpa using rs') rq pl plq (by
            show X.A.units + 1 + _ < _
            have : min (PyData.depthAll ps) q.depth ≤ q.depth := Nat.min_le_right _ _
            omega)
        refine call_meets PySem.F.slot_tuple_index ⟨_, ho, rfl⟩ PySem.F.entry_tuple_index (PySem.F.args_tuple_index_2 _ _)
          (SeqAt.tuple_index2_found p its.toArray n dd sl u (fun m => PyData.eqv (ps.getD m .none) q) j hji (Nat.zero_le _) hji ?_ ?_) ⟨ho, fun m hm => ?_, ?_⟩
        · show PyData.eqv (ps.getD j .none) q = true
          rw [List.getD_eq_getElem?_getD, List.getElem?_eq_getElem hjl]
          exact f1
        · intro m hm _ lt
          have hm' : m < its.length := by simpa using hm
          show PyData.eqv (ps.getD m .none) q = false
          rw [List.getD_eq_getElem?_getD, List.getElem?_eq_getElem (by omega)]
          exact f2 m (by omega) lt
        · have hm' : m < its.length := by simpa using hm
          have k := eqs its.toArray[m] (Array.getElem_mem hm)
          have e1 : SeqAt.readOf s.heap its.toArray[m] = ps.getD m .none := by
            show SeqAt.readOf s.heap its[m] = _
            rw [read_at pl rs' hm' (by omega), List.getD_eq_getElem?_getD, List.getElem?_eq_getElem (by omega)]
            rfl
          rw [e1] at k
          exact k
        · exact ⟨.int (j : Nat), H, I.tok _, ⟨_, rfl⟩, P _ _ _ .refl R (.int _)⟩
      · cases e
    · cases e
  · cases e
theorem texts_map : ∀ {xs : List D} {ns : List Str}, texts xs = some ns → xs = ns.map D.str
  | [], ns, h => by cases h; rfl
  | .str i :: r, ns, h => by
    dsimp only [texts] at h
    obtain ⟨ms, h1, h2⟩ := Option.map_eq_some_iff.mp h
    subst h2
    rw [List.map_cons, ← texts_map h1]
  | .none :: r, ns, h => by cases h
  | .bool _ :: r, ns, h => by cases h
  | .int _ :: r, ns, h => by cases h
  | .tup _ :: r, ns, h => by cases h
  | .lst _ :: r, ns, h => by cases h
  | .dct _ _ :: r, ns, h => by cases h
  | .ref _ :: r, ns, h => by cases h
  | .scr _ :: r, ns, h => by cases h
theorem rpL_strs {K : PySem.W.Frag} {w : World} {α : Al} {st : Sto} {H : Hp} : ∀ {ns : List Str} {vs : List V}, RpL K w α st H (ns.map D.str) vs → vs = ns.map V.str
  | [], _, h => by cases h; rfl
  | n :: ns, _, h => by
    cases h with
    | cons h1 h2 =>
      cases h1
      rw [List.map_cons, rpL_strs h2]
theorem mt_joinD : MtR X "str.join" (rML X.K X.w cA (gBm .join)) := by
  intro pins s σ H x xs v us Q I rx rs h
  obtain ⟨α, st, a, as, d, st', R, ra, ras, e, P⟩ := h
  unfold gBm at e
  rcases as with _ | ⟨b, _ | ⟨b2, as⟩⟩
  · cases e
  · obtain ⟨y, rfl, ry⟩ := rpL1 ras
    dsimp only [bmD] at e
    split at e
    · rename_i sep zs ht
      split at e
      · rename_i ts hts
        split at e
        · rename_i hl
          cases e
          cases ra
          obtain ⟨p, vs, rfl, h1, h2⟩ := top_lst R ry ht
          rw [texts_map hts] at h2
          rw [rpL_strs h2] at h1
          refine mt_join pins s σ H _ _ v us Q I rx rs ⟨sep, p, ts, rfl, rfl, .inl (sqL_rd h1), by have := line_le hl; omega, ?_⟩
          rw [TL.join_eq]
          exact P _ _ _ .refl R (.str _)
        · cases e
      · cases e
    · cases e
  · cases e

/-! ### o.m(..) -/
/-- a method's rule, by what stands at o -/
def BmOk (X : Cx) (cA : Nat → Addr) (m : Bm) : Prop := ∀ (α0 : Al) (st0 : Sto) (a : D), bmTy m (top st0 a) = true → ∃ (T id : String), T = tyD (top st0 a) ∧ PlainAttrs T ∧ Slot T (bmName m) id ∧ typeOf (.builtin id) = pure (.type "method_descriptor") ∧
  ∀ (pins : List (Addr × Obj)) (s : Shared) (σ : L2.St) (H : Hp) (α : Al) (st : Sto) (as : List D) (x : V) (xs : List V) (v : Value) (us : List Value) (d : D) (st' : Sto) (Q : VK), Inv X pins σ H s → RelV x v → Vals xs us → RS X.K X.w cA α st H → Rp X.K X.w α st H a x → RpL X.K X.w α st H as xs →
    bmD st m a as = some (d, st') → Post X.K X.w cA α st H st' d Q → wpAny (model X.prog X.w) X.A (call (.builtin id) (v :: us)) (EP X pins σ Q) X.xe s
theorem bmOk_of {m : Bm} {T id : String} (hT : ∀ (st0 : Sto) (a : D), bmTy m (top st0 a) = true → T = tyD (top st0 a)) (pa : PlainAttrs T) (sl : Slot T (bmName m) id) (ty : typeOf (.builtin id) = pure (.type "method_descriptor")) (h : MtR X id (rML X.K X.w cA (gBm m))) : BmOk X cA m :=
  fun α0 st0 a hb => ⟨T, id, hT st0 a hb, pa, sl, ty, fun pins s σ H α st as x xs v us d st' Q I rx rs R ra ras e P => h pins s σ H x xs v us Q I rx rs ⟨α, st, a, as, d, st', R, ra, ras, e, P⟩⟩
theorem bmOk_index (hu : X.A.units + 100 < cLine) : BmOk X cA .index := fun α0 st0 a hb => by
  cases a with
  | tup zs => exact ⟨"tuple", "tuple.index", rfl, PySem.F.plainAttrs_tuple, PySem.F.slot_tuple_index, PySem.F.type_tuple_index, fun pins s σ H α st as x xs v us d st' Q I rx rs R ra ras e P => mt_indexT hu pins s σ H x xs v us Q I rx rs ⟨α, st, _, as, d, st', ⟨zs, rfl⟩, R, ra, ras, e, P⟩⟩
  | lst zs => exact ⟨"list", "list.index", rfl, PySem.F.plainAttrs_list, PySem.F.slot_list_index, PySem.F.type_list_index, fun pins s σ H α st as x xs v us d st' Q I rx rs R ra ras e P => mt_indexL hu pins s σ H x xs v us Q I rx rs ⟨α, st, _, as, d, st', ⟨zs, rfl⟩, R, ra, ras, e, P⟩⟩
  | ref n =>
    have hl : ∃ zs, top st0 (.ref n) = .lst zs := by
      cases ht : top st0 (.ref n) with
      | lst zs => exact ⟨zs, rfl⟩
      | tup zs => unfold top at ht; dsimp only at ht; split at ht <;> cases ht
      | _ => rw [ht] at hb; cases hb
    obtain ⟨zs0, hz0⟩ := hl
    refine ⟨"list", "list.index", by rw [hz0]; rfl, PySem.F.plainAttrs_list, PySem.F.slot_list_index, PySem.F.type_list_index, fun pins s σ H α st as x xs v us d st' Q I rx rs R ra ras e P => ?_⟩
    have hl : ∃ zs, top st (.ref n) = .lst zs := by
      cases ht : top st (.ref n) with
      | lst zs => exact ⟨zs, rfl⟩
      | tup zs => unfold top at ht; dsimp only at ht; split at ht <;> cases ht
      | _ =>
        rcases as with _ | ⟨b, _ | ⟨b2, as⟩⟩
        · cases e
        · dsimp only [bmD] at e; rw [ht] at e; cases e
        · cases e
    exact mt_indexL hu pins s σ H x xs v us Q I rx rs ⟨α, st, _, as, d, st', hl, R, ra, ras, e, P⟩
  | _ => cases hb
theorem bmOk_all (hu : X.A.units + 100 < cLine) : ∀ m, m ≠ .update → BmOk X cA m
  | .append, _ => bmOk_of (fun st0 a h => by cases ht : top st0 a <;> rw [ht] at h <;> first | rfl | cases h) PySem.F.plainAttrs_list PySem.F.slot_list_append PySem.F.type_list_append mt_appendD
  | .extend, _ => bmOk_of (fun st0 a h => by cases ht : top st0 a <;> rw [ht] at h <;> first | rfl | cases h) PySem.F.plainAttrs_list PySem.F.slot_list_extend PySem.F.type_list_extend mt_extendD
  | .pop, _ => bmOk_of (fun st0 a h => by cases ht : top st0 a <;> rw [ht] at h <;> first | rfl | cases h) PySem.F.plainAttrs_list PySem.F.slot_list_pop PySem.F.type_list_pop mt_popD
  | .get1, _ => bmOk_of (fun st0 a h => by cases ht : top st0 a <;> rw [ht] at h <;> first | rfl | cases h) PySem.F.plainAttrs_dict PySem.F.slot_dict_get PySem.F.type_dict_get (mt_get1D hu)
  | .get2, _ => bmOk_of (fun st0 a h => by cases ht : top st0 a <;> rw [ht] at h <;> first | rfl | cases h) PySem.F.plainAttrs_dict PySem.F.slot_dict_get PySem.F.type_dict_get (mt_get2D hu)
  | .index, _ => bmOk_index hu
  | .join, _ => bmOk_of (fun st0 a h => by cases ht : top st0 a <;> rw [ht] at h <;> first | rfl | cases h) PySem.F.plainAttrs_str PySem.F.slot_str_join PySem.F.type_str_join mt_joinD
  | .update, h => absurd rfl h
theorem plain_args {M : Model} {A : Around} {E : Value → Shared → Prop} {s : Shared} {es : List Expr} {env : Env} {f : Value} {pos : Pos} {Q : Args → Shared → Prop} (hs : ∀ e r, es = e :: r → starEach (e :: r) env = (false, eval e env) :: starEach r env)
    (h : wpAny M A (spliced (backTo pos (starEach es env))) (fun vs s' => Q ⟨vs, []⟩ s') E s) : wpAny M A (evalArgs f true (backTo pos (starEach es env)) []) Q E s := by
  cases es with
  | nil =>
    unfold evalArgs
    show wpAny M A (spliced [] >>= _) Q E s
    refine wpAny_bind (wpAny_mono (show wpAny M A (spliced []) (fun vs s' => Q ⟨vs, []⟩ s') E s from h) (fun vs s' h' => ?_) fun _ _ x => x)
    exact wpAny_holding (wpAny_bind (wpAny_pure (wpAny_bind (wpAny_pure (wpAny_pure h')))))
  | cons e r =>
    rw [hs e r rfl] at h ⊢
    exact Calls.evalArgs_plain h
theorem pe_bmD {m : Bm} (hm : BmOk X cA m) {o : Expr} {es : List Expr} {fo : Rho → Sto → Res D} {fl : Rho → Sto → Res (List D)} {apos cpos : Pos} (ho : PE X o (tE X.K X.w cA fo)) (ha : PA X es (tL X.K X.w cA fl))
    (hbase : attributeBase o (bmName m) X.env (eval o X.env) = eval o X.env)
    (hfew : ((backTo cpos (starEach es X.env)).all (fun x => !x.1) && (backToKw cpos (keywordEach [] X.env)).all (fun x => x.1.isSome)
      && decide (es.length + ([] : List Keyword).length + (if ([] : List Keyword).isEmpty then 0 else 1) < 30)) = true)
    (hline : (apos.endLine == cpos.line) = true) (hplain : (backTo cpos (starEach es X.env)).any (·.1) = false) (hs : ∀ e r, es = e :: r → starEach (e :: r) X.env = (false, eval e X.env) :: starEach r X.env) :
    PE X (.Call (.Attribute o (bmName m) apos) es [] cpos) (tE X.K X.w cA fun ρ s => bnd (fo ρ s) fun x s1 => if bmTy m (top s1 x) then bnd (fl ρ s1) fun xs s2 => bmD s2 m x xs else Option.none) := by
  refine ⟨fun pins s σ H Q I h => ?_⟩
  obtain ⟨α, st, ρ, d, st', R, E, e, P⟩ := h
  obtain ⟨x, s1, e1, e2⟩ := bnd_some e
  refine wpAny_Call_method_late hbase hfew hline rfl (thn (ho.run pins s σ H (fun z H1 => ∃ α1, Go α st H α1 s1 H1 ∧ RS X.K X.w cA α1 s1 H1 ∧ Rp X.K X.w α1 s1 H1 x z) I ⟨α, st, ρ, x, s1, R, E, e1, fun α1 H1 z G1 R1 r1 => ⟨α1, G1, R1, r1⟩⟩) fun v t1 ⟨z, H1, I1, rz, α1, G1, R1, r1⟩ => ?_)
  split at e2
  · rename_i hb
    obtain ⟨xs, s2, e3, e4⟩ := bnd_some e2
    obtain ⟨T, id, eT, pa, sl, hty, run⟩ := hm α1 s1 x hb
    obtain ⟨h1, h2⟩ := ty_at I1 R1 r1 rz hb
    refine ⟨T, id, pa, sl, hty, by rw [eT]; exact h1, h2, ?_⟩
    have arg := ha.run cpos pins t1 σ H1 (fun zs H2 => ∃ α2, Go α1 s1 H1 α2 s2 H2 ∧ RS X.K X.w cA α2 s2 H2 ∧ RpL X.K X.w α2 s2 H2 xs zs) I1 ⟨α1, s1, ρ, xs, s2, R1, G1.env E, e3, fun α2 H2 zs G2 R2 r2 => ⟨α2, G2, R2, r2⟩⟩
    refine Calls.callWith_builtin hplain ?_
    refine plain_args hs (thn arg fun us t2 ⟨zs, H2, I2, rzs, α2, G2, R2, r2⟩ => ?_)
    exact run pins t2 σ H2 α2 s2 xs z zs v us d st' Q I2 rz rzs R2 (G2.rp _ _ r1) r2 e4 fun α3 H3 w3 G3 R3 r3 => P α3 H3 w3 ((G1.trans G2).trans G3) R3 r3
  · cases e2
end
end DL
end

section
set_option Elab.async false
set_option linter.all false
set_option maxRecDepth 100000
set_option maxHeartbeats 4000000
/-! DL, part q: expressions: rules that say what the evaluator says. -/
namespace DL
open PySem PySem.Spec PyProof.Rows L2 PySem.W

/-- neither not, and, or, if-else, nor a comparison: as a test it is its value's truth -/
def plainT : Expr → Bool
  | .UnaryOp .Not _ _ => false
  | .BoolOp _ _ _ => false
  | .IfExp _ _ _ _ => false
  | .Compare _ _ _ _ => false
  | _ => true
def isBO : Expr → Bool
  | .BoolOp _ _ _ => true
  | _ => false
theorem plainT_eq {e : Expr} {env : Env} (h : plainT e = true) (whole : Sem Value) : isTrue e env whole = (do let v ← whole; standAt e.pos; holding [v] (truthy v)) := by
  cases e with
  | UnaryOp op x p =>
    cases op with
    | Not => cases h
    | _ => rfl
  | BoolOp _ _ _ => cases h
  | IfExp _ _ _ _ => cases h
  | Compare _ _ _ _ => cases h
  | _ => rfl

section
variable {X : Cx} {cA : Nat → Addr}
/-- an expression does what f says: as a value, as a test -/
structure Ok (X : Cx) (cA : Nat → Addr) (e : Expr) (f : Rho → Sto → Res D) : Prop where
  pe : PE X e (tE X.K X.w cA f)
  pt : PT X e (tT X.K X.w cA f)
  pw : isBO e = true → PW X e (tT X.K X.w cA f)
variable {e a b c : Expr} {f fa fb fc : Rho → Sto → Res D} {pos : Pos}
/-- the value is a bool -/
theorem tT_val {t : TE} (h : PE X e t) (hq : ∀ σ H Q, tT X.K X.w cA f σ H Q → t σ H fun x H1 => ∃ b, x = .bl b ∧ Q b H1) (he : ∀ whole, isTrue e X.env whole = (do let v ← whole; standAt e.pos; holding [v] (truthy v))) : PT X e (tT X.K X.w cA f) :=
  PT.weak (pt_val h he) fun σ H Q q => by
    exact hq σ H Q q
theorem tE_of_tT {σ : L2.St} {H : Hp} {Q : Bool → Hp → Prop} (h : tT X.K X.w cA f σ H Q) : tE X.K X.w cA f σ H fun x H1 => ∃ b, x = .bl b ∧ Q b H1 := by
  obtain ⟨α, s, ρ, b, s', R, E, e, P⟩ := h
  refine ⟨α, s, ρ, .bool b, s', R, E, e, fun α' H' v G R' r => ?_⟩
  cases r
  exact ⟨b, rfl, P α' H' G R'⟩
theorem Ok.plain (h : PE X e (tE X.K X.w cA f)) (hp : plainT e = true) : Ok X cA e f :=
  ⟨h, tT_val h (fun σ H Q q => tE_of_tT q) (plainT_eq hp), fun hb => by
    cases e with
    | BoolOp _ _ _ => exact absurd (show false = true from hp) Bool.false_ne_true
    | _ => exact absurd (show false = true from hb) Bool.false_ne_true⟩
theorem ok_bin {op : BOp} {k : Bool} (ha : Ok X cA a fa) (hb : Ok X cA b fb) : Ok X cA (.BinOp a (pyB op) b pos) (fun ρ s => bnd (fa ρ s) fun x s1 => bnd (fb ρ s1) fun y s2 => gBin op k x y s2) :=
  .plain (PE.weak (pe_op (op_bin op k) ha.pe hb.pe) fun σ H Q h => tE_two h) rfl
theorem ok_neg (ha : Ok X cA a fa) : Ok X cA (.UnaryOp .USub a pos) (fun ρ s => bnd (fa ρ s) fun x s1 => gNeg x s1) :=
  .plain (PE.weak (pe_un un_neg ha.pe) fun σ H Q h => by
    obtain ⟨α, s, ρ, d, s', R, E, e, P⟩ := h
    obtain ⟨x, s1, e1, e2⟩ := bnd_some e
    refine ⟨α, s, ρ, x, s1, R, E, e1, fun α1 H1 v1 G1 R1 q1 => ?_⟩
    cases q1 with
    | int i =>
      cases e2
      exact ⟨i, rfl, P α1 H1 _ G1 R1 (.int _)⟩
    | _ => cases e2) rfl
theorem ok_not (ha : Ok X cA a fa) : Ok X cA (.UnaryOp .Not a pos) (fun ρ s => bnd (fa ρ s) fun x s1 => gNot x s1) where
  pe := PE.weak (pe_not ha.pe) fun σ H Q h => by
    obtain ⟨α, s, ρ, d, s', R, E, e, P⟩ := h
    obtain ⟨x, s1, e1, e2⟩ := bnd_some e
    refine ⟨α, s, ρ, x, s1, R, E, e1, fun α1 H1 v1 G1 R1 q1 => ?_⟩
    cases q1 with
    | bool i =>
      cases e2
      exact ⟨i, rfl, P α1 H1 _ G1 R1 (.bool _)⟩
    | _ => cases e2
  pt := PT.weak (pt_not ha.pt) fun σ H Q h => by
    obtain ⟨α, s, ρ, b, s', R, E, e, P⟩ := h
    obtain ⟨x, s1, e1, e2⟩ := bnd_some e
    cases x with
    | bool i =>
      cases e2
      exact ⟨α, s, ρ, i, s', R, E, e1, P⟩
    | _ => cases e2
  pw := fun h => by cases h
theorem ok_cmp {op : COp} (hu : X.A.units + 100 < cLine) (ha : Ok X cA a fa) (hb : Ok X cA b fb) (hm : behindInMarks (pyC op) b = false) : Ok X cA (.Compare a [pyC op] [b] pos) (fun ρ s => bnd (fa ρ s) fun x s1 => bnd (fb ρ s1) fun y s2 => gCmp op x y s2) where
  pe := PE.weak (pe_cmpR (op_cmp hu op) ha.pe hb.pe hm) fun σ H Q h => tE_two h
  pt := PT.weak (pt_cmpR (op_cmp hu op) ha.pe hb.pe hm) fun σ H Q h => tE_two (tE_of_tT h)
  pw := fun h => by cases h
/-- and -/
def fAnd (fa fb : Rho → Sto → Res D) : Rho → Sto → Res D := fun ρ s => bnd (fa ρ s) fun x s1 => match x with
  | .bool true => fb ρ s1
  | .bool false => some (.bool false, s1)
  | _ => Option.none
def fOr (fa fb : Rho → Sto → Res D) : Rho → Sto → Res D := fun ρ s => bnd (fa ρ s) fun x s1 => match x with
  | .bool true => some (.bool true, s1)
  | .bool false => fb ρ s1
  | _ => Option.none
def fIte (ft fa fb : Rho → Sto → Res D) : Rho → Sto → Res D := fun ρ s => bnd (ft ρ s) fun x s1 => match x with
  | .bool true => fa ρ s1
  | .bool false => fb ρ s1
  | _ => Option.none
theorem tE_and {σ : L2.St} {H : Hp} {Q : VK} (h : tE X.K X.w cA (fAnd fa fb) σ H Q) : tAndV (tE X.K X.w cA fa) (tE X.K X.w cA fb) σ H Q := by
  obtain ⟨α, s, ρ, d, s', R, E, e, P⟩ := h
  obtain ⟨x, s1, e1, e2⟩ := bnd_some e
  refine ⟨α, s, ρ, x, s1, R, E, e1, fun α1 H1 v1 G1 R1 q1 => ?_⟩
  cases q1 with
  | bool i =>
    refine ⟨i, rfl, ?_⟩
    cases i with
    | true => exact ⟨α1, s1, ρ, d, s', R1, G1.env E, e2, fun α2 H2 v G R2 r => P α2 H2 v (G1.trans G) R2 r⟩
    | false => cases e2; exact P α1 H1 _ G1 R1 (.bool _)
  | _ => cases e2
theorem tE_or {σ : L2.St} {H : Hp} {Q : VK} (h : tE X.K X.w cA (fOr fa fb) σ H Q) : tOrV (tE X.K X.w cA fa) (tE X.K X.w cA fb) σ H Q := by
  obtain ⟨α, s, ρ, d, s', R, E, e, P⟩ := h
  obtain ⟨x, s1, e1, e2⟩ := bnd_some e
  refine ⟨α, s, ρ, x, s1, R, E, e1, fun α1 H1 v1 G1 R1 q1 => ?_⟩
  cases q1 with
  | bool i =>
    refine ⟨i, rfl, ?_⟩
    cases i with
    | false => exact ⟨α1, s1, ρ, d, s', R1, G1.env E, e2, fun α2 H2 v G R2 r => P α2 H2 v (G1.trans G) R2 r⟩
    | true => cases e2; exact P α1 H1 _ G1 R1 (.bool _)
  | _ => cases e2
theorem tT_and {σ : L2.St} {H : Hp} {Q : Bool → Hp → Prop} (h : tT X.K X.w cA (fAnd fa fb) σ H Q) : tAnd (tT X.K X.w cA fa) (tT X.K X.w cA fb) σ H Q := by
  obtain ⟨α, s, ρ, d, s', R, E, e, P⟩ := h
  obtain ⟨x, s1, e1, e2⟩ := bnd_some e
  cases x with
  | bool i =>
    refine ⟨α, s, ρ, i, s1, R, E, e1, fun α1 H1 G1 R1 => ?_⟩
    cases i with
    | true => exact ⟨α1, s1, ρ, d, s', R1, G1.env E, e2, fun α2 H2 G R2 => P α2 H2 (G1.trans G) R2⟩
    | false => cases e2; exact P α1 H1 G1 R1
  | _ => cases e2
theorem tT_or {σ : L2.St} {H : Hp} {Q : Bool → Hp → Prop} (h : tT X.K X.w cA (fOr fa fb) σ H Q) : tOr (tT X.K X.w cA fa) (tT X.K X.w cA fb) σ H Q := by
  obtain ⟨α, s, ρ, d, s', R, E, e, P⟩ := h
  obtain ⟨x, s1, e1, e2⟩ := bnd_some e
  cases x with
  | bool i =>
    refine ⟨α, s, ρ, i, s1, R, E, e1, fun α1 H1 G1 R1 => ?_⟩
    cases i with
    | false => exact ⟨α1, s1, ρ, d, s', R1, G1.env E, e2, fun α2 H2 G R2 => P α2 H2 (G1.trans G) R2⟩
    | true => cases e2; exact P α1 H1 G1 R1
  | _ => cases e2
/-- the last of a row of and, or -/
theorem ok_one {op : BoolOp} (ha : Ok X cA a fa) : Ok X cA (.BoolOp op [a] pos) fa := by
  have w : PW X (.BoolOp op [a] pos) (tT X.K X.w cA fa) := by
    cases op with
    | And => exact pw_and1 ha.pt
    | Or => exact pw_or1 ha.pt
  exact ⟨pe_one ha.pe, w.pt, fun _ => w⟩
theorem ok_and {r : List Expr} (ha : Ok X cA a fa) (hb : Ok X cA (.BoolOp .And (b :: r) pos) fb) : Ok X cA (.BoolOp .And (a :: b :: r) pos) (fAnd fa fb) := by
  have w : PW X (.BoolOp .And (a :: b :: r) pos) (tT X.K X.w cA (fAnd fa fb)) := ⟨fun wh pins s σ H Q I h => (pw_and ha.pt (hb.pw rfl)).run wh pins s σ H Q I (tT_and h)⟩
  exact ⟨PE.weak (pe_and ha.pe hb.pe) fun σ H Q h => tE_and h, w.pt, fun _ => w⟩
theorem ok_or {r : List Expr} (ha : Ok X cA a fa) (hb : Ok X cA (.BoolOp .Or (b :: r) pos) fb) : Ok X cA (.BoolOp .Or (a :: b :: r) pos) (fOr fa fb) := by
  have w : PW X (.BoolOp .Or (a :: b :: r) pos) (tT X.K X.w cA (fOr fa fb)) := ⟨fun wh pins s σ H Q I h => (pw_or ha.pt (hb.pw rfl)).run wh pins s σ H Q I (tT_or h)⟩
  exact ⟨PE.weak (pe_or ha.pe hb.pe) fun σ H Q h => tE_or h, w.pt, fun _ => w⟩
theorem ok_ite (hc : Ok X cA c fc) (ha : Ok X cA a fa) (hb : Ok X cA b fb) : Ok X cA (.IfExp c a b pos) (fIte fc fa fb) where
  pe := PE.weak (pe_ifExp hc.pt ha.pe hb.pe) fun σ H Q h => by
    obtain ⟨α, s, ρ, d, s', R, E, e, P⟩ := h
    obtain ⟨x, s1, e1, e2⟩ := bnd_some e
    cases x with
    | bool i =>
      refine ⟨α, s, ρ, i, s1, R, E, e1, fun α1 H1 G1 R1 => ?_⟩
      cases i with
      | true => exact ⟨α1, s1, ρ, d, s', R1, G1.env E, e2, fun α2 H2 v G R2 r => P α2 H2 v (G1.trans G) R2 r⟩
      | false => exact ⟨α1, s1, ρ, d, s', R1, G1.env E, e2, fun α2 H2 v G R2 r => P α2 H2 v (G1.trans G) R2 r⟩
    | _ => cases e2
  pt := ⟨fun pins s σ H Q I h => by
    obtain ⟨α, st, ρ, d, s', R, E, e, P⟩ := h
    obtain ⟨x, s1, e1, e2⟩ := bnd_some e
    show wpAny _ _ (isTrue (.IfExp c a b pos) X.env (eval (.IfExp c a b pos) X.env)) _ _ s
    show wpAny _ _ (do if ← isTrue c X.env (eval c X.env) then isTrue a X.env (eval a X.env) else isTrue b X.env (eval b X.env)) _ _ s
    cases x with
    | bool i =>
      refine wpAny_bind (thn (hc.pt.run pins s σ H (fun k H1 => k = i ∧ ∃ α1, Go α st H α1 s1 H1 ∧ RS X.K X.w cA α1 s1 H1) I ⟨α, st, ρ, i, s1, R, E, e1, fun α1 H1 G1 R1 => ⟨rfl, α1, G1, R1⟩⟩) fun k t1 ⟨H1, I1, ek, α1, G1, R1⟩ => ?_)
      subst ek
      cases k with
      | true => exact ha.pt.run pins t1 σ H1 Q I1 ⟨α1, s1, ρ, d, s', R1, G1.env E, e2, fun α2 H2 G R2 => P α2 H2 (G1.trans G) R2⟩
      | false => exact hb.pt.run pins t1 σ H1 Q I1 ⟨α1, s1, ρ, d, s', R1, G1.env E, e2, fun α2 H2 G R2 => P α2 H2 (G1.trans G) R2⟩
    | _ => cases e2⟩
  pw := fun h => by cases h

/-! ### rows of expressions -/
theorem pa_nilO : PA X [] (tL X.K X.w cA fun _ s => some ([], s)) := pa_nilD
theorem ok_tup {es : List Expr} {fl : Rho → Sto → Res (List D)} {k : Nat} (h : PA X es (tL X.K X.w cA fl)) : Ok X cA (.Tuple es k pos) (fun ρ s => bnd (fl ρ s) fun xs s1 => gTup xs s1) :=
  .plain (PE.weak (pe_tupX h) fun σ H Q h => by
    obtain ⟨α, s, ρ, d, s', R, E, e, P⟩ := h
    obtain ⟨xs, s1, e1, e2⟩ := bnd_some e
    refine ⟨α, s, ρ, xs, s1, R, E, e1, fun α1 H1 vs G1 R1 q1 => ?_⟩
    unfold gTup at e2
    split at e2
    · rename_i hl
      cases e2
      refine ⟨by rw [← q1.length]; exact line_big hl, fun p its hp => ?_⟩
      obtain ⟨G, R', r⟩ := new_tup (its := its) R1 hp q1
      exact P _ _ _ (G1.trans G) R' r
    · cases e2) rfl
theorem ok_lst {es : List Expr} {fl : Rho → Sto → Res (List D)} {k : Bool} (h : PA X es (tL X.K X.w cA fl)) : Ok X cA (.List es pos) (fun ρ s => bnd (fl ρ s) fun xs s1 => gLst k xs s1) :=
  .plain (PE.weak (pe_lst h) fun σ H Q h => by
    obtain ⟨α, s, ρ, d, s', R, E, e, P⟩ := h
    obtain ⟨xs, s1, e1, e2⟩ := bnd_some e
    refine ⟨α, s, ρ, xs, s1, R, E, e1, fun α1 H1 vs G1 R1 q1 => ?_⟩
    unfold gLst at e2
    split at e2
    · rename_i hl
      have e2 := Option.some.inj e2
      refine ⟨by rw [← q1.length]; exact line_big hl, fun p hp => ?_⟩
      exact post_lst R1 hp q1 e2 fun α2 H2 v G R2 r => P α2 H2 v (G1.trans G) R2 r
    · cases e2) rfl

/-! ### subscripts, slices -/
theorem ok_idx (hu : X.A.units + 100 < cLine) (ha : Ok X cA a fa) (hb : Ok X cA b fb) (hs : PlainIx b) : Ok X cA (.Subscript a b pos) (fun ρ s => bnd (fa ρ s) fun x s1 => bnd (fb ρ s1) fun y s2 => gIdx x y s2) :=
  .plain (PE.weak (pe_ix (ix_idx hu) ha.pe hb.pe hs) fun σ H Q h => tE_two h) rfl
/-- a part of a slice -/
structure OkP (X : Cx) (cA : Nat → Addr) (e : Option Expr) (f : Rho → Sto → Res D) : Prop where
  po : PO X e (fun σ H Q => ∃ α s ρ d s' i, RS X.K X.w cA α s H ∧ REnv X.K X.w α s H ρ σ ∧ f ρ s = some (d, s') ∧ (d = .none ∧ i = Option.none ∨ ∃ k, d = .int k ∧ i = some k) ∧ ∀ α' H', Go α s H α' s' H' → RS X.K X.w cA α' s' H' → Q i H')
theorem okP_none : OkP X cA none (fun _ s => some (.none, s)) := ⟨⟨fun pins s σ H Q I h => po_none.run pins s σ H Q I (by
  obtain ⟨α, s, ρ, d, s', i, R, E, e, h, P⟩ := h
  cases e
  rcases h with ⟨_, rfl⟩ | ⟨k, h, _⟩
  · exact P α H .refl R
  · cases h)⟩⟩
theorem okP_some (h : Ok X cA e f) : OkP X cA (some e) f := ⟨⟨fun pins s σ H Q I q => by
  obtain ⟨α, st, ρ, d, s', i, R, E, e, hd, P⟩ := q
  rcases hd with ⟨rfl, rfl⟩ | ⟨k, rfl, rfl⟩
  · rw [evalPart_some]
    refine thn (h.pe.run pins s σ H (fun v H1 => v = .non ∧ Q Option.none H1) I ⟨α, st, ρ, _, s', R, E, e, fun α1 H1 v G R1 r => by cases r; exact ⟨rfl, P α1 H1 G R1⟩⟩) fun u s1 ⟨x, H1, I1, r1, ex, q1⟩ => ?_
    subst ex
    obtain rfl : u = Value.none := r1
    exact ⟨Option.none, H1, I1, .none, q1⟩
  · refine (po_some h.pe).run pins s σ H Q I ⟨α, st, ρ, _, s', R, E, e, fun α1 H1 v G R1 r => ?_⟩
    cases r
    exact ⟨k, rfl, P α1 H1 G R1⟩⟩⟩
theorem cutAt_eq {n d : Nat} {x : D} {i : Option Int} {k : Nat} (h : cutAt n d x = some k) (hx : x = .none ∧ i = Option.none ∨ ∃ k, x = .int k ∧ i = some k) : HT.sIx n d i = k := by
  rcases hx with ⟨rfl, rfl⟩ | ⟨j, rfl, rfl⟩
  · cases h; rfl
  · exact Option.some.inj h
theorem part_of {n d : Nat} {x : D} {k : Nat} (h : cutAt n d x = some k) : ∃ i : Option Int, x = .none ∧ i = Option.none ∨ ∃ k, x = .int k ∧ i = some k := by
  cases x with
  | none => exact ⟨Option.none, .inl ⟨rfl, rfl⟩⟩
  | int j => exact ⟨some j, .inr ⟨j, rfl, rfl⟩⟩
  | _ => cases h
theorem slc_parts {s : Sto} {x l h z : D} (e : slcD s x l h = some z) : (∃ i : Option Int, l = .none ∧ i = Option.none ∨ ∃ k, l = .int k ∧ i = some k) ∧ (∃ i : Option Int, h = .none ∧ i = Option.none ∨ ∃ k, h = .int k ∧ i = some k) := by
  unfold slcD at e
  split at e
  · split at e
    · rename_i h1 h2; exact ⟨part_of h1, part_of h2⟩
    · cases e
  · split at e
    · rename_i h1 h2; exact ⟨part_of h1, part_of h2⟩
    · cases e
  · cases e
def rSlD (K : PySem.W.Frag) (w : World) (cA : Nat → Addr) (k : Bool) : V → Option Int → Option Int → Hp → VK → Prop := fun x lo hi H Q => ∃ α s a l h d s', RS K w cA α s H ∧ Rp K w α s H a x ∧ (l = .none ∧ lo = Option.none ∨ ∃ k, l = .int k ∧ lo = some k) ∧ (h = .none ∧ hi = Option.none ∨ ∃ k, h = .int k ∧ hi = some k) ∧
  gSlc k a l h s = some (d, s') ∧ Post K w cA α s H s' d Q
theorem sl_D (k : Bool) : SlR X (rSlD X.K X.w cA k) := by
  intro pins s σ H x v vl vu lo hi sl Q I rx hs pl pu h
  obtain ⟨α, st, a, l, h, d, s', R, ra, hl, hh, e, P⟩ := h
  unfold gSlc at e
  obtain ⟨z, hz, e⟩ := Option.map_eq_some_iff.mp e
  unfold slcD at hz
  split at hz
  · rename_i xs ht
    split at hz
    · rename_i i j h1 h2
      cases hz
      rw [laid_own k (by intro _ z; cases z) (by intro _ _ z; cases z)] at e
      cases e
      obtain ⟨p, vs, rfl, q1, q2⟩ := top_tup ra ht
      have e1 := cutAt_eq h1 hl
      have e2 := cutAt_eq h2 hh
      rw [q2.length] at e1 e2
      refine sl_tupX pins s σ H _ v vl vu lo hi sl Q I rx hs pl pu ⟨p, vs, rfl, q1.t, fun w => ?_, fun w q its hq => ?_⟩
      · have whole : (xs.drop i).take (j - i) = xs := by
          rw [e1] at w
          rw [e2] at w
          obtain ⟨rfl, rfl⟩ := w
          rw [List.drop_zero, Nat.sub_zero, ← q2.length, List.take_length]
        rw [whole] at P
        exact P _ _ _ .refl R (.tup q1 q2)
      · have cut : RpL X.K X.w α st H ((xs.drop i).take (j - i)) (cutV vs lo hi) := by
          unfold cutV
          rw [e1, e2]
          exact (q2.drop i).take (j - i)
        obtain ⟨G, R', r⟩ := new_tup (its := its) R hq cut
        exact P _ _ _ G R' r
    · cases hz
  · rename_i xs ht
    split at hz
    · rename_i i j h1 h2
      cases hz
      obtain ⟨p, vs, rfl, q1, q2⟩ := top_lst R ra ht
      have e1 := cutAt_eq h1 hl
      have e2 := cutAt_eq h2 hh
      rw [q2.length] at e1 e2
      refine sl_list pins s σ H _ v vl vu lo hi sl Q I rx hs pl pu ⟨p, vs, rfl, sqL_rd q1, fun q hq => ?_⟩
      have cut : RpL X.K X.w α st H ((xs.drop i).take (j - i)) (cutV vs lo hi) := by
        unfold cutV
        rw [e1, e2]
        exact (q2.drop i).take (j - i)
      exact post_lst R hq cut e P
    · cases hz
  · cases hz
theorem ok_slc {lo hi : Option Expr} {fl fh : Rho → Sto → Res D} {k : Bool} {p2 : Pos} (ha : Ok X cA a fa) (hl : OkP X cA lo fl) (hh : OkP X cA hi fh) :
    Ok X cA (.Subscript a (.Slice lo hi none p2) pos) (fun ρ s => bnd (fa ρ s) fun x s1 => bnd (fl ρ s1) fun l s2 => bnd (fh ρ s2) fun h s3 => gSlc k x l h s3) :=
  .plain (PE.weak (pe_slice (sl_D k) ha.pe hl.po hh.po) fun σ H Q q => by
    obtain ⟨α, s, ρ, d, s', R, E, e, P⟩ := q
    obtain ⟨x, s1, e1, e⟩ := bnd_some e
    obtain ⟨l, s2, e2, e⟩ := bnd_some e
    obtain ⟨h, s3, e3, e⟩ := bnd_some e
    obtain ⟨⟨i, hi⟩, ⟨j, hj⟩⟩ : (∃ i : Option Int, l = .none ∧ i = Option.none ∨ ∃ k, l = .int k ∧ i = some k) ∧ (∃ i : Option Int, h = .none ∧ i = Option.none ∨ ∃ k, h = .int k ∧ i = some k) := by
      unfold gSlc at e
      obtain ⟨z, hz, _⟩ := Option.map_eq_some_iff.mp e
      exact slc_parts hz
    refine ⟨α, s, ρ, x, s1, R, E, e1, fun α1 H1 v1 G1 R1 q1 => ⟨α1, s1, ρ, l, s2, i, R1, G1.env E, e2, hi, fun α2 H2 G2 R2 => ⟨α2, s2, ρ, h, s3, j, R2, G2.env (G1.env E), e3, hj, fun α3 H3 G3 R3 => ?_⟩⟩⟩
    exact ⟨α3, s3, x, l, h, d, s', R3, G3.rp _ _ (G2.rp _ _ q1), hi, hj, e, fun α4 H4 v4 G4 R4 r4 => P α4 H4 v4 (((G1.trans G2).trans G3).trans G4) R4 r4⟩) rfl
end
end DL
end

section
set_option Elab.async false
set_option linter.all false
set_option maxRecDepth 100000
set_option maxHeartbeats 4000000
/-! DL, part r: x[::-1]. -/
namespace DL
open PySem PySem.Spec PyProof.Rows L2 PySem.W PySem.Calls HT

section
variable {prog : Program} {w : World} {A : Around} {E : Value → Shared → Prop} {s : Shared}
theorem places_rev (n : Nat) : Builtin.Slice.slicePlaces ((n : Int) - 1) (-1) (-1) = n := by
  unfold Builtin.Slice.slicePlaces
  have h1 : ¬ ((-1 : Int) > 0) := by omega
  simp only [h1, if_false]
  try (split <;> first | omega | (simp only [Int.ediv_neg, Int.neg_neg, Int.ediv_one, Int.reduceNeg]; omega))
theorem adjust_rev (n : Nat) : Builtin.Slice.sliceAdjust none none (-1) (n : Int) = ((n : Int) - 1, -1) := by
  unfold Builtin.Slice.sliceAdjust
  have h1 : (-1 : Int) < 0 := by omega
  simp only [h1, if_true]
theorem applied_rev {sl : Addr} {vk : Value} {n : Nat} {Q : Int × Int × Nat → Shared → Prop} (hs : s.heap.IsSliceOf sl .none .none vk) (pk : IsPart vk (some (-1))) (h : Q ((n : Int) - 1, -1, n) s) :
    wpAny (model prog w) A (Builtin.Slice.sliceApplied (.ref sl) (pure (n : Int))) Q E s := by
  obtain ⟨os, hos, hcs, hds⟩ := id hs
  unfold Builtin.Slice.sliceApplied Builtin.Slice.sliceFields
  refine wpAny_bind (wpAny_bind (wpAny_field hos hds (x := .none) rfl (wpAny_bind (wpAny_field hos hds (x := .none) rfl (wpAny_bind (wpAny_field hos hds (x := vk) rfl (wpAny_pure ?_)))))))
  refine wpAny_bind (slicePart_ pk ?_)
  show wpAny _ _ (if ((-1 : Int) == 0) = true then _ else _) _ _ s
  rw [if_neg (by decide)]
  refine wpAny_bind (slicePart_none (wpAny_bind (slicePart_none (wpAny_bind (wpAny_pure ?_)))))
  show wpAny _ _ (match Builtin.Slice.sliceAdjust none none (-1) (n : Int) with | (lo, hi) => pure (lo, (-1 : Int), Builtin.Slice.slicePlaces lo hi (-1))) _ _ s
  rw [adjust_rev n]
  show wpAny _ _ (pure ((n : Int) - 1, (-1 : Int), Builtin.Slice.slicePlaces ((n : Int) - 1) (-1) (-1))) _ _ s
  rw [places_rev]
  exact wpAny_pure h
theorem fm_congr {β γ : Type} {f g : β → Option γ} : ∀ {l : List β}, (∀ m ∈ l, f m = g m) → l.filterMap f = l.filterMap g
  | [], _ => rfl
  | a :: l, h => by
    rw [List.filterMap_cons, List.filterMap_cons, h a List.mem_cons_self, fm_congr fun m hm => h m (List.mem_cons_of_mem _ hm)]
theorem pick_rev (xs : Array Value) : ((List.range xs.size).filterMap fun (m : Nat) => xs[((((xs.size : Nat) : Int) - 1) + (m : Int) * (-1)).toNat]?) = xs.toList.reverse := by
  have e : ∀ m ∈ List.range xs.size, (fun (m : Nat) => xs[((((xs.size : Nat) : Int) - 1) + (m : Int) * (-1)).toNat]?) m = xs.toList.reverse[m]? := by
    intro m hm
    have hm := List.mem_range.mp hm
    have : ((((xs.size : Nat) : Int) - 1) + (m : Int) * (-1)).toNat = xs.size - 1 - m := by omega
    dsimp only
    rw [this, List.getElem?_reverse (by rw [Array.length_toList]; exact hm), Array.length_toList, Array.getElem?_toList]
  rw [fm_congr e]
  have gen : ∀ (l : List Value), (List.range l.length).filterMap (fun m => l[m]?) = l := by
    intro l
    induction l with
    | nil => rfl
    | cons a l ih =>
      rw [List.length_cons, List.range_succ_eq_map, List.filterMap_cons]
      simp only [List.getElem?_cons_zero]
      rw [List.filterMap_map]
      congr 1
  have := gen xs.toList.reverse
  rw [List.length_reverse, Array.length_toList] at this
  exact this
theorem getItem_tuple_rev {t sl : Addr} {items : Array Value} {vk : Value} {Q : Value → Shared → Prop} (ht : IsTup s.heap t items) (hs : s.heap.IsSliceOf sl .none .none vk) (pk : IsPart vk (some (-1)))
    (h : Q (.ref s.heap.objs.size) { s with heap := s.heap.push { cls := .type "tuple", data := .seq items.toList.reverse.toArray } })
    (hsz : items.size ≤ sizeLine) : wpAny (model prog w) A (getItem (.ref t) (.ref sl)) Q E s := by
  have hz : sizeOk (.seq items.toList.reverse.toArray) := by
    show items.toList.reverse.toArray.size ≤ sizeLine
    rw [List.size_toArray, List.length_reverse, Array.length_toList]
    exact hsz
  obtain ⟨os, hos, hcs, hds⟩ := id hs
  have hTs : s.TypeIs (.ref sl) "slice" := ⟨os, hos, hcs⟩
  unfold getItem
  try with_reducible refine wpAny_holding ?_
  first | refine wpAny_bind (wpAny_pure ?_) | skip
  refine wpAny_bind (wpAny_sequenceKey ht.typeIs (by decide) ?_)
  refine wpAny_bind (wpAny_callSpecial?_slot (name := Str.ofString "__getitem__") ht.typeIs PyProof.Rows.slot_tuple_getitem
    (wpAny_call_entry PyProof.Rows.slot_tuple_getitem ht.typeIs entry_tuple_getitem ?_ (args_tuple_getitem _ _)))
  show wpAny _ _ (Builtin.Tuple.tupleItemsOf (.ref t) >>= _) _ _ s
  refine wpAny_bind (tupleItemsOf_ ht ?_)
  refine wpAny_bind (wpAny_typeOf hTs ?_)
  rw [if_pos (by decide)]
  refine wpAny_bind (applied_rev hs pk ?_)
  have no : ¬ (((((items.size : Nat) : Int) - 1) == 0 && (-1 : Int) == 1 && items.size == items.size) = true) := by
    intro q
    rw [Bool.and_eq_true, Bool.and_eq_true] at q
    exact absurd q.1.2 (by decide)
  show wpAny _ _ (if ((((items.size : Nat) : Int) - 1) == 0 && (-1 : Int) == 1 && items.size == items.size) = true then _ else _) _ _ s
  rw [if_neg no, pick_rev]
  first
    | exact wpAny_bind (m := Builtin.Tuple.tupleExact _) (wpAny_newObj_type (wpAny_pure ⟨_, rfl, wpAny_pure h⟩) hz)
    | exact wpAny_bind (m := Builtin.Tuple.tupleExact _) (wpAny_newObj_type (wpAny_bind (wpAny_pure (wpAny_pure ⟨_, rfl, wpAny_pure h⟩))) hz)
    | exact wpAny_bind (wpAny_bind (m := Builtin.Tuple.tupleExact _) (wpAny_newObj_type (wpAny_pure (wpAny_pure ⟨_, rfl, wpAny_pure h⟩)) hz))
    | exact wpAny_bind (wpAny_bind (m := Builtin.Tuple.tupleExact _) (wpAny_newObj_type (wpAny_pure ⟨_, rfl, wpAny_pure h⟩) hz))
end
section
variable {X : Cx} {cA : Nat → Addr}
theorem ok_rev {a : Expr} {fa : Rho → Sto → Res D} {c : Bool} {k : Nat} {p1 p2 p3 pos : Pos} (ha : Ok X cA a fa) : Ok X cA (.Subscript a (.Slice none none (some (.UnaryOp .USub (.Constant (.int 1) k p1) p2)) p3) pos) (fun ρ s => bnd (fa ρ s) fun x s1 => gRev c x s1) :=
  .plain ⟨fun pins s σ H Q I h => by
    obtain ⟨α, st, ρ, d, st', R, E, e, P⟩ := h
    obtain ⟨x, s1, e1, e2⟩ := bnd_some e
    refine Subscript_ (thn (ha.pe.run pins s σ H (fun z H1 => ∃ α1, Go α st H α1 s1 H1 ∧ RS X.K X.w cA α1 s1 H1 ∧ Rp X.K X.w α1 s1 H1 x z) I ⟨α, st, ρ, x, s1, R, E, e1, fun α1 H1 z G1 R1 r1 => ⟨α1, G1, R1, r1⟩⟩) fun v t1 ⟨z, H1, I1, rz, α1, G1, R1, r1⟩ => ?_)
    have hst : PO X (some (.UnaryOp .USub (.Constant (.int 1) k p1) p2)) (tPart (tUn (rU fun i => .int (-i)) (tC (.int 1)))) := po_some (pe_un un_neg pe_int)
    refine wpAny_Slice (thn (po_none.run pins t1 σ H1 (fun o H2 => o = none ∧ H2 = H1) I1 ⟨rfl, rfl⟩) fun vl t2 ⟨l, H2, I2, pl, el, e2'⟩ => ?_)
    subst el e2'
    refine thn (po_none.run pins t2 σ H2 (fun o H3 => o = none ∧ H3 = H2) I2 ⟨rfl, rfl⟩) fun vu t3 ⟨u, H3, I3, pu, eu, e3⟩ => ?_
    subst eu e3
    refine thn (hst.run pins t3 σ H3 (fun o H4 => o = some (-1) ∧ H4 = H3) I3 ⟨1, rfl, -1, rfl, rfl, rfl⟩) fun vs t4 ⟨o, H4, I4, ps, eo, e4⟩ => ?_
    subst eo e4
    have I5 : Inv X pins σ H4 { t4 with heap := t4.heap.push { cls := .type "slice", data := .fields #[vl, vu, vs] } } := I4.kept (t' := t4.toks) fun b ob q => Heap.get?_push_of_some _ q
    show wpAny (model X.prog X.w) X.A (subscriptTail a (.Slice none none (some (.UnaryOp .USub (.Constant (.int 1) k p1) p2)) p3) v (.ref t4.heap.objs.size)) (EP X pins σ Q) X.xe { t4 with heap := t4.heap.push { cls := .type "slice", data := .fields #[vl, vu, vs] } }
    unfold gRev at e2
    split at e2
    · rename_i zs ht
      have e2 := Option.some.inj e2
      obtain ⟨p, ws, rfl, h1, h2⟩ := top_lst R1 r1 ht
      obtain rfl : v = Value.ref p := rz
      obtain ⟨hz, its, n, r, hlen, ho⟩ := inv_rdL I5 h1
      have hl : ({ t4 with heap := t4.heap.push { cls := .type "slice", data := .fields #[vl, vu, vs] } } : Shared).heap.IsList p its.toArray := ⟨_, ho, rfl, n, rfl⟩
      refine tail_any (ops := [.ref p, .ref t4.heap.objs.size]) hl.typeIs (PySem.slot_list_getitem.lookup) ?_ (by with_unfolding_all rfl)
      refine wpAny_getItem_list_slice hl (Heap.IsSliceOf.new _ vl vu vs) pl pu ps (by decide) ?_ (by rw [List.size_toArray]; omega)
      rw [PySem.W.krv_pick]
      refine ⟨.ref _, _, I5.laid (t' := t4.toks) (o := .lst ws.reverse) (fun b ob q => Heap.get?_push_of_some _ q) (Nat.le_refl _) ⟨by rw [List.length_reverse]; exact hz, _, 0, r.reverse, Heap.get?_push_size _ rfl⟩, rfl, ?_⟩
      exact post_lst R1 (I5.hok.fresh (Nat.le_refl _)) h2.reverse e2 fun α2 H2 v G R2 r2 => P α2 H2 v (G1.trans G) R2 r2
    · rename_i zs ht
      cases e2
      obtain ⟨p, ws, rfl, h1, h2⟩ := top_tup r1 ht
      obtain rfl : v = Value.ref p := rz
      obtain ⟨its, r, htp, hz⟩ := I5.tuple h1.t
      cases pl
      cases pu
      refine tail_any (ops := [.ref p, .ref t4.heap.objs.size]) htp.typeIs (PyProof.Rows.slot_tuple_getitem.lookup) ?_ (by with_unfolding_all rfl)
      refine getItem_tuple_rev htp (Heap.IsSliceOf.new _ _ _ vs) ps ?_ (by rw [List.size_toArray, ← r.length]; exact hz)
      have eb : its.toArray.toList.reverse = its.reverse := by simp
      rw [eb]
      refine ⟨.ref _, _, inv_tup (t' := t4.toks) I5 r.reverse (by rw [List.length_reverse]; exact hz), rfl, ?_⟩
      obtain ⟨G, R', r'⟩ := new_tup (its := its.reverse) R1 (I5.hok.fresh (Nat.le_refl _)) h2.reverse
      exact P _ _ _ (G1.trans G) R' r'
    · cases e2⟩ rfl
end
end DL
end

section
set_option Elab.async false
set_option linter.all false
set_option maxRecDepth 100000
set_option maxHeartbeats 4000000
/-! DL, part s: what loops and comprehensions walk. -/
namespace DL
open PySem PySem.Spec PyProof.Rows L2 PySem.W

/-- the keys of the dict at d -/
def Itx (d : Addr) (es : Array DictEntry) (ep : Nat) (kvs : List V) : It :=
  ⟨fun i H => H d = some (rawO d es ep) ∧ Vals kvs (es.toList.map (·.key)) ∧ i < kvs.length, fun i H x H' => H' = H ∧ kvs[i]? = some x, fun i H => H d = some (rawO d es ep) ∧ Vals kvs (es.toList.map (·.key)) ∧ kvs.length ≤ i⟩
theorem turn_raw {P : Program} {w : World} {K : PySem.W.Frag} {tg : Expr} {d : Addr} {es : Array DictEntry} {ep : Nat} {kvs : List V} (it : Addr) : Turn P w K tg (Itx d es ep kvs) [it] it (fun i h => h.IsKeyIter it d i es.size ep) where
  mem := by simp
  obj := fun i h st b hb => by
    have e : b = it := by simpa using hb
    subst e
    obtain ⟨oi, e, c, dd⟩ := st
    exact ⟨oi, e, fun v z => by rw [dd] at z; cases z⟩
  keep := fun i h h' st k => st.at fun oi e => k it (by simp) oi e
  item := by
    intro X hP hw hK hc i pins s σ H E I hf st hg
    subst hP hw hK
    obtain ⟨hd, hv, hi⟩ := hg
    obtain ⟨f0, f1, f2, f3, f4, f5⟩ := hf it (by simp)
    obtain ⟨x, hx⟩ : ∃ x, kvs[i]? = some x := ⟨kvs[i], List.getElem?_eq_getElem hi⟩
    obtain ⟨u, hu, ru⟩ := hv.get hx
    have hl : kvs.length = es.size := by
      have := hv.length
      simpa using this
    have hi' : i < es.size := by omega
    have hu' : u = es[i].key := by
      rw [List.getElem?_map, Array.getElem?_toList, Array.getElem?_eq_getElem hi'] at hu
      exact (Option.some.inj hu).symm
    refine wpAny_pyNext_keys_item_raw st (raw_at I hd) hi' fun h' st' sb => ?_
    have I1 : Inv X pins σ H { s with heap := h' } := I.turned (t' := s.toks) (fun b ob hb e => (sb.2 b hb).trans e) f0 f1 f3 f4 f5
    obtain ⟨oi, e, c, dd⟩ := id st'
    refine ⟨_, rfl, go_of (s := { s with heap := h' }) e c dd (by decide) ⟨x, H, I1, ?_, ⟨rfl, hx⟩, st', fun b hb => (hf b hb).1⟩⟩
    rw [← hu']
    exact ru
  done := by
    intro X hP hw hK hc i pins s σ H E I hf st hg
    subst hP hw hK
    obtain ⟨hd, hv, hi⟩ := hg
    obtain ⟨f0, f1, f2, f3, f4, f5⟩ := hf it (by simp)
    have hl : kvs.length = es.size := by
      have := hv.length
      simpa using this
    exact wpAny_pyNext_keys_end_raw (I.ok.hd hc) st (raw_at I hd) (by omega) fun h' eb => ⟨rfl, I.turned (t' := s.toks) (fun b ob hb e => eb b ob hb e) f0 f1 f3 f4 f5⟩
  self := fun A i s Q E st h => wpAny_pyIter_keyiter st h

/-- trees and locked cells are kept -/
structure Gj (α : Al) (s : Sto) (H : Hp) (α' : Al) (s' : Sto) (H' : Hp) : Prop where
  w : Gw α s H α' s' H'
  lk : ∀ (i : Nat) (a : Addr) (c : Cell), α.l[i]? = some a → s[i]? = some c → lckd c = true → s'[i]? = some c ∧ H' a = H a
/-- what is hidden is kept -/
def Sb (α : Al) (H : Hp) (α' : Al) (H' : Hp) : Prop := ∀ a ∈ α.g, a ∈ α'.g ∧ H' a = H a
theorem Gh.l {α α' : Al} {s s' : Sto} {H H' : Hp} (g : Gh α s H α' s' H') : Gj α s H α' s' H' := ⟨g.w, g.lk⟩
theorem Gj.h {α α' : Al} {s s' : Sto} {H H' : Hp} (g : Gj α s H α' s' H') (b : Sb α H α' H') : Gh α s H α' s' H' := ⟨g.w, b, g.lk⟩
theorem Gj.refl {α : Al} {s : Sto} {H : Hp} : Gj α s H α s H := Gh.refl.l
theorem Gj.trans {α α' α2 : Al} {s s' s2 : Sto} {H H' H2 : Hp} (a : Gj α s H α' s' H') (b : Gj α' s' H' α2 s2 H2) : Gj α s H α2 s2 H2 where
  w := a.w.trans b.w
  lk := fun i c l h e k => by
    obtain ⟨h1, h2⟩ := a.lk i c l h e k
    obtain ⟨h3, h4⟩ := b.lk i c l (pre_get a.w.pre h) h1 k
    exact ⟨h3, h4.trans h2⟩
theorem Sb.trans {α α' α2 : Al} {H H' H2 : Hp} (a : Sb α H α' H') (b : Sb α' H' α2 H2) : Sb α H α2 H2 := fun c h => let ⟨h1, e1⟩ := a c h; let ⟨h2, e2⟩ := b c h1; ⟨h2, e2.trans e1⟩
/-- what is hidden may be written -/
theorem Gj.wrH {K : PySem.W.Frag} {w : World} {cA : Nat → Addr} {α0 α : Al} {s0 s : Sto} {H0 H : Hp} {p : Addr} {o : HO} (g : Gj α0 s0 H0 α s H) (R : RS K w cA α s H) (hp : p ∈ α.g) (nt : ∀ o xs, H p ≠ some (.frz o (.tup xs))) : Gj α0 s0 H0 α s (upd H p o) where
  w := g.w.trans (Gw.wrH R hp nt)
  lk := fun i a c e1 e2 k => by
    obtain ⟨h1, h2⟩ := g.lk i a c e1 e2 k
    exact ⟨h1, by rw [upd_ne (by rintro rfl; exact (R.hid a hp).1 (List.mem_of_getElem? (pre_get g.w.pre e1)))]; exact h2⟩

section
variable (K : PySem.W.Frag) (w : World) (cA : Nat → Addr)
/-- an item: as data, or (z) a pair that was just made -/
def RpZ (α : Al) (s : Sto) (H : Hp) (z : Bool) (d : D) (x : V) : Prop := Rp K w α s H d x ∨ (z = true ∧ ∃ T xs ds, d = .tup ds ∧ x = .ref T ∧ SqT K H T xs ∧ RpL K w α s H ds xs)
structure Walk (z : Bool) (J : It) (its : List D) (α2 : Al) (s2 : Sto) (H2 : Hp) : Prop where
  turn : ∀ (i : Nat) (d : D) (α : Al) (s : Sto) (H : Hp), Gj α2 s2 H2 α s H → RS K w cA α s H → its[i]? = some d → J.go i H ∧ ∀ x H', J.yld i H x H' → Go α s H α s H' ∧ RS K w cA α s H' ∧ RpZ K w α s H' z d x
  stop : ∀ (α : Al) (s : Sto) (H : Hp), Gj α2 s2 H2 α s H → RS K w cA α s H → J.stop its.length H
/-- the locks can be taken off -/
def Free (α1 : Al) (s1 : Sto) (H1 : Hp) (s2 : Sto) (u : List Nat) : Prop := ∀ (α : Al) (s : Sto) (H : Hp) (s' : Sto), Gj α1 s2 H1 α s H → RS K w cA α s H → unlock s u = some s' → Gj α1 s1 H1 α s' H ∧ RS K w cA α s' H ∧ Gw α s H α s' H
def HeldL (a : Addr) (vs : List V) (its : List D) (α2 : Al) (s2 : Sto) (H2 : Hp) : Prop := ∀ (α : Al) (s : Sto) (H : Hp), Gj α2 s2 H2 α s H → SqL K H a vs ∧ RpL K w α s H its vs
def HeldT (a : Addr) (vs : List V) (its : List D) (α2 : Al) (s2 : Sto) (H2 : Hp) : Prop := ∀ (α : Al) (s : Sto) (H : Hp), Gj α2 s2 H2 α s H → SqT K H a vs ∧ RpL K w α s H its vs
def HeldK (a : Addr) (es : Array DictEntry) (ep : Nat) (vs : List V) (its : List D) (α2 : Al) (s2 : Sto) (H2 : Hp) : Prop := (a == sysModules) = false ∧ Vals vs (es.toList.map (·.key)) ∧ ∀ (α : Al) (s : Sto) (H : Hp), Gj α2 s2 H2 α s H → H a = some (rawO a es ep) ∧ RpL K w α s H its vs
end
section
variable {K : PySem.W.Frag} {w : World} {cA : Nat → Addr} {α : Al} {s s2 : Sto} {H : Hp} {d : D} {x : V} {its : List D} {u : List Nat}
/-- taken off again -/
theorem unmark {α1 α2 : Al} {s1 s3 : Sto} {H1 H3 : Hp} {n : Nat} {c c0 c1 : Cell} (g : Gj α1 s1 H1 α2 s3 H3) (R1 : RS K w cA α1 s1 H1) (R : RS K w cA α2 s3 H3) (h1 : s1[n]? = some c0) (hl : lckd c0 = false) (h3 : s3[n]? = some c) (nd : c ≠ .dead)
    (hc : ∀ a (s' : Sto), Gw α2 s3 H3 α2 s' H3 → α2.l[n]? = some a → CellR K w cA α2 s3 H3 a c → CellR K w cA α2 s' H3 a c1) : Gj α1 s1 H1 α2 (s3.set n c1) H3 ∧ RS K w cA α2 (s3.set n c1) H3 ∧ Gw α2 s3 H3 α2 (s3.set n c1) H3 := by
  have gw : Gw α2 s3 H3 α2 (s3.set n c1) H3 := ⟨List.prefix_rfl, fun _ _ _ q => q, fun b u q f => ⟨q, f.1, fun i e => by
    have z := f.2 i e
    have hi : n ≠ i := by rintro rfl; rw [h3] at z; exact nd (Option.some.inj z)
    rw [List.getElem?_set_ne hi]
    exact z⟩⟩
  have hn : n < α2.l.length := by rw [R.len]; exact (List.getElem?_eq_some_iff.mp h3).1
  have ha : α2.l[n]? = some α2.l[n] := List.getElem?_eq_getElem hn
  refine ⟨⟨g.w.trans gw, fun i b c2 e1 e2 k => ?_⟩, RS.mark R ha h3 gw (hc _ _ gw ha (R.cell n _ c ha h3)), gw⟩
  obtain ⟨q1, q2⟩ := g.lk i b c2 e1 e2 k
  have hi : n ≠ i := by
    rintro rfl
    rw [h1] at e2
    cases e2
    rw [hl] at k
    cases k
  exact ⟨by rw [List.getElem?_set_ne hi]; exact q1, q2⟩
theorem unlock_cons {t : Sto} {n : Nat} {r : List Nat} : unlock t (n :: r) = (match t[n]? with
    | some (.lkl xs) => unlock (t.set n (.lst xs)) r
    | some (.lkd ks vs) => unlock (t.set n (.dct ks vs)) r
    | _ => Option.none) := rfl
theorem free_nil : Free K w cA α s H s [] := fun α' s' H' s'' g R e => by
  cases e
  exact ⟨g, R, .refl⟩
theorem free_trans {s3 : Sto} {u2 : List Nat} (G : Go α s H α s2 H) (h1 : Free K w cA α s H s2 u) (h2 : Free K w cA α s2 H s3 u2) : Free K w cA α s H s3 (u2 ++ u) := by
  have split : ∀ (r : List Nat) (t t' : Sto), unlock t (r ++ u) = some t' → ∃ t1, unlock t r = some t1 ∧ unlock t1 u = some t' := by
    intro r
    induction r with
    | nil => intro t t' e; exact ⟨t, rfl, e⟩
    | cons n r ih =>
      intro t t' e
      have e : unlock t (n :: (r ++ u)) = some t' := e
      rw [unlock_cons] at e
      simp only [unlock_cons]
      split at e
      · exact ih _ _ e
      · exact ih _ _ e
      · cases e
  intro α' s' H' s'' g R e
  obtain ⟨t1, e1, e2⟩ := split _ _ _ e
  obtain ⟨g1, R1, w1⟩ := h2 α' s' H' t1 g R e1
  obtain ⟨g2, R2, w2⟩ := h1 α' t1 H' s'' g1 R1 e2
  exact ⟨g2, R2, w1.trans w2⟩
theorem lock_ok (e : lockD d s = some (its, s2, u)) (R : RS K w cA α s H) (r : Rp K w α s H d x) : ∃ a, x = .ref a ∧ RS K w cA α s2 H ∧ Go α s H α s2 H ∧ Free K w cA α s H s2 u ∧
    ((kindD s d = some true ∧ ∃ vs, HeldL K w a vs its α s2 H) ∨ (kindD s d = some false ∧ ∃ vs, HeldT K w a vs its α s2 H) ∨ (kindD s d = Option.none ∧ ∃ es ep vs, HeldK K w a es ep vs its α s2 H)) := by
  cases d with
  | tup xs =>
    cases e
    cases r with
    | @tup a vs _ h1 h2 => exact ⟨a, rfl, R, .refl, free_nil, .inr (.inl ⟨rfl, vs, fun α' s' H' g => ⟨(g.w.sqX h1).t, g.w.rpL _ _ h2⟩⟩)⟩
  | lst xs =>
    cases e
    cases r with
    | @lst a vs _ h1 h2 h3 => exact ⟨a, rfl, R, .refl, free_nil, .inl ⟨rfl, vs, fun α' s' H' g => ⟨sqL_rd (g.w.rdL h1 h2).1, g.w.rpL _ _ h3⟩⟩⟩
  | dct ks vs =>
    cases e
    cases r with
    | @dct a es ep _ _ us h1 h2 h3 h4 h5 h6 h7 =>
      obtain ⟨kvs, k1, k2⟩ := h5.keysV
      exact ⟨a, rfl, R, .refl, free_nil, .inr (.inr ⟨rfl, es, ep, kvs, h3, k2, fun α' s' H' g => ⟨(g.w.fz a _ h1 h2).1, g.w.rpL _ _ k1⟩⟩)⟩
  | ref n =>
    cases r with
    | @ref _ a ha =>
      unfold lockD at e
      dsimp only at e
      split at e
      · rename_i xs hs
        cases e
        have G : Go α s H α (s.set n (.lkl its)) H := Go.mark R hs (by intro z; cases z) rfl
        have hn := (List.getElem?_eq_some_iff.mp hs).1
        cases R.cell n a _ ha hs with
        | lst h1 h2 =>
          rename_i vs
          refine ⟨a, rfl, RS.mark R ha hs G.h.w (.lkl h1 (G.rpL _ _ h2)), G, fun α' s' H' s'' g R' e => ?_,   .inl ⟨?_, vs, fun α' s' H' g => ?_⟩⟩
          · have h3 := (g.lk n a _ ha (List.getElem?_set_self hn) rfl).1
            unfold unlock at e
            rw [h3] at e
            cases e
            exact unmark (G.h.l.trans g) R R' hs rfl h3 (by intro z; cases z) fun b s3 gw hb hc => by
              cases hc with
              | lkl q1 q2 => exact .lst q1 (gw.rpL _ _ q2)
          · unfold kindD top; simp only [hs]
          · obtain ⟨_, e2⟩ := g.lk n a _ ha (List.getElem?_set_self hn) rfl
            exact ⟨sqL_rd (.inl (e2.trans h1)), (G.h.l.trans g).w.rpL _ _ h2⟩
      · rename_i xs hs
        cases e
        cases R.cell n a _ ha hs with
        | lkl h1 h2 =>
          rename_i vs
          refine ⟨a, rfl, R, .refl, free_nil,   .inl ⟨?_, vs, fun α' s' H' g => ?_⟩⟩
          · unfold kindD top; simp only [hs]
          · obtain ⟨_, e2⟩ := g.lk n a _ ha hs rfl
            exact ⟨sqL_rd (.inl (e2.trans h1)), g.w.rpL _ _ h2⟩
      · rename_i ks vs hs
        cases e
        have G : Go α s H α (s.set n (.lkd its vs)) H := Go.mark R hs (by intro z; cases z) rfl
        have hn := (List.getElem?_eq_some_iff.mp hs).1
        cases R.cell n a _ ha hs with
        | dct h1 h2 h3 h4 h5 h6 =>
          rename_i es ep us
          obtain ⟨kvs, k1, k2⟩ := h4.keysV
          refine ⟨a, rfl, RS.mark R ha hs G.h.w (.lkd h1 h2 h3 (G.ents _ _ h4) (G.rpL _ _ h5) h6), G, fun α' s' H' s'' g R' e => ?_, .inr (.inr ⟨?_, es, ep, kvs, h2, k2, fun α' s' H' g => ?_⟩)⟩
          · have h3 := (g.lk n a _ ha (List.getElem?_set_self hn) rfl).1
            unfold unlock at e
            rw [h3] at e
            cases e
            exact unmark (G.h.l.trans g) R R' hs rfl h3 (by intro z; cases z) fun b s3 gw hb hc => by
              cases hc with
              | lkd q1 q2 q3 q4 q5 q6 => exact .dct q1 q2 q3 (gw.ents _ _ q4) (gw.rpL _ _ q5) q6
          · unfold kindD top; simp only [hs]
          · obtain ⟨_, e2⟩ := g.lk n a _ ha (List.getElem?_set_self hn) rfl
            exact ⟨e2.trans h1, (G.h.l.trans g).w.rpL _ _ k1⟩
      · rename_i ks vs hs
        cases e
        cases R.cell n a _ ha hs with
        | lkd h1 h2 h3 h4 h5 h6 =>
          rename_i es ep us
          obtain ⟨kvs, k1, k2⟩ := h4.keysV
          refine ⟨a, rfl, R, .refl, free_nil, .inr (.inr ⟨?_, es, ep, kvs, h2, k2, fun α' s' H' g => ?_⟩)⟩
          · unfold kindD top; simp only [hs]
          · obtain ⟨_, e2⟩ := g.lk n a _ ha hs rfl
            exact ⟨e2.trans h1, g.w.rpL _ _ k1⟩
      · cases e
  | _ => cases e

/-! ### walks -/
theorem walk_L {a : Addr} {vs : List V} (h : HeldL K w a vs its α s H) : Walk K w cA false (Itl K a) its α s H where
  turn := fun i d α' s' H' g R e => by
    obtain ⟨q1, q2⟩ := h α' s' H' g
    obtain ⟨v, ev, rv⟩ := q2.get e
    refine ⟨⟨vs, v, q1, ev⟩, fun x H2 ⟨eH, hx⟩ => ?_⟩
    subst eH
    have := hx vs q1
    rw [ev] at this
    cases this
    exact ⟨.refl, R, .inl rv⟩
  stop := fun α' s' H' g R => by
    obtain ⟨q1, q2⟩ := h α' s' H' g
    exact ⟨vs, q1, by rw [q2.length]; exact Nat.le_refl _⟩
theorem walk_T {a : Addr} {vs : List V} (h : HeldT K w a vs its α s H) : Walk K w cA false (Itt K a) its α s H where
  turn := fun i d α' s' H' g R e => by
    obtain ⟨q1, q2⟩ := h α' s' H' g
    obtain ⟨v, ev, rv⟩ := q2.get e
    refine ⟨⟨vs, v, q1, ev⟩, fun x H2 ⟨eH, hx⟩ => ?_⟩
    subst eH
    have := hx vs q1
    rw [ev] at this
    cases this
    exact ⟨.refl, R, .inl rv⟩
  stop := fun α' s' H' g R => by
    obtain ⟨q1, q2⟩ := h α' s' H' g
    exact ⟨vs, q1, by rw [q2.length]; exact Nat.le_refl _⟩
theorem walk_K {a : Addr} {es : Array DictEntry} {ep : Nat} {vs : List V} (h : HeldK K w a es ep vs its α s H) : Walk K w cA false (Itx a es ep vs) its α s H where
  turn := fun i d α' s' H' g R e => by
    obtain ⟨q1, q2⟩ := h.2.2 α' s' H' g
    obtain ⟨v, ev, rv⟩ := q2.get e
    refine ⟨⟨q1, h.2.1, (List.getElem?_eq_some_iff.mp ev).1⟩, fun x H2 ⟨eH, hx⟩ => ?_⟩
    subst eH
    rw [ev] at hx
    cases hx
    exact ⟨.refl, R, .inl rv⟩
  stop := fun α' s' H' g R => by
    obtain ⟨q1, q2⟩ := h.2.2 α' s' H' g
    exact ⟨q1, h.2.1, by rw [q2.length]; exact Nat.le_refl _⟩
theorem rangeD_get : ∀ {n : Nat} {lo : Int} {i : Nat} {d : D}, (rangeD lo n)[i]? = some d → i < n ∧ d = .int (lo + i)
  | 0, _, i, _, e => by simp [rangeD] at e
  | n + 1, lo, 0, _, e => by
    simp [rangeD] at e
    exact ⟨by omega, by rw [← e]; simp⟩
  | n + 1, lo, i + 1, d, e => by
    have e : (rangeD (lo + 1) n)[i]? = some d := by simpa [rangeD] using e
    obtain ⟨h1, h2⟩ := rangeD_get e
    exact ⟨by omega, by rw [h2]; congr 1; omega⟩
theorem rangeD_len : ∀ {n : Nat} {lo : Int}, (rangeD lo n).length = n
  | 0, _ => rfl
  | n + 1, lo => by simp [rangeD, rangeD_len]
theorem walk_R {lo : Int} {n : Nat} : Walk K w cA false (Itr lo n) (rangeD lo n) α s H where
  turn := fun i d α' s' H' g R e => by
    obtain ⟨h1, h2⟩ := rangeD_get e
    refine ⟨h1, fun x H2 ⟨eH, hx⟩ => ?_⟩
    subst eH hx h2
    exact ⟨.refl, R, .inl (.int _)⟩
  stop := fun α' s' H' g R => by
    show n ≤ _
    rw [rangeD_len]
    exact Nat.le_refl _
theorem zipD_get : ∀ {xs ys : List D} {i : Nat} {p : D × D}, (zipD xs ys)[i]? = some p → xs[i]? = some p.1 ∧ ys[i]? = some p.2
  | [], _, i, p, e => by simp [zipD] at e
  | _ :: _, [], i, p, e => by simp [zipD] at e
  | x :: xs, y :: ys, 0, p, e => by
    simp [zipD] at e
    rw [← e]
    exact ⟨rfl, rfl⟩
  | x :: xs, y :: ys, i + 1, p, e => by
    have e : (zipD xs ys)[i]? = some p := by simpa [zipD] using e
    simpa using zipD_get e
theorem zipD_len : ∀ {xs ys : List D}, (zipD xs ys).length = min xs.length ys.length
  | [], _ => by simp [zipD]
  | _ :: _, [] => by simp [zipD]
  | x :: xs, y :: ys => by simp [zipD, zipD_len]
theorem pair_new {p : Addr} {x y : V} {d e : D} (R : RS K w cA α s H) (hp : H p = none) (r1 : Rp K w α s H d x) (r2 : Rp K w α s H e y) : Go α s H α s (upd H p (.tup [x, y])) ∧ RS K w cA α s (upd H p (.tup [x, y])) ∧ RpZ K w α s (upd H p (.tup [x, y])) true (pairD (d, e)) (.ref p) := by
  have G : Go α s H α s (upd H p (.tup [x, y])) := Go.newO R hp
  exact ⟨G, RS.newO R hp, .inr ⟨rfl, p, [x, y], [d, e], rfl, rfl, .inl (.inl upd_same), .cons (G.rp _ _ r1) (.cons (G.rp _ _ r2) .nil)⟩⟩
theorem walk_Z {a b : Addr} {xs ys : List V} {is js : List D} (h1 : HeldL K w a xs is α s H) (h2 : HeldL K w b ys js α s H) : Walk K w cA true (Itz K a b) ((zipD is js).map pairD) α s H where
  turn := fun i d α' s' H' g R e => by
    rw [List.getElem?_map] at e
    obtain ⟨p, ep, rfl⟩ := Option.map_eq_some_iff.mp e
    obtain ⟨e1, e2⟩ := zipD_get ep
    obtain ⟨q1, q2⟩ := h1 α' s' H' g
    obtain ⟨q3, q4⟩ := h2 α' s' H' g
    obtain ⟨x, ex, rx⟩ := q2.get e1
    obtain ⟨y, ey, ry⟩ := q4.get e2
    refine ⟨⟨xs, ys, x, y, q1, q3, ex, ey⟩, fun v H2 ⟨T, x', y', ev, hT, eH, hx, hy⟩ => ?_⟩
    have z1 := hx xs q1
    have z2 := hy ys q3
    rw [ex] at z1
    rw [ey] at z2
    cases z1
    cases z2
    subst ev eH
    exact pair_new R hT rx ry
  stop := fun α' s' H' g R => by
    obtain ⟨q1, q2⟩ := h1 α' s' H' g
    obtain ⟨q3, q4⟩ := h2 α' s' H' g
    refine ⟨xs, ys, q1, q3, ?_⟩
    rw [List.length_map, zipD_len, ← q2.length, ← q4.length]
    omega
theorem walk_ZT {a b : Addr} {xs ys : List V} {is js : List D} (h1 : HeldT K w a xs is α s H) (h2 : HeldT K w b ys js α s H) : Walk K w cA true (RZ.ItzT K a b) ((zipD is js).map pairD) α s H where
  turn := fun i d α' s' H' g R e => by
    rw [List.getElem?_map] at e
    obtain ⟨p, ep, rfl⟩ := Option.map_eq_some_iff.mp e
    obtain ⟨e1, e2⟩ := zipD_get ep
    obtain ⟨q1, q2⟩ := h1 α' s' H' g
    obtain ⟨q3, q4⟩ := h2 α' s' H' g
    obtain ⟨x, ex, rx⟩ := q2.get e1
    obtain ⟨y, ey, ry⟩ := q4.get e2
    refine ⟨⟨xs, ys, x, y, q1, q3, ex, ey⟩, fun v H2 ⟨T, x', y', ev, hT, eH, hx, hy⟩ => ?_⟩
    have z1 := hx xs q1
    have z2 := hy ys q3
    rw [ex] at z1
    rw [ey] at z2
    cases z1
    cases z2
    subst ev eH
    exact pair_new R hT rx ry
  stop := fun α' s' H' g R => by
    obtain ⟨q1, q2⟩ := h1 α' s' H' g
    obtain ⟨q3, q4⟩ := h2 α' s' H' g
    refine ⟨xs, ys, q1, q3, ?_⟩
    rw [List.length_map, zipD_len, ← q2.length, ← q4.length]
    omega
end

/-! ### what is walked -/
theorem walk1 {s : Sto} {xs : List D} {r : List D × Sto × List Nat} (e : walkD 1 xs s = some r) : ∃ n, xs = [.int n] ∧ n ≤ 1000000 ∧ -1000000 ≤ n ∧ r = (rangeD 0 n.toNat, s, []) := by
  match xs, e with
  | [.int n], e =>
    have e : (if decide (n ≤ 1000000) && decide (-1000000 ≤ n) then some (rangeD 0 n.toNat, s, []) else Option.none) = some r := e
    split at e
    · rename_i h
      rw [Bool.and_eq_true, decide_eq_true_eq, decide_eq_true_eq] at h
      exact ⟨n, rfl, h.1, h.2, (Option.some.inj e).symm⟩
    · cases e
theorem walk2 {s : Sto} {xs : List D} {r : List D × Sto × List Nat} (e : walkD 2 xs s = some r) : ∃ a b, xs = [.int a, .int b] ∧ -1000000 ≤ a ∧ a ≤ 1000000 ∧ -1000000 ≤ b ∧ b ≤ 1000000 ∧ r = (rangeD a (b - a).toNat, s, []) := by
  match xs, e with
  | [.int a, .int b], e =>
    have e : (if decide (-1000000 ≤ a) && decide (a ≤ 1000000) && decide (-1000000 ≤ b) && decide (b ≤ 1000000) then some (rangeD a (b - a).toNat, s, []) else Option.none) = some r := e
    split at e
    · rename_i h
      simp only [Bool.and_eq_true, decide_eq_true_eq] at h
      exact ⟨a, b, rfl, h.1.1.1, h.1.1.2, h.1.2, h.2, (Option.some.inj e).symm⟩
    · cases e
theorem walk3 {s : Sto} {xs : List D} {r : List D × Sto × List Nat} (e : walkD 3 xs s = some r) : ∃ a b is js s1 u1 u2, xs = [a, b] ∧ lockD a s = some (is, s1, u1) ∧ lockD b s1 = some (js, r.2.1, u2) ∧ (kindD s a).isSome = true ∧ kindD s a = kindD s1 b ∧ r = ((zipD is js).map pairD, r.2.1, u2 ++ u1) := by
  match xs, e with
  | [a, b], e =>
    have e : (match lockD a s with
      | some (xs, s1, u1) => match lockD b s1 with
        | some (ys, s2, u2) => if (kindD s a).isSome && kindD s a == kindD s1 b then some ((zipD xs ys).map pairD, s2, u2 ++ u1) else Option.none
        | Option.none => Option.none
      | Option.none => Option.none) = some r := e
    split at e
    · rename_i h1
      split at e
      · rename_i h2
        split at e
        · rename_i hk
          rw [Bool.and_eq_true, beq_iff_eq] at hk
          cases e
          exact ⟨a, b, _, _, _, _, _, rfl, h1, h2, hk.1, hk.2, rfl⟩
        · cases e
      · cases e
    · cases e
/-- how a loop walks what f gives -/
def iWalk (K : PySem.W.Frag) (w : World) (cA : Nat → Addr) (k : Nat) (f : Rho → Sto → Res (List D)) : TI := fun σ H R => ∃ α s ρ xs s1 its s2 u, RS K w cA α s H ∧ REnv K w α s H ρ σ ∧ f ρ s = some (xs, s1) ∧ walkD k xs s1 = some (its, s2, u) ∧
  ∀ α1 H1 J, Go α s H α1 s1 H1 → RS K w cA α1 s1 H1 → RS K w cA α1 s2 H1 → Go α1 s1 H1 α1 s2 H1 → Free K w cA α1 s1 H1 s2 u → Walk K w cA (k == 3) J its α1 s2 H1 → R J H1
section
variable {X : Cx} {cA : Nat → Addr} {tg e a b : Expr} {f : Rho → Sto → Res D} {p pos : Pos}
/-- a value itself -/
theorem pi_own (he : PE X e (tE X.K X.w cA f)) : PI X tg e (iWalk X.K X.w cA 0 fun ρ s => bnd (f ρ s) fun x s1 => bnd (some ([], s1)) fun xs s2 => some (x :: xs, s2)) := by
  refine ⟨fun pins st σ H R I h => ?_⟩
  obtain ⟨α, s, ρ, xs, s1, its, s2, u, RR, E, e1, e2, P⟩ := h
  obtain ⟨d, s3, e3, e4⟩ := bnd_some e1
  cases e4
  refine thn (he.run pins st σ H _ I ⟨α, s, ρ, d, s1, RR, E, e3, fun α' H' v G R' r => (⟨α', G, R', r⟩ : ∃ α', Go α s H α' s1 H' ∧ RS X.K X.w cA α' s1 H' ∧ Rp X.K X.w α' s1 H' d v)⟩) fun v st1 ⟨x, H1, I1, r1, α1, G1, R1, r⟩ => ?_
  have e2 : lockD d s1 = some (its, s2, u) := e2
  obtain ⟨p, rfl, R2, G2, fr, kd⟩ := lock_ok e2 R1 r
  cases r1
  rcases kd with ⟨_, vs, hh⟩ | ⟨_, vs, hh⟩ | ⟨_, es, ep, vs, hh⟩
  · obtain ⟨q1, q2⟩ := hh α1 s2 H1 .refl
    obtain ⟨as, rv, pp, hz⟩ := I1.list q1
    exact wpAny_pyIter_list pp.isList (pi_one (tk := st1.toks) I1 _ (turn_list p _) ⟨_, Heap.get?_push_size _ rfl, rfl, rfl⟩ (P α1 H1 _ G1 R1 R2 G2 fr (walk_L hh)))
  · obtain ⟨q1, q2⟩ := hh α1 s2 H1 .refl
    obtain ⟨as, rv, pp, hz⟩ := I1.tuple q1
    exact wpAny_pyIter_tuple (show st1.heap.IsTuple p as.toArray from pp) (pi_one (tk := st1.toks) I1 _ (turn_tuple p _) ⟨_, Heap.get?_push_size _ rfl, rfl, rfl⟩ (P α1 H1 _ G1 R1 R2 G2 fr (walk_T hh)))
  · obtain ⟨q1, q2⟩ := hh.2.2 α1 s2 H1 .refl
    exact wpAny_pyIter_dict_raw hh.1 (raw_at I1 q1) (pi_one (tk := st1.toks) I1 _ (turn_raw _) ⟨_, Heap.get?_push_size _ rfl, rfl, rfl⟩ (P α1 H1 _ G1 R1 R2 G2 fr (walk_K hh)))
theorem pi_rng1 {f : Rho → Sto → Res (List D)} (hg : L2.Gl X "range") (hm : X.mg "range" = none) (ha : PA X [a] (tL X.K X.w cA f)) (hs : starEach [a] X.env = [(false, eval a X.env)]) : PI X tg (.Call (.Name "range" p) [a] [] pos) (iWalk X.K X.w cA 1 f) := by
  refine ⟨fun pins st σ H R I h => (pi_range1 hg hm ha hs).run pins st σ H R I ?_⟩
  obtain ⟨α, s, ρ, xs, s1, its, s2, u, RR, E, e1, e2, P⟩ := h
  refine ⟨α, s, ρ, xs, s1, RR, E, e1, fun α1 H1 vs G1 R1 r => ?_⟩
  obtain ⟨n, rfl, h1, h2, er⟩ := walk1 e2
  cases er
  cases r with
  | cons r rr =>
    cases rr
    cases r
    exact ⟨n, rfl, by omega, by omega, P α1 H1 _ G1 R1 R1 .refl free_nil walk_R⟩
theorem pi_rng2 {f : Rho → Sto → Res (List D)} (hg : L2.Gl X "range") (hm : X.mg "range" = none) (ha : PA X [a, b] (tL X.K X.w cA f)) (hs : starEach [a, b] X.env = [(false, eval a X.env), (false, eval b X.env)]) (hs2 : starEach [b] X.env = [(false, eval b X.env)]) : PI X tg (.Call (.Name "range" p) [a, b] [] pos) (iWalk X.K X.w cA 2 f) := by
  refine ⟨fun pins st σ H R I h => (pi_range2 hg hm ha hs hs2).run pins st σ H R I ?_⟩
  obtain ⟨α, s, ρ, xs, s1, its, s2, u, RR, E, e1, e2, P⟩ := h
  refine ⟨α, s, ρ, xs, s1, RR, E, e1, fun α1 H1 vs G1 R1 r => ?_⟩
  obtain ⟨i, j, rfl, h1, h2, h3, h4, er⟩ := walk2 e2
  cases er
  cases r with
  | cons r rr =>
    cases rr with
    | cons r' rr =>
      cases rr
      cases r
      cases r'
      exact ⟨i, j, rfl, ⟨by omega, by omega, by omega, by omega⟩, P α1 H1 _ G1 R1 R1 .refl free_nil walk_R⟩
theorem pi_zipD {f : Rho → Sto → Res (List D)} {elts : List Expr} {kk : Nat} {tpos : Pos} (hg : L2.Gl X "zip") (hm : X.mg "zip" = none) (ha : PA X [a, b] (tL X.K X.w cA f))
    (hs : starEach [a, b] X.env = (false, eval a X.env) :: starEach [b] X.env) (hpl : (backTo pos (starEach [b] X.env)).any (·.1) = false) : PI X (.Tuple elts kk tpos) (.Call (.Name "zip" p) [a, b] [] pos) (iWalk X.K X.w cA 3 f) := by
  refine ⟨fun pins st σ H R I h => (RZ.pi_zipA hg hm ha hs hpl).run pins st σ H R I ?_⟩
  obtain ⟨α, s, ρ, xs, s1, its, s2, u, RR, E, e1, e2, P⟩ := h
  refine ⟨α, s, ρ, xs, s1, RR, E, e1, fun α1 H1 vs G1 R1 r => ?_⟩
  obtain ⟨da, db, xs', ys', s3, u1, u2, rfl, l1, l2, k1, k2, er⟩ := walk3 e2
  cases er
  cases r with
  | cons r rr =>
    cases rr with
    | cons r' rr =>
      cases rr
      obtain ⟨p1, rfl, R2, G2, F2, kd⟩ := lock_ok l1 R1 r
      obtain ⟨p2, rfl, R3, G3, F3, kd2⟩ := lock_ok l2 R2 (G2.rp _ _ r')
      have FF := free_trans G2 F2 F3
      rcases kd with ⟨z1, v1, h1⟩ | ⟨z1, v1, h1⟩ | ⟨z1, _⟩
      · rcases kd2 with ⟨z2, v2, h2⟩ | ⟨z2, _⟩ | ⟨z2, _⟩
        · have h1' : HeldL X.K X.w p1 v1 xs' α1 s2 H1 := fun α' s' H' g => h1 α' s' H' (G3.h.l.trans g)
          exact ⟨p1, p2, v1, v2, rfl, .inl ⟨(h1' _ _ _ .refl).1, (h2 _ _ _ .refl).1, P α1 H1 _ G1 R1 R3 (G2.trans G3) FF (walk_Z h1' h2)⟩⟩
        · rw [z1, z2] at k2; cases k2
        · rw [z1, z2] at k2; cases k2
      · rcases kd2 with ⟨z2, _⟩ | ⟨z2, v2, h2⟩ | ⟨z2, _⟩
        · rw [z1, z2] at k2; cases k2
        · have h1' : HeldT X.K X.w p1 v1 xs' α1 s2 H1 := fun α' s' H' g => h1 α' s' H' (G3.h.l.trans g)
          exact ⟨p1, p2, v1, v2, rfl, .inr ⟨(h1' _ _ _ .refl).1, (h2 _ _ _ .refl).1, P α1 H1 _ G1 R1 R3 (G2.trans G3) FF (walk_ZT h1' h2)⟩⟩
        · rw [z1, z2] at k2; cases k2
      · rw [z1] at k1; cases k1
end
end DL
end

section
set_option Elab.async false
set_option linter.all false
set_option maxRecDepth 100000
set_option maxHeartbeats 4000000
/-! DL, part t: targets, list comprehensions. -/
namespace DL
open PySem PySem.Spec PyProof.Rows L2 PySem.W

mutual
def Tg.nm : Tg → List Nat
  | .name i => [i]
  | .tup ts => Tg.nms ts
def Tg.nms : List Tg → List Nat
  | [] => []
  | t :: ts => t.nm ++ Tg.nms ts
end
section
variable (K : PySem.W.Frag) (w : World)
def gT (z : Bool) (t : Tg) : TG := fun v σ H Q => ∃ α s ρ d ρ', REnv K w α s H ρ σ ∧ RpZ K w α s H z d v ∧ tgD t d ρ = some ρ' ∧
  ∀ σ', REnv K w α s H ρ' σ' → (∀ own, (∀ i ∈ t.nm, i ∈ own) → wipe σ' own = wipe σ own) → Q σ' H
def gTs (ts : List Tg) : TGs := fun vs σ H Q => ∃ α s ρ ds ρ', REnv K w α s H ρ σ ∧ RpL K w α s H ds vs ∧ tgsD ts ds ρ = some ρ' ∧
  ∀ σ', REnv K w α s H ρ' σ' → (∀ own, (∀ i ∈ Tg.nms ts, i ∈ own) → wipe σ' own = wipe σ own) → Q σ' H
end
section
variable {K : PySem.W.Frag} {w : World} {α : Al} {s : Sto} {H : Hp} {ρ : Rho} {σ : L2.St}
theorem REnv.set (E : REnv K w α s H ρ σ) {i : Nat} {d : D} {v : V} (r : Rp K w α s H d v) : REnv K w α s H (ρ.set i (some d)) (σ.set i (some v)) := by
  refine ⟨by rw [List.length_set, List.length_set, E.1], fun j e h => ?_⟩
  by_cases hj : i = j
  · subst hj
    by_cases hl : i < ρ.length
    · rw [List.getElem?_set_self hl] at h
      cases h
      exact ⟨v, by rw [List.getElem?_set_self (by rw [← E.1]; exact hl)], r⟩
    · rw [List.getElem?_eq_none (by rw [List.length_set]; omega)] at h
      cases h
  · rw [List.getElem?_set_ne hj] at h
    rw [List.getElem?_set_ne hj]
    exact E.2 j e h
theorem REnv.wipe (E : REnv K w α s H ρ σ) : ∀ vs : List Nat, REnv K w α s H (wipeD ρ vs) (L2.wipe σ vs)
  | [] => E
  | v :: vs => by
    have ih := REnv.wipe E vs
    refine ⟨by show ((wipeD ρ vs).set v Option.none).length = ((L2.wipe σ vs).set v Option.none).length; rw [List.length_set, List.length_set, ih.1], fun j e h => ?_⟩
    have h : ((wipeD ρ vs).set v Option.none)[j]? = some (some e) := h
    show ∃ x, ((L2.wipe σ vs).set v Option.none)[j]? = some (some x) ∧ _
    by_cases hj : v = j
    · subst hj
      by_cases hl : v < (wipeD ρ vs).length
      · rw [List.getElem?_set_self hl] at h; cases h
      · rw [List.getElem?_eq_none (by rw [List.length_set]; omega)] at h; cases h
    · rw [List.getElem?_set_ne hj] at h
      rw [List.getElem?_set_ne hj]
      exact ih.2 j e h
theorem wipe_in {i : Nat} {x : Option V} : ∀ {vs : List Nat} {σ : L2.St}, i ∈ vs → L2.wipe (σ.set i x) vs = L2.wipe σ vs
  | [], σ, h => absurd h (by simp)
  | v :: vs, σ, h => by
    show (L2.wipe (σ.set i x) vs).set v none = (L2.wipe σ vs).set v none
    by_cases hm : i ∈ vs
    · rw [wipe_in hm]
    · have hv : i = v := by
        rcases List.mem_cons.mp h with h | h
        · exact h
        · exact absurd h hm
      subst hv
      have : ∀ (vs : List Nat), i ∉ vs → (L2.wipe (σ.set i x) vs).set i none = (L2.wipe σ vs).set i none := by
        intro vs
        induction vs with
        | nil => intro _; show (σ.set i x).set i none = σ.set i none; rw [List.set_set]
        | cons u us ih =>
          intro hn
          have h1 : u ≠ i := fun e => hn (by rw [e]; exact List.mem_cons_self)
          show ((L2.wipe (σ.set i x) us).set u none).set i none = ((L2.wipe σ us).set u none).set i none
          rw [List.set_comm _ _ h1, ih (fun m => hn (List.mem_cons_of_mem _ m)), List.set_comm _ _ h1]
      exact this vs hm
end
section
variable {X : Cx} {pos : Pos}
theorem pg_nameT {i : Nat} {x : Str} (hN : X.N.Nodup) (hi : X.N[i]? = some x) (hx : Loc X.env.scope x) (hf : X.fn x = true ∨ X.env.scope.names.lookup x = some .local) : PG X (.Name x pos) (gT X.K X.w false (.name i)) :=
  ⟨fun pins s σ H v u Q I r h => (pg_name hN hi hx hf).run pins s σ H v u Q I r (by
    obtain ⟨α, st, ρ, d, ρ', E, rz, e, P⟩ := h
    rcases rz with rz | ⟨z, _⟩
    · have e : (if i < ρ.length then some (ρ.set i (some d)) else Option.none) = some ρ' := e
      split at e
      · cases e
        exact P _ (E.set rz) fun own ho => wipe_in (ho i (by simp [Tg.nm]))
      · cases e
    · cases z)⟩
theorem gT_tup {z : Bool} {ts : List Tg} {v : V} {σ : L2.St} {H : Hp} {Q : L2.St → Hp → Prop} (h : gT X.K X.w z (.tup ts) v σ H Q) : ∃ a xs, v = .ref a ∧ SqT X.K H a xs ∧ xs.length = ts.length ∧ gTs X.K X.w ts xs σ H Q := by
  obtain ⟨α, st, ρ, d, ρ', E, rz, e, P⟩ := h
  have len : ∀ {ts : List Tg} {ds : List D} {ρ ρ' : Rho}, tgsD ts ds ρ = some ρ' → ds.length = ts.length := by
    intro ts
    induction ts with
    | nil => intro ds ρ ρ' e; cases ds with
      | nil => rfl
      | cons _ _ => cases e
    | cons t ts ih =>
      intro ds ρ ρ' e
      cases ds with
      | nil => cases e
      | cons d ds =>
        dsimp only [tgsD] at e
        split at e
        · simp [ih e]
        · cases e
  have go : ∀ {ds : List D} {a : Addr} {xs : List V}, d = .tup ds → v = .ref a → SqT X.K H a xs → RpL X.K X.w α st H ds xs → ∃ a xs, v = .ref a ∧ SqT X.K H a xs ∧ xs.length = ts.length ∧ gTs X.K X.w ts xs σ H Q := fun {ds a xs} e1 e2 q r => by
    subst e1
    have e : tgsD ts ds ρ = some ρ' := e
    exact ⟨a, xs, e2, q, by rw [← r.length]; exact len e, α, st, ρ, ds, ρ', E, r, e, P⟩
  rcases rz with rz | ⟨_, a, xs, ds, e1, e2, q, r⟩
  · cases d with
    | tup ds =>
      cases rz with
      | tup h1 h2 => exact go rfl rfl h1.t h2
    | _ => cases e
  · exact go e1 e2 q r
theorem pg_tupT {es : List Expr} {k : Nat} {ts : List Tg} {z : Bool} (hc : X.calm = true) (h : PGs X es (gTs X.K X.w ts)) (hn : (assignEach es X.env).length = ts.length) (hst : (assignEach es X.env).findIdx? (·.1) = none) : PG X (.Tuple es k pos) (gT X.K X.w z (.tup ts)) :=
  ⟨fun pins s σ H v u Q I r hq => (pg_tup hc h hn hst).run pins s σ H v u Q I r (gT_tup hq)⟩
theorem pgs_nilT : PGs X [] (gTs X.K X.w []) := ⟨fun pins s σ H v u Q I r hq => pgs_nil.run pins s σ H v u Q I r (by
  obtain ⟨α, st, ρ, ds, ρ', E, rl, e, P⟩ := hq
  cases rl with
  | nil =>
    cases e
    exact ⟨rfl, P σ E fun _ _ => rfl⟩
  | cons _ _ => cases e)⟩
theorem pgs_consT {e : Expr} {es : List Expr} {t : Tg} {ts : List Tg} (h1 : PG X e (gT X.K X.w false t)) (h2 : PGs X es (gTs X.K X.w ts)) (hs : (assignEach (e :: es) X.env).map (·.2) = assign e X.env :: (assignEach es X.env).map (·.2)) : PGs X (e :: es) (gTs X.K X.w (t :: ts)) :=
  ⟨fun pins s σ H v u Q I r hq => (pgs_cons h1 h2 hs).run pins s σ H v u Q I r (by
    obtain ⟨α, st, ρ, ds, ρ', E, rl, e, P⟩ := hq
    cases rl with
    | nil => cases e
    | @cons d v ds vs r1 r2 =>
      dsimp only [tgsD] at e
      split at e
      · rename_i ρ1 e1
        refine ⟨v, vs, rfl, α, st, ρ, d, ρ1, E, .inl r1, e1, fun σ1 E1 w1 => ⟨α, st, ρ1, ds, ρ', E1, r2, e, fun σ2 E2 w2 => P σ2 E2 fun own ho => ?_⟩⟩
        have hm : ∀ i ∈ t.nm ++ Tg.nms ts, i ∈ own := ho
        rw [w2 own fun i hi => hm i (List.mem_append_right _ hi), w1 own fun i hi => hm i (List.mem_append_left _ hi)]
      · cases e)⟩
end

/-! ### list comprehensions -/
theorem line_lt {n : Nat} (h : lineOk n = true) : n < sizeLine := Nat.lt_of_le_of_lt (line_le h) (by decide)
/-- tests, and what they ask -/
def tTs (K : PySem.W.Frag) (w : World) (cA : Nat → Addr) (f : Rho → Sto → Res D) : TT := tT K w cA f
section
variable {K : PySem.W.Frag} {w : World} {cA : Nat → Addr}
theorem lcGo_cons {f : D → Sto → Res (Option D)} {x : D} {r : List D} {s : Sto} {acc : List D} : lcGo f (x :: r) s acc = (match f x s with
    | some (some y, s') => if lineOk acc.length then lcGo f r s' (acc ++ [y]) else Option.none
    | some (Option.none, s') => lcGo f r s' acc
    | Option.none => Option.none) := rfl
/-- what a turn's body is -/
def lcBody (tg : Tg) (ρ : Rho) (own : List Nat) (fc fe : Rho → Sto → Res D) : D → Sto → Res (Option D) := fun x s' => match tgD tg x (wipeD ρ own) with
  | some ρ' => bnd (fc ρ' s') fun b s3 => match b with
    | .bool true => bnd (fe ρ' s3) fun y s4 => some (some y, s4)
    | .bool false => some (Option.none, s3)
    | _ => Option.none
  | Option.none => Option.none
/-- where a comprehension stands behind i turns -/
def LcW (K : PySem.W.Frag) (w : World) (cA : Nat → Addr) (B : Al → Sto → Hp → Prop) (D : Addr) (body : DL.D → Sto → Res (Option DL.D)) (its ys : List DL.D) (s5 : Sto) (i : Nat) (H : Hp) : Prop := ∃ α s acc vs, i ≤ its.length ∧ RS K w cA α s H ∧ B α s H ∧ D ∈ α.g ∧ H D = some (.lst vs) ∧ RpL K w α s H acc vs ∧ lcGo body (its.drop i) s acc = some (ys, s5)
/-- turn by turn. B: what is known of each state; it bears what steps do and that the list at D grows -/
theorem lc_turn {B : Al → Sto → Hp → Prop} {Dd : Addr} {z : Bool} {J : It} {its ys : List D} {α0 : Al} {s0 s5 : Sto} {H0 : Hp} {tg : Tg} {ρ : Rho} {σ : L2.St} {own : List Nat} {fc fe : Rho → Sto → Res D} {i m : Nat} {H : Hp} {Stop : Hp → Prop}
    (WK : Walk K w cA z J its α0 s0 H0) (b0 : ∀ α s H, B α s H → Gj α0 s0 H0 α s H) (b1 : ∀ α s H α' s' H', B α s H → RS K w cA α s H → Go α s H α' s' H' → B α' s' H') (b2 : ∀ α s H vs vs', B α s H → RS K w cA α s H → Dd ∈ α.g → H Dd = some (.lst vs) → B α s (upd H Dd (.lst vs')))
    (bE : ∀ α s H, B α s H → REnv K w α s H ρ σ) (hown : ∀ i ∈ tg.nm, i ∈ own)
    (hstop : ∀ H, LcW K w cA B Dd (lcBody tg ρ own fc fe) its ys s5 its.length H → Stop H)
    (hm : m = its.length - i) (W : LcW K w cA B Dd (lcBody tg ρ own fc fe) its ys s5 i H) :
    (J.stop i H ∧ Stop H) ∨ (J.go i H ∧ ∃ Nx : Hp → Prop, (∀ H', Nx H' → ∃ m', m' < m ∧ (m' = its.length - (i + 1) ∧ LcW K w cA B Dd (lcBody tg ρ own fc fe) its ys s5 (i + 1) H')) ∧ ∀ x H', J.yld i H x H' → gT K w z tg x (wipe σ own) H' fun σ2 H2 => wipe σ2 own = wipe σ own ∧ tT K w cA fc σ2 H2 fun b H3 =>
      if b = true then tE K w cA fe σ2 H3 fun y H4 => ∃ acc, H4 Dd = some (.lst acc) ∧ acc.length < sizeLine ∧ Nx (upd H4 Dd (.lst (acc ++ [y]))) else Nx H3) := by
  obtain ⟨α, s, acc, vs, hi, R, b, dg, hD, rl, e⟩ := id W
  by_cases hlt : i < its.length
  · have hx : its[i]? = some its[i] := List.getElem?_eq_getElem hlt
    obtain ⟨go, yl⟩ := WK.turn i its[i] α s H (b0 _ _ _ b) R hx
    refine .inr ⟨go, fun H' => LcW K w cA B Dd (lcBody tg ρ own fc fe) its ys s5 (i + 1) H', fun H' n => ⟨its.length - (i + 1), by omega, rfl, n⟩, fun x H' y => ?_⟩
    obtain ⟨G1, R1, rz⟩ := yl x H' y
    rw [List.drop_eq_getElem_cons hlt, lcGo_cons] at e
    cases hb : lcBody tg ρ own fc fe its[i] s with
    | none => rw [hb] at e; cases e
    | some res =>
      obtain ⟨oy, s4⟩ := res
      rw [hb] at e
      unfold lcBody at hb
      split at hb
      · rename_i ρ' ht
        obtain ⟨t, s3, e3, e4⟩ := bnd_some hb
        refine ⟨α, s, wipeD ρ own, its[i], ρ', (G1.env (bE _ _ _ b)).wipe own, rz, ht, fun σ2 E2 w2 => ⟨?_, ?_⟩⟩
        · rw [w2 own hown]
          have idem : ∀ (vs us : List Nat) (σ : L2.St), (∀ v ∈ vs, v ∈ us) → wipe (wipe σ vs) us = wipe σ us := by
            intro vs
            induction vs with
            | nil => intro us σ _; rfl
            | cons v vs ih =>
              intro us σ h
              show wipe ((wipe σ vs).set v none) us = _
              rw [wipe_in (h v List.mem_cons_self), ih us σ fun u hu => h u (List.mem_cons_of_mem _ hu)]
          exact idem own own σ fun _ h => h
        · have b' := b1 _ _ _ _ _ _ b R G1
          have hD1 : H' Dd = some (.lst vs) := by rw [(G1.h.sub Dd dg).2]; exact hD
          have rl1 := G1.rpL _ _ rl
          cases t with
          | bool bb =>
            refine ⟨α, s, ρ', bb, s3, R1, E2, e3, fun α3 H3 G3 R3 => ?_⟩
            have b3 := b1 _ _ _ _ _ _ b' R1 G3
            have dg3 : Dd ∈ α3.g := by rw [G3.g]; exact dg
            have hD3 : H3 Dd = some (.lst vs) := by rw [(G3.h.sub Dd dg).2]; exact hD1
            cases bb with
            | true =>
              obtain ⟨yv, s4', e5, e6⟩ := bnd_some e4
              cases e6
              simp only [if_true]
              refine ⟨α3, s3, ρ', yv, s4, R3, G3.env E2, e5, fun α4 H4 v G4 R4 r4 => ?_⟩
              have dg4 : Dd ∈ α4.g := by rw [G4.g]; exact dg3
              have hD4 : H4 Dd = some (.lst vs) := by rw [(G4.h.sub Dd dg3).2]; exact hD3
              have nt : ∀ o xs, H4 Dd ≠ some (.frz o (.tup xs)) := fun o xs q => by rw [hD4] at q; cases q
              have b4 := b1 _ _ _ _ _ _ b3 R3 G4
              have e : (if lineOk acc.length then lcGo (lcBody tg ρ own fc fe) (its.drop (i + 1)) s4 (acc ++ [yv]) else Option.none) = some (ys, s5) := e
              split at e
              · rename_i hl
                have gw := Gw.wrH (o := .lst (vs ++ [v])) R4 dg4 nt
                refine ⟨vs, hD4, by rw [← rl.length]; exact line_lt hl, α4, s4, acc ++ [yv], vs ++ [v], hlt, RS.wrH R4 dg4 nt, b2 _ _ _ _ _ b4 R4 dg4 hD4, dg4, upd_same, ?_, e⟩
                exact gw.rpL _ _ ((G4.rpL _ _ (G3.rpL _ _ rl1)).append (.cons r4 .nil))
              · cases e
            | false =>
              cases e4
              simp only [Bool.false_eq_true, if_false]
              exact ⟨α3, _, acc, vs, hlt, R3, b3, dg3, hD3, G3.rpL _ _ rl1, e⟩
          | _ => cases e4
      · cases hb
  · have hie : i = its.length := by omega
    subst hie
    exact .inl ⟨WK.stop α s H (b0 _ _ _ b) R, hstop H W⟩
/-- what is asked of a comprehension's reading -/
def fLc (k : Nat) (fl : Rho → Sto → Res (List D)) (tg : Tg) (own : List Nat) (fc fe : Rho → Sto → Res D) (c : Bool) : Rho → Sto → Res D := fun ρ s => bnd (fl ρ s) fun xs s1 => bnd (lcAll k (lcBody tg ρ own fc fe) xs s1 []) fun ys s6 => some (laid c (.lst ys) s6)
theorem lcAll_some {k : Nat} {f : D → Sto → Res (Option D)} {xs acc ys : List D} {s1 s6 : Sto} (h : lcAll k f xs s1 acc = some (ys, s6)) : ∃ its s2 u s5, walkD k xs s1 = some (its, s2, u) ∧ lcGo f its s2 acc = some (ys, s5) ∧ unlock s5 u = some s6 := by
  unfold lcAll at h
  split at h
  · rename_i its s2 u hw
    obtain ⟨ys', s5, h1, h2⟩ := bnd_some h
    obtain ⟨s6', h3, h4⟩ := Option.map_eq_some_iff.mp h2
    cases h4
    exact ⟨its, s2, u, s5, hw, h1, h3⟩
  · cases h
theorem rd_lc {k : Nat} {fl : Rho → Sto → Res (List D)} {tg : Tg} {own : List Nat} {fc fe : Rho → Sto → Res D} {c : Bool} (hown : ∀ i ∈ tg.nm, i ∈ own) {σ : L2.St} {H : Hp} {Q : VK} (h : tE K w cA (fLc k fl tg own fc fe c) σ H Q) :
    tLc (iWalk K w cA k fl) (gT K w (k == 3) tg) (tT K w cA fc) (tE K w cA fe) own σ H Q := by
  obtain ⟨α, s, ρ, d, s', R, E, e, P⟩ := h
  obtain ⟨xs, s1, e1, e⟩ := bnd_some e
  obtain ⟨ys, s6, e2, e⟩ := bnd_some e
  obtain ⟨its, s2, u, s5, hw, hl, hu⟩ := lcAll_some e2
  have e : laid c (.lst ys) s6 = (d, s') := Option.some.inj e
  refine ⟨α, s, ρ, xs, s1, its, s2, u, R, E, e1, hw, fun α1 H1 J G1 R1 R2 G2 FR WK Dd hD => ?_⟩
  let B : Al → Sto → Hp → Prop := fun α' s' H' => Gj α1 s2 H1 α' s' H' ∧ Sb α1 H1 α' H' ∧ α'.g = Dd :: α1.g
  have nD : Dd ∉ α1.g := R1.freshG hD
  have b1 : ∀ α s H α' s' H', B α s H → RS K w cA α s H → Go α s H α' s' H' → B α' s' H' := fun α s H α' s' H' b R G => ⟨b.1.trans G.h.l, b.2.1.trans G.h.sub, G.g.trans b.2.2⟩
  have b2 : ∀ α s H vs vs', B α s H → RS K w cA α s H → Dd ∈ α.g → H Dd = some (.lst vs) → B α s (upd H Dd (.lst vs')) := fun α s H vs vs' b R dg hd => ⟨b.1.wrH R dg (fun o xs q => by rw [hd] at q; cases q), fun a ha => ⟨(b.2.1 a ha).1, by
    rw [upd_ne (by rintro rfl; exact nD ha)]
    exact (b.2.1 a ha).2⟩, b.2.2⟩
  have bE : ∀ α s H, B α s H → REnv K w α s H ρ σ := fun α s H b => b.1.w.env (G2.env (G1.env E))
  have h0 : Gh α1 s2 H1 (α1.hide Dd) s2 (upd H1 Dd (.lst [])) := Gh.hide R2 hD
  have W0 : LcW K w cA B Dd (lcBody tg ρ own fc fe) its ys s5 0 (upd H1 Dd (.lst [])) := ⟨α1.hide Dd, s2, [], [], Nat.zero_le _, RS.hide R2 hD, ⟨h0.l, h0.sub, rfl⟩, List.mem_cons_self, upd_same, .nil, hl⟩
  refine ⟨fun i m H => m = its.length - i ∧ LcW K w cA B Dd (lcBody tg ρ own fc fe) its ys s5 i H, ⟨its.length, by simp, W0⟩, fun i m H ⟨hm, W⟩ => ?_⟩
  refine lc_turn (Stop := fun H => Q (.ref Dd) H) WK (fun _ _ _ b => b.1) b1 b2 bE hown (fun H W => ?_) hm W
  obtain ⟨αc, sc, acc, vs, _, Rc, b, dg, hd, rl, el⟩ := W
  rw [List.drop_length] at el
  have el : some (acc, sc) = some (ys, s5) := el
  cases el
  obtain ⟨g6, R6, w6⟩ := FR αc _ H s6 b.1 Rc hu
  obtain ⟨α', G, R', r⟩ := made_lst (c := c) R1 hD R6 (g6.h b.2.1) b.2.2 hd (w6.rpL _ _ rl)
  rw [e] at G R' r
  exact P α' H _ (G1.trans G) R' r
end
section
variable {X : Cx} {cA : Nat → Addr}
/-- the context of a comprehension's block -/
theorem pe_lcD {elt tg iter : Expr} {ifs : List Expr} {scope : Scope} {own : List (Str × Nat)} {pos : Pos} {k : Nat} {fl : Rho → Sto → Res (List D)} {t : Tg} {fc fe : Rho → Sto → Res D} {c : Bool} (hc : X.calm = true) (hN : X.N.Nodup) (hi : PI X tg iter (iWalk X.K X.w cA k fl)) (ok : BlkOk X.N X.env.scope scope own)
    (hg : ∀ (s : Shared) (H : Hp) (C : Addr) (cl : List (Str × Addr)) (fp : List Addr), PG (X.blk s H scope (compEnvC scope cl C X.env) fp) tg (gT X.K X.w (k == 3) t)) (ht : ∀ (s : Shared) (H : Hp) (C : Addr) (cl : List (Str × Addr)) (fp : List Addr), PTs (X.blk s H scope (compEnvC scope cl C X.env) fp) ifs (tT X.K X.w cA fc))
    (he : ∀ (s : Shared) (H : Hp) (C : Addr) (cl : List (Str × Addr)) (fp : List Addr), PE (X.blk s H scope (compEnvC scope cl C X.env) fp) elt (tE X.K X.w cA fe)) (hs : ∀ x, foldedSetIterable iter X.env x = pure x) (hown : ∀ i ∈ t.nm, i ∈ own.map (·.2)) :
    PE X (.ListComp elt [⟨tg, iter, ifs, 0⟩] scope pos) (tE X.K X.w cA (fLc k fl t (own.map (·.2)) fc fe c)) :=
  PE.weak (pe_lc hc hN hi ok hg ht he hs) fun σ H Q h => rd_lc hown h
theorem pts_nilD : PTs X [] (tT X.K X.w cA fun _ s => some (.bool true, s)) := ⟨fun pins s σ H Q I h => pts_nil.run pins s σ H Q I (by
  obtain ⟨α, st, ρ, b, s', R, E, e, P⟩ := h
  cases e
  exact P α H .refl R)⟩
theorem pts_oneD {e : Expr} {f : Rho → Sto → Res D} (h : PT X e (tT X.K X.w cA f)) : PTs X [e] (tT X.K X.w cA fun ρ s => bnd (f ρ s) fun x s1 => match x with
    | .bool true => some (.bool true, s1)
    | .bool false => some (.bool false, s1)
    | _ => Option.none) := ⟨fun pins s σ H Q I hq => (pts_one h).run pins s σ H Q I (by
  obtain ⟨α, st, ρ, b, s', R, E, e, P⟩ := hq
  obtain ⟨x, s1, e1, e2⟩ := bnd_some e
  cases x with
  | bool k =>
    refine ⟨α, st, ρ, k, s1, R, E, e1, fun α1 H1 G1 R1 => ?_⟩
    cases k with
    | true => cases e2; exact P α1 H1 G1 R1
    | false => cases e2; exact P α1 H1 G1 R1
  | _ => cases e2)⟩
end
end DL
end

section
set_option Elab.async false
set_option linter.all false
set_option maxRecDepth 100000
set_option maxHeartbeats 4000000
/-! DL, part u: list comprehensions with two clauses. -/
namespace DL
open PySem PySem.Spec PyProof.Rows L2 PySem.W
section
variable {K : PySem.W.Frag} {w : World} {cA : Nat → Addr}
theorem lc2Go_cons {f : D → Sto → List D → Res (List D)} {x : D} {r : List D} {s : Sto} {acc : List D} : lc2Go f (x :: r) s acc = (match f x s acc with
    | some (acc', s') => lc2Go f r s' acc'
    | Option.none => Option.none) := rfl
theorem lc2All_some {k : Nat} {f : D → Sto → List D → Res (List D)} {xs ys : List D} {s1 s6 : Sto} (h : lc2All k f xs s1 = some (ys, s6)) : ∃ its s2 u s5, walkD k xs s1 = some (its, s2, u) ∧ lc2Go f its s2 [] = some (ys, s5) ∧ unlock s5 u = some s6 := by
  unfold lc2All at h
  split at h
  · rename_i its s2 u hw
    obtain ⟨ys', s5, h1, h2⟩ := bnd_some h
    obtain ⟨s6', h3, h4⟩ := Option.map_eq_some_iff.mp h2
    cases h4
    exact ⟨its, s2, u, s5, hw, h1, h3⟩
  · cases h
/-- the outer turn -/
def lc2Body (tg : Tg) (ρ : Rho) (own : List Nat) (fc : Rho → Sto → Res D) (k1 : Nat) (fl1 : Rho → Sto → Res (List D)) (tg1 : Tg) (own1 : List Nat) (fc1 fe : Rho → Sto → Res D) : D → Sto → List D → Res (List D) := fun x s' acc => match tgD tg x (wipeD ρ own) with
  | some ρ' => bnd (fc ρ' s') fun b t1 => match b with
    | .bool true => bnd (fl1 ρ' t1) fun xs1 s3 => lcAll k1 (lcBody tg1 ρ' own1 fc1 fe) xs1 s3 acc
    | .bool false => some (acc, t1)
    | _ => Option.none
  | Option.none => Option.none
def fLc2 (k : Nat) (fl : Rho → Sto → Res (List D)) (tg : Tg) (own : List Nat) (fc : Rho → Sto → Res D) (k1 : Nat) (fl1 : Rho → Sto → Res (List D)) (tg1 : Tg) (own1 : List Nat) (fc1 fe : Rho → Sto → Res D) (c : Bool) : Rho → Sto → Res D := fun ρ s =>
  bnd (fl ρ s) fun xs s1 => bnd (lc2All k (lc2Body tg ρ own fc k1 fl1 tg1 own1 fc1 fe) xs s1) fun ys s6 => some (laid c (.lst ys) s6)
theorem rd_lc2 {k k1 : Nat} {fl fl1 : Rho → Sto → Res (List D)} {tg tg1 : Tg} {own own1 : List Nat} {fc fc1 fe : Rho → Sto → Res D} {c : Bool} (hown : ∀ i ∈ tg.nm, i ∈ own) (hown1 : ∀ i ∈ tg1.nm, i ∈ own1) {σ : L2.St} {H : Hp} {Q : VK}
    (h : tE K w cA (fLc2 k fl tg own fc k1 fl1 tg1 own1 fc1 fe c) σ H Q) :
    tLc2 (iWalk K w cA k fl) (gT K w (k == 3) tg) (tT K w cA fc) (iWalk K w cA k1 fl1) (gT K w (k1 == 3) tg1) (tT K w cA fc1) (tE K w cA fe) own own1 σ H Q := by
  obtain ⟨α, s, ρ, d, s', R, E, e, P⟩ := h
  obtain ⟨xs, s1, e1, e⟩ := bnd_some e
  obtain ⟨ys, s6, e2, e⟩ := bnd_some e
  obtain ⟨its, s2, u, s5, hw, hl, hu⟩ := lc2All_some e2
  have e : laid c (.lst ys) s6 = (d, s') := Option.some.inj e
  refine ⟨α, s, ρ, xs, s1, its, s2, u, R, E, e1, hw, fun α1 H1 J G1 R1 R2 G2 FR WK Dd hD => ?_⟩
  let B : Al → Sto → Hp → Prop := fun α' s' H' => Gj α1 s2 H1 α' s' H' ∧ Sb α1 H1 α' H' ∧ α'.g = Dd :: α1.g
  have nD : Dd ∉ α1.g := R1.freshG hD
  have b1 : ∀ α s H α' s' H', B α s H → RS K w cA α s H → Go α s H α' s' H' → B α' s' H' := fun α s H α' s' H' b R G => ⟨b.1.trans G.h.l, b.2.1.trans G.h.sub, G.g.trans b.2.2⟩
  have b2 : ∀ α s H vs vs', B α s H → RS K w cA α s H → Dd ∈ α.g → H Dd = some (.lst vs) → B α s (upd H Dd (.lst vs')) := fun α s H vs vs' b R dg hd => ⟨b.1.wrH R dg (fun o xs q => by rw [hd] at q; cases q), fun a ha => ⟨(b.2.1 a ha).1, by
    rw [upd_ne (by rintro rfl; exact nD ha)]
    exact (b.2.1 a ha).2⟩, b.2.2⟩
  have bE : ∀ α s H, B α s H → REnv K w α s H ρ σ := fun α s H b => b.1.w.env (G2.env (G1.env E))
  have h0 : Gh α1 s2 H1 (α1.hide Dd) s2 (upd H1 Dd (.lst [])) := Gh.hide R2 hD
  let body := lc2Body tg ρ own fc k1 fl1 tg1 own1 fc1 fe
  let W : Nat → Hp → Prop := fun i H => ∃ α s acc vs, i ≤ its.length ∧ RS K w cA α s H ∧ B α s H ∧ Dd ∈ α.g ∧ H Dd = some (.lst vs) ∧ RpL K w α s H acc vs ∧ lc2Go body (its.drop i) s acc = some (ys, s5)
  have W0 : W 0 (upd H1 Dd (.lst [])) := ⟨α1.hide Dd, s2, [], [], Nat.zero_le _, RS.hide R2 hD, ⟨h0.l, h0.sub, rfl⟩, List.mem_cons_self, upd_same, .nil, hl⟩
  refine ⟨fun i m H => m = its.length - i ∧ W i H, ⟨its.length, by simp, W0⟩, fun i m H ⟨hm, WH⟩ => ?_⟩
  obtain ⟨α, s, acc, vs, hi, R, b, dg, hd, rl, el⟩ := id WH
  by_cases hlt : i < its.length
  · have hx : its[i]? = some its[i] := List.getElem?_eq_getElem hlt
    obtain ⟨go, yl⟩ := WK.turn i its[i] α s H b.1 R hx
    refine .inr ⟨go, fun H' => W (i + 1) H', fun H' n => ⟨its.length - (i + 1), by omega, rfl, n⟩, fun x H' y => ?_⟩
    obtain ⟨G1', R1', rz⟩ := yl x H' y
    rw [List.drop_eq_getElem_cons hlt, lc2Go_cons] at el
    cases hb : body its[i] s acc with
    | none => rw [hb] at el; cases el
    | some res =>
      obtain ⟨acc', s4⟩ := res
      rw [hb] at el
      have el : lc2Go body (its.drop (i + 1)) s4 acc' = some (ys, s5) := el
      have hb : lc2Body tg ρ own fc k1 fl1 tg1 own1 fc1 fe its[i] s acc = some (acc', s4) := hb
      unfold lc2Body at hb
      split at hb
      · rename_i ρ' htg
        obtain ⟨t, s3, e3, e4⟩ := bnd_some hb
        refine ⟨α, s, wipeD ρ own, its[i], ρ', (G1'.env (bE _ _ _ b)).wipe own, rz, htg, fun σ2 E2 w2 => ⟨?_, ?_⟩⟩
        · rw [w2 own hown]
          have idem : ∀ (vs us : List Nat) (σ : L2.St), (∀ v ∈ vs, v ∈ us) → wipe (wipe σ vs) us = wipe σ us := by
            intro vs
            induction vs with
            | nil => intro us σ _; rfl
            | cons v vs ih =>
              intro us σ h
              show wipe ((wipe σ vs).set v none) us = _
              rw [wipe_in (h v List.mem_cons_self), ih us σ fun u hu => h u (List.mem_cons_of_mem _ hu)]
          exact idem own own σ fun _ h => h
        · have b' := b1 _ _ _ _ _ _ b R G1'
          have hd1 : H' Dd = some (.lst vs) := by rw [(G1'.h.sub Dd dg).2]; exact hd
          cases t with
          | bool bb =>
            refine ⟨α, s, ρ', bb, s3, R1', E2, e3, fun α3 H3 G3 R3 => ?_⟩
            have b3 := b1 _ _ _ _ _ _ b' R1' G3
            have dg3 : Dd ∈ α3.g := by rw [G3.g]; exact dg
            have hd3 : H3 Dd = some (.lst vs) := by rw [(G3.h.sub Dd dg).2]; exact hd1
            have rl3 := G3.rpL _ _ (G1'.rpL _ _ rl)
            cases bb with
            | false =>
              cases e4
              simp only [Bool.false_eq_true, if_false]
              exact ⟨α3, _, _, vs, hlt, R3, b3, dg3, hd3, rl3, el⟩
            | true =>
              obtain ⟨xs1, t1, e5, e6⟩ := bnd_some e4
              obtain ⟨its1, t2, u1, t5, hw1, hl1, hu1⟩ := lcAll_some e6
              simp only [if_true]
              refine ⟨α3, s3, ρ', xs1, t1, its1, t2, u1, R3, G3.env E2, e5, hw1, fun α4 H4 J1 G4 R4 R4' G4' FR1 WK1 => ?_⟩
              have b4 := b1 _ _ _ _ _ _ b3 R3 G4
              have b4' := b1 _ _ _ _ _ _ b4 R4 G4'
              have dg4 : Dd ∈ α4.g := by rw [G4.g]; exact dg3
              have hd4 : H4 Dd = some (.lst vs) := by rw [(G4.h.sub Dd dg3).2]; exact hd3
              let B1 : Al → Sto → Hp → Prop := fun α' s' H' => B α' s' H' ∧ Gj α4 t2 H4 α' s' H'
              have W1 : LcW K w cA B1 Dd (lcBody tg1 ρ' own1 fc1 fe) its1 acc' t5 0 H4 := ⟨α4, t2, acc, vs, Nat.zero_le _, R4', ⟨b4', .refl⟩, dg4, hd4, G4'.rpL _ _ (G4.rpL _ _ rl3), hl1⟩
              refine ⟨fun j m H => m = its1.length - j ∧ LcW K w cA B1 Dd (lcBody tg1 ρ' own1 fc1 fe) its1 acc' t5 j H, ⟨its1.length, by simp, W1⟩, fun j m H ⟨hm, WH⟩ => ?_⟩
              refine lc_turn (Stop := W (i + 1)) WK1 (fun _ _ _ b => b.2) (fun α s H α' s' H' b R G => ⟨b1 _ _ _ _ _ _ b.1 R G, b.2.trans G.h.l⟩)
                (fun α s H vs vs' b R dg hd => ⟨b2 _ _ _ _ _ b.1 R dg hd, b.2.wrH R dg (fun o xs q => by rw [hd] at q; cases q)⟩)
                (fun α s H b => b.2.w.env (G4'.env (G4.env (G3.env E2)))) hown1 (fun H WE => ?_) hm WH
              obtain ⟨αc, sc, acc2, vs2, _, Rc, bc, dgc, hdc, rlc, elc⟩ := WE
              rw [List.drop_length] at elc
              have elc : some (acc2, sc) = some (acc', t5) := elc
              cases elc
              obtain ⟨g6, R6, w6⟩ := FR1 αc _ H s4 bc.2 Rc hu1
              exact ⟨αc, s4, _, vs2, hlt, R6, ⟨b4.1.trans g6, bc.1.2.1, bc.1.2.2⟩, dgc, hdc, w6.rpL _ _ rlc, el⟩
          | _ => cases e4
      · cases hb
  · have hie : i = its.length := by omega
    subst hie
    refine .inl ⟨WK.stop α s H b.1 R, ?_⟩
    rw [List.drop_length] at el
    have el : some (acc, s) = some (ys, s5) := el
    cases el
    obtain ⟨g6, R6, w6⟩ := FR α _ H s6 b.1 R hu
    obtain ⟨α', G, R', r⟩ := made_lst (c := c) R1 hD R6 (g6.h b.2.1) b.2.2 hd (w6.rpL _ _ rl)
    rw [e] at G R' r
    exact P α' H _ (G1.trans G) R' r
end
section
variable {X : Cx} {cA : Nat → Addr}
theorem pe_lc2D {elt tg iter tg1 iter1 : Expr} {ifs ifs1 : List Expr} {scope : Scope} {own : List (Str × Nat)} {own1 : List Nat} {pos : Pos} {k k1 : Nat} {fl fl1 : Rho → Sto → Res (List D)} {t t1 : Tg} {fc fc1 fe : Rho → Sto → Res D} {c : Bool} (hc : X.calm = true) (hN : X.N.Nodup) (hi : PI X tg iter (iWalk X.K X.w cA k fl)) (ok : BlkOk X.N X.env.scope scope own) (hv : ∀ i ∈ own1, i ∈ own.map (·.2))
    (hg : ∀ (s : Shared) (H : Hp) (C : Addr) (cl : List (Str × Addr)) (fp : List Addr), PG (X.blk s H scope (compEnvC scope cl C X.env) fp) tg (gT X.K X.w (k == 3) t)) (ht : ∀ (s : Shared) (H : Hp) (C : Addr) (cl : List (Str × Addr)) (fp : List Addr), PTs (X.blk s H scope (compEnvC scope cl C X.env) fp) ifs (tT X.K X.w cA fc))
    (hi1 : ∀ (s : Shared) (H : Hp) (C : Addr) (cl : List (Str × Addr)) (fp : List Addr), PI (X.blk s H scope (compEnvC scope cl C X.env) fp) tg1 iter1 (iWalk X.K X.w cA k1 fl1))
    (hg1 : ∀ (s : Shared) (H : Hp) (C : Addr) (cl : List (Str × Addr)) (fp : List Addr), PG (X.blk s H scope (compEnvC scope cl C X.env) fp) tg1 (gT X.K X.w (k1 == 3) t1)) (ht1 : ∀ (s : Shared) (H : Hp) (C : Addr) (cl : List (Str × Addr)) (fp : List Addr), PTs (X.blk s H scope (compEnvC scope cl C X.env) fp) ifs1 (tT X.K X.w cA fc1))
    (he : ∀ (s : Shared) (H : Hp) (C : Addr) (cl : List (Str × Addr)) (fp : List Addr), PE (X.blk s H scope (compEnvC scope cl C X.env) fp) elt (tE X.K X.w cA fe)) (hs : ∀ x, foldedSetIterable iter X.env x = pure x) (hs1 : ∀ env x, foldedSetIterable iter1 env x = pure x) (hown : ∀ i ∈ t.nm, i ∈ own.map (·.2)) (hown1 : ∀ i ∈ t1.nm, i ∈ own1) :
    PE X (.ListComp elt [⟨tg, iter, ifs, 0⟩, ⟨tg1, iter1, ifs1, 0⟩] scope pos) (tE X.K X.w cA (fLc2 k fl t (own.map (·.2)) fc k1 fl1 t1 own1 fc1 fe c)) :=
  PE.weak (pe_lc2 hc hN hi ok hv hg ht hi1 hg1 ht1 he hs hs1) fun σ H Q h => rd_lc2 hown hown1 h
end
end DL
end

section
set_option Elab.async false
set_option linter.all false
set_option maxRecDepth 100000
set_option maxHeartbeats 4000000
/-! DL, part v: statements. -/
namespace DL
open PySem PySem.Spec PyProof.Rows L2 PySem.W

section
variable (K : PySem.W.Frag) (w : World) (cA : Nat → Addr)
/-- what is wanted behind a statement -/
def EndD (D : Ends) (fl : Fl) (ρ' : Rho) (α' : Al) (s' : Sto) (H' : Hp) : Prop := match fl with
  | .next => ∀ σ', REnv K w α' s' H' ρ' σ' → D.nx σ' H'
  | .brk => ∀ σ', REnv K w α' s' H' ρ' σ' → D.bk σ' H'
  | .cont => ∀ σ', REnv K w α' s' H' ρ' σ' → D.ct σ' H'
  | .ret d => ∀ v, Rp K w α' s' H' d v → D.rt v H'
def tS (f : Rho → Sto → ResS) : TS := fun D σ H => ∃ α s ρ fl ρ' s', RS K w cA α s H ∧ REnv K w α s H ρ σ ∧ f ρ s = some (fl, ρ', s') ∧ ∀ α' H', Go α s H α' s' H' → RS K w cA α' s' H' → EndD K w D fl ρ' α' s' H'
end
section
variable {X : Cx} {cA : Nat → Addr} {st : Stmt} {rest : List Stmt} {f : Rho → Sto → ResS} {g : Rho → Sto → ResS} {fe : Rho → Sto → Res D} {pos : Pos} {e : Expr}
theorem pss_nilD : PSs X [] (tS X.K X.w cA fun ρ s => some (.next, ρ, s)) := PSs.weak pss_nil fun D σ H h => by
  obtain ⟨α, s, ρ, fl, ρ', s', R, E, e, P⟩ := h
  cases e
  exact P α H .refl R σ E
/-- one after another -/
def thenD (f g : Rho → Sto → ResS) : Rho → Sto → ResS := fun ρ s => match f ρ s with
  | some (.next, ρ', s') => g ρ' s'
  | some (.brk, ρ', s') => some (.brk, ρ', s')
  | some (.cont, ρ', s') => some (.cont, ρ', s')
  | some (.ret d, ρ', s') => some (.ret d, ρ', s')
  | Option.none => Option.none
theorem pss_consD (h1 : PS X st (tS X.K X.w cA f)) (h2 : PSs X rest (tS X.K X.w cA g)) : PSs X (st :: rest) (tS X.K X.w cA (thenD f g)) := PSs.weak (pss_cons h1 h2) fun D σ H h => by
  obtain ⟨α, s, ρ, fl, ρ', s', R, E, e, P⟩ := h
  unfold thenD at e
  split at e
  · rename_i ρ1 s1 e1
    exact ⟨α, s, ρ, .next, ρ1, s1, R, E, e1, fun α1 H1 G1 R1 σ1 E1 => ⟨α1, s1, ρ1, fl, ρ', s', R1, E1, e, fun α2 H2 G2 R2 => P α2 H2 (G1.trans G2) R2⟩⟩
  · rename_i ρ1 s1 e1
    cases e
    exact ⟨α, s, ρ, .brk, _, _, R, E, e1, fun α1 H1 G1 R1 => P α1 H1 G1 R1⟩
  · rename_i ρ1 s1 e1
    cases e
    exact ⟨α, s, ρ, .cont, _, _, R, E, e1, fun α1 H1 G1 R1 => P α1 H1 G1 R1⟩
  · rename_i d ρ1 s1 e1
    cases e
    exact ⟨α, s, ρ, .ret d, _, _, R, E, e1, fun α1 H1 G1 R1 => P α1 H1 G1 R1⟩
  · cases e
theorem ps_passD : PS X (.Pass pos) (tS X.K X.w cA fun ρ s => some (.next, ρ, s)) := PS.weak ps_pass fun D σ H h => by
  obtain ⟨α, s, ρ, fl, ρ', s', R, E, e, P⟩ := h
  cases e
  exact P α H .refl R σ E
theorem ps_docD {x j p2} : PS X (.Expr (.Constant (.str x) j p2) pos) (tS X.K X.w cA fun ρ s => some (.next, ρ, s)) := PS.weak ps_doc fun D σ H h => by
  obtain ⟨α, s, ρ, fl, ρ', s', R, E, e, P⟩ := h
  cases e
  exact P α H .refl R σ E
theorem ps_brkD : PS X (.Break pos) (tS X.K X.w cA fun ρ s => some (.brk, ρ, s)) := PS.weak ps_break fun D σ H h => by
  obtain ⟨α, s, ρ, fl, ρ', s', R, E, e, P⟩ := h
  cases e
  exact P α H .refl R σ E
theorem ps_contD : PS X (.Continue pos) (tS X.K X.w cA fun ρ s => some (.cont, ρ, s)) := PS.weak ps_continue fun D σ H h => by
  obtain ⟨α, s, ρ, fl, ρ', s', R, E, e, P⟩ := h
  cases e
  exact P α H .refl R σ E
theorem ps_neverD : PS X st (tS X.K X.w cA fun ρ s => Option.none) := PS.weak ps_never fun D σ H h => by
  obtain ⟨α, s, ρ, fl, ρ', s', R, E, e, P⟩ := h
  cases e
theorem ps_retnD : PS X (.Return none pos) (tS X.K X.w cA fun ρ s => some (.ret .none, ρ, s)) := PS.weak ps_retN fun D σ H h => by
  obtain ⟨α, s, ρ, fl, ρ', s', R, E, e, P⟩ := h
  cases e
  exact P α H .refl R _ .none
theorem ps_retD (he : PE X e (tE X.K X.w cA fe)) : PS X (.Return (some e) pos) (tS X.K X.w cA fun ρ s => bndS (fe ρ s) fun d s1 => some (.ret d, ρ, s1)) := PS.weak (ps_ret he) fun D σ H h => by
  obtain ⟨α, s, ρ, fl, ρ', s', R, E, e, P⟩ := h
  obtain ⟨d, s1, e1, e2⟩ := bndS_some e
  cases e2
  exact ⟨α, s, ρ, d, _, R, E, e1, fun α1 H1 v G1 R1 r => P α1 H1 G1 R1 v r⟩
theorem ps_exprD (he : PE X e (tE X.K X.w cA fe)) (hs : swapsWith e none pos.line X.env = pure false) : PS X (.Expr e pos) (tS X.K X.w cA fun ρ s => bndS (fe ρ s) fun _ s1 => some (.next, ρ, s1)) := PS.weak (ps_expr he hs) fun D σ H h => by
  obtain ⟨α, s, ρ, fl, ρ', s', R, E, e, P⟩ := h
  obtain ⟨d, s1, e1, e2⟩ := bndS_some e
  cases e2
  exact ⟨α, s, ρ, d, _, R, E, e1, fun α1 H1 v G1 R1 r => P α1 H1 G1 R1 σ (G1.env E)⟩
theorem ps_ifD {a b : List Stmt} {fa fb : Rho → Sto → ResS} (hc : PT X e (tT X.K X.w cA fe)) (ha : PSs X a (tS X.K X.w cA fa)) (hb : PSs X b (tS X.K X.w cA fb)) : PS X (.If e a b pos) (tS X.K X.w cA fun ρ s => bndS (fe ρ s) fun x s1 => match x with
    | .bool true => fa ρ s1
    | .bool false => fb ρ s1
    | _ => Option.none) := PS.weak (ps_if hc ha hb) fun D σ H h => by
  obtain ⟨α, s, ρ, fl, ρ', s', R, E, e, P⟩ := h
  obtain ⟨d, s1, e1, e2⟩ := bndS_some e
  cases d with
  | bool k =>
    refine ⟨α, s, ρ, k, s1, R, E, e1, fun α1 H1 G1 R1 => ?_⟩
    cases k with
    | true => exact ⟨α1, s1, ρ, fl, ρ', s', R1, G1.env E, e2, fun α2 H2 G2 R2 => P α2 H2 (G1.trans G2) R2⟩
    | false => exact ⟨α1, s1, ρ, fl, ρ', s', R1, G1.env E, e2, fun α2 H2 G2 R2 => P α2 H2 (G1.trans G2) R2⟩
  | _ => cases e2

/-! ### stores -/
/-- a target's names take the value -/
def fAsg (fe : Rho → Sto → Res D) (t : Tg) : Rho → Sto → ResS := fun ρ s => bndS (fe ρ s) fun d s1 => ((tgD t d ρ).map fun ρ' => (ρ', s1)).map fun p => (.next, p.1, p.2)
theorem rd_asg {K : PySem.W.Frag} {w : World} {t : Tg} {D : Ends} {σ : L2.St} {H : Hp} (h : tS K w cA (fAsg fe t) D σ H) : tE K w cA fe σ H fun v H1 => gT K w false t v σ H1 D.nx := by
  obtain ⟨α, s, ρ, fl, ρ', s', R, E, e, P⟩ := h
  obtain ⟨d, s1, e1, e2⟩ := bndS_some e
  obtain ⟨p, e3, e4⟩ := Option.map_eq_some_iff.mp e2
  obtain ⟨ρ1, e5, e6⟩ := Option.map_eq_some_iff.mp e3
  subst e6
  cases e4
  exact ⟨α, s, ρ, d, _, R, E, e1, fun α1 H1 v G1 R1 r => ⟨α1, _, ρ, d, _, G1.env E, .inl r, e5, fun σ' E' _ => P α1 H1 G1 R1 σ' E'⟩⟩
theorem rd_asgN {K : PySem.W.Frag} {w : World} {i : Nat} {D : Ends} {σ : L2.St} {H : Hp} (h : tS K w cA (fAsg fe (.name i)) D σ H) : tE K w cA fe σ H fun v H1 => gName i v σ H1 D.nx := by
  obtain ⟨α, s, ρ, fl, ρ', s', R, E, e, P⟩ := h
  obtain ⟨d, s1, e1, e2⟩ := bndS_some e
  obtain ⟨p, e3, e4⟩ := Option.map_eq_some_iff.mp e2
  obtain ⟨ρ1, e5, e6⟩ := Option.map_eq_some_iff.mp e3
  subst e6
  cases e4
  have e5 : (if i < ρ.length then some (ρ.set i (some d)) else Option.none) = some _ := e5
  split at e5
  · cases e5
    exact ⟨α, s, ρ, d, _, R, E, e1, fun α1 H1 v G1 R1 r => P α1 H1 G1 R1 _ ((G1.env E).set r)⟩
  · cases e5
/-- name = value -/
theorem ps_setD {i : Nat} {x : Str} {p2 : Pos} (hN : X.N.Nodup) (hi : X.N[i]? = some x) (hx : Loc X.env.scope x) (he : PE X e (tE X.K X.w cA fe)) (hs : swapsWith e (some (.Name x p2)) pos.line X.env = pure false) (hf : X.fn x = true ∨ X.env.scope.names.lookup x = some .local) :
    PS X (.Assign [.Name x p2] e pos) (tS X.K X.w cA (fAsg fe (.name i))) := PS.weak (ps_set hN hi hx he hs hf) fun D σ H h => rd_asgN h
/-- a, b = a tuple -/
theorem ps_asgD {tg : Expr} {t : Tg} (he : PE X e (tE X.K X.w cA fe)) (hg : PG X tg (gT X.K X.w false t)) (hs : swapsWithSole [tg] e pos.line X.env = pure false) (hw : swappedStores [tg] e X.env = pure none) (h1 : (assignEach [tg] X.env).map (·.2) = [assign tg X.env]) :
    PS X (.Assign [tg] e pos) (tS X.K X.w cA (fAsg fe t)) := PS.weak (ps_asg he hg hs hw h1) fun D σ H h => rd_asg h
/-- two names at once -/
theorem ps_parD {i j : Nat} {x y : Str} {a b : Expr} {fl : Rho → Sto → Res (List D)} {px py pt : Pos} {kt k2 pt2} (hc : X.calm = true) (hN : X.N.Nodup) (hi : X.N[i]? = some x) (hj : X.N[j]? = some y) (hij : i ≠ j)
    (hx : X.env.scope.names.lookup x = some .local) (hy : X.env.scope.names.lookup y = some .local) (ha : PA X [a, b] (tL X.K X.w cA fl))
    (hw : swappedStores [.Tuple [.Name x px, .Name y py] kt pt] (.Tuple [a, b] k2 pt2) X.env = pure (some [x, y]))
    (hs : swapsWithSole [.Tuple [.Name x px, .Name y py] kt pt] (.Tuple [a, b] k2 pt2) pos.line X.env = pure false) :
    PS X (.Assign [.Tuple [.Name x px, .Name y py] kt pt] (.Tuple [a, b] k2 pt2) pos) (tS X.K X.w cA (fAsg (fun ρ s => bnd (fl ρ s) fun xs s1 => gTup xs s1) (.tup [.name i, .name j]))) := PS.weak (ps_par hc hN hi hj hij hx hy ha hw hs) fun D σ H h => by
  obtain ⟨α, s, ρ, fl, ρ', s', R, E, e, P⟩ := h
  obtain ⟨d, s1, e1, e2⟩ := bndS_some e
  obtain ⟨p, e3, e4⟩ := Option.map_eq_some_iff.mp e2
  obtain ⟨ρ1, e5, e6⟩ := Option.map_eq_some_iff.mp e3
  subst e6
  cases e4
  obtain ⟨xs, s2, e6, e7⟩ := bnd_some e1
  unfold gTup at e7
  split at e7
  · cases e7
    refine ⟨α, s, ρ, xs, _, R, E, e6, fun α1 H1 vs G1 R1 r => ?_⟩
    rcases xs with _ | ⟨d1, _ | ⟨d2, _ | ⟨d3, xs⟩⟩⟩
    · cases e5
    · dsimp only [tgD, tgsD] at e5
      split at e5 <;> cases e5
    · cases r with
      | @cons _ v _ _ r1 rr =>
        cases rr with
        | @cons _ w' _ _ r2 rr =>
          cases rr
          refine ⟨v, w', rfl, ?_⟩
          dsimp only [tgD, tgsD] at e5
          split at e5
          · rename_i ρ1 h1
            split at h1
            · cases h1
              split at e5
              · rename_i ρ2 h2
                split at h2
                · cases h2
                  cases e5
                  exact P α1 H1 G1 R1 _ (((G1.env E).set r1).set r2)
                · cases h2
              · cases e5
            · cases h1
          · cases e5
    · dsimp only [tgD, tgsD] at e5
      split at e5
      · split at e5 <;> cases e5
      · cases e5
  · cases e7
/-- three names at once -/
theorem ps_par3D {i j l : Nat} {x y z : Str} {a b c : Expr} {fl : Rho → Sto → Res (List D)} {px py pz pt : Pos} {kt k2 pt2} (hc : X.calm = true) (hN : X.N.Nodup) (hi : X.N[i]? = some x) (hj : X.N[j]? = some y) (hl : X.N[l]? = some z) (hij : i ≠ j) (hil : i ≠ l) (hjl : j ≠ l)
    (hx : X.env.scope.names.lookup x = some .local) (hy : X.env.scope.names.lookup y = some .local) (hz : X.env.scope.names.lookup z = some .local) (ha : PA X [a, b, c] (tL X.K X.w cA fl))
    (hw : swappedStores [.Tuple [.Name x px, .Name y py, .Name z pz] kt pt] (.Tuple [a, b, c] k2 pt2) X.env = pure (some [x, y, z]))
    (hs : swapsWithSole [.Tuple [.Name x px, .Name y py, .Name z pz] kt pt] (.Tuple [a, b, c] k2 pt2) pos.line X.env = pure false) :
    PS X (.Assign [.Tuple [.Name x px, .Name y py, .Name z pz] kt pt] (.Tuple [a, b, c] k2 pt2) pos) (tS X.K X.w cA (fAsg (fun ρ s => bnd (fl ρ s) fun xs s1 => gTup xs s1) (.tup [.name i, .name j, .name l]))) := PS.weak (ps_par3 hc hN hi hj hl hij hil hjl hx hy hz ha hw hs) fun D σ H h => by
  obtain ⟨α, s, ρ, fl, ρ', s', R, E, e, P⟩ := h
  obtain ⟨d, s1, e1, e2⟩ := bndS_some e
  obtain ⟨p, e3, e4⟩ := Option.map_eq_some_iff.mp e2
  obtain ⟨ρ1, e5, e6⟩ := Option.map_eq_some_iff.mp e3
  subst e6
  cases e4
  obtain ⟨xs, s2, e6, e7⟩ := bnd_some e1
  unfold gTup at e7
  split at e7
  · cases e7
    refine ⟨α, s, ρ, xs, _, R, E, e6, fun α1 H1 vs G1 R1 r => ?_⟩
    have e5 : tgsD [.name i, .name j, .name l] xs ρ = some _ := e5
    have step : ∀ {k : Nat} {ts : List Tg} {xs : List DL.D} {ρ ρ' : Rho}, tgsD (.name k :: ts) xs ρ = some ρ' → ∃ d r, xs = d :: r ∧ tgsD ts r (ρ.set k (some d)) = some ρ' := by
      intro k ts xs ρ ρ' e
      cases xs with
      | nil => cases e
      | cons d r =>
        dsimp only [tgD, tgsD] at e
        split at e
        · rename_i h1
          split at h1
          · cases h1
            exact ⟨d, r, rfl, e⟩
          · cases h1
        · cases e
    obtain ⟨d1, xs1, x1, f1⟩ := step e5
    obtain ⟨d2, xs2, x2, f2⟩ := step f1
    obtain ⟨d3, xs3, x3, f3⟩ := step f2
    subst x3 x2 x1
    cases xs3 with
    | cons _ _ => cases f3
    | nil =>
      cases f3
      cases r with
      | @cons _ u _ _ r1 rr =>
        cases rr with
        | @cons _ v _ _ r2 rr =>
          cases rr with
          | @cons _ w' _ _ r3 rr =>
            cases rr
            exact ⟨u, v, w', rfl, P α1 H1 G1 R1 _ ((((G1.env E).set r1).set r2).set r3)⟩
  · cases e7
end
end DL
end

section
set_option Elab.async false
set_option linter.all false
set_option maxRecDepth 100000
set_option maxHeartbeats 4000000
/-! DL, part w: stores into cells; loops. -/
namespace DL
open PySem PySem.Spec PyProof.Rows L2 PySem.W
section
variable {X : Cx} {cA : Nat → Addr} {fe fo fi : Rho → Sto → Res D} {pos tpos : Pos} {e o i : Expr}
/-- o[i] = value -/
theorem ps_subD (hu : X.A.units + 100 < cLine) (he : PE X e (tE X.K X.w cA fe)) (ho : PE X o (tE X.K X.w cA fo)) (hi : PE X i (tE X.K X.w cA fi))
    (ha : ∀ v, assign (.Subscript o i tpos) X.env v = (do
      let ov ← holding [v] (eval o X.env)
      let iv ← holding [v, ov] (eval i X.env)
      standAt tpos
      holding [v, ov, iv] (setItem ov iv v)
      release [v, ov, iv] []))
    (hs : swapsWithSole [.Subscript o i tpos] e pos.line X.env = pure false) (hw : swappedStores [.Subscript o i tpos] e X.env = pure none) (h1 : (assignEach [.Subscript o i tpos] X.env).map (·.2) = [assign (.Subscript o i tpos) X.env]) :
    PS X (.Assign [.Subscript o i tpos] e pos) (tS X.K X.w cA fun ρ s => bndS (fe ρ s) fun d s1 => Option.map (fun p : Rho × Sto => (Fl.next, p.1, p.2)) (match fo ρ s1 with
      | some (x, s1) => match fi ρ s1 with
        | some (y, s2) => (setD s2 x y d).map fun s3 => (ρ, s3)
        | Option.none => Option.none
      | Option.none => Option.none)) := PS.weak (ps_asg he (pg_sub ho hi (set_set (cA := cA) hu) ha) hs hw h1) fun D σ H h => by
  obtain ⟨α, s, ρ, fl, ρ', s', R, E, e, P⟩ := h
  obtain ⟨d, s1, e1, e2⟩ := bndS_some e
  obtain ⟨p, e3, e4⟩ := Option.map_eq_some_iff.mp e2
  split at e3
  · rename_i x s2 e5
    split at e3
    · rename_i y s3 e6
      obtain ⟨s4, e7, e8⟩ := Option.map_eq_some_iff.mp e3
      subst e8
      cases e4
      refine ⟨α, s, ρ, d, s1, R, E, e1, fun α1 H1 v1 G1 R1 r1 => ⟨α1, s1, ρ, x, s2, R1, G1.env E, e5, fun α2 H2 v2 G2 R2 r2 => ⟨α2, s2, ρ, y, s3, R2, G2.env (G1.env E), e6, fun α3 H3 v3 G3 R3 r3 => ?_⟩⟩⟩
      refine ⟨α3, s3, x, y, d, _, R3, G3.rp _ _ r2, r3, G3.rp _ _ (G2.rp _ _ r1), e7, fun α4 H4 G4 R4 => ?_⟩
      have G := ((G1.trans G2).trans G3).trans G4
      exact P α4 H4 G R4 σ (G.env E)
    · cases e3
  · cases e3
/-- e.f -/
theorem ok_fld {f : Str} (hcl : ∀ c, Cls X.K (cA c)) (hno : ∀ c, NoAttr X.K (cA c) f) (he : PE X e (tE X.K X.w cA fe)) (hb : attributeBase e f X.env (eval e X.env) = eval e X.env) : Ok X cA (.Attribute e f pos) (fun ρ s => bnd (fe ρ s) fun x s1 => gFld f x s1) :=
  .plain (PE.weak (pe_fld he hb) fun σ H Q h => by
    obtain ⟨α, s, ρ, d, s', R, E, e, P⟩ := h
    obtain ⟨x, s1, e1, e2⟩ := bnd_some e
    refine ⟨α, s, ρ, x, s1, R, E, e1, fun α1 H1 v1 G1 R1 r1 => ?_⟩
    unfold gFld at e2
    split at e2
    · rename_i n
      split at e2
      · rename_i c fs hn
        obtain ⟨d', hl, e3⟩ := Option.map_eq_some_iff.mp e2
        cases e3
        cases r1 with
        | @ref _ a ha =>
          cases R1.cell n a _ ha hn with
          | ins h1 h2 h3 =>
            rename_i dx fvs
            obtain ⟨v, lv, rv⟩ := fldV_lookup h2 h3 hl
            exact ⟨a, _, _, _, v, rfl, h1, hcl _, hno _, lv, P α1 H1 v G1 R1 rv⟩
      · cases e2
    · cases e2) rfl
/-- e.f = value -/
theorem ps_fldD {f : Str} (hcl : ∀ c, Cls X.K (cA c)) (hno : ∀ c, NoAttr X.K (cA c) f) (he : PE X e (tE X.K X.w cA fe)) (ho : PE X o (tE X.K X.w cA fo)) (hs : swapsWith e (some (.Attribute o f tpos)) pos.line X.env = pure false) :
    PS X (.Assign [.Attribute o f tpos] e pos) (tS X.K X.w cA fun ρ s => bndS (fe ρ s) fun d s1 => Option.map (fun p : Rho × Sto => (Fl.next, p.1, p.2)) (match fo ρ s1 with
      | some (x, s1) => (setF s1 x f d).map fun s2 => (ρ, s2)
      | Option.none => Option.none)) := PS.weak (ps_fld ho he hs) fun D σ H h => by
  obtain ⟨α, s, ρ, fl, ρ', s', R, E, e, P⟩ := h
  obtain ⟨d, s1, e1, e2⟩ := bndS_some e
  obtain ⟨p, e3, e4⟩ := Option.map_eq_some_iff.mp e2
  split at e3
  · rename_i x s2 e5
    obtain ⟨s4, e7, e8⟩ := Option.map_eq_some_iff.mp e3
    subst e8
    cases e4
    refine ⟨α, s, ρ, d, s1, R, E, e1, fun α1 H1 v1 G1 R1 r1 => ⟨α1, s1, ρ, x, s2, R1, G1.env E, e5, fun α2 H2 v2 G2 R2 r2 => ?_⟩⟩
    unfold setF at e7
    split at e7
    · rename_i n
      split at e7
      · rename_i c fs hn
        split at e7
        · rename_i hl
          have hl : fs.length < 900 := of_decide_eq_true hl
          cases r2 with
          | @ref _ a ha =>
            cases R2.cell n a _ ha hn with
            | ins h1 h2 h3 =>
              rename_i dx fvs
              have hlen : fvs.length = fs.length := by
                have := congrArg List.length h2
                simpa using this.symm
              obtain ⟨k1, k2⟩ := putFD_rel h2 h3 (G2.rp _ _ r1)
              refine ⟨a, _, _, _, rfl, h1, hcl _, hno _, by omega, ?_⟩
              have e7 := Option.some.inj e7
              have G : Go α2 s2 H2 α2 s4 (upd H2 a (.ins (cA c) dx (putF f v1 fvs))) := by rw [← e7]; exact Go.wr R2 ha hn (by intro z; cases z) rfl (not_rd_ins h1)
              have R' : RS X.K X.w cA α2 s4 (upd H2 a (.ins (cA c) dx (putF f v1 fvs))) := by
                have G' := G
                rw [← e7] at G' ⊢
                exact RS.wr R2 ha hn (by intro z; cases z) rfl (not_rd_ins h1) (.ins upd_same k1 (G'.rpL _ _ k2))
              have GG := (G1.trans G2).trans G
              exact P α2 _ GG R' σ (GG.env E)
        · cases e7
      · cases e7
    · cases e7
  · cases e3

/-! ### op= -/
def rAugD (K : PySem.W.Frag) (w : World) (cA : Nat → Addr) (op : BOp) : TIp := fun x y H Q => ∃ α s a b d, RS K w cA α s H ∧ Rp K w α s H a x ∧ Rp K w α s H b y ∧ augD op a b = some d ∧ ∀ v, Rp K w α s H d v → Q v H
theorem ip_aug (op : BOp) : PIp X (pyB op) (rAugD X.K X.w cA op) := by
  intro pins s σ H x y v u Q I rx ry h
  obtain ⟨α, st, a, b, d, R, ra, rb, e, P⟩ := h
  unfold augD at e
  split at e
  · cases e; cases ra; cases rb
    exact iop_add pins s σ H _ _ v u Q I rx ry ⟨_, _, rfl, rfl, P _ (.int _)⟩
  · cases e; cases ra; cases rb
    exact iop_sub pins s σ H _ _ v u Q I rx ry ⟨_, _, rfl, rfl, P _ (.int _)⟩
  · split at e
    · rename_i hl
      cases e; cases ra; cases rb
      exact iop_add_str pins s σ H _ _ v u Q I rx ry ⟨_, _, rfl, rfl, line_big hl, P _ (.str _)⟩
    · cases e
  · cases e
theorem ps_augD {k : Nat} {x : Str} {op : BOp} (hN : X.N.Nodup) (hi : X.N[k]? = some x) (hx : Loc X.env.scope x) (he : PE X e (tE X.K X.w cA fe)) (hf : X.fn x = true ∨ X.env.scope.names.lookup x = some .local) :
    PS X (.AugAssign (.Name x tpos) (pyB op) e pos) (tS X.K X.w cA fun ρ s => match ρ[k]? with
      | some (some x) => bndS (fe ρ s) fun y s1 => (augD op x y).map fun z => (.next, ρ.set k (some z), s1)
      | _ => Option.none) := PS.weak (ps_aug hN hi hx he (ip_aug (cA := cA) op) hf) fun D σ H h => by
  obtain ⟨α, s, ρ, fl, ρ', s', R, E, e, P⟩ := h
  dsimp only at e
  split at e
  · rename_i d hd
    obtain ⟨y, s1, e1, e2⟩ := bndS_some e
    obtain ⟨z, e3, e4⟩ := Option.map_eq_some_iff.mp e2
    cases e4
    obtain ⟨v, hv, rv⟩ := E.2 k d hd
    refine ⟨v, hv, α, s, ρ, y, _, R, E, e1, fun α1 H1 u G1 R1 ru => ⟨α1, _, d, y, z, R1, G1.rp _ _ rv, ru, e3, fun v2 r2 => ?_⟩⟩
    exact P α1 H1 G1 R1 _ ((G1.env E).set r2)
  · cases e
def rGetK (K : PySem.W.Frag) (w : World) (cA : Nat → Addr) : V → V → Hp → VK → Prop := fun x y H Q => ∃ α s a b d, RS K w cA α s H ∧ Rp K w α s H a x ∧ Rp K w α s H b y ∧ getK s a b = some d ∧ ∀ v, Rp K w α s H d v → Q v H
theorem get_K (hu : X.A.units + 100 < cLine) : PGet X (rGetK X.K X.w cA) := by
  intro pins s σ H x y v u Q I rx ry h
  obtain ⟨α, st, a, b, d, R, ra, rb, e, P⟩ := h
  unfold getK at e
  split at e
  · rename_i ks vs ht
    split at e
    · rename_i hk
      rw [Bool.and_eq_true] at hk
      obtain ⟨p, es, ep, us, rfl, h1, h2, h3, h4, h5, h6⟩ := top_dct R ra ht
      obtain rfl : v = Value.ref p := rx
      exact dd_get (by omega) I h1 h3 h4 h5 h6 rb ry hk.1 hk.2 e fun s' z x I' rz rd => ⟨z, H, I', rz, P z rd⟩
    · cases e
  · cases e
theorem ps_augsD {op : BOp} (hu : X.A.units + 100 < cLine) (ho : PE X o (tE X.K X.w cA fo)) (hi : PE X i (tE X.K X.w cA fi)) (he : PE X e (tE X.K X.w cA fe))
    (ha : ∀ ov iv new, augStore i ov iv new = (do holding [new, ov, iv] (setItem ov iv new); release [new, ov, iv] []; pure .next)) :
    PS X (.AugAssign (.Subscript o i tpos) (pyB op) e pos) (tS X.K X.w cA fun ρ s => bndS (fo ρ s) fun x s1 => bndS (fi ρ s1) fun k s2 => match getK s2 x k with
      | some a => bndS (fe ρ s2) fun b s3 => match augD op a b with
        | some z => (setD s3 x k z).map fun s4 => (.next, ρ, s4)
        | Option.none => Option.none
      | Option.none => Option.none) := PS.weak (ps_augS ho hi (get_K (cA := cA) hu) he (ip_aug (cA := cA) op) (set_set (cA := cA) hu) ha) fun D σ H h => by
  obtain ⟨α, s, ρ, fl, ρ', s', R, E, e, P⟩ := h
  obtain ⟨x, s1, e1, e⟩ := bndS_some e
  obtain ⟨k, s2, e2, e⟩ := bndS_some e
  split at e
  · rename_i a ha
    obtain ⟨b, s3, e3, e⟩ := bndS_some e
    split at e
    · rename_i z hz
      obtain ⟨s4, e4, e5⟩ := Option.map_eq_some_iff.mp e
      cases e5
      refine ⟨α, s, ρ, x, s1, R, E, e1, fun α1 H1 v1 G1 R1 r1 => ⟨α1, s1, ρ, k, s2, R1, G1.env E, e2, fun α2 H2 v2 G2 R2 r2 => ⟨α2, s2, x, k, a, R2, G2.rp _ _ r1, r2, ha, fun v3 r3 => ?_⟩⟩⟩
      refine ⟨α2, s2, ρ, b, s3, R2, G2.env (G1.env E), e3, fun α4 H4 v4 G4 R4 r4 => ⟨α4, s3, a, b, z, R4, G4.rp _ _ r3, r4, hz, fun v5 r5 => ?_⟩⟩
      refine ⟨α4, s3, x, k, z, _, R4, G4.rp _ _ (G2.rp _ _ r1), G4.rp _ _ r2, r5, e4, fun α6 H6 G6 R6 => ?_⟩
      have G := ((G1.trans G2).trans G4).trans G6
      exact P α6 H6 G R6 σ (G.env E)
    · cases e
  · cases e
end

/-! ### loops -/
section
variable {X : Cx} {cA : Nat → Addr} {pos : Pos}
theorem forAll_some {k : Nat} {f : D → Rho → Sto → ResS} {xs : List D} {ρ ρ' : Rho} {s1 s' : Sto} {fl : Fl} (h : forAll k f xs ρ s1 = some (fl, ρ', s')) : ∃ its s2 u s5, walkD k xs s1 = some (its, s2, u) ∧ forGo f its ρ s2 = some (fl, ρ', s5) ∧ unlock s5 u = some s' := by
  unfold forAll at h
  split at h
  · rename_i its s2 u hw
    unfold freed at h
    split at h
    · rename_i fl1 ρ1 s5 h1
      obtain ⟨s6, h3, h4⟩ := Option.map_eq_some_iff.mp h
      cases h4
      exact ⟨its, s2, u, s5, hw, h1, h3⟩
    · cases h
  · cases h
theorem forGo_cons {f : D → Rho → Sto → ResS} {x : D} {r : List D} {ρ : Rho} {s : Sto} : forGo f (x :: r) ρ s = (match f x ρ s with
    | some (.next, ρ', s') => forGo f r ρ' s'
    | some (.cont, ρ', s') => forGo f r ρ' s'
    | some (.brk, ρ', s') => some (.next, ρ', s')
    | some (.ret d, ρ', s') => some (.ret d, ρ', s')
    | Option.none => Option.none) := rfl
/-- a turn -/
def forBody (t : Tg) (fb : Rho → Sto → ResS) : D → Rho → Sto → ResS := fun x ρ' s' => match tgD t x ρ' with
  | some ρ2 => fb ρ2 s'
  | Option.none => Option.none
theorem ps_forD {tg iter : Expr} {body : List Stmt} {k : Nat} {fl : Rho → Sto → Res (List D)} {t : Tg} {fb : Rho → Sto → ResS} (hp : PassesOwn (model X.prog X.w) X.A X.env X.xe) (hc : X.calm = true) (hi : PI X tg iter (iWalk X.K X.w cA k fl)) (hg : PG X tg (gT X.K X.w (k == 3) t)) (hb : PSs X body (tS X.K X.w cA fb))
    (hs : ∀ x, foldedSetIterable iter X.env x = pure x) : PS X (.For tg iter body [] pos) (tS X.K X.w cA fun ρ s => bndS (fl ρ s) fun xs s1 => forAll k (forBody t fb) xs ρ s1) := PS.weak (ps_for hp hc hi hg hb hs) fun Dn σ H h => by
  obtain ⟨α, s, ρ, fl, ρ', s', R, E, e, P⟩ := h
  obtain ⟨xs, s1, e1, e2⟩ := bndS_some e
  obtain ⟨its, s2, u, s5, hw, hl, hu⟩ := forAll_some e2
  refine ⟨α, s, ρ, xs, s1, its, s2, u, R, E, e1, hw, fun α1 H1 J G1 R1 R2 G2 FR WK => ?_⟩
  let B : Al → Sto → Hp → Prop := fun α' s' H' => Gj α1 s2 H1 α' s' H' ∧ Sb α1 H1 α' H' ∧ α'.g = α1.g
  have b1 : ∀ α s H α' s' H', B α s H → Go α s H α' s' H' → B α' s' H' := fun α s H α' s' H' b G => ⟨b.1.trans G.h.l, b.2.1.trans G.h.sub, G.g.trans b.2.2⟩
  -- behind the loop
  have fin : ∀ α' H', B α' s5 H' → RS X.K X.w cA α' s5 H' → Go α s H α' s' H' ∧ RS X.K X.w cA α' s' H' ∧ Gw α' s5 H' α' s' H' := fun α' H' b R' => by
    obtain ⟨g6, R6, w6⟩ := FR α' s5 H' s' b.1 R' hu
    exact ⟨G1.trans ⟨g6.h b.2.1, b.2.2⟩, R6, w6⟩
  let W : Nat → Nat → L2.St → Hp → Prop := fun i m σ H => m = its.length - i ∧ i ≤ its.length ∧ ∃ α s ρ, RS X.K X.w cA α s H ∧ REnv X.K X.w α s H ρ σ ∧ B α s H ∧ forGo (forBody t fb) (its.drop i) ρ s = some (fl, ρ', s5)
  refine ⟨W, ⟨its.length, by simp, Nat.zero_le _, α1, s2, ρ, R2, G2.env (G1.env E), ⟨.refl, fun a h => ⟨h, rfl⟩, rfl⟩, hl⟩, fun i m σ H ⟨hm, hi, αc, sc, ρc, Rc, Ec, b, el⟩ => ?_⟩
  by_cases hlt : i < its.length
  · have hx : its[i]? = some its[i] := List.getElem?_eq_getElem hlt
    obtain ⟨go, yl⟩ := WK.turn i its[i] αc sc H b.1 Rc hx
    refine .inr ⟨go, fun σ H => W (i + 1) (its.length - (i + 1)) σ H, fun σ' H' n => ⟨its.length - (i + 1), by omega, n⟩, fun x H' y => ?_⟩
    obtain ⟨G3, R3, rz⟩ := yl x H' y
    have b3 := b1 _ _ _ _ _ _ b G3
    rw [List.drop_eq_getElem_cons hlt, forGo_cons] at el
    cases hb : forBody t fb its[i] ρc sc with
    | none => rw [hb] at el; cases el
    | some res =>
      obtain ⟨fl1, ρ1, s3⟩ := res
      rw [hb] at el
      unfold forBody at hb
      split at hb
      · rename_i ρ2 ht
        refine ⟨αc, sc, ρc, its[i], ρ2, G3.env Ec, rz, ht, fun σ2 E2 _ => ⟨αc, sc, ρ2, fl1, ρ1, s3, R3, E2, hb, fun α4 H4 G4 R4 => ?_⟩⟩
        have b4 := b1 _ _ _ _ _ _ b3 G4
        cases fl1 with
        | next =>
          have el : forGo (forBody t fb) (its.drop (i + 1)) ρ1 s3 = some (fl, ρ', s5) := el
          exact fun σ5 E5 => ⟨rfl, hlt, α4, s3, ρ1, R4, E5, b4, el⟩
        | cont =>
          have el : forGo (forBody t fb) (its.drop (i + 1)) ρ1 s3 = some (fl, ρ', s5) := el
          exact fun σ5 E5 => ⟨rfl, hlt, α4, s3, ρ1, R4, E5, b4, el⟩
        | brk =>
          cases el
          obtain ⟨G6, R6, w6⟩ := fin α4 H4 b4 R4
          exact fun σ5 E5 => P α4 H4 G6 R6 σ5 (w6.env E5)
        | ret d =>
          cases el
          obtain ⟨G6, R6, w6⟩ := fin α4 H4 b4 R4
          exact fun v r => P α4 H4 G6 R6 v (w6.rp _ _ r)
      · cases hb
  · have hie : i = its.length := by omega
    subst hie
    rw [List.drop_length] at el
    have el : some (Fl.next, ρc, sc) = some (fl, ρ', s5) := el
    cases el
    obtain ⟨G6, R6, w6⟩ := fin αc H b Rc
    exact .inl ⟨WK.stop αc _ H b.1 Rc, P αc H G6 R6 σ (w6.env Ec)⟩
theorem ps_whileD {c : Expr} {body : List Stmt} {fc : Rho → Sto → Res D} {fb : Rho → Sto → ResS} {n : Nat} (hp : PassesOwn (model X.prog X.w) X.A X.env X.xe) (hc : PT X c (tT X.K X.w cA fc)) (hb : PSs X body (tS X.K X.w cA fb)) :
    PS X (.While c body [] pos) (tS X.K X.w cA fun ρ s => whGo fc fb n ρ s) := PS.weak (ps_while hp hc hb) fun Dn σ H h => by
  obtain ⟨α, s, ρ, fl, ρ', s', R, E, e, P⟩ := h
  refine ⟨fun m σ' H' => ∃ α' s1 ρ1, Go α s H α' s1 H' ∧ RS X.K X.w cA α' s1 H' ∧ REnv X.K X.w α' s1 H' ρ1 σ' ∧ whGo fc fb m ρ1 s1 = some (fl, ρ', s'), ⟨n, α, s, ρ, .refl, R, E, e⟩, fun m σ1 H1 ⟨α1, s1, ρ1, G1, R1, E1, e1⟩ => ?_⟩
  cases m with
  | zero => cases e1
  | succ m =>
    have e1 : (match fc ρ1 s1 with
      | some (.bool true, s1) => match fb ρ1 s1 with
        | some (.next, ρ', s') => whGo fc fb m ρ' s'
        | some (.cont, ρ', s') => whGo fc fb m ρ' s'
        | some (.brk, ρ', s') => some (.next, ρ', s')
        | some (.ret d, ρ', s') => some (.ret d, ρ', s')
        | Option.none => Option.none
      | some (.bool false, s1) => some (.next, ρ1, s1)
      | _ => Option.none) = some (fl, ρ', s') := e1
    split at e1
    · rename_i s2 h2
      refine ⟨α1, s1, ρ1, true, s2, R1, E1, h2, fun α2 H2 G2 R2 => ?_⟩
      simp only [if_true]
      let N : L2.St → Hp → Prop := fun σ' H' => ∃ α' s1 ρ1, Go α s H α' s1 H' ∧ RS X.K X.w cA α' s1 H' ∧ REnv X.K X.w α' s1 H' ρ1 σ' ∧ whGo fc fb m ρ1 s1 = some (fl, ρ', s')
      refine ⟨N, fun σ' H' n => ⟨m, Nat.lt_succ_self m, n⟩, ?_⟩
      split at e1
      · rename_i ρ3 s3 h3
        exact ⟨α2, s2, ρ1, .next, ρ3, s3, R2, G2.env E1, h3, fun α4 H4 G4 R4 σ4 E4 => ⟨α4, s3, ρ3, (G1.trans G2).trans G4, R4, E4, e1⟩⟩
      · rename_i ρ3 s3 h3
        exact ⟨α2, s2, ρ1, .cont, ρ3, s3, R2, G2.env E1, h3, fun α4 H4 G4 R4 σ4 E4 => ⟨α4, s3, ρ3, (G1.trans G2).trans G4, R4, E4, e1⟩⟩
      · rename_i ρ3 s3 h3
        cases e1
        exact ⟨α2, s2, ρ1, .brk, _, _, R2, G2.env E1, h3, fun α4 H4 G4 R4 σ4 E4 => P α4 H4 ((G1.trans G2).trans G4) R4 σ4 E4⟩
      · rename_i d ρ3 s3 h3
        cases e1
        exact ⟨α2, s2, ρ1, .ret d, _, _, R2, G2.env E1, h3, fun α4 H4 G4 R4 v r => P α4 H4 ((G1.trans G2).trans G4) R4 v r⟩
      · cases e1
    · rename_i s2 h2
      cases e1
      refine ⟨α1, s1, _, false, _, R1, E1, h2, fun α2 H2 G2 R2 => ?_⟩
      simp only [Bool.false_eq_true, if_false]
      exact P α2 H2 (G1.trans G2) R2 σ1 (G2.env E1)
    · cases e1
end
end DL
end

section
set_option Elab.async false
set_option linter.all false
set_option maxRecDepth 100000
set_option maxHeartbeats 4000000
/-! DL, part z: dict(zip(a, b)) of two tuples. The steps of zip over tuples whose pair is still out, and zip as the argument of dict, turned from the ones over lists. -/
namespace DL
open PySem PySem.W
section
variable {prog : Program} {w : World} {A : Around} {E : Value → Shared → Prop} {s : Shared}
theorem zipT_next_item_held {z TI TO T i1 i2 l1 l2 : Addr} {f : Bool} {oT : Obj} {k1 k2 : Nat} {xs ys : Array Value} {x y : Value} {Q : Value → Shared → Prop} (D : ZipApart z TI TO i1 i2 l1 l2)
    (hz : IsZipHeld s.heap z TI TO T f) (hT : s.heap.get? T = some oT) (hTI : IsPair s.heap TI (.ref i1) (.ref i2))
    (h1 : s.heap.IsTupleIter i1 l1 k1) (h2 : s.heap.IsTupleIter i2 l2 k2) (hl1 : s.heap.IsTuple l1 xs) (hl2 : s.heap.IsTuple l2 ys) (hx : xs[k1]? = some x) (hy : ys[k2]? = some y)
    (hQ : ∀ h', IsZipHeld h' z TI TO T true → h'.IsTupleIter i1 l1 (k1 + 1) → h'.IsTupleIter i2 l2 (k2 + 1) → IsPair h' s.heap.objs.size x y → h'.objs.size = s.heap.objs.size + 1 →
      (∀ c o, c ≠ z → c ≠ i1 → c ≠ i2 → s.heap.get? c = some o → h'.get? c = some o) → Q (.ref s.heap.objs.size) { s with heap := h' }) :
    wpAny (model prog w) A (Builtin.«zip.__next__» ⟨[.ref z], []⟩) (fun fin s' => ∃ v, fin = .done (.ret v) ∧ Q v s') E s := by
  show wpAny _ _ (field (.ref z) 2 >>= _) _ _ _
  refine wpAny_bind (wpAny_field hz rfl (x := .bool false) rfl ?_)
  show wpAny _ _ (field (.ref z) 3 >>= _) _ _ _
  refine wpAny_bind (wpAny_field hz rfl (x := .ref TI) rfl ?_)
  refine wpAny_bind (wpAny_seqItems hTI rfl ?_)
  show wpAny _ _ (Builtin.SmallTypes.ownedTupleIsFree (.ref z) >>= _) _ _ _
  refine wpAny_bind (wpAny_tupleHeld_zip hz hT fun h₁ hz₁ hs₁ => ?_)
  simp only [Bool.false_eq_true, if_false]
  refine wpAny_bind ?_
  rw [← Array.forIn_toList]
  simp only [List.forIn_cons, List.forIn_nil]
  refine wpAny_bind (wpAny_bind (wpAny_holding ?_))
  show wpAny _ _ (Builtin.SmallTypes.nextOf (.ref i1) >>= _) _ _ _
  refine wpAny_bind (RZ.nextOf_tuple_item (s := { s with heap := h₁ }) (h1.extBut hs₁.extBut D.i1z) (hl1.extBut hs₁.extBut D.l1z) hx fun h₂ h1₂ hs₂ => wpAny_pure ?_)
  refine wpAny_pure ?_
  refine wpAny_bind (wpAny_bind (wpAny_holding ?_))
  show wpAny _ _ (Builtin.SmallTypes.nextOf (.ref i2) >>= _) _ _ _
  refine wpAny_bind (RZ.nextOf_tuple_item (s := { s with heap := h₂ }) ((h2.extBut hs₁.extBut D.i2z).extBut hs₂.extBut D.i12.symm) ((hl2.extBut hs₁.extBut D.l2z).extBut hs₂.extBut D.l2i1) hy fun h₃ h2₃ hs₃ => wpAny_pure ?_)
  refine wpAny_pure (wpAny_pure ?_)
  show wpAny _ _ (newTuple [x, y] >>= _) _ _ _
  refine wpAny_bind (wpAny_newTuple ?_)
  have hsz : h₃.objs.size = s.heap.objs.size := by rw [hs₃.1, hs₂.1, hs₁.1]
  have hz₃ : IsZipHeld h₃ z TI TO T true := hs₃.extBut _ _ D.i2z.symm (hs₂.extBut _ _ D.i1z.symm hz₁)
  have hk : ∀ c o, c ≠ z → c ≠ i1 → c ≠ i2 → s.heap.get? c = some o → h₃.get? c = some o := fun c o c1 c2 c3 e => hs₃.extBut _ _ c3 (hs₂.extBut _ _ c2 (hs₁.extBut _ _ c1 e))
  have h1₃ : h₃.IsTupleIter i1 l1 (k1 + 1) := h1₂.extBut hs₃.extBut D.i12
  refine wpAny_pure ⟨_, rfl, ?_⟩
  show Q (.ref h₃.objs.size) _
  have hp : IsPair (h₃.push { cls := .type "tuple", data := .seq #[x, y] }) h₃.objs.size x y := Heap.get?_push_size _ rfl
  have hz4 : (h₃.push { cls := .type "tuple", data := .seq #[x, y] }).objs.size = h₃.objs.size + 1 := Heap.size_push ..
  rw [hsz] at hp hz4 ⊢
  exact hQ _ (Heap.get?_push_of_some _ hz₃) (h1₃.at fun o e => Heap.get?_push_of_some _ e) (h2₃.at fun o e => Heap.get?_push_of_some _ e) hp hz4 fun c o c1 c2 c3 e => Heap.get?_push_of_some _ (hk c o c1 c2 c3 e)
theorem zipT_next_end_held {z TI TO T i1 i2 l1 l2 : Addr} {f : Bool} {oT : Obj} {k1 k2 : Nat} {xs ys : Array Value} {Q : Fin → Shared → Prop} (hh : A.handled = none) (D : ZipApart z TI TO i1 i2 l1 l2)
    (hz : IsZipHeld s.heap z TI TO T f) (hT : s.heap.get? T = some oT) (hTI : IsPair s.heap TI (.ref i1) (.ref i2))
    (h1 : s.heap.IsTupleIter i1 l1 k1) (h2 : s.heap.IsTupleIter i2 l2 k2) (hl1 : s.heap.IsTuple l1 xs) (hl2 : s.heap.IsTuple l2 ys) (hend : xs[k1]? = none ∨ ys[k2]? = none)
    (hE : ∀ h' e, (∀ c o, c ≠ z → c ≠ i1 → c ≠ i2 → s.heap.get? c = some o → h'.get? c = some o) → (∃ o, h'.get? e = some o ∧ o.cls = .type "StopIteration") → E (.ref e) { s with heap := h' }) :
    wpAny (model prog w) A (Builtin.«zip.__next__» ⟨[.ref z], []⟩) Q E s := by
  show wpAny _ _ (field (.ref z) 2 >>= _) _ _ _
  refine wpAny_bind (wpAny_field hz rfl (x := .bool false) rfl ?_)
  show wpAny _ _ (field (.ref z) 3 >>= _) _ _ _
  refine wpAny_bind (wpAny_field hz rfl (x := .ref TI) rfl ?_)
  refine wpAny_bind (wpAny_seqItems hTI rfl ?_)
  show wpAny _ _ (Builtin.SmallTypes.ownedTupleIsFree (.ref z) >>= _) _ _ _
  refine wpAny_bind (wpAny_tupleHeld_zip hz hT fun h₁ hz₁ hs₁ => ?_)
  simp only [Bool.false_eq_true, if_false]
  refine wpAny_bind ?_
  rw [← Array.forIn_toList]
  simp only [List.forIn_cons, List.forIn_nil]
  refine wpAny_bind (wpAny_bind (wpAny_holding ?_))
  show wpAny _ _ (Builtin.SmallTypes.nextOf (.ref i1) >>= _) _ _ _
  cases hx : xs[k1]? with
  | none =>
    refine wpAny_bind (RZ.nextOf_tuple_end (s := { s with heap := h₁ }) hh (h1.extBut hs₁.extBut D.i1z) (hl1.extBut hs₁.extBut D.l1z) hx fun h₂ e hs₂ he => ?_)
    exact hE h₂ e (fun c o c1 c2 _ x => hs₂ _ _ c2 (hs₁.extBut _ _ c1 x)) he
  | some x =>
    have hy : ys[k2]? = none := by rcases hend with h | h; rw [hx] at h; cases h; exact h
    refine wpAny_bind (RZ.nextOf_tuple_item (s := { s with heap := h₁ }) (h1.extBut hs₁.extBut D.i1z) (hl1.extBut hs₁.extBut D.l1z) hx fun h₂ h1₂ hs₂ => wpAny_pure ?_)
    refine wpAny_pure ?_
    refine wpAny_bind (wpAny_bind (wpAny_holding ?_))
    show wpAny _ _ (Builtin.SmallTypes.nextOf (.ref i2) >>= _) _ _ _
    refine wpAny_bind (RZ.nextOf_tuple_end (s := { s with heap := h₂ }) hh ((h2.extBut hs₁.extBut D.i2z).extBut hs₂.extBut D.i12.symm) ((hl2.extBut hs₁.extBut D.l2z).extBut hs₂.extBut D.l2i1) hy fun h₃ e hs₃ he => ?_)
    exact hE h₃ e (fun c o c1 c2 c3 x => hs₃ _ _ c3 (hs₂.extBut _ _ c2 (hs₁.extBut _ _ c1 x))) he
theorem pyNext_zipT_item_held {z TI TO T i1 i2 l1 l2 : Addr} {f : Bool} {oT : Obj} {k1 k2 : Nat} {xs ys : Array Value} {x y : Value} {Q : Option Value → Shared → Prop} (D : ZipApart z TI TO i1 i2 l1 l2)
    (hz : IsZipHeld s.heap z TI TO T f) (hT : s.heap.get? T = some oT) (hTI : IsPair s.heap TI (.ref i1) (.ref i2))
    (h1 : s.heap.IsTupleIter i1 l1 k1) (h2 : s.heap.IsTupleIter i2 l2 k2) (hl1 : s.heap.IsTuple l1 xs) (hl2 : s.heap.IsTuple l2 ys) (hx : xs[k1]? = some x) (hy : ys[k2]? = some y)
    (hQ : ∀ h', IsZipHeld h' z TI TO T true → h'.IsTupleIter i1 l1 (k1 + 1) → h'.IsTupleIter i2 l2 (k2 + 1) → IsPair h' s.heap.objs.size x y → h'.objs.size = s.heap.objs.size + 1 →
      (∀ c o, c ≠ z → c ≠ i1 → c ≠ i2 → s.heap.get? c = some o → h'.get? c = some o) → Q (some (.ref s.heap.objs.size)) { s with heap := h' }) :
    wpAny (model prog w) A (pyNext (.ref z)) Q E s := by
  have hTy : s.TypeIs (.ref z) "zip" := ⟨_, hz, rfl⟩
  unfold pyNext
  exact wpAny_bind (wpAny_attempt (wpAny_callSpecial?_slot (name := Str.ofString "__next__") hTy F.slot_zip_next
    (wpAny_call_entry F.slot_zip_next hTy F.entry_zip_next
      (zipT_next_item_held D hz hT hTI h1 h2 hl1 hl2 hx hy fun h' a1 a3 a4 a5 a6 a7 => wpAny_pure (hQ h' a1 a3 a4 a5 a6 a7)) (F.args_zip_next_1 _))))
theorem pyNext_zipT_end_held {z TI TO T i1 i2 l1 l2 : Addr} {f : Bool} {oT : Obj} {k1 k2 : Nat} {xs ys : Array Value} {Q : Option Value → Shared → Prop} (hh : A.handled = none) (D : ZipApart z TI TO i1 i2 l1 l2)
    (hz : IsZipHeld s.heap z TI TO T f) (hT : s.heap.get? T = some oT) (hTI : IsPair s.heap TI (.ref i1) (.ref i2))
    (h1 : s.heap.IsTupleIter i1 l1 k1) (h2 : s.heap.IsTupleIter i2 l2 k2) (hl1 : s.heap.IsTuple l1 xs) (hl2 : s.heap.IsTuple l2 ys) (hend : xs[k1]? = none ∨ ys[k2]? = none)
    (hQ : ∀ h', (∀ c o, c ≠ z → c ≠ i1 → c ≠ i2 → s.heap.get? c = some o → h'.get? c = some o) → Q none { s with heap := h' }) : wpAny (model prog w) A (pyNext (.ref z)) Q E s := by
  have hTy : s.TypeIs (.ref z) "zip" := ⟨_, hz, rfl⟩
  unfold pyNext
  refine wpAny_bind (wpAny_attempt (wpAny_callSpecial?_slot (name := Str.ofString "__next__") hTy F.slot_zip_next
    (wpAny_call_entry F.slot_zip_next hTy F.entry_zip_next (zipT_next_end_held hh D hz hT hTI h1 h2 hl1 hl2 hend fun h' e hk he => ?_) (F.args_zip_next_1 _))))
  obtain ⟨o, ho, hc⟩ := he
  refine wpAny_bind (wpAny_isInstance (T := "StopIteration") (b := true) ⟨o, ho, hc⟩ isSubtype_stop ?_)
  exact wpAny_pure (hQ _ hk)
end
section
variable {prog : Program} {w : World}
theorem pairArg_zipT (z TI TO i1 i2 l1 l2 : Addr) (D : ZipApart z TI TO i1 i2 l1 l2) (xs ys : Array Value) :
    PairArg prog w "zip" z [z, TI, TO, i1, i2, l1, l2] [z, TO, i1, i2] (min xs.size ys.size) (fun i k v => xs[i]? = some k ∧ ys[i]? = some v)
      (fun h => IsZip h z TI TO .none ∧ IsPair h TI (.ref i1) (.ref i2) ∧ (∃ a b, IsPair h TO a b) ∧ h.IsTupleIter i1 l1 0 ∧ h.IsTupleIter i2 l2 0 ∧ h.IsTuple l1 xs ∧ h.IsTuple l2 ys) where
  type := fun s ok => ⟨_, ok.1, rfl⟩
  notDict := by decide
  keep := fun h h' ok hk => by
    obtain ⟨hz, hTI, ⟨a, b, hTO⟩, h1, h2, hl1, hl2⟩ := ok
    exact ⟨hk _ _ hz, hk _ _ hTI, ⟨a, b, hk _ _ hTO⟩, h1.at fun o e => hk _ o e, h2.at fun o e => hk _ o e, hl1.at fun o e => hk _ o e, hl2.at fun o e => hk _ o e⟩
  there := fun h ok b hb => by
    obtain ⟨hz, hTI, ⟨a, c, hTO⟩, ⟨o1, h1, _⟩, ⟨o2, h2, _⟩, ⟨o3, hl1, _⟩, ⟨o4, hl2, _⟩⟩ := ok
    simp only [List.mem_cons, List.not_mem_nil, or_false] at hb
    rcases hb with rfl | rfl | rfl | rfl | rfl | rfl | rfl
    all_goals first | exact ⟨_, hz⟩ | exact ⟨_, hTI⟩ | exact ⟨_, hTO⟩ | exact ⟨_, h1⟩ | exact ⟨_, h2⟩ | exact ⟨_, hl1⟩ | exact ⟨_, hl2⟩
  sub := fun b hb => by simp at hb ⊢; rcases hb with rfl | rfl | rfl | rfl <;> simp
  noKeys := fun A s Q E hA ok h => getAttrOr_miss_zip ok.1 rfl rfl rfl zip_no_keys (by decide +kernel) hA h
  iter := fun A s d Q E hA ok hd hdf h => by
    obtain ⟨hz, hTI, ⟨a, b, hTO⟩, h1, h2, hl1, hl2⟩ := ok
    simp only [List.mem_cons, List.not_mem_nil, or_false, not_or] at hdf
    obtain ⟨dz, dTI, dTO, di1, di2, dl1, dl2⟩ := hdf
    refine wpAny_pyIter_zip hz (h z [z, TO, i1, i2] (fun i h => IsPair h TI (.ref i1) (.ref i2) ∧ h.IsTupleIter i1 l1 i ∧ h.IsTupleIter i2 l2 i ∧ h.IsTuple l1 xs ∧ h.IsTuple l2 ys ∧
      ((IsZip h z TI TO .none ∧ ∃ a b, IsPair h TO a b) ∨ ∃ T f oT, IsZipHeld h z TI TO T f ∧ h.get? T = some oT ∧ T ≠ z ∧ T ≠ i1 ∧ T ≠ i2 ∧ T ≠ d)) s.heap s.toks ?_
      ⟨hTI, h1, h2, hl1, hl2, .inl ⟨hz, a, b, hTO⟩⟩ (fun _ _ e => e) fun b hb => .inl hb)
    exact {
      off := fun hm => by
        simp only [List.mem_cons, List.not_mem_nil, or_false] at hm
        rcases hm with e | e | e | e
        · exact dz e
        · exact dTO e
        · exact di1 e
        · exact di2 e
      frame := fun i h₁ h₂ st hk => by
        obtain ⟨hTI, h1, h2, hl1, hl2, hz⟩ := st
        refine ⟨hk _ _ (Ne.symm dTI) hTI, h1.at fun o e => hk _ o (Ne.symm di1) e, h2.at fun o e => hk _ o (Ne.symm di2) e, hl1.at fun o e => hk _ o (Ne.symm dl1) e, hl2.at fun o e => hk _ o (Ne.symm dl2) e, ?_⟩
        rcases hz with ⟨hz, a, b, hTO⟩ | ⟨T, f, oT, hz, hT, r1, r2, r3, r4⟩
        · exact .inl ⟨hk _ _ (Ne.symm dz) hz, a, b, hk _ _ (Ne.symm dTO) hTO⟩
        · exact .inr ⟨T, f, oT, hk _ _ (Ne.symm dz) hz, hk _ _ r4 hT, r1, r2, r3, r4⟩
      item := fun i s₁ Q₁ E₁ hi st hds hQ => by
        obtain ⟨hTI, h1, h2, hl1, hl2, hz⟩ := st
        have hix : i < xs.size := Nat.lt_of_lt_of_le hi (Nat.min_le_left ..)
        have hiy : i < ys.size := Nat.lt_of_lt_of_le hi (Nat.min_le_right ..)
        have ex := Array.getElem?_eq_getElem hix
        have ey := Array.getElem?_eq_getElem hiy
        have lt : ∀ {c o}, s₁.heap.get? c = some o → s₁.heap.objs.size ≠ c := fun e => Nat.ne_of_gt (Heap.lt_size e)
        have n1 : s₁.heap.objs.size ≠ i1 := let ⟨_, e, _⟩ := h1; lt e
        have n2 : s₁.heap.objs.size ≠ i2 := let ⟨_, e, _⟩ := h2; lt e
        rcases hz with ⟨hz, a, b, hTO⟩ | ⟨T, f, oT, hz, hT, r1, r2, r3, r4⟩
        · refine RZ.pyNext_zipT_item D hz hTI hTO h1 h2 hl1 hl2 ex ey fun h' a1 a2 a3 a4 a5 a6 hk => ?_
          exact hQ s₁.heap.objs.size _ _ h' s₁.toks ⟨ex, ey⟩ (.inl ⟨_, a5, rfl, _, rfl⟩)
            ⟨hk _ _ D.TIz D.TITO D.TIi1 D.TIi2 hTI, a3, a4, hl1.at fun o e => hk _ o D.l1z D.l1TO D.l1i1 D.l1i2 e, hl2.at fun o e => hk _ o D.l2z D.l2TO D.l2i1 D.l2i2 e,
              .inr ⟨s₁.heap.objs.size, false, _, a1, a5, lt hz, n1, n2, Nat.ne_of_gt hds⟩⟩
            fun c o hc e => hk c o (fun x => hc (by simp [x])) (fun x => hc (by simp [x])) (fun x => hc (by simp [x])) (fun x => hc (by simp [x])) e
        · refine pyNext_zipT_item_held D hz hT hTI h1 h2 hl1 hl2 ex ey fun h' a1 a3 a4 a5 a6 hk => ?_
          exact hQ s₁.heap.objs.size _ _ h' s₁.toks ⟨ex, ey⟩ (.inl ⟨_, a5, rfl, _, rfl⟩)
            ⟨hk _ _ D.TIz D.TIi1 D.TIi2 hTI, a3, a4, hl1.at fun o e => hk _ o D.l1z D.l1i1 D.l1i2 e, hl2.at fun o e => hk _ o D.l2z D.l2i1 D.l2i2 e,
              .inr ⟨T, true, oT, a1, hk _ _ r1 r2 r3 hT, r1, r2, r3, r4⟩⟩
            fun c o hc e => hk c o (fun x => hc (by simp [x])) (fun x => hc (by simp [x])) (fun x => hc (by simp [x])) e
      done := fun s₁ Q₁ E₁ st hQ => by
        obtain ⟨hTI, h1, h2, hl1, hl2, hz⟩ := st
        have hend : xs[min xs.size ys.size]? = none ∨ ys[min xs.size ys.size]? = none := by
          rcases Nat.le_total xs.size ys.size with h | h
          · exact .inl (Array.getElem?_eq_none (by rw [Nat.min_eq_left h]; exact Nat.le_refl _))
          · exact .inr (Array.getElem?_eq_none (by rw [Nat.min_eq_right h]; exact Nat.le_refl _))
        rcases hz with ⟨hz, a, b, hTO⟩ | ⟨T, f, oT, hz, hT, r1, r2, r3, r4⟩
        · exact RZ.pyNext_zipT_end hA D hz hTI hTO h1 h2 hl1 hl2 hend fun h' hk => hQ h' s₁.toks fun c o hc e => hk c o (fun x => hc (by simp [x])) (fun x => hc (by simp [x])) (fun x => hc (by simp [x])) (fun x => hc (by simp [x])) e
        · exact pyNext_zipT_end_held hA D hz hT hTI h1 h2 hl1 hl2 hend fun h' hk => hQ h' s₁.toks fun c o hc e => hk c o (fun x => hc (by simp [x])) (fun x => hc (by simp [x])) (fun x => hc (by simp [x])) e }
end
end DL
end

section
set_option Elab.async false
set_option linter.all false
set_option maxRecDepth 100000
set_option maxHeartbeats 4000000
/-! DL, part x: calls of built-in functions as expressions. -/
namespace DL
open PySem PySem.Spec PyProof.Rows L2 PySem.W

def isStar : Expr → Bool
  | .Starred _ _ => true
  | _ => false
def noStar (es : List Expr) : Bool := es.all fun e => !isStar e
theorem star_cons {e : Expr} {es : List Expr} {env : Env} (h : isStar e = false) : starEach (e :: es) env = (false, eval e env) :: starEach es env := by
  cases e with
  | Starred _ _ => cases h
  | _ => rfl
theorem noStar_cons {e : Expr} {es : List Expr} (h : noStar (e :: es) = true) : isStar e = false ∧ noStar es = true := by
  unfold noStar at h ⊢
  rw [List.all_cons, Bool.and_eq_true] at h
  exact ⟨by cases hs : isStar e with
    | true => rw [hs] at h; exact absurd h.1 (by decide)
    | false => rfl, h.2⟩
theorem star_any {pos : Pos} {env : Env} : ∀ {es : List Expr}, noStar es = true → (backTo pos (starEach es env)).any (·.1) = false
  | [], _ => rfl
  | e :: es, h => by
    obtain ⟨h1, h2⟩ := noStar_cons h
    rw [star_cons h1]
    show (false || (backTo pos (starEach es env)).any (·.1)) = false
    rw [star_any h2]
    rfl
theorem star_one {a : Expr} {env : Env} (h : noStar [a] = true) : starEach [a] env = [(false, eval a env)] := star_cons (noStar_cons h).1
theorem star_two {a b : Expr} {env : Env} (h : noStar [a, b] = true) : starEach [a, b] env = (false, eval a env) :: starEach [b] env := star_cons (noStar_cons h).1

section
variable {X : Cx} {cA : Nat → Addr} {x : Str} {p pos : Pos} {e a b : Expr} {es : List Expr} {fe : Rho → Sto → Res D} {fl : Rho → Sto → Res (List D)}
/-- a call of a built-in function -/
theorem ok_callB {bi : Bi} {c : Bool} {id : String} (hc : CallR X (.builtin id) (rL X.K X.w cA (gBi bi c))) (hg : L2.Gl X x) (hm : X.mg x = none) (hv : bootBuiltins x = some (.builtin id)) (ha : PA X (e :: es) (tL X.K X.w cA fl)) (hs : noStar (e :: es) = true) (hn : x ≠ "__name__") (hdb : (x == ("__debug__" : Str)) = false) :
    Ok X cA (.Call (.Name x p) (e :: es) [] pos) (fun ρ s => bnd (fl ρ s) fun xs s1 => gBi bi c xs s1) :=
  .plain (PE.weak (pe_callB hc hg hm hv ha hn hdb (star_cons (noStar_cons hs).1) (star_any (noStar_cons hs).2)) fun σ H Q h => tE_list h) rfl
theorem ok_callTy {bi : Bi} {c : Bool} {T : String} (hc : CallR X (.type T) (rL X.K X.w cA (gBi bi c))) (hg : L2.Gl X x) (hm : X.mg x = none) (hv : bootBuiltins x = some (.type T)) (ha : PA X (e :: es) (tL X.K X.w cA fl)) (hs : noStar (e :: es) = true) (hn : x ≠ "__name__") (hdb : (x == ("__debug__" : Str)) = false) :
    Ok X cA (.Call (.Name x p) (e :: es) [] pos) (fun ρ s => bnd (fl ρ s) fun xs s1 => gBi bi c xs s1) :=
  .plain (PE.weak (pe_callTy hc hg hm hv ha hn hdb (star_cons (noStar_cons hs).1) (star_any (noStar_cons hs).2)) fun σ H Q h => tE_list h) rfl
theorem tL_nil {σ : L2.St} {H : Hp} {Q : List V → Hp → Prop} (h : tL X.K X.w cA (fun _ s => some ([], s)) σ H Q) : tNil σ H Q := by
  obtain ⟨α, s, ρ, ds, s', R, E, e, P⟩ := h
  cases e
  exact P α H [] .refl R .nil
theorem ok_callTy0 {bi : Bi} {c : Bool} {T : String} (hc : CallR X (.type T) (rL X.K X.w cA (gBi bi c))) (hg : L2.Gl X x) (hm : X.mg x = none) (hv : bootBuiltins x = some (.type T)) (hn : x ≠ "__name__") (hdb : (x == ("__debug__" : Str)) = false) :
    Ok X cA (.Call (.Name x p) [] [] pos) (fun ρ s => bnd (some (([] : List D), s)) fun xs s1 => gBi bi c xs s1) :=
  .plain (PE.weak (pe_callTy0 hc hg hm hv hn hdb) fun σ H Q h => by
    have h := tE_list (fl := fun _ s => some ([], s)) h
    exact tL_nil h) rfl
/-- isinstance(e, T) -/
theorem ok_isinst {bi : Bi} {c : Bool} {T : String} {y : Str} {p2 : Pos} (hc : CallR X (.builtin "isinstance") (fun xs H Q => ∃ x, xs = [x, .ty T] ∧ rL X.K X.w cA (gBi bi c) [x] H Q)) (hg : L2.Gl X "isinstance") (hm : X.mg "isinstance" = none)
    (hgy : L2.Gl X y) (hmy : X.mg y = none) (hvy : bootBuiltins y = some (.type T)) (hny : y ≠ "__name__") (hdy : (y == ("__debug__" : Str)) = false) (he : PE X e (tE X.K X.w cA fe)) (hs : isStar e = false) :
    Ok X cA (.Call (.Name "isinstance" p) [e, .Name y p2] [] pos) (fun ρ s => bnd (bnd (fe ρ s) fun x s1 => bnd (some (([] : List D), s1)) fun xs s2 => some (x :: xs, s2)) fun xs s1 => gBi bi c xs s1) := by
  have hY : PE X (.Name y p2) (tC (.ty T)) := pe_bltn hgy hmy hvy rfl hny hdy
  have hA : PA X [e, .Name y p2] (tCons (tE X.K X.w cA fe) (tCons (tC (.ty T)) tNil)) := pa_cons he (pa_cons hY pa_nil (star_cons rfl)) (star_cons hs)
  have nst : noStar [e, .Name y p2] = true := by
    unfold noStar
    rw [List.all_cons, List.all_cons, hs]
    rfl
  refine .plain (PE.weak (pe_callB hc hg hm PyProof.Rows.boot_isinstance hA (by decide) (by decide) (star_cons hs) (star_any (noStar_cons nst).2)) fun σ H Q h => ?_) rfl
  obtain ⟨α, s, ρ, d, s', R, E, e, P⟩ := h
  obtain ⟨xs, s1, e1, e2⟩ := bnd_some e
  obtain ⟨x, s2, e3, e4⟩ := bnd_some e1
  cases e4
  exact ⟨α, s, ρ, x, _, R, E, e3, fun α1 H1 v G1 R1 r1 => ⟨v, rfl, α1, _, [x], d, s', R1, .cons r1 .nil, e2, fun α2 H2 v2 G2 R2 r2 => P α2 H2 v2 (G1.trans G2) R2 r2⟩⟩
/-- sorted(set(e)) -/
theorem ok_sortset {c : Bool} {p2 pos2 : Pos} (hc : X.calm = true) (hg : L2.Gl X "sorted") (hm : X.mg "sorted" = none) (hg2 : L2.Gl X "set") (hm2 : X.mg "set" = none) (he : PE X e (tE X.K X.w cA fe)) (hs : isStar e = false) :
    Ok X cA (.Call (.Name "sorted" p) [.Call (.Name "set" p2) [e] [] pos2] [] pos) (fun ρ s => bnd (bnd (fe ρ s) fun x s1 => bnd (some (([] : List D), s1)) fun xs s2 => some (x :: xs, s2)) fun xs s1 => gBi .sortset c xs s1) := by
  have nst : noStar [e] = true := by
    unfold noStar
    rw [List.all_cons, hs]
    rfl
  have hA : PA X [e] (tCons (tE X.K X.w cA fe) tNil) := pa_cons he pa_nil (star_cons hs)
  have hS := pe_callTy (p := p2) (pos := pos2) (call_setD (cA := cA) hc) hg2 hm2 PyProof.Rows.boot_set hA (by decide) (by decide) (star_cons hs) (star_any (noStar_cons nst).2)
  have hB := pe_callB (p := p) (pos := pos) (cr_sortedSet hc) hg hm PyProof.Rows.boot_sorted (pa_cons hS pa_nil (star_cons rfl)) (by decide) (by decide) (star_cons rfl) rfl
  refine .plain (PE.weak hB fun σ H Q h => ?_) rfl
  obtain ⟨α, s, ρ, d, s', R, E, e, P⟩ := h
  obtain ⟨xs, s1, e1, e2⟩ := bnd_some e
  obtain ⟨x, s2, e3, e4⟩ := bnd_some e1
  cases e4
  exact ⟨α, s, ρ, x, _, R, E, e3, fun α1 H1 v G1 R1 r1 => sortset_post R1 r1 e2 fun α2 H2 v2 G2 R2 r2 => P α2 H2 v2 (G1.trans G2) R2 r2⟩
/-- list(range(e)) -/
theorem ok_listrange {c : Bool} {p2 pos2 : Pos} (hc : X.calm = true) (hg : L2.Gl X "list") (hm : X.mg "list" = none) (hg2 : L2.Gl X "range") (hm2 : X.mg "range" = none) (he : PE X e (tE X.K X.w cA fe)) (hs : isStar e = false) :
    Ok X cA (.Call (.Name "list" p) [.Call (.Name "range" p2) [e] [] pos2] [] pos) (fun ρ s => bnd (bnd (fe ρ s) fun x s1 => bnd (some (([] : List D), s1)) fun xs s2 => some (x :: xs, s2)) fun xs s1 => gBi .listrange c xs s1) := by
  refine .plain (PE.weak (L2.pe_listRg hc hg hm (L2.prg_1 hg2 hm2 he (star_cons hs)) (star_cons rfl)) fun σ H Q h => ?_) rfl
  obtain ⟨α, s, ρ, d, s', R, E, e, P⟩ := h
  obtain ⟨xs, s1, e1, e2⟩ := bnd_some e
  obtain ⟨x, s2, e3, e4⟩ := bnd_some e1
  cases e4
  refine ⟨α, s, ρ, x, _, R, E, e3, fun α1 H1 v G1 R1 r1 => ?_⟩
  obtain ⟨z, hz, e5⟩ := gBi_some e2
  cases x with
  | int n =>
    cases r1
    have hz : (if decide (n ≤ 1000000) && decide (-1000000 ≤ n) then some (D.lst (rangeD 0 n.toNat)) else Option.none) = some z := hz
    split at hz
    · rename_i hn
      rw [Bool.and_eq_true, decide_eq_true_eq, decide_eq_true_eq] at hn
      cases hz
      refine ⟨n, rfl, ⟨by omega, by omega, by omega, by omega, by omega⟩, fun q hq => ?_⟩
      have rl : RpL X.K X.w α1 s1 H1 (rangeD 0 n.toNat) (L2.rgV 0 n) := by
        have gen : ∀ (m : Nat) (lo : Int), RpL X.K X.w α1 s1 H1 (rangeD lo m) ((List.range m).map fun i => V.int (lo + (i : Nat))) := by
          intro m
          induction m with
          | zero => intro lo; exact .nil
          | succ m ih =>
            intro lo
            rw [List.range_succ_eq_map, List.map_cons, List.map_map]
            have h1 : RpL X.K X.w α1 s1 H1 (rangeD (lo + 1) m) ((List.range m).map ((fun i : Nat => V.int (lo + (i : Nat))) ∘ Nat.succ)) := by
              have := ih (lo + 1)
              have e : ((fun i : Nat => V.int (lo + (i : Nat))) ∘ Nat.succ) = fun i : Nat => V.int (lo + 1 + (i : Nat)) := by
                funext i
                show V.int (lo + ((i + 1 : Nat) : Int)) = _
                congr 1
                omega
              rw [e]
              exact this
            have e0 : V.int (lo + ((0 : Nat) : Int)) = V.int lo := by congr 1; omega
            rw [e0]
            exact .cons (.int lo) h1
        have := gen n.toNat 0
        unfold L2.rgV
        rw [Int.sub_zero]
        exact this
      exact post_lst R1 hq rl e5 fun α2 H2 v2 G2 R2 r2 => P α2 H2 v2 (G1.trans G2) R2 r2
    · cases hz
  | _ => cases hz
end
end DL
end

section
set_option Elab.async false
set_option linter.all false
set_option maxRecDepth 100000
set_option maxHeartbeats 4000000
/-! DL, part y: dict(zip(a, b)); calls of defs, methods, classes. -/
namespace DL
open PySem PySem.Spec PyProof.Rows L2 PySem.W
section
variable {X : Cx} {cA : Nat → Addr} {x : Str} {p pos : Pos} {e a b : Expr} {es : List Expr} {fe : Rho → Sto → Res D} {fl : Rho → Sto → Res (List D)}
theorem zip_pairs {K : PySem.W.Frag} {w : World} {α : Al} {st : Sto} {H : Hp} : ∀ {xs ys : List D} {v1 v2 : List V} {i1 i2 : List Value}, RpL K w α st H xs v1 → Vals v1 i1 → RpL K w α st H ys v2 → Vals v2 i2 → PairQ K w α st H (zipD xs ys) (i1.zip i2)
  | [], ys, _, _, _, _, h1, g1, h2, g2 => by
    cases h1
    cases g1
    show PairQ K w α st H (zipD [] ys) ([].zip _)
    rw [List.zip_nil_left]
    cases ys <;> exact .nil
  | x :: xs, [], _, _, _, _, h1, g1, h2, g2 => by
    cases h2
    cases g2
    rw [List.zip_nil_right]
    exact .nil
  | x :: xs, y :: ys, _, _, _, _, h1, g1, h2, g2 => by
    cases h1 with
    | cons r1 t1 =>
      cases g1 with
      | cons s1 u1 =>
        cases h2 with
        | cons r2 t2 =>
          cases g2 with
          | cons s2 u2 =>
            rw [List.zip_cons_cons]
            exact .cons ⟨_, _, s1, s2, r1, r2⟩ (zip_pairs t1 u1 t2 u2)
theorem ok_dictzip {c : Bool} {p2 pos2 : Pos} (hu : X.A.units + 100 < cLine) (hc : X.calm = true) (hg : L2.Gl X "dict") (hm : X.mg "dict" = none) (hg2 : L2.Gl X "zip") (hm2 : X.mg "zip" = none) (ha : PA X [a, b] (tL X.K X.w cA fl)) (hs : noStar [a, b] = true) :
    Ok X cA (.Call (.Name "dict" p) [.Call (.Name "zip" p2) [a, b] [] pos2] [] pos) (fun ρ s => bnd (fl ρ s) fun xs s1 => gBi .dictzip c xs s1) := by
  refine .plain ⟨fun pins st σ H Q I h => ?_⟩ rfl
  obtain ⟨α, s, ρ, d, s', R, E, e, P⟩ := h
  obtain ⟨xs, s1, e1, e2⟩ := bnd_some e
  have na : starEach [.Call (.Name "zip" p2) [a, b] [] pos2] X.env = (false, eval (.Call (.Name "zip" p2) [a, b] [] pos2) X.env) :: starEach [] X.env := star_cons rfl
  refine Call_ (ld_blt I hg hm boot_dict (PyProof.Rows.callWith_type1 (args_cons ?_ na) na))
  refine Call_ (ld_blt I hg2 hm2 boot_zip (PyProof.Rows.callWith_type1 (thn (ha.run pos2 pins st σ H (fun vs H1 => ∃ α1, Go α s H α1 s1 H1 ∧ RS X.K X.w cA α1 s1 H1 ∧ RpL X.K X.w α1 s1 H1 xs vs) I ⟨α, s, ρ, xs, s1, R, E, e1, fun α1 H1 vs G1 R1 r => ⟨α1, G1, R1, r⟩⟩) fun us t1 ⟨vs, H1, I1, r1, α1, G1, R1, rl⟩ => ?_) (star_cons (noStar_cons hs).1) (star_any (noStar_cons hs).2)))
  obtain ⟨z, hz, e3⟩ := gBi_some e2
  rcases xs with _ | ⟨d1, _ | ⟨d2, _ | ⟨d3, xs⟩⟩⟩
  · cases hz
  · cases hz
  · dsimp only [biD] at hz
    split at hz
    · rename_i xs ys h1 h2
      split at hz
      · rename_i hk
        rw [Bool.and_eq_true] at hk
        cases hz
        cases rl with
        | cons q1 rl =>
          cases rl with
          | cons q2 rl =>
            cases rl
            obtain ⟨a1, v1, rfl, sq1, rl1⟩ := top_tup q1 h1
            obtain ⟨a2, v2, rfl, sq2, rl2⟩ := top_tup q2 h2
            cases r1 with
            | cons w1 r1 =>
              cases r1 with
              | cons w2 r1 =>
                cases r1
                cases w1
                cases w2
                obtain ⟨i1, rv1, p1, _⟩ := I1.tuple sq1.t
                obtain ⟨i2, rv2, p2, _⟩ := I1.tuple sq2.t
                obtain ⟨o1, ho1, _⟩ := id p1
                obtain ⟨o2, ho2, _⟩ := id p2
                refine RZ.call_zipT (show t1.heap.IsTuple a1 i1.toArray from p1) (show t1.heap.IsTuple a2 i2.toArray from p2) fun h' hz hTI hTO g1 g2 hsz hk' => args_nil ?_
                have I2 : Inv X pins σ H1 { t1 with heap := h' } := I1.kept (t' := t1.toks) hk'
                have D := PySem.W.ktu_apart t1.heap.objs.size a1 a2 (Heap.lt_size ho1) (Heap.lt_size ho2)
                refine dict_post (qs := i1.zip i2) hu hc I2 R1 (pairArg_zipT _ _ _ _ _ a1 a2 D i1.toArray i2.toArray) ⟨hz, hTI, ⟨_, _, hTO⟩, g1, g2, (show t1.heap.IsTuple a1 i1.toArray from p1).at fun o e => hk' _ o e, (show t1.heap.IsTuple a2 i2.toArray from p2).at fun o e => hk' _ o e⟩
                  (by rw [List.length_zip, List.size_toArray, List.size_toArray]) (fun i k v hr => ?_) (zip_pairs rl1 rv1 rl2 rv2) hk.1 ?_ (fun b hb => ?_) e3 fun α2 H2 v G R2 r => P α2 H2 v (G1.trans G) R2 r
                · obtain ⟨f1, f2⟩ := hr
                  rw [List.getElem?_zip_eq_some]
                  exact ⟨by simpa using f1, by simpa using f2⟩
                · rw [zipD_len]
                  exact Nat.le_trans (Nat.min_le_left _ _) (line_big hk.2)
                · have hle : t1.heap.objs.size ≤ b := by
                    simp only [List.mem_cons, List.not_mem_nil, or_false] at hb
                    rcases hb with z | z | z | z
                    · rw [z]; exact Nat.le_add_right _ _
                    · rw [z]; exact Nat.le_add_right _ _
                    · rw [z]; exact Nat.le_refl _
                    · rw [z]; exact Nat.le_add_right _ _
                  exact I1.fpOk hle (I1.hok.fresh hle)
      · cases hz
    · cases hz
  · cases hz
end

/-! ### calls -/
/-- what a def does -/
def spF (K : PySem.W.Frag) (w : World) (cA : Nat → Addr) (n : Nat) (g : List D → Sto → Res D) : Sp := fun vs H Q E => vs.length = n ∧ ∃ α s ds d s', RS K w cA α s H ∧ RpL K w α s H ds vs ∧ g ds s = some (d, s') ∧ Post K w cA α s H s' d Q
/-- the def at f keeps that promise -/
structure DefOk (P : Program) (w : World) (K : PySem.W.Frag) (mg : Str → Option Value) (base : Heap) (cA : Nat → Addr) (k : Nat) (f : Addr) (n : Nat) (g : List D → Sto → Res D) : Prop where
  ex : ∃ fd ps, FnOk P w K mg base CX0 k f fd ps (spF K w cA n g) ∧ Binds K fd ps []
  kp : PySem.W.keepIn K (.ref f) = true
  len : ∀ ds s r, g ds s = some r → ds.length = n
section
variable {X : Cx} {cA : Nat → Addr} {x m : Str} {p pos apos : Pos} {e o : Expr} {es : List Expr} {fo : Rho → Sto → Res D} {fl : Rho → Sto → Res (List D)} {k n : Nat} {f : Addr} {g : List D → Sto → Res D}
theorem ok_call (F : DefOk X.prog X.w X.K X.mg X.base cA k f n g) (hr : Room k X.A) (hg : L2.Gl X x) (hm : X.mg x = some (.ref f)) (hdb : (x == ("__debug__" : Str)) = false) (ha : PA X (e :: es) (tL X.K X.w cA fl)) (hs : noStar (e :: es) = true) :
    Ok X cA (.Call (.Name x p) (e :: es) [] pos) (fun ρ s => bnd (fl ρ s) fun xs s1 => g xs s1) := by
  obtain ⟨fd, ps, hF, hB⟩ := F.ex
  refine .plain (PE.weak (pe_call (E := fun _ _ _ => False) hF hr hg hm F.kp hB .nil pass0 ha hdb (star_cons (noStar_cons hs).1) (star_any (noStar_cons hs).2)) fun σ H Q h => ?_) rfl
  obtain ⟨α, s, ρ, d, s', R, E, e, P⟩ := h
  obtain ⟨xs, s1, e1, e2⟩ := bnd_some e
  refine ⟨α, s, ρ, xs, s1, R, E, e1, fun α1 H1 vs G1 R1 r => ?_⟩
  show spF X.K X.w cA n g (vs ++ []) H1 Q _
  rw [List.append_nil]
  exact ⟨by rw [← r.length]; exact F.len _ _ _ e2, α1, s1, xs, d, s', R1, r, e2, fun α2 H2 v G2 R2 q => P α2 H2 v (G1.trans G2) R2 q⟩
theorem ok_call0 (F : DefOk X.prog X.w X.K X.mg X.base cA k f n g) (hr : Room k X.A) (hg : L2.Gl X x) (hm : X.mg x = some (.ref f)) (hdb : (x == ("__debug__" : Str)) = false) :
    Ok X cA (.Call (.Name x p) [] [] pos) (fun ρ s => bnd (some (([] : List D), s)) fun xs s1 => g xs s1) := by
  obtain ⟨fd, ps, hF, hB⟩ := F.ex
  refine .plain (PE.weak (pe_call0 (E := fun _ _ _ => False) hF hr hg hm F.kp hB .nil pass0 hdb) fun σ H Q h => ?_) rfl
  obtain ⟨α, s, ρ, d, s', R, E, e, P⟩ := h
  exact ⟨F.len _ _ _ e, α, s, [], d, s', R, .nil, e, fun α2 H2 v G2 R2 q => P α2 H2 v G2 R2 q⟩
/-- a method of the instance's class, whichever that is -/
structure MthOk (P : Program) (w : World) (K : PySem.W.Frag) (mg : Str → Option Value) (base : Heap) (cA : Nat → Addr) (k : Nat) (Γ : Pg) (F : Fun) (m : Str) : Prop where
  ok : ∀ c cl f, Γ.cls[c]? = some cl → cl.meths.lookup m = some f → ∃ fA n, Meth K (cA c) m fA ∧ DefOk P w K mg base cA k fA n (F f)
theorem mthD_some {Γ : Pg} {m : Str} {d : D} {s : Sto} {f : Nat} (h : mthD Γ m d s = some f) : ∃ n c cl fs, d = .ref n ∧ s[n]? = some (.ins c fs) ∧ Γ.cls[c]? = some cl ∧ cl.meths.lookup m = some f ∧ fs.lookup m = Option.none := by
  unfold mthD at h
  split at h
  · rename_i n
    split at h
    · rename_i c fs hn
      split at h
      · rename_i cl hc
        split at h
        · rename_i f' hf
          split at h
          · rename_i hl
            cases h
            exact ⟨n, c, cl, fs, rfl, hn, hc, hf, hl⟩
          · cases h
        · cases h
      · cases h
    · cases h
  · cases h
def fMth (Γ : Pg) (F : Fun) (m : Str) (fo : Rho → Sto → Res D) (fl : Rho → Sto → Res (List D)) : Rho → Sto → Res D := fun ρ s => bnd (fo ρ s) fun x s1 => match mthD Γ m x s1 with
  | some f => bnd (fl ρ s1) fun xs s2 => F f (x :: xs) s2
  | Option.none => Option.none
theorem ok_mth {Γ : Pg} {F : Fun} {pl : Sem Bool} (hcl : ∀ c, Cls X.K (cA c)) (M : MthOk X.prog X.w X.K X.mg X.base cA k Γ F m) (hr : Room k X.A) (ho : PE X o (tE X.K X.w cA fo)) (ha : PA X (e :: es) (tL X.K X.w cA fl)) (hs : noStar (e :: es) = true)
    (ht : eval (.Call (.Attribute o m apos) (e :: es) [] pos) X.env = (do
      let ov ← eval o X.env
      standAt apos.atName
      let (f, first) ← holding [ov] (getMethod ov m pl)
      callWith pos f first (backTo pos (starEach (e :: es) X.env)) (backToKw pos (keywordEach [] X.env)))) :
    Ok X cA (.Call (.Attribute o m apos) (e :: es) [] pos) (fMth Γ F m fo fl) := by
  refine .plain ⟨fun pins st σ H Q I h => ?_⟩ rfl
  obtain ⟨α, s, ρ, d, s', R, E, e0, P⟩ := h
  obtain ⟨y, s1, e1, e2⟩ := bnd_some e0
  refine PySem.W.methodCall_KW (pl := pl) (thn (ho.run pins st σ H (fun v H1 => ∃ α1, Go α s H α1 s1 H1 ∧ RS X.K X.w cA α1 s1 H1 ∧ Rp X.K X.w α1 s1 H1 y v) I ⟨α, s, ρ, y, s1, R, E, e1, fun α1 H1 v G1 R1 r => ⟨α1, G1, R1, r⟩⟩) fun u t1 ⟨v, H1, I1, rv, α1, G1, R1, r1⟩ => ?_) ht
  split at e2
  · rename_i f hf
    obtain ⟨n, c, cl, fs, rfl, hn, hc, hm, hl⟩ := mthD_some hf
    obtain ⟨xs, s2, e3, e4⟩ := bnd_some e2
    obtain ⟨fA, np, hM, hD⟩ := M.ok c cl f hc hm
    obtain ⟨fd, ps, hF, hB⟩ := hD.ex
    cases r1 with
    | @ref _ a hα =>
      obtain rfl : u = Value.ref a := rv
      cases R1.cell n a _ hα hn with
      | ins h1 h2 h3 =>
        refine getmeth_ok I1 h1 (hcl c) hM (fldV_none h2 hl) ?_
        refine PySem.W.callWith_K (first := [.ref a]) (h₀ := X.base) I1.ok.mod.kin hM.kp (thn (ha.run pos pins t1 σ H1 (fun vs H2 => ∃ α2, Go α1 s1 H1 α2 s2 H2 ∧ RS X.K X.w cA α2 s2 H2 ∧ RpL X.K X.w α2 s2 H2 xs vs) I1 ⟨α1, s1, ρ, xs, s2, R1, G1.env E, e3, fun α2 H2 vs G2 R2 r => ⟨α2, G2, R2, r⟩⟩) fun us t2 ⟨vs, H2, I2, rl, α2, G2, R2, r2⟩ => ⟨I2.kIn, ?_⟩) (star_cons (noStar_cons hs).1) (star_any (noStar_cons hs).2)
        refine run_fn (us := .ref a :: us) (vs := .ref a :: vs) (E := fun _ _ _ => False) hF hr hB .nil pass0 I2 (.cons rfl rl) ?_
        rw [List.append_nil]
        have rr : RpL X.K X.w α2 s2 H2 (.ref n :: xs) (.ref a :: vs) := .cons (.ref (pre_get G2.h.w.pre hα)) r2
        exact ⟨by rw [← rr.length]; exact hD.len _ _ _ e4, α2, s2, _, d, s', R2, rr, e4, fun α3 H3 v3 G3 R3 q => P α3 H3 v3 ((G1.trans G2).trans G3) R3 q⟩
  · cases e2
theorem ok_mth0 {Γ : Pg} {F : Fun} {pl : Sem Bool} (hcl : ∀ c, Cls X.K (cA c)) (M : MthOk X.prog X.w X.K X.mg X.base cA k Γ F m) (hr : Room k X.A) (ho : PE X o (tE X.K X.w cA fo))
    (ht : eval (.Call (.Attribute o m apos) [] [] pos) X.env = (do
      let ov ← eval o X.env
      standAt apos.atName
      let (f, first) ← holding [ov] (getMethod ov m pl)
      callWith pos f first (backTo pos (starEach [] X.env)) (backToKw pos (keywordEach [] X.env)))) :
    Ok X cA (.Call (.Attribute o m apos) [] [] pos) (fMth Γ F m fo fun _ s => some ([], s)) := by
  refine .plain ⟨fun pins st σ H Q I h => ?_⟩ rfl
  obtain ⟨α, s, ρ, d, s', R, E, e0, P⟩ := h
  obtain ⟨y, s1, e1, e2⟩ := bnd_some e0
  refine PySem.W.methodCall_KW (pl := pl) (thn (ho.run pins st σ H (fun v H1 => ∃ α1, Go α s H α1 s1 H1 ∧ RS X.K X.w cA α1 s1 H1 ∧ Rp X.K X.w α1 s1 H1 y v) I ⟨α, s, ρ, y, s1, R, E, e1, fun α1 H1 v G1 R1 r => ⟨α1, G1, R1, r⟩⟩) fun u t1 ⟨v, H1, I1, rv, α1, G1, R1, r1⟩ => ?_) ht
  split at e2
  · rename_i f hf
    obtain ⟨n, c, cl, fs, rfl, hn, hc, hm, hl⟩ := mthD_some hf
    obtain ⟨xs, s2, e3, e4⟩ := bnd_some e2
    cases e3
    obtain ⟨fA, np, hM, hD⟩ := M.ok c cl f hc hm
    obtain ⟨fd, ps, hF, hB⟩ := hD.ex
    cases r1 with
    | @ref _ a hα =>
      obtain rfl : u = Value.ref a := rv
      cases R1.cell n a _ hα hn with
      | ins h1 h2 h3 =>
        refine getmeth_ok I1 h1 (hcl c) hM (fldV_none h2 hl) ?_
        refine PySem.W.callWith_K0 (first := [.ref a]) I1.kIn hM.kp (run_fn (us := [.ref a]) (vs := [.ref a]) (E := fun _ _ _ => False) hF hr hB .nil pass0 I1 (.cons rfl .nil) ?_)
        have rr : RpL X.K X.w α1 s1 H1 [.ref n] [.ref a] := .cons (.ref hα) .nil
        exact ⟨by rw [← hD.len _ _ _ e4]; rfl, α1, s1, _, d, s', R1, rr, e4, fun α3 H3 v3 G3 R3 q => P α3 H3 v3 (G1.trans G3) R3 q⟩
  · cases e2

/-! ### new instances -/
/-- the class's __init__ -/
structure NewOk (P : Program) (w : World) (K : PySem.W.Frag) (mg : Str → Option Value) (base : Heap) (cA : Nat → Addr) (k : Nat) (Γ : Pg) (F : Fun) (c : Nat) : Prop where
  ok : ∀ cl f, Γ.cls[c]? = some cl → cl.init = some f → ∃ fA n, Mk K (cA c) fA ∧ DefOk P w K mg base cA k fA n (F f)
theorem new_post {K : PySem.W.Frag} {w : World} {Γ : Pg} {F : Fun} {c f n : Nat} {cl : Cl} {α1 : Al} {s1 s' : Sto} {H1 : Hp} {xs : List D} {vs : List V} {d : D} {Q : VK} {E : XK} (hc : Γ.cls[c]? = some cl) (hi : cl.init = some f) (R1 : RS K w cA α1 s1 H1) (rl : RpL K w α1 s1 H1 xs vs)
    (hlen : ∀ ds s r, F f ds s = some r → ds.length = n) (e : gNew Γ F c xs s1 = some (d, s')) (P : Post K w cA α1 s1 H1 s' d Q) {x dx : Addr} (hx : H1 x = none) (hdx : H1 dx = none) (ne : dx ≠ x) :
    spF K w cA n (F f) (.ref x :: (vs ++ [])) (upd (upd H1 dx (.own x)) x (.ins (cA c) dx [])) (fun v H2 => v = .non ∧ Q (.ref x) H2) E := by
  unfold gNew at e
  rw [hc] at e
  dsimp only at e
  rw [hi] at e
  dsimp only at e
  obtain ⟨r, s2, e1, e2⟩ := bnd_some e
  have G1 : Go α1 s1 H1 α1 s1 (upd H1 dx (.own x)) := Go.newO R1 hdx
  have R2 : RS K w cA α1 s1 (upd H1 dx (.own x)) := RS.newO R1 hdx
  have hx2 : (upd H1 dx (.own x)) x = none := by rw [upd_ne (Ne.symm ne)]; exact hx
  have G2 : Go α1 s1 (upd H1 dx (.own x)) (α1.push x) (s1 ++ [.ins c []]) (upd (upd H1 dx (.own x)) x (.ins (cA c) dx [])) := Go.newC R2 hx2
  have R3 : RS K w cA (α1.push x) (s1 ++ [.ins c []]) (upd (upd H1 dx (.own x)) x (.ins (cA c) dx [])) := RS.newC R2 hx2 (.ins upd_same rfl .nil)
  have hp : (α1.push x).l[s1.length]? = some x := by rw [← R1.len]; exact push_last α1 x
  rw [List.append_nil]
  have rr : RpL K w (α1.push x) (s1 ++ [.ins c []]) (upd (upd H1 dx (.own x)) x (.ins (cA c) dx [])) (.ref s1.length :: xs) (.ref x :: vs) := .cons (.ref hp) ((G1.trans G2).rpL _ _ rl)
  refine ⟨by rw [← rr.length]; exact hlen _ _ _ e1, _, _, _, r, s2, R3, rr, e1, fun α4 H4 v G4 R4 q => ?_⟩
  cases r with
  | none =>
    cases e2
    cases q
    exact ⟨rfl, P α4 H4 _ ((G1.trans G2).trans G4) R4 (.ref (pre_get G4.h.w.pre hp))⟩
  | _ => cases e2
theorem ok_new {Γ : Pg} {F : Fun} {c : Nat} (M : NewOk X.prog X.w X.K X.mg X.base cA k Γ F c) (hi : ∃ cl f, Γ.cls[c]? = some cl ∧ cl.init = some f) (hr : Room (k + 1) X.A) (hg : L2.Gl X x) (hm : X.mg x = some (.ref (cA c))) (hdb : (x == ("__debug__" : Str)) = false) (ha : PA X (e :: es) (tL X.K X.w cA fl)) (hs : noStar (e :: es) = true) :
    Ok X cA (.Call (.Name x p) (e :: es) [] pos) (fun ρ s => bnd (fl ρ s) fun xs s1 => gNew Γ F c xs s1) := by
  obtain ⟨cl, f, hc, hi⟩ := hi
  obtain ⟨fA, n, hM, hD⟩ := M.ok cl f hc hi
  obtain ⟨fd, ps, hF, hB⟩ := hD.ex
  refine .plain (PE.weak (pe_make (E := fun _ _ _ => False) hM hF hr hg hm hB .nil pass0 ha hdb (star_cons (noStar_cons hs).1) (star_any (noStar_cons hs).2)) fun σ H Q h => ?_) rfl
  obtain ⟨α, s, ρ, d, s', R, E, e, P⟩ := h
  obtain ⟨xs, s1, e1, e2⟩ := bnd_some e
  exact ⟨α, s, ρ, xs, s1, R, E, e1, fun α1 H1 vs G1 R1 r x dx hx hdx ne => new_post hc hi R1 r hD.len e2 (fun α2 H2 v G2 R2 q => P α2 H2 v (G1.trans G2) R2 q) hx hdx ne⟩
theorem ok_new0 {Γ : Pg} {F : Fun} {c : Nat} (M : NewOk X.prog X.w X.K X.mg X.base cA k Γ F c) (hi : ∃ cl f, Γ.cls[c]? = some cl ∧ cl.init = some f) (hr : Room (k + 1) X.A) (hg : L2.Gl X x) (hm : X.mg x = some (.ref (cA c))) (hdb : (x == ("__debug__" : Str)) = false) :
    Ok X cA (.Call (.Name x p) [] [] pos) (fun ρ s => bnd (some (([] : List D), s)) fun xs s1 => gNew Γ F c xs s1) := by
  obtain ⟨cl, f, hc, hi⟩ := hi
  obtain ⟨fA, n, hM, hD⟩ := M.ok cl f hc hi
  obtain ⟨fd, ps, hF, hB⟩ := hD.ex
  refine .plain (PE.weak (pe_make0 (E := fun _ _ _ => False) hM hF hr hg hm hB .nil pass0 hdb) fun σ H Q h => ?_) rfl
  obtain ⟨α, s, ρ, d, s', R, E, e, P⟩ := h
  exact fun x dx hx hdx ne => new_post hc hi R .nil hD.len e P hx hdx ne
end
end DL
end

section
set_option Elab.async false
set_option linter.all false
set_option maxRecDepth 100000
set_option maxHeartbeats 4000000
/-! DL, the checker: that a def's text is the small language's. -/
namespace DL
open PySem PySem.Spec PyProof.Rows L2 PySem.W

/-! ### method calls -/
def isSup : Expr → Bool
  | .Call (.Name _ _) [] [] _ => true
  | _ => false
theorem base_of {o : Expr} {m : Str} {env : Env} (h : isSup o = false) : attributeBase o m env (eval o env) = eval o env := by
  unfold attributeBase
  split
  · cases h
  · rfl
theorem few_of {es : List Expr} {pos : Pos} {env : Env} (h : noStar es = true) (hl : es.length < 30) : ((backTo pos (starEach es env)).all (fun x => !x.1) && (backToKw pos (keywordEach [] env)).all (fun x => x.1.isSome)
      && decide (es.length + ([] : List Keyword).length + (if ([] : List Keyword).isEmpty then 0 else 1) < 30)) = true := by
  have h1 : (backTo pos (starEach es env)).all (fun x => !x.1) = true := by
    have := star_any (pos := pos) (env := env) h
    rw [List.any_eq_false] at this
    rw [List.all_eq_true]
    intro x hx
    have := this x hx
    simpa using this
  have h2 : decide (es.length + ([] : List Keyword).length + (if ([] : List Keyword).isEmpty then 0 else 1) < 30) = true := decide_eq_true (by simpa using hl)
  rw [h1, h2]
  rfl
theorem ht_of {o : Expr} {m : Str} {apos pos : Pos} {es : List Expr} {env : Env} (hb : isSup o = false) (h : noStar es = true) (hl : es.length < 30) (hline : (apos.endLine == pos.line) = true) :
    eval (.Call (.Attribute o m apos) es [] pos) env = (do
      let ov ← eval o env
      standAt apos.atName
      let (f, first) ← holding [ov] (getMethod ov m (do return (← importBound o env).getD true))
      callWith pos f first (backTo pos (starEach es env)) (backToKw pos (keywordEach [] env))) := by
  rw [arm_eval_Call, base_of hb]
  have hform : methodCallForm (es.length + ([] : List Keyword).length) (backTo pos (starEach es env)) (backToKw pos (keywordEach [] env)) = true := few_of h hl
  have hpos : methodCallPos true o env apos pos = pure pos := by unfold methodCallPos; simp [hline]
  have e : ∀ ov, methodCall o m apos pos env ov (es.length + ([] : List Keyword).length) (backTo pos (starEach es env)) (backToKw pos (keywordEach [] env)) = (do
      let (f, first) ← holding [ov] (getMethod ov m (do return (← importBound o env).getD true))
      callWith pos f first (backTo pos (starEach es env)) (backToKw pos (keywordEach [] env))) := fun ov => by
    unfold methodCall
    rw [hform, hpos]
    rfl
  simp only [e]

/-! ### what is asked of assignments -/
def isLc : Expr → Bool
  | .ListComp _ _ _ _ => true
  | .SetComp _ _ _ _ => true
  | .DictComp _ _ _ _ _ => true
  | _ => false
theorem swap_plain {e : Expr} {t : Option Expr} {l : Nat} {env : Env} (h : isLc e = false) : swapsWith e t l env = pure false := by
  cases e <;> first
    | rfl
    | cases h
def isNameT : Option Expr → Bool
  | some (.Name _ _) => true
  | none => true
  | _ => false
theorem swap_other {e t : Expr} {l : Nat} {env : Env} (h : isNameT (some t) = false) : swapsWith e (some t) l env = pure false := by
  cases e <;> first
    | rfl
    | (cases t <;> first
        | rfl
        | cases h)
/-- the names stored from the right, if any (none: cannot tell) -/
def swNames (sc : Scope) (ts : List Expr) : List Str := ts.filterMap fun
  | .Name id pos => if sc.names.lookup id == some .local && pos.line == (ts.head?.map (·.pos.line)).getD 0 then some id else none
  | _ => none
def swC (sc : Scope) (ts vs : List Expr) : Option (Option (List Str)) :=
  if !(ts.length == 2 || ts.length == 3) || vs.length != ts.length then some none
  else if vs.any (fun | .Starred .. => true | _ => false) then some none
  else if (swNames sc ts).length != ts.length || (swNames sc ts).eraseDups.length != (swNames sc ts).length then some none
  else if vs.all (foldedForSure 8) then some none
  else if vs.all (constantsAlone 8) then none
  else some (some (swNames sc ts))
theorem swap_stores {ts vs : List Expr} {k k2 : Nat} {p p2 : Pos} {env : Env} {r : Option (List Str)} (hk : env.scope.kind = .function) (h : swC env.scope ts vs = some r) : swappedStores [.Tuple ts k p] (.Tuple vs k2 p2) env = pure r := by
  have hb : env.blockKind = .function := by unfold Env.blockKind; rw [hk]; rfl
  unfold swC at h
  unfold swappedStores
  dsimp only
  rw [hb]
  have hbb : (ScopeKind.function != ScopeKind.function) = false := rfl
  rw [hbb, Bool.or_false]
  split at h
  · rename_i c
    cases h
    exact if_pos c
  · rename_i c
    refine (if_neg c).trans ?_
    split at h
    · rename_i c2
      cases h
      exact if_pos (by exact c2)
    · rename_i c2
      refine (if_neg (by exact c2)).trans ?_
      split at h
      · rename_i c3
        cases h
        exact if_pos (by exact c3)
      · rename_i c3
        refine (if_neg (by exact c3)).trans ?_
        split at h
        · rename_i c4
          cases h
          exact if_pos c4
        · rename_i c4
          refine (if_neg c4).trans ?_
          split at h
          · cases h
          · rename_i c5
            cases h
            exact if_neg c5
theorem swap_plainT {t e : Expr} {env : Env} (h : (match t with | .Tuple _ _ _ => false | .List _ _ => false | _ => true) = true) : swappedStores [t] e env = pure none := by
  cases t <;> first
    | rfl
    | cases h
theorem swap_plainV {ts : List Expr} {k : Nat} {p : Pos} {e : Expr} {env : Env} (h : (match e with | .Tuple _ _ _ => false | _ => true) = true) : swappedStores [.Tuple ts k p] e env = pure none := by
  cases e <;> first
    | rfl
    | cases h
end DL
end

section
set_option Elab.async false
set_option linter.all false
set_option maxRecDepth 100000
set_option maxHeartbeats 4000000
/-! DL, the checker, continued: expressions, statements. -/
namespace DL
open PySem PySem.Spec PyProof.Rows L2 PySem.W

def okN (x : Str) : Bool := (x == ("__debug__" : Str)) == false && (x == ("__classdict__" : Str)) == false && decide (x ≠ ("__name__" : Str))
def visC (sc : Scope) (x : Str) : Bool := match sc.names.lookup x with
  | some .local => true
  | some .cell => true
  | some .free => true
  | _ => false
def locC (sc : Scope) (blk : Str → Bool) (x : Str) : Bool := match sc.names.lookup x with
  | some .local => true
  | some .cell => blk x
  | _ => false
/-- a def's own names; a block's own cells -/
def fbF : Str → Bool := fun _ => true
def fbB (scope : Scope) : Str → Bool := fun x => scope.names.lookup x == some .cell
def glbC (sc : Scope) (x : Str) : Bool := okN x && (match sc.names.lookup x with
  | some .globalImplicit => true
  | _ => false)
def isSlice : Expr → Bool
  | .Slice _ _ _ _ => true
  | _ => false
def isSetE : Expr → Bool
  | .Set _ _ _ => true
  | _ => false
/-- built-in functions by their names: a function (true), a type (false) -/
def biCall : Bi → Option (Bool × Str)
  | .len => some (true, "len") | .abs => some (true, "abs") | .max2 => some (true, "max") | .min2 => some (true, "min") | .sum => some (true, "sum")
  | .any => some (true, "any") | .all => some (true, "all") | .sorted => some (true, "sorted") | .maxl => some (true, "max") | .minl => some (true, "min")
  | .int => some (false, "int") | .str => some (false, "str") | .list => some (false, "list") | .tuple => some (false, "tuple") | .dict => some (false, "dict")
  | _ => Option.none
def isOf : Bi → Option Str
  | .isint => some "int" | .isbool => some "bool" | .isstr => some "str" | .istuple => some "tuple"
  | _ => Option.none
def isNil : E → Bool
  | .nil => true
  | _ => false
/-- isinstance(a, T) -/
def isArg (sc : Scope) (n ty : Str) (args : List Expr) : Option Expr := match args with
  | [a, .Name m _] => if decide (n = ("isinstance" : Str)) && glbC sc m && decide (m = ty) && !isStar a then some a else Option.none
  | _ => Option.none
def zipArgs (sc : Scope) (tt : Bool) (it : Expr) : Option (List Expr) := match it with
  | .Call (.Name n _) [a, b] [] _ => if glbC sc n && decide (n = ("zip" : Str)) && noStar [a, b] && tt then some [a, b] else Option.none
  | _ => Option.none
/-- the arguments of what a loop walks -/
def srcArgs (sc : Scope) (tt : Bool) (k : Nat) (it : Expr) : Option (List Expr) := match k with
  | 0 => if isSetE it || isStar it then Option.none else some [it]
  | 1 => match it with
    | .Call (.Name n _) [a] [] _ => if glbC sc n && decide (n = ("range" : Str)) && !isStar a then some [a] else Option.none
    | _ => Option.none
  | 2 => match it with
    | .Call (.Name n _) [a, b] [] _ => if glbC sc n && decide (n = ("range" : Str)) && noStar [a, b] then some [a, b] else Option.none
    | _ => Option.none
  | 3 => zipArgs sc tt it
  | _ => Option.none
section
variable (T : Tab) (Γ : Pg) (N : List Str)
mutual
def ckTg (sc : Scope) (blk : Str → Bool) : Tg → Expr → Bool
  | .name i, x => match x with
    | .Name n _ => decide (N[i]? = some n) && locC sc blk n
    | _ => false
  | .tup ts, x => match x with
    | .Tuple es _ _ => ckTgs sc blk ts es
    | _ => false
def ckTgs (sc : Scope) (blk : Str → Bool) : List Tg → List Expr → Bool
  | [], xs => match xs with
    | [] => true
    | _ :: _ => false
  | t :: ts, xs => match xs with
    | x :: r => ckTg sc blk t x && ckTgs sc blk ts r
    | [] => false
end
def tgTup : Tg → Bool
  | .tup _ => true
  | _ => false
def ownP (own : List Nat) : List (Str × Nat) := own.map fun i => ((N[i]?).getD Str.empty, i)
mutual
def Tg.within (own : List Nat) : Tg → Bool
  | .name i => decide (i ∈ own)
  | .tup ts => Tg.withins own ts
def Tg.withins (own : List Nat) : List Tg → Bool
  | [] => true
  | t :: ts => t.within own && Tg.withins own ts
end
mutual
def ckE (sc : Scope) : E → Expr → Bool
  | .var i _, x => match x with
    | .Name n _ => okN n && decide (N[i]? = some n) && visC sc n
    | _ => false
  | .const d, x => match x with
    | .Constant c _ _ => match c, d with
      | .none, .none => true
      | .bool a, .bool b => decide (a = b)
      | .int a, .int b => decide (a = b)
      | .str a, .str b => decide (a = b)
      | _, _ => false
    | _ => false
  | .nil, _ => false
  | .glob j, x => match x with
    | .Name n _ => glbC sc n && decide (T.con.lookup n = some j)
    | _ => false
  | .bin op a b _, x => match x with
    | .BinOp p o q _ => decide (o = pyB op) && ckE sc a p && ckE sc b q
    | _ => false
  | .neg a, x => match x with
    | .UnaryOp o p _ => decide (o = .USub) && ckE sc a p
    | _ => false
  | .not a, x => match x with
    | .UnaryOp o p _ => decide (o = .Not) && ckE sc a p
    | _ => false
  | .and a b, x => match x with
    | .BoolOp o (p :: q :: r) pos => decide (o = .And) && ckE sc a p && (match r with
      | [] => ckE sc b q
      | _ :: _ => ckE sc b (.BoolOp .And (q :: r) pos))
    | _ => false
  | .or a b, x => match x with
    | .BoolOp o (p :: q :: r) pos => decide (o = .Or) && ckE sc a p && (match r with
      | [] => ckE sc b q
      | _ :: _ => ckE sc b (.BoolOp .Or (q :: r) pos))
    | _ => false
  | .ite t a b, x => match x with
    | .IfExp p q r _ => ckE sc t p && ckE sc a q && ckE sc b r
    | _ => false
  | .cmp op a b, x => match x with
    | .Compare p [o] [q] _ => decide (o = pyC op) && !behindInMarks (pyC op) q && ckE sc a p && ckE sc b q
    | _ => false
  | .call f es, x => match x with
    | .Call (.Name n _) args [] _ => glbC sc n && decide (T.fnm.lookup n = some f) && noStar args && ckL sc es args
    | _ => false
  | .new k es, x => match x with
    | .Call (.Name n _) args [] _ => glbC sc n && decide (T.cln.lookup n = some k) && ((Γ.cls[k]?).bind (·.init)).isSome && noStar args && ckL sc es args
    | _ => false
  | .mth m o es, x => match x with
    | .Call (.Attribute p m' apos) args [] pos => decide (m' = m) && !Γ.cls.isEmpty && (apos.endLine == pos.line) && !isSup p && noStar args && decide (args.length < 30) && ckE sc o p && ckL sc es args
    | _ => false
  | .bi b es c, x => match x with
    | .Call (.Name n _) args [] _ => glbC sc n && (match biCall b with
      | some (_, m) => decide (n = m) && !args.isEmpty && noStar args && (decide (b ≠ .minl) || !c) && ckL sc es args
      | Option.none => match b with
        | .dict0 => decide (n = ("dict" : Str)) && (match args, es with
          | [], [] => true
          | _, _ => false)
        | .isint => (match isArg sc n "int" args with
          | some a => ckL sc es [a]
          | Option.none => false)
        | .isbool => (match isArg sc n "bool" args with
          | some a => ckL sc es [a]
          | Option.none => false)
        | .isstr => (match isArg sc n "str" args with
          | some a => ckL sc es [a]
          | Option.none => false)
        | .istuple => (match isArg sc n "tuple" args with
          | some a => ckL sc es [a]
          | Option.none => false)
        | .sortset => decide (n = ("sorted" : Str)) && (match args with
          | [.Call (.Name n2 _) [a] [] _] => glbC sc n2 && decide (n2 = ("set" : Str)) && !isStar a && ckL sc es [a]
          | _ => false)
        | .listrange => decide (n = ("list" : Str)) && (match args with
          | [.Call (.Name n2 _) [a] [] _] => glbC sc n2 && decide (n2 = ("range" : Str)) && !isStar a && ckL sc es [a]
          | _ => false)
        | .dictzip => decide (n = ("dict" : Str)) && (match args with
          | [.Call (.Name n2 _) [a, a2] [] _] => glbC sc n2 && decide (n2 = ("zip" : Str)) && noStar [a, a2] && ckL sc es [a, a2]
          | _ => false)
        | _ => false)
    | _ => false
  | .bm m o es, x => match x with
    | .Call (.Attribute p m' apos) args [] pos => decide (m' = bmName m) && decide (m ≠ .update) && (apos.endLine == pos.line) && !isSup p && noStar args && decide (args.length < 30) && ckE sc o p && ckL sc es args
    | _ => false
  | .fld o f, x => match x with
    | .Attribute p f' _ => decide (f' = f) && decide (f ∈ T.flds) && !isSup p && ckE sc o p
    | _ => false
  | .tup es, x => match x with
    | .Tuple xs _ _ => noStar xs && ckL sc es xs
    | _ => false
  | .lst es _, x => match x with
    | .List xs _ => noStar xs && ckL sc es xs
    | _ => false
  | .dct es _, x => match x with
    | .Dict ks vs _ => decide (ks.length = vs.length) && decide (ks.length ≤ 15) && ckD sc es ks vs
    | _ => false
  | .idx a i, x => match x with
    | .Subscript p q _ => !isSlice q && ckE sc a p && ckE sc i q
    | _ => false
  | .slc a lo hi _, x => match x with
    | .Subscript p (.Slice l h Option.none _) _ => ckE sc a p && (match l with
        | Option.none => isNil lo
        | some y => ckE sc lo y) && (match h with
        | Option.none => isNil hi
        | some y => ckE sc hi y)
    | _ => false
  | .rev a _, x => match x with
    | .Subscript p (.Slice Option.none Option.none (some (.UnaryOp .USub (.Constant (.int 1) _ _) _)) _) _ => ckE sc a p
    | _ => false
  | .lc elt tg k src cond own _, x => match x with
    | .ListComp y [⟨tg', it, ifs, z⟩] scope _ => decide (z = 0) && blkC N sc scope (ownP N own) && tg.within own && (match srcArgs sc (tgTup tg) k it with
      | some xs => ckL sc src xs
      | Option.none => false) && ckTg N (relS scope sc) (fbB scope) tg tg' && decide (cond.length ≤ 1) && ckL (relS scope sc) cond ifs && ckE (relS scope sc) elt y
    | _ => false
  | .lc2 elt tg k src cond0 tg1 k1 src1 cond own own1 _, x => match x with
    | .ListComp y [⟨tg', it, ifs, z⟩, ⟨tg1', it1, ifs1, z1⟩] scope _ => decide (z = 0) && decide (z1 = 0) && blkC N sc scope (ownP N own) && tg.within own && tg1.within own1 && own1.all (fun i => decide (i ∈ own)) && (match srcArgs sc (tgTup tg) k it with
      | some xs => ckL sc src xs
      | Option.none => false) && ckTg N (relS scope sc) (fbB scope) tg tg' && decide (cond0.length ≤ 1) && ckL (relS scope sc) cond0 ifs
      && (match srcArgs (relS scope sc) (tgTup tg1) k1 it1 with
      | some xs => ckL (relS scope sc) src1 xs
      | Option.none => false) && ckTg N (relS scope sc) (fbB scope) tg1 tg1' && decide (cond.length ≤ 1) && ckL (relS scope sc) cond ifs1 && ckE (relS scope sc) elt y
    | _ => false
def ckL (sc : Scope) : List E → List Expr → Bool
  | [], xs => match xs with
    | [] => true
    | _ :: _ => false
  | e :: es, xs => match xs with
    | x :: r => ckE sc e x && ckL sc es r
    | [] => false
def ckD (sc : Scope) : List E → List (Option Expr) → List Expr → Bool
  | [], ks, vs => ks.isEmpty && vs.isEmpty
  | [_], _, _ => false
  | a :: b :: r, ks, vs => match ks, vs with
    | some k :: ks', v :: vs' => ckE sc a k && ckE sc b v && ckD sc r ks' vs'
    | _, _ => false
end
end
end DL
end

section
set_option Elab.async false
set_option linter.all false
set_option maxRecDepth 100000
set_option maxHeartbeats 4000000
/-! DL, soundness: contexts, simple rules by the checker's words. -/
namespace DL
open PySem PySem.Spec PyProof.Rows L2 PySem.W

/-- what the text has -/
structure WOk (P : Program) (w : World) (K : PySem.W.Frag) (mg : Str → Option Value) (base : Heap) (cA : Nat → Addr) (k : Nat) (T : Tab) (Γ : Pg) (F : Fun) : Prop where
  cls : (T.flds ≠ [] ∨ Γ.cls ≠ []) → ∀ c, Cls K (cA c)
  noat : ∀ f ∈ T.flds, ∀ c, NoAttr K (cA c) f
  fns : ∀ x f, T.fnm.lookup x = some f → ∃ fA n, mg x = some (.ref fA) ∧ DefOk P w K mg base cA k fA n (F f)
  mths : ∀ m, MthOk P w K mg base cA k Γ F m
  news : ∀ c, NewOk P w K mg base cA k Γ F c
  clsn : ∀ x c, T.cln.lookup x = some c → mg x = some (.ref (cA c))
  cons : ∀ x j, T.con.lookup x = some j → ∃ d u v, Γ.consts[j]? = some d ∧ mg x = some u ∧ RelV v u ∧ ∀ α s H, Rp K w α s H d v
  blt : ∀ x ∈ bltNames, mg x = none
/-- the context of code under the scope sc -/
structure CtxOk (X : Cx) (cA : Nat → Addr) (k : Nat) (T : Tab) (Γ : Pg) (F : Fun) (N : List Str) (sc : Scope) (blk : Str → Bool) : Prop where
  w : WOk X.prog X.w X.K X.mg X.base cA k T Γ F
  calm : X.calm = true
  n : X.N = N
  nd : N.Nodup
  scope : X.env.scope = sc
  kind : sc.kind = .function
  room : Room (k + 1) X.A
  xe : X.xe = fun _ _ => False
  fn : ∀ x, blk x = true → X.fn x = true
section
variable {X : Cx} {cA : Nat → Addr} {k : Nat} {T : Tab} {Γ : Pg} {F : Fun} {N : List Str} {sc : Scope} {blk : Str → Bool}
theorem CtxOk.hu (C : CtxOk X cA k T Γ F N sc blk) : X.A.units + 100 < cLine := by have := C.room.un; omega
theorem CtxOk.room0 (C : CtxOk X cA k T Γ F N sc blk) : Room k X.A := C.room.mono (Nat.le_succ k)
theorem CtxOk.never (C : CtxOk X cA k T Γ F N sc blk) : PassesOwn (model X.prog X.w) X.A X.env X.xe := by
  rw [C.xe]
  exact PassesOwn.never
theorem CtxOk.gl (C : CtxOk X cA k T Γ F N sc blk) {x : Str} (h : glbC sc x = true) : L2.Gl X x ∧ (x == ("__debug__" : Str)) = false ∧ x ≠ "__name__" := by
  unfold glbC okN at h
  simp only [Bool.and_eq_true, beq_iff_eq, decide_eq_true_eq] at h
  obtain ⟨⟨⟨h1, _⟩, h2⟩, h3⟩ := h
  refine ⟨?_, h1, h2⟩
  show X.env.scope.names.lookup x = some .globalImplicit
  rw [C.scope]
  split at h3
  · assumption
  · cases h3
theorem CtxOk.loc (C : CtxOk X cA k T Γ F N sc blk) {x : Str} (h : locC sc blk x = true) : Loc X.env.scope x ∧ (X.fn x = true ∨ X.env.scope.names.lookup x = some .local) := by
  unfold locC at h
  rw [C.scope]
  split at h
  · rename_i e
    exact ⟨.inl e, .inr e⟩
  · rename_i e
    exact ⟨.inr e, .inl (C.fn x h)⟩
  · cases h
theorem CtxOk.vis (C : CtxOk X cA k T Γ F N sc blk) {x : Str} (h : visC sc x = true) : Vis X.env.scope x := by
  unfold visC at h
  rw [C.scope]
  split at h
  · rename_i e; exact .inl e
  · rename_i e; exact .inr (.inl e)
  · rename_i e; exact .inr (.inr e)
  · cases h
/-- the context of a comprehension's block -/
theorem CtxOk.inner (C : CtxOk X cA k T Γ F N sc blk) {scope : Scope} {own : List (Str × Nat)} (ok : BlkOk X.N X.env.scope scope own) (s : Shared) (H : Hp) (L : Addr) (cl : List (Str × Addr)) (fp : List Addr) :
    CtxOk (X.blk s H scope (compEnvC scope cl L X.env) fp) cA k T Γ F N (relS scope sc) (fbB scope) where
  w := C.w
  calm := C.calm
  n := C.n
  nd := C.nd
  scope := by
    rw [← C.scope]
    rfl
  kind := ok.kind
  room := C.room
  xe := rfl
  fn := fun x h => h

/-! ### targets -/
mutual
theorem ckTg_ok (C : CtxOk X cA k T Γ F N sc blk) : ∀ (t : Tg) (x : Expr) (z : Bool), (z = true → tgTup t = true) → ckTg N sc blk t x = true → PG X x (gT X.K X.w z t)
  | .name i, x, z, hz, h => by
    unfold ckTg at h
    split at h
    · rw [Bool.and_eq_true, decide_eq_true_eq] at h
      have hz' : z = false := by cases z with
        | true => exact absurd (hz rfl) Bool.false_ne_true
        | false => rfl
      subst hz'
      obtain ⟨h1, h2⟩ := C.loc h.2
      exact pg_nameT (by rw [C.n]; exact C.nd) (by rw [C.n]; exact h.1) h1 h2
    · cases h
  | .tup ts, x, z, hz, h => by
    unfold ckTg at h
    split at h
    · rename_i es _ _
      obtain ⟨h1, h2, h3⟩ := ckTgs_ok C ts es h
      exact pg_tupT C.calm h1 h2 h3
    · cases h
theorem ckTgs_ok (C : CtxOk X cA k T Γ F N sc blk) : ∀ (ts : List Tg) (xs : List Expr), ckTgs N sc blk ts xs = true → PGs X xs (gTs X.K X.w ts) ∧ (assignEach xs X.env).length = ts.length ∧ (assignEach xs X.env).findIdx? (·.1) = none
  | [], xs, h => by
    unfold ckTgs at h
    split at h
    · exact ⟨pgs_nilT, rfl, rfl⟩
    · cases h
  | t :: ts, xs, h => by
    unfold ckTgs at h
    split at h
    · rename_i x r
      rw [Bool.and_eq_true] at h
      obtain ⟨h1, h2, h3⟩ := ckTgs_ok C ts r h.2
      have g := ckTg_ok C t x false (fun z => by cases z) h.1
      have e : assignEach (x :: r) X.env = (false, assign x X.env) :: assignEach r X.env := by
        have hx := h.1
        cases t with
        | name i =>
          unfold ckTg at hx
          split at hx
          · rfl
          · cases hx
        | tup _ =>
          unfold ckTg at hx
          split at hx
          · rfl
          · cases hx
      refine ⟨pgs_consT g h1 (by rw [e]; rfl), by rw [e, List.length_cons, h2]; rfl, ?_⟩
      rw [e, List.findIdx?_cons]
      simp [h3]
    · cases h
end
mutual
theorem within_ok {own : List Nat} : ∀ (t : Tg), t.within own = true → ∀ i ∈ t.nm, i ∈ own
  | .name j, h, i, hi => by
    have : i = j := by simpa [Tg.nm] using hi
    subst this
    exact of_decide_eq_true h
  | .tup ts, h, i, hi => withins_ok ts h i hi
theorem withins_ok {own : List Nat} : ∀ (ts : List Tg), Tg.withins own ts = true → ∀ i ∈ Tg.nms ts, i ∈ own
  | [], _, i, hi => by cases hi
  | t :: ts, h, i, hi => by
    have h : (t.within own && Tg.withins own ts) = true := h
    rw [Bool.and_eq_true] at h
    have hi : i ∈ t.nm ++ Tg.nms ts := hi
    rcases List.mem_append.mp hi with hi | hi
    · exact within_ok t h.1 i hi
    · exact withins_ok ts h.2 i hi
end
theorem ownP_snd (N : List Str) (own : List Nat) : (ownP N own).map (·.2) = own := by
  unfold ownP
  rw [List.map_map]
  exact List.map_id own

/-! ### built-in functions -/
theorem CtxOk.blt (C : CtxOk X cA k T Γ F N sc blk) {x : Str} (h : x ∈ bltNames) : X.mg x = none := C.w.blt x h
theorem ok_simple {b : Bi} {c fb : Bool} {n : Str} (C : CtxOk X cA k T Γ F N sc blk) (hb : biCall b = some (fb, n)) (hc : b = .minl → c = false) {e : Expr} {es : List Expr} {fl : Rho → Sto → Res (List D)} {p pos : Pos} (hg : glbC sc n = true) (ha : PA X (e :: es) (tL X.K X.w cA fl)) (hs : noStar (e :: es) = true) :
    Ok X cA (.Call (.Name n p) (e :: es) [] pos) (fun ρ s => bnd (fl ρ s) fun xs s1 => gBi b c xs s1) := by
  obtain ⟨g1, g2, g3⟩ := C.gl hg
  have hu := C.hu
  have cm := C.calm
  cases b <;> first
    | (cases hb; done)
    | (cases hb
       first
         | exact ok_callB (call_lenD c) g1 (C.blt (by decide)) (by decide +kernel) ha hs g3 g2
         | exact ok_callB (call_absD c) g1 (C.blt (by decide)) (by decide +kernel) ha hs g3 g2
         | exact ok_callB (call_max2D cm c) g1 (C.blt (by decide)) (by decide +kernel) ha hs g3 g2
         | exact ok_callB (call_min2D cm c) g1 (C.blt (by decide)) (by decide +kernel) ha hs g3 g2
         | exact ok_callB (call_sumD cm c) g1 (C.blt (by decide)) (by decide +kernel) ha hs g3 g2
         | exact ok_callB (call_anyD cm c) g1 (C.blt (by decide)) (by decide +kernel) ha hs g3 g2
         | exact ok_callB (call_allD cm c) g1 (C.blt (by decide)) (by decide +kernel) ha hs g3 g2
         | exact ok_callB (call_maxlD cm c) g1 (C.blt (by decide)) (by decide +kernel) ha hs g3 g2
         | exact ok_callB (call_sortedD hu cm c) g1 (C.blt (by decide)) (by decide +kernel) ha hs g3 g2
         | (cases hc rfl; exact ok_callB (call_minlD hu cm) g1 (C.blt (by decide)) (by decide +kernel) ha hs g3 g2)
         | exact ok_callTy (call_intD c) g1 (C.blt (by decide)) (by decide +kernel) ha hs g3 g2
         | exact ok_callTy (call_strD c) g1 (C.blt (by decide)) (by decide +kernel) ha hs g3 g2
         | exact ok_callTy (call_listD cm c) g1 (C.blt (by decide)) (by decide +kernel) ha hs g3 g2
         | exact ok_callTy (call_tupleD c) g1 (C.blt (by decide)) (by decide +kernel) ha hs g3 g2
         | exact ok_callTy (call_dictD hu cm c) g1 (C.blt (by decide)) (by decide +kernel) ha hs g3 g2)
end
end DL
end

section
set_option Elab.async false
set_option linter.all false
set_option maxRecDepth 100000
set_option maxHeartbeats 8000000
/-! DL, soundness of expressions. -/
namespace DL
open PySem PySem.Spec PyProof.Rows L2 PySem.W
section
variable {cA : Nat → Addr} {k : Nat} {T : Tab} {Γ : Pg} {F : Fun} {N : List Str}
theorem fold_plain {e : Expr} {env : Env} {x : Value} (h : isSetE e = false) : foldedSetIterable e env x = pure x := by
  cases e with
  | Set _ _ _ => cases h
  | _ => rfl
theorem plainIx {q : Expr} (h : isSlice q = false) : PlainIx q := fun o i => by
  cases q with
  | Slice _ _ _ _ => cases h
  | _ => rfl
theorem bnd_assoc {α β γ : Type} {x : Res α} {f : α → Sto → Res β} {g : β → Sto → Res γ} : bnd (bnd x f) g = bnd x fun a s => bnd (f a s) g := by
  unfold bnd
  cases x <;> rfl
theorem isArg_some {sc : Scope} {n ty : Str} {args : List Expr} {a : Expr} (h : isArg sc n ty args = some a) : ∃ p, args = [a, .Name ty p] ∧ n = ("isinstance" : Str) ∧ glbC sc ty = true ∧ isStar a = false := by
  unfold isArg at h
  split at h
  · rename_i a' m p
    split at h
    · rename_i hc
      cases h
      simp only [Bool.and_eq_true, decide_eq_true_eq, Bool.not_eq_true'] at hc
      obtain ⟨⟨⟨h1, h2⟩, h3⟩, h4⟩ := hc
      subst h3
      exact ⟨p, rfl, h1, h2, h4⟩
    · cases h
  · cases h
section
variable {X : Cx} {sc : Scope} {blk : Str → Bool}
/-- a loop's source by the checker's words -/
theorem src_ok (C : CtxOk X cA k T Γ F N sc blk) {tg it : Expr} {kk : Nat} {tt : Bool} {src : List E} {xs : List Expr} (hs : srcArgs sc tt kk it = some xs) (htt : tt = true → ∃ es k p, tg = .Tuple es k p) (ha : ckL T Γ N sc src xs = true → PA X xs (tL X.K X.w cA (evL Γ F src)))
    (he : ∀ e, src = [e] → ∀ x, xs = [x] → ckL T Γ N sc src xs = true → Ok X cA x (evE Γ F e)) (hc : ckL T Γ N sc src xs = true) : PI X tg it (iWalk X.K X.w cA kk (evL Γ F src)) ∧ ∀ env x, foldedSetIterable it env x = pure x := by
  unfold srcArgs at hs
  split at hs
  · split at hs
    · cases hs
    · rename_i h0
      cases hs
      rw [Bool.or_eq_true, not_or, Bool.not_eq_true, Bool.not_eq_true] at h0
      have hl : ∃ e, src = [e] := by
        cases src with
        | nil => cases hc
        | cons e es =>
          cases es with
          | nil => exact ⟨e, rfl⟩
          | cons e2 es =>
            exfalso
            unfold ckL at hc
            dsimp only at hc
            rw [Bool.and_eq_true] at hc
            have := hc.2
            unfold ckL at this
            cases this
      obtain ⟨e, rfl⟩ := hl
      exact ⟨pi_own (he e rfl it rfl hc).pe, fun env x => fold_plain h0.1⟩
  · split at hs
    · split at hs
      · rename_i h0
        cases hs
        simp only [Bool.and_eq_true, decide_eq_true_eq, Bool.not_eq_true'] at h0
        obtain ⟨⟨h1, h2⟩, h3⟩ := h0
        subst h2
        exact ⟨pi_rng1 (C.gl h1).1 (C.blt (by decide)) (ha hc) (star_cons h3), fun _ _ => rfl⟩
      · cases hs
    · cases hs
  · split at hs
    · split at hs
      · rename_i h0
        cases hs
        simp only [Bool.and_eq_true, decide_eq_true_eq] at h0
        obtain ⟨⟨h1, h2⟩, h3⟩ := h0
        subst h2
        have h4 := noStar_cons h3
        have h5 := noStar_cons h4.2
        exact ⟨pi_rng2 (C.gl h1).1 (C.blt (by decide)) (ha hc) (by rw [star_cons h4.1, star_cons h5.1]; rfl) (star_cons h5.1), fun _ _ => rfl⟩
      · cases hs
    · cases hs
  · unfold zipArgs at hs
    split at hs
    · split at hs
      · rename_i h0
        cases hs
        simp only [Bool.and_eq_true, decide_eq_true_eq] at h0
        obtain ⟨⟨⟨h1, h2⟩, h3⟩, h4⟩ := h0
        subst h2
        obtain ⟨es, k', p', rfl⟩ := htt h4
        exact ⟨pi_zipD (C.gl h1).1 (C.blt (by decide)) (ha hc) (star_cons (noStar_cons h3).1) (star_any (noStar_cons h3).2), fun _ _ => rfl⟩
      · cases hs
    · cases hs
  · cases hs
end
end
end DL
end

section
set_option Elab.async false
set_option linter.all false
set_option maxRecDepth 100000
set_option maxHeartbeats 16000000
/-! DL, soundness of expressions: the induction. -/
namespace DL
open PySem PySem.Spec PyProof.Rows L2 PySem.W
section
variable {cA : Nat → Addr} {k : Nat} {T : Tab} {Γ : Pg} {F : Fun} {N : List Str}
theorem tg_tup {tt : Tg} {tg : Expr} {sc : Scope} {blk : Str → Bool} (h : ckTg N sc blk tt tg = true) : tgTup tt = true → ∃ es k p, tg = .Tuple es k p := fun ht => by
  cases tt with
  | name _ => cases ht
  | tup ts =>
    unfold ckTg at h
    split at h
    · exact ⟨_, _, _, rfl⟩
    · cases h
theorem src_tup {sc : Scope} {tt : Tg} {kk : Nat} {it : Expr} {xs : List Expr} (h : srcArgs sc (tgTup tt) kk it = some xs) : (kk == 3) = true → tgTup tt = true := fun h3 => by
  have : kk = 3 := by simpa using h3
  subst this
  unfold srcArgs at h
  have h : zipArgs sc (tgTup tt) it = some xs := h
  unfold zipArgs at h
  split at h
  · split at h
    · rename_i h0
      simp only [Bool.and_eq_true] at h0
      exact h0.2
    · cases h
  · cases h
theorem pts_ok {X : Cx} {es : List E} {xs : List Expr} (hl : es.length ≤ 1) (hn : es = [] → xs = []) (h1 : ∀ e, es = [e] → ∃ x, xs = [x] ∧ PT X x (tT X.K X.w cA (evE Γ F e))) : PTs X xs (tT X.K X.w cA (evC Γ F es)) := by
  match es, hl with
  | [], _ => rw [hn rfl]; exact pts_nilD
  | [e], _ =>
    obtain ⟨x, rfl, h⟩ := h1 e rfl
    exact pts_oneD h
  | _ :: _ :: _, hl => exact absurd hl (by simp)
theorem ckL_one {sc : Scope} {es : List E} {x : Expr} (h : ckL T Γ N sc es [x] = true) : ∃ e, es = [e] := by
  cases es with
  | nil => cases h
  | cons e es =>
    cases es with
    | nil => exact ⟨e, rfl⟩
    | cons e2 es =>
      exfalso
      unfold ckL at h
      dsimp only at h
      rw [Bool.and_eq_true] at h
      have := h.2
      unfold ckL at this
      cases this
theorem ckL_ok1 {X : Cx} {sc : Scope} {e : E} {x : Expr} (he : ∀ x, ckE T Γ N sc e x = true → Ok X cA x (evE Γ F e)) (h : ckL T Γ N sc [e] [x] = true) : Ok X cA x (evE Γ F e) := by
  unfold ckL at h
  dsimp only at h
  rw [Bool.and_eq_true] at h
  exact he x h.1
theorem ckL_ok1' {sc : Scope} {e : E} {es : List E} {x : Expr} (h : ckL T Γ N sc (e :: es) [x] = true) : ckE T Γ N sc e x = true := by
  unfold ckL at h
  dsimp only at h
  rw [Bool.and_eq_true] at h
  exact h.1
theorem ckL_len {sc : Scope} : ∀ {es : List E} {xs : List Expr}, ckL T Γ N sc es xs = true → es.length = xs.length
  | [], xs, h => by
    unfold ckL at h
    split at h
    · rfl
    · cases h
  | e :: es, xs, h => by
    unfold ckL at h
    split at h
    · rw [Bool.and_eq_true] at h
      simp [ckL_len h.2]
    · cases h
theorem src_star {sc : Scope} {tt : Bool} {kk : Nat} {it : Expr} {xs : List Expr} (hs : srcArgs sc tt kk it = some xs) : noStar xs = true := by
  have one : ∀ {a : Expr}, isStar a = false → noStar [a] = true := fun {a} h => by
    unfold noStar
    rw [List.all_cons, h]
    rfl
  unfold srcArgs at hs
  split at hs
  · split at hs
    · cases hs
    · rename_i h0
      cases hs
      rw [Bool.or_eq_true, not_or, Bool.not_eq_true, Bool.not_eq_true] at h0
      exact one h0.2
  · split at hs
    · split at hs
      · rename_i h0
        cases hs
        simp only [Bool.and_eq_true, decide_eq_true_eq, Bool.not_eq_true'] at h0
        exact one h0.2
      · cases hs
    · cases hs
  · split at hs
    · split at hs
      · rename_i h0
        cases hs
        simp only [Bool.and_eq_true] at h0
        exact h0.2
      · cases hs
    · cases hs
  · unfold zipArgs at hs
    split at hs
    · split at hs
      · rename_i h0
        cases hs
        simp only [Bool.and_eq_true] at h0
        exact h0.1.2
      · cases hs
    · cases hs
  · cases hs
theorem pts_from {X : Cx} {sc : Scope} {cond : List E} {ifs : List Expr} (hl : cond.length ≤ 1) (hc : ckL T Γ N sc cond ifs = true) (H : ∀ x, ckL T Γ N sc cond [x] = true → ∃ e, cond = [e] ∧ Ok X cA x (evE Γ F e)) : PTs X ifs (tT X.K X.w cA (evC Γ F cond)) := by
  have hn := ckL_len hc
  refine pts_ok hl (fun h0 => ?_) fun e he => ?_
  · subst h0
    exact List.eq_nil_of_length_eq_zero hn.symm
  · rw [he] at hn
    match ifs, hn with
    | [x], _ =>
      obtain ⟨e', h1, h2⟩ := H x hc
      rw [he] at h1
      cases h1
      exact ⟨x, rfl, h2.pt⟩
theorem evL_dct (a b : E) (r : List E) : (fun ρ s => bnd (evE Γ F a ρ s) fun x s1 => bnd (evE Γ F b ρ s1) fun y s2 => bnd (evL Γ F r ρ s2) fun l s3 => some (x :: y :: l, s3)) = evL Γ F (a :: b :: r) := by
  funext ρ s
  show _ = bnd (evE Γ F a ρ s) fun x s1 => bnd (bnd (evE Γ F b ρ s1) fun y s2 => bnd (evL Γ F r ρ s2) fun l s3 => some (y :: l, s3)) fun xs s2 => some (x :: xs, s2)
  congr 1
  funext x s1
  rw [bnd_assoc]
  congr 1
  funext y s2
  rw [bnd_assoc]
  congr 1
mutual
theorem ckE_ok : ∀ (e : E) (x : Expr) (X : Cx) (sc : Scope) (blk : Str → Bool), CtxOk X cA k T Γ F N sc blk → ckE T Γ N sc e x = true → Ok X cA x (evE Γ F e)
  | .var i fz, x, X, sc, blk, C, h => by
    unfold ckE at h
    split at h
    · unfold okN at h
      simp only [Bool.and_eq_true, beq_iff_eq, decide_eq_true_eq] at h
      obtain ⟨⟨⟨⟨h1, h2⟩, _⟩, h3⟩, h4⟩ := h
      exact .plain (pe_varD (by rw [C.n]; exact h3) (C.vis h4) h1 h2 fz) rfl
    · cases h
  | .const d, x, X, sc, blk, C, h => by
    unfold ckE at h
    split at h
    · split at h
      · exact .plain (pe_constD pe_non fun α s H => .none) rfl
      · have := of_decide_eq_true h
        subst this
        exact .plain (pe_constD pe_bl fun α s H => .bool _) rfl
      · have := of_decide_eq_true h
        subst this
        exact .plain (pe_constD pe_int fun α s H => .int _) rfl
      · have := of_decide_eq_true h
        subst this
        exact .plain (pe_constD pe_str fun α s H => .str _) rfl
      · cases h
    · cases h
  | .nil, x, X, sc, blk, C, h => by
    unfold ckE at h
    cases h
  | .glob j, x, X, sc, blk, C, h => by
    unfold ckE at h
    split at h
    · rw [Bool.and_eq_true, decide_eq_true_eq] at h
      obtain ⟨g1, g2, _⟩ := C.gl h.1
      obtain ⟨d, u, v, c1, c2, c3, c4⟩ := C.w.cons _ j h.2
      refine .plain (PE.weak (pe_constD (cA := cA) (d := d) (pe_glob g1 c2 c3 g2) c4) fun σ H Q q => ?_) rfl
      obtain ⟨α, s, ρ, d', s', R, E, e, P⟩ := q
      have e : (Γ.consts[j]?).map (fun d => (d, s)) = some (d', s') := e
      rw [c1] at e
      exact ⟨α, s, ρ, d', s', R, E, e, P⟩
    · cases h
  | .bin op a b c, x, X, sc, blk, C, h => by
    unfold ckE at h
    split at h
    · rename_i p o q pos
      simp only [Bool.and_eq_true, decide_eq_true_eq] at h
      obtain ⟨⟨h1, h2⟩, h3⟩ := h
      subst h1
      have := ok_bin (op := op) (k := c) (pos := pos) (ckE_ok a _ X sc blk C h2) (ckE_ok b _ X sc blk C h3)
      exact this
    · cases h
  | .neg a, x, X, sc, blk, C, h => by
    unfold ckE at h
    split at h
    · rename_i o p pos
      simp only [Bool.and_eq_true, decide_eq_true_eq] at h
      obtain ⟨h1, h2⟩ := h
      subst h1
      have := ok_neg (pos := pos) (ckE_ok a _ X sc blk C h2)
      exact this
    · cases h
  | .not a, x, X, sc, blk, C, h => by
    unfold ckE at h
    split at h
    · rename_i o p pos
      simp only [Bool.and_eq_true, decide_eq_true_eq] at h
      obtain ⟨h1, h2⟩ := h
      subst h1
      have := ok_not (pos := pos) (ckE_ok a _ X sc blk C h2)
      exact this
    · cases h
  | .and a b, x, X, sc, blk, C, h => by
    unfold ckE at h
    split at h
    · rename_i o p q r pos
      simp only [Bool.and_eq_true, decide_eq_true_eq] at h
      obtain ⟨⟨h1, h2⟩, h3⟩ := h
      subst h1
      have ha := ckE_ok a _ X sc blk C h2
      cases r with
      | nil =>
        have := ok_and (pos := pos) ha (ok_one (op := .And) (pos := pos) (ckE_ok b _ X sc blk C h3))
        exact this
      | cons r0 r =>
        have := ok_and (pos := pos) ha (ckE_ok b _ X sc blk C h3)
        exact this
    · cases h
  | .or a b, x, X, sc, blk, C, h => by
    unfold ckE at h
    split at h
    · rename_i o p q r pos
      simp only [Bool.and_eq_true, decide_eq_true_eq] at h
      obtain ⟨⟨h1, h2⟩, h3⟩ := h
      subst h1
      have ha := ckE_ok a _ X sc blk C h2
      cases r with
      | nil =>
        have := ok_or (pos := pos) ha (ok_one (op := .Or) (pos := pos) (ckE_ok b _ X sc blk C h3))
        exact this
      | cons r0 r =>
        have := ok_or (pos := pos) ha (ckE_ok b _ X sc blk C h3)
        exact this
    · cases h
  | .ite t a b, x, X, sc, blk, C, h => by
    unfold ckE at h
    split at h
    · rename_i p q r pos
      simp only [Bool.and_eq_true] at h
      obtain ⟨⟨h1, h2⟩, h3⟩ := h
      have := ok_ite (pos := pos) (ckE_ok t _ X sc blk C h1) (ckE_ok a _ X sc blk C h2) (ckE_ok b _ X sc blk C h3)
      exact this
    · cases h
  | .cmp op a b, x, X, sc, blk, C, h => by
    unfold ckE at h
    split at h
    · rename_i p o q pos
      simp only [Bool.and_eq_true, decide_eq_true_eq, Bool.not_eq_true'] at h
      obtain ⟨⟨⟨h1, h2⟩, h3⟩, h4⟩ := h
      subst h1
      have := ok_cmp (op := op) (pos := pos) C.hu (ckE_ok a _ X sc blk C h3) (ckE_ok b _ X sc blk C h4) h2
      exact this
    · cases h
  | .call f es, x, X, sc, blk, C, h => by
    unfold ckE at h
    split at h
    · rename_i n _ args _
      simp only [Bool.and_eq_true, decide_eq_true_eq] at h
      obtain ⟨⟨⟨h1, h2⟩, h3⟩, h4⟩ := h
      obtain ⟨fA, np, m1, m2⟩ := C.w.fns _ _ h2
      obtain ⟨g1, g2, g3⟩ := C.gl h1
      have ha := ckL_ok es args X sc blk C h3 h4
      cases args with
      | nil =>
        cases es with
        | nil => exact ok_call0 m2 C.room0 g1 m1 g2
        | cons _ _ => unfold ckL at h4; cases h4
      | cons a args => exact ok_call m2 C.room0 g1 m1 g2 ha h3
    · cases h
  | .new c es, x, X, sc, blk, C, h => by
    unfold ckE at h
    split at h
    · rename_i n _ args _
      simp only [Bool.and_eq_true, decide_eq_true_eq] at h
      obtain ⟨⟨⟨⟨h1, h2⟩, h5⟩, h3⟩, h4⟩ := h
      obtain ⟨g1, g2, g3⟩ := C.gl h1
      have hi : ∃ cl f, Γ.cls[c]? = some cl ∧ cl.init = some f := by
        cases hc : Γ.cls[c]? with
        | none => rw [hc] at h5; cases h5
        | some cl =>
          rw [hc] at h5
          cases hi : cl.init with
          | none => rw [Option.bind_some, hi] at h5; cases h5
          | some f => exact ⟨cl, f, rfl, hi⟩
      have ha := ckL_ok es args X sc blk C h3 h4
      cases args with
      | nil =>
        cases es with
        | nil => exact ok_new0 (C.w.news c) hi C.room g1 (C.w.clsn _ _ h2) g2
        | cons _ _ => unfold ckL at h4; cases h4
      | cons a args => exact ok_new (C.w.news c) hi C.room g1 (C.w.clsn _ _ h2) g2 ha h3
    · cases h
  | .mth m o es, x, X, sc, blk, C, h => by
    unfold ckE at h
    split at h
    · rename_i p m' apos args pos
      simp only [Bool.and_eq_true, decide_eq_true_eq, Bool.not_eq_true'] at h
      obtain ⟨⟨⟨⟨⟨⟨⟨h1, h0⟩, h2⟩, h3⟩, h4⟩, h5⟩, h6⟩, h7⟩ := h
      have hc : Γ.cls ≠ [] := fun e => by rw [e] at h0; cases h0
      subst h1
      have ho := ckE_ok o _ X sc blk C h6
      have ha := ckL_ok es args X sc blk C h4 h7
      have ht := ht_of (m := m') (env := X.env) h3 h4 h5 h2
      cases args with
      | nil =>
        cases es with
        | nil => exact ok_mth0 (C.w.cls (.inr hc)) (C.w.mths m') C.room0 ho.pe ht
        | cons _ _ => unfold ckL at h7; cases h7
      | cons a args => exact ok_mth (C.w.cls (.inr hc)) (C.w.mths m') C.room0 ho.pe ha h4 ht
    · cases h
  | .bi b es c, x, X, sc, blk, C, h => by
    unfold ckE at h
    split at h
    · rename_i n p args pos
      rw [Bool.and_eq_true] at h
      obtain ⟨hg, h⟩ := h
      split at h
      · rename_i fb m hb
        simp only [Bool.and_eq_true, decide_eq_true_eq, Bool.not_eq_true', Bool.or_eq_true] at h
        obtain ⟨⟨⟨⟨h1, h2⟩, h3⟩, h5⟩, h4⟩ := h
        subst h1
        have ha := ckL_ok es args X sc blk C h3 h4
        cases args with
        | nil => cases h2
        | cons a args => exact ok_simple C hb (fun hm => h5.resolve_left (fun z => z hm)) hg ha h3
      · split at h
        · rw [Bool.and_eq_true, decide_eq_true_eq] at h
          obtain ⟨h1, h2⟩ := h
          subst h1
          split at h2
          · obtain ⟨g1, g2, g3⟩ := C.gl hg
            exact ok_callTy0 (call_dict0D c) g1 (C.blt (by decide)) (by decide +kernel) g3 g2
          · cases h2
        · split at h
          · rename_i a ha
            obtain ⟨p2, rfl, rfl, i1, i2⟩ := isArg_some ha
            obtain ⟨e0, rfl⟩ := ckL_one h
            obtain ⟨g1, _, _⟩ := C.gl hg
            obtain ⟨k1, k2, k3⟩ := C.gl i1
            exact ok_isinst (call_isint c) g1 (C.blt (by decide)) k1 (C.blt (by decide)) (by decide +kernel) k3 k2 (ckL_ok1 (fun x => ckE_ok e0 x X sc blk C) h).pe i2
          · cases h
        · split at h
          · rename_i a ha
            obtain ⟨p2, rfl, rfl, i1, i2⟩ := isArg_some ha
            obtain ⟨e0, rfl⟩ := ckL_one h
            obtain ⟨g1, _, _⟩ := C.gl hg
            obtain ⟨k1, k2, k3⟩ := C.gl i1
            exact ok_isinst (call_isbool c) g1 (C.blt (by decide)) k1 (C.blt (by decide)) (by decide +kernel) k3 k2 (ckL_ok1 (fun x => ckE_ok e0 x X sc blk C) h).pe i2
          · cases h
        · split at h
          · rename_i a ha
            obtain ⟨p2, rfl, rfl, i1, i2⟩ := isArg_some ha
            obtain ⟨e0, rfl⟩ := ckL_one h
            obtain ⟨g1, _, _⟩ := C.gl hg
            obtain ⟨k1, k2, k3⟩ := C.gl i1
            exact ok_isinst (call_isstr c) g1 (C.blt (by decide)) k1 (C.blt (by decide)) (by decide +kernel) k3 k2 (ckL_ok1 (fun x => ckE_ok e0 x X sc blk C) h).pe i2
          · cases h
        · split at h
          · rename_i a ha
            obtain ⟨p2, rfl, rfl, i1, i2⟩ := isArg_some ha
            obtain ⟨e0, rfl⟩ := ckL_one h
            obtain ⟨g1, _, _⟩ := C.gl hg
            obtain ⟨k1, k2, k3⟩ := C.gl i1
            exact ok_isinst (call_istuple c) g1 (C.blt (by decide)) k1 (C.blt (by decide)) (by decide +kernel) k3 k2 (ckL_ok1 (fun x => ckE_ok e0 x X sc blk C) h).pe i2
          · cases h
        · rw [Bool.and_eq_true, decide_eq_true_eq] at h
          obtain ⟨h1, h⟩ := h
          subst h1
          split at h
          · simp only [Bool.and_eq_true, decide_eq_true_eq, Bool.not_eq_true'] at h
            obtain ⟨⟨⟨h1, h2⟩, h3⟩, h4⟩ := h
            subst h2
            obtain ⟨e0, rfl⟩ := ckL_one h4
            exact ok_sortset C.calm (C.gl hg).1 (C.blt (by decide)) (C.gl h1).1 (C.blt (by decide)) (ckL_ok1 (fun x => ckE_ok e0 x X sc blk C) h4).pe h3
          · cases h
        · rw [Bool.and_eq_true, decide_eq_true_eq] at h
          obtain ⟨h1, h⟩ := h
          subst h1
          split at h
          · simp only [Bool.and_eq_true, decide_eq_true_eq, Bool.not_eq_true'] at h
            obtain ⟨⟨⟨h1, h2⟩, h3⟩, h4⟩ := h
            subst h2
            obtain ⟨e0, rfl⟩ := ckL_one h4
            exact ok_listrange C.calm (C.gl hg).1 (C.blt (by decide)) (C.gl h1).1 (C.blt (by decide)) (ckL_ok1 (fun x => ckE_ok e0 x X sc blk C) h4).pe h3
          · cases h
        · rw [Bool.and_eq_true, decide_eq_true_eq] at h
          obtain ⟨h1, h⟩ := h
          subst h1
          split at h
          · simp only [Bool.and_eq_true, decide_eq_true_eq] at h
            obtain ⟨⟨⟨h1, h2⟩, h3⟩, h4⟩ := h
            subst h2
            exact ok_dictzip C.hu C.calm (C.gl hg).1 (C.blt (by decide)) (C.gl h1).1 (C.blt (by decide)) (ckL_ok es _ X sc blk C h3 h4) h3
          · cases h
        · cases h
    · cases h
  | .bm m o es, x, X, sc, blk, C, h => by
    unfold ckE at h
    split at h
    · rename_i p m' apos args pos
      simp only [Bool.and_eq_true, decide_eq_true_eq, Bool.not_eq_true'] at h
      obtain ⟨⟨⟨⟨⟨⟨⟨h1, h8⟩, h2⟩, h3⟩, h4⟩, h5⟩, h6⟩, h7⟩ := h
      subst h1
      have ho := ckE_ok o _ X sc blk C h6
      have ha := ckL_ok es args X sc blk C h4 h7
      refine .plain ?_ rfl
      have := pe_bmD (bmOk_all C.hu m h8) (apos := apos) (cpos := pos) ho.pe ha (base_of h3) (few_of h4 h5) h2 (star_any h4) (fun e r he => star_cons (by rw [he] at h4; exact (noStar_cons h4).1))
      exact this
    · cases h
  | .fld o f, x, X, sc, blk, C, h => by
    unfold ckE at h
    split at h
    · rename_i p f' pos
      simp only [Bool.and_eq_true, decide_eq_true_eq, Bool.not_eq_true'] at h
      obtain ⟨⟨⟨h1, h2⟩, h3⟩, h4⟩ := h
      subst h1
      have := ok_fld (pos := pos) (C.w.cls (.inl (List.ne_nil_of_mem h2))) (C.w.noat _ h2) (ckE_ok o _ X sc blk C h4).pe (base_of h3)
      exact this
    · cases h
  | .tup es, x, X, sc, blk, C, h => by
    unfold ckE at h
    split at h
    · rename_i xs kk pos
      rw [Bool.and_eq_true] at h
      have := ok_tup (pos := pos) (k := kk) (ckL_ok es _ X sc blk C h.1 h.2)
      exact this
    · cases h
  | .lst es c, x, X, sc, blk, C, h => by
    unfold ckE at h
    split at h
    · rename_i xs pos
      rw [Bool.and_eq_true] at h
      have := ok_lst (pos := pos) (k := c) (ckL_ok es _ X sc blk C h.1 h.2)
      exact this
    · cases h
  | .dct es c, x, X, sc, blk, C, h => by
    unfold ckE at h
    split at h
    · rename_i ks vs pos
      simp only [Bool.and_eq_true, decide_eq_true_eq] at h
      obtain ⟨⟨h1, h2⟩, h3⟩ := h
      obtain ⟨q1, q2⟩ := ckD_ok es ks vs pos X sc blk C h3
      refine .plain ?_ rfl
      cases ks with
      | nil =>
        cases vs with
        | cons _ _ => cases h1
        | nil =>
          cases es with
          | nil =>
            have := pe_disp0D (X := X) (cA := cA) (pos := pos) c
            exact this
          | cons a r =>
            cases r with
            | nil => unfold ckD at h3; cases h3
            | cons b r => unfold ckD at h3; cases h3
      | cons k0 ks =>
        have := pe_dispD C.hu q1 q2 h1 (by simp) h2 c
        exact this
    · cases h
  | .idx a i, x, X, sc, blk, C, h => by
    unfold ckE at h
    split at h
    · rename_i p q pos
      simp only [Bool.and_eq_true, Bool.not_eq_true'] at h
      obtain ⟨⟨h1, h2⟩, h3⟩ := h
      have := ok_idx (pos := pos) C.hu (ckE_ok a _ X sc blk C h2) (ckE_ok i _ X sc blk C h3) (plainIx h1)
      exact this
    · cases h
  | .slc a lo hi c, x, X, sc, blk, C, h => by
    unfold ckE at h
    split at h
    · rename_i p l hh pp2 pos
      simp only [Bool.and_eq_true] at h
      obtain ⟨⟨h1, h2⟩, h3⟩ := h
      have p1 : OkP X cA l (evE Γ F lo) := by
        cases l with
        | none =>
          cases lo <;> first
            | exact okP_none
            | cases h2
        | some y => exact okP_some (ckE_ok lo _ X sc blk C h2)
      have p2 : OkP X cA hh (evE Γ F hi) := by
        cases hh with
        | none =>
          cases hi <;> first
            | exact okP_none
            | cases h3
        | some y => exact okP_some (ckE_ok hi _ X sc blk C h3)
      have := ok_slc (k := c) (pos := pos) (p2 := pp2) (ckE_ok a _ X sc blk C h1) p1 p2
      exact this
    · cases h
  | .rev a c, x, X, sc, blk, C, h => by
    unfold ckE at h
    split at h
    · rename_i p kk pp1 pp2 pp3 pos
      have := ok_rev (c := c) (k := kk) (p1 := pp1) (p2 := pp2) (p3 := pp3) (pos := pos) (ckE_ok a _ X sc blk C h)
      exact this
    · cases h
  | .lc elt tg kk src cond own c, x, X, sc, blk, C, h => by
    unfold ckE at h
    split at h
    · rename_i y tg' it ifs z scope pos
      simp only [Bool.and_eq_true, decide_eq_true_eq] at h
      obtain ⟨⟨⟨⟨⟨⟨⟨hz, hb⟩, hw⟩, hs⟩, ht⟩, hl⟩, hc⟩, he⟩ := h
      subst hz
      split at hs
      · rename_i xs hx
        have ok : BlkOk X.N X.env.scope scope (ownP N own) := by
          rw [C.n, C.scope]
          exact blkOk_by hb
        have S := src_ok (F := F) (tg := tg') C hx (tg_tup ht) (ckL_ok src xs X sc blk C (src_star hx)) (fun e he x hxx hcc => by
          subst hxx
          obtain ⟨e', h1, h2⟩ := ck1_ok src x X sc blk C hcc
          rw [he] at h1
          cases h1
          exact h2) hs
        have := pe_lcD (pos := pos) (c := c) C.calm (by rw [C.n]; exact C.nd) S.1 ok (fun s H L cl fp => ckTg_ok (C.inner ok s H L cl fp) tg tg' (kk == 3) (src_tup hx) ht)
          (fun s H L cl fp => pts_from hl hc fun x hxx => ck1_ok cond x _ _ _ (C.inner ok s H L cl fp) hxx)
          (fun s H L cl fp => (ckE_ok elt y _ _ _ (C.inner ok s H L cl fp) he).pe) (S.2 _) (by rw [ownP_snd]; exact within_ok tg hw)
        rw [ownP_snd] at this
        exact .plain this rfl
      · cases hs
    · cases h
  | .lc2 elt tg kk src cond0 tg1 k1 src1 cond own own1 c, x, X, sc, blk, C, h => by
    unfold ckE at h
    split at h
    · rename_i y tg' it ifs z tg1' it1 ifs1 z1 scope pos
      simp only [Bool.and_eq_true, decide_eq_true_eq] at h
      obtain ⟨⟨⟨⟨⟨⟨⟨⟨⟨⟨⟨⟨⟨⟨hz, hz1⟩, hb⟩, hw⟩, hw1⟩, ho⟩, hs⟩, ht⟩, hl⟩, hc⟩, hs1⟩, ht1⟩, hl1⟩, hc1⟩, he⟩ := h
      subst hz hz1
      split at hs
      · rename_i xs hx
        split at hs1
        · rename_i xs1 hx1
          have ok : BlkOk X.N X.env.scope scope (ownP N own) := by
            rw [C.n, C.scope]
            exact blkOk_by hb
          have S := src_ok (F := F) (tg := tg') C hx (tg_tup ht) (ckL_ok src xs X sc blk C (src_star hx)) (fun e he x hxx hcc => by
            subst hxx
            obtain ⟨e', h1, h2⟩ := ck1_ok src x X sc blk C hcc
            rw [he] at h1
            cases h1
            exact h2) hs
          have S1 : ∀ s H L cl fp, _ := fun s H L cl fp => src_ok (F := F) (tg := tg1') (C.inner ok s H L cl fp) hx1 (tg_tup ht1) (ckL_ok src1 xs1 _ _ _ (C.inner ok s H L cl fp) (src_star hx1)) (fun e he x hxx hcc => by
            subst hxx
            obtain ⟨e', h1, h2⟩ := ck1_ok src1 x _ _ _ (C.inner ok s H L cl fp) hcc
            rw [he] at h1
            cases h1
            exact h2) hs1
          have := pe_lc2D (pos := pos) (c := c) (own1 := own1) C.calm (by rw [C.n]; exact C.nd) S.1 ok (fun i hi => by
              rw [ownP_snd]
              have := List.all_eq_true.mp ho i hi
              exact of_decide_eq_true this) (fun s H L cl fp => ckTg_ok (C.inner ok s H L cl fp) tg tg' (kk == 3) (src_tup hx) ht)
            (fun s H L cl fp => pts_from hl hc fun x hxx => ck1_ok cond0 x _ _ _ (C.inner ok s H L cl fp) hxx)
            (fun s H L cl fp => (S1 s H L cl fp).1) (fun s H L cl fp => ckTg_ok (C.inner ok s H L cl fp) tg1 tg1' (k1 == 3) (src_tup hx1) ht1)
            (fun s H L cl fp => pts_from hl1 hc1 fun x hxx => ck1_ok cond x _ _ _ (C.inner ok s H L cl fp) hxx)
            (fun s H L cl fp => (ckE_ok elt y _ _ _ (C.inner ok s H L cl fp) he).pe) (S.2 _) (S1 X.s_0 X.H_0 0 [] []).2 (by rw [ownP_snd]; exact within_ok tg hw) (within_ok tg1 hw1)
          rw [ownP_snd] at this
          exact .plain this rfl
        · cases hs1
      · cases hs
    · cases h
theorem ck1_ok : ∀ (es : List E) (x : Expr) (X : Cx) (sc : Scope) (blk : Str → Bool), CtxOk X cA k T Γ F N sc blk → ckL T Γ N sc es [x] = true → ∃ e, es = [e] ∧ Ok X cA x (evE Γ F e)
  | [], x, X, sc, blk, C, h => by cases h
  | e :: es, x, X, sc, blk, C, h => by
    obtain ⟨e0, h0⟩ := ckL_one h
    have h1 := ckL_ok1' h
    exact ⟨e, by rw [(List.cons.inj h0).2], ckE_ok e x X sc blk C h1⟩
theorem ckL_ok : ∀ (es : List E) (xs : List Expr) (X : Cx) (sc : Scope) (blk : Str → Bool), CtxOk X cA k T Γ F N sc blk → noStar xs = true → ckL T Γ N sc es xs = true → PA X xs (tL X.K X.w cA (evL Γ F es))
  | [], xs, X, sc, blk, C, hs, h => by
    unfold ckL at h
    split at h
    · exact pa_nilO
    · cases h
  | e :: es, xs, X, sc, blk, C, hs, h => by
    unfold ckL at h
    split at h
    · rw [Bool.and_eq_true] at h
      have hs' := noStar_cons hs
      have := pa_consD (ckE_ok e _ X sc blk C h.1).pe (ckL_ok es _ X sc blk C hs'.2 h.2) (star_cons hs'.1)
      exact this
    · cases h
theorem ckD_ok : ∀ (es : List E) (ks : List (Option Expr)) (vs : List Expr) (pos : Pos) (X : Cx) (sc : Scope) (blk : Str → Bool), CtxOk X cA k T Γ F N sc blk → ckD T Γ N sc es ks vs = true → PPd X cA pos ks vs (evL Γ F es) ∧ ks.all (·.isSome) = true
  | [], ks, vs, pos, X, sc, blk, C, h => by
    unfold ckD at h
    rw [Bool.and_eq_true] at h
    cases ks with
    | cons _ _ => cases h.1
    | nil =>
      cases vs with
      | cons _ _ => cases h.2
      | nil => exact ⟨ppd_nil, rfl⟩
  | [_], ks, vs, pos, X, sc, blk, C, h => by
    unfold ckD at h
    cases h
  | a :: b :: r, ks, vs, pos, X, sc, blk, C, h => by
    unfold ckD at h
    split at h
    · simp only [Bool.and_eq_true] at h
      obtain ⟨⟨h1, h2⟩, h3⟩ := h
      obtain ⟨q1, q2⟩ := ckD_ok r _ _ pos X sc blk C h3
      refine ⟨?_, by rw [List.all_cons, q2]; rfl⟩
      rw [← evL_dct]
      exact ppd_cons (ckE_ok a _ X sc blk C h1).pe (ckE_ok b _ X sc blk C h2).pe q1
    · cases h
end
end
end DL
end

section
set_option Elab.async false
set_option linter.all false
set_option maxRecDepth 100000
set_option maxHeartbeats 16000000
/-! DL, statements by the checker's words. -/
namespace DL
open PySem PySem.Spec PyProof.Rows L2 PySem.W
section
variable {cA : Nat → Addr} {k : Nat} {T : Tab} {Γ : Pg} {F : Fun} {N : List Str} {X : Cx} {sc : Scope} {blk : Str → Bool}
/-- the list of a comprehension goes to a local name on its line -/
def lcSw (sc : Scope) (y : Str) (py : Pos) : Expr → Bool
  | .ListComp _ _ scope pos => decide (sc.names.lookup y = some .local) && (py.line == pos.line) && !(scope.names.any fun (n, k) => n == y && (k == .local || k == .cell))
  | _ => false
theorem setLc_ok (C : CtxOk X cA k T Γ F N sc blk) {e : E} {v : Expr} {i : Nat} {y : Str} {py spos : Pos} (hi : N[i]? = some y) (hl : isLc v = true) (hw : lcSw sc y py v = true) (h : ckE T Γ N sc e v = true) :
    PS X (.Assign [.Name y py] v spos) (tS X.K X.w cA (fAsg (evE Γ F e) (.name i))) := by
  cases e with
  | lc elt tg kk src cond own c =>
    unfold ckE at h
    split at h
    · rename_i z' tg' it ifs z scope pos
      simp only [Bool.and_eq_true, decide_eq_true_eq] at h
      obtain ⟨⟨⟨⟨⟨⟨⟨hz, hb⟩, hw'⟩, hs⟩, ht⟩, hl'⟩, hc⟩, he⟩ := h
      subst hz
      unfold lcSw at hw
      simp only [Bool.and_eq_true, decide_eq_true_eq, Bool.not_eq_true'] at hw
      obtain ⟨⟨w1, w2⟩, w3⟩ := hw
      have hyl : X.env.scope.names.lookup y = some .local := by rw [C.scope]; exact w1
      split at hs
      · rename_i xs hx
        have ok : BlkOk X.N X.env.scope scope (ownP N own) := by
          rw [C.n, C.scope]
          exact blkOk_by hb
        have S := src_ok (F := F) (tg := tg') C hx (tg_tup ht) (ckL_ok src xs X sc blk C (src_star hx)) (fun e he x hxx hcc => by
          subst hxx
          obtain ⟨e', h1, h2⟩ := ck1_ok src x X sc blk C hcc
          rw [he] at h1
          cases h1
          exact h2) hs
        have := ps_setLc (elt := z') (g := gT X.K X.w (kk == 3) tg) (tt := tT X.K X.w cA (evC Γ F cond)) (te := tE X.K X.w cA (evE Γ F elt)) (pos := pos) (spos := spos) (py := py) (i := i) (y := y) C.calm (by rw [C.n]; exact C.nd) (by rw [C.n]; exact hi) hyl (sw_true (by rw [C.scope]; exact C.kind) hyl w2 w3) S.1 ok (fun s H L cl fp => ckTg_ok (C.inner ok s H L cl fp) tg tg' (kk == 3) (src_tup hx) ht)
          (fun s H L cl fp => pts_from hl' hc fun x hxx => ck1_ok cond x _ _ _ (C.inner ok s H L cl fp) hxx)
          (fun s H L cl fp => (ckE_ok elt _ _ _ _ (C.inner ok s H L cl fp) he).pe) (S.2 _)
        rw [ownP_snd] at this
        exact PS.weak this fun D σ H q => rd_lc (c := c) (within_ok tg hw') (rd_asgN q)
      · cases hs
    · cases h
  | lc2 elt tg kk src cond0 tg1 k1 src1 cond own own1 c =>
    unfold ckE at h
    split at h
    · rename_i z' tg' it ifs z tg1' it1 ifs1 z1 scope pos
      simp only [Bool.and_eq_true, decide_eq_true_eq] at h
      obtain ⟨⟨⟨⟨⟨⟨⟨⟨⟨⟨⟨⟨⟨⟨hz, hz1⟩, hb⟩, hw'⟩, hw1⟩, ho⟩, hs⟩, ht⟩, hl'⟩, hc⟩, hs1⟩, ht1⟩, hl1⟩, hc1⟩, he⟩ := h
      subst hz hz1
      unfold lcSw at hw
      simp only [Bool.and_eq_true, decide_eq_true_eq, Bool.not_eq_true'] at hw
      obtain ⟨⟨w1, w2⟩, w3⟩ := hw
      have hyl : X.env.scope.names.lookup y = some .local := by rw [C.scope]; exact w1
      split at hs
      · rename_i xs hx
        split at hs1
        · rename_i xs1 hx1
          have ok : BlkOk X.N X.env.scope scope (ownP N own) := by
            rw [C.n, C.scope]
            exact blkOk_by hb
          have S := src_ok (F := F) (tg := tg') C hx (tg_tup ht) (ckL_ok src xs X sc blk C (src_star hx)) (fun e he x hxx hcc => by
            subst hxx
            obtain ⟨e', h1, h2⟩ := ck1_ok src x X sc blk C hcc
            rw [he] at h1
            cases h1
            exact h2) hs
          have S1 : ∀ s H L cl fp, _ := fun s H L cl fp => src_ok (F := F) (tg := tg1') (C.inner ok s H L cl fp) hx1 (tg_tup ht1) (ckL_ok src1 xs1 _ _ _ (C.inner ok s H L cl fp) (src_star hx1)) (fun e he x hxx hcc => by
            subst hxx
            obtain ⟨e', h1, h2⟩ := ck1_ok src1 x _ _ _ (C.inner ok s H L cl fp) hcc
            rw [he] at h1
            cases h1
            exact h2) hs1
          have := ps_setLc2 (elt := z') (g := gT X.K X.w (kk == 3) tg) (tt := tT X.K X.w cA (evC Γ F cond0)) (wi1 := iWalk X.K X.w cA k1 (evL Γ F src1)) (g1 := gT X.K X.w (k1 == 3) tg1) (tt1 := tT X.K X.w cA (evC Γ F cond)) (te := tE X.K X.w cA (evE Γ F elt)) (pos := pos) (spos := spos) (py := py) (i := i) (y := y) (vs1 := own1) C.calm (by rw [C.n]; exact C.nd) (by rw [C.n]; exact hi) hyl (sw_true (by rw [C.scope]; exact C.kind) hyl w2 w3) S.1 ok (fun i hi => by
              rw [ownP_snd]
              have := List.all_eq_true.mp ho i hi
              exact of_decide_eq_true this) (fun s H L cl fp => ckTg_ok (C.inner ok s H L cl fp) tg tg' (kk == 3) (src_tup hx) ht)
            (fun s H L cl fp => pts_from hl' hc fun x hxx => ck1_ok cond0 x _ _ _ (C.inner ok s H L cl fp) hxx)
            (fun s H L cl fp => (S1 s H L cl fp).1) (fun s H L cl fp => ckTg_ok (C.inner ok s H L cl fp) tg1 tg1' (k1 == 3) (src_tup hx1) ht1)
            (fun s H L cl fp => pts_from hl1 hc1 fun x hxx => ck1_ok cond x _ _ _ (C.inner ok s H L cl fp) hxx)
            (fun s H L cl fp => (ckE_ok elt _ _ _ _ (C.inner ok s H L cl fp) he).pe) (S.2 _) (S1 X.s_0 X.H_0 0 [] []).2
          rw [ownP_snd] at this
          exact PS.weak this fun D σ H q => rd_lc2 (c := c) (within_ok tg hw') (within_ok tg1 hw1) (rd_asgN q)
        · cases hs1
      · cases hs
    · cases h
  | _ =>
    exfalso
    cases v <;> first
      | (cases hl; done)
      | (unfold ckE at h; cases h; done)
end
end DL
end

section
set_option Elab.async false
set_option linter.all false
set_option maxRecDepth 100000
set_option maxHeartbeats 16000000
/-! DL, the checker of statements, sound. -/
namespace DL
open PySem PySem.Spec PyProof.Rows L2 PySem.W
def locL (sc : Scope) (x : Str) : Bool := decide (sc.names.lookup x = some .local)
section
variable (T : Tab) (Γ : Pg) (N : List Str)
/-- two or three names at once -/
def ckPar (sc : Scope) (ts : List Tg) (es vs : List Expr) (e : E) (names : List Str) : Bool := match ts, es, e with
  | [.name i, .name j], [.Name x _, .Name y _], .tup es' => decide (vs.length = 2) && decide (names = [x, y]) && decide (N[i]? = some x) && decide (N[j]? = some y) && decide (i ≠ j) && locL sc x && locL sc y && noStar vs && ckL T Γ N sc es' vs
  | [.name i, .name j, .name l], [.Name x _, .Name y _, .Name z _], .tup es' => decide (vs.length = 3) && decide (names = [x, y, z]) && decide (N[i]? = some x) && decide (N[j]? = some y) && decide (N[l]? = some z) && decide (i ≠ j) && decide (i ≠ l) && decide (j ≠ l) && locL sc x && locL sc y && locL sc z && noStar vs && ckL T Γ N sc es' vs
  | _, _, _ => false
def ckTup (sc : Scope) (ts : List Tg) (es : List Expr) (e : E) (v : Expr) : Bool := match v with
  | .Tuple vs _ _ => match swC sc es vs with
    | some Option.none => ckTgs N sc fbF ts es && ckE T Γ N sc e v
    | some (some names) => ckPar T Γ N sc ts es vs e names
    | Option.none => false
  | _ => ckTgs N sc fbF ts es && ckE T Γ N sc e v
def ckA (sc : Scope) (t : Ta) (e : E) (tg v : Expr) : Bool := match t with
  | .tg (.name i) => match tg with
    | .Name n p2 => decide (N[i]? = some n) && locC sc fbF n && (!isLc v || lcSw sc n p2 v) && ckE T Γ N sc e v
    | _ => false
  | .tg (.tup ts) => match tg with
    | .Tuple es _ _ => !isLc v && ckTup T Γ N sc ts es e v
    | _ => false
  | .sub o i => match tg with
    | .Subscript p q _ => !isSlice q && ckE T Γ N sc o p && ckE T Γ N sc i q && ckE T Γ N sc e v
    | _ => false
  | .fld o f => match tg with
    | .Attribute p f' _ => decide (f' = f) && decide (f ∈ T.flds) && ckE T Γ N sc o p && ckE T Γ N sc e v
    | _ => false
  | .tas _ => false
mutual
def ckS (sc : Scope) : S → Stmt → Bool
  | .asg t e, x => match x with
    | .Assign [tg] v _ => ckA T Γ N sc t e tg v
    | _ => false
  | .aug i op e, x => match x with
    | .AugAssign (.Name n _) o v _ => decide (o = pyB op) && decide (N[i]? = some n) && locC sc fbF n && ckE T Γ N sc e v
    | _ => false
  | .augs o i op e, x => match x with
    | .AugAssign (.Subscript p q _) o' v _ => decide (o' = pyB op) && !isSlice q && ckE T Γ N sc o p && ckE T Γ N sc i q && ckE T Γ N sc e v
    | _ => false
  | .ret e, x => match x with
    | .Return (some v) _ => ckE T Γ N sc e v
    | _ => false
  | .retn, x => match x with
    | .Return Option.none _ => true
    | _ => false
  | .expr e, x => match x with
    | .Expr v _ => !isLc v && ckE T Γ N sc e v
    | _ => false
  | .ite t a b, x => match x with
    | .If c p q _ => ckE T Γ N sc t c && ckB sc a p && ckB sc b q
    | _ => false
  | .for_ tg k src body, x => match x with
    | .For tg' it b [] _ => ckTg N sc fbF tg tg' && (match srcArgs sc (tgTup tg) k it with
      | some xs => ckL T Γ N sc src xs
      | Option.none => false) && ckB sc body b
    | _ => false
  | .while_ t body, x => match x with
    | .While c b [] _ => ckE T Γ N sc t c && ckB sc body b
    | _ => false
  | .pass, x => match x with
    | .Pass _ => true
    | .Expr (.Constant (.str _) _ _) _ => true
    | _ => false
  | .brk, x => match x with
    | .Break _ => true
    | _ => false
  | .cont, x => match x with
    | .Continue _ => true
    | _ => false
  | .never, _ => true
def ckB (sc : Scope) : List S → List Stmt → Bool
  | [], xs => match xs with
    | [] => true
    | _ :: _ => false
  | c :: r, xs => match xs with
    | x :: ys => ckS sc c x && ckB sc r ys
    | [] => false
end
end
section
variable {cA : Nat → Addr} {k : Nat} {T : Tab} {Γ : Pg} {F : Fun} {N : List Str} {W : Nat}
theorem sole_plain {e t : Expr} {l : Nat} {env : Env} (h : isLc e = false) : swapsWithSole [t] e l env = pure false := swap_plain (t := some t) h
theorem sole_other {e t : Expr} {l : Nat} {env : Env} (h : isNameT (some t) = false) : swapsWithSole [t] e l env = pure false := swap_other h
theorem ckA_ok {X : Cx} {sc : Scope} (C : CtxOk X cA k T Γ F N sc fbF) {t : Ta} {e : E} {tg v : Expr} {pos : Pos} (h : ckA T Γ N sc t e tg v = true) : PS X (.Assign [tg] v pos) (tS X.K X.w cA (exS Γ F W (.asg t e))) := by
  have nd : X.N.Nodup := by rw [C.n]; exact C.nd
  unfold ckA at h
  split at h
  · rename_i i
    split at h
    · rename_i n p2
      simp only [Bool.and_eq_true, decide_eq_true_eq, Bool.or_eq_true, Bool.not_eq_true'] at h
      obtain ⟨⟨⟨h1, h2⟩, h3⟩, h4⟩ := h
      obtain ⟨l1, l2⟩ := C.loc h2
      cases hv : isLc v with
      | true =>
        have := setLc_ok (spos := pos) C h1 hv (h3.resolve_left (by rw [hv]; decide)) h4
        exact this
      | false =>
        have := ps_setD (pos := pos) nd (by rw [C.n]; exact h1) l1 (ckE_ok e v X sc fbF C h4).pe (swap_plain hv) l2 (p2 := p2)
        exact this
    · cases h
  · rename_i ts
    split at h
    · rename_i es kk pt
      rw [Bool.and_eq_true, Bool.not_eq_true'] at h
      obtain ⟨hv, h⟩ := h
      have gen : swappedStores [.Tuple es kk pt] v X.env = pure none → ckTgs N sc fbF ts es = true → ckE T Γ N sc e v = true → PS X (.Assign [.Tuple es kk pt] v pos) (tS X.K X.w cA (exS Γ F W (.asg (.tg (.tup ts)) e))) := fun hw h1 h2 => by
        obtain ⟨q1, q2, q3⟩ := ckTgs_ok C ts es h1
        have := ps_asgD (pos := pos) (ckE_ok e v X sc fbF C h2).pe (pg_tupT (k := kk) (pos := pt) (z := false) C.calm q1 q2 q3) (sole_plain hv) hw rfl
        exact this
      unfold ckTup at h
      split at h
      · rename_i vs k2 p2
        split at h
        · rename_i hsw
          rw [Bool.and_eq_true] at h
          exact gen (swap_stores (by rw [C.scope]; exact C.kind) (by rw [C.scope]; exact hsw)) h.1 h.2
        · rename_i names hsw
          have hw := swap_stores (k := kk) (k2 := k2) (p := pt) (p2 := p2) (env := X.env) (by rw [C.scope]; exact C.kind) (by rw [C.scope]; exact hsw)
          unfold ckPar at h
          split at h
          · rename_i i j x px y py es'
            simp only [Bool.and_eq_true, decide_eq_true_eq] at h
            obtain ⟨⟨⟨⟨⟨⟨⟨⟨a1, a2⟩, a3⟩, a4⟩, a5⟩, a6⟩, a7⟩, a8⟩, a9⟩ := h
            subst a2
            match vs, a1 with
            | [a, b], _ =>
              have := ps_parD (pos := pos) C.calm nd (by rw [C.n]; exact a3) (by rw [C.n]; exact a4) a5 (by rw [C.scope]; exact of_decide_eq_true a6) (by rw [C.scope]; exact of_decide_eq_true a7) (ckL_ok es' [a, b] X sc fbF C a8 a9) hw (sole_plain rfl)
              exact this
          · rename_i i j l x px y py z pz es'
            simp only [Bool.and_eq_true, decide_eq_true_eq] at h
            obtain ⟨⟨⟨⟨⟨⟨⟨⟨⟨⟨⟨⟨a1, a2⟩, a3⟩, a4⟩, a5⟩, b1⟩, b2⟩, b3⟩, a6⟩, a7⟩, b4⟩, a8⟩, a9⟩ := h
            subst a2
            match vs, a1 with
            | [a, b, c], _ =>
              have := ps_par3D (pos := pos) C.calm nd (by rw [C.n]; exact a3) (by rw [C.n]; exact a4) (by rw [C.n]; exact a5) b1 b2 b3 (by rw [C.scope]; exact of_decide_eq_true a6) (by rw [C.scope]; exact of_decide_eq_true a7) (by rw [C.scope]; exact of_decide_eq_true b4) (ckL_ok es' [a, b, c] X sc fbF C a8 a9) hw (sole_plain rfl)
              exact this
          · cases h
        · cases h
      · rename_i hne
        rw [Bool.and_eq_true] at h
        refine gen (swap_plainV ?_) h.1 h.2
        cases v <;> first
          | rfl
          | exact absurd rfl (hne _ _ _)
    · cases h
  · rename_i o i
    split at h
    · rename_i p q p2
      simp only [Bool.and_eq_true, Bool.not_eq_true'] at h
      obtain ⟨⟨⟨h1, h2⟩, h3⟩, h4⟩ := h
      have := ps_subD (pos := pos) (tpos := p2) C.hu (ckE_ok e v X sc fbF C h4).pe (ckE_ok o p X sc fbF C h2).pe (ckE_ok i q X sc fbF C h3).pe (fun _ => by cases q <;> first | rfl | cases h1) (sole_other rfl) (swap_plainT rfl) rfl
      exact this
    · cases h
  · rename_i o f
    split at h
    · rename_i p f' p2
      simp only [Bool.and_eq_true, decide_eq_true_eq] at h
      obtain ⟨⟨⟨h1, h2⟩, h3⟩, h4⟩ := h
      subst h1
      have := ps_fldD (pos := pos) (tpos := p2) (C.w.cls (.inl (List.ne_nil_of_mem h2))) (C.w.noat _ h2) (ckE_ok e v X sc fbF C h4).pe (ckE_ok o p X sc fbF C h3).pe (swap_other rfl)
      exact this
    · cases h
  · cases h
mutual
theorem ckS_ok : ∀ (c : S) (x : Stmt) (X : Cx) (sc : Scope), CtxOk X cA k T Γ F N sc fbF → ckS T Γ N sc c x = true → PS X x (tS X.K X.w cA (exS Γ F W c))
  | .asg t e, x, X, sc, C, h => by
    unfold ckS at h
    split at h
    · exact ckA_ok C h
    · cases h
  | .aug i op e, x, X, sc, C, h => by
    unfold ckS at h
    split at h
    · rename_i n p2 o v pos
      simp only [Bool.and_eq_true, decide_eq_true_eq] at h
      obtain ⟨⟨⟨h1, h2⟩, h3⟩, h4⟩ := h
      subst h1
      obtain ⟨l1, l2⟩ := C.loc h3
      have := ps_augD (op := op) (pos := pos) (tpos := p2) (k := i) (by rw [C.n]; exact C.nd) (by rw [C.n]; exact h2) l1 (ckE_ok e v X sc fbF C h4).pe l2
      exact this
    · cases h
  | .augs o i op e, x, X, sc, C, h => by
    unfold ckS at h
    split at h
    · rename_i p q p2 o' v pos
      simp only [Bool.and_eq_true, decide_eq_true_eq, Bool.not_eq_true'] at h
      obtain ⟨⟨⟨⟨h1, h5⟩, h2⟩, h3⟩, h4⟩ := h
      subst h1
      have := ps_augsD (op := op) (pos := pos) (tpos := p2) C.hu (ckE_ok o p X sc fbF C h2).pe (ckE_ok i q X sc fbF C h3).pe (ckE_ok e v X sc fbF C h4).pe (fun ov iv new => by cases q <;> first | rfl | cases h5)
      exact this
    · cases h
  | .ret e, x, X, sc, C, h => by
    unfold ckS at h
    split at h
    · rename_i v pos
      have := ps_retD (pos := pos) (ckE_ok e v X sc fbF C h).pe
      exact this
    · cases h
  | .retn, x, X, sc, C, h => by
    unfold ckS at h
    split at h
    · exact ps_retnD
    · cases h
  | .expr e, x, X, sc, C, h => by
    unfold ckS at h
    split at h
    · rename_i v pos
      rw [Bool.and_eq_true, Bool.not_eq_true'] at h
      have := ps_exprD (pos := pos) (ckE_ok e v X sc fbF C h.2).pe (swap_plain h.1)
      exact this
    · cases h
  | .ite t a b, x, X, sc, C, h => by
    unfold ckS at h
    split at h
    · rename_i c p q pos
      simp only [Bool.and_eq_true] at h
      obtain ⟨⟨h1, h2⟩, h3⟩ := h
      have := ps_ifD (pos := pos) (ckE_ok t c X sc fbF C h1).pt (ckB_ok a p X sc C h2) (ckB_ok b q X sc C h3)
      exact this
    · cases h
  | .for_ tg kk src body, x, X, sc, C, h => by
    unfold ckS at h
    split at h
    · rename_i tg' it b pos
      simp only [Bool.and_eq_true] at h
      obtain ⟨⟨h1, h2⟩, h3⟩ := h
      split at h2
      · rename_i xs hx
        have S := src_ok (F := F) (tg := tg') C hx (tg_tup h1) (ckL_ok src xs X sc fbF C (src_star hx)) (fun e he x hxx hcc => by
          subst hxx
          obtain ⟨e', k1, k2⟩ := ck1_ok src x X sc fbF C hcc
          rw [he] at k1
          cases k1
          exact k2) h2
        have := ps_forD (pos := pos) C.never C.calm S.1 (ckTg_ok C tg tg' (kk == 3) (src_tup hx) h1) (ckB_ok body b X sc C h3) (S.2 _)
        exact this
      · cases h2
    · cases h
  | .while_ t body, x, X, sc, C, h => by
    unfold ckS at h
    split at h
    · rename_i c b pos
      rw [Bool.and_eq_true] at h
      have := ps_whileD (pos := pos) (n := W) C.never (ckE_ok t c X sc fbF C h.1).pt (ckB_ok body b X sc C h.2)
      exact this
    · cases h
  | .pass, x, X, sc, C, h => by
    unfold ckS at h
    split at h
    · exact ps_passD
    · exact ps_docD
    · cases h
  | .brk, x, X, sc, C, h => by
    unfold ckS at h
    split at h
    · exact ps_brkD
    · cases h
  | .cont, x, X, sc, C, h => by
    unfold ckS at h
    split at h
    · exact ps_contD
    · cases h
  | .never, x, X, sc, C, h => ps_neverD
theorem ckB_ok : ∀ (cs : List S) (xs : List Stmt) (X : Cx) (sc : Scope), CtxOk X cA k T Γ F N sc fbF → ckB T Γ N sc cs xs = true → PSs X xs (tS X.K X.w cA (exB Γ F W cs))
  | [], xs, X, sc, C, h => by
    unfold ckB at h
    split at h
    · exact pss_nilD
    · cases h
  | c :: r, xs, X, sc, C, h => by
    unfold ckB at h
    split at h
    · rename_i x ys
      rw [Bool.and_eq_true] at h
      have := pss_consD (ckS_ok c x X sc C h.1) (ckB_ok r ys X sc C h.2)
      exact this
    · cases h
end
end
end DL
end

section
set_option Elab.async false
set_option linter.all false
set_option maxRecDepth 100000
set_option maxHeartbeats 4000000
/-! DL: a def keeps its promise. -/
namespace DL
open PySem PySem.Spec PyProof.Rows L2 PySem.W C8
section
variable {P : Program} {w : World} {K : PySem.W.Frag} {mg : Str → Option Value} {base : Heap} {cA : Nat → Addr} {k : Nat} {T : Tab} {Γ : Pg} {F : DL.Fun} {N ps : List Str} {W : Nat}
theorem start_env {α : Al} {s : Sto} {H : Hp} {ds : List D} {vs : List V} (r : RpL K w α s H ds vs) : REnv K w α s H (startD N.length ds) (L2.start N vs) := by
  have hl := r.length
  refine ⟨by unfold startD L2.start; simp [hl], fun i d e => ?_⟩
  unfold startD at e
  unfold L2.start
  by_cases hi : i < ds.length
  · rw [List.getElem?_append_left (by simpa using hi), List.getElem?_map] at e
    rw [List.getElem?_append_left (by simpa [← hl] using hi), List.getElem?_map]
    obtain ⟨d', e1, e2⟩ := Option.map_eq_some_iff.mp e
    cases e2
    obtain ⟨v, ev, rv⟩ := r.get e1
    exact ⟨v, by rw [ev]; rfl, rv⟩
  · rw [List.getElem?_append_right (by simpa using hi), List.getElem?_replicate] at e
    split at e <;> cases e
theorem def_fn {x qual : Str} {params : Arguments} {body : List Stmt} {scope : Scope} {f : Addr} {fd : FuncData} {fn : Fn} (Fu : FunD K x qual params body scope [] [] f fd) (B : Binds K fd ps []) (S : FnScope N ps scope) (hw : WOk P w K mg base cA k T Γ F)
    (hck : ckB T Γ N scope fn.body body = true) (hp : fn.pars = ps.length) (hs : fn.slots = N.length) : FnOk P w K mg base L2.CX0 (k + 2) f fd ps (spF K w cA fn.pars (callD Γ F W fn)) := by
    refine Fu.ok S (fun vs H Q E h => by rw [← hp]; exact h.1) (fun cdv A outer s H vs Q E hr hsp => ?_)
    obtain ⟨hl, α, st1, ds, d, s', R, rl, e, Pq⟩ := hsp
    unfold callD at e
    split at e
    · have C : CtxOk (cxOf L2.CX0 P w K mg base N qual scope f cdv A outer s H E).nox cA k T Γ F N scope fbF :=
        { w := hw, calm := rfl, n := rfl, nd := S.nd, scope := rfl, kind := S.kind, room := hr, xe := rfl, fn := fun _ _ => rfl }
      refine ⟨_, (ckB_ok (W := W) fn.body body _ _ C hck).nox, ?_⟩
      rw [hs] at e
      split at e
      · rename_i d1 ρ1 s1 h1
        cases e
        exact ⟨α, st1, _, _, _, _, R, start_env rl, h1, fun α' H' G R' v r => Pq α' H' v G R' r⟩
      · rename_i ρ1 s1 h1
        cases e
        exact ⟨α, st1, _, _, _, _, R, start_env rl, h1, fun α' H' G R' σ' _ => Pq α' H' .non G R' .none⟩
      · cases e
    · cases e
theorem def_ok {x qual : Str} {params : Arguments} {body : List Stmt} {scope : Scope} {f : Addr} {fd : FuncData} {fn : Fn} (Fu : FunD K x qual params body scope [] [] f fd) (B : Binds K fd ps []) (S : FnScope N ps scope) (hw : WOk P w K mg base cA k T Γ F)
    (hck : ckB T Γ N scope fn.body body = true) (hp : fn.pars = ps.length) (hs : fn.slots = N.length) : DefOk P w K mg base cA (k + 2) f fn.pars (callD Γ F W fn) where
  ex := ⟨fd, ps, def_fn Fu B S hw hck hp hs, B⟩
  kp := Fu.kp
  len := fun ds s r e => by
    unfold callD at e
    split at e
    · assumption
    · cases e
end
end DL
end

section
set_option Elab.async false
set_option linter.all false
set_option maxRecDepth 100000
set_option maxHeartbeats 4000000
/-! DL: a call by trees, seen from an empty store: all live cells hidden. -/
namespace DL
open PySem PySem.Spec PyProof.Rows L2 PySem.W C8
def isDead : Cell → Bool
  | .dead => true
  | _ => false
theorem isDead_ok {c : Cell} (h : isDead c = true) : c = .dead := by cases c <;> first | rfl | cases h
def live (α : Al) (s : Sto) : List Addr := (α.l.zip s).filterMap fun p => if isDead p.2 then Option.none else some p.1
theorem live_in {α : Al} {s : Sto} {a : Addr} : a ∈ live α s ↔ ∃ (i : Nat) (c : Cell), α.l[i]? = some a ∧ s[i]? = some c ∧ isDead c = false := by
  unfold live
  rw [List.mem_filterMap]
  constructor
  · rintro ⟨⟨b, c⟩, h, e⟩
    obtain ⟨i, hi⟩ := List.mem_iff_getElem?.mp h
    rw [List.getElem?_zip_eq_some] at hi
    split at e
    · cases e
    · rename_i hd
      cases e
      exact ⟨i, c, hi.1, hi.2, by simpa using hd⟩
  · rintro ⟨i, c, h1, h2, h3⟩
    refine ⟨(a, c), List.mem_iff_getElem?.mpr ⟨i, ?_⟩, ?_⟩
    · rw [List.getElem?_zip_eq_some]
      exact ⟨h1, h2⟩
    · simp [h3]
def hide (α : Al) (s : Sto) : Al := ⟨[], α.g ++ live α s⟩
section
variable {K : PySem.W.Frag} {w : World} {cA : Nat → Addr} {α α' : Al} {s s' : Sto} {H H' : Hp}
theorem fz_hide {a : Addr} (f : Fz α s a) : Fz (hide α s) [] a := by
  refine ⟨fun m => ?_, fun i e => by cases (show ([] : List Addr)[i]? = some a from e)⟩
  rcases List.mem_append.mp m with m | m
  · exact f.1 m
  · obtain ⟨i, c, h1, h2, h3⟩ := live_in.mp m
    have := f.2 i h1
    rw [h2] at this
    cases this
    cases h3
theorem fz_unhide (R : RS K w cA α s H) {a : Addr} (hg : α'.g = (hide α s).g) (f : Fz α' s' a) : Fz α s a := by
  have no : a ∉ α.g ++ live α s := fun m => f.1 (by rw [hg]; exact m)
  refine ⟨fun m => no (List.mem_append_left _ m), fun i e => ?_⟩
  have hi : i < s.length := by rw [← R.len]; exact (List.getElem?_eq_some_iff.mp e).1
  cases hd : isDead s[i] with
  | false => exact absurd (List.mem_append_right _ (live_in.mpr ⟨i, s[i], e, List.getElem?_eq_getElem hi, hd⟩)) no
  | true => rw [List.getElem?_eq_getElem hi, isDead_ok hd]
theorem rs_hide (R : RS K w cA α s H) : RS K w cA (hide α s) [] H where
  len := rfl
  nd := List.nodup_nil
  cell := fun i a c e => by cases (show ([] : List Addr)[i]? = some a from e)
  hid := fun a m => ⟨List.not_mem_nil, by
    rcases List.mem_append.mp m with m | m
    · exact (R.hid a m).2
    · obtain ⟨i, c, h1, h2, _⟩ := live_in.mp m
      exact (R.cell i a c h1 h2).some⟩
mutual
/-- trees without cells stand, whatever the store -/
theorem rp_clo (h1 : ∀ a, Fz α s a → Fz α' s' a) : ∀ (d : D) (v : V), d.clo = true → Rp K w α s H d v → Rp K w α' s' H d v
  | .none, _, _, h => by cases h; exact .none
  | .bool b, _, _, h => by cases h; exact .bool b
  | .int i, _, _, h => by cases h; exact .int i
  | .str x, _, _, h => by cases h; exact .str x
  | .tup ds, _, c, h => by
    cases h with
    | tup a b => exact .tup a (rpL_clo h1 ds _ c b)
  | .lst ds, _, c, h => by
    cases h with
    | lst a b e => exact .lst a (h1 _ b) (rpL_clo h1 ds _ c e)
  | .dct ks vs, _, c, h => by
    obtain ⟨c1, c2⟩ := Bool.and_eq_true_iff.mp (show (D.clos ks && D.clos vs) = true from c)
    cases h with
    | dct a b e f g i j => exact .dct a (h1 _ b) e f (ents_clo h1 ks _ c1 g) (rpL_clo h1 vs _ c2 i) j
  | .ref n, _, c, h => by cases c
  | .scr ns, _, _, h => by
    cases h with
    | scr a =>
      rcases a with a | ⟨a, b⟩
      · exact .scr (.inl a)
      · exact .scr (.inr ⟨a, h1 _ b⟩)
theorem rpL_clo (h1 : ∀ a, Fz α s a → Fz α' s' a) : ∀ (ds : List D) (vs : List V), D.clos ds = true → RpL K w α s H ds vs → RpL K w α' s' H ds vs
  | [], _, _, h => by cases h; exact .nil
  | d :: ds, _, c, h => by
    obtain ⟨c1, c2⟩ := Bool.and_eq_true_iff.mp (show (D.clo d && D.clos ds) = true from c)
    cases h with
    | cons a b => exact .cons (rp_clo h1 d _ c1 a) (rpL_clo h1 ds _ c2 b)
theorem ents_clo (h1 : ∀ a, Fz α s a → Fz α' s' a) : ∀ (ks : List D) (es : List DictEntry), D.clos ks = true → Ents K w α s H ks es → Ents K w α' s' H ks es
  | [], _, _, h => by cases h; exact .nil
  | k :: ks, _, c, h => by
    obtain ⟨c1, c2⟩ := Bool.and_eq_true_iff.mp (show (D.clo k && D.clos ks) = true from c)
    cases h with
    | cons a b e f g => exact .cons (rp_clo h1 k _ c1 a) b e f (ents_clo h1 ks _ c2 g)
end
theorem go_unhide (R : RS K w cA α s H) (G : Go (hide α s) [] H α' s' H') : Go α s H α s H' where
  h := {
    w := {
      pre := List.prefix_rfl
      tup := G.h.w.tup
      fz := fun a o q f => ⟨(G.h.w.fz a o q (fz_hide f)).1, f⟩ }
    sub := fun a m => ⟨m, (G.h.sub a (List.mem_append_left _ m)).2⟩
    lk := fun i a c e1 e2 l => ⟨e2, (G.h.sub a (List.mem_append_right _ (live_in.mpr ⟨i, c, e1, e2, by cases c <;> first | rfl | cases l⟩))).2⟩ }
  g := rfl
theorem rs_unhide (R : RS K w cA α s H) (G : Go (hide α s) [] H α' s' H') : RS K w cA α s H' where
  len := R.len
  nd := R.nd
  cell := fun i a c e1 e2 => (go_unhide R G).h.w.cell (R.cell i a c e1 e2) (by
    cases hd : isDead c with
    | false => exact (G.h.sub a (List.mem_append_right _ (live_in.mpr ⟨i, c, e1, e2, hd⟩))).2
    | true =>
      cases isDead_ok hd
      obtain ⟨o, ho⟩ := (R.cell i a _ e1 e2).some
      rw [ho]
      exact (G.h.w.fz a o ho (fz_hide ⟨R.noG e1, fun j e => by rw [R.ix e e1]; exact e2⟩)).1)
  hid := fun a m => ⟨(R.hid a m).1, by
    rw [(G.h.sub a (List.mem_append_left _ m)).2]
    exact (R.hid a m).2⟩
end
theorem spF_iso {w : World} {K : PySem.W.Frag} {cA : Nat → Addr} {n : Nat} {g : List D → Sto → Res D} {vs : List V} {H : Hp} {Q : VK} {E : XK} (q : spF K w cA n (iso g) vs H Q E) : spF K w cA n g vs H Q E := by
  obtain ⟨hl, α, s, ds, d, s', R, rl, e, Pq⟩ := q
  unfold DL.iso at e
  split at e
  · rename_i hc
    split at e
    · rename_i d1 s1 h1
      split at e
      · rename_i hd
        cases e
        exact ⟨hl, hide α s, [], ds, _, s1, rs_hide R, rpL_clo (fun a => fz_hide) ds _ hc rl, h1, fun α' H' v G R' r => Pq α H' v (go_unhide R G) (rs_unhide R G) (rp_clo (fun a f => fz_unhide R G.g f) _ _ hd r)⟩
      · exact ⟨hl, α, s, ds, d, s', R, rl, e, Pq⟩
    · cases e
  · exact ⟨hl, α, s, ds, d, s', R, rl, e, Pq⟩
theorem DefOk.iso {P : Program} {w : World} {K : PySem.W.Frag} {mg : Str → Option Value} {base : Heap} {cA : Nat → Addr} {k : Nat} {f : Addr} {n : Nat} {g : List D → Sto → Res D} (h : DefOk P w K mg base cA k f n g) : DefOk P w K mg base cA k f n (iso g) where
  ex := by
    obtain ⟨fd, ps, F, B⟩ := h.ex
    exact ⟨fd, ps, F.imp fun vs H Q E q => spF_iso q, B⟩
  kp := h.kp
  len := fun ds s r e => by
    unfold DL.iso at e
    split at e
    · split at e
      · rename_i h1
        exact h.len _ _ _ h1
      · cases e
    · exact h.len _ _ _ e
end DL
end

section
set_option Elab.async false
set_option linter.all false
set_option maxRecDepth 100000
set_option maxHeartbeats 4000000
/-! DL: all defs keep their promises, call within call. -/
namespace DL
open PySem PySem.Spec PyProof.Rows L2 PySem.W C8
/-- a def of the text -/
structure TDef (K : PySem.W.Frag) (T : Tab) (Γ : Pg) (f : Addr) (fn : Fn) : Prop where
  ex : ∃ x qual params body scope fd ps N, FunD K x qual params body scope [] [] f fd ∧ Binds K fd ps [] ∧ FnScope N ps scope ∧ ckB T Γ N scope fn.body body = true ∧ fn.pars = ps.length ∧ fn.slots = N.length
/-- the whole text -/
structure TOk (w : World) (K : PySem.W.Frag) (mg : Str → Option Value) (cA fA : Nat → Addr) (T : Tab) (Γ : Pg) : Prop where
  defs : ∀ f fn, Γ.fns[f]? = some fn → TDef K T Γ (fA f) fn
  cls : (T.flds ≠ [] ∨ Γ.cls ≠ []) → ∀ c, Cls K (cA c)
  noat : ∀ f ∈ T.flds, ∀ c, NoAttr K (cA c) f
  fns : ∀ x f, T.fnm.lookup x = some f → mg x = some (.ref (fA f)) ∧ f < Γ.fns.length
  mths : ∀ c cl m f, Γ.cls[c]? = some cl → cl.meths.lookup m = some f → Meth K (cA c) m (fA f) ∧ f < Γ.fns.length
  news : ∀ c cl f, Γ.cls[c]? = some cl → cl.init = some f → Mk K (cA c) (fA f) ∧ f < Γ.fns.length
  clsn : ∀ x c, T.cln.lookup x = some c → mg x = some (.ref (cA c))
  cons : ∀ x j, T.con.lookup x = some j → ∃ d u v, Γ.consts[j]? = some d ∧ mg x = some u ∧ RelV v u ∧ ∀ α s H, Rp K w α s H d v
  blt : ∀ x ∈ bltNames, mg x = none
section
variable {P : Program} {w : World} {K : PySem.W.Frag} {mg : Str → Option Value} {base : Heap} {cA fA : Nat → Addr} {T : Tab} {Γ : Pg} {W : Nat}
theorem wok_of {k : Nat} {F : DL.Fun} (t : TOk w K mg cA fA T Γ) (d : ∀ f, f < Γ.fns.length → ∃ n, DefOk P w K mg base cA k (fA f) n (F f)) : WOk P w K mg base cA k T Γ F where
  cls := t.cls
  noat := t.noat
  fns := fun x f h => let ⟨h1, h2⟩ := t.fns x f h; let ⟨n, h3⟩ := d f h2; ⟨fA f, n, h1, h3⟩
  mths := fun m => ⟨fun c cl f h1 h2 => let ⟨a, b⟩ := t.mths c cl m f h1 h2; let ⟨n, h3⟩ := d f b; ⟨fA f, n, a, h3⟩⟩
  news := fun c => ⟨fun cl f h1 h2 => let ⟨a, b⟩ := t.news c cl f h1 h2; let ⟨n, h3⟩ := d f b; ⟨fA f, n, a, h3⟩⟩
  clsn := t.clsn
  cons := t.cons
  blt := t.blt
theorem run_eq {n f : Nat} {fn : Fn} (h : Γ.fns[f]? = some fn) : run Γ W (n + 1) f = iso (callD Γ (run Γ W n) W fn) := by
  funext xs s
  show (match Γ.fns[f]? with
    | some fd => iso (callD Γ (run Γ W n) W fd) xs s
    | Option.none => Option.none) = _
  rw [h]
theorem run_ok (t : TOk w K mg cA fA T Γ) : ∀ (n f : Nat), f < Γ.fns.length → ∃ m, DefOk P w K mg base cA (2 * n) (fA f) m (run Γ W n f)
  | 0, f, h => by
    obtain ⟨x, qual, params, body, scope, fd, ps, N, h1, h2, h3, h4, h5, h6⟩ := (t.defs f _ (List.getElem?_eq_getElem h)).ex
    have no : ∀ {vs : List V} {H : Hp} {Q : VK} {E : XK}, spF K w cA 0 (run Γ W 0 f) vs H Q E → False := fun ⟨_, _, _, _, _, _, _, _, e, _⟩ => by cases e
    exact ⟨0, ⟨fd, ps, ⟨fun vs H Q E q => (no q).elim, fun A outer s H args us vs Q E _ _ _ _ q => (no q).elim⟩, h2⟩, h1.kp, fun ds s r e => by cases e⟩
  | n + 1, f, h => by
    obtain ⟨x, qual, params, body, scope, fd, ps, N, h1, h2, h3, h4, h5, h6⟩ := (t.defs f _ (List.getElem?_eq_getElem h)).ex
    have := def_ok (P := P) (mg := mg) (base := base) (cA := cA) (W := W) h1 h2 h3 (wok_of t (run_ok t n)) h4 h5 h6
    refine ⟨Γ.fns[f].pars, ?_⟩
    rw [run_eq (List.getElem?_eq_getElem h)]
    exact this.iso
/-- the same with the function object told -/
theorem run_fn (t : TOk w K mg cA fA T Γ) (n : Nat) {f : Nat} {fn : Fn} (hf : Γ.fns[f]? = some fn) {x qual : Str} {params : Arguments} {body : List Stmt} {scope : Scope} {fd : FuncData} {ps N : List Str}
    (h1 : FunD K x qual params body scope [] [] (fA f) fd) (h2 : Binds K fd ps []) (h3 : FnScope N ps scope) (h4 : ckB T Γ N scope fn.body body = true) (h5 : fn.pars = ps.length) (h6 : fn.slots = N.length) :
    FnOk P w K mg base L2.CX0 (2 * (n + 1)) (fA f) fd ps (spF K w cA fn.pars (run Γ W (n + 1) f)) := by
  rw [run_eq hf]
  exact (def_fn h1 h2 h3 (wok_of t (run_ok t n)) h4 h5 h6).imp fun vs H Q E q => spF_iso q
end
end DL
end

section
set_option Elab.async false
set_option linter.all false
set_option maxRecDepth 100000
set_option maxHeartbeats 4000000
/-! DL: the text's facts by looks at the head's heap; the law's end. -/
namespace DL
open PySem PySem.Spec PyProof.Rows L2 PySem.W C8
/-! ### plain parameters -/
def parB (p : Arguments) (ps : List Str) : Bool := p.posonlyargs.isEmpty && (decide (p.args.map (·.arg) = ps) && (p.vararg.isNone && (p.kwonlyargs.isEmpty && (p.kwarg.isNone && decide ps.Nodup))))
theorem zip_look : ∀ {ps : List Str} {us : List Value}, us.length = ps.length → ∀ {n : Str}, n ∈ ps → ((ps.zip us).lookup n).isSome = true
  | p :: ps, u :: us, hl, n, hn => by
    rw [List.zip_cons_cons, List.lookup_cons]
    cases e : (n == p) with
    | true => rfl
    | false =>
      rcases List.mem_cons.mp hn with h | h
      · rw [h, beq_self_eq_true] at e
        cases e
      · exact zip_look (by simpa using hl) h
  | [], _, _, _, hn => by cases hn
  | _ :: _, [], hl, _, _ => by cases hl
theorem fm_congr2 {α β : Type} {f g : α → Option β} : ∀ {l : List α}, (∀ x ∈ l, f x = g x) → l.filterMap f = l.filterMap g
  | [], _ => rfl
  | a :: l, h => by rw [List.filterMap_cons, List.filterMap_cons, h a (List.mem_cons_self ..), fm_congr2 fun x hx => h x (List.mem_cons_of_mem _ hx)]
theorem zip_take : ∀ {ps : List Str} {us : List Value}, us.length = ps.length → ps.Nodup → ps.filterMap (fun n => ((ps.zip us).lookup n).map (n, ·)) = ps.zip us
  | [], _, _, _ => by simp
  | _ :: _, [], hl, _ => by cases hl
  | p :: ps, u :: us, hl, nd => by
    obtain ⟨n1, n2⟩ := List.nodup_cons.mp nd
    rw [List.zip_cons_cons, List.filterMap_cons, List.lookup_cons, beq_self_eq_true]
    show (p, u) :: _ = _
    congr 1
    refine (fm_congr2 fun x hx => ?_).trans (zip_take (us := us) (by simpa using hl) n2)
    have : (x == p) = false := by
      rw [beq_eq_false_iff_ne]
      rintro rfl
      exact n1 hx
    rw [List.lookup_cons, this]
theorem bind_plain {x qual : Str} {params : Arguments} {body : List Stmt} {scope : Scope} {ps : List Str} (h : parB params ps = true) (kV doc pm : Value) (an : Option Addr) (cdv ct : Value) (us : List Value) (hl : us.length = ps.length) :
    bindArgs (PySem.W.fnOf x qual params body scope .none kV doc pm an cdv ct) ⟨us, []⟩ = pure (ps.zip us) := by
  obtain ⟨po, ar, va, ko, kd, kw, df⟩ := params
  unfold parB at h
  simp only [Bool.and_eq_true, List.isEmpty_iff, decide_eq_true_eq, Option.isNone_iff_eq_none] at h
  obtain ⟨rfl, e, rfl, rfl, rfl, nd⟩ := h
  have e : ar.map (·.arg) = ps := e
  have e1 : (ps.filter fun n => ((ps.zip us).lookup n).isNone) = [] := by
    rw [List.filter_eq_nil_iff]
    intro n hn
    have := zip_look hl hn
    cases q : (ps.zip us).lookup n with
    | none => rw [q] at this; cases this
    | some _ => simp
  have g : ¬ us.length > ps.length := by omega
  have z := zip_take hl nd
  have tk : ps.take ps.length = ps := List.take_length
  unfold bindArgs
  simp [PySem.W.fnOf, seqItems?, notAStandIn, e, g, e1, z, tk]
/-! ### constants -/
section
variable {K : PySem.W.Frag} {w : World}
mutual
theorem rpB_ok : ∀ (d : D) (u : Value), rpB K d u = true → ∃ v, RelV v u ∧ ∀ α s H, Rp K w α s H d v
  | .none, u, h => by
    cases u <;> first | exact ⟨.non, rfl, fun _ _ _ => .none⟩ | cases h
  | .bool b, u, h => by
    cases u with
    | bool c =>
      have e : b = c := eq_of_beq (show (b == c) = true from h)
      subst e
      exact ⟨.bl b, rfl, fun _ _ _ => .bool b⟩
    | _ => cases h
  | .int i, u, h => by
    cases u with
    | int j t =>
      have e : i = j := of_decide_eq_true h
      subst e
      exact ⟨.int i, ⟨t, rfl⟩, fun _ _ _ => .int i⟩
    | _ => cases h
  | .str x, u, h => by
    cases u with
    | str y t =>
      have e : x = y := of_decide_eq_true h
      subst e
      exact ⟨.str x, ⟨t, rfl⟩, fun _ _ _ => .str x⟩
    | _ => cases h
  | .tup ds, u, h => by
    cases u with
    | ref a =>
      have h1 : (match K.lookup a with
      | some ⟨.type c, none, .seq its _, _⟩ => decide (c = "tuple") && (decide (its.size ≤ sizeLine) && rpsB K ds its.toList)
      | _ => false) = true := h
      cases q : K.lookup a with
      | none =>
        rw [q] at h1
        cases h1
      | some o =>
        obtain ⟨oc, od, dt, osl⟩ := o
        rw [q] at h1
        cases oc with
        | type c =>
          cases od with
          | none =>
            cases dt with
            | seq its n =>
              obtain ⟨a1, a2⟩ := He.ba (show (decide (c = "tuple") && (decide (its.size ≤ sizeLine) && rpsB K ds its.toList)) = true from h1)
              obtain ⟨a3, a4⟩ := He.ba a2
              obtain ⟨vs, b1, b2⟩ := rpsB_ok ds its.toList a4
              exact ⟨.ref a, rfl, fun α s H => .tup (.inr ⟨_, its, n, q, congrArg Value.type (of_decide_eq_true a1), rfl, rfl, of_decide_eq_true a3, b1⟩) (b2 α s H)⟩
            | _ => cases h1
          | some _ => cases dt <;> cases h1
        | _ => cases od <;> cases dt <;> cases h1
    | _ => cases h
  | .lst ds, u, h => by unfold rpB at h; cases h
  | .dct ds _, u, h => by unfold rpB at h; cases h
  | .ref _, u, h => by unfold rpB at h; cases h
  | .scr _, u, h => by unfold rpB at h; cases h
theorem rpsB_ok : ∀ (ds : List D) (us : List Value), rpsB K ds us = true → ∃ vs, Vals vs us ∧ ∀ α s H, RpL K w α s H ds vs
  | [], us, h => by
    cases us with
    | nil => exact ⟨[], .nil, fun _ _ _ => .nil⟩
    | cons _ _ => cases h
  | d :: ds, us, h => by
    cases us with
    | nil => cases h
    | cons u us =>
      obtain ⟨h1, h2⟩ := He.ba (show (rpB K d u && rpsB K ds us) = true from h)
      obtain ⟨v, a1, a2⟩ := rpB_ok d u h1
      obtain ⟨vs, b1, b2⟩ := rpsB_ok ds us h2
      exact ⟨v :: vs, .cons a1 b1, fun α s H => .cons (a2 α s H) (b2 α s H)⟩
end
end
/-! ### looks at the head -/
/-- without a look -/
def defB (T : Tab) (Γ : Pg) (f : Fn) (d : He.DefD) (n : List Str × List Str) : Bool := scC n.1 n.2 d.scope && (ckB T Γ n.1 d.scope f.body d.body && (decide (f.pars = n.2.length) && (decide (f.slots = n.1.length) && (parB d.params n.2 && (d.dfl.isEmpty && d.kwd.isEmpty)))))
def defsB (T : Tab) (Γ : Pg) : List Fn → List He.DefD → List (List Str × List Str) → Bool
  | [], _, _ => true
  | f :: fs, d :: ds, n :: ns => defB T Γ f d n && defsB T Γ fs ds ns
  | _, _, _ => false
def statB (T : Tab) (Γ : Pg) : Bool := (T.fnm.all fun p => decide (p.2 < Γ.fns.length)) && ((Γ.cls.all fun cl => (cl.meths.all fun q => decide (q.2 < Γ.fns.length)) && match cl.init with
  | some f => decide (f < Γ.fns.length)
  | none => true) && (!Γ.cls.isEmpty || T.flds.isEmpty))
theorem lk_mem {α : Type} {x : Str} {v : α} : ∀ {l : List (Str × α)}, l.lookup x = some v → (x, v) ∈ l
  | [], h => by cases h
  | (y, u) :: r, h => by
    rw [List.lookup_cons] at h
    cases e : (x == y) with
    | true =>
      rw [e] at h
      cases h
      rw [eq_of_beq e]
      exact List.mem_cons_self ..
    | false =>
      rw [e] at h
      exact List.mem_cons_of_mem _ (lk_mem h)
theorem defsB_at {T : Tab} {Γ : Pg} : ∀ {fs : List Fn} {ds : List He.DefD} {ns : List (List Str × List Str)}, defsB T Γ fs ds ns = true → ∀ {i : Nat} {f : Fn}, fs[i]? = some f → ∃ d n, ds[i]? = some d ∧ ns[i]? = some n ∧ defB T Γ f d n = true
  | [], _, _, _, i, f, e => by cases i <;> cases e
  | f0 :: fs, d :: ds, n :: ns, h, i, f, e => by
    obtain ⟨h1, h2⟩ := He.ba (show (defB T Γ f0 d n && defsB T Γ fs ds ns) = true from h)
    cases i with
    | zero =>
      cases e
      exact ⟨d, n, rfl, rfl, h1⟩
    | succ i => exact defsB_at h2 (i := i) e
  | _ :: _, [], _, h, _, _, _ => by cases h
  | _ :: _, _ :: _, [], h, _, _, _ => by cases h
section
variable {w : World} {K : PySem.W.Frag} {mg : Str → Option Value} {h : Heap} {T : Tab} {Γ : Pg} {fn : List He.DefD} {ns : List (List Str × List Str)}
theorem def_at (c : He.SaysD [] fn K) (st : defsB T Γ Γ.fns fn ns = true) {f : Nat} {fnn : Fn} (e : Γ.fns[f]? = some fnn) :
    ∃ x qual params body scope fd n, ns[f]? = some n ∧ FunD K x qual params body scope [] [] (fAof K fn f) fd ∧ Binds K fd n.2 [] ∧ FnScope n.1 n.2 scope ∧ ckB T Γ n.1 scope fnn.body body = true ∧ fnn.pars = n.2.length ∧ fnn.slots = n.1.length ∧ parB params n.2 = true := by
  obtain ⟨d, n, e1, en, h1⟩ := defsB_at st e
  obtain ⟨fd, F⟩ := c.def_ f e1
  obtain ⟨c1, h1⟩ := He.ba h1
  obtain ⟨c2, h1⟩ := He.ba h1
  obtain ⟨c3, h1⟩ := He.ba h1
  obtain ⟨c4, h1⟩ := He.ba h1
  obtain ⟨c5, h1⟩ := He.ba h1
  obtain ⟨c6, c7⟩ := He.ba h1
  have z1 : d.dvs K = [] := by
    unfold He.DefD.dvs
    rw [List.isEmpty_iff.mp c6]
    rfl
  have z2 : d.kws K = [] := by
    unfold He.DefD.kws
    rw [List.isEmpty_iff.mp c7]
    rfl
  rw [z1, z2] at F
  have z3 : fAof K fn f = He.fAd K d.at_ := by
    unfold fAof atOf
    rw [e1]
  rw [← z3] at F
  exact ⟨_, _, _, _, _, fd, n, en, F, F.bindsN fun kV doc pm an cdv ct us hl => bind_plain c5 kV doc pm an cdv ct us hl, fnScope_by c1, c2, of_decide_eq_true c3, of_decide_eq_true c4, c5⟩
theorem tok_of (X : K.In h) (G : h.Ns mainGlobals mg) (c : He.SaysD [] fn K) (hk : tokB T Γ fn K = true) (st : defsB T Γ Γ.fns fn ns = true) (sb : statB T Γ = true) : TOk w K mg (cAof K Γ) (fAof K fn) T Γ := by
  obtain ⟨k1, hk⟩ := He.ba hk
  obtain ⟨k2, hk⟩ := He.ba hk
  obtain ⟨k3, hk⟩ := He.ba hk
  obtain ⟨k4, k5⟩ := He.ba hk
  obtain ⟨b1, sb⟩ := He.ba sb
  obtain ⟨b2, b3⟩ := He.ba sb
  rw [List.all_eq_true] at k1 k2 k3 k4 k5 b1 b2
  have cl_at : (T.flds ≠ [] ∨ Γ.cls ≠ []) → ∀ c, ∃ cl ∈ Γ.cls, cAof K Γ c = He.ga K cl.name := fun hh c => by
    have b3 : Γ.cls ≠ [] := by
      rw [Bool.or_eq_true] at b3
      rcases b3 with b3 | b3
      · intro z
        rw [z] at b3
        cases b3
      · rcases hh with hh | hh
        · exact absurd (List.isEmpty_iff.mp b3) hh
        · exact hh
    unfold cAof
    cases e : Γ.cls[c]? with
    | some cl => exact ⟨cl, List.mem_of_getElem? e, rfl⟩
    | none =>
      cases e0 : Γ.cls[0]? with
      | some cl => exact ⟨cl, List.mem_of_getElem? e0, rfl⟩
      | none =>
        have : Γ.cls = [] := by
          rw [List.getElem?_eq_none_iff] at e0
          exact List.eq_nil_of_length_eq_zero (by omega)
        exact absurd this b3
  have cl_this : ∀ {c cl}, Γ.cls[c]? = some cl → cAof K Γ c = He.ga K cl.name := fun {c cl} e => by
    unfold cAof
    rw [e]
  refine { defs := fun f fnn e => ?_, cls := fun hh c => ?_, noat := fun f hf c => ?_, fns := fun x f e => ?_, mths := fun c cl m f e1 e2 => ?_, news := fun c cl f e1 e2 => ?_, clsn := fun x c e => ?_, cons := fun x j e => ?_, blt := fun x hx => ?_ }
  · obtain ⟨x, qual, params, body, scope, fd, n, _, a1, a2, a3, a4, a5, a6, _⟩ := def_at c st e
    exact ⟨x, qual, params, body, scope, fd, n.2, n.1, a1, a2, a3, a4, a5, a6⟩
  · obtain ⟨cl, m, e⟩ := cl_at hh c
    rw [e]
    exact He.cls_ok (He.ba (k4 cl m)).1
  · obtain ⟨cl, m, e⟩ := cl_at (.inl (List.ne_nil_of_mem hf)) c
    rw [e]
    exact He.noat_ok (List.all_eq_true.mp (He.ba (He.ba (k4 cl m)).2).1 f hf)
  · have m := lk_mem e
    exact ⟨PySem.W.mg_of X G (He.eqO_ok (k1 _ m)), of_decide_eq_true (b1 _ m)⟩
  · have m1 := List.mem_of_getElem? e1
    have m2 := lk_mem e2
    rw [cl_this e1]
    have z := List.all_eq_true.mp (He.ba (He.ba (He.ba (k4 cl m1)).2).2).1 _ m2
    obtain ⟨z1, z⟩ := He.ba z
    obtain ⟨z2, z3⟩ := He.ba z
    exact ⟨⟨He.eqO_ok z1, z2, z3⟩, of_decide_eq_true (List.all_eq_true.mp (He.ba (b2 cl m1)).1 _ m2)⟩
  · have m1 := List.mem_of_getElem? e1
    rw [cl_this e1]
    have z := (He.ba (He.ba (He.ba (k4 cl m1)).2).2).2
    have y := (He.ba (b2 cl m1)).2
    rw [e2] at z y
    obtain ⟨z1, z⟩ := He.ba z
    obtain ⟨z2, z⟩ := He.ba z
    obtain ⟨z3, z4⟩ := He.ba z
    exact ⟨⟨z1, He.eqO_ok z2, z3, z4⟩, of_decide_eq_true y⟩
  · exact PySem.W.mg_of X G (He.eqO_ok (k3 _ (lk_mem e)))
  · have z := k5 _ (lk_mem e)
    unfold conB at z
    cases e1 : Γ.consts[j]? with
    | none =>
      simp only [e1] at z
      cases z
    | some d =>
      cases e2 : PySem.W.nsIn K mainGlobals x with
      | none =>
        simp only [e1, e2] at z
        cases z
      | some o =>
        cases o with
        | none =>
          simp only [e1, e2] at z
          cases z
        | some u =>
          simp only [e1, e2] at z
          obtain ⟨v, r1, r2⟩ := rpB_ok (w := w) d u z
          exact ⟨d, u, v, rfl, PySem.W.mg_of X G e2, r1, r2⟩
  · exact PySem.W.mg_none_of X G (He.eqO_ok (k2 x hx))
/-- the law's def over every base, its promise at the script -/
theorem law_fact {P : Program} {x : Str} {f n W : Nat} {N : List Str} (hn : ns[f]? = some (N, [x])) (X : K.In h) (G : h.Ns mainGlobals mg) (c : He.SaysD [] fn K) (hk : tokB T Γ fn K = true) (st : defsB T Γ Γ.fns fn ns = true) (sb : statB T Γ = true) (hf : f < Γ.fns.length)
    {nm : Str} (hT : T.fnm.lookup nm = some f) {fa : Addr} (hfa : mg nm = some (.ref fa)) (hl : Γ.fns[f].pars = 1)
    (go : ∀ zs : List Int, zs.length ≤ 63 → ∃ s', run Γ W (n + 1) f [.scr zs] [] = some (.bool true, s')) :
    ∃ (fd : FuncData) (sp : Sp), (∀ (s : Shared) (u : Value), BindsTo s fd ⟨[u], []⟩ [(x, u)]) ∧
        (∀ (H : Hp) (a : Addr) (zs : List Int), zs.length ≤ 63 → Only H → SqL K H a (zs.map V.int) → sp [.ref a] H (fun v _ => v = .bl true) fun _ _ _ => False) ∧
        ∀ base : Heap, K.In base → base.Ns mainGlobals mg → FnOk P w K mg base L2.CX0 (2 * (n + 1)) fa fd [x] sp := by
  have e := List.getElem?_eq_getElem hf
  have t := tok_of (w := w) X G c hk st sb
  have ef := (t.fns nm f hT).1
  rw [hfa] at ef
  cases ef
  obtain ⟨y, qual, params, body, scope, fd, n0, e1, a1, a2, a3, a4, a5, a6, a7⟩ := def_at c st e
  rw [hn] at e1
  cases e1
  refine ⟨fd, spF K w (cAof K Γ) 1 (run Γ W (n + 1) f), fun s u => a1.bindsA (fun kV doc pm an cdv ct us hl => bind_plain a7 kV doc pm an cdv ct us hl) s [u] rfl, fun H a zs hz hO hS => ?_, fun base B1 B2 => ?_⟩
  · obtain ⟨s', e'⟩ := go zs hz
    refine ⟨rfl, ⟨[], []⟩, [], [.scr zs], .bool true, s', ⟨rfl, List.nodup_nil, fun i a c e => (by cases (show ([] : List Addr)[i]? = some a from e)), fun a m => (by cases m)⟩, .cons (.scr ?_) .nil, e', fun α' H' v _ _ r => ?_⟩
    · rcases hS with hS | hS
      · exact .inr ⟨hS, fun m => (by cases m), fun i e => (by cases (show ([] : List Addr)[i]? = some a from e))⟩
      · exact .inl (.inr hS)
    · cases r
      rfl
  · have z := run_fn (P := P) (mg := mg) (base := base) (W := W) t n e a1 a2 a3 a4 a5 a6
    rw [hl] at z
    exact z
end
end DL
end

section
set_option Elab.async false
set_option linter.all false
set_option maxRecDepth 100000
set_option maxHeartbeats 0
namespace EGk32
open PySem PySem.Spec PyProof.Rows L2 DL
def ns : List (List Str × List Str) := [
  ([("thing" : Str)], [("thing" : Str)]),
  ([("thing" : Str), ("many" : Str)], [("thing" : Str), ("many" : Str)]),
  ([("things" : Str)], [("things" : Str)]),
  ([("some" : Str), ("gone" : Str), ("one" : Str)], [("some" : Str), ("gone" : Str)]),
  ([("a" : Str), ("b" : Str)], [("a" : Str), ("b" : Str)]),
  ([("a" : Str), ("b" : Str), ("by" : Str)], [("a" : Str), ("b" : Str)]),
  ([("one" : Str), ("other" : Str)], [("one" : Str), ("other" : Str)]),
  ([("one" : Str), ("other" : Str)], [("one" : Str), ("other" : Str)]),
  ([("one" : Str), ("other" : Str)], [("one" : Str), ("other" : Str)]),
  ([("one" : Str), ("other" : Str)], [("one" : Str), ("other" : Str)]),
  ([("thing" : Str)], [("thing" : Str)]),
  ([("terms" : Str)], [("terms" : Str)]),
  ([("thing" : Str), ("own" : Str)], [("thing" : Str)]),
  ([("poly" : Str), ("k" : Str)], [("poly" : Str), ("k" : Str)]),
  ([("one" : Str), ("other" : Str), ("many" : Str), ("k" : Str)], [("one" : Str), ("other" : Str)]),
  ([("one" : Str), ("other" : Str), ("many" : Str), ("k" : Str)], [("one" : Str), ("other" : Str)]),
  ([("one" : Str), ("other" : Str), ("found" : Str), ("i" : Str), ("j" : Str)], [("one" : Str), ("other" : Str)]),
  ([("poly" : Str), ("at" : Str), ("found" : Str), ("own" : Str)], [("poly" : Str), ("at" : Str)]),
  ([("poly" : Str), ("k" : Str)], [("poly" : Str)]),
  ([("poly" : Str), ("name" : Str), ("parts" : Str), ("k" : Str), ("power" : Str)], [("poly" : Str), ("name" : Str)]),
  ([("poly" : Str), ("k" : Str), ("found" : Str), ("_" : Str)], [("poly" : Str), ("k" : Str)]),
  ([("sign" : Str), ("a" : Str), ("b" : Str)], [("sign" : Str), ("a" : Str), ("b" : Str)]),
  ([("self" : Str)], [("self" : Str)]),
  ([("self" : Str)], [("self" : Str)]),
  ([("self" : Str), ("one" : Str), ("other" : Str)], [("self" : Str), ("one" : Str), ("other" : Str)]),
  ([("self" : Str), ("one" : Str), ("other" : Str)], [("self" : Str), ("one" : Str), ("other" : Str)]),
  ([("self" : Str), ("chance" : Str)], [("self" : Str), ("chance" : Str)]),
  ([("self" : Str), ("name" : Str), ("value" : Str)], [("self" : Str), ("name" : Str), ("value" : Str)]),
  ([("self" : Str), ("unknown" : Str), ("coins" : Str)], [("self" : Str), ("unknown" : Str), ("coins" : Str)]),
  ([("self" : Str)], [("self" : Str)]),
  ([("self" : Str)], [("self" : Str)]),
  ([("self" : Str), ("one" : Str), ("other" : Str)], [("self" : Str), ("one" : Str), ("other" : Str)]),
  ([("self" : Str), ("one" : Str), ("other" : Str)], [("self" : Str), ("one" : Str), ("other" : Str)]),
  ([("self" : Str), ("chance" : Str)], [("self" : Str), ("chance" : Str)]),
  ([("self" : Str), ("name" : Str), ("value" : Str), ("one" : Str)], [("self" : Str), ("name" : Str), ("value" : Str)]),
  ([("unknown" : Str), ("coins" : Str)], [("unknown" : Str), ("coins" : Str)]),
  ([("scale" : Str), ("table" : Str), ("key" : Str), ("weight" : Str)], [("scale" : Str), ("table" : Str), ("key" : Str), ("weight" : Str)]),
  ([("draw" : Str), ("value" : Str), ("_" : Str)], [("draw" : Str)]),
  ([("draw" : Str), ("value" : Str)], [("draw" : Str), ("value" : Str)]),
  ([("scale" : Str), ("draw" : Str), ("value" : Str)], [("scale" : Str), ("draw" : Str), ("value" : Str)]),
  ([("node" : Str)], [("node" : Str)]),
  ([("node" : Str), ("values" : Str)], [("node" : Str), ("values" : Str)]),
  ([("node" : Str)], [("node" : Str)]),
  ([("node" : Str), ("values" : Str), ("value" : Str), ("_" : Str), ("own" : Str)], [("node" : Str), ("values" : Str)]),
  ([("scale" : Str), ("node" : Str), ("values" : Str), ("value" : Str), ("own" : Str)], [("scale" : Str), ("node" : Str), ("values" : Str), ("value" : Str)]),
  ([("nodes" : Str), ("domains" : Str), ("k" : Str), ("node" : Str), ("holds" : Str), ("first" : Str), ("able" : Str), ("a" : Str), ("b" : Str), ("own" : Str), ("row" : Str), ("v" : Str), ("_" : Str), ("odds" : Str), ("value" : Str)], [("nodes" : Str), ("domains" : Str), ("k" : Str)]),
  ([("net" : Str), ("nodes" : Str), ("found" : Str), ("k" : Str)], [("net" : Str)]),
  ([("domains" : Str), ("inputs" : Str), ("rows" : Str), ("own" : Str), ("row" : Str), ("value" : Str)], [("domains" : Str), ("inputs" : Str)]),
  ([("scope" : Str), ("row" : Str), ("places" : Str), ("own" : Str)], [("scope" : Str), ("row" : Str), ("places" : Str)]),
  ([("scale" : Str), ("one" : Str), ("other" : Str), ("both" : Str), ("rest" : Str), ("scope" : Str), ("lots" : Str), ("row" : Str), ("key" : Str), ("order" : Str), ("found" : Str), ("more" : Str), ("whole" : Str), ("own" : Str)], [("scale" : Str), ("one" : Str), ("other" : Str)]),
  ([("scale" : Str), ("tables" : Str), ("found" : Str), ("own" : Str)], [("scale" : Str), ("tables" : Str)]),
  ([("scale" : Str), ("table" : Str), ("place" : Str), ("scope" : Str), ("found" : Str), ("row" : Str)], [("scale" : Str), ("table" : Str), ("place" : Str)]),
  ([("scale" : Str), ("place" : Str), ("values" : Str), ("value" : Str)], [("scale" : Str), ("place" : Str), ("values" : Str)]),
  ([("table" : Str), ("row" : Str)], [("table" : Str)]),
  ([("scale" : Str), ("net" : Str), ("domains" : Str), ("k" : Str), ("node" : Str), ("inputs" : Str), ("scope" : Str), ("found" : Str), ("row" : Str), ("values" : Str), ("value" : Str)], [("scale" : Str), ("net" : Str), ("domains" : Str), ("k" : Str)]),
  ([("scale" : Str), ("domains" : Str), ("place" : Str), ("value" : Str)], [("scale" : Str), ("domains" : Str), ("place" : Str)]),
  ([("net" : Str), ("scale" : Str), ("domains" : Str), ("found" : Str), ("k" : Str), ("own" : Str)], [("net" : Str), ("scale" : Str)]),
  ([("scopes" : Str), ("places" : Str), ("found" : Str), ("own" : Str), ("scope" : Str), ("other" : Str)], [("scopes" : Str), ("places" : Str)]),
  ([("net" : Str), ("nodes" : Str), ("k" : Str), ("own" : Str)], [("net" : Str)]),
  ([("scale" : Str), ("tables" : Str), ("live" : Str), ("place" : Str), ("used" : Str), ("n" : Str)], [("scale" : Str), ("tables" : Str), ("live" : Str), ("place" : Str)]),
  ([("net" : Str), ("scale" : Str), ("order" : Str), ("tables" : Str), ("live" : Str), ("steps" : Str), ("place" : Str), ("used" : Str), ("own" : Str), ("n" : Str)], [("net" : Str), ("scale" : Str), ("order" : Str)]),
  ([("net" : Str), ("scale" : Str), ("order" : Str)], [("net" : Str), ("scale" : Str), ("order" : Str)]),
  ([("self" : Str), ("defs" : Str)], [("self" : Str), ("defs" : Str)]),
  ([("self" : Str), ("node" : Str)], [("self" : Str), ("node" : Str)]),
  ([("self" : Str), ("env" : Str), ("expr" : Str), ("word" : Str), ("one" : Str), ("holds" : Str), ("takes" : Str), ("gives" : Str), ("places" : Str), ("own" : Str)], [("self" : Str), ("env" : Str), ("expr" : Str)]),
  ([("self" : Str), ("guard" : Str), ("place" : Str)], [("self" : Str), ("guard" : Str), ("place" : Str)]),
  ([("self" : Str), ("guard" : Str), ("place" : Str)], [("self" : Str), ("guard" : Str), ("place" : Str)]),
  ([("self" : Str), ("env" : Str), ("guard" : Str), ("deed" : Str), ("holds" : Str), ("one" : Str), ("other" : Str), ("first" : Str), ("second_guard" : Str), ("second" : Str), ("found" : Str), ("name" : Str), ("same" : Str)], [("self" : Str), ("env" : Str), ("guard" : Str), ("deed" : Str)]),
  ([("self" : Str), ("env" : Str), ("guard" : Str), ("body" : Str), ("deed" : Str)], [("self" : Str), ("env" : Str), ("guard" : Str), ("body" : Str)]),
  ([("body" : Str), ("deed" : Str)], [("body" : Str)]),
  ([("program" : Str), ("defs" : Str), ("body" : Str), ("answer" : Str), ("builder" : Str), ("env" : Str), ("place" : Str)], [("program" : Str)]),
  ([("net" : Str)], [("net" : Str)]),
  ([("graph" : Str), ("place" : Str), ("near" : Str), ("found" : Str), ("own" : Str), ("other" : Str)], [("graph" : Str), ("place" : Str)]),
  ([("graph" : Str), ("place" : Str), ("near" : Str), ("one" : Str), ("other" : Str)], [("graph" : Str), ("place" : Str)]),
  ([("net" : Str), ("by_fill" : Str), ("graph" : Str), ("found" : Str), ("rows" : Str), ("own" : Str), ("near" : Str), ("best" : Str)], [("net" : Str), ("by_fill" : Str)]),
  ([("net" : Str)], [("net" : Str)]),
  ([("program" : Str), ("unknown" : Str), ("coins" : Str), ("net" : Str)], [("program" : Str), ("unknown" : Str), ("coins" : Str)]),
  ([("polys" : Str), ("found" : Str), ("key" : Str)], [("polys" : Str)]),
  ([("polys" : Str), ("chance" : Str), ("whole" : Str), ("told" : Str), ("key" : Str), ("own" : Str)], [("polys" : Str), ("chance" : Str)]),
  ([("polys" : Str), ("key" : Str)], [("polys" : Str)]),
  ([("script" : Str), ("many" : Str), ("draws" : Str), ("mixed" : Str), ("k" : Str), ("cell" : Str), ("rest" : Str), ("turn" : Str)], [("script" : Str), ("many" : Str)]),
  ([("w" : Str), ("many" : Str)], [("w" : Str), ("many" : Str)]),
  ([("thing" : Str)], [("thing" : Str)]),
  ([("said" : Str), ("due" : Str)], [("said" : Str), ("due" : Str)]),
  ([("a" : Str), ("b" : Str), ("turn" : Str)], [("a" : Str), ("b" : Str)]),
  ([("a" : Str), ("b" : Str), ("by" : Str)], [("a" : Str), ("b" : Str)]),
  ([("one" : Str), ("other" : Str)], [("one" : Str), ("other" : Str)]),
  ([("one" : Str), ("other" : Str)], [("one" : Str), ("other" : Str)]),
  ([("one" : Str), ("other" : Str)], [("one" : Str), ("other" : Str)]),
  ([("terms" : Str), ("turn" : Str)], [("terms" : Str)]),
  ([("w" : Str), ("k" : Str)], [("w" : Str)]),
  ([("poly" : Str), ("at" : Str), ("found" : Str), ("power" : Str), ("own" : Str)], [("poly" : Str), ("at" : Str)]),
  ([("one" : Str), ("other" : Str), ("found" : Str), ("i" : Str), ("j" : Str)], [("one" : Str), ("other" : Str)]),
  ([("poly" : Str), ("parts" : Str), ("k" : Str)], [("poly" : Str)]),
  ([("script" : Str), ("w" : Str), ("turn" : Str), ("one" : Str), ("other" : Str), ("at" : Str), ("long" : Str), ("a" : Str), ("b" : Str), ("both" : Str), ("slope" : Str), ("k" : Str), ("power" : Str), ("n" : Str), ("things" : Str), ("thing" : Str), ("good" : Str), ("own" : Str), ("body" : Str), ("answer" : Str), ("polys" : Str), ("chance" : Str), ("due" : Str), ("value" : Str), ("part" : Str)], [("script" : Str)])]
theorem st : defsB T Gk32.Γ Gk32.Γ.fns fn ns = true := by decide +kernel
theorem sb : statB T Gk32.Γ = true := by decide +kernel
end EGk32
open PySem PySem.W PySem.Calls PyProof.Rows
/-- the law holds, if the evaluator says so of every script -/
theorem EGk32.holds (go : ∀ zs : List Int, zs.length ≤ 63 → ∃ s', DL.run Gk32.Γ 100000 (59 + 1) 94 [.scr zs] [] = some (.bool true, s')) : PySem.Challenge.rw_oddsagree_k32_whole_polynomials.Holds := by
  w_on; o_law
  refine HandSHeadRun.head_any (r := OpenLaw.row PySem.Challenge.rw_oddsagree_k32_whole_polynomials) (q := view (OpenLaw.row PySem.Challenge.rw_oddsagree_k32_whole_polynomials).prog [94]) (H := EGk32.hk) (ob := EGk32.ob) (M := 20000) (loose := EGk32.names) (d := HandSHeadRun.topDef (OpenLaw.row PySem.Challenge.rw_oddsagree_k32_whole_polynomials).prog 94) (kwd := []) EGk32.ob_eq
    (by kernel_rfl) (fun s => by kernel_rfl) EGk32.run (by kernel_rfl) (by kernel_rfl) (by kernel_rfl) (by rfl) (by first | assumption | decide +kernel) (by decide +kernel) ⟨rfl, rfl, rfl, rfl, rfl, by decide +kernel⟩ ?hw ?hc
  case hw => w_witness2
  case hc =>
    refine L2.walk_ofE (l := PySem.Challenge.rw_oddsagree_k32_whole_polynomials) (n := 63) (k := 2 * (59 + 1)) (x := "script") (CX := L2.CX0) rfl (by decide) (by kernel_rfl) ⟨rfl, by decide, by decide⟩ ?F (fun _ _ _ _ z => z)
    intro w mg fa h Y G hmg0
    obtain ⟨K, KX, c, hk⟩ := Y
    have hmg : mg ("law" : PySem.Str) = some (.ref fa) := by
      have e : (HandSHeadRun.topDef (OpenLaw.row PySem.Challenge.rw_oddsagree_k32_whole_polynomials).prog 94).name = ("law" : PySem.Str) := by kernel_rfl
      rw [← e]
      exact hmg0
    obtain ⟨fd, sp, hb, hF, hG⟩ := DL.law_fact (P := (PySem.Challenge.rw_oddsagree_k32_whole_polynomials).prog) (w := w) (f := 94) (n := 59) (W := 100000) (ns := EGk32.ns) (x := ("script" : PySem.Str)) (nm := ("law" : PySem.Str)) (by rfl) KX G c hk EGk32.st EGk32.sb (by decide +kernel) (by decide +kernel) hmg (by rfl) go
    exact ⟨K, fd, sp, KX, hb, hF, hG⟩
end
theorem PySem.Challenge.cw_oddsagree_k32_whole_polynomials_holds : PySem.Challenge.rw_oddsagree_k32_whole_polynomials.Holds := by
  exact EGk32.holds Pk32.go
