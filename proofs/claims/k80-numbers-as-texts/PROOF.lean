import PyProof.Rows.All
import Wide.All
import OpenK.AllK
import Wide.FinOn
import HandS.ForMost
import HandS.Exc
import HandS.ExcOwn
import HandS.ExcInit
import HandS.TryOnly
import HandS.WordsExc
import HandS.Defaults
import HandS.Wide
import HandS.Conv
import HandS.Rev
import HandS.Zip
import HandS.IsInst
import HandS.TupAny
import HandS.TupLe
import HandS.Codes
import HandS.Deep
import HandS.Flow
import HandS.NoneIn
import HandS.Head0
import HandS.Head1
import HandS.Head2
import HandS.HeadEnd
import HandS.HeadHook1
import HandS.HeadHook2
import HandS.Text
import HandS.DictTup
import HandS.Keys
import HandS.More
import HandS.SortInts
import HandS.SortRule
import HandS.Style
import KE.KRevSl
import HandS.StrMore
import HandS.Iter
import KE.KDictCopyH
import HandS.ExcIs
import HandS.Small
import PySem.Builtin.Tuple.Common
import KE.KDictOf
import KE.KEqDict
import HandS.DeepEq
import HandS.ExcField
import HandS.Base
import HandS.Call
import HandS.SetFor
import PyProof.StrOps2
import PySem.Challenge.RW_laglist_k80_numbers_as_texts
import Lean
set_option Elab.async false
set_option linter.all false
set_option maxRecDepth 100000
set_option maxHeartbeats 0
/-! The small language: values, objects, a state that is a list of objects, and a total interpreter. -/
namespace IR
/-- a text: its code points -/
abbrev Txt := List Nat
/-- a value; tl: a list that nothing but this value holds yet; scr: the script -/
inductive D where
  | non | bl (b : Bool) | int (i : Int) | str (s : Txt) | tup (l : List D) | ref (n : Nat) | tl (l : List D) | fn (i : Nat) | scr (l : List Int)
/-- a key of a dict -/
abbrev Ky := Sum Int Txt
/-- an object: a list, a dict (by ints and texts; by tuples of them), one of a class. lk: a dict that is being walked -/
inductive MO where
  | lst (l : List D) | dK (lk : Bool) (kvs : List (Ky × D)) | dT (lk : Bool) (kvs : List (List Ky × D)) | ins (c : Nat) (fs : List (Nat × D)) | exn (c : Nat) (fs : List (Nat × D))
abbrev Sto := List MO
inductive Res (α : Type) where
  | ok (a : α) (s : Sto) | exc (c : Nat) (fs : List (Nat × D)) (s : Sto) | bad
abbrev M (α : Type) := Sto → Res α
def M.pure {α : Type} (a : α) : M α := fun s => .ok a s
def Res.bind {α β : Type} (r : Res α) (f : α → M β) : Res β := match r with
  | .ok a s => f a s
  | .exc c fs s => .exc c fs s
  | .bad => .bad
def M.bind {α β : Type} (m : M α) (f : α → M β) : M β := fun s => (m s).bind f
def M.bad {α : Type} : M α := fun _ => .bad
theorem M.pure_bind {α β : Type} (a : α) (f : α → M β) : (M.pure a).bind f = f a := rfl
theorem M.bind_assoc {α β γ : Type} (m : M α) (f : α → M β) (h : β → M γ) : (m.bind f).bind h = m.bind fun x => (f x).bind h := by
  funext s
  unfold M.bind Res.bind
  cases m s <;> rfl
theorem M.bind_pure {α : Type} (m : M α) : m.bind M.pure = m := by
  funext s
  unfold M.bind Res.bind
  cases m s <;> rfl
def M.of {α : Type} : Option α → M α
  | some a => M.pure a
  | none => M.bad
def M.chk (b : Bool) : M Unit := fun s => if b then .ok () s else .bad
/-- the greatest length of a list, a text -/
abbrev LINE : Nat := 1000000

/-! ### data -/
inductive P where
  | non | bl (b : Bool) | int (i : Int) | str (s : Txt) | lst (l : List P) | tup (l : List P)
mutual
def P.eqv : P → P → Bool
  | .non, .non => true
  | .bl a, .bl b => a == b
  | .bl a, .int j => (if a then 1 else 0) == j
  | .int i, .bl b => i == (if b then 1 else 0)
  | .int i, .int j => i == j
  | .str x, .str y => x == y
  | .lst xs, .lst ys => P.eqvs xs ys
  | .tup xs, .tup ys => P.eqvs xs ys
  | _, _ => false
def P.eqvs : List P → List P → Bool
  | [], [] => true
  | x :: xs, y :: ys => P.eqv x y && P.eqvs xs ys
  | _, _ => false
end
/-- what a value says as data, at most n deep -/
def toP (S : Sto) : Nat → D → Option P
  | 0, _ => none
  | n + 1, d => match d with
    | .non => some .non
    | .bl b => some (.bl b)
    | .int i => some (.int i)
    | .str s => if s.all (fun c => decide (c < 1114112)) then some (.str s) else none
    | .tup l => (l.mapM (toP S n)).map .tup
    | .tl l => (l.mapM (toP S n)).map .lst
    | .ref r => match S[r]? with
      | some (.lst l) => (l.mapM (toP S n)).map .lst
      | _ => none
    | .scr l => some (.lst (l.map .int))
    | .fn _ => none
def eqD (S : Sto) (a b : D) : Option Bool := match toP S 20 a, toP S 20 b with
  | some p, some q => some (p.eqv q)
  | _, _ => none
def D.ky : D → Option Ky
  | .int i => some (.inl i)
  | .str s => some (.inr s)
  | _ => none
def pairsK : List D → Option (List (Ky × D))
  | [] => some []
  | .tup [k, v] :: r => match k.ky, pairsK r with
    | some k, some l => some ((k, v) :: l)
    | _, _ => none
  | _ => none
def D.kys : D → Option (List Ky)
  | .tup l => l.mapM D.ky
  | _ => none
def Ky.d : Ky → D
  | .inl i => .int i
  | .inr s => .str s
/-- the items of a list, a tuple, as a value -/
def items (S : Sto) : D → Option (List D)
  | .tup l => some l
  | .tl l => some l
  | .scr l => some (l.map .int)
  | .ref r => match S[r]? with
    | some (.lst l) => some l
    | _ => none
  | _ => none
def lstItems (S : Sto) : D → Option (List D)
  | .tl l => some l
  | .scr l => some (l.map .int)
  | .ref r => match S[r]? with
    | some (.lst l) => some l
    | _ => none
  | _ => none
def ownItems (S : Sto) : D → Option (List D)
  | .tl l => some l
  | .ref r => match S[r]? with
    | some (.lst l) => some l
    | _ => none
  | _ => none
def D.isInt : D → Option Int
  | .int i => some i
  | _ => none
def D.isBl : D → Option Bool
  | .bl b => some b
  | _ => none
def D.isStr : D → Option Txt
  | .str s => some s
  | _ => none

/-! ### dicts -/
section
variable {κ : Type} [DecidableEq κ]
def dGet : List (κ × D) → κ → Option D
  | [], _ => none
  | p :: r, k => if p.1 = k then some p.2 else dGet r k
def dPut (kvs : List (κ × D)) (k : κ) (v : D) : List (κ × D) := if (dGet kvs k).isSome then kvs.map (fun p => if p.1 = k then (p.1, v) else p) else kvs ++ [(k, v)]
def dDrop (kvs : List (κ × D)) (k : κ) : List (κ × D) := kvs.filter fun p => decide (p.1 ≠ k)
end

/-! ### order -/
def ixOf (n : Nat) (i : Int) : Option Nat := if 0 ≤ i then (if i < n then some i.toNat else none) else if -(n : Int) ≤ i then some (i + n).toNat else none
def atD {α : Type} (l : List α) (i : Int) : Option α := (ixOf l.length i).bind fun j => l[j]?
def sIx (n d : Nat) : Option Int → Nat
  | none => d
  | some i => if 0 ≤ i then min i.toNat n else (i + n).toNat
def cut {α : Type} (l : List α) (lo hi : Option Int) : List α := (l.drop (sIx l.length 0 lo)).take (sIx l.length l.length hi - sIx l.length 0 lo)
mutual
def P.lt : P → P → Option Bool
  | .int i, .int j => some (decide (i < j))
  | .str x, .str y => some (decide (x < y))
  | .tup xs, .tup ys => P.lts xs ys
  | _, _ => none
def P.lts : List P → List P → Option Bool
  | [], [] => some false
  | [], _ :: _ => some true
  | _ :: _, [] => some false
  | x :: xs, y :: ys => if P.eqv x y then P.lts xs ys else P.lt x y
end
/-- put among sorted ones; sorted -/
def insBy {α : Type} (le : α → α → Bool) (x : α) : List α → List α
  | [] => [x]
  | y :: r => if le x y then x :: y :: r else y :: insBy le x r
def sortBy {α : Type} (le : α → α → Bool) : List α → List α
  | [] => []
  | x :: r => insBy le x (sortBy le r)
def leI (i j : Int) : Bool := decide (i ≤ j)
def leP (p q : Int × Int) : Bool := decide (p.1 < q.1 ∨ p.1 = q.1 ∧ p.2 ≤ q.2)
def leS (x y : Txt) : Bool := !decide (y < x)
def D.isPr : D → Option (Int × Int)
  | .tup [.int i, .int j] => some (i, j)
  | _ => none
def prD (p : Int × Int) : D := .tup [.int p.1, .int p.2]
/-- numbers, pairs of numbers, texts, sorted -/
def srtL (l : List D) : Option (List D) := match l.mapM D.isInt with
  | some is => some ((sortBy leI is).map .int)
  | none => match l.mapM D.isPr with
    | some ps => some ((sortBy leP ps).map prD)
    | none => match l.mapM D.isStr with
      | some ts => if ts.length < 64 then some ((sortBy leS ts).map .str) else none
      | none => none
def Ky.isI : Ky → Option Int
  | .inl i => some i
  | .inr _ => none
def Ky.isS : Ky → Option Txt
  | .inl _ => none
  | .inr t => some t
/-- the keys of a dict, sorted -/
def srtK (ks : List Ky) : Option (List D) := if ks.length < 64 then (match ks.mapM Ky.isI with
  | some is => some ((sortBy leI is).map .int)
  | none => match ks.mapM Ky.isS with
    | some ts => some ((sortBy leS ts).map .str)
    | none => none) else none
def leN (p q : Int × D) : Bool := decide (p.1 ≤ q.1)
def itN1 : Ky × D → Option (Int × D)
  | (.inl i, .tup l) => some (i, .tup l)
  | (.inl i, .ref n) => some (i, .ref n)
  | _ => none
/-- the entries of a dict by numbers, sorted -/
def srtN (kvs : List (Ky × D)) : Option (List D) := if kvs.length < 64 then (kvs.mapM itN1).map fun l => (sortBy leN l).map fun p => .tup [.int p.1, p.2] else none

/-! ### texts -/
def digit (n : Nat) : Nat := 48 + n
def natTxtAux : Nat → Nat → Txt → Txt
  | 0, _, acc => acc
  | f + 1, n, acc => if n < 10 then digit n :: acc else natTxtAux f (n / 10) (digit (n % 10) :: acc)
def natTxt (n : Nat) : Txt := natTxtAux (n + 1) n []
def intTxt (i : Int) : Txt := if i < 0 then 45 :: natTxt i.natAbs else natTxt i.natAbs
def txtNat : Txt → Option Nat
  | [] => none
  | l => l.foldl (fun a c => a.bind fun n => if 48 ≤ c ∧ c ≤ 57 then some (n * 10 + (c - 48)) else none) (some 0)
def txtInt : Txt → Option Int
  | 45 :: l => (txtNat l).map fun n => -(n : Int)
  | l => (txtNat l).map fun n => (n : Int)
def joinT (sep : Txt) : List Txt → Txt
  | [] => []
  | [x] => x
  | x :: y :: r => x ++ sep ++ joinT sep (y :: r)
def splitAux (sep : Nat) : Txt → Txt → List Txt
  | [], acc => [acc.reverse]
  | c :: r, acc => if c = sep then acc.reverse :: splitAux sep r [] else splitAux sep r (c :: acc)
def splitT (sep : Nat) (t : Txt) : List Txt := splitAux sep t []

/-! ### operations -/
/-- a kind asked by isinstance -/
inductive Ty where
  | int | bool | str | tuple | list | exc (c : Nat)
inductive Op where
  | add | sub | mul | fdiv | mod | pow | neg
  | lt | le | gt | ge | eq | ne | isin | notin | isN | notN | isT | isF | notT | notF
  | ix | sl (lo hi : Bool) | revS
  | tup | lst | newK | newT | disp (ks : List Txt)
  | attr (f : Nat)
  | len | sum | all | min1 | max1 | min2 | max2 | abs | sorted | tuple | list | int | str | dict | dictP
  | tupRg1 | tupRg2 | lstRg1 | lstRg2 | sortedSet | lenSet | sortedItems | sortedKeys
  | isi (ts : List Ty)
  | append | extend | pop1 | pop2 | get1 | get2 | index | count | insert | join | split
  | sortedT | dictT | lstRg3 | slB | isx (cs : List Nat) | attrX (f : Nat) | indexS
  | eqE | neE | sortedSetP | indexL | countB | strip | intS | mulS
def wantInt (d : D) : M Int := fun S => match d with
  | .int i => .ok i S
  | _ => .bad
def addD (S : Sto) : D → D → Option D
  | .int i, .int j => some (.int (i + j))
  | .str x, .str y => if x.length + y.length ≤ LINE then some (.str (x ++ y)) else none
  | .tup x, .tup y => if x.length + y.length ≤ LINE then some (.tup (x ++ y)) else none
  | a, b => match ownItems S a, ownItems S b with
    | some x, some y => if x.length + y.length ≤ LINE then some (.tl (x ++ y)) else none
    | _, _ => none
def B64 : Int := 18446744073709551616
def mulD (S : Sto) : D → D → Option D
  | .int i, .int j => if (-B64 < i ∧ i < B64) ∨ (-B64 < j ∧ j < B64) then some (.int (i * j)) else none
  | a, .int j => match ownItems S a with
    | some x => if j ≤ LINE ∧ -LINE ≤ j ∧ x.length * j.toNat ≤ LINE then some (.tl (List.replicate j.toNat x).flatten) else none
    | none => none
  | _, _ => none
def ltD (S : Sto) (a b : D) : Option Bool := match a, b with
  | .int i, .int j => some (decide (i < j))
  | .tup x, .tup y => match x.mapM D.isInt, y.mapM D.isInt with
    | some is, some js => P.lts (is.map .int) (js.map .int)
    | _, _ => none
  | _, _ => none
def anyEq (S : Sto) (x : D) (l : List D) : Option Bool := match toP S 20 x, l.mapM (toP S 19) with
  | some q, some ps => some (ps.any fun p => p.eqv q)
  | _, _ => none
def findEq (S : Sto) (x : D) (l : List D) : Option Nat := match toP S 20 x, l.mapM (toP S 19) with
  | some q, some ps => ps.findIdx? fun p => p.eqv q
  | _, _ => none
/-- flat: None, truths, numbers, texts -/
def D.flat : D → Bool
  | .non => true
  | .bl _ => true
  | .int _ => true
  | .str _ => true
  | _ => false
def inD (S : Sto) (x : D) (c : D) : Option Bool := match c with
  | .str s => match x with
    | .str [k] => some (s.contains k)
    | _ => none
  | .ref r => match S[r]? with
    | some (.dK _ kvs) => x.ky.map fun k => (dGet kvs k).isSome
    | some (.dT _ kvs) => x.kys.map fun k => (dGet kvs k).isSome
    | some (.lst l) => anyEq S x l
    | _ => none
  | .scr l => anyEq S x (l.map .int)
  | .tl l => anyEq S x l
  | .tup l => if x.flat && l.all D.flat then anyEq S x l else none
  | _ => none
def ixD (S : Sto) (a i : D) : Option D := match a with
  | .str s => if s.length ≤ LINE then i.isInt.bind fun j => (atD s j).map fun c => .str [c] else none
  | .ref r => match S[r]? with
    | some (.dK _ kvs) => i.ky.bind fun k => dGet kvs k
    | some (.dT _ kvs) => i.kys.bind fun k => dGet kvs k
    | some (.lst l) => i.isInt.bind fun j => atD l j
    | _ => none
  | .scr l => i.isInt.bind fun j => (atD l j).map .int
  | .tl l => i.isInt.bind fun j => atD l j
  | .tup l => i.isInt.bind fun j => atD l j
  | _ => none
def slD (S : Sto) (a : D) (lo hi : Option Int) : Option D := match a with
  | .str s => if s.length ≤ LINE then some (.str (cut s lo hi)) else none
  | .tup l => some (.tup (cut l lo hi))
  | a => (lstItems S a).map fun l => .tl (cut l lo hi)
def lenD (S : Sto) (a : D) : Option Nat := match a with
  | .str s => if s.length ≤ LINE then some s.length else none
  | .ref r => match S[r]? with
    | some (.dK _ kvs) => some kvs.length
    | some (.lst l) => some l.length
    | _ => none
  | .scr l => some l.length
  | .tl l => some l.length
  | .tup l => some l.length
  | _ => none
def slM (a : D) (lo hi : Option Int) : M D := fun S => match slD S a lo hi with
  | some d => .ok d S
  | none => .bad
def foldMin : List Int → Option Int
  | [] => none
  | x :: r => some (r.foldl (fun a b => if b < a then b else a) x)
def foldMax : List Int → Option Int
  | [] => none
  | x :: r => some (r.foldl (fun a b => if a < b then b else a) x)
def rg (a b : Int) : List D := (List.range (b - a).toNat).map fun (i : Nat) => D.int (a + i)
/-- put among rising ones, if it isn't there -/
def insS (x : Int) : List Int → List Int
  | [] => [x]
  | y :: r => if x < y then x :: y :: r else if x = y then y :: r else y :: insS x r
/-- the members, rising -/
def setOf : List Int → List Int
  | [] => []
  | x :: r => insS x (setOf r)
/-- a, a + c, .. below b -/
def rg3 (a b c : Int) : List D := (List.range ((b - a + c - 1) / c).toNat).map fun (i : Nat) => D.int (a + i * c)
/-- every k-th item, from the last one back -/
def backBy {α : Type} (k : Nat) (l : List α) : List α := (List.range ((l.length + k - 1) / k)).filterMap fun i => l[l.length - 1 - i * k]?
def pr2 : List Ky → Option (Int × Int)
  | [.inl i, .inl j] => some (i, j)
  | _ => none
def srtT (ks : List (List Ky)) : Option (List D) := if ks.length < 1000 then (ks.mapM pr2).map fun ps => (sortBy leP ps).map prD else none
/-- pairs: put among rising ones, if it isn't there; the members, rising -/
def insP (x : Int × Int) : List (Int × Int) → List (Int × Int)
  | [] => [x]
  | y :: r => if x = y then y :: r else if leP x y then x :: y :: r else y :: insP x r
def setOfP : List (Int × Int) → List (Int × Int)
  | [] => []
  | x :: r => insP x (setOfP r)
/-- a text without these signs at its ends -/
def stripT (cs s : Txt) : Txt := ((s.dropWhile (cs.contains ·)).reverse.dropWhile (cs.contains ·)).reverse
/-- a pair of numbers within bounds; -1 and -2 are told apart by no hash -/
def lane (p : Int × Int) : Option (Int × Int) := if -4000000000 ≤ p.1 ∧ p.1 ≤ 4000000000 ∧ 0 ≤ p.2 ∧ p.2 ≤ 999999 then some (if p.1 = -1 then -2 else p.1, p.2) else none
def cpT (kvs : List (List Ky × D)) : Bool := kvs.length < 1000 && (match (kvs.map (·.1)).mapM fun k => (pr2 k).bind lane with
  | some l => decide l.Nodup
  | none => false)
/-- the class c of exceptions is below the class d: 9 ValueError, 10 LagError -/
def subX (c d : Nat) : Bool := d == c || d == 10 || d == 9
/-- the kind of a value: 0 None, 1 a truth, 2 a number, 3 a text, 4 a tuple, 5 a list -/
def kindD (S : Sto) : D → Option Nat
  | .non => some 0
  | .bl _ => some 1
  | .int _ => some 2
  | .str _ => some 3
  | .tup _ => some 4
  | .tl _ => some 5
  | .scr _ => some 5
  | .ref r => match S[r]? with
    | some (.lst _) => some 5
    | _ => none
  | .fn _ => none
def tyIs : Nat → Ty → Bool
  | 1, .int => true
  | 2, .int => true
  | 1, .bool => true
  | 3, .str => true
  | 4, .tuple => true
  | 5, .list => true
  | _, _ => false
def bool1 (o : Option Bool) : M D := fun S => match o with | some b => .ok (.bl b) S | none => .bad
def val1 (o : Option D) : M D := fun S => match o with | some d => .ok d S | none => .bad
def evOp (o : Op) (as : List D) : M D := fun S => match o, as with
  | .add, [a, b] => val1 (addD S a b) S
  | .sub, [.int i, .int j] => .ok (.int (i - j)) S
  | .mul, [a, b] => val1 (mulD S a b) S
  | .fdiv, [.int i, .int j] => if 0 < j ∧ (j < B64 ∨ j = 1000000000000000000000000000000 ∨ j = 100000000000000000000) then .ok (.int (i / j)) S else .bad
  | .mod, [.int i, .int j] => if 0 < j then .ok (.int (i % j)) S else .bad
  | .pow, [.int i, .int j] => if 0 ≤ j ∧ j ≤ 1000 ∧ i.natAbs < 1000 then .ok (.int (i ^ j.toNat)) S else .bad
  | .neg, [.int i] => .ok (.int (-i)) S
  | .lt, [a, b] => bool1 (ltD S a b) S
  | .le, [.int i, .int j] => .ok (.bl (decide (i ≤ j))) S
  | .gt, [.int i, .int j] => .ok (.bl (decide (j < i))) S
  | .ge, [.int i, .int j] => .ok (.bl (decide (j ≤ i))) S
  | .eq, [a, b] => bool1 (eqD S a b) S
  | .ne, [a, b] => bool1 ((eqD S a b).map (!·)) S
  | .isin, [a, b] => bool1 (inD S a b) S
  | .notin, [a, b] => bool1 ((inD S a b).map (!·)) S
  | .isN, [a] => .ok (.bl (match a with | .non => true | _ => false)) S
  | .notN, [a] => .ok (.bl (match a with | .non => false | _ => true)) S
  | .isT, [.bl b] => .ok (.bl b) S
  | .isF, [.bl b] => .ok (.bl (!b)) S
  | .notT, [.bl b] => .ok (.bl (!b)) S
  | .notF, [.bl b] => .ok (.bl b) S
  | .ix, [a, i] => val1 (ixD S a i) S
  | .sl true true, [a, .int i, .int j] => val1 (slD S a (some i) (some j)) S
  | .sl true false, [a, .int i] => val1 (slD S a (some i) none) S
  | .sl false true, [a, .int j] => val1 (slD S a none (some j)) S
  | .sl false false, [a] => val1 (slD S a none none) S
  | .revS, [.tup l] => .ok (.tup l.reverse) S
  | .revS, [a] => val1 ((lstItems S a).map fun l => .tl l.reverse) S
  | .tup, l => .ok (.tup l) S
  | .lst, l => .ok (.tl l) S
  | .newK, [] => .ok (.ref S.length) (S ++ [.dK false []])
  | .newT, [] => .ok (.ref S.length) (S ++ [.dT false []])
  | .disp ks, l => .ok (.ref S.length) (S ++ [.dK false ((ks.zip l).map fun p => (.inr p.1, p.2))])
  | .attr f, [.ref r] => match S[r]? with
    | some (.ins _ fs) => val1 (fs.lookup f) S
    | _ => .bad
  | .attrX f, [.ref r] => match S[r]? with
    | some (.exn _ fs) => val1 (fs.lookup f) S
    | _ => .bad
  | .len, [a] => val1 ((lenD S a).map fun n => .int n) S
  | .sum, [a] => val1 ((lstItems S a).bind fun l => (l.mapM D.isInt).map fun is => .int is.sum) S
  | .all, [a] => val1 ((lstItems S a).bind fun l => (l.mapM D.isBl).map fun bs => .bl (bs.all id)) S
  | .min1, [a] => val1 ((lstItems S a).bind fun l => (l.mapM D.isInt).bind fun is => (foldMin is).map .int) S
  | .max1, [a] => val1 ((lstItems S a).bind fun l => (l.mapM D.isInt).bind fun is => (foldMax is).map .int) S
  | .min2, [.int i, .int j] => .ok (.int (if j < i then j else i)) S
  | .max2, [.int i, .int j] => .ok (.int (if j > i then j else i)) S
  | .abs, [.int i] => .ok (.int (if i < 0 then -i else i)) S
  | .sorted, [.ref r] => match S[r]? with
    | some (.lst l) => val1 ((srtL l).map .tl) S
    | some (.dK _ kvs) => val1 ((srtK (kvs.map (·.1))).map .tl) S
    | _ => .bad
  | .sorted, [a] => val1 ((lstItems S a).bind fun l => (srtL l).map .tl) S
  | .tuple, [.tup l] => .ok (.tup l) S
  | .tuple, [a] => val1 ((lstItems S a).map .tup) S
  | .list, [a] => val1 ((items S a).map .tl) S
  | .int, [.int i] => .ok (.int i) S
  | .int, [.bl b] => .ok (.int (if b then 1 else 0)) S
  | .int, [.str s] => if s.length ≤ 20 then val1 ((txtInt s).map .int) S else .bad
  | .str, [.int i] => if i.natAbs < 10 ^ 100 then .ok (.str (intTxt i)) S else .bad
  | .dict, [.ref r] => match S[r]? with
    | some (.dK _ kvs) => .ok (.ref S.length) (S ++ [.dK false kvs])
    | _ => .bad
  | .dictP, [.tl l] => match pairsK l with
    | some kvs => .ok (.ref S.length) (S ++ [.dK false (kvs.foldl (fun acc p => dPut acc p.1 p.2) [])])
    | none => .bad
  | .tupRg1, [.int n] => if n ≤ LINE ∧ -LINE ≤ n then .ok (.tup (rg 0 n)) S else .bad
  | .tupRg2, [.int a, .int b] => if b ≤ LINE ∧ -LINE ≤ b ∧ a ≤ LINE ∧ -LINE ≤ a then .ok (.tup (rg a b)) S else .bad
  | .lstRg1, [.int n] => if n ≤ LINE ∧ -LINE ≤ n then .ok (.tl (rg 0 n)) S else .bad
  | .lstRg2, [.int a, .int b] => if b ≤ LINE ∧ -LINE ≤ b ∧ a ≤ LINE ∧ -LINE ≤ a then .ok (.tl (rg a b)) S else .bad
  | .sortedSet, [a] => val1 ((items S a).bind fun l => (l.mapM D.isInt).bind fun is => if is.length < 64 then some (.tl ((setOf is).map .int)) else none) S
  | .lenSet, [a] => val1 ((lstItems S a).bind fun l => (l.mapM D.isInt).bind fun is => if is.length ≤ 200 then some (.int (setOf is).length) else none) S
  | .sortedItems, [.ref r] => match S[r]? with
    | some (.dK false kvs) => val1 ((srtN kvs).map .tl) S
    | _ => .bad
  | .isi ts, [a] => val1 ((kindD S a).map fun k => .bl (ts.any (tyIs k))) S
  | .append, [.ref r, d] => match S[r]? with
    | some (.lst l) => if l.length < LINE then .ok .non (S.set r (.lst (l ++ [d]))) else .bad
    | _ => .bad
  | .extend, [.ref r, b] => match S[r]?, ownItems S b with
    | some (.lst l), some m => if l.length + m.length ≤ LINE then .ok .non (S.set r (.lst (l ++ m))) else .bad
    | _, _ => .bad
  | .pop1, [.ref r, k] => match S[r]?, k.ky with
    | some (.dK false kvs), some k => match dGet kvs k with
      | some v => .ok v (S.set r (.dK false (dDrop kvs k)))
      | none => .bad
    | _, _ => .bad
  | .pop2, [.ref r, k, d] => match S[r]?, k.kys with
    | some (.dT false kvs), some k => match dGet kvs k with
      | some v => .ok v (S.set r (.dT false (dDrop kvs k)))
      | none => .ok d S
    | _, _ => .bad
  | .get1, [.ref r, k] => match S[r]?, k.ky with
    | some (.dK _ kvs), some k => .ok ((dGet kvs k).getD .non) S
    | _, _ => .bad
  | .get2, [.ref r, k, d] => match S[r]?, k.ky with
    | some (.dK _ kvs), some k => .ok ((dGet kvs k).getD d) S
    | _, _ => .bad
  | .index, [.str s, .str [k]] => val1 ((s.findIdx? (· == k)).map fun (n : Nat) => D.int (n : Int)) S
  | .index, [a, x] => val1 ((lstItems S a).bind fun l => (findEq S x l).map fun (n : Nat) => D.int (n : Int)) S
  | .insert, [.ref r, .int 0, d] => match S[r]? with
    | some (.lst l) => if l.length < LINE then .ok .non (S.set r (.lst (d :: l))) else .bad
    | _ => .bad
  | .join, [.str sep, a] => val1 ((lstItems S a).bind fun l => (l.mapM D.isStr).bind fun ts => if sep.length ≤ 1000 ∧ (joinT sep ts).length ≤ LINE then some (.str (joinT sep ts)) else none) S
  | .split, [.str s, .str [k]] => if s.length ≤ LINE then .ok (.tl ((splitT k s).map .str)) S else .bad
  | .indexS, [.str s, .str [k]] => val1 ((s.findIdx? (· == k)).map fun (n : Nat) => D.int (n : Int)) S
  | .sortedT, [.ref r] => match S[r]? with
    | some (.dT _ kvs) => val1 ((srtT (kvs.map (·.1))).map .tl) S
    | _ => .bad
  | .dictT, [.ref r] => match S[r]? with
    | some (.dT _ kvs) => if cpT kvs then .ok (.ref S.length) (S ++ [.dT false kvs]) else .bad
    | _ => .bad
  | .lstRg3, [.int a, .int b, .int c] => if (b ≤ LINE ∧ -LINE ≤ b ∧ a ≤ LINE ∧ -LINE ≤ a) ∧ 0 < c ∧ c ≤ LINE then .ok (.tl (rg3 a b c)) S else .bad
  | .slB, [a, .int k] => if 0 < k ∧ k ≤ LINE then val1 ((ownItems S a).map fun l => .tl (backBy k.toNat l)) S else .bad
  | .isx cs, [.ref r] => match S[r]? with
    | some (.exn c _) => .ok (.bl (cs.any (subX c))) S
    | _ => .bad
  | .eqE, [.ref a, .ref b] => match S[a]?, S[b]? with
    | some (.dK false kvs), some (.dK false []) => .ok (.bl kvs.isEmpty) S
    | _, _ => .bad
  | .neE, [.ref a, .ref b] => match S[a]?, S[b]? with
    | some (.dK false kvs), some (.dK false []) => .ok (.bl (!kvs.isEmpty)) S
    | _, _ => .bad
  | .sortedSetP, [a] => val1 ((lstItems S a).bind fun l => (l.mapM D.isPr).bind fun ps => if ps.length < 64 then some (.tl ((setOfP ps).map prD)) else none) S
  | .indexL, [a, .bl b] => val1 ((ownItems S a).bind fun l => (l.mapM D.isBl).bind fun bs => (bs.findIdx? fun x => x == b).map fun (n : Nat) => D.int (n : Int)) S
  | .indexL, [a, .int b] => val1 ((ownItems S a).bind fun l => (l.mapM D.isInt).bind fun bs => (bs.findIdx? fun x => x == b).map fun (n : Nat) => D.int (n : Int)) S
  | .countB, [a, .bl b] => val1 ((ownItems S a).bind fun l => (l.mapM D.isBl).map fun bs => D.int ((bs.filter fun x => x == b).length : Nat)) S
  | .strip, [.str s, .str cs] => if s.length ≤ LINE ∧ cs.length ≤ 1000 then .ok (.str (stripT cs s)) S else .bad
  | .mulS, [.str s, .int j] => if (1 ≤ j ∧ j ≤ 1000) ∧ s.length ≤ 1000 then .ok (.str (List.replicate j.toNat s).flatten) S else .bad
  | _, _ => .bad
/-- truth -/
def truth (d : D) : M Bool := fun S => match d with
  | .non => .ok false S
  | .bl b => .ok b S
  | .int i => .ok (i != 0) S
  | .str s => if s.length ≤ LINE then .ok (!s.isEmpty) S else .bad
  | .tup l => .ok (!l.isEmpty) S
  | .tl l => .ok (!l.isEmpty) S
  | .ref r => match S[r]? with
    | some (.lst l) => .ok (!l.isEmpty) S
    | some (.dK false l) => .ok (!l.isEmpty) S
    | _ => .bad
  | .scr l => .ok (!l.isEmpty) S
  | .fn _ => .bad

theorem truth_st {d : D} {S S' : Sto} {b : Bool} (h : truth d S = .ok b S') : S' = S := by
  unfold truth at h
  repeat' split at h
  all_goals first | (injection h with _ h2; exact h2.symm) | (cases h; done)

/-! ### syntax -/
inductive Tg where
  | var (i : Nat) | tup (is : List Nat)
mutual
inductive E where
  | c (d : D)
  | var (i : Nat)
  | op (o : Op) (as : Es)
  | bm (o : Op) (r : E) (as : Es)
  | and (a b : E) | or (a b : E) | not (a : E) | ife (c a b : E)
  | chain (o1 o2 : Op) (a b c : E)
  | call (f : Nat) (as : Es)
  | callp (f : Nat) (p : List (Option Nat)) (as : Es)
  | new (c : Nat) (as : Es)
  | meth (m : Nat) (o : E) (as : Es)
  | methp (m : Nat) (o : E) (p : List (Option Nat)) (as : Es)
  | callv (f : E) (as : Es)
  | lc (it : It) (tg : Tg) (cond : Option E) (elt : E)
  | sl11 (a lo hi : E) | sl10 (a lo : E) | sl01 (a hi : E) | sl00 (a : E)
inductive Es where
  | nil | cons (own : Bool) (e : E) (r : Es)
inductive It where
  | over (e : E) | rg1 (a : E) | rg2 (a b : E) | enum (e : E) | zip (a b : E) | rev (e : E) | items (e : E) | vals (e : E) | keysT (e : E) | enumT (e : E)
end
mutual
inductive St where
  | pass | expr (e : E) | ret (e : E)
  | ife (c : E) (a b : Ss)
  | asg (t : Tg) (e : E)
  | setIx (o i v : E) | setAttr (o : E) (f : Nat) (v : E) | augAttr (o : E) (f : Nat) (v : E)
  | for_ (it : It) (tg : Tg) (b : Ss) | whl (c : E) (b : Ss)
  | raise (c : Nat) (as : Es)
  | brk | cnt
  | try_ (b : Ss) (ws : List Nat) (c i : Nat) (s : Ss)
inductive Ss where
  | nil | cons (s : St) (r : Ss)
end
/-- a def: how many parameters, how many names, its body -/
structure Fn where
  np : Nat
  ns : Nat
  body : Ss
/-- a class: its __init__, its methods -/
structure Cl where
  init : Nat
  ms : List (Nat × Nat)
structure G where
  fns : Nat → Option Fn
  cls : Nat → Option Cl
  /-- the fields of the exceptions' classes -/
  xfs : List (Nat × List Nat)
abbrev Env := List (Option D)
inductive Flow where
  | next (ρ : Env) | ret (d : D) | brk (ρ : Env) | cnt (ρ : Env)
inductive Src where
  | st (l : List D) | rf (en : Bool) (n : Nat) | dk (n : Nat) (l : List D) | zp (n m : Nat)

/-! ### the interpreter -/
/-- a list that nothing holds yet becomes an object -/
def own (d : D) : M D := fun S => match d with
  | .tl l => .ok (.ref S.length) (S ++ [.lst l])
  | d => .ok d S
def ownIf (b : Bool) (d : D) : M D := if b then own d else M.pure d
def getVar (ρ : Env) (i : Nat) : M D := fun S => match ρ[i]? with
  | some (some d) => .ok d S
  | _ => .bad
def setVars : Env → List Nat → List D → Env
  | ρ, i :: is, d :: ds => setVars (ρ.set i (some d)) is ds
  | ρ, _, _ => ρ
def setTg (t : Tg) (ρ : Env) (d : D) : M Env := fun S => match t, d with
  | .var i, d => .ok (ρ.set i (some d)) S
  | .tup is, .tup l => if l.length = is.length then .ok (setVars ρ is l) S else .bad
  | .tup is, .ref r => match S[r]? with
    | some (.lst l) => if l.length = is.length then .ok (setVars ρ is l) S else .bad
    | _ => .bad
  | _, _ => .bad
def srcOf (d : D) : M Src := fun S => match d with
  | .tl l => .ok (.st l) S
  | .tup l => .ok (.st l) S
  | .str s => .ok (.st (s.map fun c => .str [c])) S
  | .scr l => .ok (.st (l.map .int)) S
  | .ref r => match S[r]? with
    | some (.lst _) => .ok (.rf false r) S
    | _ => .bad
  | _ => .bad
def numbered (l : List D) : List D := (l.zip (List.range l.length)).map fun p => .tup [.int p.2, p.1]
def srcEnum (d : D) : M Src := fun S => match d with
  | .tl l => .ok (.st (numbered l)) S
  | .ref r => match S[r]? with
    | some (.lst _) => .ok (.rf true r) S
    | _ => .bad
  | _ => .bad
def srcEnumT (d : D) : M Src := fun S => match d with
  | .tup l => .ok (.st (numbered l)) S
  | _ => .bad
def srcZip (a b : D) : M Src := fun S => match a, b with
  | .tup x, .tup y => .ok (.st ((x.zip y).map fun p => .tup [p.1, p.2])) S
  | .tl x, .tl y => .ok (.st ((x.zip y).map fun p => .tup [p.1, p.2])) S
  | .ref n, .ref m => match S[n]?, S[m]? with
    | some (.lst _), some (.lst _) => .ok (.zp n m) S
    | _, _ => .bad
  | _, _ => .bad
def srcRev (a : D) : M Src := fun S => match a with
  | .tup l => .ok (.st l.reverse) S
  | .tl l => .ok (.st l.reverse) S
  | _ => .bad
def srcItems (vals : Bool) (d : D) : M Src := fun S => match d with
  | .ref r => match S[r]? with
    | some (.dK false kvs) => .ok (.dk r (kvs.map fun p => if vals then p.2 else .tup [p.1.d, p.2])) (S.set r (.dK true kvs))
    | some (.dK true kvs) => .ok (.st (kvs.map fun p => if vals then p.2 else .tup [p.1.d, p.2])) S
    | _ => .bad
  | _ => .bad
/-- the keys of a dict by tuples -/
def srcKeysT (d : D) : M Src := fun S => match d with
  | .ref r => match S[r]? with
    | some (.dT false kvs) => .ok (.dk r (kvs.map fun p => .tup (p.1.map Ky.d))) (S.set r (.dT true kvs))
    | some (.dT true kvs) => .ok (.st (kvs.map fun p => .tup (p.1.map Ky.d))) S
    | _ => .bad
  | _ => .bad
def unlock (n : Nat) : M Unit := fun S => match S[n]? with
  | some (.dK true kvs) => .ok () (S.set n (.dK false kvs))
  | some (.dT true kvs) => .ok () (S.set n (.dT false kvs))
  | _ => .bad
/-- a comprehension over items told ahead -/
def lcSt (f : D → M (Option D)) : List D → List D → M (List D)
  | [], acc => M.pure acc
  | x :: r, acc => (f x).bind fun o => match o with
    | none => lcSt f r acc
    | some y => if acc.length < LINE then lcSt f r (acc ++ [y]) else M.bad
/-- .. over a list object, by place -/
def lcRf (f : D → M (Option D)) (en : Bool) (n : Nat) : Nat → Nat → List D → M (List D)
  | 0, i, acc => fun S => match S[n]? with
    | some (.lst l) => if l.length ≤ i then .ok acc S else .bad
    | _ => .bad
  | k + 1, i, acc => fun S => match S[n]? with
    | some (.lst l) => match l[i]? with
      | none => .ok acc S
      | some x => ((f (if en then .tup [.int i, x] else x)).bind fun o => match o with
        | none => lcRf f en n k (i + 1) acc
        | some y => if acc.length < LINE then lcRf f en n k (i + 1) (acc ++ [y]) else M.bad) S
    | _ => .bad
/-- .. over two list objects at once, by place -/
def lcZp (f : D → M (Option D)) (n m : Nat) : Nat → Nat → List D → M (List D)
  | 0, i, acc => fun S => match S[n]?, S[m]? with
    | some (.lst l), some (.lst r) => if (l.zip r).length ≤ i then .ok acc S else .bad
    | _, _ => .bad
  | k + 1, i, acc => fun S => match S[n]?, S[m]? with
    | some (.lst l), some (.lst r) => match (l.zip r)[i]? with
      | none => .ok acc S
      | some p => ((f (.tup [p.1, p.2])).bind fun o => match o with
        | none => lcZp f n m k (i + 1) acc
        | some y => if acc.length < LINE then lcZp f n m k (i + 1) (acc ++ [y]) else M.bad) S
    | _, _ => .bad
def lcSrc (f : D → M (Option D)) : Src → M (List D)
  | .st l => lcSt f l []
  | .dk n l => (lcSt f l []).bind fun r => (unlock n).bind fun _ => M.pure r
  | .rf en n => fun S => match S[n]? with
    | some (.lst l) => lcRf f en n l.length 0 [] S
    | _ => .bad
  | .zp n m => fun S => match S[n]?, S[m]? with
    | some (.lst l), some (.lst r) => lcZp f n m (l.zip r).length 0 [] S
    | _, _ => .bad
/-- no exception leaves a comprehension -/
def noExc {α : Type} (m : M α) : M α := fun S => match m S with
  | .ok a s => .ok a s
  | _ => .bad
def forSt (f : D → Env → M Flow) : List D → Env → M Flow
  | [], ρ => M.pure (.next ρ)
  | x :: r, ρ => (f x ρ).bind fun fl => match fl with
    | .next ρ' => forSt f r ρ'
    | .cnt ρ' => forSt f r ρ'
    | .brk ρ' => M.pure (.next ρ')
    | .ret d => M.pure (.ret d)
def forRf (f : D → Env → M Flow) (en : Bool) (n : Nat) : Nat → Nat → Env → M Flow
  | 0, i, ρ => fun S => match S[n]? with
    | some (.lst l) => if l.length ≤ i then .ok (.next ρ) S else .bad
    | _ => .bad
  | k + 1, i, ρ => fun S => match S[n]? with
    | some (.lst l) => match l[i]? with
      | none => .ok (.next ρ) S
      | some x => ((f (if en then .tup [.int i, x] else x) ρ).bind fun fl => match fl with
        | .next ρ' => forRf f en n k (i + 1) ρ'
        | .cnt ρ' => forRf f en n k (i + 1) ρ'
        | .brk ρ' => M.pure (.next ρ')
        | .ret d => M.pure (.ret d)) S
    | _ => .bad
def forSrc (f : D → Env → M Flow) (s : Src) (ρ : Env) : M Flow := match s with
  | .st l => forSt f l ρ
  | .dk n l => (noExc (forSt f l ρ)).bind fun r => (unlock n).bind fun _ => M.pure r
  | .rf en n => fun S => match S[n]? with
    | some (.lst l) => forRf f en n l.length 0 ρ S
    | _ => .bad
  | .zp _ _ => M.bad
def whlGo (c : Env → M Bool) (f : Env → M Flow) : Nat → Env → M Flow
  | 0, _ => M.bad
  | k + 1, ρ => (c ρ).bind fun b => if b then (f ρ).bind fun fl => match fl with
      | .next ρ' => whlGo c f k ρ'
      | .cnt ρ' => whlGo c f k ρ'
      | .brk ρ' => M.pure (.next ρ')
      | .ret d => M.pure (.ret d)
    else M.pure (.next ρ)
def rgOk (a b : Int) : Bool := decide (b ≤ LINE ∧ -LINE ≤ b ∧ a ≤ LINE ∧ -LINE ≤ a)
section
variable (g : G) (call : Nat → List D → M D)
def runNew (c : Nat) (as : List D) : M D := fun S => match g.cls c with
  | some cl => ((call cl.init (.ref S.length :: as)).bind fun r => match r with
    | .non => M.pure (.ref S.length)
    | _ => M.bad) (S ++ [.ins c []])
  | none => .bad
/-- the arguments in the parameters' order; None where none is given -/
def pick (l : List D) : Option Nat → Option D
  | some k => l[k]?
  | none => some .non
def permD (l : List D) (p : List (Option Nat)) : M (List D) := M.of (p.mapM (pick l))
def methOf (S : Sto) (m : Nat) : D → Option Nat
  | .ref r => match S[r]? with
    | some (.ins c _) => (g.cls c).bind fun cl => cl.ms.lookup m
    | _ => none
  | _ => none
def methM (m : Nat) (o : D) : M Nat := fun S => match methOf g S m o with
  | some f => .ok f S
  | none => .bad
/-- the receiver of a built-in method: 1 a list, 2 a dict, 3 a text -/
def recvK (S : Sto) : D → Option Nat
  | .str _ => some 3
  | .tl _ => some 1
  | .ref r => match S[r]? with
    | some (.lst _) => some 1
    | some (.dK false _) => some 2
    | some (.dT false _) => some 2
    | _ => none
  | _ => none
def bmKinds : Op → List Nat
  | .append => [1]
  | .extend => [1]
  | .insert => [1]
  | .count => [1]
  | .index => [1, 3]
  | .indexS => [3]
  | .pop1 => [2]
  | .pop2 => [2]
  | .get1 => [2]
  | .get2 => [2]
  | .join => [3]
  | .split => [3]
  | .indexL => [1]
  | .countB => [1]
  | .strip => [3]
  | _ => []
def recvOk (o : Op) (d : D) : M Unit := fun S => match recvK S d with
  | some k => if (bmKinds o).contains k then .ok () S else .bad
  | none => .bad
mutual
def ev : E → Env → M D
  | .c d, _ => M.pure d
  | .var i, ρ => getVar ρ i
  | .op o as, ρ => (evs as ρ).bind fun l => evOp o l
  | .bm o r as, ρ => (ev r ρ).bind fun d => (recvOk o d).bind fun _ => (evs as ρ).bind fun l => evOp o (d :: l)
  | .and a b, ρ => (ev a ρ).bind fun x => (truth x).bind fun t => if t then ev b ρ else M.pure x
  | .or a b, ρ => (ev a ρ).bind fun x => (truth x).bind fun t => if t then M.pure x else ev b ρ
  | .not a, ρ => (ev a ρ).bind fun x => (truth x).bind fun t => M.pure (.bl (!t))
  | .ife c a b, ρ => (ev c ρ).bind fun x => (truth x).bind fun t => if t then ev a ρ else ev b ρ
  | .chain o1 o2 a b c, ρ => (ev a ρ).bind fun x => (ev b ρ).bind fun y => (evOp o1 [x, y]).bind fun r => match r with
    | .bl true => (ev c ρ).bind fun z => evOp o2 [y, z]
    | .bl false => M.pure (.bl false)
    | _ => M.bad
  | .call f as, ρ => (evs as ρ).bind fun l => call f l
  | .callp f p as, ρ => (evs as ρ).bind fun l => (permD l p).bind fun l => call f l
  | .new c as, ρ => (evs as ρ).bind fun l => runNew g call c l
  | .meth m o as, ρ => (ev o ρ).bind fun x => (methM g m x).bind fun f => (evs as ρ).bind fun l => call f (x :: l)
  | .methp m o p as, ρ => (ev o ρ).bind fun x => (methM g m x).bind fun f => (evs as ρ).bind fun l => (permD l p).bind fun l => call f (x :: l)
  | .callv f as, ρ => (ev f ρ).bind fun x => match x with
    | .fn i => (evs as ρ).bind fun l => call i l
    | _ => M.bad
  | .lc it tg none elt, ρ => (evIt it ρ).bind fun s => (noExc (lcSrc (fun x => (setTg tg ρ x).bind fun ρ' => (ev elt ρ').bind fun y => (own y).bind fun y => M.pure (some y)) s)).bind fun l => M.pure (.tl l)
  | .lc it tg (some cond) elt, ρ => (evIt it ρ).bind fun s => (noExc (lcSrc (fun x => (setTg tg ρ x).bind fun ρ' => (ev cond ρ').bind fun c => (truth c).bind fun t =>
      if t then (ev elt ρ').bind fun y => (own y).bind fun y => M.pure (some y) else M.pure none) s)).bind fun l => M.pure (.tl l)
  | .sl11 a lo hi, ρ => (ev a ρ).bind fun x => (ev lo ρ).bind fun l => (wantInt l).bind fun i => (ev hi ρ).bind fun h => (wantInt h).bind fun j => slM x (some i) (some j)
  | .sl10 a lo, ρ => (ev a ρ).bind fun x => (ev lo ρ).bind fun l => (wantInt l).bind fun i => slM x (some i) none
  | .sl01 a hi, ρ => (ev a ρ).bind fun x => (ev hi ρ).bind fun h => (wantInt h).bind fun j => slM x none (some j)
  | .sl00 a, ρ => (ev a ρ).bind fun x => slM x none none
def evs : Es → Env → M (List D)
  | .nil, _ => M.pure []
  | .cons o e r, ρ => (ev e ρ).bind fun x => (ownIf o x).bind fun x => (evs r ρ).bind fun l => M.pure (x :: l)
def evIt : It → Env → M Src
  | .over e, ρ => (ev e ρ).bind srcOf
  | .rg1 a, ρ => (ev a ρ).bind fun x => match x with
    | .int n => if rgOk 0 n then M.pure (.st (rg 0 n)) else M.bad
    | _ => M.bad
  | .rg2 a b, ρ => (ev a ρ).bind fun x => (ev b ρ).bind fun y => match x, y with
    | .int i, .int j => if rgOk i j then M.pure (.st (rg i j)) else M.bad
    | _, _ => M.bad
  | .enum e, ρ => (ev e ρ).bind srcEnum
  | .zip a b, ρ => (ev a ρ).bind fun x => (ev b ρ).bind fun y => srcZip x y
  | .rev e, ρ => (ev e ρ).bind srcRev
  | .items e, ρ => (ev e ρ).bind (srcItems false)
  | .vals e, ρ => (ev e ρ).bind (srcItems true)
  | .keysT e, ρ => (ev e ρ).bind srcKeysT
  | .enumT e, ρ => (ev e ρ).bind srcEnumT
end
def setIxD (v o i : D) : M Unit := fun S => match o with
  | .ref r => match S[r]? with
    | some (.lst l) => match i.isInt.bind (ixOf l.length) with
      | some j => .ok () (S.set r (.lst (l.set j v)))
      | none => .bad
    | some (.dK false kvs) => match i.ky with
      | some k => if kvs.length < LINE then .ok () (S.set r (.dK false (dPut kvs k v))) else .bad
      | none => .bad
    | some (.dT false kvs) => match i.kys with
      | some k => if kvs.length < LINE then .ok () (S.set r (.dT false (dPut kvs k v))) else .bad
      | none => .bad
    | _ => .bad
  | _ => .bad
def fPut : List (Nat × D) → Nat → D → List (Nat × D)
  | [], k, v => [(k, v)]
  | p :: r, k, v => if p.1 = k then (p.1, v) :: r else p :: fPut r k v
def setAttrD (v o : D) (f : Nat) : M Unit := fun S => match o with
  | .ref r => match S[r]? with
    | some (.ins c fs) => if fs.length < 900 then .ok () (S.set r (.ins c (fPut fs f v))) else .bad
    | _ => .bad
  | _ => .bad
def getAttrD (o : D) (f : Nat) : M D := fun S => match o with
  | .ref r => match S[r]? with
    | some (.ins _ fs) => val1 (fs.lookup f) S
    | _ => .bad
  | _ => .bad
def WFUEL : Nat := 100000
def wipeV (ρ : Env) (ws : List Nat) : Env := ws.foldl (fun ρ i => ρ.set i none) ρ
/-- the name of a caught exception is gone behind the suite -/
def Flow.gone (i : Nat) : Flow → Flow
  | .next ρ => .next (ρ.set i none)
  | .brk ρ => .brk (ρ.set i none)
  | .cnt ρ => .cnt (ρ.set i none)
  | .ret d => .ret d
/-- what a suite does to an exception of the body -/
def caught (c i : Nat) (ws : List Nat) (ρ : Env) (m : M Flow) (s : Env → M Flow) : M Flow := fun S => match m S with
  | .exc c' fs S' => if subX c' c then ((noExc (s ((wipeV ρ ws).set i (some (.ref S'.length))))).bind fun fl => M.pure (fl.gone i)) (S' ++ [.exn c' fs]) else .exc c' fs S'
  | r => r
mutual
def ex : St → Env → M Flow
  | .pass, ρ => M.pure (.next ρ)
  | .expr e, ρ => (ev g call e ρ).bind fun _ => M.pure (.next ρ)
  | .ret e, ρ => (ev g call e ρ).bind fun d => M.pure (.ret d)
  | .ife c a b, ρ => (ev g call c ρ).bind fun x => (truth x).bind fun t => if t then exs a ρ else exs b ρ
  | .asg t e, ρ => (ev g call e ρ).bind fun x => (own x).bind fun x => (setTg t ρ x).bind fun ρ' => M.pure (.next ρ')
  | .setIx o i v, ρ => (ev g call v ρ).bind fun x => (own x).bind fun x => (ev g call o ρ).bind fun y => (ev g call i ρ).bind fun z => (setIxD x y z).bind fun _ => M.pure (.next ρ)
  | .setAttr o f v, ρ => (ev g call v ρ).bind fun x => (own x).bind fun x => (ev g call o ρ).bind fun y => (setAttrD x y f).bind fun _ => M.pure (.next ρ)
  | .augAttr o f v, ρ => (ev g call o ρ).bind fun y => (getAttrD y f).bind fun a => (ev g call v ρ).bind fun x => match a, x with
    | .int i, .int j => (setAttrD (.int (i + j)) y f).bind fun _ => M.pure (.next ρ)
    | _, _ => M.bad
  | .for_ it tg b, ρ => (evIt g call it ρ).bind fun s => forSrc (fun x ρ => (setTg tg ρ x).bind fun ρ' => exs b ρ') s ρ
  | .whl c b, ρ => whlGo (fun ρ => (ev g call c ρ).bind truth) (fun ρ => exs b ρ) WFUEL ρ
  | .raise c as, ρ => (evs g call as ρ).bind fun l => fun S => match g.xfs.lookup c with
    | some fs => .exc c (fs.zip l) S
    | none => .bad
  | .try_ b ws c i s, ρ => caught c i ws ρ (exs b ρ) (fun ρ => exs s ρ)
  | .brk, ρ => M.pure (.brk ρ)
  | .cnt, ρ => M.pure (.cnt ρ)
def exs : Ss → Env → M Flow
  | .nil, ρ => M.pure (.next ρ)
  | .cons s r, ρ => (ex s ρ).bind fun fl => match fl with
    | .next ρ' => exs r ρ'
    | fl => M.pure fl
end
end
/-- a call at depth n -/
def callR (g : G) : Nat → Nat → List D → M D
  | 0, _, _ => M.bad
  | n + 1, f, as => match g.fns f with
    | some d => if as.length = d.np then (exs g (callR g n) d.body (as.map some ++ List.replicate (d.ns - d.np) none)).bind fun fl => match fl with
        | .next _ => M.pure .non
        | .ret v => M.pure v
        | _ => M.bad
      else M.bad
    | none => M.bad
@[irreducible] def callD (g : G) (n : Nat) : Nat → List D → M D := callR g n
theorem callD_eq (g : G) (n : Nat) : callD g n = callR g n := by unfold callD; rfl
theorem callD_z (g : G) (f : Nat) (as : List D) : callD g 0 f as = M.bad := by rw [callD_eq]; rfl
theorem callD_s (g : G) (n f : Nat) (as : List D) : callD g (n + 1) f as = match g.fns f with
    | some d => if as.length = d.np then (exs g (callD g n) d.body (as.map some ++ List.replicate (d.ns - d.np) none)).bind fun fl => match fl with
        | .next _ => M.pure .non
        | .ret v => M.pure v
        | _ => M.bad
      else M.bad
    | none => M.bad := by rw [callD_eq, callD_eq]; rfl
end IR

namespace IRS
open PySem L2
/-- a text as the model has it -/
def sT (t : IR.Txt) : Str := ⟨t.toArray⟩
theorem sT_cps (t : IR.Txt) : (sT t).cps.toList = t := rfl
theorem sT_inj {a b : IR.Txt} (h : sT a = sT b) : a = b := by
  have := congrArg (fun x : Str => x.cps.toList) h
  exact this
theorem sT_eta (x : Str) : sT x.cps.toList = x := by cases x; rfl
def kyK : IR.Ky → Key
  | .inl i => .inl i
  | .inr t => .inr (sT t)
theorem kyK_inj {a b : IR.Ky} (h : kyK a = kyK b) : a = b := by
  cases a <;> cases b <;> simp only [kyK, Sum.inl.injEq, Sum.inr.injEq, reduceCtorEq] at h
  · rw [h]
  · rw [sT_inj h]
theorem kyK_map_inj : ∀ {a b : List IR.Ky}, a.map kyK = b.map kyK → a = b
  | [], [], _ => rfl
  | [], _ :: _, h => by simp at h
  | _ :: _, [], h => by simp at h
  | x :: a, y :: b, h => by
    simp only [List.map_cons, List.cons.injEq] at h
    rw [kyK_inj h.1, kyK_map_inj h.2]
/-- where the names of the small program stand -/
structure Nm where
  K : PySem.W.Frag
  fnA : Nat → Option Addr
  clA : Nat → Option Addr
  clX : Nat → Option Addr
  fld : List Str
/-- the script, known to the object or an object of the module -/
def Scr (K : PySem.W.Frag) (H : Hp) (a : Addr) (xs : List V) : Prop := (∃ o, H a = some (.frz o (.lst xs))) ∨ ∃ (o : Obj) (its : Array Value) (n : Nat), K.lookup a = some o ∧ o.cls = .type "list" ∧ o.dict = none ∧ o.data = .seq its n ∧ its.size ≤ sizeLine ∧ Vals xs its.toList
theorem Scr.sq {K : PySem.W.Frag} {H : Hp} {a : Addr} {xs : List V} (h : Scr K H a xs) : SqL K H a xs := h.elim (fun z => .inl (.inr z)) .inr
mutual
/-- a value of the small language is this value of the model -/
inductive Rep (N : Nm) (μ : List Addr) (H : Hp) : IR.D → V → Prop
  | non : Rep N μ H .non .non
  | bl (b : Bool) : Rep N μ H (.bl b) (.bl b)
  | int (i : Int) : Rep N μ H (.int i) (.int i)
  | str (t : IR.Txt) : Rep N μ H (.str t) (.str (sT t))
  | tup {a : Addr} {ds : List IR.D} {vs : List V} : H a = some (.tup vs) → Reps N μ H ds vs → Rep N μ H (.tup ds) (.ref a)
  | ref {n : Nat} {a : Addr} : μ[n]? = some a → Rep N μ H (.ref n) (.ref a)
  | fn {i : Nat} {f : Addr} : N.fnA i = some f → Rep N μ H (.fn i) (.ref f)
  | scr {a : Addr} {ns : List Int} : Scr N.K H a (ns.map V.int) → Rep N μ H (.scr ns) (.ref a)
inductive Reps (N : Nm) (μ : List Addr) (H : Hp) : List IR.D → List V → Prop
  | nil : Reps N μ H [] []
  | cons {d : IR.D} {ds : List IR.D} {v : V} {vs : List V} : Rep N μ H d v → Reps N μ H ds vs → Reps N μ H (d :: ds) (v :: vs)
end
/-- the object at a is oe -/
abbrev isO (a : Addr) (oe : Obj) : HO := .ext fun h => h.get? a = some oe
/-- the model goes on from μ, H to μ', H': objects are added, what isn't ours stays -/
structure Ext (μ : List Addr) (H : Hp) (μ' : List Addr) (H' : Hp) : Prop where
  pre : μ <+: μ'
  new : ∀ a ∈ μ', a ∈ μ ∨ H a = none
  keep : ∀ a o, a ∉ μ → H a = some o → H' a = some o
  tup : ∀ a vs, H a = some (.tup vs) → H' a = some (.tup vs)
  frz : ∀ a o u, H a = some (.frz o u) → H' a = some (.frz o u)
theorem Ext.refl (μ : List Addr) (H : Hp) : Ext μ H μ H := ⟨List.prefix_refl _, fun _ h => .inl h, fun _ _ _ h => h, fun _ _ h => h, fun _ _ _ h => h⟩
theorem Ext.trans {μ μ1 μ2 : List Addr} {H H1 H2 : Hp} (a : Ext μ H μ1 H1) (b : Ext μ1 H1 μ2 H2) : Ext μ H μ2 H2 where
  pre := a.pre.trans b.pre
  new := fun x hx => by
    rcases b.new x hx with h | h
    · exact a.new x h
    · by_cases hm : x ∈ μ
      · exact .inl hm
      · refine .inr ?_
        cases e : H x with
        | none => rfl
        | some o => rw [a.keep x o hm e] at h; cases h
  keep := fun x o hx e => by
    refine b.keep x o (fun hm => ?_) (a.keep x o hx e)
    rcases a.new x hm with h | h
    · exact hx h
    · rw [e] at h; cases h
  tup := fun x vs e => b.tup x vs (a.tup x vs e)
  frz := fun x o u e => b.frz x o u (a.frz x o u e)
theorem prefix_get {α : Type} {l m : List α} (h : l <+: m) {i : Nat} {x : α} (e : l[i]? = some x) : m[i]? = some x := by
  obtain ⟨t, rfl⟩ := h
  rw [List.getElem?_append_left (List.getElem?_eq_some_iff.mp e).1]
  exact e
/-- .. what a value leans on stays -/
structure WExt (μ : List Addr) (H : Hp) (μ' : List Addr) (H' : Hp) : Prop where
  pre : μ <+: μ'
  tup : ∀ a vs, H a = some (.tup vs) → H' a = some (.tup vs)
  frz : ∀ a o u, H a = some (.frz o (.lst u)) → H' a = some (.frz o (.lst u))
  frx : ∀ a o r, H a = some (.frz o (.xd r)) → H' a = some (.frz o (.xd r))
theorem Ext.w {μ μ' : List Addr} {H H' : Hp} (e : Ext μ H μ' H') : WExt μ H μ' H' := ⟨e.pre, e.tup, fun a o u => e.frz a o _, fun a o r => e.frz a o _⟩
theorem Scr.mono {K : PySem.W.Frag} {μ μ' : List Addr} {H H' : Hp} {a : Addr} {xs : List V} (h : Scr K H a xs) (e : WExt μ H μ' H') : Scr K H' a xs := h.imp (fun ⟨o, z⟩ => ⟨o, e.frz _ _ _ z⟩) id
section
variable {N : Nm} {μ μ' : List Addr} {H H' : Hp}
mutual
theorem Rep.mono (e : WExt μ H μ' H') : ∀ {d : IR.D} {v : V}, Rep N μ H d v → Rep N μ' H' d v
  | _, _, .non => .non
  | _, _, .bl b => .bl b
  | _, _, .int i => .int i
  | _, _, .str t => .str t
  | _, _, .tup h r => .tup (e.tup _ _ h) (Reps.mono e r)
  | _, _, .ref h => .ref (prefix_get e.pre h)
  | _, _, .fn h => .fn h
  | _, _, .scr h => .scr (h.mono e)
theorem Reps.mono (e : WExt μ H μ' H') : ∀ {ds : List IR.D} {vs : List V}, Reps N μ H ds vs → Reps N μ' H' ds vs
  | _, _, .nil => .nil
  | _, _, .cons a r => .cons (Rep.mono e a) (Reps.mono e r)
end
theorem Reps.length : ∀ {ds : List IR.D} {vs : List V}, Reps N μ H ds vs → ds.length = vs.length
  | _, _, .nil => rfl
  | _, _, .cons _ r => by simp [Reps.length r]
theorem Reps.append : ∀ {ds es : List IR.D} {vs us : List V}, Reps N μ H ds vs → Reps N μ H es us → Reps N μ H (ds ++ es) (vs ++ us)
  | _, _, _, _, .nil, s => s
  | _, _, _, _, .cons a r, s => .cons a (Reps.append r s)
theorem Reps.get : ∀ {ds : List IR.D} {vs : List V} {i : Nat} {d : IR.D}, Reps N μ H ds vs → ds[i]? = some d → ∃ v, vs[i]? = some v ∧ Rep N μ H d v
  | _, _, _, _, .nil, h => by simp at h
  | _, _, 0, _, .cons a _, h => by simp at h; subst h; exact ⟨_, rfl, a⟩
  | _, _, i + 1, _, .cons _ r, h => by simpa using Reps.get (i := i) r (by simpa using h)
theorem Reps.get' {ds : List IR.D} {vs : List V} {i : Nat} {v : V} (r : Reps N μ H ds vs) (h : vs[i]? = some v) : ∃ d, ds[i]? = some d ∧ Rep N μ H d v := by
  have hl : i < ds.length := by rw [r.length]; exact (List.getElem?_eq_some_iff.mp h).1
  obtain ⟨v', h1, h2⟩ := r.get (i := i) (List.getElem?_eq_getElem hl)
  rw [h] at h1; cases h1
  exact ⟨_, List.getElem?_eq_getElem hl, h2⟩
theorem Reps.of_get : ∀ {ds : List IR.D} {vs : List V}, ds.length = vs.length → (∀ (i : Nat) (d : IR.D) (v : V), ds[i]? = some d → vs[i]? = some v → Rep N μ H d v) → Reps N μ H ds vs
  | [], [], _, _ => .nil
  | [], _ :: _, h, _ => by simp at h
  | _ :: _, [], h, _ => by simp at h
  | d :: ds, v :: vs, h, f => .cons (f 0 d v rfl rfl) (Reps.of_get (by simpa using h) fun i d v h1 h2 => f (i + 1) d v (by simpa using h1) (by simpa using h2))
theorem Reps.take {ds : List IR.D} {vs : List V} (r : Reps N μ H ds vs) (n : Nat) : Reps N μ H (ds.take n) (vs.take n) := by
  refine Reps.of_get (by simp [r.length]) fun i d v h1 h2 => ?_
  rw [List.getElem?_take] at h1 h2
  split at h1
  · rename_i hi
    rw [if_pos hi] at h2
    obtain ⟨v', e, q⟩ := r.get h1
    rw [h2] at e; cases e; exact q
  · cases h1
theorem Reps.drop {ds : List IR.D} {vs : List V} (r : Reps N μ H ds vs) (n : Nat) : Reps N μ H (ds.drop n) (vs.drop n) := by
  refine Reps.of_get (by simp [r.length]) fun i d v h1 h2 => ?_
  rw [List.getElem?_drop] at h1 h2
  obtain ⟨v', e, q⟩ := r.get h1
  rw [h2] at e; cases e; exact q
theorem Reps.set {ds : List IR.D} {vs : List V} {d : IR.D} {v : V} (r : Reps N μ H ds vs) (n : Nat) (q : Rep N μ H d v) : Reps N μ H (ds.set n d) (vs.set n v) := by
  refine Reps.of_get (by simp [r.length]) fun i d' v' h1 h2 => ?_
  rw [List.getElem?_set] at h1 h2
  have hl := r.length
  split at h1
  · rename_i hi
    subst hi
    split at h1
    · rename_i hn
      rw [if_pos rfl, if_pos (by omega)] at h2
      cases h1; cases h2; exact q
    · cases h1
  · rename_i hi
    rw [if_neg hi] at h2
    obtain ⟨v'', e, q'⟩ := r.get h1
    rw [h2] at e; cases e; exact q'
theorem Reps.reverse {ds : List IR.D} {vs : List V} (r : Reps N μ H ds vs) : Reps N μ H ds.reverse vs.reverse := by
  have hl := r.length
  refine Reps.of_get (by simp [hl]) fun i d v h1 h2 => ?_
  have hi : i < ds.length := by simpa using (List.getElem?_eq_some_iff.mp h1).1
  rw [List.getElem?_reverse hi] at h1
  rw [List.getElem?_reverse (by omega)] at h2
  rw [hl] at h1
  obtain ⟨v', e, q⟩ := r.get h1
  rw [h2] at e; cases e; exact q
/-- the entries of a dict -/
inductive KR (N : Nm) (μ : List Addr) (H : Hp) {κ κ' : Type} (f : κ → κ') : List (κ × IR.D) → List (κ' × V) → Prop
  | nil : KR N μ H f [] []
  | cons {k : κ} {d : IR.D} {v : V} {r : List (κ × IR.D)} {r' : List (κ' × V)} : Rep N μ H d v → KR N μ H f r r' → KR N μ H f ((k, d) :: r) ((f k, v) :: r')
theorem KR.mono {κ κ' : Type} {f : κ → κ'} (e : WExt μ H μ' H') : ∀ {r : List (κ × IR.D)} {r' : List (κ' × V)}, KR N μ H f r r' → KR N μ' H' f r r'
  | _, _, .nil => .nil
  | _, _, .cons a r => .cons (a.mono e) (KR.mono e r)
theorem KR.length {κ κ' : Type} {f : κ → κ'} : ∀ {r : List (κ × IR.D)} {r' : List (κ' × V)}, KR N μ H f r r' → r.length = r'.length
  | _, _, .nil => rfl
  | _, _, .cons _ r => by simp [KR.length r]
/-- the fields of such -/
inductive FR (N : Nm) (μ : List Addr) (H : Hp) : List (Nat × IR.D) → List (Str × V) → Prop
  | nil : FR N μ H [] []
  | cons {k : Nat} {n : Str} {d : IR.D} {v : V} {r : List (Nat × IR.D)} {r' : List (Str × V)} : N.fld[k]? = some n → Rep N μ H d v → FR N μ H r r' → FR N μ H ((k, d) :: r) ((n, v) :: r')
theorem FR.mono (e : WExt μ H μ' H') : ∀ {r : List (Nat × IR.D)} {r' : List (Str × V)}, FR N μ H r r' → FR N μ' H' r r'
  | _, _, .nil => .nil
  | _, _, .cons h a r => .cons h (a.mono e) (FR.mono e r)
theorem FR.length : ∀ {r : List (Nat × IR.D)} {r' : List (Str × V)}, FR N μ H r r' → r.length = r'.length
  | _, _, .nil => rfl
  | _, _, .cons _ _ r => by simp [FR.length r]
/-- what stands at an object's address -/
def ObAt (N : Nm) (μ : List Addr) (H : Hp) (a : Addr) : IR.MO → Prop
  | .lst ds => ∃ vs, H a = some (.lst vs) ∧ Reps N μ H ds vs
  | .dK false kvs => ∃ r, H a = some (.dK r) ∧ KR N μ H kyK kvs r
  | .dK true kvs => ∃ o r, H a = some (.frz o (.dK r)) ∧ KR N μ H kyK kvs r
  | .dT false kvs => ∃ r, H a = some (.dT r) ∧ KR N μ H (·.map kyK) kvs r
  | .dT true kvs => ∃ o r, H a = some (.frz o (.dT r)) ∧ KR N μ H (·.map kyK) kvs r
  | .ins c fs => ∃ C dx r, N.clA c = some C ∧ H a = some (.ins C dx r) ∧ FR N μ H fs r
  | .exn c fs => ∃ C oe, N.clX c = some C ∧ H a = some (isO a oe) ∧ oe.cls = .ref C ∧ (∃ vs, oe.data = .fields vs) ∧ ((fs = [] ∧ oe.dict = none) ∨ ∃ dd o r, oe.dict = some dd ∧ H dd = some (.frz o (.xd r)) ∧ FR N μ H fs r)
theorem ObAt.some {a : Addr} {o : IR.MO} (h : ObAt N μ H a o) : ∃ u, H a = some u ∧ ∀ vs, u ≠ .tup vs := by
  cases o with
  | lst ds => obtain ⟨vs, e, _⟩ := h; exact ⟨_, e, fun _ z => nomatch z⟩
  | dK lk kvs => cases lk with
    | false => obtain ⟨r, e, _⟩ := h; exact ⟨_, e, fun _ z => nomatch z⟩
    | true => obtain ⟨o, r, e, _⟩ := h; exact ⟨_, e, fun _ z => nomatch z⟩
  | dT lk kvs => cases lk with
    | false => obtain ⟨r, e, _⟩ := h; exact ⟨_, e, fun _ z => nomatch z⟩
    | true => obtain ⟨o, r, e, _⟩ := h; exact ⟨_, e, fun _ z => nomatch z⟩
  | ins c fs => obtain ⟨C, dx, r, _, e, _⟩ := h; exact ⟨_, e, fun _ z => nomatch z⟩
  | exn c fs => obtain ⟨C, oe, _, e, _⟩ := h; exact ⟨_, e, fun _ z => nomatch z⟩
theorem ObAt.mono (e : WExt μ H μ' H') {a : Addr} (ha : H' a = H a) {o : IR.MO} (h : ObAt N μ H a o) : ObAt N μ' H' a o := by
  cases o with
  | lst ds => obtain ⟨vs, z, r⟩ := h; exact ⟨vs, ha.trans z, r.mono e⟩
  | dK lk kvs => cases lk with
    | false => obtain ⟨r, z, q⟩ := h; exact ⟨r, ha.trans z, q.mono e⟩
    | true => obtain ⟨o, r, z, q⟩ := h; exact ⟨o, r, ha.trans z, q.mono e⟩
  | dT lk kvs => cases lk with
    | false => obtain ⟨r, z, q⟩ := h; exact ⟨r, ha.trans z, q.mono e⟩
    | true => obtain ⟨o, r, z, q⟩ := h; exact ⟨o, r, ha.trans z, q.mono e⟩
  | ins c fs => obtain ⟨C, dx, r, hc, z, q⟩ := h; exact ⟨C, dx, r, hc, ha.trans z, q.mono e⟩
  | exn c fs =>
    obtain ⟨C, oe, hc, z, h1, h2, h3⟩ := h
    refine ⟨C, oe, hc, ha.trans z, h1, h2, ?_⟩
    rcases h3 with h3 | ⟨dd, o, r, e1, e2, e3⟩
    · exact .inl h3
    · exact .inr ⟨dd, o, r, e1, e.frx _ _ _ e2, e3.mono e⟩
/-- the state is this heap's -/
structure Rel (N : Nm) (μ : List Addr) (S : IR.Sto) (H : Hp) : Prop where
  len : μ.length = S.length
  nd : μ.Nodup
  ob : ∀ (i : Nat) (o : IR.MO) (a : Addr), S[i]? = some o → μ[i]? = some a → ObAt N μ H a o
variable {S : IR.Sto}
theorem Rel.at (R : Rel N μ S H) {i : Nat} {o : IR.MO} (h : S[i]? = some o) : ∃ a, μ[i]? = some a ∧ ObAt N μ H a o := by
  have hi : i < μ.length := by rw [R.len]; exact (List.getElem?_eq_some_iff.mp h).1
  exact ⟨μ[i], List.getElem?_eq_getElem hi, R.ob i o _ h (List.getElem?_eq_getElem hi)⟩
theorem Rel.mem_some (R : Rel N μ S H) {a : Addr} (h : a ∈ μ) : ∃ u, H a = some u ∧ ∀ vs, u ≠ .tup vs := by
  obtain ⟨i, hi⟩ := List.mem_iff_getElem?.mp h
  have hl : i < S.length := by rw [← R.len]; exact (List.getElem?_eq_some_iff.mp hi).1
  exact (R.ob i _ a (List.getElem?_eq_getElem hl) hi).some
theorem Rel.fresh (R : Rel N μ S H) {p : Addr} (h : H p = none) : p ∉ μ := fun hm => by
  obtain ⟨u, e, _⟩ := R.mem_some hm
  rw [h] at e; cases e
/-- something new is laid that isn't ours -/
theorem Ext.laid {μ : List Addr} {H : Hp} {p : Addr} {o : HO} (h : H p = none) : Ext μ H μ (upd H p o) :=
  ⟨List.prefix_refl _, fun _ z => .inl z, fun a u _ e => by rw [upd_ne (ne_of_none e h)]; exact e, fun a u e => by rw [upd_ne (ne_of_none e h)]; exact e, fun a u v e => by rw [upd_ne (ne_of_none e h)]; exact e⟩
theorem Rel.laid (R : Rel N μ S H) {p : Addr} {o : HO} (h : H p = none) : Rel N μ S (upd H p o) :=
  ⟨R.len, R.nd, fun i q a h1 h2 => (R.ob i q a h1 h2).mono (Ext.laid h).w (upd_ne (fun z => by
    obtain ⟨u, e, _⟩ := R.mem_some (List.mem_of_getElem? h2)
    rw [z, h] at e; cases e))⟩
/-- an object of ours is added -/
theorem Ext.add {p : Addr} {H0 : Hp} (e : Ext μ H0 μ' H') (h : H0 p = none) : Ext μ H0 (μ' ++ [p]) H' :=
  ⟨e.pre.trans (List.prefix_append _ _), fun a ha => by
    rcases List.mem_append.mp ha with z | z
    · exact e.new a z
    · rw [List.mem_singleton.mp z]; exact .inr h, e.keep, e.tup, e.frz⟩
theorem WExt.add {p : Addr} : WExt μ H (μ ++ [p]) H := ⟨List.prefix_append _ _, fun _ _ h => h, fun _ _ _ h => h, fun _ _ _ h => h⟩
theorem Rel.add {p : Addr} {o : IR.MO} (R : Rel N μ S H) (hp : p ∉ μ) (h : ObAt N (μ ++ [p]) H p o) : Rel N (μ ++ [p]) (S ++ [o]) H := by
  refine ⟨by simp [R.len], List.nodup_append.mpr ⟨R.nd, by simp, fun a ha b hb => by rw [List.mem_singleton.mp hb]; exact fun z => hp (z ▸ ha)⟩, fun i q a h1 h2 => ?_⟩
  have hl := R.len
  by_cases hi : i < S.length
  · rw [List.getElem?_append_left hi] at h1
    rw [List.getElem?_append_left (by omega)] at h2
    exact (R.ob i q a h1 h2).mono .add rfl
  · rw [List.getElem?_append_right (by omega)] at h1 h2
    have e : i - S.length = 0 := by have := (List.getElem?_eq_some_iff.mp h1).1; simp at this; omega
    rw [hl, e] at h2
    rw [e] at h1
    cases h1; cases h2
    exact h
/-- an object of ours is written -/
theorem Rel.write {n : Nat} {a : Addr} {o : HO} {q : IR.MO} (R : Rel N μ S H) (hn : μ[n]? = some a) (hq : ObAt N μ (upd H a o) a q) (w : WExt μ H μ (upd H a o)) : Rel N μ (S.set n q) (upd H a o) := by
  refine ⟨by simp [R.len], R.nd, fun i q' b h1 h2 => ?_⟩
  rw [List.getElem?_set] at h1
  split at h1
  · rename_i hi
    subst hi
    split at h1
    · cases h1
      rw [hn] at h2; cases h2
      exact hq
    · cases h1
  · rename_i hi
    have hb : b ≠ a := fun z => by
      subst z
      have l1 := (List.getElem?_eq_some_iff.mp hn).1
      have l2 := (List.getElem?_eq_some_iff.mp h2).1
      exact hi ((List.getElem_inj R.nd).mp (((List.getElem?_eq_some_iff.mp hn).2).trans (List.getElem?_eq_some_iff.mp h2).2.symm))
    exact (R.ob i q' b h1 h2).mono w (upd_ne hb)
/-- the heap with an object of ours written: what stood there was no tuple, nothing frozen -/
theorem Ext.write {n : Nat} {a : Addr} {o u : HO} (hn : μ[n]? = some a) (h : H a = some u) (ht : ∀ vs, u ≠ .tup vs) (hf : ∀ o w, u ≠ .frz o w) : Ext μ H μ (upd H a o) :=
  ⟨List.prefix_refl _, fun _ z => .inl z, fun b w hb e => by rw [upd_ne (fun z => hb (by rw [z]; exact List.mem_of_getElem? hn))]; exact e,
   fun b vs e => by rw [upd_ne (fun z => by rw [z, h] at e; exact ht vs (Option.some.inj e))]; exact e,
   fun b w x e => by rw [upd_ne (fun z => by rw [z, h] at e; exact hf _ _ (Option.some.inj e))]; exact e⟩
/-- a value that has just been reckoned: a list that nothing holds yet is at an address of its own -/
def RepV (N : Nm) (μ : List Addr) (H : Hp) : IR.D → V → Prop
  | .tl ds, v => ∃ a vs, v = .ref a ∧ H a = some (.lst vs) ∧ a ∉ μ ∧ Reps N μ H ds vs
  | d, v => Rep N μ H d v
theorem Rep.v {d : IR.D} {v : V} (h : Rep N μ H d v) : RepV N μ H d v := by
  cases h with
  | non => exact .non
  | bl b => exact .bl b
  | int i => exact .int i
  | str t => exact .str t
  | tup a b => exact .tup a b
  | ref a => exact .ref a
  | fn a => exact .fn a
  | scr a => exact .scr a
theorem RepV.mono (e : Ext μ H μ' H') {d : IR.D} {v : V} (h : RepV N μ H d v) : RepV N μ' H' d v := by
  cases d with
  | tl ds =>
    obtain ⟨a, vs, rfl, h1, h2, r⟩ := h
    exact ⟨a, vs, rfl, e.keep _ _ h2 h1, fun hm => (e.new _ hm).elim h2 (fun z => by rw [h1] at z; cases z), r.mono e.w⟩
  | non => exact Rep.mono e.w h
  | bl b => exact Rep.mono e.w h
  | int b => exact Rep.mono e.w h
  | str b => exact Rep.mono e.w h
  | tup b => exact Rep.mono e.w h
  | ref b => exact Rep.mono e.w h
  | fn b => exact Rep.mono e.w h
  | scr b => exact Rep.mono e.w h
/-- the names' values -/
def RSt (N : Nm) (μ : List Addr) (H : Hp) (ρ : IR.Env) (σ : L2.St) : Prop := ρ.length = σ.length ∧ ∀ (i : Nat) (d : IR.D), ρ[i]? = some (some d) → ∃ v, σ[i]? = some (some v) ∧ Rep N μ H d v
theorem RSt.mono {ρ : IR.Env} {σ : L2.St} (e : WExt μ H μ' H') (h : RSt N μ H ρ σ) : RSt N μ' H' ρ σ := ⟨h.1, fun i d hd => let ⟨v, a, b⟩ := h.2 i d hd; ⟨v, a, b.mono e⟩⟩
/-- .. where it is new since H0 -/
def Tmp (H0 : Hp) (d : IR.D) (v : V) : Prop := ∀ l a, d = .tl l → v = .ref a → H0 a = none
end
end IRS

namespace IRS
open PySem L2
section
variable {N : Nm}
/-- an exception of the small program's class c with these fields -/
def RX (N : Nm) (μ : List Addr) (H : Hp) (c : Nat) (fs : List (Nat × IR.D)) (cls : Value) (dd : Option Addr) : Prop :=
  ∃ C, N.clX c = some C ∧ cls = .ref C ∧ ((fs = [] ∧ dd = none) ∨ ∃ d r, dd = some d ∧ H d = some (.xd r) ∧ FR N μ H fs r)
/-- where the fields of an exception stand there is nothing of ours -/
theorem RX.fresh {μ : List Addr} {S : IR.Sto} {H : Hp} {c : Nat} {fs : List (Nat × IR.D)} {cls : Value} {dd : Option Addr} (q : RX N μ H c fs cls dd) (R : Rel N μ S H) {d : Addr} (hd : dd = some d) : d ∉ μ := fun hm => by
  obtain ⟨C, _, _, q⟩ := q
  rcases q with ⟨_, q⟩ | ⟨d', r, q, e, _⟩
  · rw [q] at hd; cases hd
  · rw [q] at hd; cases hd
    obtain ⟨i, hi⟩ := List.mem_iff_getElem?.mp hm
    have hl : i < S.length := by rw [← R.len]; exact (List.getElem?_eq_some_iff.mp hi).1
    have ob := R.ob i _ d (List.getElem?_eq_getElem hl) hi
    cases h : S[i] with
    | lst l => rw [h] at ob; obtain ⟨_, z, _⟩ := ob; rw [e] at z; cases z
    | dK lk l => rw [h] at ob; cases lk with
      | false => obtain ⟨_, z, _⟩ := ob; rw [e] at z; cases z
      | true => obtain ⟨_, _, z, _⟩ := ob; rw [e] at z; cases z
    | dT lk l => rw [h] at ob; cases lk with
      | false => obtain ⟨_, z, _⟩ := ob; rw [e] at z; cases z
      | true => obtain ⟨_, _, z, _⟩ := ob; rw [e] at z; cases z
    | ins c l => rw [h] at ob; obtain ⟨_, _, _, _, z, _⟩ := ob; rw [e] at z; cases z
    | exn c l => rw [h] at ob; obtain ⟨_, _, _, z, _⟩ := ob; rw [e] at z; cases z
/-- where one stands: what holds of the names' values, which places may be stored to, what is wanted of an exception -/
structure Fm where
  I : L2.St → Prop
  as : Nat → Bool
  W : WX
  put : ∀ σ i v, as i = true → I σ → I (σ.set i (some v))
  del : ∀ σ i, as i = true → I σ → I (σ.set i none)
/-- what an answer of the small language asks of every heap that is it -/
def GG (N : Nm) (W : Fm) (μ : List Addr) (H : Hp) {α : Type} (r : IR.Res α) (K : α → IR.Sto → List Addr → Hp → Prop) : Prop := match r with
  | .ok a S' => ∀ μ' H', Ext μ H μ' H' → Rel N μ' S' H' → K a S' μ' H'
  | .exc c fs S' => ∀ μ' H' cls dd, Ext μ H μ' H' → Rel N μ' S' H' → RX N μ' H' c fs cls dd → (∀ d, dd = some d → H d = none) → ∀ σ, W.I σ → W.W cls dd σ H'
  | .bad => False
variable {W : Fm} {μ μ1 : List Addr} {H H1 : Hp} {σ : L2.St} {α β : Type} {r : IR.Res α} {K K' : α → IR.Sto → List Addr → Hp → Prop}
theorem none_of {α : Type} {o : Option α} (h : ∀ x, o = some x → False) : o = none := match o, h with | none, _ => rfl | some x, h => (h x rfl).elim
theorem GG.base (e : Ext μ H μ1 H1) (g : GG N W μ H r K) : GG N W μ1 H1 r K := by
  cases r with
  | ok a S => exact fun μ' H' x R => g μ' H' (e.trans x) R
  | exc c fs S =>
    exact fun μ' H' cls dd x R q nw => g μ' H' cls dd (e.trans x) R q fun d hd => none_of fun o z => by
      have := e.keep d o (fun hm => q.fresh R hd ((e.trans x).pre.subset hm)) z
      rw [nw d hd] at this; cases this
  | bad => exact g
theorem GG.imp (g : GG N W μ H r K) (k : ∀ a S' μ' H', Ext μ H μ' H' → Rel N μ' S' H' → K a S' μ' H' → K' a S' μ' H') : GG N W μ H r K' := by
  cases r with
  | ok a S => exact fun μ' H' x R => k a S μ' H' x R (g μ' H' x R)
  | exc c fs S => exact g
  | bad => exact g
theorem GG.bind {f : α → IR.M β} {L : β → IR.Sto → List Addr → Hp → Prop} (g : GG N W μ H (r.bind f) L) : GG N W μ H r fun a S1 μ1 H1 => GG N W μ1 H1 (f a S1) L := by
  cases r with
  | ok a S => exact fun μ' H' x R => GG.base x g
  | exc c fs S => exact g
  | bad => exact g
/-- a value is wanted -/
def GV (N : Nm) (W : Fm) (μ : List Addr) (H : Hp) (r : IR.Res IR.D) (Q : VK) : Prop := GG N W μ H r fun d _ μ' H' => ∀ v, RepV N μ' H' d v → Tmp H d v → Q v H'
theorem GV.base {r : IR.Res IR.D} {Q : VK} (e : Ext μ H μ1 H1) (g : GV N W μ H r Q) : GV N W μ1 H1 r Q := by
  refine GG.imp (GG.base e g) fun d S' μ' H' x R k v rv tm => k v rv fun l a h1 h2 => ?_
  subst h1; subst h2
  have hn := tm l a rfl rfl
  cases e0 : H a with
  | none => rfl
  | some o =>
    by_cases hm : a ∈ μ
    · obtain ⟨_, _, z, h3, h4, _⟩ := rv
      cases z
      exact absurd ((e.trans x).pre.subset hm) h4
    · rw [e.keep a o hm e0] at hn; cases hn
/-- a value that is owned or not -/
def RepO (N : Nm) (μ : List Addr) (H : Hp) (o : Bool) (d : IR.D) (v : V) : Prop := if o = true then Rep N μ H d v else RepV N μ H d v
theorem RepO.mono {o : Bool} {d : IR.D} {v : V} (e : Ext μ H μ1 H1) (h : RepO N μ H o d v) : RepO N μ1 H1 o d v := by
  cases o with
  | true => exact Rep.mono e.w h
  | false => exact RepV.mono e h
theorem RepO.v {o : Bool} {d : IR.D} {v : V} (h : RepO N μ H o d v) : RepV N μ H d v := by
  cases o with
  | true => exact Rep.v h
  | false => exact h
theorem RepV.rep {d : IR.D} {v : V} (h : RepV N μ H d v) (n : ∀ l, d ≠ .tl l) : Rep N μ H d v := by
  cases d with
  | tl l => exact absurd rfl (n l)
  | non => exact h
  | bl b => exact h
  | int b => exact h
  | str b => exact h
  | tup b => exact h
  | ref b => exact h
  | fn b => exact h
  | scr b => exact h
/-- reckon, own, go on -/
theorem GG.own {r : IR.Res IR.D} {o : Bool} {f : IR.D → IR.M β} {L : β → IR.Sto → List Addr → Hp → Prop} (g : GG N W μ H ((r.bind (IR.ownIf o)).bind f) L) {Q : VK}
    (k : ∀ μ1 S1 H1 d v, Ext μ H μ1 H1 → Rel N μ1 S1 H1 → RepO N μ1 H1 o d v → GG N W μ1 H1 (f d S1) L → Q v H1) : GV N W μ H r Q := by
  cases r with
  | exc c fs S => exact g
  | bad => exact g
  | ok d S =>
    refine fun μ' H' e R v rv tm => ?_
    cases o with
    | false => exact k μ' S H' d v e R rv (GG.base e g)
    | true =>
      by_cases hd : ∃ l, d = .tl l
      · obtain ⟨l, rfl⟩ := hd
        obtain ⟨a, vs, rfl, h1, h2, rr⟩ := rv
        have e2 : Ext μ H (μ' ++ [a]) H' := e.add (tm l a rfl rfl)
        have R2 : Rel N (μ' ++ [a]) (S ++ [.lst l]) H' := R.add h2 ⟨vs, h1, rr.mono .add⟩
        have g2 : GG N W μ H (f (.ref S.length) (S ++ [.lst l])) L := g
        refine k (μ' ++ [a]) (S ++ [.lst l]) H' (.ref S.length) (.ref a) e2 R2 ?_ (GG.base e2 g2)
        show Rep N (μ' ++ [a]) H' (.ref S.length) (.ref a)
        refine .ref ?_
        rw [← R.len]
        simp
      · have hn : ∀ l, d ≠ .tl l := fun l z => hd ⟨l, z⟩
        have g2 : GG N W μ H (f d S) L := by
          have e3 : IR.ownIf true d S = .ok d S := by
            cases d with
            | tl l => exact absurd rfl (hn l)
            | _ => rfl
          have g' := g
          simp only [IR.Res.bind, e3] at g'
          exact g'
        exact k μ' S H' d v e R (rv.rep hn) (GG.base e g2)
theorem GV.of {r : IR.Res IR.D} {f : IR.D → IR.M β} {L : β → IR.Sto → List Addr → Hp → Prop} (g : GG N W μ H (r.bind f) L) {Q : VK}
    (k : ∀ μ1 S1 H1 d v, Ext μ H μ1 H1 → Rel N μ1 S1 H1 → RepV N μ1 H1 d v → GG N W μ1 H1 (f d S1) L → Q v H1) : GV N W μ H r Q := by
  cases r with
  | exc c fs S => exact g
  | bad => exact g
  | ok d S => exact fun μ' H' e R v rv tm => k μ' S H' d v e R rv (GG.base e g)

/-! ### readings -/
def tE (N : Nm) (W : Fm) (m : IR.Env → IR.M IR.D) : TE := fun σ H Q => ∃ μ S ρ, W.I σ ∧ Rel N μ S H ∧ RSt N μ H ρ σ ∧ GV N W μ H (m ρ S) Q
def tT (N : Nm) (W : Fm) (m : IR.Env → IR.M Bool) : TT := fun σ H Q => ∃ μ S ρ, W.I σ ∧ Rel N μ S H ∧ RSt N μ H ρ σ ∧ GG N W μ H (m ρ S) fun b _ _ H' => Q b H'
inductive RepOs (N : Nm) (μ : List Addr) (H : Hp) : List Bool → List IR.D → List V → Prop
  | nil : RepOs N μ H [] [] []
  | cons {o : Bool} {os : List Bool} {d : IR.D} {ds : List IR.D} {v : V} {vs : List V} : RepO N μ H o d v → RepOs N μ H os ds vs → RepOs N μ H (o :: os) (d :: ds) (v :: vs)
theorem RepOs.mono (e : Ext μ H μ1 H1) : ∀ {os : List Bool} {ds : List IR.D} {vs : List V}, RepOs N μ H os ds vs → RepOs N μ1 H1 os ds vs
  | _, _, _, .nil => .nil
  | _, _, _, .cons a r => .cons (a.mono e) (RepOs.mono e r)
theorem RepOs.reps : ∀ {os : List Bool} {ds : List IR.D} {vs : List V}, (∀ o ∈ os, o = true) → RepOs N μ H os ds vs → Reps N μ H ds vs
  | _, _, _, _, .nil => .nil
  | _, _, _, h, .cons a r => .cons (by have e := h _ List.mem_cons_self; subst e; exact a) (RepOs.reps (fun o ho => h o (List.mem_cons_of_mem _ ho)) r)
theorem RepOs.length : ∀ {os : List Bool} {ds : List IR.D} {vs : List V}, RepOs N μ H os ds vs → ds.length = os.length ∧ vs.length = os.length
  | _, _, _, .nil => ⟨rfl, rfl⟩
  | _, _, _, .cons _ r => ⟨by simp [(RepOs.length r).1], by simp [(RepOs.length r).2]⟩
/-- arguments -/
def tA (N : Nm) (W : Fm) (os : List Bool) (m : IR.Env → IR.M (List IR.D)) : TA := fun σ H Q => ∃ μ S ρ, W.I σ ∧ Rel N μ S H ∧ RSt N μ H ρ σ ∧ GG N W μ H (m ρ S) fun ds _ μ' H' => ∀ vs, RepOs N μ' H' os ds vs → Q vs H'
/-- a block, a statement -/
def KF (N : Nm) (W : Fm) (D : Ends) (H0 : Hp) : IR.Flow → IR.Sto → List Addr → Hp → Prop
  | .next ρ, _, μ, H => ∀ σ', W.I σ' → RSt N μ H ρ σ' → D.nx σ' H
  | .brk ρ, _, μ, H => ∀ σ', W.I σ' → RSt N μ H ρ σ' → D.bk σ' H
  | .cnt ρ, _, μ, H => ∀ σ', W.I σ' → RSt N μ H ρ σ' → D.ct σ' H
  | .ret d, _, μ, H => ∀ v, RepV N μ H d v → Tmp H0 d v → D.rt v H
def tS (N : Nm) (W : Fm) (m : IR.Env → IR.M IR.Flow) : TS := fun D σ H => ∃ μ S ρ, W.I σ ∧ Rel N μ S H ∧ RSt N μ H ρ σ ∧ GG N W μ H (m ρ S) (KF N W D H)
end
end IRS

namespace IRS
open PySem L2
section
variable {N : Nm} {W : Fm} {μ : List Addr} {S : IR.Sto} {H : Hp} {Q : VK} {a b : IR.D} {x y : V}
/-! ### what a value-answer gives -/
theorem GV.here {d : IR.D} {v : V} (R : Rel N μ S H) (g : GV N W μ H (.ok d S) Q) (r : Rep N μ H d v) (n : ∀ l, d ≠ .tl l) : Q v H :=
  g μ H (Ext.refl μ H) R v r.v fun l _ e _ => absurd e (n l)
theorem GV.int {i : Int} (R : Rel N μ S H) (g : GV N W μ H (.ok (.int i) S) Q) : Q (.int i) H := g.here R (.int i) fun _ z => nomatch z
theorem GV.bl {i : Bool} (R : Rel N μ S H) (g : GV N W μ H (.ok (.bl i) S) Q) : Q (.bl i) H := g.here R (.bl i) fun _ z => nomatch z
theorem GV.str {i : IR.Txt} (R : Rel N μ S H) (g : GV N W μ H (.ok (.str i) S) Q) : Q (.str (sT i)) H := g.here R (.str i) fun _ z => nomatch z
theorem GV.newL {l : List IR.D} {vs : List V} (R : Rel N μ S H) (g : GV N W μ H (.ok (.tl l) S) Q) (r : Reps N μ H l vs) : ∀ p, H p = none → Q (.ref p) (upd H p (.lst vs)) := fun p hp =>
  g μ _ (Ext.laid hp) (R.laid hp) (.ref p) ⟨p, vs, rfl, upd_same, R.fresh hp, r.mono (Ext.laid hp).w⟩ fun _ q _ e => by cases e; exact hp
theorem GV.newT {l : List IR.D} {vs : List V} (R : Rel N μ S H) (g : GV N W μ H (.ok (.tup l) S) Q) (r : Reps N μ H l vs) : ∀ p, H p = none → Q (.ref p) (upd H p (.tup vs)) := fun p hp =>
  g μ _ (Ext.laid hp) (R.laid hp) (.ref p) (.tup upd_same (r.mono (Ext.laid hp).w)) fun _ _ z => nomatch z
theorem GV.val1 {o : Option IR.D} (g : GV N W μ H (IR.val1 o S) Q) : ∃ d, o = some d ∧ GV N W μ H (.ok d S) Q := by
  cases o with
  | none => exact g.elim
  | some d => exact ⟨d, rfl, g⟩
theorem GV.bool1 {o : Option Bool} (R : Rel N μ S H) (g : GV N W μ H (IR.bool1 o S) Q) : ∃ d, o = some d ∧ Q (.bl d) H := by
  cases o with
  | none => exact g.elim
  | some d => exact ⟨d, rfl, GV.bl R g⟩
/-! ### what a value is -/
theorem RepV.int {i : Int} (h : RepV N μ H (.int i) x) : x = .int i := by cases h; rfl
theorem RepV.bl {i : Bool} (h : RepV N μ H (.bl i) x) : x = .bl i := by cases h; rfl
theorem RepV.non (h : RepV N μ H .non x) : x = .non := by cases h; rfl
theorem RepV.str {i : IR.Txt} (h : RepV N μ H (.str i) x) : x = .str (sT i) := by cases h; rfl
theorem RepV.tup {l : List IR.D} (h : RepV N μ H (.tup l) x) : ∃ a vs, x = .ref a ∧ H a = some (.tup vs) ∧ Reps N μ H l vs := by cases h with | tup h1 h2 => exact ⟨_, _, rfl, h1, h2⟩
theorem RepV.ref {n : Nat} (h : RepV N μ H (.ref n) x) : ∃ a, x = .ref a ∧ μ[n]? = some a := by cases h with | ref h => exact ⟨_, rfl, h⟩
theorem RepV.scr {l : List Int} (h : RepV N μ H (.scr l) x) : ∃ a, x = .ref a ∧ Scr N.K H a (l.map V.int) := by cases h with | scr h => exact ⟨_, rfl, h⟩
theorem Reps.ints : ∀ {l : List Int} , Reps N μ H (l.map IR.D.int) (l.map V.int)
  | [] => .nil
  | i :: l => .cons (.int i) Reps.ints
theorem Rel.obAt (R : Rel N μ S H) {n : Nat} {o : IR.MO} {a : Addr} (h : S[n]? = some o) (ha : μ[n]? = some a) : ObAt N μ H a o := R.ob n o a h ha
/-- a list of the program's own making -/
theorem own_of {l : List IR.D} (R : Rel N μ S H) (r : RepV N μ H a x) (h : IR.ownItems S a = some l) : ∃ p vs, x = .ref p ∧ H p = some (.lst vs) ∧ Reps N μ H l vs := by
  cases a with
  | tl l' => cases h; obtain ⟨p, vs, e, h1, _, r⟩ := r; exact ⟨p, vs, e, h1, r⟩
  | ref n =>
    obtain ⟨p, rfl, hp⟩ := r.ref
    simp only [IR.ownItems] at h
    split at h
    · rename_i l' e
      cases h
      obtain ⟨vs, h1, r⟩ := R.ob n _ p e hp
      exact ⟨p, vs, rfl, h1, r⟩
    · cases h
  | _ => cases h
theorem lst_of {l : List IR.D} (R : Rel N μ S H) (r : RepV N μ H a x) (h : IR.lstItems S a = some l) : ∃ p vs, x = .ref p ∧ SqL N.K H p vs ∧ Reps N μ H l vs := by
  cases a with
  | tl l' => cases h; obtain ⟨p, vs, e, h1, _, r⟩ := r; exact ⟨p, vs, e, .of h1, r⟩
  | ref n =>
    obtain ⟨p, rfl, hp⟩ := r.ref
    simp only [IR.lstItems] at h
    split at h
    · rename_i l' e
      cases h
      obtain ⟨vs, h1, r⟩ := R.ob n _ p e hp
      exact ⟨p, vs, rfl, .of h1, r⟩
    · cases h
  | scr l' =>
    cases h
    obtain ⟨p, rfl, hp⟩ := r.scr
    exact ⟨p, _, rfl, hp.sq, Reps.ints⟩
  | _ => cases h
theorem seq_of {l : List IR.D} (R : Rel N μ S H) (r : RepV N μ H a x) (h : IR.items S a = some l) : ∃ p vs, x = .ref p ∧ (SqL N.K H p vs ∨ SqT N.K H p vs) ∧ Reps N μ H l vs := by
  cases a with
  | tup l' =>
    cases h
    obtain ⟨p, vs, e, h1, r⟩ := r.tup
    exact ⟨p, vs, e, .inr (.of h1), r⟩
  | tl l' => obtain ⟨p, vs, e, h1, r⟩ := lst_of (S := S) (l := l) R r h; exact ⟨p, vs, e, .inl h1, r⟩
  | ref n => obtain ⟨p, vs, e, h1, r⟩ := lst_of (S := S) (l := l) R r h; exact ⟨p, vs, e, .inl h1, r⟩
  | scr n => obtain ⟨p, vs, e, h1, r⟩ := lst_of (S := S) (l := l) R r h; exact ⟨p, vs, e, .inl h1, r⟩
  | _ => cases h
theorem line_le {n : Nat} (h : n ≤ IR.LINE) : n ≤ sizeLine := Nat.le_trans h (by decide)
theorem line_lt {n : Nat} (h : n < IR.LINE) : n < sizeLine := Nat.lt_of_lt_of_le h (by decide)
theorem sT_append (x y : IR.Txt) : sT x ++ sT y = sT (x ++ y) := by
  show Str.append _ _ = _
  simp [Str.append, sT]
theorem sT_len (x : IR.Txt) : (sT x).length = x.length := by simp [sT, Str.length]
/-! ### arithmetic -/
section
variable {X : Cx}
def rAddX (K : PySem.W.Frag) : R2 := fun x y H Q => (((∃ i j, x = .int i ∧ y = .int j ∧ Q (.int (i + j)) H) ∨ (∃ i j, x = .str i ∧ y = .str j ∧ i.length + j.length ≤ sizeLine ∧ Q (.str (i ++ j)) H)) ∨ rCat x y H Q) ∨ rCatA K x y H Q
theorem op_addX : OpR X (binaryOp .Add) (rAddX X.K) := ((op_add.or op_add_str).or op_cat).or op_catA
end
theorem o_add (R : Rel N μ S H) (ra : RepV N μ H a x) (rb : RepV N μ H b y) (g : GV N W μ H (IR.evOp .add [a, b] S) Q) : rAddX N.K x y H Q := by
  obtain ⟨d, hd, g⟩ := GV.val1 (o := IR.addD S a b) g
  have cat : ∀ l m, IR.ownItems S a = some l → IR.ownItems S b = some m → l.length + m.length ≤ IR.LINE → GV N W μ H (.ok (.tl (l ++ m)) S) Q → rAddX N.K x y H Q := fun l m h1 h2 hl g => by
    obtain ⟨p, vs, rfl, e1, r1⟩ := own_of R ra h1
    obtain ⟨q, us, rfl, e2, r2⟩ := own_of R rb h2
    refine .inl (.inr ⟨p, q, vs, us, rfl, rfl, e1, e2, ?_, GV.newL R g (r1.append r2)⟩)
    rw [← r1.length, ← r2.length]; exact line_le hl
  unfold IR.addD at hd
  split at hd
  · cases hd
    rw [ra.int, rb.int]
    exact .inl (.inl (.inl ⟨_, _, rfl, rfl, GV.int R g⟩))
  · split at hd
    · rename_i hl
      cases hd
      rw [ra.str, rb.str]
      refine .inl (.inl (.inr ⟨_, _, rfl, rfl, by rw [sT_len, sT_len]; exact line_le hl, ?_⟩))
      rw [sT_append]
      exact GV.str R g
    · cases hd
  · split at hd
    · rename_i l m hl
      cases hd
      obtain ⟨p, vs, rfl, e1, r1⟩ := ra.tup
      obtain ⟨q, us, rfl, e2, r2⟩ := rb.tup
      have h1 := r1.length
      have h2 := r2.length
      refine .inr ⟨p, q, vs, us, rfl, rfl, .of e1, .of e2, by rw [← h1, ← h2]; exact line_le hl, fun z => ?_, fun _ z => ?_, fun _ _ => GV.newT R g (r1.append r2)⟩
      · subst z
        have : l = [] := List.eq_nil_of_length_eq_zero (by simpa using h1)
        subst this
        exact g.here R (.tup e2 r2) fun _ z => nomatch z
      · subst z
        have : m = [] := List.eq_nil_of_length_eq_zero (by simpa using h2)
        subst this
        rw [List.append_nil] at g
        exact g.here R (.tup e1 r1) fun _ z => nomatch z
    · cases hd
  · split at hd
    · rename_i l m h1 h2
      split at hd
      · rename_i hl
        cases hd
        exact cat l m h1 h2 hl g
      · cases hd
    · cases hd
theorem o_sub (R : Rel N μ S H) (ra : RepV N μ H a x) (rb : RepV N μ H b y) (g : GV N W μ H (IR.evOp .sub [a, b] S) Q) : rI0 (fun i j => .int (i - j)) x y H Q := by
  cases a <;> first | exact g.elim | skip
  cases b <;> first | exact g.elim | skip
  rw [ra.int, rb.int]
  exact ⟨_, _, rfl, rfl, GV.int R g⟩
def rMulX : R2 := fun x y H Q => rI CMul (fun i j => .int (i * j)) x y H Q ∨ rRep x y H Q
theorem op_mulX {X : Cx} : OpR X (binaryOp .Mult) rMulX := op_mul.or op_rep
theorem o_mul (R : Rel N μ S H) (ra : RepV N μ H a x) (rb : RepV N μ H b y) (g : GV N W μ H (IR.evOp .mul [a, b] S) Q) : rMulX x y H Q := by
  obtain ⟨d, hd, g⟩ := GV.val1 (o := IR.mulD S a b) g
  unfold IR.mulD at hd
  split at hd
  · split at hd
    · rename_i i j hc
      cases hd
      rw [ra.int, rb.int]
      have e : IR.B64 = 2 ^ 64 := by decide
      rw [e] at hc
      exact .inl ⟨_, _, rfl, rfl, hc, GV.int R g⟩
    · cases hd
  · rename_i j _
    split at hd
    · rename_i l h1
      split at hd
      · rename_i hc
        cases hd
        obtain ⟨p, vs, rfl, e1, r1⟩ := own_of R ra h1
        rw [rb.int]
        have rr : ∀ k : Nat, Reps N μ H (List.replicate k l).flatten (List.replicate k vs).flatten := fun k => by
          induction k with
          | zero => exact .nil
          | succ k ih =>
            rw [List.replicate_succ, List.replicate_succ, List.flatten_cons, List.flatten_cons]
            exact r1.append ih
        have hl := r1.length
        have e : IR.LINE = 1000000 := rfl
        rw [e] at hc
        refine .inr ⟨p, j, vs, rfl, rfl, e1, by omega, by omega, by rw [← hl]; exact line_le hc.2.2, GV.newL R g (rr _)⟩
      · cases hd
    · cases hd
  · cases hd
theorem o_fdiv (R : Rel N μ S H) (ra : RepV N μ H a x) (rb : RepV N μ H b y) (g : GV N W μ H (IR.evOp .fdiv [a, b] S) Q) : rI CDivW (fun i j => .int (i / j)) x y H Q := by
  cases a <;> first | exact g.elim | skip
  cases b <;> first | exact g.elim | skip
  rename_i i j
  rw [ra.int, rb.int]
  have g : GV N W μ H (if 0 < j ∧ (j < IR.B64 ∨ j = 1000000000000000000000000000000 ∨ j = 100000000000000000000) then .ok (.int (i / j)) S else .bad) Q := g
  split at g
  · rename_i hc
    refine ⟨_, _, rfl, rfl, wide_div (b := 128) hc.1 ?_ (by decide) (by decide), GV.int R g⟩
    have e : IR.B64 = 18446744073709551616 := rfl
    rw [e] at hc
    have : (2 : Nat) ^ 128 = 340282366920938463463374607431768211456 := by decide
    rw [this]
    omega
  · exact g.elim
theorem o_mod (R : Rel N μ S H) (ra : RepV N μ H a x) (rb : RepV N μ H b y) (g : GV N W μ H (IR.evOp .mod [a, b] S) Q) : rI (fun _ j => 0 < j) (fun i j => .int (i % j)) x y H Q := by
  cases a <;> first | exact g.elim | skip
  cases b <;> first | exact g.elim | skip
  rename_i i j
  rw [ra.int, rb.int]
  have g : GV N W μ H (if 0 < j then .ok (.int (i % j)) S else .bad) Q := g
  split at g
  · rename_i hc
    exact ⟨_, _, rfl, rfl, hc, GV.int R g⟩
  · exact g.elim
theorem o_pow (R : Rel N μ S H) (ra : RepV N μ H a x) (rb : RepV N μ H b y) (g : GV N W μ H (IR.evOp .pow [a, b] S) Q) : rI CPow (fun i j => .int (i ^ j.toNat)) x y H Q := by
  cases a <;> first | exact g.elim | skip
  cases b <;> first | exact g.elim | skip
  rename_i i j
  rw [ra.int, rb.int]
  have g : GV N W μ H (if 0 ≤ j ∧ j ≤ 1000 ∧ i.natAbs < 1000 then .ok (.int (i ^ j.toNat)) S else .bad) Q := g
  split at g
  · rename_i hc
    exact ⟨_, _, rfl, rfl, ⟨hc.1, by omega, Nat.lt_of_lt_of_le hc.2.2 (by decide)⟩, GV.int R g⟩
  · exact g.elim
theorem o_neg (R : Rel N μ S H) (ra : RepV N μ H a x) (g : GV N W μ H (IR.evOp .neg [a] S) Q) : rU (fun i => .int (-i)) x H Q := by
  cases a <;> first | exact g.elim | skip
  rw [ra.int]
  exact ⟨_, rfl, GV.int R g⟩
/-! ### data -/
def pyD : IR.P → PyData
  | .non => .none
  | .bl b => .bool b
  | .int i => .int i
  | .str t => .str (sT t)
  | .lst l => .list (l.attach.map fun ⟨p, _⟩ => pyD p)
  | .tup l => .tuple (l.attach.map fun ⟨p, _⟩ => pyD p)
theorem pyD_lst (l : List IR.P) : pyD (.lst l) = .list (l.map pyD) := by simp [pyD]
theorem pyD_tup (l : List IR.P) : pyD (.tup l) = .tuple (l.map pyD) := by simp [pyD]
mutual
theorem eqv_py : ∀ p q : IR.P, PyData.eqv (pyD p) (pyD q) = IR.P.eqv p q
  | .non, q => by cases q <;> simp [pyD, PyData.eqv, IR.P.eqv]
  | .bl b, q => by cases q <;> simp [pyD, PyData.eqv, IR.P.eqv]
  | .int i, q => by cases q <;> simp [pyD, PyData.eqv, IR.P.eqv]
  | .str t, q => by
    cases q with
    | str u =>
      simp only [pyD, PyData.eqv, IR.P.eqv]
      by_cases e : t = u
      · subst e; simp
      · rw [show (t == u) = false from by simpa using e]
        exact beq_eq_false_iff_ne.mpr fun z => e (sT_inj z)
    | _ => simp [pyD, PyData.eqv, IR.P.eqv]
  | .lst l, q => by
    cases q with
    | lst m => rw [pyD_lst, pyD_lst, PyData.eqv, IR.P.eqv, eqvs_py l m]
    | _ => simp [pyD, PyData.eqv, IR.P.eqv]
  | .tup l, q => by
    cases q with
    | tup m => rw [pyD_tup, pyD_tup, PyData.eqv, IR.P.eqv, eqvs_py l m]
    | _ => simp [pyD, PyData.eqv, IR.P.eqv]
theorem eqvs_py : ∀ l m : List IR.P, PyData.eqvAll (l.map pyD) (m.map pyD) = IR.P.eqvs l m
  | [], [] => by simp [PyData.eqvAll, IR.P.eqvs]
  | [], _ :: _ => by simp [PyData.eqvAll, IR.P.eqvs]
  | _ :: _, [] => by simp [PyData.eqvAll, IR.P.eqvs]
  | p :: l, q :: m => by
    rw [List.map_cons, List.map_cons, PyData.eqvAll, IR.P.eqvs, eqv_py p q, eqvs_py l m]
end
end
end IRS

namespace IRS
open PySem L2
section
variable {N : Nm} {W : Fm} {μ : List Addr} {S : IR.Sto} {H : Hp} {Q : VK} {a b : IR.D} {x y : V}
theorem mapM_some {α β : Type} {f : α → Option β} : ∀ {l : List α} {r : List β}, l.mapM f = some r → l.length = r.length ∧ ∀ (i : Nat) (x : α), l[i]? = some x → ∃ y, r[i]? = some y ∧ f x = some y
  | [], r, h => by
    simp at h; subst h
    exact ⟨rfl, fun i x h => by simp at h⟩
  | a :: l, r, h => by
    rw [List.mapM_cons] at h
    cases e : f a with
    | none => rw [e] at h; simp at h
    | some b =>
      rw [e] at h
      simp only [Option.bind_eq_bind, Option.bind_some] at h
      cases e2 : l.mapM f with
      | none => rw [e2] at h; simp at h
      | some r' =>
        rw [e2] at h
        simp at h
        subst h
        obtain ⟨h1, h2⟩ := mapM_some e2
        refine ⟨by simp [h1], fun i x hx => ?_⟩
        cases i with
        | zero => simp at hx; subst hx; exact ⟨b, rfl, e⟩
        | succ i => simpa using h2 i x (by simpa using hx)
theorem lays_all : ∀ {ps : List IR.P}, (∀ p ∈ ps, (pyD p).canLay0 = true) → PyData.canLayAll0 (ps.map pyD) = true
  | [], _ => by simp [PyData.canLayAll0]
  | p :: ps, h => by
    rw [List.map_cons, PyData.canLayAll0, h p List.mem_cons_self, lays_all fun q hq => h q (List.mem_cons_of_mem _ hq)]
    rfl
theorem depth_all {n : Nat} : ∀ {ps : List IR.P}, (∀ p ∈ ps, (pyD p).depth ≤ n) → PyData.depthAll (ps.map pyD) ≤ n
  | [], _ => by simp [PyData.depthAll]
  | p :: ps, h => by
    rw [List.map_cons, PyData.depthAll]
    have h1 := h p List.mem_cons_self
    have h2 := depth_all (ps := ps) fun q hq => h q (List.mem_cons_of_mem _ hq)
    omega
theorem dp_ints {K : PySem.W.Frag} {H : Hp} : ∀ {l : List Int}, DpAll K H (l.map V.int) ((l.map IR.P.int).map pyD)
  | [] => .nil
  | i :: l => .cons (by simp only [pyD]; exact .int i) dp_ints
/-- a value's data -/
theorem data_of (R : Rel N μ S H) : ∀ (n : Nat) {d : IR.D} {v : V} {p : IR.P}, RepV N μ H d v → IR.toP S n d = some p → Dp N.K H v (pyD p) ∧ (pyD p).canLay0 = true ∧ (pyD p).depth ≤ n
  | 0, _, _, _, _, h => by simp [IR.toP] at h
  | n + 1, d, v, p, r, h => by
    have all : ∀ {l : List IR.D} {vs : List V} {ps : List IR.P}, Reps N μ H l vs → l.mapM (IR.toP S n) = some ps → DpAll N.K H vs (ps.map pyD) ∧ (∀ p ∈ ps, (pyD p).canLay0 = true) ∧ (∀ p ∈ ps, (pyD p).depth ≤ n) := by
      intro l
      induction l with
      | nil =>
        intro vs ps r h
        cases r
        simp at h; subst h
        exact ⟨.nil, by simp, by simp⟩
      | cons d l ih =>
        intro vs ps r h
        cases r with
        | cons rd rl =>
          rw [List.mapM_cons] at h
          cases e : IR.toP S n d with
          | none => rw [e] at h; simp at h
          | some q =>
            rw [e] at h
            simp only [Option.bind_eq_bind, Option.bind_some] at h
            cases e2 : l.mapM (IR.toP S n) with
            | none => rw [e2] at h; simp at h
            | some qs =>
              rw [e2] at h
              simp at h
              subst h
              obtain ⟨x1, x2, x3⟩ := data_of R n rd.v e
              obtain ⟨y1, y2, y3⟩ := ih rl e2
              refine ⟨.cons x1 y1, fun p hp => ?_, fun p hp => ?_⟩
              · rcases List.mem_cons.mp hp with rfl | hp
                · exact x2
                · exact y2 p hp
              · rcases List.mem_cons.mp hp with rfl | hp
                · exact x3
                · exact y3 p hp
    have lst : ∀ {l : List IR.D} {vs : List V} {a : Addr} {p : IR.P}, SqL N.K H a vs → Reps N μ H l vs → (l.mapM (IR.toP S n)).map IR.P.lst = some p → Dp N.K H (.ref a) (pyD p) ∧ (pyD p).canLay0 = true ∧ (pyD p).depth ≤ n + 1 := by
      intro l vs a p hs r h
      obtain ⟨ps, e, rfl⟩ := Option.map_eq_some_iff.mp h
      obtain ⟨h1, h2, h3⟩ := all r e
      rw [pyD_lst]
      exact ⟨.lst hs h1, by rw [PyData.canLay0]; exact lays_all h2, by rw [PyData.depth]; exact Nat.succ_le_succ (depth_all h3)⟩
    cases d with
    | non => simp [IR.toP] at h; subst h; rw [r.non]; exact ⟨by simp only [pyD]; exact .non, by simp [pyD, PyData.canLay0], by simp [pyD, PyData.depth]⟩
    | bl b => simp [IR.toP] at h; subst h; rw [r.bl]; exact ⟨by simp only [pyD]; exact .bl b, by simp [pyD, PyData.canLay0], by simp [pyD, PyData.depth]⟩
    | int i => simp [IR.toP] at h; subst h; rw [r.int]; exact ⟨by simp only [pyD]; exact .int i, by simp [pyD, PyData.canLay0], by simp [pyD, PyData.depth]⟩
    | str t =>
      simp only [IR.toP] at h
      split at h
      · rename_i hc
        cases h
        rw [r.str]
        refine ⟨by simp only [pyD]; exact .str _, ?_, by simp [pyD, PyData.depth]⟩
        simp only [pyD, PyData.canLay0]
        show (sT t).cps.all _ = true
        simp only [sT]
        rw [← Array.all_toList]
        simpa using hc
      · cases h
    | tup l =>
      obtain ⟨a, vs, rfl, e, rr⟩ := r.tup
      simp only [IR.toP] at h
      obtain ⟨ps, e2, rfl⟩ := Option.map_eq_some_iff.mp h
      obtain ⟨h1, h2, h3⟩ := all rr e2
      rw [pyD_tup]
      exact ⟨.tup (.of e) h1, by rw [PyData.canLay0]; exact lays_all h2, by rw [PyData.depth]; exact Nat.succ_le_succ (depth_all h3)⟩
    | tl l =>
      obtain ⟨a, vs, rfl, e, _, rr⟩ := r
      simp only [IR.toP] at h
      exact lst (.of e) rr h
    | ref k =>
      obtain ⟨a, rfl, ha⟩ := r.ref
      simp only [IR.toP] at h
      split at h
      · rename_i l e
        obtain ⟨vs, e1, rr⟩ := R.ob k _ a e ha
        exact lst (.of e1) rr h
      · cases h
    | fn k => simp [IR.toP] at h
    | scr l =>
      obtain ⟨a, rfl, ha⟩ := r.scr
      simp only [IR.toP] at h
      cases h
      rw [pyD_lst]
      refine ⟨.lst ha.sq dp_ints, ?_, ?_⟩
      · rw [PyData.canLay0]
        exact lays_all fun p hp => by obtain ⟨i, _, rfl⟩ := List.mem_map.mp hp; simp [pyD, PyData.canLay0]
      · rw [PyData.depth]
        refine Nat.succ_le_succ (depth_all fun p hp => ?_)
        obtain ⟨i, _, rfl⟩ := List.mem_map.mp hp
        simp [pyD, PyData.depth]
theorem shaped_of {p : IR.P} (h1 : (pyD p).canLay0 = true) (h2 : (pyD p).depth ≤ 20) : SeqAt.shaped (pyD p) = true := by
  unfold SeqAt.shaped
  rw [h1, decide_eq_true (by omega)]
  rfl
theorem o_eqD (R : Rel N μ S H) (ra : RepV N μ H a x) (rb : RepV N μ H b y) {r : Bool} (h : IR.eqD S a b = some r) : ∃ d e, Dp N.K H x d ∧ Dp N.K H y e ∧ SeqAt.shaped d = true ∧ SeqAt.shaped e = true ∧ PyData.eqv d e = r := by
  unfold IR.eqD at h
  split at h
  · rename_i p q e1 e2
    cases h
    obtain ⟨x1, x2, x3⟩ := data_of R 20 ra e1
    obtain ⟨y1, y2, y3⟩ := data_of R 20 rb e2
    exact ⟨_, _, x1, y1, shaped_of x2 x3, shaped_of y2 y3, eqv_py p q⟩
  · cases h
theorem o_eq (R : Rel N μ S H) (ra : RepV N μ H a x) (rb : RepV N μ H b y) (g : GV N W μ H (IR.evOp .eq [a, b] S) Q) : rEqD N.K x y H Q := by
  obtain ⟨r, hr, q⟩ := GV.bool1 (o := IR.eqD S a b) R g
  obtain ⟨d, e, h1, h2, h3, h4, h5⟩ := o_eqD R ra rb hr
  exact ⟨d, e, h1, h2, h3, h4, by rw [h5]; exact q⟩
theorem o_ne (R : Rel N μ S H) (ra : RepV N μ H a x) (rb : RepV N μ H b y) (g : GV N W μ H (IR.evOp .ne [a, b] S) Q) : rNeD N.K x y H Q := by
  obtain ⟨r, hr, q⟩ := GV.bool1 (o := (IR.eqD S a b).map (!·)) R g
  obtain ⟨r', hr', rfl⟩ := Option.map_eq_some_iff.mp hr
  obtain ⟨d, e, h1, h2, h3, h4, h5⟩ := o_eqD R ra rb hr'
  exact ⟨d, e, h1, h2, h3, h4, by rw [h5]; exact q⟩
/-! ### order -/
theorem ints_of : ∀ {l : List IR.D} {is : List Int} {vs : List V}, l.mapM IR.D.isInt = some is → Reps N μ H l vs → vs = is.map V.int
  | [], is, vs, h, r => by simp at h; subst h; cases r; rfl
  | d :: l, is, vs, h, r => by
    rw [List.mapM_cons] at h
    cases r with
    | cons rd rl =>
      cases d <;> first | (simp [IR.D.isInt] at h; done) | skip
      rename_i i
      simp only [IR.D.isInt, Option.bind_eq_bind, Option.bind_some] at h
      cases e2 : l.mapM IR.D.isInt with
      | none => rw [e2] at h; simp at h
      | some r' =>
        rw [e2] at h
        simp at h
        subst h
        rw [ints_of e2 rl]
        cases rd
        rfl
theorem lexLt_ints : ∀ is js : List Int, IR.P.lts (is.map .int) (js.map .int) = some (HT.lexLt is js)
  | [], [] => by simp [IR.P.lts, HT.lexLt]
  | [], _ :: _ => by simp [IR.P.lts, HT.lexLt]
  | _ :: _, [] => by simp [IR.P.lts, HT.lexLt]
  | i :: is, j :: js => by
    rw [List.map_cons, List.map_cons, IR.P.lts, HT.lexLt_cons]
    by_cases e : i = j
    · subst e
      simp [IR.P.eqv, lexLt_ints is js]
    · simp [IR.P.eqv, e, IR.P.lt]
def rLtX (K : PySem.W.Frag) : R2 := fun x y H Q => rI0 (fun i j => .bl (decide (i < j))) x y H Q ∨ rLtT K x y H Q
theorem op_ltX {X : Cx} (hu : X.A.units < cLine) : OpR X (compareOp .Lt) (rLtX X.K) := op_lt.or (op_ltT hu)
theorem o_lt (R : Rel N μ S H) (ra : RepV N μ H a x) (rb : RepV N μ H b y) (g : GV N W μ H (IR.evOp .lt [a, b] S) Q) : rLtX N.K x y H Q := by
  obtain ⟨r, hr, q⟩ := GV.bool1 (o := IR.ltD S a b) R g
  unfold IR.ltD at hr
  split at hr
  · cases hr
    rw [ra.int, rb.int]
    exact .inl ⟨_, _, rfl, rfl, q⟩
  · split at hr
    · rename_i is js h1 h2
      rw [lexLt_ints] at hr
      cases hr
      obtain ⟨p, vs, rfl, e1, r1⟩ := ra.tup
      obtain ⟨p2, us, rfl, e2, r2⟩ := rb.tup
      rw [ints_of h1 r1] at e1
      rw [ints_of h2 r2] at e2
      exact .inr ⟨p, p2, _, _, rfl, rfl, .of e1, .of e2, q⟩
    · cases hr
  · cases hr
theorem o_le (R : Rel N μ S H) (ra : RepV N μ H a x) (rb : RepV N μ H b y) (g : GV N W μ H (IR.evOp .le [a, b] S) Q) : rI0 (fun i j => .bl (decide (i ≤ j))) x y H Q := by
  cases a <;> first | exact g.elim | skip
  cases b <;> first | exact g.elim | skip
  rw [ra.int, rb.int]
  exact ⟨_, _, rfl, rfl, GV.bl R g⟩
theorem o_gt (R : Rel N μ S H) (ra : RepV N μ H a x) (rb : RepV N μ H b y) (g : GV N W μ H (IR.evOp .gt [a, b] S) Q) : rI0 (fun i j => .bl (decide (j < i))) x y H Q := by
  cases a <;> first | exact g.elim | skip
  cases b <;> first | exact g.elim | skip
  rw [ra.int, rb.int]
  exact ⟨_, _, rfl, rfl, GV.bl R g⟩
theorem o_ge (R : Rel N μ S H) (ra : RepV N μ H a x) (rb : RepV N μ H b y) (g : GV N W μ H (IR.evOp .ge [a, b] S) Q) : rI0 (fun i j => .bl (decide (j ≤ i))) x y H Q := by
  cases a <;> first | exact g.elim | skip
  cases b <;> first | exact g.elim | skip
  rw [ra.int, rb.int]
  exact ⟨_, _, rfl, rfl, GV.bl R g⟩
theorem o_isN (R : Rel N μ S H) (ra : RepV N μ H a x) (g : GV N W μ H (IR.evOp .isN [a] S) Q) : Q (.bl (decide (x = .non))) H := by
  have g := GV.bl R (show GV N W μ H (.ok (.bl _) S) Q from g)
  cases a with
  | non => rw [ra.non]; simpa using g
  | bl b => rw [ra.bl]; simpa using g
  | int b => rw [ra.int]; simpa using g
  | str b => rw [ra.str]; simpa using g
  | tup b => obtain ⟨_, _, rfl, _⟩ := ra.tup; simpa using g
  | ref b => obtain ⟨_, rfl, _⟩ := ra.ref; simpa using g
  | tl b => obtain ⟨_, _, rfl, _⟩ := ra; simpa using g
  | fn b => cases ra; simpa using g
  | scr b => obtain ⟨_, rfl, _⟩ := ra.scr; simpa using g
theorem o_notN (R : Rel N μ S H) (ra : RepV N μ H a x) (g : GV N W μ H (IR.evOp .notN [a] S) Q) : Q (.bl (!decide (x = .non))) H := by
  have g := GV.bl R (show GV N W μ H (.ok (.bl _) S) Q from g)
  cases a with
  | non => rw [ra.non]; simpa using g
  | bl b => rw [ra.bl]; simpa using g
  | int b => rw [ra.int]; simpa using g
  | str b => rw [ra.str]; simpa using g
  | tup b => obtain ⟨_, _, rfl, _⟩ := ra.tup; simpa using g
  | ref b => obtain ⟨_, rfl, _⟩ := ra.ref; simpa using g
  | tl b => obtain ⟨_, _, rfl, _⟩ := ra; simpa using g
  | fn b => cases ra; simpa using g
  | scr b => obtain ⟨_, rfl, _⟩ := ra.scr; simpa using g
end
end IRS

namespace IRS
open PySem L2
section
variable {N : Nm} {W : Fm} {μ μ' : List Addr} {S : IR.Sto} {H H' : Hp} {Q : VK} {a b : IR.D} {x y v : V}
/-! ### dicts -/
section
variable {κ κ' : Type} [DecidableEq κ] [DecidableEq κ'] {f : κ → κ'}
theorem KR.get (inj : ∀ p q, f p = f q → p = q) : ∀ {r : List (κ × IR.D)} {r' : List (κ' × V)} (k : κ), KR N μ H f r r' → (IR.dGet r k = none ∧ valV r' (f k) = none) ∨ ∃ d v, IR.dGet r k = some d ∧ valV r' (f k) = some v ∧ Rep N μ H d v
  | _, _, k, .nil => .inl ⟨rfl, rfl⟩
  | _, _, k, .cons (k := k') (d := d) (v := v) (r := r) (r' := r') h t => by
    by_cases e : k' = k
    · subst e
      exact .inr ⟨d, v, by simp [IR.dGet], valV_pos rfl, h⟩
    · rw [valV_neg (show ¬ f k' = f k from fun z => e (inj _ _ z))]
      simp only [IR.dGet, if_neg e]
      exact KR.get inj k t
theorem KR.none_of (inj : ∀ p q, f p = f q → p = q) {r : List (κ × IR.D)} {r' : List (κ' × V)} {k : κ} (h : KR N μ H f r r') (e : IR.dGet r k = none) : valV r' (f k) = none := by
  rcases h.get inj k with ⟨_, z⟩ | ⟨d, v, z, _⟩
  · exact z
  · rw [e] at z; cases z
theorem KR.some_of (inj : ∀ p q, f p = f q → p = q) {r : List (κ × IR.D)} {r' : List (κ' × V)} {k : κ} {d : IR.D} (h : KR N μ H f r r') (e : IR.dGet r k = some d) : ∃ v, valV r' (f k) = some v ∧ Rep N μ H d v := by
  rcases h.get inj k with ⟨z, _⟩ | ⟨d', v, z, z2, z3⟩
  · rw [e] at z; cases z
  · rw [e] at z; cases z; exact ⟨v, z2, z3⟩
theorem KR.isSome (inj : ∀ p q, f p = f q → p = q) {r : List (κ × IR.D)} {r' : List (κ' × V)} (k : κ) (h : KR N μ H f r r') : (valV r' (f k)).isSome = (IR.dGet r k).isSome := by
  rcases h.get inj k with ⟨z, z2⟩ | ⟨d', v, z, z2, z3⟩
  · rw [z, z2]; rfl
  · rw [z, z2]; rfl
theorem KR.snoc {r : List (κ × IR.D)} {r' : List (κ' × V)} {k : κ} {d : IR.D} (h : KR N μ H f r r') (q : Rep N μ H d v) : KR N μ H f (r ++ [(k, d)]) (r' ++ [(f k, v)]) := by
  induction h with
  | nil => exact .cons q .nil
  | cons a _ ih => exact .cons a ih
theorem any_some (k : κ) : ∀ r : List (κ × IR.D), (r.any fun p => decide (p.1 = k)) = (IR.dGet r k).isSome
  | [] => rfl
  | p :: r => by
    by_cases e : p.1 = k
    · simp [IR.dGet, e]
    · simp [IR.dGet, e, any_some k r]
theorem KR.put (inj : ∀ p q, f p = f q → p = q) {k : κ} {d : IR.D} (q : Rep N μ H d v) {r : List (κ × IR.D)} {r' : List (κ' × V)} (h : KR N μ H f r r') : KR N μ H f (IR.dPut r k d) (putK r' (f k) v) := by
  unfold IR.dPut putK
  rw [valV_any, h.isSome inj k]
  split
  · rename_i hs
    clear hs
    induction h with
    | nil => exact .nil
    | @cons k' d' v' r r' hd t ih =>
      simp only [List.map_cons]
      by_cases e : k' = k
      · subst e
        simp only [if_pos]
        exact .cons q ih
      · simp only [if_neg e, if_neg fun z => e (inj _ _ z)]
        exact .cons hd ih
  · exact h.snoc q
theorem KR.drop (inj : ∀ p q, f p = f q → p = q) {k : κ} {r : List (κ × IR.D)} {r' : List (κ' × V)} (h : KR N μ H f r r') : KR N μ H f (IR.dDrop r k) (dropK r' (f k)) := by
  unfold IR.dDrop dropK
  induction h with
  | nil => exact .nil
  | @cons k' d' v' r r' hd t ih =>
    by_cases e : k' = k
    · subst e
      simpa using ih
    · rw [List.filter_cons, List.filter_cons, if_pos (by simpa using e), if_pos (by simpa using fun z => e (inj _ _ z))]
      exact .cons hd ih
end
theorem kyK_inj' : ∀ p q : IR.Ky, kyK p = kyK q → p = q := fun _ _ h => kyK_inj h
theorem kyKs_inj' : ∀ p q : List IR.Ky, p.map kyK = q.map kyK → p = q := fun _ _ h => kyK_map_inj h
/-- a key -/
theorem ky_of {k : IR.Ky} (r : RepV N μ H a x) (h : a.ky = some k) : x = kV (kyK k) := by
  cases a <;> first | (simp [IR.D.ky] at h; done) | skip
  · simp [IR.D.ky] at h; subst h; rw [r.int]; rfl
  · simp [IR.D.ky] at h; subst h; rw [r.str]; rfl
theorem kys_vals : ∀ {l : List IR.D} {ks : List IR.Ky} {vs : List V}, l.mapM IR.D.ky = some ks → Reps N μ H l vs → vs = (ks.map kyK).map kV
  | [], ks, vs, h, r => by simp at h; subst h; cases r; rfl
  | d :: l, ks, vs, h, r => by
    rw [List.mapM_cons] at h
    cases r with
    | cons rd rl =>
      cases e : d.ky with
      | none => rw [e] at h; simp at h
      | some k =>
        rw [e] at h
        simp only [Option.bind_eq_bind, Option.bind_some] at h
        cases e2 : l.mapM IR.D.ky with
        | none => rw [e2] at h; simp at h
        | some r' =>
          rw [e2] at h
          simp at h
          subst h
          rw [kys_vals e2 rl, ky_of rd.v e]
          rfl
theorem kys_of {ks : List IR.Ky} (r : RepV N μ H a x) (h : a.kys = some ks) : ∃ p, x = .ref p ∧ H p = some (.tup ((ks.map kyK).map kV)) := by
  cases a <;> first | (simp [IR.D.kys] at h; done) | skip
  obtain ⟨p, vs, rfl, e, rr⟩ := r.tup
  rw [kys_vals (show _ = _ from h) rr] at e
  exact ⟨p, rfl, e⟩
/-- what the dict at n holds by a key -/
theorem rdK (R : Rel N μ S H) {n : Nat} {p : Addr} {lk : Bool} {kvs : List (IR.Ky × IR.D)} (h : S[n]? = some (.dK lk kvs)) (hp : μ[n]? = some p) : ∃ r, Rd H p (.dK r) ∧ KR N μ H kyK kvs r := by
  have z := R.ob n _ p h hp
  cases lk with
  | false => obtain ⟨r, e, q⟩ := z; exact ⟨r, .inl e, q⟩
  | true => obtain ⟨o, r, e, q⟩ := z; exact ⟨r, .inr ⟨o, e⟩, q⟩
theorem rdT (R : Rel N μ S H) {n : Nat} {p : Addr} {lk : Bool} {kvs : List (List IR.Ky × IR.D)} (h : S[n]? = some (.dT lk kvs)) (hp : μ[n]? = some p) : ∃ r, Rd H p (.dT r) ∧ KR N μ H (·.map kyK) kvs r := by
  have z := R.ob n _ p h hp
  cases lk with
  | false => obtain ⟨r, e, q⟩ := z; exact ⟨r, .inl e, q⟩
  | true => obtain ⟨o, r, e, q⟩ := z; exact ⟨r, .inr ⟨o, e⟩, q⟩
theorem DGet.rk {p : Addr} {r : List (Key × V)} {k : Key} (e : Rd H p (.dK r)) : DGet H p (kV k) (valV r k) := .inl ⟨r, k, e, rfl, rfl⟩
theorem DGet.rt {p q : Addr} {r : List (List Key × V)} {k : List Key} (e : Rd H p (.dT r)) (eb : H q = some (.tup (k.map kV))) : DGet H p (.ref q) (valV r k) := .inr ⟨r, k, q, e, rfl, eb, rfl⟩
/-! ### an item -/
def rIxX (K : PySem.W.Frag) : R2 := fun x y H Q => rIx K x y H Q ∨ ∃ a v, x = .ref a ∧ DGet H a y (some v) ∧ Q v H
theorem atD_atI {α : Type} (l : List α) (i : Int) : IR.atD l i = atI l i := rfl
theorem Reps.atI {l : List IR.D} {vs : List V} {i : Int} {d : IR.D} (r : Reps N μ H l vs) (h : IR.atD l i = some d) : ∃ v, L2.atI vs i = some v ∧ Rep N μ H d v := by
  unfold IR.atD at h
  obtain ⟨j, hj, hd⟩ := Option.bind_eq_some_iff.mp h
  obtain ⟨v, hv, q⟩ := r.get hd
  refine ⟨v, ?_, q⟩
  unfold L2.atI
  rw [← r.length]
  exact Option.bind_eq_some_iff.mpr ⟨j, hj, hv⟩
theorem o_ix (R : Rel N μ S H) (ra : RepV N μ H a x) (rb : RepV N μ H b y) (g : GV N W μ H (IR.evOp .ix [a, b] S) Q) : rIxX N.K x y H Q := by
  obtain ⟨d, hd, g⟩ := GV.val1 (o := IR.ixD S a b) g
  have fin : ∀ {v : V}, Rep N μ H d v → (∀ l, d ≠ .tl l) → Q v H := fun r n => g.here R r n
  have ntl : ∀ {v : V}, Rep N μ H d v → ∀ l, d ≠ .tl l := fun r l z => by subst z; cases r
  have lst : ∀ {l : List IR.D} {p : Addr} {vs : List V}, SqL N.K H p vs → Reps N μ H l vs → (b.isInt.bind fun j => IR.atD l j) = some d → rIxX N.K (.ref p) y H Q := fun {l p vs} hs r h => by
    obtain ⟨j, hj, h⟩ := Option.bind_eq_some_iff.mp h
    cases b <;> first | (simp [IR.D.isInt] at hj; done) | skip
    cases hj
    obtain ⟨v, hv, q⟩ := r.atI h
    rw [rb.int]
    exact .inl (.inl ⟨p, vs, _, v, rfl, rfl, hs, hv, fin q (ntl q)⟩)
  cases a with
  | str s =>
    simp only [IR.ixD] at hd
    split at hd
    · rename_i hl
      obtain ⟨j, hj, h⟩ := Option.bind_eq_some_iff.mp hd
      obtain ⟨c, hc, rfl⟩ := Option.map_eq_some_iff.mp h
      cases b <;> first | (simp [IR.D.isInt] at hj; done) | skip
      cases hj
      rw [ra.str, rb.int]
      exact .inl (.inr (.inr ⟨_, _, c, rfl, rfl, by rw [sT_len]; exact line_le hl, hc, fin (.str [c]) fun _ z => nomatch z⟩))
    · cases hd
  | ref n =>
    obtain ⟨p, rfl, hp⟩ := ra.ref
    simp only [IR.ixD] at hd
    split at hd
    · rename_i lk kvs e
      obtain ⟨k, hk, h⟩ := Option.bind_eq_some_iff.mp hd
      obtain ⟨r, e1, q⟩ := rdK R e hp
      obtain ⟨v, h1, h2⟩ := q.some_of kyK_inj' h
      rw [ky_of rb hk]
      exact .inr ⟨p, v, rfl, by rw [← h1]; exact DGet.rk e1, fin h2 (ntl h2)⟩
    · rename_i lk kvs e
      obtain ⟨k, hk, h⟩ := Option.bind_eq_some_iff.mp hd
      obtain ⟨r, e1, q⟩ := rdT R e hp
      obtain ⟨v, h1, h2⟩ := q.some_of kyKs_inj' h
      obtain ⟨p2, rfl, e2⟩ := kys_of rb hk
      exact .inr ⟨p, v, rfl, by rw [← h1]; exact DGet.rt e1 e2, fin h2 (ntl h2)⟩
    · rename_i l e
      obtain ⟨vs, e1, r⟩ := R.ob n _ p e hp
      exact lst (.of e1) r hd
    · cases hd
  | tl l =>
    obtain ⟨p, vs, rfl, e1, _, r⟩ := ra
    exact lst (.of e1) r hd
  | scr l =>
    obtain ⟨p, rfl, hp⟩ := ra.scr
    simp only [IR.ixD] at hd
    refine lst hp.sq Reps.ints ?_
    obtain ⟨j, hj, h⟩ := Option.bind_eq_some_iff.mp hd
    refine Option.bind_eq_some_iff.mpr ⟨j, hj, ?_⟩
    obtain ⟨i, hi, rfl⟩ := Option.map_eq_some_iff.mp h
    unfold IR.atD at hi ⊢
    rw [List.length_map]
    obtain ⟨k, hk, h2⟩ := Option.bind_eq_some_iff.mp hi
    exact Option.bind_eq_some_iff.mpr ⟨k, hk, by rw [List.getElem?_map, h2]; rfl⟩
  | tup l =>
    obtain ⟨p, vs, rfl, e1, r⟩ := ra.tup
    simp only [IR.ixD] at hd
    obtain ⟨j, hj, h⟩ := Option.bind_eq_some_iff.mp hd
    cases b <;> first | (simp [IR.D.isInt] at hj; done) | skip
    cases hj
    obtain ⟨v, hv, q⟩ := r.atI h
    rw [rb.int]
    exact .inl (.inr (.inl ⟨p, vs, _, v, rfl, rfl, .of e1, hv, fin q (ntl q)⟩))
  | _ => cases hd
end
end IRS

namespace IRS
open PySem PySem.Spec PyProof.Rows L2
theorem ix_dict {X : Cx} (hu : X.A.units + 1 < cLine) : IxR X (fun x y H Q => ∃ a v, x = .ref a ∧ DGet H a y (some v) ∧ Q v H) := by
  intro value slice pins s σ H x y v u Q I rx ry h hs
  obtain ⟨a, z, rfl, g, q⟩ := h
  obtain rfl : v = Value.ref a := rx
  have hT := dict_typeIs I g
  unfold subscriptTail
  refine wpAny_bind ?_
  rw [getitemInPython_of_ne hT.not_modules]
  refine wpAny_bind (wpAny_specialOf hT PySem.F.slot_dict_getitem.lookup ?_)
  have fin : wpAny (model X.prog X.w) X.A (subscripted slice false (.ref a) u) (fun r s₃ => wpAny (model X.prog X.w) X.A (letTemporaryGo value (.ref a) r >>= fun _ => pure r) (EP X pins σ Q) X.xe s₃) X.xe s := by
    rw [hs]
    refine wpAny_operating (d_getItem hu I g ry fun w' s3 I3 rw' => wpAny_bind (wpAny_letTemporaryGo (wpAny_pure ⟨z, H, I3, rw', q⟩)))
  first
    | exact wpAny_pure (wpAny_bind fin)
    | exact wpAny_bind (wpAny_pure (wpAny_bind fin))
    | exact wpAny_bind fin
theorem ix_X {X : Cx} (hu : X.A.units + 1 < cLine) : IxR X (rIxX X.K) := ix_seq.or (ix_dict hu)
def rInDict (neg : Bool) : R2 := fun y x H Q => ∃ a o, x = .ref a ∧ DGet H a y o ∧ Q (.bl (if neg then !o.isSome else o.isSome)) H
theorem op_in_dict {X : Cx} (hu : X.A.units + 1 < cLine) : OpR X (compareOp .In) (rInDict false) := by
  intro pins s σ H y x u v Q I ry rx h
  obtain ⟨a, o, rfl, g, q⟩ := h
  obtain rfl : v = Value.ref a := rx
  exact d_in hu I g ry fun s3 I3 => ⟨.bl o.isSome, H, I3, rfl, q⟩
theorem op_notIn_dict {X : Cx} (hu : X.A.units + 1 < cLine) : OpR X (compareOp .NotIn) (rInDict true) := by
  intro pins s σ H y x u v Q I ry rx h
  obtain ⟨a, o, rfl, g, q⟩ := h
  obtain rfl : v = Value.ref a := rx
  exact d_notIn hu I g ry fun s3 I3 => ⟨.bl (!o.isSome), H, I3, rfl, q⟩
def rInX (K : PySem.W.Frag) : R2 := fun x y H Q => ((rInDict false x y H Q ∨ (∃ (c : Nat) (z : Str), x = .str ⟨#[c]⟩ ∧ y = .str z ∧ Q (.bl (decide (c ∈ z.cps.toList))) H)) ∨ rInD K x y H Q) ∨ rIn K false x y H Q
theorem op_inX {X : Cx} (hu : X.A.units + 65 < cLine) : OpR X (compareOp .In) (rInX X.K) := (((op_in_dict (by omega)).or op_in_sign).or (op_inD hu)).or op_in_seq
def rNotInX (K : PySem.W.Frag) : R2 := fun x y H Q => ((rInDict true x y H Q ∨ (∃ (c : Nat) (z : Str), x = .str ⟨#[c]⟩ ∧ y = .str z ∧ Q (.bl (!decide (c ∈ z.cps.toList))) H)) ∨ rNotInD K x y H Q) ∨ rIn K true x y H Q
theorem op_notInX {X : Cx} (hu : X.A.units + 65 < cLine) : OpR X (compareOp .NotIn) (rNotInX X.K) := (((op_notIn_dict (by omega)).or op_notIn_sign).or (op_notInD hu)).or op_notIn_seq
def rSetX : V → V → V → Hp → (Hp → Prop) → Prop := fun o i v H Q => rSetL o i v H Q ∨ ∃ a H', o = .ref a ∧ DPut H a i v H' ∧ Q H'
theorem set_X {X : Cx} (hu : X.A.units + 1 < cLine) : PSet X rSetX := by
  intro pins s σ H o i v ov iv u Q I ro ri rv h
  rcases h with h | ⟨a, H', rfl, g, q⟩
  · exact set_list pins s σ H o i v ov iv u Q I ro ri rv h
  · obtain rfl : ov = Value.ref a := ro
    exact d_setItem hu I g ri rv fun s' I' => ⟨H', I', q⟩
def rSlX (K : PySem.W.Frag) : V → Option Int → Option Int → Hp → VK → Prop := fun x lo hi H Q => (rSlL K x lo hi H Q ∨ rSlA K x lo hi H Q) ∨ rSlS x lo hi H Q
theorem sl_X {X : Cx} : SlR X (rSlX X.K) := (sl_list.or sl_tupA).or sl_str
section
variable {N : Nm} {W : Fm} {μ μ' : List Addr} {S : IR.Sto} {H H' : Hp} {Q : VK} {a b : IR.D} {x y v : V}
/-! ### in -/
theorem data_all (R : Rel N μ S H) (n : Nat) : ∀ {l : List IR.D} {vs : List V} {ps : List IR.P}, Reps N μ H l vs → l.mapM (IR.toP S n) = some ps → DpAll N.K H vs (ps.map pyD) ∧ (∀ p ∈ ps, (pyD p).canLay0 = true) ∧ (∀ p ∈ ps, (pyD p).depth ≤ n)
  | [], vs, ps, r, h => by
    cases r
    simp at h; subst h
    exact ⟨.nil, by simp, by simp⟩
  | d :: l, _, ps, .cons rd rl, h => by
    rw [List.mapM_cons] at h
    cases e : IR.toP S n d with
    | none => rw [e] at h; simp at h
    | some q =>
      rw [e] at h
      simp only [Option.bind_eq_bind, Option.bind_some] at h
      cases e2 : l.mapM (IR.toP S n) with
      | none => rw [e2] at h; simp at h
      | some qs =>
        rw [e2] at h
        simp at h
        subst h
        obtain ⟨x1, x2, x3⟩ := data_of R n rd.v e
        obtain ⟨y1, y2, y3⟩ := data_all R n rl e2
        refine ⟨.cons x1 y1, fun p hp => ?_, fun p hp => ?_⟩
        · rcases List.mem_cons.mp hp with rfl | hp
          · exact x2
          · exact y2 p hp
        · rcases List.mem_cons.mp hp with rfl | hp
          · exact x3
          · exact y3 p hp
theorem any_list (R : Rel N μ S H) (ra : RepV N μ H a x) {l : List IR.D} {vs : List V} {p : Addr} {r : Bool} (hs : SqL N.K H p vs) (rl : Reps N μ H l vs) (h : IR.anyEq S a l = some r) :
    ∃ d ds, Dp N.K H x d ∧ Dp N.K H (.ref p) (.list ds) ∧ SeqAt.shaped d = true ∧ SeqAt.shaped (.list ds) = true ∧ (ds.any fun z => PyData.eqv z d) = r := by
  unfold IR.anyEq at h
  split at h
  · rename_i q ps h1 h2
    cases h
    obtain ⟨x1, x2, x3⟩ := data_of R 20 ra h1
    obtain ⟨y1, y2, y3⟩ := data_all R 19 rl h2
    refine ⟨pyD q, ps.map pyD, x1, .lst hs y1, shaped_of x2 x3, ?_, ?_⟩
    · rw [← pyD_lst]
      refine shaped_of (by rw [pyD_lst, PyData.canLay0]; exact lays_all y2) (by rw [pyD_lst, PyData.depth]; exact Nat.succ_le_succ (depth_all y3))
    · rw [List.any_map]
      exact congrArg (fun f => ps.any f) (funext fun p => eqv_py p q)
  · cases h
theorem flat_of {d : IR.D} {v : V} (r : Rep N μ H d v) (f : d.flat = true) : flatV v = true := by
  cases r <;> first | rfl | cases f
theorem eqV_of {d e : IR.D} {v w : V} {p q : IR.P} {n m : Nat} (r : Rep N μ H d v) (r' : Rep N μ H e w) (f : d.flat = true) (f' : e.flat = true) (h : IR.toP S (n + 1) d = some p) (h' : IR.toP S (m + 1) e = some q) : eqV v w = p.eqv q := by
  have ok : ∀ {t : IR.Txt} {k : Nat} {p : IR.P}, IR.toP S (k + 1) (.str t) = some p → p = .str t := fun {t k p} h => by
    simp only [IR.toP] at h
    split at h
    · exact (Option.some.inj h).symm
    · cases h
  cases r <;> first | cases f | skip
  all_goals cases r' <;> first | cases f' | skip
  all_goals first | (have e1 := ok h; subst e1) | (simp only [IR.toP, Option.some.injEq] at h; subst h)
  all_goals first | (have e1 := ok h'; subst e1) | (simp only [IR.toP, Option.some.injEq] at h'; subst h')
  all_goals first | (simp [eqV, IR.P.eqv]; done) | skip
  all_goals
    rename_i t u
    simp only [eqV, IR.P.eqv]
    by_cases e : t = u
    · subst e; simp
    · rw [show (t == u) = false from by simpa using e]
      exact beq_eq_false_iff_ne.mpr fun z => e (sT_inj z)
theorem any_flat {x : V} (R : Rel N μ S H) (ra : Rep N μ H a x) (fa : a.flat = true) : ∀ {l : List IR.D} {vs : List V} {r : Bool}, Reps N μ H l vs → l.all IR.D.flat = true → IR.anyEq S a l = some r → vs.all flatV = true ∧ inV x vs = r
  | [], _, r, .nil, _, h => by
    unfold IR.anyEq at h
    split at h
    · rename_i q ps h1 h2
      simp at h2; subst h2
      cases h
      exact ⟨rfl, rfl⟩
    · cases h
  | d :: l, _, r, .cons (v := v) rd rl, fl, h => by
    unfold IR.anyEq at h
    split at h
    · rename_i q ps h1 h2
      cases h
      rw [List.mapM_cons] at h2
      cases e : IR.toP S 19 d with
      | none => rw [e] at h2; simp at h2
      | some p =>
        rw [e] at h2
        simp only [Option.bind_eq_bind, Option.bind_some] at h2
        cases e2 : l.mapM (IR.toP S 19) with
        | none => rw [e2] at h2; simp at h2
        | some qs =>
          rw [e2] at h2
          simp at h2
          subst h2
          rw [List.all_cons, Bool.and_eq_true] at fl
          obtain ⟨z1, z2⟩ := any_flat (r := qs.any fun p => p.eqv q) R ra fa rl fl.2 (by unfold IR.anyEq; rw [h1, e2])
          refine ⟨by rw [List.all_cons, z1, flat_of rd fl.1]; rfl, ?_⟩
          have z3 := eqV_of rd ra fl.1 fa e h1
          unfold inV at z2 ⊢
          rw [List.any_cons, List.any_cons, z2, z3]
    · cases h
/-- x in c -/
theorem inD_of (R : Rel N μ S H) (ra : RepV N μ H a x) (rb : RepV N μ H b y) {r : Bool} (h : IR.inD S a b = some r) :
    (∃ p o, y = .ref p ∧ DGet H p x o ∧ o.isSome = r) ∨ (∃ (c : Nat) (z : Str), x = .str ⟨#[c]⟩ ∧ y = .str z ∧ decide (c ∈ z.cps.toList) = r) ∨
    (∃ d ds, Dp N.K H x d ∧ Dp N.K H y (.list ds) ∧ SeqAt.shaped d = true ∧ SeqAt.shaped (.list ds) = true ∧ (ds.any fun z => PyData.eqv z d) = r) ∨
    ∃ p xs, y = .ref p ∧ SqT N.K H p xs ∧ flatV x = true ∧ xs.all flatV = true ∧ inV x xs = r := by
  cases b with
  | str s =>
    simp only [IR.inD] at h
    split at h
    · rename_i k
      cases h
      rw [ra.str, rb.str]
      refine .inr (.inl ⟨k, sT s, rfl, rfl, ?_⟩)
      rw [sT_cps]
      simp
    · cases h
  | ref n =>
    obtain ⟨p, rfl, hp⟩ := rb.ref
    simp only [IR.inD] at h
    split at h
    · rename_i lk kvs e
      obtain ⟨k, hk, rfl⟩ := Option.map_eq_some_iff.mp h
      obtain ⟨r, e1, q⟩ := rdK R e hp
      rw [ky_of ra hk]
      exact .inl ⟨p, _, rfl, DGet.rk e1, q.isSome kyK_inj' k⟩
    · rename_i lk kvs e
      obtain ⟨k, hk, rfl⟩ := Option.map_eq_some_iff.mp h
      obtain ⟨r, e1, q⟩ := rdT R e hp
      obtain ⟨p2, rfl, e2⟩ := kys_of ra hk
      exact .inl ⟨p, _, rfl, DGet.rt e1 e2, q.isSome kyKs_inj' k⟩
    · rename_i l e
      obtain ⟨vs, e1, rr⟩ := R.ob n _ p e hp
      exact .inr (.inr (.inl (any_list R ra (.of e1) rr h)))
    · cases h
  | tl l =>
    obtain ⟨p, vs, rfl, e1, _, rr⟩ := rb
    exact .inr (.inr (.inl (any_list R ra (.of e1) rr h)))
  | scr l =>
    obtain ⟨p, rfl, hp⟩ := rb.scr
    exact .inr (.inr (.inl (any_list R ra hp.sq Reps.ints h)))
  | tup l =>
    obtain ⟨p, vs, rfl, e1, rr⟩ := rb.tup
    simp only [IR.inD] at h
    split at h
    · rename_i hf
      rw [Bool.and_eq_true] at hf
      have ra' : Rep N μ H a x := ra.rep fun l z => by subst z; cases hf.1
      obtain ⟨z1, z2⟩ := any_flat R ra' hf.1 rr hf.2 h
      exact .inr (.inr (.inr ⟨p, vs, rfl, .of e1, flat_of ra' hf.1, z1, z2⟩))
    · cases h
  | _ => cases h
theorem o_in (R : Rel N μ S H) (ra : RepV N μ H a x) (rb : RepV N μ H b y) (g : GV N W μ H (IR.evOp .isin [a, b] S) Q) : rInX N.K x y H Q := by
  obtain ⟨r, hr, q⟩ := GV.bool1 (o := IR.inD S a b) R g
  rcases inD_of R ra rb hr with ⟨p, o, rfl, h1, h2⟩ | ⟨c, z, rfl, rfl, h2⟩ | ⟨d, ds, h1, h2, h3, h4, h5⟩ | ⟨p, xs, rfl, h1, h2, h3, h4⟩
  · exact .inl (.inl (.inl ⟨p, o, rfl, h1, by rw [if_neg (by decide), h2]; exact q⟩))
  · exact .inl (.inl (.inr ⟨c, z, rfl, rfl, by rw [h2]; exact q⟩))
  · exact .inl (.inr ⟨d, ds, h1, h2, h3, h4, by rw [h5]; exact q⟩)
  · exact .inr ⟨p, xs, rfl, .inr h1, h2, h3, by rw [if_neg (by decide), h4]; exact q⟩
theorem o_notin (R : Rel N μ S H) (ra : RepV N μ H a x) (rb : RepV N μ H b y) (g : GV N W μ H (IR.evOp .notin [a, b] S) Q) : rNotInX N.K x y H Q := by
  obtain ⟨r', hr', q⟩ := GV.bool1 (o := (IR.inD S a b).map (!·)) R g
  obtain ⟨r, hr, rfl⟩ := Option.map_eq_some_iff.mp hr'
  rcases inD_of R ra rb hr with ⟨p, o, rfl, h1, h2⟩ | ⟨c, z, rfl, rfl, h2⟩ | ⟨d, ds, h1, h2, h3, h4, h5⟩ | ⟨p, xs, rfl, h1, h2, h3, h4⟩
  · exact .inl (.inl (.inl ⟨p, o, rfl, h1, by rw [if_pos rfl, h2]; exact q⟩))
  · exact .inl (.inl (.inr ⟨c, z, rfl, rfl, by rw [h2]; exact q⟩))
  · exact .inl (.inr ⟨d, ds, h1, h2, h3, h4, by rw [h5]; exact q⟩)
  · exact .inr ⟨p, xs, rfl, .inr h1, h2, h3, by rw [if_pos rfl, h4]; exact q⟩
/-! ### a slice -/
theorem sIx_eq (n d : Nat) (o : Option Int) : IR.sIx n d o = HT.sIx n d o := by
  cases o with
  | none => rfl
  | some i =>
    simp only [IR.sIx, HT.sIx]
    by_cases h : 0 ≤ i
    · rw [if_pos h, if_neg (by omega)]
    · rw [if_neg h, if_pos (by omega)]
theorem Reps.cut {l : List IR.D} {vs : List V} (r : Reps N μ H l vs) (lo hi : Option Int) : Reps N μ H (IR.cut l lo hi) (cutV vs lo hi) := by
  unfold IR.cut cutV
  rw [sIx_eq, sIx_eq, r.length]
  exact (r.drop _).take _
theorem o_sl (R : Rel N μ S H) (ra : RepV N μ H a x) {lo hi : Option Int} (g : GV N W μ H (IR.val1 (IR.slD S a lo hi) S) Q) : rSlX N.K x lo hi H Q := by
  obtain ⟨d, hd, g⟩ := GV.val1 g
  have lst : ∀ {l : List IR.D} {p : Addr} {vs : List V}, SqL N.K H p vs → Reps N μ H l vs → d = .tl (IR.cut l lo hi) → rSlX N.K (.ref p) lo hi H Q := fun {l p vs} hs r e => by
    subst e
    exact .inl (.inl ⟨p, vs, rfl, hs, GV.newL R g (r.cut lo hi)⟩)
  cases a with
  | str s =>
    simp only [IR.slD] at hd
    split at hd
    · rename_i hl
      cases hd
      rw [ra.str]
      refine .inr ⟨_, rfl, by rw [sT_len]; exact line_le hl, ?_⟩
      have g := GV.str R g
      have e : cutS (sT s) lo hi = sT (IR.cut s lo hi) := by
        unfold cutS IR.cut
        rw [sT_cps, sT_len, sIx_eq, sIx_eq]
        rfl
      rw [e]; exact g
    · cases hd
  | tup l =>
    obtain ⟨p, vs, rfl, e1, r⟩ := ra.tup
    simp only [IR.slD] at hd
    cases hd
    refine .inl (.inr ⟨p, vs, rfl, .of e1, fun z => ?_, fun _ => GV.newT R g (r.cut lo hi)⟩)
    have e : IR.cut l lo hi = l := by
      unfold IR.cut
      rw [sIx_eq, sIx_eq, r.length, z.1, z.2]
      rw [List.drop_zero, Nat.sub_zero, ← r.length, List.take_length]
    rw [e] at g
    exact g.here R (.tup e1 r) fun _ z => nomatch z
  | ref n =>
    obtain ⟨l', hl, e⟩ := Option.map_eq_some_iff.mp (show (IR.lstItems S (.ref n)).map (fun l => IR.D.tl (IR.cut l lo hi)) = some d from hd)
    obtain ⟨p, vs, rfl, h1, h2⟩ := lst_of R ra hl
    exact lst h1 h2 e.symm
  | tl l =>
    obtain ⟨l', hl, e⟩ := Option.map_eq_some_iff.mp (show (IR.lstItems S (.tl l)).map (fun l => IR.D.tl (IR.cut l lo hi)) = some d from hd)
    obtain ⟨p, vs, rfl, h1, h2⟩ := lst_of R ra hl
    exact lst h1 h2 e.symm
  | scr l =>
    obtain ⟨l', hl, e⟩ := Option.map_eq_some_iff.mp (show (IR.lstItems S (.scr l)).map (fun l => IR.D.tl (IR.cut l lo hi)) = some d from hd)
    obtain ⟨p, vs, rfl, h1, h2⟩ := lst_of R ra hl
    exact lst h1 h2 e.symm
  | non => cases hd
  | bl b => cases hd
  | int b => cases hd
  | fn b => cases hd
/-! ### a store at a place -/
theorem o_setIx (R : Rel N μ S H) {c : IR.D} {z : V} (rc : Rep N μ H c z) (ra : RepV N μ H a x) (rb : RepV N μ H b y) {K : Hp → Prop} (g : GG N W μ H (IR.setIxD c a b S) fun _ _ _ H' => K H') : rSetX x y z H K := by
  unfold IR.setIxD at g
  cases a with
  | ref n =>
    obtain ⟨p, rfl, hp⟩ := ra.ref
    simp only at g
    split at g
    · rename_i l e
      split at g
      · rename_i j hj
        obtain ⟨i, hi, hj⟩ := Option.bind_eq_some_iff.mp hj
        cases b <;> first | (simp [IR.D.isInt] at hi; done) | skip
        cases hi
        obtain ⟨vs, e1, r⟩ := R.ob n _ p e hp
        rw [rb.int]
        refine .inl ⟨p, vs, _, j, rfl, rfl, e1, by rw [← r.length]; exact hj, ?_⟩
        have ex : Ext μ H μ (upd H p (.lst (vs.set j z))) := Ext.write hp e1 (fun _ z => nomatch z) fun _ _ z => nomatch z
        exact g μ _ ex (R.write hp ⟨_, upd_same, (r.set j rc).mono ex.w⟩ ex.w)
      · exact g.elim
    · rename_i kvs e
      split at g
      · rename_i k hk
        split at g
        · rename_i hl
          obtain ⟨r, e1, q⟩ := R.ob n _ p e hp
          rw [ky_of rb hk]
          refine .inr ⟨p, _, rfl, DPut.k e1 (by rw [← q.length]; exact line_lt hl), ?_⟩
          have ex : Ext μ H μ (upd H p (.dK (putK r (kyK k) z))) := Ext.write hp e1 (fun _ z => nomatch z) fun _ _ z => nomatch z
          exact g μ _ ex (R.write hp ⟨_, upd_same, (q.put kyK_inj' rc).mono ex.w⟩ ex.w)
        · exact g.elim
      · exact g.elim
    · rename_i kvs e
      split at g
      · rename_i k hk
        split at g
        · rename_i hl
          obtain ⟨r, e1, q⟩ := R.ob n _ p e hp
          obtain ⟨p2, rfl, e2⟩ := kys_of rb hk
          refine .inr ⟨p, _, rfl, DPut.t e1 e2 (by rw [← q.length]; exact line_lt hl), ?_⟩
          have ex : Ext μ H μ (upd H p (.dT (putK r (k.map kyK) z))) := Ext.write hp e1 (fun _ z => nomatch z) fun _ _ z => nomatch z
          exact g μ _ ex (R.write hp ⟨_, upd_same, (q.put kyKs_inj' rc).mono ex.w⟩ ex.w)
        · exact g.elim
      · exact g.elim
    · exact g.elim
  | _ => exact g.elim
end
end IRS

namespace IRS
open PySem L2
section
variable {N : Nm} {W : Fm} {μ μ' : List Addr} {S : IR.Sto} {H H' : Hp} {Q : VK} {a b : IR.D} {x y v : V}
/-! ### built-ins of one argument -/
def rLenX (K : PySem.W.Frag) : List V → Hp → VK → Prop := fun xs H Q => (∃ x n, xs = [x] ∧ LenV K x H n ∧ Q (.int n) H) ∨ ∃ a kvs, xs = [V.ref a] ∧ Rd H a (.dK kvs) ∧ Q (.int kvs.length) H
theorem call_lenX {X : Cx} : CallR X (.builtin "len") (rLenX X.K) := by
  intro pins s σ H xs us Q I r h
  rcases h with h | ⟨a, kvs, rfl, e, q⟩
  · exact call_len pins s σ H xs us Q I r h
  · obtain ⟨u, rfl, ru⟩ := vals1 r
    obtain rfl : u = Value.ref a := ru
    exact d_len I e fun t s' I' => ⟨.int kvs.length, H, I', ⟨t, rfl⟩, q⟩
theorem o_len (R : Rel N μ S H) (ra : RepV N μ H a x) (g : GV N W μ H (IR.evOp .len [a] S) Q) : rLenX N.K [x] H Q := by
  obtain ⟨d, hd, g⟩ := GV.val1 (o := (IR.lenD S a).map fun n => IR.D.int n) g
  obtain ⟨n, hn, rfl⟩ := Option.map_eq_some_iff.mp hd
  have q := GV.int R g
  cases a with
  | str s =>
    simp only [IR.lenD] at hn
    split at hn
    · rename_i hl
      cases hn
      rw [ra.str]
      exact .inl ⟨_, s.length, rfl, ⟨by rw [sT_len]; exact line_le hl, (sT_len s).symm⟩, q⟩
    · cases hn
  | tup l =>
    simp only [IR.lenD] at hn
    cases hn
    obtain ⟨p, vs, rfl, e, r⟩ := ra.tup
    exact .inl ⟨_, l.length, rfl, .inr ⟨vs, .of e, r.length⟩, q⟩
  | tl l =>
    simp only [IR.lenD] at hn
    cases hn
    obtain ⟨p, vs, rfl, e, _, r⟩ := ra
    exact .inl ⟨_, l.length, rfl, .inl ⟨vs, .of e, r.length⟩, q⟩
  | scr l =>
    simp only [IR.lenD] at hn
    cases hn
    obtain ⟨p, rfl, e⟩ := ra.scr
    exact .inl ⟨_, l.length, rfl, .inl ⟨_, e.sq, by simp⟩, q⟩
  | ref k =>
    obtain ⟨p, rfl, hp⟩ := ra.ref
    simp only [IR.lenD] at hn
    split at hn
    · rename_i e
      cases hn
      obtain ⟨r, e1, z⟩ := rdK R e hp
      rw [z.length] at q
      exact .inr ⟨p, r, rfl, e1, q⟩
    · rename_i e
      cases hn
      obtain ⟨vs, e1, r⟩ := R.ob k _ p e hp
      exact .inl ⟨_, _, rfl, .inl ⟨vs, .of e1, r.length⟩, q⟩
    · cases hn
  | _ => cases hn
theorem o_sum (R : Rel N μ S H) (ra : RepV N μ H a x) (g : GV N W μ H (IR.evOp .sum [a] S) Q) : rSum N.K [x] H Q := by
  obtain ⟨d, hd, g⟩ := GV.val1 (o := (IR.lstItems S a).bind fun l => (l.mapM IR.D.isInt).map fun is => IR.D.int is.sum) g
  obtain ⟨l, hl, h⟩ := Option.bind_eq_some_iff.mp hd
  obtain ⟨is, hi, rfl⟩ := Option.map_eq_some_iff.mp h
  obtain ⟨p, vs, rfl, h1, h2⟩ := lst_of R ra hl
  rw [ints_of hi h2] at h1
  exact ⟨p, is, rfl, h1, GV.int R g⟩
theorem bls_of : ∀ {l : List IR.D} {is : List Bool} {vs : List V}, l.mapM IR.D.isBl = some is → Reps N μ H l vs → vs = is.map V.bl
  | [], is, vs, h, r => by simp at h; subst h; cases r; rfl
  | d :: l, is, vs, h, r => by
    rw [List.mapM_cons] at h
    cases r with
    | cons rd rl =>
      cases d <;> first | (simp [IR.D.isBl] at h; done) | skip
      rename_i i
      simp only [IR.D.isBl, Option.bind_eq_bind, Option.bind_some] at h
      cases e2 : l.mapM IR.D.isBl with
      | none => rw [e2] at h; simp at h
      | some r' =>
        rw [e2] at h
        simp at h
        subst h
        rw [bls_of e2 rl]
        cases rd
        rfl
theorem strs_of : ∀ {l : List IR.D} {is : List IR.Txt} {vs : List V}, l.mapM IR.D.isStr = some is → Reps N μ H l vs → vs = (is.map sT).map V.str
  | [], is, vs, h, r => by simp at h; subst h; cases r; rfl
  | d :: l, is, vs, h, r => by
    rw [List.mapM_cons] at h
    cases r with
    | cons rd rl =>
      cases d <;> first | (simp [IR.D.isStr] at h; done) | skip
      rename_i i
      simp only [IR.D.isStr, Option.bind_eq_bind, Option.bind_some] at h
      cases e2 : l.mapM IR.D.isStr with
      | none => rw [e2] at h; simp at h
      | some r' =>
        rw [e2] at h
        simp at h
        subst h
        rw [strs_of e2 rl]
        cases rd
        rfl
theorem o_all (R : Rel N μ S H) (ra : RepV N μ H a x) (g : GV N W μ H (IR.evOp .all [a] S) Q) : rAll N.K [x] H Q := by
  obtain ⟨d, hd, g⟩ := GV.val1 (o := (IR.lstItems S a).bind fun l => (l.mapM IR.D.isBl).map fun bs => IR.D.bl (bs.all id)) g
  obtain ⟨l, hl, h⟩ := Option.bind_eq_some_iff.mp hd
  obtain ⟨is, hi, rfl⟩ := Option.map_eq_some_iff.mp h
  obtain ⟨p, vs, rfl, h1, h2⟩ := lst_of R ra hl
  rw [bls_of hi h2] at h1
  exact ⟨p, is, rfl, h1, GV.bl R g⟩
theorem foldMin_of : ∀ {l : List Int} {m : Int}, IR.foldMin l = some m → ∀ k, k ∈ l → (∀ y, y ∈ l → k ≤ y) → k = m := by
  intro l m h k hk hle
  cases l with
  | nil => cases h
  | cons x r =>
    simp only [IR.foldMin, Option.some.injEq] at h
    have aux : ∀ (r : List Int) (x : Int), (r.foldl (fun a b => if b < a then b else a) x ∈ x :: r) ∧ ∀ y ∈ x :: r, r.foldl (fun a b => if b < a then b else a) x ≤ y := by
      intro r
      induction r with
      | nil => intro x; simp
      | cons c r ih =>
        intro x
        obtain ⟨h1, h2⟩ := ih (if c < x then c else x)
        refine ⟨?_, fun y hy => ?_⟩
        · rw [List.foldl_cons]
          rcases List.mem_cons.mp h1 with h1 | h1
          · rw [h1]
            split <;> simp
          · exact List.mem_cons_of_mem _ (List.mem_cons_of_mem _ h1)
        · rw [List.foldl_cons]
          have h3 := h2 _ List.mem_cons_self
          rcases List.mem_cons.mp hy with rfl | hy
          · refine Int.le_trans h3 ?_
            split <;> omega
          · rcases List.mem_cons.mp hy with rfl | hy
            · refine Int.le_trans h3 ?_
              split <;> omega
            · exact h2 _ (List.mem_cons_of_mem _ hy)
    obtain ⟨h1, h2⟩ := aux r x
    rw [h] at h1 h2
    exact Int.le_antisymm (hle m h1) (h2 k hk)
theorem foldMax_of : ∀ {l : List Int} {m : Int}, IR.foldMax l = some m → ∀ k, k ∈ l → (∀ y, y ∈ l → y ≤ k) → k = m := by
  intro l m h k hk hle
  cases l with
  | nil => cases h
  | cons x r =>
    simp only [IR.foldMax, Option.some.injEq] at h
    have aux : ∀ (r : List Int) (x : Int), (r.foldl (fun a b => if a < b then b else a) x ∈ x :: r) ∧ ∀ y ∈ x :: r, y ≤ r.foldl (fun a b => if a < b then b else a) x := by
      intro r
      induction r with
      | nil => intro x; simp
      | cons c r ih =>
        intro x
        obtain ⟨h1, h2⟩ := ih (if x < c then c else x)
        refine ⟨?_, fun y hy => ?_⟩
        · rw [List.foldl_cons]
          rcases List.mem_cons.mp h1 with h1 | h1
          · rw [h1]
            split <;> simp
          · exact List.mem_cons_of_mem _ (List.mem_cons_of_mem _ h1)
        · rw [List.foldl_cons]
          have h3 := h2 _ List.mem_cons_self
          rcases List.mem_cons.mp hy with rfl | hy
          · refine Int.le_trans ?_ h3
            split <;> omega
          · rcases List.mem_cons.mp hy with rfl | hy
            · refine Int.le_trans ?_ h3
              split <;> omega
            · exact h2 _ (List.mem_cons_of_mem _ hy)
    obtain ⟨h1, h2⟩ := aux r x
    rw [h] at h1 h2
    exact Int.le_antisymm (h2 k hk) (hle m h1)
theorem o_min1 (R : Rel N μ S H) (ra : RepV N μ H a x) (g : GV N W μ H (IR.evOp .min1 [a] S) Q) : rMin N.K [x] H Q := by
  obtain ⟨d, hd, g⟩ := GV.val1 (o := (IR.lstItems S a).bind fun l => (l.mapM IR.D.isInt).bind fun is => (IR.foldMin is).map .int) g
  obtain ⟨l, hl, h⟩ := Option.bind_eq_some_iff.mp hd
  obtain ⟨is, hi, h⟩ := Option.bind_eq_some_iff.mp h
  obtain ⟨m, hm, rfl⟩ := Option.map_eq_some_iff.mp h
  obtain ⟨p, vs, rfl, h1, h2⟩ := lst_of R ra hl
  rw [ints_of hi h2] at h1
  exact ⟨p, is, rfl, h1, by cases is with | nil => cases hm | cons _ _ => simp, fun k hk hle => by rw [foldMin_of hm k hk hle]; exact GV.int R g⟩
theorem o_max1 (R : Rel N μ S H) (ra : RepV N μ H a x) (g : GV N W μ H (IR.evOp .max1 [a] S) Q) : rMax N.K [x] H Q := by
  obtain ⟨d, hd, g⟩ := GV.val1 (o := (IR.lstItems S a).bind fun l => (l.mapM IR.D.isInt).bind fun is => (IR.foldMax is).map .int) g
  obtain ⟨l, hl, h⟩ := Option.bind_eq_some_iff.mp hd
  obtain ⟨is, hi, h⟩ := Option.bind_eq_some_iff.mp h
  obtain ⟨m, hm, rfl⟩ := Option.map_eq_some_iff.mp h
  obtain ⟨p, vs, rfl, h1, h2⟩ := lst_of R ra hl
  rw [ints_of hi h2] at h1
  exact ⟨p, is, rfl, h1, by cases is with | nil => cases hm | cons _ _ => simp, fun k hk hle => by rw [foldMax_of hm k hk hle]; exact GV.int R g⟩
theorem o_min2 (R : Rel N μ S H) (ra : RepV N μ H a x) (rb : RepV N μ H b y) (g : GV N W μ H (IR.evOp .min2 [a, b] S) Q) : ∃ i j, [x, y] = [V.int i, .int j] ∧ Q (.int (if j < i then j else i)) H := by
  cases a <;> first | exact g.elim | skip
  cases b <;> first | exact g.elim | skip
  rw [ra.int, rb.int]
  exact ⟨_, _, rfl, GV.int R g⟩
theorem o_max2 (R : Rel N μ S H) (ra : RepV N μ H a x) (rb : RepV N μ H b y) (g : GV N W μ H (IR.evOp .max2 [a, b] S) Q) : ∃ i j, [x, y] = [V.int i, .int j] ∧ Q (.int (if j > i then j else i)) H := by
  cases a <;> first | exact g.elim | skip
  cases b <;> first | exact g.elim | skip
  rw [ra.int, rb.int]
  exact ⟨_, _, rfl, GV.int R g⟩
theorem o_abs (R : Rel N μ S H) (ra : RepV N μ H a x) (g : GV N W μ H (IR.evOp .abs [a] S) Q) : ∃ i, [x] = [V.int i] ∧ Q (.int (if i < 0 then -i else i)) H := by
  cases a <;> first | exact g.elim | skip
  rw [ra.int]
  exact ⟨_, rfl, GV.int R g⟩
def rTupX (K : PySem.W.Frag) : List V → Hp → VK → Prop := fun xs H Q => ∃ p ys, xs = [.ref p] ∧ ((SqL K H p ys ∧ ∀ l, H l = none → Q (.ref l) (upd H l (.tup ys))) ∨ (SqT K H p ys ∧ Q (.ref p) H))
theorem o_tuple (R : Rel N μ S H) (ra : RepV N μ H a x) (g : GV N W μ H (IR.evOp .tuple [a] S) Q) : rTupX N.K [x] H Q := by
  have lst : ∀ {d : IR.D}, RepV N μ H d x → GV N W μ H (IR.val1 ((IR.lstItems S d).map .tup) S) Q → rTupX N.K [x] H Q := fun rd g => by
    obtain ⟨d, hd, g⟩ := GV.val1 g
    obtain ⟨l, hl, rfl⟩ := Option.map_eq_some_iff.mp hd
    obtain ⟨p, vs, rfl, h1, h2⟩ := lst_of R rd hl
    exact ⟨p, vs, rfl, .inl ⟨h1, GV.newT R g h2⟩⟩
  cases a with
  | tup l =>
    obtain ⟨p, vs, rfl, e1, r⟩ := ra.tup
    exact ⟨p, vs, rfl, .inr ⟨.of e1, GV.here R (show GV N W μ H (.ok (.tup l) S) Q from g) (.tup e1 r) fun _ z => nomatch z⟩⟩
  | _ => exact lst ra g
theorem o_list (R : Rel N μ S H) (ra : RepV N μ H a x) (g : GV N W μ H (IR.evOp .list [a] S) Q) : ∃ p ys, [x] = [V.ref p] ∧ (SqL N.K H p ys ∨ SqT N.K H p ys) ∧ ∀ l, H l = none → Q (.ref l) (upd H l (.lst ys)) := by
  obtain ⟨d, hd, g⟩ := GV.val1 (o := (IR.items S a).map .tl) g
  obtain ⟨l, hl, rfl⟩ := Option.map_eq_some_iff.mp hd
  obtain ⟨p, vs, rfl, h1, h2⟩ := seq_of R ra hl
  exact ⟨p, vs, rfl, h1, GV.newL R g h2⟩
theorem rg_reps {i j : Int} : Reps N μ H (IR.rg i j) (rgV i j) := by
  unfold IR.rg rgV
  refine Reps.of_get (by simp) fun k d v h1 h2 => ?_
  rw [List.getElem?_map] at h1 h2
  cases e : (List.range (j - i).toNat)[k]? with
  | none => rw [e] at h1; cases h1
  | some n => rw [e] at h1 h2; cases h1; cases h2; exact .int _
def rIntX : List V → Hp → VK → Prop := fun xs H Q => ((∃ i, xs = [.int i] ∧ Q (.int i) H) ∨ ∃ k, xs = [.bl k] ∧ Q (.int (if k then 1 else 0)) H) ∨ ∃ a n, xs = [.str a] ∧ PySem.intText? a = some n ∧ a.length ≤ 640 ∧ Q (.int n) H
theorem call_intX {X : Cx} : CallR X (.type "int") rIntX := call_int1.or call_int_str
def kName : Nat → String
  | 0 => "NoneType"
  | 1 => "bool"
  | 2 => "int"
  | 3 => "str"
  | 4 => "tuple"
  | _ => "list"
def tyName : IR.Ty → Option String
  | .int => some "int"
  | .bool => some "bool"
  | .str => some "str"
  | .tuple => some "tuple"
  | .list => some "list"
  | .exc _ => none
theorem kind_of (R : Rel N μ S H) (ra : RepV N μ H a x) {k : Nat} (h : IR.kindD S a = some k) : TyX N.K H x (.type (kName k)) ∧ k < 6 := by
  cases a with
  | non => cases h; rw [ra.non]; exact ⟨.base .non, by decide⟩
  | bl b => cases h; rw [ra.bl]; exact ⟨.base (.bl b), by decide⟩
  | int b => cases h; rw [ra.int]; exact ⟨.base (.int b), by decide⟩
  | str b => cases h; rw [ra.str]; exact ⟨.base (.str _), by decide⟩
  | tup l => cases h; obtain ⟨p, vs, rfl, e, _⟩ := ra.tup; exact ⟨.base (.tup e), by decide⟩
  | tl l => cases h; obtain ⟨p, vs, rfl, e, _⟩ := ra; exact ⟨.base (.lst e), by decide⟩
  | scr l =>
    cases h
    obtain ⟨p, rfl, e⟩ := ra.scr
    rcases e with ⟨o, e⟩ | ⟨o, its, n, e, c, _⟩
    · exact ⟨.base (.frz e), by decide⟩
    · exact ⟨.kList e c, by decide⟩
  | ref n =>
    obtain ⟨p, rfl, hp⟩ := ra.ref
    simp only [IR.kindD] at h
    split at h
    · rename_i l e
      cases h
      obtain ⟨vs, e1, _⟩ := R.ob n _ p e hp
      exact ⟨.base (.lst e1), by decide⟩
    · cases h
  | fn n => cases h
theorem kit_all : ∀ k, k < 6 → ∀ t ∈ [IR.Ty.int, .bool, .str, .tuple, .list], ∀ n, tyName t = some n → kitB (kName k) n = some (IR.tyIs k t) := by decide +kernel
theorem kit_one {K : PySem.W.Frag} {k : Nat} {t : IR.Ty} {n : String} (hk : k < 6) (hn : tyName t = some n) : PySem.W.kitOne K (.type (kName k)) (.type n) = some (IR.tyIs k t) := by
  refine kit_ty (kit_all k hk t ?_ n hn)
  cases t <;> first | (simp; done) | cases hn
theorem kit_many {K : PySem.W.Frag} {k : Nat} (hk : k < 6) : ∀ {ts : List IR.Ty} {ns : List String}, ts.mapM tyName = some ns → PySem.W.kitAny K (.type (kName k)) (ns.map Value.type) = some (ts.any (IR.tyIs k))
  | [], ns, h => by simp at h; subst h; exact kitAny_nil
  | t :: ts, ns, h => by
    rw [List.mapM_cons] at h
    cases e : tyName t with
    | none => rw [e] at h; simp at h
    | some n =>
      rw [e] at h
      simp only [Option.bind_eq_bind, Option.bind_some] at h
      cases e2 : ts.mapM tyName with
      | none => rw [e2] at h; simp at h
      | some ns' =>
        rw [e2] at h
        simp at h
        subst h
        refine kitAny_cons (kit_one hk e) (fun hb => ?_) fun hb => ?_
        · rw [kit_many hk e2, List.any_cons, hb]; rfl
        · rw [List.any_cons, hb]; rfl
theorem o_isi1 (R : Rel N μ S H) (ra : RepV N μ H a x) {t : IR.Ty} {n : String} (hn : tyName t = some n) (g : GV N W μ H (IR.evOp (.isi [t]) [a] S) Q) : rIsi N.K [x, .ty n] H Q := by
  obtain ⟨d, hd, g⟩ := GV.val1 (o := (IR.kindD S a).map fun k => IR.D.bl ([t].any (IR.tyIs k))) g
  obtain ⟨k, hk, rfl⟩ := Option.map_eq_some_iff.mp hd
  obtain ⟨h1, h2⟩ := kind_of R ra hk
  refine ⟨x, .ty n, _, _, _, rfl, .ty n, h1, kit_one h2 hn, ?_⟩
  have q := GV.bl R g
  simpa using q
theorem o_isiT (R : Rel N μ S H) (ra : RepV N μ H a x) {ts : List IR.Ty} {ns : List String} {p : Addr} (hn : ts.mapM tyName = some ns) (hp : H p = some (.tup (ns.map V.ty))) (g : GV N W μ H (IR.evOp (.isi ts) [a] S) Q) : rIsiT N.K [x, .ref p] H Q := by
  obtain ⟨d, hd, g⟩ := GV.val1 (o := (IR.kindD S a).map fun k => IR.D.bl (ts.any (IR.tyIs k))) g
  obtain ⟨k, hk, rfl⟩ := Option.map_eq_some_iff.mp hd
  obtain ⟨h1, h2⟩ := kind_of R ra hk
  refine ⟨x, p, _, _, ns.map Value.type, _, rfl, hp, ?_, h1, kit_many h2 hn, GV.bl R g⟩
  clear hn hp
  induction ns with
  | nil => exact .nil
  | cons n ns ih => exact .cons (.ty n) ih
/-! ### truth -/
def rTruX (K : PySem.W.Frag) : V → Hp → (Bool → Hp → Prop) → Prop := fun x H Q => ∃ k, TruV K x H k ∧ Q k H
theorem truth_of (R : Rel N μ S H) (ra : RepV N μ H a x) {t : Bool} {S' : IR.Sto} (g : IR.truth a S = .ok t S') : S' = S ∧ TruV N.K x H t := by
  have emp : ∀ {l : List IR.D} {vs : List V}, Reps N μ H l vs → (!l.isEmpty) = !vs.isEmpty := fun r => by cases r <;> rfl
  cases a with
  | non => rw [ra.non]; cases g; exact ⟨rfl, rfl⟩
  | bl b => rw [ra.bl]; cases g; exact ⟨rfl, rfl⟩
  | int b => rw [ra.int]; cases g; exact ⟨rfl, rfl⟩
  | str s =>
    rw [ra.str]
    simp only [IR.truth] at g
    split at g
    · rename_i hl
      cases g
      refine ⟨rfl, by rw [sT_len]; exact line_le hl, ?_⟩
      rw [sT_len]
      cases s with
      | nil => rfl
      | cons c s => simp; omega
    · cases g
  | tup l => obtain ⟨p, vs, rfl, e, r⟩ := ra.tup; cases g; exact ⟨rfl, .inr (.inl ⟨vs, .of e, emp r⟩)⟩
  | tl l => obtain ⟨p, vs, rfl, e, _, r⟩ := ra; cases g; exact ⟨rfl, .inl ⟨vs, .of e, emp r⟩⟩
  | scr l =>
    obtain ⟨p, rfl, e⟩ := ra.scr
    cases g
    refine ⟨rfl, .inl ⟨_, e.sq, ?_⟩⟩
    cases l <;> rfl
  | ref n =>
    obtain ⟨p, rfl, hp⟩ := ra.ref
    simp only [IR.truth] at g
    split at g
    · rename_i l e
      obtain ⟨vs, e1, r⟩ := R.ob n _ p e hp
      cases g
      exact ⟨rfl, .inl ⟨vs, .of e1, emp r⟩⟩
    · rename_i kvs e
      obtain ⟨r, e1, z⟩ := R.ob n _ p e hp
      cases g
      refine ⟨rfl, .inr (.inr ⟨r, e1, ?_⟩)⟩
      cases z <;> rfl
    · cases g
  | fn n => cases g
theorem truth_noexc {c : Nat} {fs : List (Nat × IR.D)} {S' : IR.Sto} : IR.truth a S ≠ .exc c fs S' := fun h => by
  unfold IR.truth at h
  repeat' split at h
  all_goals cases h
/-- a truth is asked: the state stays; the base may be an older one -/
theorem GG.truth {μ0 : List Addr} {H0 : Hp} (R : Rel N μ S H) (ra : RepV N μ H a x) {β : Type} {f : Bool → IR.M β} {L : β → IR.Sto → List Addr → Hp → Prop} (g : GG N W μ0 H0 (((IR.truth a).bind f) S) L) : ∃ t, TruV N.K x H t ∧ GG N W μ0 H0 (f t S) L := by
  have g : GG N W μ0 H0 ((IR.truth a S).bind f) L := g
  cases e : IR.truth a S with
  | bad => rw [e] at g; exact g.elim
  | exc c fs S' => exact (truth_noexc e).elim
  | ok t S' =>
    obtain ⟨rfl, h⟩ := truth_of R ra e
    rw [e] at g
    exact ⟨t, h, g⟩
/-! ### methods of lists -/
theorem o_append (R : Rel N μ S H) (ra : RepV N μ H a x) (rb : Rep N μ H b y) (g : GV N W μ H (IR.evOp .append [a, b] S) Q) : rAppend x [y] H Q := by
  cases a <;> first | exact g.elim | skip
  rename_i n
  obtain ⟨p, rfl, hp⟩ := ra.ref
  have g : GV N W μ H (match S[n]? with
    | some (.lst l) => if l.length < IR.LINE then .ok .non (S.set n (.lst (l ++ [b]))) else .bad
    | _ => .bad) Q := g
  split at g
  · rename_i l e
    split at g
    · rename_i hl
      obtain ⟨vs, e1, r⟩ := R.ob n _ p e hp
      refine ⟨p, vs, y, rfl, rfl, e1, by rw [← r.length]; exact line_lt hl, ?_⟩
      have ex : Ext μ H μ (upd H p (.lst (vs ++ [y]))) := Ext.write hp e1 (fun _ z => nomatch z) fun _ _ z => nomatch z
      exact g μ _ ex (R.write hp ⟨_, upd_same, (r.append (.cons rb .nil)).mono ex.w⟩ ex.w) .non (Rep.non) fun _ _ z => nomatch z
    · exact g.elim
  · exact g.elim
end
end IRS

namespace IRS
open PySem PySem.Spec PyProof.Rows L2
/-- the world of a proof -/
structure Wd where
  P : Program
  w : World
  N : Nm
  mg : Str → Option Value
  base : Heap
  g : IR.G
/-- the names of a def by slots, its scope -/
structure Ctx where
  N : List Str
  sc : Scope
  fs : Str → Bool
  /-- within an except suite -/
  hot : Bool := false
/-- room, whatever is handled -/
structure RoomB (k : Nat) (A : Around) : Prop where
  dp : A.depth + 3 * k + 5 < recursionLimit
  un : A.units + 16 * k + 200 < cLine
/-- a def's own frame -/
structure Fx (X : Cx) : Prop where
  ex : X.ex = []
  st : X.stack = X.env :: X.outer
  fr : X.env.frame = some X.env.locals
/-- where an expression stands -/
structure Cm (D : Wd) (X : Cx) (c : Ctx) (k : Nat) (F : Fm) : Prop where
  prog : X.prog = D.P
  w : X.w = D.w
  K : X.K = D.N.K
  mg : X.mg = D.mg
  base : X.base = D.base
  N : X.N = c.N
  nd : c.N.Nodup
  sc : X.env.scope = c.sc
  fs : X.fn = c.fs
  kd : X.env.scope.kind = .function
  calm0 : c.hot = false → X.calm = true ∧ X.A.handled = none
  room0 : RoomB k X.A
  tk : Takes X F.W
/-- a def's promise: the small language's answer -/
def FmE (E : XK) : Fm := ⟨fun _ => True, fun _ => true, fun cls dd _ H => E cls dd H, fun _ _ _ _ _ => trivial, fun _ _ _ _ => trivial⟩
def spOf (N : Nm) (m : List IR.D → IR.M IR.D) (np : Nat) : Sp := fun vs H Q E => vs.length = np ∧ ∃ μ S ds, Rel N μ S H ∧ Reps N μ H ds vs ∧ GV N (FmE E) μ H (m ds S) Q
/-- a def of the module: its name, its number, how many parameters -/
structure FnAt (D : Wd) (k : Nat) (m : List IR.D → IR.M IR.D) (i np : Nat) (f : Addr) (fd : FuncData) (ps : List Str) : Prop where
  fnA : D.N.fnA i = some f
  kp : PySem.W.keepIn D.N.K (.ref f) = true
  hn : ps.length = np
  bi : Binds D.N.K fd ps []
  ok : FnOk D.P D.w D.N.K D.mg D.base (L2.CX D.P D.w) k f fd ps (spOf D.N m np)
theorem PE.weak {X : Cx} {e : Expr} {t t' : TE} (h : PE X e t) (w : ∀ σ H Q, t' σ H Q → t σ H Q) : PE X e t' := ⟨fun pins s σ H Q I q => h.run pins s σ H Q I (w σ H Q q)⟩
theorem PT.weak {X : Cx} {e : Expr} {t t' : TT} (h : PT X e t) (w : ∀ σ H Q, t' σ H Q → t σ H Q) : PT X e t' := ⟨fun pins s σ H Q I q => h.run pins s σ H Q I (w σ H Q q)⟩
theorem PW.weak {X : Cx} {e : Expr} {t t' : TT} (h : PW X e t) (w : ∀ σ H Q, t' σ H Q → t σ H Q) : PW X e t' := ⟨fun wh pins s σ H Q I q => h.run wh pins s σ H Q I (w σ H Q q)⟩
theorem PA.weak {X : Cx} {es : List Expr} {t t' : TA} (h : PA X es t) (w : ∀ σ H Q, t' σ H Q → t σ H Q) : PA X es t' := ⟨fun pos pins s σ H Q I q => h.run pos pins s σ H Q I (w σ H Q q)⟩
theorem PS.weak {X : Cx} {e : Stmt} {t t' : TS} (h : PS X e t) (w : ∀ D σ H, t' D σ H → t D σ H) : PS X e t' := ⟨fun pins s σ H D I q => h.run pins s σ H D I (w D σ H q)⟩
theorem PSs.weak {X : Cx} {e : List Stmt} {t t' : TS} (h : PSs X e t) (w : ∀ D σ H, t' D σ H → t D σ H) : PSs X e t' := ⟨fun pins s σ H D I q => h.run pins s σ H D I (w D σ H q)⟩
theorem PE.or {X : Cx} {e : Expr} {t t' : TE} (h : PE X e t) (h' : PE X e t') : PE X e (fun σ H Q => t σ H Q ∨ t' σ H Q) := ⟨fun pins s σ H Q I q => q.elim (h.run pins s σ H Q I) (h'.run pins s σ H Q I)⟩
section
variable {D : Wd} {X : Cx} {c : Ctx} {k : Nat} {F : Fm} {pos : Pos} {a b e : Expr} {es : List Expr} {ma mb : IR.Env → IR.M IR.D}
theorem Cm.calm (C : Cm D X c k F) (hh : c.hot = false) : X.calm = true := (C.calm0 hh).1
theorem Cm.room (C : Cm D X c k F) (hh : c.hot = false) : Room k X.A := ⟨(C.calm0 hh).2, C.room0.dp, C.room0.un⟩
theorem Cm.hu (C : Cm D X c k F) : X.A.units + 65 < cLine := by
  have := C.room0.un
  omega
/-! ### names, constants -/
theorem s_var (C : Cm D X c k F) {i : Nat} {x : Str} (hN : c.N[i]? = some x) (hv : Vis c.sc x) (hd : (x == ("__debug__" : Str)) = false) (hcd : (x == ("__classdict__" : Str)) = false) : PE X (.Name x pos) (tE D.N F fun ρ => IR.getVar ρ i) := by
  refine PE.weak (pe_var (i := i) (by rw [C.N]; exact hN) (by rw [C.sc]; exact hv) hd hcd) fun σ H Q h => ?_
  obtain ⟨μ, S, ρ, _, R, hρ, g⟩ := h
  unfold IR.getVar at g
  simp only at g
  split at g
  · rename_i d e
    obtain ⟨v, h1, h2⟩ := hρ.2 i d e
    exact ⟨v, h1, g μ H (Ext.refl μ H) R v h2.v fun l _ z _ => by subst z; cases h2⟩
  · exact g.elim
theorem s_c {d : IR.D} {v : V} (h : PE X e (tC v)) (r : ∀ μ H, Rep D.N μ H d v) : PE X e (tE D.N F fun _ => IR.M.pure d) := by
  refine PE.weak h fun σ H Q q => ?_
  obtain ⟨μ, S, ρ, _, R, hρ, g⟩ := q
  have r0 := r μ H
  exact g μ H (Ext.refl μ H) R v r0.v fun l _ z _ => by subst z; cases r0
/-! ### two operands -/
theorem two {ρ : IR.Env} {f : IR.D → IR.D → IR.M IR.D} {μ : List Addr} {S : IR.Sto} {H : Hp} {σ : L2.St} {Q : VK} {R2 : V → V → Hp → Prop} (hI : F.I σ) (R : Rel D.N μ S H) (hρ : RSt D.N μ H ρ σ)
    (g : GV D.N F μ H (((ma ρ).bind fun x => (mb ρ).bind fun y => f x y) S) Q)
    (h : ∀ μ2 S2 H2 x y x' y', Rel D.N μ2 S2 H2 → RepV D.N μ2 H2 x x' → RepV D.N μ2 H2 y y' → GV D.N F μ2 H2 (f x y S2) Q → R2 x' y' H2) :
    tE D.N F ma σ H fun x' H1 => tE D.N F mb σ H1 fun y' H2 => R2 x' y' H2 := by
  refine ⟨μ, S, ρ, hI, R, hρ, ?_⟩
  have aux : ∀ {r : IR.Res IR.D} {f : IR.D → IR.M IR.D} {Kt : VK} {μ : List Addr} {H : Hp}, GV D.N F μ H (r.bind f) Q → (∀ μ1 S1 H1 d v, Ext μ H μ1 H1 → Rel D.N μ1 S1 H1 → RepV D.N μ1 H1 d v → GV D.N F μ1 H1 (f d S1) Q → Kt v H1) → GV D.N F μ H r Kt := by
    intro r f Kt μ H g k
    cases r with
    | exc c fs S => exact g
    | bad => exact g
    | ok d S => exact fun μ' H' e R v rv tm => k μ' S H' d v e R rv (GV.base e g)
  refine aux g fun μ1 S1 H1 x x' e1 R1 rx g1 => ?_
  refine ⟨μ1, S1, ρ, hI, R1, hρ.mono e1.w, aux g1 fun μ2 S2 H2 y y' e2 R2 ry g2 => ?_⟩
  exact h μ2 S2 H2 x y x' y' R2 (rx.mono e2) ry g2
theorem one {ρ : IR.Env} {f : IR.D → IR.M IR.D} {μ : List Addr} {S : IR.Sto} {H : Hp} {σ : L2.St} {Q : VK} {R1 : V → Hp → Prop} (hI : F.I σ) (R : Rel D.N μ S H) (hρ : RSt D.N μ H ρ σ)
    (g : GV D.N F μ H (((ma ρ).bind fun x => f x) S) Q)
    (h : ∀ μ2 S2 H2 x x', Rel D.N μ2 S2 H2 → RepV D.N μ2 H2 x x' → GV D.N F μ2 H2 (f x S2) Q → R1 x' H2) :
    tE D.N F ma σ H fun x' H1 => R1 x' H1 := by
  refine ⟨μ, S, ρ, hI, R, hρ, ?_⟩
  have g : GV D.N F μ H ((ma ρ S).bind f) Q := g
  cases e : ma ρ S with
  | exc c fs S => rw [e] at g; exact g
  | bad => rw [e] at g; exact g
  | ok d S1 => rw [e] at g; exact fun μ' H' e R v rv tm => h μ' S1 H' d v R rv (GV.base e g)
/-- the arguments of an operation of two -/
theorem evs2 {g : IR.G} {call : Nat → List IR.D → IR.M IR.D} {x y : IR.E} {ρ : IR.Env} {β : Type} {f : List IR.D → IR.M β} {S : IR.Sto} :
    ((IR.evs g call (.cons false x (.cons false y .nil)) ρ).bind f) S = (((IR.ev g call x ρ).bind fun a => (IR.ev g call y ρ).bind fun b => f [a, b]) S) := by
  simp only [IR.evs, IR.ownIf, if_neg (show ¬ (false = true) by decide), IR.M.bind_assoc, IR.M.pure_bind]
theorem evs1 {g : IR.G} {call : Nat → List IR.D → IR.M IR.D} {x : IR.E} {ρ : IR.Env} {β : Type} {f : List IR.D → IR.M β} {S : IR.Sto} :
    ((IR.evs g call (.cons false x .nil) ρ).bind f) S = (((IR.ev g call x ρ).bind fun a => f [a]) S) := by
  simp only [IR.evs, IR.ownIf, if_neg (show ¬ (false = true) by decide), IR.M.bind_assoc, IR.M.pure_bind]
variable {call : Nat → List IR.D → IR.M IR.D} {x y z : IR.E} {o : IR.Op}
abbrev tV (D : Wd) (F : Fm) (call : Nat → List IR.D → IR.M IR.D) (x : IR.E) : TE := tE D.N F (IR.ev D.g call x)
theorem s_op2 {op : Operator} {r : R2} (ho : OpR X (binaryOp op) r) (ha : PE X a (tV D F call x)) (hb : PE X b (tV D F call y))
    (h : ∀ {μ S H Q p q p' q'}, Rel D.N μ S H → RepV D.N μ H p p' → RepV D.N μ H q q' → GV D.N F μ H (IR.evOp o [p, q] S) Q → r p' q' H Q) :
    PE X (.BinOp a op b pos) (tV D F call (.op o (.cons false x (.cons false y .nil)))) := by
  refine PE.weak (pe_op ho ha hb) fun σ H Q q => ?_
  obtain ⟨μ, S, ρ, hI, R, hρ, g⟩ := q
  have g : GV D.N F μ H (((IR.evs D.g call (.cons false x (.cons false y .nil)) ρ).bind fun l => IR.evOp o l) S) Q := g
  rw [evs2] at g
  exact two (f := fun a b => IR.evOp o [a, b]) hI R hρ g fun μ2 S2 H2 p q p' q' R2 rp rq g2 => h R2 rp rq g2
theorem s_un {op : UnaryOp} {r : V → Hp → VK → Prop} (ho : UnR X (unaryOp op) r) (ha : PE X a (tV D F call x))
    (h : ∀ {μ S H Q p p'}, Rel D.N μ S H → RepV D.N μ H p p' → GV D.N F μ H (IR.evOp o [p] S) Q → r p' H Q) : PE X (.UnaryOp op a pos) (tV D F call (.op o (.cons false x .nil))) := by
  refine PE.weak (pe_un ho ha) fun σ H Q q => ?_
  obtain ⟨μ, S, ρ, hI, R, hρ, g⟩ := q
  have g : GV D.N F μ H (((IR.evs D.g call (.cons false x .nil) ρ).bind fun l => IR.evOp o l) S) Q := g
  rw [evs1] at g
  exact one (f := fun a => IR.evOp o [a]) hI R hρ g fun μ2 S2 H2 p p' R2 rp g2 => h R2 rp g2
theorem s_cmp2 {op : CmpOp} {r : R2} (ho : OpR X (compareOp op) r) (ha : PE X a (tV D F call x)) (hb : PE X b (tV D F call y)) (hm : behindInMarks op b = false)
    (h : ∀ {μ S H Q p q p' q'}, Rel D.N μ S H → RepV D.N μ H p p' → RepV D.N μ H q q' → GV D.N F μ H (IR.evOp o [p, q] S) Q → r p' q' H Q) :
    PE X (.Compare a [op] [b] pos) (tV D F call (.op o (.cons false x (.cons false y .nil)))) := by
  refine PE.weak (pe_cmpR ho ha hb hm) fun σ H Q q => ?_
  obtain ⟨μ, S, ρ, hI, R, hρ, g⟩ := q
  have g : GV D.N F μ H (((IR.evs D.g call (.cons false x (.cons false y .nil)) ρ).bind fun l => IR.evOp o l) S) Q := g
  rw [evs2] at g
  exact two (f := fun a b => IR.evOp o [a, b]) hI R hρ g fun μ2 S2 H2 p q p' q' R2 rp rq g2 => h R2 rp rq g2
theorem s_ix (C : Cm D X c k F) (ha : PE X a (tV D F call x)) (hb : PE X b (tV D F call y)) (hs : PlainIx b) : PE X (.Subscript a b pos) (tV D F call (.op .ix (.cons false x (.cons false y .nil)))) := by
  refine PE.weak (pe_ix (ix_X (by have := C.hu; omega)) ha hb hs) fun σ H Q q => ?_
  obtain ⟨μ, S, ρ, hI, R, hρ, g⟩ := q
  have g : GV D.N F μ H (((IR.evs D.g call (.cons false x (.cons false y .nil)) ρ).bind fun l => IR.evOp .ix l) S) Q := g
  rw [evs2] at g
  refine two (f := fun a b => IR.evOp .ix [a, b]) hI R hρ g fun μ2 S2 H2 p q p' q' R2 rp rq g2 => ?_
  rw [C.K]
  exact o_ix R2 rp rq g2
/-! ### tests -/
abbrev tB' (D : Wd) (F : Fm) (call : Nat → List IR.D → IR.M IR.D) (x : IR.E) : TT := tT D.N F fun ρ => (IR.ev D.g call x ρ).bind IR.truth
theorem s_truth (C : Cm D X c k F) (ha : PE X a (tV D F call x)) (he : ∀ whole, isTrue a X.env whole = (do let v ← whole; standAt a.pos; holding [v] (truthy v))) : PT X a (tB' D F call x) := by
  refine PT.weak (pt_truth ha he) fun σ H Q q => ?_
  obtain ⟨μ, S, ρ, hI, R, hρ, g⟩ := q
  refine ⟨μ, S, ρ, hI, R, hρ, ?_⟩
  have g : GG D.N F μ H ((IR.ev D.g call x ρ S).bind IR.truth) fun b _ _ H' => Q b H' := g
  refine GG.imp (GG.bind g) fun d S1 μ1 H1 e1 R1 g1 v rv _ => ?_
  have g1 : GG D.N F μ1 H1 (((IR.truth d).bind IR.M.pure) S1) fun b _ _ H' => Q b H' := by rw [IR.M.bind_pure]; exact g1
  obtain ⟨t, h1, h2⟩ := GG.truth R1 rv g1
  refine ⟨t, by rw [C.K]; exact h1, ?_⟩
  exact h2 μ1 H1 (Ext.refl _ _) R1
theorem evOp_cmp {o : IR.Op} {p q : IR.D} {S S' : IR.Sto} {d : IR.D} (ho : o = .lt ∨ o = .le ∨ o = .gt ∨ o = .ge ∨ o = .eq ∨ o = .ne ∨ o = .isin ∨ o = .notin) (h : IR.evOp o [p, q] S = .ok d S') : ∃ b, d = .bl b := by
  have b1 : ∀ {x : Option Bool}, IR.bool1 x S = .ok d S' → ∃ b, d = .bl b := fun {x} h => by
    cases x with
    | none => cases h
    | some b => cases h; exact ⟨b, rfl⟩
  rcases ho with rfl | rfl | rfl | rfl | rfl | rfl | rfl | rfl
  · exact b1 h
  · cases p <;> first | (cases h; done) | (cases q <;> first | (cases h; done) | (cases h; exact ⟨_, rfl⟩))
  · cases p <;> first | (cases h; done) | (cases q <;> first | (cases h; done) | (cases h; exact ⟨_, rfl⟩))
  · cases p <;> first | (cases h; done) | (cases q <;> first | (cases h; done) | (cases h; exact ⟨_, rfl⟩))
  · exact b1 h
  · exact b1 h
  · exact b1 h
  · exact b1 h
theorem s_cmpT {op : CmpOp} {r : R2} (C : Cm D X c k F) (ho : OpR X (compareOp op) r) (ha : PE X a (tV D F call x)) (hb : PE X b (tV D F call y)) (hm : behindInMarks op b = false)
    (hc : o = .lt ∨ o = .le ∨ o = .gt ∨ o = .ge ∨ o = .eq ∨ o = .ne ∨ o = .isin ∨ o = .notin)
    (h : ∀ {μ S H Q p q p' q'}, Rel D.N μ S H → RepV D.N μ H p p' → RepV D.N μ H q q' → GV D.N F μ H (IR.evOp o [p, q] S) Q → r p' q' H Q) :
    PT X (.Compare a [op] [b] pos) (tB' D F call (.op o (.cons false x (.cons false y .nil)))) := by
  refine PT.weak (pt_cmpR ho ha hb hm) fun σ H Q q => ?_
  obtain ⟨μ, S, ρ, hI, R, hρ, g⟩ := q
  have g : GG D.N F μ H ((((IR.evs D.g call (.cons false x (.cons false y .nil)) ρ).bind fun l => IR.evOp o l).bind IR.truth) S) fun b _ _ H' => Q b H' := g
  rw [IR.M.bind_assoc, evs2] at g
  refine two (f := fun a b => IR.evOp o [a, b]) (Q := fun v H => ∃ k, v = .bl k ∧ Q k H) hI R hρ ?_ fun μ2 S2 H2 p q p' q' R2 rp rq g2 => h R2 rp rq g2
  have e : (fun a => (IR.ev D.g call y ρ).bind fun b => (IR.evOp o [a, b]).bind IR.truth) = fun a => ((IR.ev D.g call y ρ).bind fun b => IR.evOp o [a, b]).bind IR.truth := by
    funext a; rw [IR.M.bind_assoc]
  rw [e, ← IR.M.bind_assoc] at g
  have g : GG D.N F μ H ((((IR.ev D.g call x ρ).bind fun a => (IR.ev D.g call y ρ).bind fun b => IR.evOp o [a, b]) S).bind IR.truth) fun b _ _ H' => Q b H' := g
  have bl : ∀ d S', ((IR.ev D.g call x ρ).bind fun a => (IR.ev D.g call y ρ).bind fun b => IR.evOp o [a, b]) S = .ok d S' → ∃ b, d = .bl b := fun d S' h => by
    simp only [IR.M.bind] at h
    cases e1 : IR.ev D.g call x ρ S with
    | bad => rw [e1] at h; cases h
    | exc c fs S => rw [e1] at h; cases h
    | ok p S1 =>
      rw [e1] at h
      have h : (IR.ev D.g call y ρ S1).bind (fun b => IR.evOp o [p, b]) = .ok d S' := h
      cases e2 : IR.ev D.g call y ρ S1 with
      | bad => rw [e2] at h; cases h
      | exc c fs S => rw [e2] at h; cases h
      | ok q S2 =>
        rw [e2] at h
        exact evOp_cmp hc h
  generalize hr : ((IR.ev D.g call x ρ).bind fun a => (IR.ev D.g call y ρ).bind fun b => IR.evOp o [a, b]) S = r at g bl
  cases r with
  | bad => exact g
  | exc c fs S => exact g
  | ok d S' =>
    obtain ⟨b, rfl⟩ := bl d S' rfl
    exact fun μ' H' e R v rv _ => ⟨b, rv.bl, g μ' H' e R⟩
theorem s_notV (C : Cm D X c k F) (ha : PE X a (tV D F call x)) : PE X (.UnaryOp .Not a pos) (tV D F call (.not x)) := by
  refine PE.weak (pe_notT ha) fun σ H Q q => ?_
  obtain ⟨μ, S, ρ, hI, R, hρ, g⟩ := q
  have g : GV D.N F μ H (((IR.ev D.g call x ρ).bind fun d => (IR.truth d).bind fun t => IR.M.pure (.bl (!t))) S) Q := g
  refine one (f := fun d => (IR.truth d).bind fun t => IR.M.pure (.bl (!t))) hI R hρ g fun μ2 S2 H2 p p' R2 rp g2 => ?_
  obtain ⟨t, h1, h2⟩ := GG.truth R2 rp g2
  exact ⟨t, by rw [C.K]; exact h1, GV.bl R2 h2⟩
theorem s_notT (ha : PT X a (tB' D F call x)) : PT X (.UnaryOp .Not a pos) (tB' D F call (.not x)) := by
  refine PT.weak (pt_not ha) fun σ H Q q => ?_
  obtain ⟨μ, S, ρ, hI, R, hρ, g⟩ := q
  refine ⟨μ, S, ρ, hI, R, hρ, ?_⟩
  have e : (IR.ev D.g call (.not x) ρ).bind IR.truth = ((IR.ev D.g call x ρ).bind IR.truth).bind fun t => IR.M.pure (!t) := by
    simp only [IR.ev, IR.M.bind_assoc, IR.M.pure_bind]
    rfl
  dsimp only at g
  rw [e] at g
  exact GG.imp (GG.bind g) fun t S1 μ1 H1 e1 R1 g1 => g1 μ1 H1 (Ext.refl _ _) R1
theorem s_andV (C : Cm D X c k F) {rest : List Expr} (ha : PE X a (tV D F call x)) (hb : PE X (.BoolOp .And (b :: rest) pos) (tV D F call y)) : PE X (.BoolOp .And (a :: b :: rest) pos) (tV D F call (.and x y)) := by
  refine PE.weak (pe_andT ha hb) fun σ H Q q => ?_
  obtain ⟨μ, S, ρ, hI, R, hρ, g⟩ := q
  have g : GV D.N F μ H ((IR.ev D.g call x ρ S).bind fun d => (IR.truth d).bind fun t => if t then IR.ev D.g call y ρ else IR.M.pure d) Q := g
  refine ⟨μ, S, ρ, hI, R, hρ, ?_⟩
  cases e : IR.ev D.g call x ρ S with
  | bad => rw [e] at g; exact g
  | exc c fs S => rw [e] at g; exact g
  | ok d S1 =>
    rw [e] at g
    refine fun μ1 H1 e1 R1 v rv tm => ?_
    obtain ⟨t, h1, h2⟩ := GG.truth R1 rv (show GV D.N F μ H (((IR.truth d).bind fun t => if t then IR.ev D.g call y ρ else IR.M.pure d) S1) Q from g)
    refine ⟨t, by rw [C.K]; exact h1, ?_⟩
    cases t with
    | true => exact ⟨μ1, S1, ρ, hI, R1, hρ.mono e1.w, GV.base e1 h2⟩
    | false => exact h2 μ1 H1 e1 R1 v rv tm
theorem s_orV (C : Cm D X c k F) {rest : List Expr} (ha : PE X a (tV D F call x)) (hb : PE X (.BoolOp .Or (b :: rest) pos) (tV D F call y)) : PE X (.BoolOp .Or (a :: b :: rest) pos) (tV D F call (.or x y)) := by
  refine PE.weak (pe_orT ha hb) fun σ H Q q => ?_
  obtain ⟨μ, S, ρ, hI, R, hρ, g⟩ := q
  have g : GV D.N F μ H ((IR.ev D.g call x ρ S).bind fun d => (IR.truth d).bind fun t => if t then IR.M.pure d else IR.ev D.g call y ρ) Q := g
  refine ⟨μ, S, ρ, hI, R, hρ, ?_⟩
  cases e : IR.ev D.g call x ρ S with
  | bad => rw [e] at g; exact g
  | exc c fs S => rw [e] at g; exact g
  | ok d S1 =>
    rw [e] at g
    refine fun μ1 H1 e1 R1 v rv tm => ?_
    obtain ⟨t, h1, h2⟩ := GG.truth R1 rv (show GV D.N F μ H (((IR.truth d).bind fun t => if t then IR.M.pure d else IR.ev D.g call y ρ) S1) Q from g)
    refine ⟨t, by rw [C.K]; exact h1, ?_⟩
    cases t with
    | false => exact ⟨μ1, S1, ρ, hI, R1, hρ.mono e1.w, GV.base e1 h2⟩
    | true => exact h2 μ1 H1 e1 R1 v rv tm
theorem s_andT {rest : List Expr} (ha : PT X a (tB' D F call x)) (hb : PW X (.BoolOp .And (b :: rest) pos) (tB' D F call y)) : PW X (.BoolOp .And (a :: b :: rest) pos) (tB' D F call (.and x y)) := by
  refine PW.weak (pw_and ha hb) fun σ H Q q => ?_
  obtain ⟨μ, S, ρ, hI, R, hρ, g⟩ := q
  refine ⟨μ, S, ρ, hI, R, hρ, ?_⟩
  dsimp only at g
  have e : (IR.ev D.g call (.and x y) ρ).bind IR.truth = ((IR.ev D.g call x ρ).bind IR.truth).bind fun t => if t then (IR.ev D.g call y ρ).bind IR.truth else IR.M.pure false := by
    simp only [IR.ev, IR.M.bind_assoc]
    congr 1
    funext d
    funext S
    simp only [IR.M.bind]
    cases e : IR.truth d S with
    | bad => rfl
    | exc c fs S' => rfl
    | ok t S' =>
      cases t with
      | true => rfl
      | false =>
        have e2 : S' = S := IR.truth_st e
        subst e2
        simp only [IR.Res.bind, IR.M.pure, if_neg (show ¬ (false = true) by decide)]
        exact e
  rw [e] at g
  refine GG.imp (GG.bind g) fun t S1 μ1 H1 e1 R1 g1 => ?_
  cases t with
  | true => exact ⟨μ1, S1, ρ, hI, R1, hρ.mono e1.w, g1⟩
  | false => exact g1 μ1 H1 (Ext.refl _ _) R1
theorem s_orT {rest : List Expr} (ha : PT X a (tB' D F call x)) (hb : PW X (.BoolOp .Or (b :: rest) pos) (tB' D F call y)) : PW X (.BoolOp .Or (a :: b :: rest) pos) (tB' D F call (.or x y)) := by
  refine PW.weak (pw_or ha hb) fun σ H Q q => ?_
  obtain ⟨μ, S, ρ, hI, R, hρ, g⟩ := q
  refine ⟨μ, S, ρ, hI, R, hρ, ?_⟩
  dsimp only at g
  have e : (IR.ev D.g call (.or x y) ρ).bind IR.truth = ((IR.ev D.g call x ρ).bind IR.truth).bind fun t => if t then IR.M.pure true else (IR.ev D.g call y ρ).bind IR.truth := by
    simp only [IR.ev, IR.M.bind_assoc]
    congr 1
    funext d
    funext S
    simp only [IR.M.bind]
    cases e : IR.truth d S with
    | bad => rfl
    | exc c fs S' => rfl
    | ok t S' =>
      cases t with
      | false => rfl
      | true =>
        have e2 : S' = S := IR.truth_st e
        subst e2
        simp only [IR.Res.bind, IR.M.pure, if_pos]
        exact e
  rw [e] at g
  refine GG.imp (GG.bind g) fun t S1 μ1 H1 e1 R1 g1 => ?_
  cases t with
  | false => exact ⟨μ1, S1, ρ, hI, R1, hρ.mono e1.w, g1⟩
  | true => exact g1 μ1 H1 (Ext.refl _ _) R1
theorem s_ife {cE : Expr} (hc : PT X cE (tB' D F call z)) (ha : PE X a (tV D F call x)) (hb : PE X b (tV D F call y)) : PE X (.IfExp cE a b pos) (tV D F call (.ife z x y)) := by
  refine PE.weak (pe_ifExp hc ha hb) fun σ H Q q => ?_
  obtain ⟨μ, S, ρ, hI, R, hρ, g⟩ := q
  refine ⟨μ, S, ρ, hI, R, hρ, ?_⟩
  have g : GV D.N F μ H ((((IR.ev D.g call z ρ).bind IR.truth).bind fun t => if t then IR.ev D.g call x ρ else IR.ev D.g call y ρ) S) Q := by
    rw [IR.M.bind_assoc]; exact g
  have g : GV D.N F μ H ((((IR.ev D.g call z ρ).bind IR.truth) S).bind fun t => if t then IR.ev D.g call x ρ else IR.ev D.g call y ρ) Q := g
  show GG D.N F μ H (((IR.ev D.g call z ρ).bind IR.truth) S) _
  cases e : ((IR.ev D.g call z ρ).bind IR.truth) S with
  | bad => rw [e] at g; exact g
  | exc c fs S => rw [e] at g; exact g
  | ok t S1 =>
    rw [e] at g
    refine fun μ1 H1 e1 R1 => ?_
    cases t with
    | true => exact ⟨μ1, S1, ρ, hI, R1, hρ.mono e1.w, GV.base e1 g⟩
    | false => exact ⟨μ1, S1, ρ, hI, R1, hρ.mono e1.w, GV.base e1 g⟩
/-! ### arguments -/
def esOwn : IR.Es → List Bool
  | .nil => []
  | .cons o _ r => o :: esOwn r
abbrev tAs (D : Wd) (F : Fm) (call : Nat → List IR.D → IR.M IR.D) (xs : IR.Es) : TA := tA D.N F (esOwn xs) (IR.evs D.g call xs)
theorem s_nil : PA X [] (tAs D F call .nil) := by
  refine PA.weak pa_nil fun σ H Q q => ?_
  obtain ⟨μ, S, ρ, hI, R, hρ, g⟩ := q
  exact g μ H (Ext.refl _ _) R [] .nil
theorem s_cons {own : Bool} {xs : IR.Es} (ha : PE X a (tV D F call x)) (hr : PA X es (tAs D F call xs)) (hs : starEach (a :: es) X.env = (false, eval a X.env) :: starEach es X.env) : PA X (a :: es) (tAs D F call (.cons own x xs)) := by
  refine PA.weak (pa_cons ha hr hs) fun σ H Q q => ?_
  obtain ⟨μ, S, ρ, hI, R, hρ, g⟩ := q
  refine ⟨μ, S, ρ, hI, R, hρ, ?_⟩
  have g : GG D.N F μ H (((IR.ev D.g call x ρ S).bind (IR.ownIf own)).bind fun x => (IR.evs D.g call xs ρ).bind fun l => IR.M.pure (x :: l)) fun ds _ μ' H' => ∀ vs, RepOs D.N μ' H' (own :: esOwn xs) ds vs → Q vs H' := by
    have e : IR.evs D.g call (.cons own x xs) ρ S = ((IR.ev D.g call x ρ S).bind (IR.ownIf own)).bind fun x => (IR.evs D.g call xs ρ).bind fun l => IR.M.pure (x :: l) := by
      simp only [IR.evs, IR.M.bind]
      cases IR.ev D.g call x ρ S <;> rfl
    rw [← e]; exact g
  refine GG.own g fun μ1 S1 H1 d v e1 R1 rd g1 => ?_
  refine ⟨μ1, S1, ρ, hI, R1, hρ.mono e1.w, ?_⟩
  refine GG.imp (GG.bind (show GG D.N F μ1 H1 ((IR.evs D.g call xs ρ S1).bind fun l => IR.M.pure (d :: l)) _ from g1)) fun ds S2 μ2 H2 e2 R2 g2 vs rs => ?_
  exact g2 μ2 H2 (Ext.refl _ _) R2 (v :: vs) (.cons (rd.mono e2) rs)
/-- a call of values -/
theorem argsG {xs : IR.Es} {f : List IR.D → IR.M IR.D} {ρ : IR.Env} {μ : List Addr} {S : IR.Sto} {H : Hp} {σ : L2.St} {Q : VK} {R1 : List V → Hp → Prop} (hI : F.I σ) (R : Rel D.N μ S H) (hρ : RSt D.N μ H ρ σ)
    (g : GV D.N F μ H (((IR.evs D.g call xs ρ).bind f) S) Q) (h : ∀ μ2 S2 H2 ds vs, Ext μ H μ2 H2 → Rel D.N μ2 S2 H2 → RepOs D.N μ2 H2 (esOwn xs) ds vs → GV D.N F μ2 H2 (f ds S2) Q → R1 vs H2) :
    tAs D F call xs σ H R1 := by
  refine ⟨μ, S, ρ, hI, R, hρ, ?_⟩
  have g : GV D.N F μ H ((IR.evs D.g call xs ρ S).bind f) Q := g
  cases e : IR.evs D.g call xs ρ S with
  | bad => rw [e] at g; exact g
  | exc c fs S => rw [e] at g; exact g
  | ok ds S1 => rw [e] at g; exact fun μ' H' e R vs rv => h μ' S1 H' ds vs e R rv (GV.base e g)
/-- a built-in function or class of one or two arguments -/
theorem s_b {r : List V → Hp → VK → Prop} {xs : IR.Es} (h : PE X e (tCB r (tAs D F call xs))) (ho : ∀ {μ S H Q ds vs}, Rel D.N μ S H → RepOs D.N μ H (esOwn xs) ds vs → GV D.N F μ H (IR.evOp o ds S) Q → r vs H Q) : PE X e (tV D F call (.op o xs)) := by
  refine PE.weak h fun σ H Q q => ?_
  obtain ⟨μ, S, ρ, hI, R, hρ, g⟩ := q
  exact argsG (f := fun l => IR.evOp o l) hI R hρ g fun μ2 S2 H2 ds vs _ R2 rs g2 => ho R2 rs g2
theorem s_tup {xs : IR.Es} {x1} (h : PA X es (tAs D F call xs)) (ho : ∀ o ∈ esOwn xs, o = true) (hl : (esOwn xs).length ≤ 1000) : PE X (.Tuple es x1 pos) (tV D F call (.op .tup xs)) := by
  refine PE.weak (pe_tup h) fun σ H Q q => ?_
  obtain ⟨μ, S, ρ, hI, R, hρ, g⟩ := q
  refine argsG (f := fun l => IR.evOp .tup l) hI R hρ g fun μ2 S2 H2 ds vs _ R2 rs g2 => ?_
  refine ⟨by rw [rs.length.2]; exact Nat.le_trans hl (by decide), GV.newT (W := F) R2 ?_ (rs.reps ho)⟩
  have e : IR.evOp .tup ds S2 = .ok (.tup ds) S2 := by
    unfold IR.evOp
    rfl
  rw [← e]; exact g2
theorem s_lst {xs : IR.Es} (h : PA X es (tAs D F call xs)) (ho : ∀ o ∈ esOwn xs, o = true) (hl : (esOwn xs).length ≤ 1000) : PE X (.List es pos) (tV D F call (.op .lst xs)) := by
  refine PE.weak (pe_lst h) fun σ H Q q => ?_
  obtain ⟨μ, S, ρ, hI, R, hρ, g⟩ := q
  refine argsG (f := fun l => IR.evOp .lst l) hI R hρ g fun μ2 S2 H2 ds vs _ R2 rs g2 => ?_
  refine ⟨by rw [rs.length.2]; exact Nat.le_trans hl (by decide), GV.newL (W := F) R2 ?_ (rs.reps ho)⟩
  have e : IR.evOp .lst ds S2 = .ok (.tl ds) S2 := by
    unfold IR.evOp
    rfl
  rw [← e]; exact g2
/-- a call of a def -/
theorem gv_call {μ : List Addr} {H : Hp} {r : IR.Res IR.D} {Q : VK} {σ : L2.St} (hI : F.I σ) (g : GV D.N F μ H r Q) : GV D.N (FmE (WE F.W σ)) μ H r Q := by
  cases r with
  | bad => exact g
  | ok d S => exact g
  | exc c fs S => exact fun μ' H' cls dd e R x nw _ _ => g μ' H' cls dd e R x nw σ hI
theorem s_call (C : Cm D X c k F) {f : Addr} {fd : FuncData} {ps : List Str} {i np : Nat} {n : Str} {p : Pos} {xs : IR.Es} (A : FnAt D k (call i) i np f fd ps) (hg : Gl X n) (hm : D.mg n = some (.ref f)) (ha : PA X (e :: es) (tAs D F call xs))
    (ho : ∀ o ∈ esOwn xs, o = true) (hl : (esOwn xs).length = np) (hdb : (n == ("__debug__" : Str)) = false) (he : starEach (e :: es) X.env = (false, eval e X.env) :: starEach es X.env) (hpl : (backTo pos (starEach es X.env)).any (·.1) = false) (hh : c.hot = false := by rfl) :
    PE X (.Call (.Name n p) (e :: es) [] pos) (tV D F call (.call i xs)) := by
  have ok : FnOk X.prog X.w X.K X.mg X.base (L2.CX X.prog X.w) k f fd ps (spOf D.N (call i) np) := by rw [C.prog, C.w, C.K, C.mg, C.base]; exact A.ok
  refine PE.weak (pe_callS ok (C.room hh) hg (by rw [C.mg]; exact hm) (by rw [C.K]; exact A.kp) (by rw [C.K]; exact A.bi) (fun σ => passAt C.tk σ) ha hdb he hpl) fun σ H Q q => ?_
  obtain ⟨μ, S, ρ, hI, R, hρ, g⟩ := q
  refine argsG (f := fun l => call i l) hI R hρ g fun μ2 S2 H2 ds vs _ R2 rs g2 => ?_
  exact ⟨by rw [rs.length.2]; exact hl, μ2, S2, ds, R2, rs.reps ho, gv_call hI g2⟩
end
end IRS

namespace IRS
open PySem PySem.Spec PyProof.Rows L2
/-- what is known of the defs and classes at a level -/
structure Kn (D : Wd) (k : Nat) (call : Nat → List IR.D → IR.M IR.D) (mname : List (Str × Nat)) : Prop where
  cls : ∀ c C, D.N.clA c = some C → Cls D.N.K C ∧ ∀ n ∈ D.N.fld, NoAttr D.N.K C n
  meth : ∀ c C cl m i n np, D.N.clA c = some C → D.g.cls c = some cl → cl.ms.lookup m = some i → mname[m]? = some (n, np) → ∃ f fd ps, Meth D.N.K C n f ∧ FnAt D k (call i) i np f fd ps
  sep : ∀ p ∈ mname, p.1 ∉ D.N.fld
  fnd : D.N.fld.Nodup
theorem Rel.fresh_of {N : Nm} {μ : List Addr} {S : IR.Sto} {H H1 : Hp} {p : Addr} (_ : Rel N μ S H) (h : H1 p = none) (R1 : Rel N μ S H1) : p ∉ μ := R1.fresh h
section
variable {D : Wd} {X : Cx} {c : Ctx} {k : Nat} {F : Fm} {pos : Pos} {a b e o : Expr} {es : List Expr} {ma mb : IR.Env → IR.M IR.D} {call : Nat → List IR.D → IR.M IR.D} {x y z : IR.E} {mname : List (Str × Nat)}
theorem one' {ρ : IR.Env} {β : Type} {f : IR.D → IR.M β} {L : β → IR.Sto → List Addr → Hp → Prop} {μ : List Addr} {S : IR.Sto} {H : Hp} {σ : L2.St} {R1 : V → Hp → Prop} (hI : F.I σ) (R : Rel D.N μ S H) (hρ : RSt D.N μ H ρ σ)
    (g : GG D.N F μ H (((ma ρ).bind fun x => f x) S) L)
    (h : ∀ μ2 S2 H2 x x', Ext μ H μ2 H2 → Rel D.N μ2 S2 H2 → RepV D.N μ2 H2 x x' → Tmp H x x' → GG D.N F μ H (f x S2) L → R1 x' H2) :
    tE D.N F ma σ H fun x' H1 => R1 x' H1 := by
  refine ⟨μ, S, ρ, hI, R, hρ, ?_⟩
  have g : GG D.N F μ H ((ma ρ S).bind f) L := g
  cases e : ma ρ S with
  | exc c fs S => rw [e] at g; exact g
  | bad => rw [e] at g; exact g
  | ok d S1 => rw [e] at g; exact fun μ' H' e R v rv tm => h μ' S1 H' d v e R rv tm g
/-! ### fields -/
theorem FR.get {N : Nm} {μ : List Addr} {H : Hp} (nd : N.fld.Nodup) : ∀ {r : List (Nat × IR.D)} {r' : List (Str × V)} {f : Nat} {n : Str}, FR N μ H r r' → N.fld[f]? = some n →
    (r.lookup f = none ∧ r'.lookup n = none) ∨ ∃ d v, r.lookup f = some d ∧ r'.lookup n = some v ∧ Rep N μ H d v
  | _, _, _, _, .nil, _ => .inl ⟨rfl, rfl⟩
  | _, _, f, n, .cons (k := k) (n := n') (d := d) (v := v) hk hd t, hf => by
    by_cases e : k = f
    · subst e
      rw [hf] at hk; cases hk
      refine .inr ⟨d, v, ?_, ?_, hd⟩ <;> simp [List.lookup]
    · have e2 : n' ≠ n := fun z => by
        subst z
        have l1 := (List.getElem?_eq_some_iff.mp hk)
        have l2 := (List.getElem?_eq_some_iff.mp hf)
        exact e ((List.getElem_inj nd).mp (l1.2.trans l2.2.symm))
      rcases FR.get nd t hf with ⟨h1, h2⟩ | ⟨d', v', h1, h2, h3⟩
      · refine .inl ⟨?_, ?_⟩
        · rw [List.lookup_cons, show (f == k) = false from by simpa using Ne.symm e]; exact h1
        · rw [List.lookup_cons, show (n == n') = false from by simpa using Ne.symm e2]; exact h2
      · refine .inr ⟨d', v', ?_, ?_, h3⟩
        · rw [List.lookup_cons, show (f == k) = false from by simpa using Ne.symm e]; exact h1
        · rw [List.lookup_cons, show (n == n') = false from by simpa using Ne.symm e2]; exact h2
theorem FR.no {N : Nm} {μ : List Addr} {H : Hp} {n : Str} (hn : n ∉ N.fld) : ∀ {r : List (Nat × IR.D)} {r' : List (Str × V)}, FR N μ H r r' → r'.lookup n = none
  | _, _, .nil => rfl
  | _, _, .cons (n := n') hk hd t => by
    rw [List.lookup_cons, show (n == n') = false from by simpa using fun z : n = n' => hn (by rw [z]; exact List.mem_of_getElem? hk)]
    exact FR.no hn t
theorem FR.put {N : Nm} {μ : List Addr} {H : Hp} (nd : N.fld.Nodup) {f : Nat} {n : Str} {d : IR.D} {v : V} (hf : N.fld[f]? = some n) (hd : Rep N μ H d v) : ∀ {r : List (Nat × IR.D)} {r' : List (Str × V)}, FR N μ H r r' → FR N μ H (IR.fPut r f d) (putF n v r')
  | _, _, .nil => .cons hf hd .nil
  | _, _, .cons (k := k) (n := n') (d := d') (v := v') (r := r) (r' := r') hk hd' t => by
    by_cases e : k = f
    · subst e
      rw [hf] at hk; cases hk
      have e1 : putF n v ((n, v') :: r') = (n, v) :: r' := by simp [putF]
      rw [e1]
      simp only [IR.fPut, if_pos]
      exact .cons hf hd t
    · have e2 : n' ≠ n := fun z => by
        subst z
        have l1 := (List.getElem?_eq_some_iff.mp hk)
        have l2 := (List.getElem?_eq_some_iff.mp hf)
        exact e ((List.getElem_inj nd).mp (l1.2.trans l2.2.symm))
      have e1 : putF n v ((n', v') :: r') = (n', v') :: putF n v r' := by simp [putF, e2]
      rw [e1]
      simp only [IR.fPut, if_neg e]
      exact .cons hk hd' (FR.put nd hf hd t)
theorem s_attr (C : Cm D X c k F) (Kk : Kn D k call mname) {f : Nat} {n : Str} (hf : D.N.fld[f]? = some n) (ha : PE X e (tV D F call x)) (hb : attributeBase e n X.env (eval e X.env) = eval e X.env) : PE X (.Attribute e n pos) (tV D F call (.op (.attr f) (.cons false x .nil))) := by
  refine PE.weak (pe_fld ha hb) fun σ H Q q => ?_
  obtain ⟨μ, S, ρ, hI, R, hρ, g⟩ := q
  have g : GV D.N F μ H (((IR.evs D.g call (.cons false x .nil) ρ).bind fun l => IR.evOp (.attr f) l) S) Q := g
  rw [evs1] at g
  refine one (f := fun a => IR.evOp (.attr f) [a]) hI R hρ g fun μ2 S2 H2 p p' R2 rp g2 => ?_
  cases p <;> first | exact g2.elim | skip
  rename_i r
  obtain ⟨a, rfl, hp⟩ := rp.ref
  have g2 : GV D.N F μ2 H2 (match S2[r]? with
    | some (.ins _ fs) => IR.val1 (fs.lookup f) S2
    | _ => .bad) Q := g2
  split at g2
  · rename_i cc fs e
    obtain ⟨Ca, dx, r', hc, e1, fr⟩ := R2.ob r _ a e hp
    obtain ⟨h1, h2⟩ := Kk.cls cc Ca hc
    obtain ⟨d, hd, g3⟩ := GV.val1 g2
    rcases fr.get Kk.fnd hf with ⟨z1, _⟩ | ⟨d', v, z1, z2, z3⟩
    · rw [hd] at z1; cases z1
    · rw [hd] at z1; cases z1
      refine ⟨a, Ca, dx, r', v, rfl, e1, by rw [C.K]; exact h1, by rw [C.K]; exact h2 n (List.mem_of_getElem? hf), z2, ?_⟩
      exact g3.here R2 z3 fun l z => by subst z; cases z3
  · exact g2.elim
/-! ### methods -/
theorem meth_eval {env : Env} {m : Str} {apos : Pos} {args : List Expr} (hbase : attributeBase o m env (eval o env) = eval o env) (hfew : methodCallForm args.length (backTo pos (starEach args env)) [] = true) (hline : (apos.endLine == pos.line) = true) :
    eval (.Call (.Attribute o m apos) args [] pos) env = (do
      let ov ← eval o env
      standAt apos.atName
      let (f, first) ← holding [ov] (getMethod ov m (do return (← importBound o env).getD true))
      callWith pos f first (backTo pos (starEach args env)) (backToKw pos (keywordEach [] env))) := by
  have hfew : methodCallForm (args.length + ([] : List Keyword).length) (backTo pos (starEach args env)) (backToKw pos (keywordEach [] env)) = true := hfew
  rw [arm_eval_Call, hbase]
  unfold methodCall
  rw [hfew]
  unfold calleeOf methodCallPos
  simp only [hline, Bool.not_true, Bool.false_or, if_true, pure_bind]
theorem s_meth (C : Cm D X c k F) (Kk : Kn D k call mname) {m np : Nat} {n : Str} {apos : Pos} {xs : IR.Es} (hm : mname[m]? = some (n, np)) (ho : PE X o (tV D F call x)) (ha : PA X es (tAs D F call xs)) (hown : ∀ o ∈ esOwn xs, o = true)
    (hbase : attributeBase o n X.env (eval o X.env) = eval o X.env) (hfew : methodCallForm es.length (backTo pos (starEach es X.env)) [] = true) (hline : (apos.endLine == pos.line) = true)
    (hnp : (esOwn xs).length + 1 = np)
    (hnil : es = [] → xs = .nil) (he : ∀ e r, es = e :: r → starEach (e :: r) X.env = (false, eval e X.env) :: starEach r X.env ∧ (backTo pos (starEach r X.env)).any (·.1) = false) (hh : c.hot = false := by rfl) :
    PE X (.Call (.Attribute o n apos) es [] pos) (tV D F call (.meth m x xs)) := by
  refine ⟨fun pins s σ H Q I q => ?_⟩
  obtain ⟨μ, S, ρ, hI, R, hρ, g⟩ := q
  refine PySem.W.methodCall_KW (thn (ho.run pins s σ H (fun v H1 => ∃ μ1 S1 d i, Rel D.N μ1 S1 H1 ∧ RSt D.N μ1 H1 ρ σ ∧ RepV D.N μ1 H1 d v ∧ IR.methOf D.g S1 m d = some i ∧ GV D.N F μ1 H1 (((IR.evs D.g call xs ρ).bind fun l => call i (d :: l)) S1) Q) I ?_) fun u s1 ⟨v, H1, I1, rv, μ1, S1, d, i, R1, hρ1, rd, hi, g1⟩ => ?_) (meth_eval hbase hfew hline)
  · refine one' (f := fun d => (IR.methM D.g m d).bind fun f => (IR.evs D.g call xs ρ).bind fun l => call f (d :: l)) hI R hρ g fun μ2 S2 H2 p p' e2 R2 rp _ g2 => ?_
    have g2 : GV D.N F μ H ((IR.methM D.g m p S2).bind fun f => (IR.evs D.g call xs ρ).bind fun l => call f (p :: l)) Q := g2
    unfold IR.methM at g2
    cases e : IR.methOf D.g S2 m p with
    | none => rw [e] at g2; exact g2.elim
    | some i => rw [e] at g2; exact ⟨μ2, S2, p, i, R2, hρ.mono e2.w, rp, e, GV.base e2 g2⟩
  · unfold IR.methOf at hi
    split at hi
    · rename_i r
      split at hi
      · rename_i cc fs e
        obtain ⟨cl, hcl, hml⟩ := Option.bind_eq_some_iff.mp hi
        obtain ⟨a, rfl, hp⟩ := rd.ref
        obtain ⟨Ca, dx, r', hc, e1, fr⟩ := R1.ob r _ a e hp
        obtain ⟨f, fd, ps, hM, A⟩ := Kk.meth cc Ca cl m i n np hc hcl hml hm
        obtain ⟨h1, _⟩ := Kk.cls cc Ca hc
        obtain rfl : u = Value.ref a := rv
        have ok : FnOk X.prog X.w X.K X.mg X.base (L2.CX X.prog X.w) k f fd ps (spOf D.N (call i) np) := by rw [C.prog, C.w, C.K, C.mg, C.base]; exact A.ok
        refine getmeth_ok I1 e1 (by rw [C.K]; exact h1) (by rw [C.K]; exact hM) (fr.no (Kk.sep _ (List.mem_of_getElem? hm))) ?_
        have kp : PySem.W.keepIn X.K (.ref f) = true := by rw [C.K]; exact hM.kp
        have bi : Binds X.K fd ps [] := by rw [C.K]; exact A.bi
        cases es with
        | nil =>
          have e3 := hnil rfl
          subst e3
          refine PySem.W.callWith_K0 (first := [.ref a]) I1.kIn kp ?_
          refine run_fnS (us := [.ref a]) (vs := [.ref a]) (E := WE F.W) ok (C.room hh) bi (passAt C.tk σ) I1 (.cons rfl .nil) ?_
          exact ⟨by rw [← hnp]; rfl, μ1, S1, [.ref r], R1, .cons (.ref hp) .nil, gv_call hI g1⟩
        | cons e r' =>
          obtain ⟨z1, z2⟩ := he e r' rfl
          have q : tAs D F call xs σ H1 fun vs H2 => spOf D.N (call i) np (.ref a :: vs) H2 Q (WE F.W σ) := argsG (f := fun l => call i (.ref r :: l)) hI R1 hρ1 g1 fun μ2 S2 H2 ds vs e2 R2 rs g2 =>
            ⟨by rw [List.length_cons, rs.length.2]; omega, μ2, S2, .ref r :: ds, R2, .cons (.ref (prefix_get e2.pre hp)) (rs.reps hown), gv_call hI g2⟩
          refine PySem.W.callWith_K (first := [.ref a]) (h₀ := X.base) I1.ok.mod.kin kp (thn (ha.run pos pins s1 σ H1 _ I1 q) fun us s2 ⟨vs, H2, I2, r2, q2⟩ => ⟨I2.kIn, ?_⟩) z1 z2
          exact run_fnS (us := .ref a :: us) (vs := .ref a :: vs) (E := WE F.W) ok (C.room hh) bi (passAt C.tk σ) I2 (.cons rfl r2) q2
      · cases hi
    · cases hi
/-! ### a new one of a class -/
theorem run_makeS {pins : List (Addr × Obj)} {σ : L2.St} {H : Hp} {s : Shared} {Q : VK} {us : List Value} {vs : List V} {CX : CXT} {k : Nat} {f Ca : Addr} {fd : FuncData} {ps : List Str} {sp : Sp} {E : XK} (M : Mk X.K Ca f) (F : FnOk X.prog X.w X.K X.mg X.base CX k f fd ps sp) (hr : Room (k + 1) X.A) (hb : Binds X.K fd ps [])
    (hx : PassesAt CX X σ E) (I : Inv X pins σ H s) (r : Vals vs us)
    (h : ∀ x dx, H x = none → H dx = none → dx ≠ x → sp (.ref x :: vs) (upd (upd H dx (.own x)) x (.ins Ca dx [])) (fun v H2 => v = .non ∧ Q (.ref x) H2) E) :
    wpAny (model X.prog X.w) X.A (PySem.call (.ref Ca) us) (EP X pins σ Q) X.xe s := by
  have hq := h (s.heap.objs.size + 1) s.heap.objs.size (I.hok.fresh (Nat.le_succ _)) (I.hok.fresh (Nat.le_refl _)) (Nat.ne_of_lt (Nat.lt_succ_self _))
  have I2 := Inv.made (C := Ca) I
  have r2 : Vals (V.ref (s.heap.objs.size + 1) :: vs) (Value.ref (s.heap.objs.size + 1) :: us) := .cons rfl r
  have hl : (Value.ref (s.heap.objs.size + 1) :: us ++ []).length = ps.length := by
    have e := r2.length
    rw [F.len _ _ _ _ hq] at e
    rw [List.append_nil]
    exact e.symm
  have hb2 := hb _ (Value.ref (s.heap.objs.size + 1) :: us) I2.kIn hl
  rw [List.append_nil] at hb2
  refine wpAny_call (make_map (f := f) I.kIn M.makes M.init (beq_iff_eq.mp M.fn) (codeAny_mono (F.run _ X.stack _ _ ⟨Value.ref (s.heap.objs.size + 1) :: us, []⟩ (Value.ref (s.heap.objs.size + 1) :: us) _ _ E (hr.make Ca us [])
    (I2.env0.make Ca us []) hb2 r2 hq) fun r s' hq' => ?_))
  cases r with
  | error e => exact hx pins _ _ e s' I2 hq'
  | ok fl =>
    cases fl with
    | ret u =>
      obtain ⟨v, H', I3, rv, ev, q3⟩ := I2.after hq'
      subst ev
      exact ⟨rv, ⟨V.ref (s.heap.objs.size + 1), H', I3, rfl, q3⟩⟩
    | next => exact False.elim hq'
    | brk => exact False.elim hq'
    | cont => exact False.elim hq'
theorem s_new (C : Cm D X c (k + 1) F) {cc : Nat} {cl : IR.Cl} {Ca f : Addr} {fd : FuncData} {ps : List Str} {np : Nat} {n : Str} {p : Pos} {xs : IR.Es} (hcl : D.g.cls cc = some cl) (hC : D.N.clA cc = some Ca) (M : Mk D.N.K Ca f) (A : FnAt D k (call cl.init) cl.init np f fd ps)
    (hg : Gl X n) (hm : D.mg n = some (.ref Ca)) (ha : PA X (e :: es) (tAs D F call xs)) (ho : ∀ o ∈ esOwn xs, o = true) (hl : (esOwn xs).length + 1 = np) (hdb : (n == ("__debug__" : Str)) = false)
    (he : starEach (e :: es) X.env = (false, eval e X.env) :: starEach es X.env) (hpl : (backTo pos (starEach es X.env)).any (·.1) = false) (hh : c.hot = false := by rfl) :
    PE X (.Call (.Name n p) (e :: es) [] pos) (tV D F call (.new cc xs)) := by
  have ok : FnOk X.prog X.w X.K X.mg X.base (L2.CX X.prog X.w) k f fd ps (spOf D.N (call cl.init) np) := by rw [C.prog, C.w, C.K, C.mg, C.base]; exact A.ok
  have M' : Mk X.K Ca f := by rw [C.K]; exact M
  have bi : Binds X.K fd ps [] := by rw [C.K]; exact A.bi
  refine ⟨fun pins s σ H Q I q => ?_⟩
  obtain ⟨μ, S, ρ, hI, R, hρ, g⟩ := q
  refine wpAny_Call_Name_kw (ld_glob I hg (by rw [C.mg]; exact hm) ?_ hdb)
  have q : tAs D F call xs σ H fun vs H1 => ∃ μ1 S1 ds, Rel D.N μ1 S1 H1 ∧ Reps D.N μ1 H1 ds vs ∧ vs.length + 1 = np ∧ GV D.N F μ1 H1 (IR.runNew D.g call cc ds S1) Q :=
    argsG (f := fun l => IR.runNew D.g call cc l) hI R hρ g fun μ2 S2 H2 ds vs e2 R2 rs g2 => ⟨μ2, S2, ds, R2, rs.reps ho, by rw [rs.length.2]; exact hl, g2⟩
  refine PySem.W.callWith_K (h₀ := X.base) I.ok.mod.kin M'.kp (thn (ha.run pos pins s σ H _ I q) fun us s1 ⟨vs, H1, I1, r, μ1, S1, ds, R1, rs, hlen, g1⟩ => ⟨I1.kIn, ?_⟩) he hpl
  refine run_makeS (E := WE F.W σ) M' ok (C.room hh) bi (passAt C.tk σ) I1 r fun xa dx hx hdx hne => ?_
  refine ⟨by rw [List.length_cons]; exact hlen, ?_⟩
  have e1 : Ext μ1 H1 μ1 (upd H1 dx (.own xa)) := Ext.laid hdx
  have hx2 : (upd H1 dx (.own xa)) xa = none := by rw [upd_ne (Ne.symm hne)]; exact hx
  have e2 : Ext μ1 H1 μ1 (upd (upd H1 dx (.own xa)) xa (.ins Ca dx [])) := e1.trans (Ext.laid hx2)
  have R2 : Rel D.N μ1 S1 (upd (upd H1 dx (.own xa)) xa (.ins Ca dx [])) := (R1.laid hdx).laid hx2
  have e3 : Ext μ1 H1 (μ1 ++ [xa]) (upd (upd H1 dx (.own xa)) xa (.ins Ca dx [])) := e2.add hx
  have R3 : Rel D.N (μ1 ++ [xa]) (S1 ++ [.ins cc []]) (upd (upd H1 dx (.own xa)) xa (.ins Ca dx [])) := R2.add (R2.fresh_of hx R1) ⟨Ca, dx, [], hC, upd_same, .nil⟩
  have hat : (μ1 ++ [xa])[S1.length]? = some xa := by rw [← R1.len]; simp
  refine ⟨_, _, .ref S1.length :: ds, R3, .cons (.ref hat) (rs.mono e3.w), ?_⟩
  unfold IR.runNew at g1
  rw [hcl] at g1
  have g2 : GV D.N F (μ1 ++ [xa]) (upd (upd H1 dx (.own xa)) xa (.ins Ca dx [])) ((call cl.init (.ref S1.length :: ds) (S1 ++ [.ins cc []])).bind fun r => match r with
    | .non => IR.M.pure (.ref S1.length)
    | _ => IR.M.bad) Q := GV.base e3 g1
  cases er : call cl.init (.ref S1.length :: ds) (S1 ++ [.ins cc []]) with
  | bad => rw [er] at g2; exact g2
  | exc c fs S => rw [er] at g2; exact fun μ' H' cls dd e R x nw _ _ => g2 μ' H' cls dd e R x nw σ hI
  | ok d S2 =>
    rw [er] at g2
    cases d <;> first | exact g2.elim | skip
    refine fun μ' H' e R v rv _ => ⟨rv.non, ?_⟩
    exact g2 μ' H' e R (.ref xa) (Rep.ref (prefix_get e.pre hat)) fun _ _ z => nomatch z
end
end IRS

namespace IRS
open PySem PySem.Spec PyProof.Rows L2 RZ RT
/-! ### what is walked -/
theorem pi_overX {X : Cx} {tg e : Expr} {te : TE} (he : PE X e te) : PI X tg e (fun σ H R => te σ H fun x H1 => (∃ a xs, x = .ref a ∧ SqL X.K H1 a xs ∧ R (Itl X.K a) H1) ∨ (∃ a xs, x = .ref a ∧ SqT X.K H1 a xs ∧ R (Itt X.K a) H1) ∨ ∃ z, x = .str z ∧ R (Its z) H1) := by
  refine ⟨fun pins s σ H R I h => ?_⟩
  refine thn (he.run pins s σ H _ I h) fun v s1 ⟨x, H1, I1, r1, q1⟩ => ?_
  rcases q1 with ⟨a, xs, rfl, hq, q⟩ | ⟨a, xs, rfl, hq, q⟩ | ⟨z, rfl, q⟩
  · cases r1
    obtain ⟨its, rv, p, hz⟩ := I1.list hq
    refine wpAny_pyIter_list p.isList ?_
    refine ⟨s1.heap.objs.size, [s1.heap.objs.size], _, _, H1, rfl, I1.kept (t' := s1.toks) fun b o e => Heap.get?_push_of_some _ e, turn_list a _, ⟨_, Heap.get?_push_size _ rfl, rfl, rfl⟩, fun b hb => ?_, q⟩
    have e : b = s1.heap.objs.size := by simpa using hb
    subst e
    exact I1.fpOk (Nat.le_refl _) (I1.hok.fresh (Nat.le_refl _))
  · cases r1
    obtain ⟨its, rv, p, hz⟩ := I1.tuple hq
    refine wpAny_pyIter_tuple (show s1.heap.IsTuple a its.toArray from p) ?_
    refine ⟨s1.heap.objs.size, [s1.heap.objs.size], _, _, H1, rfl, I1.kept (t' := s1.toks) fun b o e => Heap.get?_push_of_some _ e, turn_tuple a _, ⟨_, Heap.get?_push_size _ rfl, rfl, rfl⟩, fun b hb => ?_, q⟩
    have e : b = s1.heap.objs.size := by simpa using hb
    subst e
    exact I1.fpOk (Nat.le_refl _) (I1.hok.fresh (Nat.le_refl _))
  · obtain ⟨t, rfl⟩ := r1
    cases ha : z.cps.all (· < 128)
    · exact wpAny_pyIter_wide ha (pi_one (tk := s1.toks) I1 _ (turn_str _ z t "str_iterator" (.inr rfl)) ⟨_, Heap.get?_push_size _ rfl, rfl, rfl⟩ q)
    · exact wpAny_pyIter_ascii ha (pi_one (tk := s1.toks) I1 _ (turn_str _ z t "str_ascii_iterator" (.inl rfl)) ⟨_, Heap.get?_push_size _ rfl, rfl, rfl⟩ q)
/-- the turns of J are the items l, whatever comes -/
def Fol (N : Nm) (μ1 : List Addr) (H1 : Hp) (J : It) (l : List IR.D) : Prop := ∀ μ' S' H', Ext μ1 H1 μ' H' → Rel N μ' S' H' → ∀ (i : Nat),
  (∀ d, l[i]? = some d → J.go i H' ∧ ∀ x H'', J.yld i H' x H'' → Ext μ' H' μ' H'' ∧ Rel N μ' S' H'' ∧ Rep N μ' H'' d x) ∧ (l.length ≤ i → J.stop i H')
/-- the turns of J are the items of the list object n, as it stands -/
def FolR (N : Nm) (μ1 : List Addr) (H1 : Hp) (J : It) (en : Bool) (n : Nat) : Prop := ∀ μ' S' H' l, Ext μ1 H1 μ' H' → Rel N μ' S' H' → S'[n]? = some (.lst l) → ∀ (i : Nat),
  (∀ d, l[i]? = some d → J.go i H' ∧ ∀ x H'', J.yld i H' x H'' → Ext μ' H' μ' H'' ∧ Rel N μ' S' H'' ∧ Rep N μ' H'' (if en then .tup [.int i, d] else d) x) ∧ (l.length ≤ i → J.stop i H')
section
variable {N : Nm} {μ1 : List Addr} {H1 : Hp} {S1 : IR.Sto}
theorem here' {μ' : List Addr} {S' : IR.Sto} {H' H'' : Hp} (R : Rel N μ' S' H') (e : H'' = H') : Ext μ' H' μ' H'' ∧ Rel N μ' S' H'' := by subst e; exact ⟨Ext.refl _ _, R⟩
theorem fol_lst {l : List IR.D} {a : Addr} {vs : List V} (h : ∀ μ' S' H', Ext μ1 H1 μ' H' → Rel N μ' S' H' → SqL N.K H' a vs ∧ Reps N μ' H' l vs) : Fol N μ1 H1 (Itl N.K a) l := by
  intro μ' S' H' e R i
  obtain ⟨h1, h2⟩ := h μ' S' H' e R
  refine ⟨fun d hd => ?_, fun hi => ⟨vs, h1, by rw [← h2.length]; exact hi⟩⟩
  obtain ⟨v, hv, q⟩ := h2.get hd
  refine ⟨⟨vs, v, h1, hv⟩, fun x H'' y => ?_⟩
  obtain ⟨rfl, y⟩ := y
  have := y vs h1
  rw [hv] at this; cases this
  exact ⟨Ext.refl _ _, R, q⟩
theorem fol_tup {l : List IR.D} {a : Addr} {vs : List V} (h1 : H1 a = some (.tup vs)) (h2 : Reps N μ1 H1 l vs) : Fol N μ1 H1 (Itt N.K a) l := by
  intro μ' S' H' e R i
  have h1' : SqT N.K H' a vs := .of (e.tup _ _ h1)
  have h2' := h2.mono e.w
  refine ⟨fun d hd => ?_, fun hi => ⟨vs, h1', by rw [← h2'.length]; exact hi⟩⟩
  obtain ⟨v, hv, q⟩ := h2'.get hd
  refine ⟨⟨vs, v, h1', hv⟩, fun x H'' y => ?_⟩
  obtain ⟨rfl, y⟩ := y
  have := y vs h1'
  rw [hv] at this; cases this
  exact ⟨Ext.refl _ _, R, q⟩
theorem fol_str {t : IR.Txt} : Fol N μ1 H1 (Its (sT t)) (t.map fun c => .str [c]) := by
  intro μ' S' H' e R i
  refine ⟨fun d hd => ?_, fun hi => ?_⟩
  · rw [List.getElem?_map] at hd
    obtain ⟨c, hc, rfl⟩ := Option.map_eq_some_iff.mp hd
    have hl := (List.getElem?_eq_some_iff.mp hc).1
    refine ⟨by show i < (sT t).cps.size; simpa [sT] using hl, fun x H'' y => ?_⟩
    obtain ⟨rfl, c', h1, rfl⟩ := y
    have : (sT t).cps[i]? = t[i]? := by simp [sT]
    rw [this, hc] at h1; cases h1
    exact ⟨Ext.refl _ _, R, .str [c]⟩
  · show (sT t).cps.size ≤ i
    simpa [sT] using hi
theorem fol_rng {lo hi : Int} : Fol N μ1 H1 (Itr lo (hi - lo).toNat) (IR.rg lo hi) := by
  intro μ' S' H' e R i
  unfold IR.rg
  refine ⟨fun d hd => ?_, fun h => by show (hi - lo).toNat ≤ i; simp only [List.length_map, List.length_range] at h; exact h⟩
  rw [List.getElem?_map] at hd
  obtain ⟨k, hk, rfl⟩ := Option.map_eq_some_iff.mp hd
  obtain ⟨hl, hk⟩ := List.getElem?_eq_some_iff.mp hk
  rw [List.getElem_range] at hk
  subst hk
  refine ⟨by show i < (hi - lo).toNat; rw [List.length_range] at hl; exact hl, fun x H'' y => ?_⟩
  obtain ⟨rfl, rfl⟩ := y
  exact ⟨Ext.refl _ _, R, .int _⟩
theorem folR_lst {n : Nat} {a : Addr} (hn : μ1[n]? = some a) : FolR N μ1 H1 (Itl N.K a) false n := by
  intro μ' S' H' l e R hl i
  obtain ⟨vs, h1, h2⟩ := R.ob n _ a hl (prefix_get e.pre hn)
  have h1' : SqL N.K H' a vs := .of h1
  refine ⟨fun d hd => ?_, fun hi => ⟨vs, h1', by rw [← h2.length]; exact hi⟩⟩
  obtain ⟨v, hv, q⟩ := h2.get hd
  refine ⟨⟨vs, v, h1', hv⟩, fun x H'' y => ?_⟩
  obtain ⟨rfl, y⟩ := y
  have := y vs h1'
  rw [hv] at this; cases this
  exact ⟨Ext.refl _ _, R, by simpa using q⟩
theorem folR_enum {n : Nat} {a : Addr} (hn : μ1[n]? = some a) : FolR N μ1 H1 (Ite N.K a) true n := by
  intro μ' S' H' l e R hl i
  obtain ⟨vs, h1, h2⟩ := R.ob n _ a hl (prefix_get e.pre hn)
  have h1' : SqL N.K H' a vs := .of h1
  refine ⟨fun d hd => ?_, fun hi => ⟨vs, h1', by rw [← h2.length]; exact hi⟩⟩
  obtain ⟨v, hv, q⟩ := h2.get hd
  refine ⟨⟨vs, v, h1', hv⟩, fun x H'' y => ?_⟩
  obtain ⟨T, z, rfl, hT, rfl, y⟩ := y
  have := y vs h1'
  rw [hv] at this; cases this
  refine ⟨Ext.laid hT, R.laid hT, ?_⟩
  rw [if_pos rfl]
  exact .tup upd_same (.cons (.int _) (.cons (q.mono (Ext.laid hT).w) .nil))
theorem fol_enum {l : List IR.D} {a : Addr} {vs : List V} (h : ∀ μ' S' H', Ext μ1 H1 μ' H' → Rel N μ' S' H' → SqL N.K H' a vs ∧ Reps N μ' H' l vs) : Fol N μ1 H1 (Ite N.K a) (IR.numbered l) := by
  intro μ' S' H' e R i
  obtain ⟨h1, h2⟩ := h μ' S' H' e R
  have hlen : (IR.numbered l).length = l.length := by simp [IR.numbered]
  refine ⟨fun d hd => ?_, fun hi => ⟨vs, h1, by rw [← h2.length, ← hlen]; exact hi⟩⟩
  have hil : i < l.length := by rw [← hlen]; exact (List.getElem?_eq_some_iff.mp hd).1
  have hd' : d = .tup [.int i, l[i]] := by
    have e2 : (IR.numbered l)[i]? = some (.tup [.int i, l[i]]) := by
      simp [IR.numbered, List.getElem?_map, List.getElem?_zip_eq_some, hil]
    rw [e2] at hd; exact (Option.some.inj hd).symm
  subst hd'
  obtain ⟨v, hv, q⟩ := h2.get (List.getElem?_eq_getElem hil)
  refine ⟨⟨vs, v, h1, hv⟩, fun x H'' y => ?_⟩
  obtain ⟨T, z, rfl, hT, rfl, y⟩ := y
  have := y vs h1
  rw [hv] at this; cases this
  exact ⟨Ext.laid hT, R.laid hT, .tup upd_same (.cons (.int _) (.cons (q.mono (Ext.laid hT).w) .nil))⟩
theorem fol_zip {l m : List IR.D} {a b : Addr} {vs us : List V} {J : It} (hJ : J = Itz N.K a b ∨ J = ItzT N.K a b)
    (h : ∀ μ' S' H', Ext μ1 H1 μ' H' → Rel N μ' S' H' → ((J = Itz N.K a b ∧ SqL N.K H' a vs ∧ SqL N.K H' b us) ∨ (J = ItzT N.K a b ∧ SqT N.K H' a vs ∧ SqT N.K H' b us)) ∧ Reps N μ' H' l vs ∧ Reps N μ' H' m us) : Fol N μ1 H1 J ((l.zip m).map fun p => .tup [p.1, p.2]) := by
  intro μ' S' H' e R i
  obtain ⟨h1, h2, h3⟩ := h μ' S' H' e R
  have step : ∀ d, ((l.zip m).map fun p => IR.D.tup [p.1, p.2])[i]? = some d → ∃ d1 d2 v u, d = .tup [d1, d2] ∧ vs[i]? = some v ∧ us[i]? = some u ∧ Rep N μ' H' d1 v ∧ Rep N μ' H' d2 u := fun d hd => by
    rw [List.getElem?_map] at hd
    obtain ⟨⟨d1, d2⟩, hk, rfl⟩ := Option.map_eq_some_iff.mp hd
    obtain ⟨k1, k2⟩ := List.getElem?_zip_eq_some.mp hk
    obtain ⟨v, hv, q⟩ := h2.get k1
    obtain ⟨u, hu, q2⟩ := h3.get k2
    exact ⟨d1, d2, v, u, rfl, hv, hu, q, q2⟩
  have fin : l.length ≤ i ∨ m.length ≤ i → vs.length ≤ i ∨ us.length ≤ i := fun z => by rw [← h2.length, ← h3.length]; exact z
  have lz : ((l.zip m).map fun p => IR.D.tup [p.1, p.2]).length ≤ i → l.length ≤ i ∨ m.length ≤ i := fun z => by simp at z; omega
  rcases h1 with ⟨rfl, ha, hb⟩ | ⟨rfl, ha, hb⟩
  · refine ⟨fun d hd => ?_, fun hi => ⟨vs, us, ha, hb, fin (lz hi)⟩⟩
    obtain ⟨d1, d2, v, u, rfl, hv, hu, q, q2⟩ := step d hd
    refine ⟨⟨vs, us, v, u, ha, hb, hv, hu⟩, fun x H'' y => ?_⟩
    obtain ⟨T, z, z', rfl, hT, rfl, y1, y2⟩ := y
    have t1 := y1 vs ha
    have t2 := y2 us hb
    rw [hv] at t1; cases t1
    rw [hu] at t2; cases t2
    exact ⟨Ext.laid hT, R.laid hT, .tup upd_same (.cons (q.mono (Ext.laid hT).w) (.cons (q2.mono (Ext.laid hT).w) .nil))⟩
  · refine ⟨fun d hd => ?_, fun hi => ⟨vs, us, ha, hb, fin (lz hi)⟩⟩
    obtain ⟨d1, d2, v, u, rfl, hv, hu, q, q2⟩ := step d hd
    refine ⟨⟨vs, us, v, u, ha, hb, hv, hu⟩, fun x H'' y => ?_⟩
    obtain ⟨T, z, z', rfl, hT, rfl, y1, y2⟩ := y
    have t1 := y1 vs ha
    have t2 := y2 us hb
    rw [hv] at t1; cases t1
    rw [hu] at t2; cases t2
    exact ⟨Ext.laid hT, R.laid hT, .tup upd_same (.cons (q.mono (Ext.laid hT).w) (.cons (q2.mono (Ext.laid hT).w) .nil))⟩
theorem fol_rev {l : List IR.D} {a : Addr} {vs : List V} {J : It} (h : ∀ μ' S' H', Ext μ1 H1 μ' H' → Rel N μ' S' H' → ((J = Itv N.K a vs.length ∧ SqL N.K H' a vs) ∨ (J = ItvT N.K a vs.length ∧ SqT N.K H' a vs)) ∧ Reps N μ' H' l vs) : Fol N μ1 H1 J l.reverse := by
  intro μ' S' H' e R i
  obtain ⟨h1, h2⟩ := h μ' S' H' e R
  have hl := h2.length
  have step : ∀ d, l.reverse[i]? = some d → i < vs.length ∧ ∃ v, vs[vs.length - 1 - i]? = some v ∧ Rep N μ' H' d v := fun d hd => by
    have hi : i < l.length := by simpa using (List.getElem?_eq_some_iff.mp hd).1
    rw [List.getElem?_reverse hi] at hd
    obtain ⟨v, hv, q⟩ := h2.get hd
    exact ⟨by omega, v, by rw [← hl]; exact hv, q⟩
  rcases h1 with ⟨rfl, ha⟩ | ⟨rfl, ha⟩
  · refine ⟨fun d hd => ?_, fun hi => by show vs.length ≤ i; simp at hi; omega⟩
    obtain ⟨hi, v, hv, q⟩ := step d hd
    refine ⟨⟨hi, vs, v, ha, hv⟩, fun x H'' y => ?_⟩
    obtain ⟨rfl, y⟩ := y
    have := y vs ha
    rw [hv] at this; cases this
    exact ⟨Ext.refl _ _, R, q⟩
  · refine ⟨fun d hd => ?_, fun hi => by show vs.length ≤ i; simp at hi; omega⟩
    obtain ⟨hi, v, hv, q⟩ := step d hd
    refine ⟨⟨hi, vs, v, ha, hv⟩, fun x H'' y => ?_⟩
    obtain ⟨rfl, y⟩ := y
    have := y vs ha
    rw [hv] at this; cases this
    exact ⟨Ext.refl _ _, R, q⟩
end
/-- the turns of J are the pairs of the list objects n, m, as they stand -/
def FolZ (N : Nm) (μ1 : List Addr) (H1 : Hp) (J : It) (n m : Nat) : Prop := ∀ μ' S' H' l k, Ext μ1 H1 μ' H' → Rel N μ' S' H' → S'[n]? = some (.lst l) → S'[m]? = some (.lst k) → ∀ (i : Nat),
  (∀ p, (l.zip k)[i]? = some p → J.go i H' ∧ ∀ x H'', J.yld i H' x H'' → Ext μ' H' μ' H'' ∧ Rel N μ' S' H'' ∧ Rep N μ' H'' (.tup [p.1, p.2]) x) ∧ ((l.zip k).length ≤ i → J.stop i H')
theorem folZ_lst {N : Nm} {μ1 : List Addr} {H1 : Hp} {n m : Nat} {a b : Addr} (hn : μ1[n]? = some a) (hm : μ1[m]? = some b) : FolZ N μ1 H1 (Itz N.K a b) n m := by
  intro μ' S' H' l k e R hl hk i
  obtain ⟨vs, h1, h2⟩ := R.ob n _ a hl (prefix_get e.pre hn)
  obtain ⟨us, g1, g2⟩ := R.ob m _ b hk (prefix_get e.pre hm)
  have ha : SqL N.K H' a vs := .of h1
  have hb : SqL N.K H' b us := .of g1
  refine ⟨fun p hp => ?_, fun hi => ⟨vs, us, ha, hb, by have := h2.length; have := g2.length; simp at hi; omega⟩⟩
  obtain ⟨k1, k2⟩ := List.getElem?_zip_eq_some.mp hp
  obtain ⟨v, hv, q⟩ := h2.get k1
  obtain ⟨u, hu, q2⟩ := g2.get k2
  refine ⟨⟨vs, us, v, u, ha, hb, hv, hu⟩, fun x H'' y => ?_⟩
  obtain ⟨T, z, z', rfl, hT, rfl, y1, y2⟩ := y
  have t1 := y1 vs ha
  have t2 := y2 us hb
  rw [hv] at t1; cases t1
  rw [hu] at t2; cases t2
  exact ⟨Ext.laid hT, R.laid hT, .tup upd_same (.cons (q.mono (Ext.laid hT).w) (.cons (q2.mono (Ext.laid hT).w) .nil))⟩
/-- a source has come: it is walked so -/
def FolS (N : Nm) (μ1 : List Addr) (H1 : Hp) (J : It) : IR.Src → Prop
  | .st l => Fol N μ1 H1 J l
  | .rf en n => FolR N μ1 H1 J en n
  | .dk _ _ => False
  | .zp n m => FolZ N μ1 H1 J n m
section
variable {D : Wd} {X : Cx} {c : Ctx} {k : Nat} {F : Fm} {pos : Pos} {a b e o tg : Expr} {es : List Expr} {call : Nat → List IR.D → IR.M IR.D} {x y z : IR.E}
/-- the reading of what is walked -/
def tIt (D : Wd) (F : Fm) (m : IR.Env → IR.M IR.Src) : TI := fun σ H R => ∃ μ S ρ, F.I σ ∧ Rel D.N μ S H ∧ RSt D.N μ H ρ σ ∧ GG D.N F μ H (m ρ S) fun s S1 μ1 H1 => ∀ J, FolS D.N μ1 H1 J s → R J H1
theorem PI.weak {X : Cx} {tg e : Expr} {t t' : TI} (h : PI X tg e t) (w : ∀ σ H R, t' σ H R → t σ H R) : PI X tg e t' := ⟨fun pins s σ H R I q => h.run pins s σ H R I (w σ H R q)⟩
/-- what a list value stays -/
theorem lst_stays {μ1 : List Addr} {S1 : IR.Sto} {H1 : Hp} {l : List IR.D} {v : V} {N : Nm} (rv : RepV N μ1 H1 (.tl l) v ∨ ∃ ns, RepV N μ1 H1 (.scr ns) v ∧ l = ns.map .int) : ∃ a vs, v = .ref a ∧ ∀ μ' S' H', Ext μ1 H1 μ' H' → Rel N μ' S' H' → SqL N.K H' a vs ∧ Reps N μ' H' l vs := by
  rcases rv with rv | ⟨ns, rv, rfl⟩
  · obtain ⟨a, vs, rfl, h1, h2, r⟩ := rv
    exact ⟨a, vs, rfl, fun μ' S' H' e R => ⟨.of (e.keep _ _ h2 h1), r.mono e.w⟩⟩
  · obtain ⟨a, rfl, h⟩ := rv.scr
    exact ⟨a, _, rfl, fun μ' S' H' e R => ⟨(h.mono e.w).sq, Reps.ints⟩⟩
theorem s_over (C : Cm D X c k F) (he : PE X e (tV D F call x)) : PI X tg e (tIt D F (IR.evIt D.g call (.over x))) := by
  refine PI.weak (pi_overX he) fun σ H R q => ?_
  obtain ⟨μ, S, ρ, hI, Rl, hρ, g⟩ := q
  refine one' (f := fun d => IR.srcOf d) hI Rl hρ g fun μ1 S1 H1 d v e1 R1 rv _ g1 => ?_
  rw [C.K]
  have fin : ∀ {s : IR.Src} {J : It}, IR.srcOf d S1 = .ok s S1 → FolS D.N μ1 H1 J s → R J H1 := fun {s J} h f => by
    rw [h] at g1
    exact g1 μ1 H1 e1 R1 J f
  cases d with
  | tl l =>
    obtain ⟨a, vs, rfl, st⟩ := lst_stays (S1 := S1) (.inl rv)
    exact .inl ⟨a, vs, rfl, (st μ1 S1 H1 (Ext.refl _ _) R1).1, fin rfl (fol_lst st)⟩
  | scr l =>
    obtain ⟨a, vs, rfl, st⟩ := lst_stays (S1 := S1) (l := l.map .int) (.inr ⟨l, rv, rfl⟩)
    exact .inl ⟨a, vs, rfl, (st μ1 S1 H1 (Ext.refl _ _) R1).1, fin rfl (fol_lst st)⟩
  | tup l =>
    obtain ⟨a, vs, rfl, h1, r⟩ := rv.tup
    exact .inr (.inl ⟨a, vs, rfl, .of h1, fin rfl (fol_tup h1 r)⟩)
  | str t =>
    rw [rv.str]
    exact .inr (.inr ⟨_, rfl, fin rfl fol_str⟩)
  | ref n =>
    obtain ⟨a, rfl, ha⟩ := rv.ref
    cases h : S1[n]? with
    | none =>
      have e : IR.srcOf (.ref n) S1 = .bad := by simp [IR.srcOf, h]
      rw [e] at g1; exact g1.elim
    | some ob =>
      cases ob with
      | lst l =>
        obtain ⟨vs, h1, r⟩ := R1.ob n _ a h ha
        exact .inl ⟨a, vs, rfl, .of h1, fin (s := .rf false n) (by simp [IR.srcOf, h]) (folR_lst ha)⟩
      | ins c fs =>
        have e : IR.srcOf (.ref n) S1 = .bad := by simp [IR.srcOf, h]
        rw [e] at g1; exact g1.elim
      | exn c fs =>
        have e : IR.srcOf (.ref n) S1 = .bad := by simp [IR.srcOf, h]
        rw [e] at g1; exact g1.elim
      | dK lk kvs =>
        have e : IR.srcOf (.ref n) S1 = .bad := by simp [IR.srcOf, h]
        rw [e] at g1; exact g1.elim
      | dT lk kvs =>
        have e : IR.srcOf (.ref n) S1 = .bad := by simp [IR.srcOf, h]
        rw [e] at g1; exact g1.elim
  | non => exact g1.elim
  | bl b => exact g1.elim
  | int b => exact g1.elim
  | fn b => exact g1.elim
theorem rgOk_b {i j : Int} (h : IR.rgOk i j = true) : -(2 ^ 62) ≤ i ∧ i < 2 ^ 62 ∧ -(2 ^ 62) ≤ j ∧ j < 2 ^ 62 := by
  have h := of_decide_eq_true h
  simp only [IR.LINE] at h
  omega
theorem s_rg1 {p : Pos} (hg : Gl X "range") (hm : X.mg "range" = none) (ha : PA X [a] (tAs D F call (.cons false x .nil))) (hs : starEach [a] X.env = [(false, eval a X.env)]) : PI X tg (.Call (.Name "range" p) [a] [] pos) (tIt D F (IR.evIt D.g call (.rg1 x))) := by
  refine PI.weak (pi_range1 hg hm ha hs) fun σ H R q => ?_
  obtain ⟨μ, S, ρ, hI, Rl, hρ, g⟩ := q
  refine ⟨μ, S, ρ, hI, Rl, hρ, ?_⟩
  have e0 : IR.evs D.g call (.cons false x .nil) ρ S = (IR.ev D.g call x ρ S).bind fun a => IR.M.pure [a] := by
    have := evs1 (g := D.g) (call := call) (x := x) (ρ := ρ) (f := IR.M.pure) (S := S)
    rw [IR.M.bind_pure] at this
    exact this
  rw [e0]
  have g : GG D.N F μ H ((IR.ev D.g call x ρ S).bind fun x => match x with
    | .int n => if IR.rgOk 0 n then IR.M.pure (.st (IR.rg 0 n)) else IR.M.bad
    | _ => IR.M.bad) fun s S1 μ1 H1 => ∀ J, FolS D.N μ1 H1 J s → R J H1 := g
  cases e : IR.ev D.g call x ρ S with
  | bad => rw [e] at g; exact g
  | exc c fs S => rw [e] at g; exact g
  | ok d S1 =>
    rw [e] at g
    refine fun μ' H' e1 R1 vs rs => ?_
    cases d <;> first | exact g.elim | skip
    rename_i n
    have g : GG D.N F μ H ((if IR.rgOk 0 n then IR.M.pure (.st (IR.rg 0 n)) else IR.M.bad : IR.M IR.Src) S1) fun s S1 μ1 H1 => ∀ J, FolS D.N μ1 H1 J s → R J H1 := g
    split at g
    · rename_i h
      obtain ⟨_, _, h1, h2⟩ := rgOk_b h
      cases rs with
      | cons r1 rr =>
        cases rr
        cases r1.v.int
        refine ⟨n, rfl, h1, h2, g μ' H' e1 R1 _ ?_⟩
        have := fol_rng (N := D.N) (μ1 := μ') (H1 := H') (lo := 0) (hi := n)
        rw [Int.sub_zero] at this
        exact this
    · exact g.elim
theorem s_rg2 {p : Pos} (hg : Gl X "range") (hm : X.mg "range" = none) (ha : PA X [a, b] (tAs D F call (.cons false x (.cons false y .nil)))) (hs : starEach [a, b] X.env = [(false, eval a X.env), (false, eval b X.env)]) (hs2 : starEach [b] X.env = [(false, eval b X.env)]) : PI X tg (.Call (.Name "range" p) [a, b] [] pos) (tIt D F (IR.evIt D.g call (.rg2 x y))) := by
  refine PI.weak (pi_range2 hg hm ha hs hs2) fun σ H R q => ?_
  obtain ⟨μ, S, ρ, hI, Rl, hρ, g⟩ := q
  refine ⟨μ, S, ρ, hI, Rl, hρ, ?_⟩
  have e0 : IR.evs D.g call (.cons false x (.cons false y .nil)) ρ S = (IR.ev D.g call x ρ S).bind fun a => (IR.ev D.g call y ρ).bind fun b => IR.M.pure [a, b] := by
    have := evs2 (g := D.g) (call := call) (x := x) (y := y) (ρ := ρ) (f := IR.M.pure) (S := S)
    rw [IR.M.bind_pure] at this
    exact this
  rw [e0]
  have g : GG D.N F μ H ((IR.ev D.g call x ρ S).bind fun x => (IR.ev D.g call y ρ).bind fun y => match x, y with
    | .int i, .int j => if IR.rgOk i j then IR.M.pure (.st (IR.rg i j)) else IR.M.bad
    | _, _ => IR.M.bad) fun s S1 μ1 H1 => ∀ J, FolS D.N μ1 H1 J s → R J H1 := g
  cases e : IR.ev D.g call x ρ S with
  | bad => rw [e] at g; exact g
  | exc c fs S => rw [e] at g; exact g
  | ok d S1 =>
    rw [e] at g
    have g : GG D.N F μ H ((IR.ev D.g call y ρ S1).bind fun y => match d, y with
      | .int i, .int j => if IR.rgOk i j then IR.M.pure (.st (IR.rg i j)) else IR.M.bad
      | _, _ => IR.M.bad) fun s S1 μ1 H1 => ∀ J, FolS D.N μ1 H1 J s → R J H1 := g
    show GG D.N F μ H ((IR.ev D.g call y ρ S1).bind fun b => IR.M.pure [d, b]) _
    cases e2 : IR.ev D.g call y ρ S1 with
    | bad => rw [e2] at g; exact g
    | exc c fs S => rw [e2] at g; exact g
    | ok d2 S2 =>
      rw [e2] at g
      refine fun μ' H' e1 R1 vs rs => ?_
      cases d <;> first | exact g.elim | skip
      cases d2 <;> first | exact g.elim | skip
      rename_i i _ j
      have g : GG D.N F μ H ((if IR.rgOk i j then IR.M.pure (.st (IR.rg i j)) else IR.M.bad : IR.M IR.Src) S2) fun s S1 μ1 H1 => ∀ J, FolS D.N μ1 H1 J s → R J H1 := g
      split at g
      · rename_i h
        cases rs with
        | cons r1 rr =>
          cases rr with
          | cons r2 rr =>
            cases rr
            cases r1.v.int
            cases r2.v.int
            exact ⟨i, j, rfl, rgOk_b h, g μ' H' e1 R1 _ fol_rng⟩
      · exact g.elim
end
end IRS

namespace IRS
open PySem PySem.Spec PyProof.Rows L2
/-! ### statements -/
section
variable {N : Nm} {W : Fm} {μ μ1 : List Addr} {H H1 : Hp}
theorem KF.base' {D : Ends} {r : IR.Res IR.Flow} (e : Ext μ H μ1 H1) (g : GG N W μ1 H1 r (KF N W D H)) : GG N W μ1 H1 r (KF N W D H1) := by
  refine GG.imp g fun fl S' μ' H' x R k => ?_
  cases fl with
  | next ρ => exact k
  | brk ρ => exact k
  | cnt ρ => exact k
  | ret d =>
    refine fun v rv tm => k v rv fun l a h1 h2 => ?_
    subst h1; subst h2
    have hn := tm l a rfl rfl
    cases e0 : H a with
    | none => rfl
    | some o =>
      by_cases hm : a ∈ μ
      · obtain ⟨_, _, z, h3, h4, _⟩ := rv
        cases z
        exact absurd ((e.trans x).pre.subset hm) h4
      · rw [e.keep a o hm e0] at hn; cases hn
theorem KF.base {D : Ends} {r : IR.Res IR.Flow} (e : Ext μ H μ1 H1) (g : GG N W μ H r (KF N W D H)) : GG N W μ1 H1 r (KF N W D H1) := KF.base' e (GG.base e g)
theorem RSt.set {ρ : IR.Env} {σ : L2.St} {i : Nat} {d : IR.D} {v : V} (h : RSt N μ H ρ σ) (q : Rep N μ H d v) : RSt N μ H (ρ.set i (some d)) (σ.set i (some v)) := by
  refine ⟨by simp [h.1], fun j d' hd => ?_⟩
  rw [List.getElem?_set] at hd ⊢
  by_cases hij : i = j
  · subst hij
    rw [if_pos rfl] at hd ⊢
    split at hd
    · rename_i hl
      cases hd
      rw [if_pos (by rw [← h.1]; exact hl)]
      exact ⟨v, rfl, q⟩
    · cases hd
  · rw [if_neg hij] at hd ⊢
    exact h.2 j d' hd
end
section
variable {D : Wd} {X : Cx} {c : Ctx} {k : Nat} {F : Fm} {pos : Pos} {a b e o tg : Expr} {es : List Expr} {call : Nat → List IR.D → IR.M IR.D} {x y z : IR.E}
/-- a place to store to: what storing a value asks -/
structure TgOk (D : Wd) (X : Cx) (F : Fm) (tg : Expr) (t : IR.Tg) (g : TG) : Prop where
  pg : PG X tg g
  ok : ∀ {μ S H ρ σ d v Q}, F.I σ → Rel D.N μ S H → RSt D.N μ H ρ σ → Rep D.N μ H d v → GG D.N F μ H (IR.setTg t ρ d S) (fun ρ' _ μ' H' => ∀ σ', F.I σ' → RSt D.N μ' H' ρ' σ' → (∀ is, t = .tup is ∨ (∃ i, t = .var i ∧ is = [i]) → wipe σ' is = wipe σ is) → Q σ' H') → g v σ H Q
theorem wipe_set {σ : L2.St} {i : Nat} {v : Option V} : ∀ {is : List Nat}, i ∈ is → wipe (σ.set i v) is = wipe σ is
  | j :: is, h => by
    unfold wipe
    by_cases hi : i ∈ is
    · rw [wipe_set hi]
    · have e : i = j := (List.mem_cons.mp h).resolve_right hi
      subst e
      have aux : ∀ (is : List Nat) (σ : L2.St), i ∉ is → wipe (σ.set i v) is = (wipe σ is).set i v := fun is => by
        induction is with
        | nil => exact fun _ _ => rfl
        | cons k is ih =>
          intro σ hk
          have h1 : i ≠ k := fun z => hk (by rw [z]; exact List.mem_cons_self)
          have h2 : i ∉ is := fun z => hk (List.mem_cons_of_mem _ z)
          show (wipe (σ.set i v) is).set k none = ((wipe σ is).set k none).set i v
          rw [ih σ h2, List.set_comm _ _ h1]
      rw [aux is σ hi, List.set_set]
theorem t_var (C : Cm D X c k F) {i : Nat} {n : Str} (hN : c.N[i]? = some n) (hl : Loc c.sc n) (hf : c.fs n = true ∨ c.sc.names.lookup n = some .local) (ha : F.as i = true) : TgOk D X F (.Name n pos) (.var i) (gName i) where
  pg := pg_name (by rw [C.N]; exact C.nd) (by rw [C.N]; exact hN) (by rw [C.sc]; exact hl) (by rw [C.fs, C.sc]; exact hf)
  ok := fun {μ S H ρ σ d v Q} hI R hρ q g => by
    exact g μ H (Ext.refl _ _) R _ (F.put _ _ _ ha hI) (hρ.set q) fun is h => by
      rcases h with h | ⟨j, h, rfl⟩
      · cases h
      · cases h; exact wipe_set List.mem_cons_self
/-- several names -/
structure TgsOk (D : Wd) (X : Cx) (F : Fm) (tgs : List Expr) (is : List Nat) (g : TGs) : Prop where
  pg : PGs X tgs g
  ok : ∀ {σ H} {vs : List V} {Q : L2.St → Hp → Prop}, vs.length = is.length → Q ((is.zip vs).foldl (fun σ p => σ.set p.1 (some p.2)) σ) H → g vs σ H Q
  as : ∀ i ∈ is, F.as i = true
theorem t_nil : TgsOk D X F [] [] gNil := ⟨pgs_nil, fun {σ H vs Q} h q => by cases List.eq_nil_of_length_eq_zero h; exact ⟨rfl, q⟩, fun _ h => by cases h⟩
theorem t_cons (C : Cm D X c k F) {i : Nat} {n : Str} {is : List Nat} {gs : TGs} (hN : c.N[i]? = some n) (hl : Loc c.sc n) (hf : c.fs n = true ∨ c.sc.names.lookup n = some .local) (ha : F.as i = true) (r : TgsOk D X F es is gs)
    (hs : (assignEach (.Name n pos :: es) X.env).map (·.2) = assign (.Name n pos) X.env :: (assignEach es X.env).map (·.2)) : TgsOk D X F (.Name n pos :: es) (i :: is) (gCons (gName i) gs) where
  pg := pgs_cons (t_var (pos := pos) C hN hl hf ha).pg r.pg hs
  ok := fun {σ H vs Q} h q => by
    cases vs with
    | nil => cases h
    | cons v vs => exact ⟨v, vs, rfl, r.ok (Nat.succ.inj h) q⟩
  as := fun j hj => by
    rcases List.mem_cons.mp hj with e | e
    · rw [e]; exact ha
    · exact r.as j e
theorem setVars_ok {N : Nm} {μ : List Addr} {H : Hp} : ∀ {is : List Nat} {ds : List IR.D} {vs : List V} {ρ : IR.Env} {σ : L2.St}, Reps N μ H ds vs → RSt N μ H ρ σ → RSt N μ H (IR.setVars ρ is ds) ((is.zip vs).foldl (fun σ p => σ.set p.1 (some p.2)) σ)
  | [], _, _, _, _, _, h => by simpa [IR.setVars] using h
  | i :: is, _, _, _, _, .nil, h => by simpa [IR.setVars] using h
  | i :: is, _, _, _, _, .cons q r, h => by
    simp only [IR.setVars, List.zip_cons_cons, List.foldl_cons]
    exact setVars_ok r (h.set q)
theorem fold_I {F : Fm} : ∀ {is : List Nat} {vs : List V} {σ : L2.St}, (∀ i ∈ is, F.as i = true) → F.I σ → F.I ((is.zip vs).foldl (fun σ p => σ.set p.1 (some p.2)) σ)
  | [], _, _, _, h => h
  | _ :: _, [], _, _, h => h
  | i :: is, v :: vs, σ, ha, h => by
    simp only [List.zip_cons_cons, List.foldl_cons]
    exact fold_I (fun j hj => ha j (List.mem_cons_of_mem _ hj)) (F.put _ _ _ (ha i List.mem_cons_self) h)
theorem fold_wipe {js : List Nat} : ∀ {is : List Nat} {vs : List V} {σ : L2.St}, (∀ i ∈ is, i ∈ js) → wipe ((is.zip vs).foldl (fun σ p => σ.set p.1 (some p.2)) σ) js = wipe σ js
  | [], _, _, _ => rfl
  | _ :: _, [], _, _ => rfl
  | i :: is, v :: vs, σ, ha => by
    simp only [List.zip_cons_cons, List.foldl_cons]
    rw [fold_wipe fun j hj => ha j (List.mem_cons_of_mem _ hj), wipe_set (ha i List.mem_cons_self)]
/-- a target of some names takes a tuple or a list -/
def gSq (K : PySem.W.Frag) (n : Nat) (t : TGs) : TG := fun v σ H Q => gTup K n t v σ H Q ∨ gUnl K n t v σ H Q
theorem t_tup (C : Cm D X c k F) {is : List Nat} {gs : TGs} {kk : Nat} (r : TgsOk D X F es is gs) (hn : (assignEach es X.env).length = is.length) (hst : (assignEach es X.env).findIdx? (·.1) = none) (hh : c.hot = false := by rfl) : TgOk D X F (.Tuple es kk pos) (.tup is) (gSq D.N.K is.length gs) where
  pg := by
    rw [← C.K]
    refine ⟨fun pins s σ H v u Q I rv hw => hw.elim (fun hw => (pg_tup (C.calm hh) r.pg hn hst).run pins s σ H v u Q I rv hw) fun hw => (pg_unl (C.calm hh) r.pg hn hst).run pins s σ H v u Q I rv hw⟩
  ok := fun {μ S H ρ σ d v Q} hI R hρ q g => by
    cases q <;> first | exact g.elim | skip
    · rename_i p ds vs h1 rs
      have g : GG D.N F μ H ((if ds.length = is.length then IR.Res.ok (IR.setVars ρ is ds) S else .bad) : IR.Res IR.Env) _ := g
      split at g
      · rename_i hl
        refine .inl ⟨p, vs, rfl, .of h1, by rw [← rs.length]; exact hl, r.ok (by rw [← rs.length]; exact hl) ?_⟩
        exact g μ H (Ext.refl _ _) R _ (fold_I r.as hI) (setVars_ok rs hρ) fun js h => by
          rcases h with h | ⟨_, h, _⟩
          · cases h; exact fold_wipe fun i h => h
          · cases h
      · exact g.elim
    · rename_i n p hp
      have g : GG D.N F μ H ((match S[n]? with
        | some (.lst l) => if l.length = is.length then IR.Res.ok (IR.setVars ρ is l) S else .bad
        | _ => .bad) : IR.Res IR.Env) _ := g
      split at g
      · rename_i ds e
        split at g
        · rename_i hl
          obtain ⟨vs, h1, rs⟩ := R.ob n _ p e hp
          refine .inr ⟨p, vs, rfl, .of h1, by rw [← rs.length]; exact hl, r.ok (by rw [← rs.length]; exact hl) ?_⟩
          exact g μ H (Ext.refl _ _) R _ (fold_I r.as hI) (setVars_ok rs hρ) fun js h => by
            rcases h with h | ⟨_, h, _⟩
            · cases h; exact fold_wipe fun i h => h
            · cases h
        · exact g.elim
      · exact g.elim
abbrev tSt (D : Wd) (F : Fm) (call : Nat → List IR.D → IR.M IR.D) (s : IR.St) : TS := tS D.N F (IR.ex D.g call s)
abbrev tSs (D : Wd) (F : Fm) (call : Nat → List IR.D → IR.M IR.D) (s : IR.Ss) : TS := tS D.N F (IR.exs D.g call s)
theorem st_pass : PS X (.Pass pos) (tSt D F call .pass) := by
  refine PS.weak ps_pass fun E σ H q => ?_
  obtain ⟨μ, S, ρ, hI, R, hρ, g⟩ := q
  exact g μ H (Ext.refl _ _) R σ hI hρ
theorem st_brk : PS X (.Break pos) (tSt D F call .brk) := by
  refine PS.weak ps_break fun E σ H q => ?_
  obtain ⟨μ, S, ρ, hI, R, hρ, g⟩ := q
  exact g μ H (Ext.refl _ _) R σ hI hρ
theorem st_cnt : PS X (.Continue pos) (tSt D F call .cnt) := by
  refine PS.weak ps_continue fun E σ H q => ?_
  obtain ⟨μ, S, ρ, hI, R, hρ, g⟩ := q
  exact g μ H (Ext.refl _ _) R σ hI hρ
theorem st_expr (he : PE X e (tV D F call x)) (hs : swapsWith e none pos.line X.env = pure false) : PS X (.Expr e pos) (tSt D F call (.expr x)) := by
  refine PS.weak (ps_expr he hs) fun E σ H q => ?_
  obtain ⟨μ, S, ρ, hI, R, hρ, g⟩ := q
  refine one' (f := fun _ => IR.M.pure (IR.Flow.next ρ)) hI R hρ g fun μ1 S1 H1 d v e1 R1 _ _ g1 => ?_
  exact g1 μ1 H1 e1 R1 σ hI (hρ.mono e1.w)
theorem st_ret (he : PE X e (tV D F call x)) : PS X (.Return (some e) pos) (tSt D F call (.ret x)) := by
  refine PS.weak (ps_ret he) fun E σ H q => ?_
  obtain ⟨μ, S, ρ, hI, R, hρ, g⟩ := q
  refine one' (f := fun d => IR.M.pure (IR.Flow.ret d)) hI R hρ g fun μ1 S1 H1 d v e1 R1 rv tm g1 => ?_
  exact g1 μ1 H1 e1 R1 v rv tm
theorem st_if {cE : Expr} {p q : List Stmt} {p' q' : IR.Ss} (hc : PT X cE (tB' D F call x)) (ha : PSs X p (tSs D F call p')) (hb : PSs X q (tSs D F call q')) : PS X (.If cE p q pos) (tSt D F call (.ife x p' q')) := by
  refine PS.weak (ps_if hc ha hb) fun E σ H q => ?_
  obtain ⟨μ, S, ρ, hI, R, hρ, g⟩ := q
  refine ⟨μ, S, ρ, hI, R, hρ, ?_⟩
  have e : IR.ex D.g call (.ife x p' q') ρ = ((IR.ev D.g call x ρ).bind IR.truth).bind fun t => if t then IR.exs D.g call p' ρ else IR.exs D.g call q' ρ := by
    rw [IR.M.bind_assoc]; rfl
  rw [e] at g
  refine GG.imp (GG.bind g) fun t S1 μ1 H1 e1 R1 g1 => ?_
  cases t with
  | true => exact ⟨μ1, S1, ρ, hI, R1, hρ.mono e1.w, KF.base' e1 g1⟩
  | false => exact ⟨μ1, S1, ρ, hI, R1, hρ.mono e1.w, KF.base' e1 g1⟩
/-- reckon, own, store -/
theorem st_asg {t : IR.Tg} {gt : TG} (he : PE X e (tV D F call x)) (ht : TgOk D X F tg t gt) (hs : swapsWithSole [tg] e pos.line X.env = pure false) (hw : swappedStores [tg] e X.env = pure none) (h1 : (assignEach [tg] X.env).map (·.2) = [assign tg X.env]) :
    PS X (.Assign [tg] e pos) (tSt D F call (.asg t x)) := by
  refine PS.weak (ps_asg he ht.pg hs hw h1) fun E σ H q => ?_
  obtain ⟨μ, S, ρ, hI, R, hρ, g⟩ := q
  refine ⟨μ, S, ρ, hI, R, hρ, ?_⟩
  have g : GG D.N F μ H (((IR.ev D.g call x ρ S).bind (IR.ownIf true)).bind fun d => (IR.setTg t ρ d).bind fun ρ' => IR.M.pure (IR.Flow.next ρ')) (KF D.N F E H) := by
    have e : IR.ex D.g call (.asg t x) ρ S = ((IR.ev D.g call x ρ S).bind (IR.ownIf true)).bind fun d => (IR.setTg t ρ d).bind fun ρ' => IR.M.pure (IR.Flow.next ρ') := by
      simp only [IR.ex, IR.M.bind]
      cases IR.ev D.g call x ρ S <;> rfl
    rw [← e]; exact g
  refine GG.own g fun μ1 S1 H1 d v e1 R1 rd g1 => ?_
  refine ht.ok hI R1 (hρ.mono e1.w) rd ?_
  refine GG.imp (GG.bind (show GG D.N F μ1 H1 ((IR.setTg t ρ d S1).bind fun ρ' => IR.M.pure (IR.Flow.next ρ')) (KF D.N F E H) from g1)) fun ρ' S2 μ2 H2 e2 R2 g2 σ' hI' hρ' _ => ?_
  exact g2 μ2 H2 (Ext.refl _ _) R2 σ' hI' hρ'
theorem st_ss_nil : PSs X [] (tSs D F call .nil) := by
  refine PSs.weak pss_nil fun E σ H q => ?_
  obtain ⟨μ, S, ρ, hI, R, hρ, g⟩ := q
  exact g μ H (Ext.refl _ _) R σ hI hρ
theorem st_ss_cons {st : Stmt} {sts : List Stmt} {s : IR.St} {r : IR.Ss} (h1 : PS X st (tSt D F call s)) (h2 : PSs X sts (tSs D F call r)) : PSs X (st :: sts) (tSs D F call (.cons s r)) := by
  refine PSs.weak (pss_cons h1 h2) fun E σ H q => ?_
  obtain ⟨μ, S, ρ, hI, R, hρ, g⟩ := q
  refine ⟨μ, S, ρ, hI, R, hρ, ?_⟩
  have g : GG D.N F μ H ((IR.ex D.g call s ρ S).bind fun fl => match fl with
    | .next ρ' => IR.exs D.g call r ρ'
    | fl => IR.M.pure fl) (KF D.N F E H) := g
  refine GG.imp (GG.bind g) fun fl S1 μ1 H1 e1 R1 g1 => ?_
  cases fl with
  | next ρ' => exact fun σ' hI' hρ' => ⟨μ1, S1, ρ', hI', R1, hρ', KF.base' e1 g1⟩
  | ret d => exact g1 μ1 H1 (Ext.refl _ _) R1
  | brk ρ' => exact g1 μ1 H1 (Ext.refl _ _) R1
  | cnt ρ' => exact g1 μ1 H1 (Ext.refl _ _) R1
/-- o[i] = v -/
theorem st_setIx (C : Cm D X c k F) (hv : PE X e (tV D F call x)) (ho : PE X a (tV D F call y)) (hi : PE X b (tV D F call z)) {p2 : Pos}
    (ha : ∀ v, assign (.Subscript a b p2) X.env v = (do
      let ov ← holding [v] (eval a X.env)
      let iv ← holding [v, ov] (eval b X.env)
      standAt p2
      holding [v, ov, iv] (setItem ov iv v)
      release [v, ov, iv] [])) (hs : swapsWithSole [.Subscript a b p2] e pos.line X.env = pure false) (hw : swappedStores [.Subscript a b p2] e X.env = pure none) (h1 : (assignEach [.Subscript a b p2] X.env).map (·.2) = [assign (.Subscript a b p2) X.env]) :
    PS X (.Assign [.Subscript a b p2] e pos) (tSt D F call (.setIx y z x)) := by
  refine PS.weak (ps_asg hv (pg_sub ho hi (set_X (by have := C.hu; omega)) ha) hs hw h1) fun E σ H q => ?_
  obtain ⟨μ, S, ρ, hI, R, hρ, g⟩ := q
  refine ⟨μ, S, ρ, hI, R, hρ, ?_⟩
  have g : GG D.N F μ H (((IR.ev D.g call x ρ S).bind (IR.ownIf true)).bind fun d => (IR.ev D.g call y ρ).bind fun oo => (IR.ev D.g call z ρ).bind fun ii => (IR.setIxD d oo ii).bind fun _ => IR.M.pure (IR.Flow.next ρ)) (KF D.N F E H) := by
    have e : IR.ex D.g call (.setIx y z x) ρ S = ((IR.ev D.g call x ρ S).bind (IR.ownIf true)).bind fun d => (IR.ev D.g call y ρ).bind fun oo => (IR.ev D.g call z ρ).bind fun ii => (IR.setIxD d oo ii).bind fun _ => IR.M.pure (IR.Flow.next ρ) := by
      simp only [IR.ex, IR.M.bind]
      cases IR.ev D.g call x ρ S <;> rfl
    rw [← e]; exact g
  refine GG.own g fun μ1 S1 H1 d v e1 R1 rd g1 => ?_
  refine one' (f := fun oo => (IR.ev D.g call z ρ).bind fun ii => (IR.setIxD d oo ii).bind fun _ => IR.M.pure (IR.Flow.next ρ)) hI R1 (hρ.mono e1.w) g1 fun μ2 S2 H2 oo oo' e2 R2 ro _ g2 => ?_
  have g2 := GG.base e2 g2
  refine one' (f := fun ii => (IR.setIxD d oo ii).bind fun _ => IR.M.pure (IR.Flow.next ρ)) hI R2 ((hρ.mono e1.w).mono e2.w) g2 fun μ3 S3 H3 ii ii' e3 R3 ri _ g3 => ?_
  have g3 := GG.base e3 g3
  refine o_setIx R3 (RepO.mono (o := true) (e2.trans e3) rd) (ro.mono e3) ri ?_ (W := F)
  refine GG.imp (GG.bind (show GG D.N F μ3 H3 ((IR.setIxD d oo ii S3).bind fun _ => IR.M.pure (IR.Flow.next ρ)) (KF D.N F E H) from g3)) fun _ S4 μ4 H4 e4 R4 g4 => ?_
  exact g4 μ4 H4 (Ext.refl _ _) R4 σ hI ((((hρ.mono e1.w).mono e2.w).mono e3.w).mono e4.w)
/-- for -/
theorem st_for {t : IR.Tg} {gt : TG} {it : Expr} {m : IR.It} {body : List Stmt} {bd : IR.Ss} (hp : PassesOwn (model X.prog X.w) X.A X.env X.xe) (C : Cm D X c k F) (hi : PI X tg it (tIt D F (IR.evIt D.g call m))) (ht : TgOk D X F tg t gt) (hb : PSs X body (tSs D F call bd))
    (hs : ∀ v, foldedSetIterable it X.env v = pure v) (hh : c.hot = false := by rfl) : PS X (.For tg it body [] pos) (tSt D F call (.for_ m t bd)) := by
  refine PS.weak (ps_for hp (C.calm hh) hi ht.pg hb hs) fun E σ H q => ?_
  obtain ⟨μ, S, ρ, hI, R, hρ, g⟩ := q
  refine ⟨μ, S, ρ, hI, R, hρ, ?_⟩
  have g : GG D.N F μ H ((IR.evIt D.g call m ρ S).bind fun s => IR.forSrc (fun x ρ => (IR.setTg t ρ x).bind fun ρ' => IR.exs D.g call bd ρ') s ρ) (KF D.N F E H) := g
  refine GG.imp (GG.bind g) fun s S1 μ1 H1 e1 R1 g1 J hJ => ?_
  have g1 := KF.base' e1 g1
  have hρ1 := hρ.mono e1.w
  -- one turn
  have turn : ∀ {μ2 S2 H2 σ2 ρ2 d x H3} {rest : IR.Env → IR.M IR.Flow} {Nx : L2.St → Hp → Prop}, F.I σ2 → RSt D.N μ2 H2 ρ2 σ2 → Ext μ2 H2 μ2 H3 → Rel D.N μ2 S2 H3 → Rep D.N μ2 H3 d x →
      GG D.N F μ2 H2 ((((IR.setTg t ρ2 d).bind fun ρ' => IR.exs D.g call bd ρ').bind (fun fl => match fl with
        | .next ρ' => rest ρ'
        | .cnt ρ' => rest ρ'
        | .brk ρ' => IR.M.pure (.next ρ')
        | .ret d => IR.M.pure (.ret d))) S2) (KF D.N F E H2) →
      (∀ μ4 S4 H4 σ4 ρ4, F.I σ4 → Rel D.N μ4 S4 H4 → RSt D.N μ4 H4 ρ4 σ4 → Ext μ2 H2 μ4 H4 → GG D.N F μ4 H4 (rest ρ4 S4) (KF D.N F E H4) → Nx σ4 H4) →
      gt x σ2 H3 fun σ5 H5 => tSs D F call bd { E with nx := Nx, ct := Nx, bk := E.nx } σ5 H5 := by
    intro μ2 S2 H2 σ2 ρ2 d x H3 rest Nx hI2 hρ2 e3 R3 rd g2 hNx
    rw [IR.M.bind_assoc] at g2
    have g3 := KF.base e3 g2
    refine ht.ok hI2 R3 (hρ2.mono e3.w) rd ?_
    refine GG.imp (GG.bind (show GG D.N F μ2 H3 ((IR.setTg t ρ2 d S2).bind _) (KF D.N F E H3) from g3)) fun ρ5 S5 μ5 H5 e5 R5 g5 σ5 hI5 hρ5 _ => ?_
    have g5 := KF.base' e5 g5
    refine ⟨μ5, S5, ρ5, hI5, R5, hρ5, ?_⟩
    refine GG.imp (GG.bind (show GG D.N F μ5 H5 ((IR.exs D.g call bd ρ5 S5).bind _) (KF D.N F E H5) from g5)) fun fl S6 μ6 H6 e6 R6 g6 => ?_
    cases fl with
    | next ρ6 => exact fun σ6 hI6 hρ6 => hNx μ6 S6 H6 σ6 ρ6 hI6 R6 hρ6 ((e3.trans e5).trans e6) (KF.base' e6 g6)
    | cnt ρ6 => exact fun σ6 hI6 hρ6 => hNx μ6 S6 H6 σ6 ρ6 hI6 R6 hρ6 ((e3.trans e5).trans e6) (KF.base' e6 g6)
    | brk ρ6 => exact fun σ6 hI6 hρ6 => g6 μ6 H6 (Ext.refl _ _) R6 σ6 hI6 hρ6
    | ret d => exact g6 μ6 H6 (Ext.refl _ _) R6
  cases s with
  | dk _ _ => exact hJ.elim
  | st l =>
    refine ⟨fun i m σ H => m = l.length - i ∧ i ≤ l.length ∧ ∃ μ' S' ρ', F.I σ ∧ Rel D.N μ' S' H ∧ RSt D.N μ' H ρ' σ ∧ Ext μ1 H1 μ' H ∧ GG D.N F μ' H (IR.forSt (fun x ρ => (IR.setTg t ρ x).bind fun ρ' => IR.exs D.g call bd ρ') (l.drop i) ρ' S') (KF D.N F E H),
      ⟨_, rfl, Nat.zero_le _, μ1, S1, ρ, hI, R1, hρ1, Ext.refl _ _, g1⟩, ?_⟩
    rintro i m' σ2 H2 ⟨rfl, hi2, μ2, S2, ρ2, hI2, R2, hρ2, e2, g2⟩
    obtain ⟨go, stop⟩ := hJ μ2 S2 H2 e2 R2 i
    by_cases hlt : i < l.length
    · obtain ⟨h1, h2⟩ := go l[i] (List.getElem?_eq_getElem hlt)
      rw [List.drop_eq_getElem_cons hlt] at g2
      refine .inr ⟨h1, _, fun σ' H' w => ⟨l.length - (i + 1), by omega, w⟩, fun x H3 y => ?_⟩
      obtain ⟨e3, R3, rd⟩ := h2 x H3 y
      exact turn hI2 hρ2 e3 R3 rd g2 fun μ4 S4 H4 σ4 ρ4 hI4 R4 hρ4 e4 g4 => ⟨rfl, hlt, μ4, S4, ρ4, hI4, R4, hρ4, e2.trans e4, g4⟩
    · have e : i = l.length := by omega
      subst e
      rw [List.drop_length] at g2
      exact .inl ⟨stop (Nat.le_refl _), g2 μ2 H2 (Ext.refl _ _) R2 σ2 hI2 hρ2⟩
  | zp n m => exact g1.elim
  | rf en n =>
    have hl : ∃ l, S1[n]? = some (.lst l) ∧ GG D.N F μ1 H1 (IR.forRf (fun x ρ => (IR.setTg t ρ x).bind fun ρ' => IR.exs D.g call bd ρ') en n l.length 0 ρ S1) (KF D.N F E H1) := by
      simp only [IR.forSrc] at g1
      split at g1
      · rename_i l e; exact ⟨l, e, g1⟩
      · exact g1.elim
    obtain ⟨l0, _, g1⟩ := hl
    refine ⟨fun i m σ H => ∃ μ' S' ρ', F.I σ ∧ Rel D.N μ' S' H ∧ RSt D.N μ' H ρ' σ ∧ Ext μ1 H1 μ' H ∧ GG D.N F μ' H (IR.forRf (fun x ρ => (IR.setTg t ρ x).bind fun ρ' => IR.exs D.g call bd ρ') en n m i ρ' S') (KF D.N F E H),
      ⟨_, μ1, S1, ρ, hI, R1, hρ1, Ext.refl _ _, g1⟩, ?_⟩
    rintro i m' σ2 H2 ⟨μ2, S2, ρ2, hI2, R2, hρ2, e2, g2⟩
    cases m' with
    | zero =>
      simp only [IR.forRf] at g2
      split at g2
      · rename_i l e
        obtain ⟨go, stop⟩ := hJ μ2 S2 H2 l e2 R2 e i
        split at g2
        · rename_i hle
          exact .inl ⟨stop hle, g2 μ2 H2 (Ext.refl _ _) R2 σ2 hI2 hρ2⟩
        · exact g2.elim
      · exact g2.elim
    | succ m' =>
      simp only [IR.forRf] at g2
      split at g2
      · rename_i l e
        obtain ⟨go, stop⟩ := hJ μ2 S2 H2 l e2 R2 e i
        split at g2
        · rename_i hn
          exact .inl ⟨stop (List.getElem?_eq_none_iff.mp hn), g2 μ2 H2 (Ext.refl _ _) R2 σ2 hI2 hρ2⟩
        · rename_i d hd
          obtain ⟨h1, h2⟩ := go d hd
          refine .inr ⟨h1, _, fun σ' H' w => ⟨m', Nat.lt_succ_self _, w⟩, fun x H3 y => ?_⟩
          obtain ⟨e3, R3, rd⟩ := h2 x H3 y
          exact turn hI2 hρ2 e3 R3 rd g2 fun μ4 S4 H4 σ4 ρ4 hI4 R4 hρ4 e4 g4 => ⟨μ4, S4, ρ4, hI4, R4, hρ4, e2.trans e4, g4⟩
      · exact g2.elim
end
end IRS

namespace IRS
open PySem PySem.Spec PyProof.Rows L2
/-! ### comprehensions -/
/-- no exception is wanted -/
def Fm0 : Fm := ⟨fun _ => True, fun _ => true, fun _ _ _ _ => False, fun _ _ _ _ _ => trivial, fun _ _ _ _ => trivial⟩
/-- the block of a comprehension -/
def Ctx.blk (c : Ctx) (scope : Scope) : Ctx := ⟨c.N, relS scope c.sc, fun x => scope.names.lookup x == some .cell, c.hot⟩
section
variable {D : Wd} {X : Cx} {c : Ctx} {k : Nat} {F : Fm} {pos : Pos} {a b e o tg elt iter : Expr} {es : List Expr} {call : Nat → List IR.D → IR.M IR.D} {x y z : IR.E} {scope : Scope}
theorem takes00 {X : Cx} : Takes X (fun _ _ _ _ => False) := fun _ _ x => by
  obtain ⟨_, _, _, _, _, _, _, _, _, _, _, _, _, _, _, _, z⟩ := x
  exact z.elim
theorem Cm.blk (C : Cm D X c k F) (hk : scope.kind = .function) {s : Shared} {H : Hp} {cl : List (Str × Addr)} {A : Addr} {fp : List Addr} : Cm D (X.blk s H scope (compEnvC scope cl A X.env) fp) (c.blk scope) k Fm0 where
  prog := C.prog
  w := C.w
  K := C.K
  mg := C.mg
  base := C.base
  N := C.N
  nd := C.nd
  sc := by
    have e : (compEnvC scope cl A X.env).scope = relS scope X.env.scope := rfl
    show (compEnvC scope cl A X.env).scope = relS scope c.sc
    rw [e, C.sc]
  fs := rfl
  kd := hk
  calm0 := C.calm0
  room0 := C.room0
  tk := takes00
end
def tgSlots : IR.Tg → List Nat
  | .var i => [i]
  | .tup is => is
def wipeE (ρ : IR.Env) : List Nat → IR.Env
  | [] => ρ
  | i :: is => (wipeE ρ is).set i none
theorem RSt.wipe {N : Nm} {μ : List Addr} {H : Hp} {ρ : IR.Env} {σ : L2.St} (h : RSt N μ H ρ σ) : ∀ is, RSt N μ H (wipeE ρ is) (L2.wipe σ is)
  | [] => h
  | i :: is => by
    have ih := RSt.wipe h is
    refine ⟨by simp [wipeE, L2.wipe, ih.1], fun j d hd => ?_⟩
    simp only [wipeE, L2.wipe, List.getElem?_set] at hd ⊢
    by_cases hij : i = j
    · subst hij
      rw [if_pos rfl] at hd
      split at hd <;> cases hd
    · rw [if_neg hij] at hd ⊢
      exact ih.2 j d hd
theorem setVars_none {j : Nat} : ∀ {is : List Nat} {ds : List IR.D} {ρ : IR.Env}, j ∈ is → ds.length = is.length → IR.setVars (ρ.set j none) is ds = IR.setVars ρ is ds
  | i :: is, [], _, _, h => by cases h
  | i :: is, d :: ds, ρ, hj, h => by
    simp only [IR.setVars]
    by_cases e : j = i
    · subst e; rw [List.set_set]
    · rw [List.set_comm _ _ e]
      exact setVars_none ((List.mem_cons.mp hj).resolve_left e) (Nat.succ.inj h)
theorem setTg_wipe {t : IR.Tg} {ρ : IR.Env} {d : IR.D} {S : IR.Sto} : IR.setTg t (wipeE ρ (tgSlots t)) d S = IR.setTg t ρ d S := by
  cases t with
  | var i => simp [IR.setTg, tgSlots, wipeE, List.set_set]
  | tup is =>
    have aux : ∀ (l : List IR.D), l.length = is.length → IR.setVars (wipeE ρ is) is l = IR.setVars ρ is l := fun l hl => by
      have aux : ∀ js : List Nat, (∀ j ∈ js, j ∈ is) → IR.setVars (wipeE ρ js) is l = IR.setVars ρ is l := fun js => by
        induction js with
        | nil => exact fun _ => rfl
        | cons j js ih => exact fun h => by rw [wipeE, setVars_none (h j List.mem_cons_self) hl, ih fun i hi => h i (List.mem_cons_of_mem _ hi)]
      exact aux is fun _ h => h
    cases d <;> try rfl
    · rename_i l
      simp only [IR.setTg, tgSlots]
      split
      · rename_i hl
        rw [aux l hl]
      · rfl
    · rename_i r
      simp only [IR.setTg, tgSlots]
      split
      · split
        · rename_i hl
          rw [aux _ hl]
        · rfl
      · rfl
section
variable {N : Nm} {μ μ1 : List Addr} {H H1 : Hp} {S : IR.Sto}
theorem Ext.updNew {p : Addr} {o : HO} (e : Ext μ H μ1 H1) (h : H p = none) : Ext μ H μ1 (upd H1 p o) :=
  ⟨e.pre, e.new, fun a u ha z => by rw [upd_ne (ne_of_none z h)]; exact e.keep a u ha z, fun a u z => by rw [upd_ne (ne_of_none z h)]; exact e.tup a u z, fun a u v z => by rw [upd_ne (ne_of_none z h)]; exact e.frz a u v z⟩
theorem WExt.side {p : Addr} {vs : List V} {o : HO} (h : H p = some (.lst vs)) : WExt μ H μ (upd H p o) :=
  ⟨List.prefix_refl _, fun a us z => by rw [upd_ne (fun e => by rw [e, h] at z; cases z)]; exact z, fun a q us z => by rw [upd_ne (fun e => by rw [e, h] at z; cases z)]; exact z, fun a q us z => by rw [upd_ne (fun e => by rw [e, h] at z; cases z)]; exact z⟩
theorem Rel.side {p : Addr} {vs : List V} {o : HO} (R : Rel N μ S H) (h : H p = some (.lst vs)) (hp : p ∉ μ) : Rel N μ S (upd H p o) :=
  ⟨R.len, R.nd, fun i q a h1 h2 => (R.ob i q a h1 h2).mono (WExt.side h) (upd_ne fun e => hp (e ▸ List.mem_of_getElem? h2))⟩
theorem WExt.refl : WExt μ1 H1 μ1 H1 := ⟨List.prefix_refl _, fun _ _ h => h, fun _ _ _ h => h, fun _ _ _ h => h⟩
theorem own_ok {y y' : IR.D} {S' : IR.Sto} {v : V} (h : IR.own y S = .ok y' S') (e : Ext μ H μ1 H1) (R : Rel N μ1 S H1) (r : RepV N μ1 H1 y v) (tm : Tmp H y v) :
    ∃ μ2, Ext μ H μ2 H1 ∧ Rel N μ2 S' H1 ∧ Rep N μ2 H1 y' v ∧ WExt μ1 H1 μ2 H1 ∧ ∀ a ∈ μ2, a ∈ μ1 ∨ H a = none := by
  by_cases hd : ∃ l, y = .tl l
  · obtain ⟨l, rfl⟩ := hd
    obtain ⟨a, vs, rfl, h1, h2, rr⟩ := r
    cases h
    refine ⟨μ1 ++ [a], e.add (tm l a rfl rfl), R.add h2 ⟨vs, h1, rr.mono .add⟩, .ref ?_, .add, fun b hb => ?_⟩
    · rw [← R.len]; simp
    · rcases List.mem_append.mp hb with z | z
      · exact .inl z
      · rw [List.mem_singleton.mp z]; exact .inr (tm l a rfl rfl)
  · have hn : ∀ l, y ≠ .tl l := fun l z => hd ⟨l, z⟩
    have e3 : IR.own y S = .ok y S := by
      cases y with
      | tl l => exact absurd rfl (hn l)
      | _ => rfl
    rw [e3] at h; cases h
    exact ⟨μ1, e, R, r.rep hn, WExt.refl, fun a ha => .inl ha⟩
end
/-- a turn of a comprehension -/
def lcF (g : IR.G) (call : Nat → List IR.D → IR.M IR.D) (t : IR.Tg) (mc : IR.Env → IR.M Bool) (z : IR.E) (ρ : IR.Env) : IR.D → IR.M (Option IR.D) := fun x => (IR.setTg t ρ x).bind fun ρ' => (mc ρ').bind fun b =>
  if b then (IR.ev g call z ρ').bind fun y => (IR.own y).bind fun y => IR.M.pure (some y) else IR.M.pure none
section
variable {D : Wd} {X : Cx} {c : Ctx} {k : Nat} {F : Fm} {pos : Pos} {a b e o tg elt iter : Expr} {es : List Expr} {call : Nat → List IR.D → IR.M IR.D} {x y z : IR.E} {scope : Scope}
theorem bind_ok {α β : Type} {r : IR.Res α} {f : α → IR.M β} {b : β} {S : IR.Sto} (h : r.bind f = .ok b S) : ∃ a S1, r = .ok a S1 ∧ f a S1 = .ok b S := by
  cases r with
  | ok a S1 => exact ⟨a, S1, rfl, h⟩
  | exc c fs S => cases h
  | bad => cases h
/-- the invariant of the walk: what is gathered so far -/
structure LcI (D : Wd) (μ1 : List Addr) (H1 : Hp) (Da : Addr) (S' : IR.Sto) (acc : List IR.D) (H : Hp) : Prop where
  ex : ∃ μ' vacc, Ext μ1 H1 μ' H ∧ Rel D.N μ' S' H ∧ H Da = some (.lst vacc) ∧ Da ∉ μ' ∧ Reps D.N μ' H acc vacc
theorem wipe_wipe {σ : L2.St} {is : List Nat} : wipe (wipe σ is) is = wipe σ is := by
  have set_wipe : ∀ (js : List Nat) (σ : L2.St) (i : Nat), i ∈ js → (wipe σ js).set i none = wipe σ js := fun js => by
    induction js with
    | nil => exact fun _ _ h => by cases h
    | cons j js ih =>
      intro σ i h
      show ((wipe σ js).set j none).set i none = (wipe σ js).set j none
      by_cases e : i = j
      · rw [e, List.set_set]
      · rw [List.set_comm _ _ (Ne.symm e), ih σ i ((List.mem_cons.mp h).resolve_left e)]
  have aux : ∀ js : List Nat, (∀ j ∈ js, j ∈ is) → wipe (wipe σ is) js = wipe σ is := fun js => by
    induction js with
    | nil => exact fun _ => rfl
    | cons j js ih =>
      intro h
      show (wipe (wipe σ is) js).set j none = _
      rw [ih fun i hi => h i (List.mem_cons_of_mem _ hi), set_wipe is σ j (h j List.mem_cons_self)]
  exact aux is fun _ h => h
/-- one turn -/
theorem lc_turn {t : IR.Tg} {gt : TG} {tt : TT} {mc : IR.Env → IR.M Bool} {μ1 μ2 : List Addr} {H1 H2 H3 : Hp} {S2 SF : IR.Sto} {Da : Addr} {acc lF : List IR.D} {vacc : List V} {σ : L2.St} {ρ : IR.Env} {d : IR.D} {v : V} {rest : List IR.D → IR.M (List IR.D)} {Nx : Hp → Prop}
    (ht : ∀ {μ S H ρ σ d v Q}, Rel D.N μ S H → RSt D.N μ H ρ σ → Rep D.N μ H d v → GG D.N Fm0 μ H (IR.setTg t ρ d S) (fun ρ' _ μ' H' => ∀ σ', RSt D.N μ' H' ρ' σ' → wipe σ' (tgSlots t) = wipe σ (tgSlots t) → Q σ' H') → gt v σ H Q)
    (hc : ∀ σ H Q, tT D.N Fm0 mc σ H Q → tt σ H Q) (hD : H1 Da = none) (e2 : Ext μ1 H1 μ2 H2) (hDa : H2 Da = some (.lst vacc)) (hn : Da ∉ μ2) (rs : Reps D.N μ2 H2 acc vacc) (hρ : RSt D.N μ1 H1 ρ σ)
    (e3 : Ext μ2 H2 μ2 H3) (R3 : Rel D.N μ2 S2 H3) (rd : Rep D.N μ2 H3 d v)
    (h : (lcF D.g call t mc z ρ d S2).bind (fun o => match o with
      | none => rest acc
      | some y => if acc.length < IR.LINE then rest (acc ++ [y]) else IR.M.bad) = .ok lF SF)
    (hNx : ∀ S' acc' H', LcI D μ1 H1 Da S' acc' H' → rest acc' S' = .ok lF SF → Nx H') :
    gt v (wipe σ (tgSlots t)) H3 fun σ2 H2 => wipe σ2 (tgSlots t) = wipe σ (tgSlots t) ∧ tt σ2 H2 fun b H3 =>
      if b = true then tV D Fm0 call z σ2 H3 fun y H4 => ∃ acc, H4 Da = some (.lst acc) ∧ acc.length < sizeLine ∧ Nx (upd H4 Da (.lst (acc ++ [y]))) else Nx H3 := by
  obtain ⟨o, S5, h1, h2⟩ := bind_ok h
  obtain ⟨ρ4, S4, h3, h4⟩ := bind_ok (r := IR.setTg t ρ d S2) h1
  have hDa3 := e3.keep _ _ hn hDa
  refine ht (ρ := wipeE ρ (tgSlots t)) R3 (((hρ.mono e2.w).mono e3.w).wipe _) rd ?_
  rw [setTg_wipe, h3]
  intro μ4 H4 e4 R4 σ4 hρ4 hw
  refine ⟨by rw [hw]; exact wipe_wipe, hc _ _ _ ⟨μ4, S4, ρ4, trivial, R4, hρ4, ?_⟩⟩
  obtain ⟨bb, S6, h5, h6⟩ := bind_ok (r := mc ρ4 S4) h4
  rw [h5]
  intro μ6 H6 e6 R6
  have hDa6 := (e4.trans e6).keep _ _ hn hDa3
  have nin : ∀ {μ7 H7}, Ext μ2 H3 μ7 H7 → Da ∉ μ7 := fun e z => (e.new _ z).elim hn fun q => by rw [hDa3] at q; cases q
  cases bb with
  | false =>
    rw [if_neg (by decide)] at h6
    cases h6
    show Nx H6
    exact hNx _ acc _ ⟨μ6, vacc, e2.trans (e3.trans (e4.trans e6)), R6, hDa6, nin (e4.trans e6), ((rs.mono e3.w).mono e4.w).mono e6.w⟩ h2
  | true =>
    rw [if_pos rfl] at h6
    show tV D Fm0 call z σ4 H6 fun y H4 => ∃ acc, H4 Da = some (.lst acc) ∧ acc.length < sizeLine ∧ Nx (upd H4 Da (.lst (acc ++ [y])))
    obtain ⟨yy, S7, h7, h8⟩ := bind_ok (r := IR.ev D.g call z ρ4 S6) h6
    obtain ⟨y', S8, h9, h10⟩ := bind_ok (r := IR.own yy S7) h8
    cases h10
    simp only at h2
    split at h2
    · rename_i hlt
      refine ⟨μ6, S6, ρ4, trivial, R6, hρ4.mono e6.w, ?_⟩
      rw [h7]
      intro μ7 H7 e7 R7 u ru tm
      have hDa7 := e7.keep _ _ (nin (e4.trans e6)) hDa6
      obtain ⟨μ8, e8, R8, r8, w8, m8⟩ := own_ok h9 e7 R7 ru tm
      have hn8 : Da ∉ μ8 := nin ((e4.trans e6).trans e8)
      have rs8 := (((rs.mono e3.w).mono e4.w).mono e6.w).mono e8.w
      refine ⟨vacc, hDa7, by rw [← rs.length]; exact Nat.lt_of_lt_of_le hlt (by decide), hNx _ _ _ ⟨μ8, vacc ++ [u], ((e2.trans (e3.trans (e4.trans e6))).trans e8).updNew hD, R8.side hDa7 hn8, upd_same, hn8, (rs8.append (.cons r8 .nil)).mono (WExt.side hDa7)⟩ h2⟩
    · cases h2
/-- the reading of a comprehension -/
theorem lc_core' {t : IR.Tg} {gt : TG} {tt : TT} {mc : IR.Env → IR.M Bool} {m : IR.Env → IR.M IR.Src} {σ : L2.St} {H : Hp} {Q : VK} {μ : List Addr} {S : IR.Sto} {ρ : IR.Env}
    (ht : ∀ {μ S H ρ σ d v Q}, Rel D.N μ S H → RSt D.N μ H ρ σ → Rep D.N μ H d v → GG D.N Fm0 μ H (IR.setTg t ρ d S) (fun ρ' _ μ' H' => ∀ σ', RSt D.N μ' H' ρ' σ' → wipe σ' (tgSlots t) = wipe σ (tgSlots t) → Q σ' H') → gt v σ H Q)
    (hc : ∀ σ H Q, tT D.N Fm0 mc σ H Q → tt σ H Q) (hI : F.I σ) (R : Rel D.N μ S H) (hρ : RSt D.N μ H ρ σ)
    (g : GV D.N F μ H (((m ρ).bind fun s => (IR.noExc (IR.lcSrc (lcF D.g call t mc z ρ) s)).bind fun l => IR.M.pure (.tl l)) S) Q) :
    tLc (tIt D F m) gt tt (tV D Fm0 call z) (tgSlots t) σ H Q := by
  refine ⟨μ, S, ρ, hI, R, hρ, ?_⟩
  have g : GV D.N F μ H ((m ρ S).bind fun s => (IR.noExc (IR.lcSrc (lcF D.g call t mc z ρ) s)).bind fun l => IR.M.pure (.tl l)) Q := g
  cases e : m ρ S with
  | bad => rw [e] at g; exact g
  | exc c fs S => rw [e] at g; exact g
  | ok s S1 =>
    rw [e] at g
    refine fun μ1 H1 e1 R1 J hJ Da hD => ?_
    have g1 : GV D.N F μ1 H1 ((IR.noExc (IR.lcSrc (lcF D.g call t mc z ρ) s) S1).bind fun l => IR.M.pure (.tl l)) Q := GV.base e1 g
    obtain ⟨lF, SF, hF, fin⟩ : ∃ lF SF, IR.lcSrc (lcF D.g call t mc z ρ) s S1 = .ok lF SF ∧ ∀ H', LcI D μ1 H1 Da SF lF H' → Q (.ref Da) H' := by
      cases er : IR.lcSrc (lcF D.g call t mc z ρ) s S1 with
      | bad => rw [show IR.noExc (IR.lcSrc (lcF D.g call t mc z ρ) s) S1 = .bad by unfold IR.noExc; rw [er]] at g1; exact g1.elim
      | exc c fs S => rw [show IR.noExc (IR.lcSrc (lcF D.g call t mc z ρ) s) S1 = .bad by unfold IR.noExc; rw [er]] at g1; exact g1.elim
      | ok lF SF =>
        rw [show IR.noExc (IR.lcSrc (lcF D.g call t mc z ρ) s) S1 = .ok lF SF by unfold IR.noExc; rw [er]] at g1
        refine ⟨lF, SF, rfl, fun H' ⟨μ', vacc, x1, x2, x3, x4, x5⟩ => ?_⟩
        exact g1 μ' H' x1 x2 (.ref Da) ⟨Da, vacc, rfl, x3, x4, x5⟩ fun l a _ z => by cases z; exact hD
    have i0 : LcI D μ1 H1 Da S1 [] (upd H1 Da (.lst [])) := ⟨μ1, [], Ext.laid hD, R1.laid hD, upd_same, R1.fresh hD, .nil⟩
    have hρ1 := hρ.mono e1.w
    cases s with
    | dk _ _ => exact hJ.elim
    | st l =>
      refine ⟨fun i m H => m = l.length - i ∧ i ≤ l.length ∧ ∃ S' acc, LcI D μ1 H1 Da S' acc H ∧ IR.lcSt (lcF D.g call t mc z ρ) (l.drop i) acc S' = .ok lF SF, ⟨_, rfl, Nat.zero_le _, S1, [], i0, hF⟩, ?_⟩
      rintro i m' H2 ⟨rfl, hi2, S2, acc, ⟨μ2, vacc, e2, R2, x3, x4, x5⟩, h2⟩
      obtain ⟨go, stop⟩ := hJ μ2 S2 H2 e2 R2 i
      by_cases hlt : i < l.length
      · obtain ⟨k1, k2⟩ := go l[i] (List.getElem?_eq_getElem hlt)
        rw [List.drop_eq_getElem_cons hlt] at h2
        refine .inr ⟨k1, _, fun H' w => ⟨l.length - (i + 1), by omega, w⟩, fun x H3 y => ?_⟩
        obtain ⟨e3, R3, rd⟩ := k2 x H3 y
        exact lc_turn (rest := fun acc => IR.lcSt (lcF D.g call t mc z ρ) (l.drop (i + 1)) acc) ht hc hD e2 x3 x4 x5 hρ1 e3 R3 rd h2 fun S' acc' H' q1 q2 => ⟨rfl, hlt, S', acc', q1, q2⟩
      · have e : i = l.length := by omega
        subst e
        rw [List.drop_length] at h2
        cases h2
        exact .inl ⟨stop (Nat.le_refl _), fin H2 ⟨μ2, vacc, e2, R2, x3, x4, x5⟩⟩
    | rf en n =>
      obtain ⟨l0, _, hF⟩ : ∃ l, S1[n]? = some (.lst l) ∧ IR.lcRf (lcF D.g call t mc z ρ) en n l.length 0 [] S1 = .ok lF SF := by
        simp only [IR.lcSrc] at hF
        split at hF
        · rename_i l e; exact ⟨l, e, hF⟩
        · cases hF
      refine ⟨fun i m H => ∃ S' acc, LcI D μ1 H1 Da S' acc H ∧ IR.lcRf (lcF D.g call t mc z ρ) en n m i acc S' = .ok lF SF, ⟨_, S1, [], i0, hF⟩, ?_⟩
      rintro i m' H2 ⟨S2, acc, ⟨μ2, vacc, e2, R2, x3, x4, x5⟩, h2⟩
      cases m' with
      | zero =>
        simp only [IR.lcRf] at h2
        split at h2
        · rename_i l e
          obtain ⟨go, stop⟩ := hJ μ2 S2 H2 l e2 R2 e i
          split at h2
          · rename_i hle
            cases h2
            exact .inl ⟨stop hle, fin H2 ⟨μ2, vacc, e2, R2, x3, x4, x5⟩⟩
          · cases h2
        · cases h2
      | succ m' =>
        simp only [IR.lcRf] at h2
        split at h2
        · rename_i l e
          obtain ⟨go, stop⟩ := hJ μ2 S2 H2 l e2 R2 e i
          split at h2
          · rename_i hn
            cases h2
            exact .inl ⟨stop (List.getElem?_eq_none_iff.mp hn), fin H2 ⟨μ2, vacc, e2, R2, x3, x4, x5⟩⟩
          · rename_i d hd
            obtain ⟨k1, k2⟩ := go d hd
            refine .inr ⟨k1, _, fun H' w => ⟨m', Nat.lt_succ_self _, w⟩, fun x H3 y => ?_⟩
            obtain ⟨e3, R3, rd⟩ := k2 x H3 y
            exact lc_turn (rest := fun acc => IR.lcRf (lcF D.g call t mc z ρ) en n m' (i + 1) acc) ht hc hD e2 x3 x4 x5 hρ1 e3 R3 rd h2 fun S' acc' H' q1 q2 => ⟨S', acc', q1, q2⟩
        · cases h2
    | zp n r =>
      obtain ⟨l0, r0, _, _, hF⟩ : ∃ l k, S1[n]? = some (.lst l) ∧ S1[r]? = some (.lst k) ∧ IR.lcZp (lcF D.g call t mc z ρ) n r (l.zip k).length 0 [] S1 = .ok lF SF := by
        simp only [IR.lcSrc] at hF
        split at hF
        · rename_i l k e e'; exact ⟨l, k, e, e', hF⟩
        · cases hF
      refine ⟨fun i m H => ∃ S' acc, LcI D μ1 H1 Da S' acc H ∧ IR.lcZp (lcF D.g call t mc z ρ) n r m i acc S' = .ok lF SF, ⟨_, S1, [], i0, hF⟩, ?_⟩
      rintro i m' H2 ⟨S2, acc, ⟨μ2, vacc, e2, R2, x3, x4, x5⟩, h2⟩
      cases m' with
      | zero =>
        simp only [IR.lcZp] at h2
        split at h2
        · rename_i l k e e'
          obtain ⟨go, stop⟩ := hJ μ2 S2 H2 l k e2 R2 e e' i
          split at h2
          · rename_i hle
            cases h2
            exact .inl ⟨stop hle, fin H2 ⟨μ2, vacc, e2, R2, x3, x4, x5⟩⟩
          · cases h2
        · cases h2
      | succ m' =>
        simp only [IR.lcZp] at h2
        split at h2
        · rename_i l k e e'
          obtain ⟨go, stop⟩ := hJ μ2 S2 H2 l k e2 R2 e e' i
          split at h2
          · rename_i hn
            cases h2
            exact .inl ⟨stop (List.getElem?_eq_none_iff.mp hn), fin H2 ⟨μ2, vacc, e2, R2, x3, x4, x5⟩⟩
          · rename_i p hd
            obtain ⟨k1, k2⟩ := go p hd
            refine .inr ⟨k1, _, fun H' w => ⟨m', Nat.lt_succ_self _, w⟩, fun x H3 y => ?_⟩
            obtain ⟨e3, R3, rd⟩ := k2 x H3 y
            exact lc_turn (rest := fun acc => IR.lcZp (lcF D.g call t mc z ρ) n r m' (i + 1) acc) ht hc hD e2 x3 x4 x5 hρ1 e3 R3 rd h2 fun S' acc' H' q1 q2 => ⟨S', acc', q1, q2⟩
        · cases h2
theorem TgOk.ht {X' : Cx} {t : IR.Tg} {gt : TG} (h : TgOk D X' Fm0 tg t gt) : ∀ {μ S H ρ σ d v Q}, Rel D.N μ S H → RSt D.N μ H ρ σ → Rep D.N μ H d v → GG D.N Fm0 μ H (IR.setTg t ρ d S) (fun ρ' _ μ' H' => ∀ σ', RSt D.N μ' H' ρ' σ' → wipe σ' (tgSlots t) = wipe σ (tgSlots t) → Q σ' H') → gt v σ H Q :=
  fun {μ S H ρ σ d v Q} R hρ rd g => h.ok trivial R hρ rd (GG.imp g fun ρ' S' μ' H' _ _ k σ' _ hρ' hw => k σ' hρ' (hw _ (by cases t with | var i => exact .inr ⟨i, rfl, rfl⟩ | tup is => exact .inl rfl)))
/-- [elt for tg in iter] -/
theorem s_lc0 {t : IR.Tg} {gt : TG} {own : List (Str × Nat)} {it : IR.It} (C : Cm D X c k F) (hi : PI X tg iter (tIt D F (IR.evIt D.g call it))) (ok : BlkOk c.N c.sc scope own) (hw : own.map (·.2) = tgSlots t)
    (hg : ∀ (s : Shared) (H : Hp) (A : Addr) (cl : List (Str × Addr)) (fp : List Addr), TgOk D (X.blk s H scope (compEnvC scope cl A X.env) fp) Fm0 tg t gt)
    (he : ∀ (s : Shared) (H : Hp) (A : Addr) (cl : List (Str × Addr)) (fp : List Addr), PE (X.blk s H scope (compEnvC scope cl A X.env) fp) elt (tV D Fm0 call z)) (hs : ∀ x, foldedSetIterable iter X.env x = pure x) (hh : c.hot = false := by rfl) :
    PE X (.ListComp elt [⟨tg, iter, [], 0⟩] scope pos) (tV D F call (.lc it t none z)) := by
  refine ⟨fun pins s0 σ H Q I q => (pe_lc (C.calm hh) (by rw [C.N]; exact C.nd) hi (by rw [C.N, C.sc]; exact ok) (fun s H A cl fp => (hg s H A cl fp).pg) (fun s H A cl fp => pts_nil) he hs).run pins s0 σ H Q I ?_⟩
  obtain ⟨μ, S, ρ, hI, R, hρ, g⟩ := q
  rw [hw]
  exact lc_core' (mc := fun _ => IR.M.pure true) (hg s0 H 0 [] []).ht (fun σ H Q ⟨μ, S, ρ, _, R, hρ, g⟩ => g μ H (Ext.refl _ _) R) hI R hρ g
theorem s_lc1 {t : IR.Tg} {gt : TG} {own : List (Str × Nat)} {it : IR.It} {cE : Expr} (C : Cm D X c k F) (hi : PI X tg iter (tIt D F (IR.evIt D.g call it))) (ok : BlkOk c.N c.sc scope own) (hw : own.map (·.2) = tgSlots t)
    (hg : ∀ (s : Shared) (H : Hp) (A : Addr) (cl : List (Str × Addr)) (fp : List Addr), TgOk D (X.blk s H scope (compEnvC scope cl A X.env) fp) Fm0 tg t gt)
    (hc : ∀ (s : Shared) (H : Hp) (A : Addr) (cl : List (Str × Addr)) (fp : List Addr), PT (X.blk s H scope (compEnvC scope cl A X.env) fp) cE (tB' D Fm0 call y))
    (he : ∀ (s : Shared) (H : Hp) (A : Addr) (cl : List (Str × Addr)) (fp : List Addr), PE (X.blk s H scope (compEnvC scope cl A X.env) fp) elt (tV D Fm0 call z)) (hs : ∀ x, foldedSetIterable iter X.env x = pure x) (hh : c.hot = false := by rfl) :
    PE X (.ListComp elt [⟨tg, iter, [cE], 0⟩] scope pos) (tV D F call (.lc it t (some y) z)) := by
  refine ⟨fun pins s0 σ H Q I q => (pe_lc (C.calm hh) (by rw [C.N]; exact C.nd) hi (by rw [C.N, C.sc]; exact ok) (fun s H A cl fp => (hg s H A cl fp).pg) (fun s H A cl fp => pts_one (hc s H A cl fp)) he hs).run pins s0 σ H Q I ?_⟩
  obtain ⟨μ, S, ρ, hI, R, hρ, g⟩ := q
  rw [hw]
  refine lc_core' (mc := fun ρ => (IR.ev D.g call y ρ).bind IR.truth) (hg s0 H 0 [] []).ht (fun σ H Q h => h) hI R hρ ?_
  have e : (lcF D.g call t (fun ρ => (IR.ev D.g call y ρ).bind IR.truth) z ρ) = fun x => (IR.setTg t ρ x).bind fun ρ' => (IR.ev D.g call y ρ').bind fun c => (IR.truth c).bind fun b => if b then (IR.ev D.g call z ρ').bind fun y => (IR.own y).bind fun y => IR.M.pure (some y) else IR.M.pure none := by
    funext x
    simp only [lcF, IR.M.bind_assoc]
  rw [e]
  exact g
end
end IRS

namespace IRS
open PySem PySem.Spec PyProof.Rows L2
/-! ### each operation -/
section
variable {D : Wd} {X : Cx} {c : Ctx} {k : Nat} {F : Fm} {pos p : Pos} {a b e o tg elt iter : Expr} {es : List Expr} {call : Nat → List IR.D → IR.M IR.D} {x y z : IR.E} {n : Str} {o' : IR.Op}
theorem Cm.gl (C : Cm D X c k F) (h : c.sc.names.lookup n = some .globalImplicit) : Gl X n := by
  show X.env.scope.names.lookup n = _
  rw [C.sc]; exact h
theorem Cm.mgn (C : Cm D X c k F) {v : Option Value} (h : D.mg n = v) : X.mg n = v := by rw [C.mg]; exact h
def visB (sc : Scope) (x : Str) : Bool := match sc.names.lookup x with
  | some .local => true
  | some .cell => true
  | some .free => true
  | _ => false
theorem vis_of {sc : Scope} {x : Str} (h : visB sc x = true) : Vis sc x := by
  unfold visB at h
  split at h
  · exact .inl (by assumption)
  · exact .inr (.inl (by assumption))
  · exact .inr (.inr (by assumption))
  · cases h
def locB (sc : Scope) (x : Str) : Bool := match sc.names.lookup x with
  | some .local => true
  | some .cell => true
  | _ => false
theorem loc_of {sc : Scope} {x : Str} (h : locB sc x = true) : Loc sc x := by
  unfold locB at h
  split at h
  · exact .inl (by assumption)
  · exact .inr (by assumption)
  · cases h
def stoB (c : Ctx) (x : Str) : Bool := c.fs x || (match c.sc.names.lookup x with
  | some .local => true
  | _ => false)
theorem sto_of {c : Ctx} {x : Str} (h : stoB c x = true) : c.fs x = true ∨ c.sc.names.lookup x = some .local := by
  unfold stoB at h
  rcases Bool.or_eq_true_iff.mp h with h | h
  · exact .inl h
  · split at h
    · exact .inr (by assumption)
    · cases h
/-- a name -/
theorem e_var (C : Cm D X c k F) {i : Nat} (hN : c.N[i]? = some n) (hv : visB c.sc n = true) (hd : (n == ("__debug__" : Str)) = false := by rfl) (hcd : (n == ("__classdict__" : Str)) = false := by rfl) : PE X (.Name n pos) (tV D F call (.var i)) := s_var C hN (vis_of hv) hd hcd
theorem e_int {i : Int} {j} : PE X (.Constant (.int i) j pos) (tV D F call (.c (.int i))) := s_c pe_int fun _ _ => .int i
theorem e_bl {i : Bool} {j} : PE X (.Constant (.bool i) j pos) (tV D F call (.c (.bl i))) := s_c pe_bl fun _ _ => .bl i
theorem e_non {j} : PE X (.Constant .none j pos) (tV D F call (.c .non)) := s_c pe_non fun _ _ => .non
theorem e_str {t : IR.Txt} {j} (h : sT t = n) : PE X (.Constant (.str n) j pos) (tV D F call (.c (.str t))) := s_c pe_str fun _ _ => by rw [← h]; exact .str t
/-- a number of the module -/
theorem e_gint (C : Cm D X c k F) {i : Int} {tk : Tok} (hg : c.sc.names.lookup n = some .globalImplicit) (hm : D.mg n = some (.int i tk)) (hd : (n == ("__debug__" : Str)) = false := by rfl) : PE X (.Name n pos) (tV D F call (.c (.int i))) := s_c (pe_glob (v := .int i) (C.gl hg) (C.mgn hm) ⟨_, rfl⟩ hd) fun _ _ => .int i
theorem e_fn (C : Cm D X c k F) {i : Nat} {f : Addr} (hg : c.sc.names.lookup n = some .globalImplicit) (hm : D.mg n = some (.ref f)) (hf : D.N.fnA i = some f) (hd : (n == ("__debug__" : Str)) = false := by rfl) : PE X (.Name n pos) (tV D F call (.c (.fn i))) := s_c (pe_glob (v := .ref f) (C.gl hg) (C.mgn hm) rfl hd) fun _ _ => .fn hf
theorem e_add (C : Cm D X c k F) (ha : PE X a (tV D F call x)) (hb : PE X b (tV D F call y)) : PE X (.BinOp a .Add b pos) (tV D F call (.op .add (.cons false x (.cons false y .nil)))) := s_op2 op_addX ha hb fun R ra rb g => by rw [C.K]; exact o_add R ra rb g
theorem e_sub (C : Cm D X c k F) (ha : PE X a (tV D F call x)) (hb : PE X b (tV D F call y)) : PE X (.BinOp a .Sub b pos) (tV D F call (.op .sub (.cons false x (.cons false y .nil)))) := s_op2 op_sub ha hb fun R ra rb g => o_sub R ra rb g
theorem e_mul (C : Cm D X c k F) (ha : PE X a (tV D F call x)) (hb : PE X b (tV D F call y)) : PE X (.BinOp a .Mult b pos) (tV D F call (.op .mul (.cons false x (.cons false y .nil)))) := s_op2 op_mulX ha hb fun R ra rb g => o_mul R ra rb g
theorem e_fdiv (C : Cm D X c k F) (ha : PE X a (tV D F call x)) (hb : PE X b (tV D F call y)) : PE X (.BinOp a .FloorDiv b pos) (tV D F call (.op .fdiv (.cons false x (.cons false y .nil)))) := s_op2 op_fdivW ha hb fun R ra rb g => o_fdiv R ra rb g
theorem e_mod (C : Cm D X c k F) (ha : PE X a (tV D F call x)) (hb : PE X b (tV D F call y)) : PE X (.BinOp a .Mod b pos) (tV D F call (.op .mod (.cons false x (.cons false y .nil)))) := s_op2 op_mod ha hb fun R ra rb g => o_mod R ra rb g
theorem e_pow (C : Cm D X c k F) (ha : PE X a (tV D F call x)) (hb : PE X b (tV D F call y)) : PE X (.BinOp a .Pow b pos) (tV D F call (.op .pow (.cons false x (.cons false y .nil)))) := s_op2 op_pow ha hb fun R ra rb g => o_pow R ra rb g
theorem e_neg (C : Cm D X c k F) (ha : PE X a (tV D F call x)) : PE X (.UnaryOp .USub a pos) (tV D F call (.op .neg (.cons false x .nil))) := s_un un_neg ha fun R ra g => o_neg R ra g
theorem e_lt (C : Cm D X c k F) (ha : PE X a (tV D F call x)) (hb : PE X b (tV D F call y)) : PE X (.Compare a [.Lt] [b] pos) (tV D F call (.op .lt (.cons false x (.cons false y .nil)))) := s_cmp2 (op_ltX (by have := C.hu; omega)) ha hb (nomark _) fun R ra rb g => by rw [C.K]; exact o_lt R ra rb g
theorem e_le (C : Cm D X c k F) (ha : PE X a (tV D F call x)) (hb : PE X b (tV D F call y)) : PE X (.Compare a [.LtE] [b] pos) (tV D F call (.op .le (.cons false x (.cons false y .nil)))) := s_cmp2 op_le ha hb (nomark _) fun R ra rb g => o_le R ra rb g
theorem e_gt (C : Cm D X c k F) (ha : PE X a (tV D F call x)) (hb : PE X b (tV D F call y)) : PE X (.Compare a [.Gt] [b] pos) (tV D F call (.op .gt (.cons false x (.cons false y .nil)))) := s_cmp2 op_gt ha hb (nomark _) fun R ra rb g => o_gt R ra rb g
theorem e_ge (C : Cm D X c k F) (ha : PE X a (tV D F call x)) (hb : PE X b (tV D F call y)) : PE X (.Compare a [.GtE] [b] pos) (tV D F call (.op .ge (.cons false x (.cons false y .nil)))) := s_cmp2 op_ge ha hb (nomark _) fun R ra rb g => o_ge R ra rb g
theorem e_eq (C : Cm D X c k F) (ha : PE X a (tV D F call x)) (hb : PE X b (tV D F call y)) : PE X (.Compare a [.Eq] [b] pos) (tV D F call (.op .eq (.cons false x (.cons false y .nil)))) := s_cmp2 (op_eqD (by have := C.hu; omega)) ha hb (nomark _) fun R ra rb g => by rw [C.K]; exact o_eq R ra rb g
theorem e_ne (C : Cm D X c k F) (ha : PE X a (tV D F call x)) (hb : PE X b (tV D F call y)) : PE X (.Compare a [.NotEq] [b] pos) (tV D F call (.op .ne (.cons false x (.cons false y .nil)))) := s_cmp2 (op_neD (by have := C.hu; omega)) ha hb (nomark _) fun R ra rb g => by rw [C.K]; exact o_ne R ra rb g
theorem e_in (C : Cm D X c k F) (ha : PE X a (tV D F call x)) (hb : PE X b (tV D F call y)) (hm : behindInMarks .In b = false := by rfl) : PE X (.Compare a [.In] [b] pos) (tV D F call (.op .isin (.cons false x (.cons false y .nil)))) := s_cmp2 (op_inX C.hu) ha hb hm fun R ra rb g => by rw [C.K]; exact o_in R ra rb g
theorem e_notin (C : Cm D X c k F) (ha : PE X a (tV D F call x)) (hb : PE X b (tV D F call y)) (hm : behindInMarks .NotIn b = false := by rfl) : PE X (.Compare a [.NotIn] [b] pos) (tV D F call (.op .notin (.cons false x (.cons false y .nil)))) := s_cmp2 (op_notInX C.hu) ha hb hm fun R ra rb g => by rw [C.K]; exact o_notin R ra rb g
theorem t_lt (C : Cm D X c k F) (ha : PE X a (tV D F call x)) (hb : PE X b (tV D F call y)) : PT X (.Compare a [.Lt] [b] pos) (tB' D F call (.op .lt (.cons false x (.cons false y .nil)))) := s_cmpT C (op_ltX (by have := C.hu; omega)) ha hb (nomark _) (by simp) fun R ra rb g => by rw [C.K]; exact o_lt R ra rb g
theorem t_le (C : Cm D X c k F) (ha : PE X a (tV D F call x)) (hb : PE X b (tV D F call y)) : PT X (.Compare a [.LtE] [b] pos) (tB' D F call (.op .le (.cons false x (.cons false y .nil)))) := s_cmpT C op_le ha hb (nomark _) (by simp) fun R ra rb g => o_le R ra rb g
theorem t_gt (C : Cm D X c k F) (ha : PE X a (tV D F call x)) (hb : PE X b (tV D F call y)) : PT X (.Compare a [.Gt] [b] pos) (tB' D F call (.op .gt (.cons false x (.cons false y .nil)))) := s_cmpT C op_gt ha hb (nomark _) (by simp) fun R ra rb g => o_gt R ra rb g
theorem t_ge (C : Cm D X c k F) (ha : PE X a (tV D F call x)) (hb : PE X b (tV D F call y)) : PT X (.Compare a [.GtE] [b] pos) (tB' D F call (.op .ge (.cons false x (.cons false y .nil)))) := s_cmpT C op_ge ha hb (nomark _) (by simp) fun R ra rb g => o_ge R ra rb g
theorem t_eq (C : Cm D X c k F) (ha : PE X a (tV D F call x)) (hb : PE X b (tV D F call y)) : PT X (.Compare a [.Eq] [b] pos) (tB' D F call (.op .eq (.cons false x (.cons false y .nil)))) := s_cmpT C (op_eqD (by have := C.hu; omega)) ha hb (nomark _) (by simp) fun R ra rb g => by rw [C.K]; exact o_eq R ra rb g
theorem t_ne (C : Cm D X c k F) (ha : PE X a (tV D F call x)) (hb : PE X b (tV D F call y)) : PT X (.Compare a [.NotEq] [b] pos) (tB' D F call (.op .ne (.cons false x (.cons false y .nil)))) := s_cmpT C (op_neD (by have := C.hu; omega)) ha hb (nomark _) (by simp) fun R ra rb g => by rw [C.K]; exact o_ne R ra rb g
theorem t_in (C : Cm D X c k F) (ha : PE X a (tV D F call x)) (hb : PE X b (tV D F call y)) (hm : behindInMarks .In b = false := by rfl) : PT X (.Compare a [.In] [b] pos) (tB' D F call (.op .isin (.cons false x (.cons false y .nil)))) := s_cmpT C (op_inX C.hu) ha hb hm (by simp) fun R ra rb g => by rw [C.K]; exact o_in R ra rb g
theorem t_notin (C : Cm D X c k F) (ha : PE X a (tV D F call x)) (hb : PE X b (tV D F call y)) (hm : behindInMarks .NotIn b = false := by rfl) : PT X (.Compare a [.NotIn] [b] pos) (tB' D F call (.op .notin (.cons false x (.cons false y .nil)))) := s_cmpT C (op_notInX C.hu) ha hb hm (by simp) fun R ra rb g => by rw [C.K]; exact o_notin R ra rb g
/-- what is no test of its own kind is asked for its truth -/
theorem t_of (C : Cm D X c k F) (ha : PE X a (tV D F call x)) (he : ∀ whole, isTrue a X.env whole = (do let v ← whole; standAt a.pos; holding [v] (truthy v)) := by intro _; rfl) : PT X a (tB' D F call x) := s_truth C ha he
theorem w_and1 (h : PT X a (tB' D F call x)) : PW X (.BoolOp .And [a] pos) (tB' D F call x) := pw_and1 h
theorem w_or1 (h : PT X a (tB' D F call x)) : PW X (.BoolOp .Or [a] pos) (tB' D F call x) := pw_or1 h
theorem t_w {t : TT} (h : PW X a t) : PT X a t := ⟨fun pins s σ H Q I q => h.run _ pins s σ H Q I q⟩
theorem e_isN (ha : PE X a (tV D F call x)) {j} {p2 : Pos} : PE X (.Compare a [.Is] [.Constant .none j p2] pos) (tV D F call (.op .isN (.cons false x .nil))) := by
  refine PE.weak (pe_cmpR op_isN ha pe_non (nomark _)) fun σ H Q q => ?_
  obtain ⟨μ, S, ρ, hI, R, hρ, g⟩ := q
  have g : GV D.N F μ H (((IR.evs D.g call (.cons false x .nil) ρ).bind fun l => IR.evOp .isN l) S) Q := g
  rw [evs1] at g
  exact one (f := fun a => IR.evOp .isN [a]) hI R hρ g fun μ2 S2 H2 p p' R2 rp g2 => ⟨rfl, o_isN R2 rp g2⟩
theorem e_notN (ha : PE X a (tV D F call x)) {j} {p2 : Pos} : PE X (.Compare a [.IsNot] [.Constant .none j p2] pos) (tV D F call (.op .notN (.cons false x .nil))) := by
  refine PE.weak (pe_cmpR op_notN ha pe_non (nomark _)) fun σ H Q q => ?_
  obtain ⟨μ, S, ρ, hI, R, hρ, g⟩ := q
  have g : GV D.N F μ H (((IR.evs D.g call (.cons false x .nil) ρ).bind fun l => IR.evOp .notN l) S) Q := g
  rw [evs1] at g
  exact one (f := fun a => IR.evOp .notN [a]) hI R hρ g fun μ2 S2 H2 p p' R2 rp g2 => ⟨rfl, o_notN R2 rp g2⟩
/-- a value that is a truth, as a test -/
theorem t_cmp1 {op : CmpOp} {r : R2} {oo : IR.Op} (ho : OpR X (compareOp op) r) (ha : PE X a (tV D F call x)) {j} {p2 : Pos} (hm : behindInMarks op (.Constant .none j p2) = false) (hb : ∀ p S d S', IR.evOp oo [p] S = .ok d S' → ∃ b, d = .bl b)
    (h : ∀ {μ S H Q p p'}, Rel D.N μ S H → RepV D.N μ H p p' → GV D.N F μ H (IR.evOp oo [p] S) Q → r p' .non H Q) : PT X (.Compare a [op] [.Constant .none j p2] pos) (tB' D F call (.op oo (.cons false x .nil))) := by
  refine PT.weak (pt_cmpR ho ha pe_non hm) fun σ H Q q => ?_
  obtain ⟨μ, S, ρ, hI, R, hρ, g⟩ := q
  have g : GG D.N F μ H ((((IR.evs D.g call (.cons false x .nil) ρ).bind fun l => IR.evOp oo l).bind IR.truth) S) fun b _ _ H' => Q b H' := g
  rw [IR.M.bind_assoc, evs1] at g
  refine one' (f := fun a => (IR.evOp oo [a]).bind IR.truth) hI R hρ g fun μ2 S2 H2 p p' e2 R2 rp _ g2 => h R2 rp ?_
  have g2 := GG.base e2 g2
  have g2 : GG D.N F μ2 H2 ((IR.evOp oo [p] S2).bind IR.truth) fun b _ _ H' => Q b H' := g2
  cases er : IR.evOp oo [p] S2 with
  | bad => rw [er] at g2; exact g2
  | exc c fs S => rw [er] at g2; exact g2
  | ok d S3 =>
    obtain ⟨b, rfl⟩ := hb _ _ _ _ er
    rw [er] at g2
    exact fun μ' H' e R v rv _ => ⟨b, rv.bl, g2 μ' H' e R⟩
theorem t_isN (ha : PE X a (tV D F call x)) {j} {p2 : Pos} : PT X (.Compare a [.Is] [.Constant .none j p2] pos) (tB' D F call (.op .isN (.cons false x .nil))) :=
  t_cmp1 op_isN ha (nomark _) (fun p S d S' h => by cases h; exact ⟨_, rfl⟩) fun R rp g => ⟨rfl, o_isN R rp g⟩
theorem t_notN (ha : PE X a (tV D F call x)) {j} {p2 : Pos} : PT X (.Compare a [.IsNot] [.Constant .none j p2] pos) (tB' D F call (.op .notN (.cons false x .nil))) :=
  t_cmp1 op_notN ha (nomark _) (fun p S d S' h => by cases h; exact ⟨_, rfl⟩) fun R rp g => ⟨rfl, o_notN R rp g⟩
/-! ### built-in functions -/
abbrev A1 (e : Expr) (X : Cx) : Prop := starEach [e] X.env = (false, eval e X.env) :: starEach [] X.env
theorem s_b1 {r : List V → Hp → VK → Prop} (h : PE X e (tCB r (tAs D F call (.cons false x .nil)))) (ho : ∀ {μ S H Q d v}, Rel D.N μ S H → RepV D.N μ H d v → GV D.N F μ H (IR.evOp o' [d] S) Q → r [v] H Q) : PE X e (tV D F call (.op o' (.cons false x .nil))) :=
  s_b h fun R rs g => by
    cases rs with
    | cons r1 rr => cases rr; exact ho R r1.v g
theorem s_b2 {r : List V → Hp → VK → Prop} (h : PE X e (tCB r (tAs D F call (.cons false x (.cons false y .nil))))) (ho : ∀ {μ S H Q d v d2 v2}, Rel D.N μ S H → RepV D.N μ H d v → RepV D.N μ H d2 v2 → GV D.N F μ H (IR.evOp o' [d, d2] S) Q → r [v, v2] H Q) : PE X e (tV D F call (.op o' (.cons false x (.cons false y .nil)))) :=
  s_b h fun R rs g => by
    cases rs with
    | cons r1 rr =>
      cases rr with
      | cons r2 rr => cases rr; exact ho R r1.v r2.v g
theorem e_len (C : Cm D X c k F) (hg : c.sc.names.lookup ("len" : Str) = some .globalImplicit) (hm : D.mg "len" = none) (ha : PE X a (tV D F call x)) (hs : A1 a X) : PE X (.Call (.Name "len" p) [a] [] pos) (tV D F call (.op .len (.cons false x .nil))) :=
  s_b1 (pe_callB call_lenX (C.gl hg) (C.mgn hm) boot_len (s_cons ha s_nil hs) (he := hs)) fun R ra g => by rw [C.K]; exact o_len R ra g
theorem e_sum (C : Cm D X c k F) (hg : c.sc.names.lookup ("sum" : Str) = some .globalImplicit) (hm : D.mg "sum" = none) (ha : PE X a (tV D F call x)) (hs : A1 a X) (hh : c.hot = false := by rfl) : PE X (.Call (.Name "sum" p) [a] [] pos) (tV D F call (.op .sum (.cons false x .nil))) :=
  s_b1 (pe_callB (cr_sum (C.calm hh)) (C.gl hg) (C.mgn hm) boot_sum (s_cons ha s_nil hs) (he := hs)) fun R ra g => by rw [C.K]; exact o_sum R ra g
theorem e_all (C : Cm D X c k F) (hg : c.sc.names.lookup ("all" : Str) = some .globalImplicit) (hm : D.mg "all" = none) (ha : PE X a (tV D F call x)) (hs : A1 a X) (hh : c.hot = false := by rfl) : PE X (.Call (.Name "all" p) [a] [] pos) (tV D F call (.op .all (.cons false x .nil))) :=
  s_b1 (pe_callB (cr_all (C.calm hh)) (C.gl hg) (C.mgn hm) boot_all (s_cons ha s_nil hs) (he := hs)) fun R ra g => by rw [C.K]; exact o_all R ra g
theorem e_tuple (C : Cm D X c k F) (hg : c.sc.names.lookup ("tuple" : Str) = some .globalImplicit) (hm : D.mg "tuple" = none) (ha : PE X a (tV D F call x)) (hs : A1 a X) : PE X (.Call (.Name "tuple" p) [a] [] pos) (tV D F call (.op .tuple (.cons false x .nil))) :=
  s_b1 (pe_callTy call_tuple_of (C.gl hg) (C.mgn hm) boot_tuple (s_cons ha s_nil hs) (he := hs)) fun R ra g => by rw [C.K]; exact o_tuple R ra g
theorem e_list (C : Cm D X c k F) (hg : c.sc.names.lookup ("list" : Str) = some .globalImplicit) (hm : D.mg "list" = none) (ha : PE X a (tV D F call x)) (hs : A1 a X) : PE X (.Call (.Name "list" p) [a] [] pos) (tV D F call (.op .list (.cons false x .nil))) :=
  s_b1 (pe_callTy call_list_of (C.gl hg) (C.mgn hm) boot_list (s_cons ha s_nil hs) (he := hs)) fun R ra g => by rw [C.K]; exact o_list R ra g
theorem txtNat_go : ∀ {l : IR.Txt} {a n : Nat}, l.foldl (fun a c => a.bind fun n => if 48 ≤ c ∧ c ≤ 57 then some (n * 10 + (c - 48)) else none) (some a) = some n → NumText.AllDigits l ∧ l.foldl (fun acc c => acc * 10 + (c - 48)) a = n
  | [], a, n, h => by simp at h; exact ⟨fun c hc => absurd hc (by simp), h⟩
  | c :: l, a, n, h => by
    have hn : ∀ l : IR.Txt, l.foldl (fun (a : Option Nat) c => a.bind fun n => if 48 ≤ c ∧ c ≤ 57 then some (n * 10 + (c - 48)) else none) none = none := fun l => by induction l with
      | nil => rfl
      | cons c r ih => simpa using ih
    rw [List.foldl_cons] at h
    by_cases hc : 48 ≤ c ∧ c ≤ 57
    · simp only [Option.bind_some, hc, and_self, if_true] at h
      obtain ⟨h1, h2⟩ := txtNat_go h
      refine ⟨fun d hd => ?_, h2⟩
      rcases List.mem_cons.mp hd with rfl | hd
      · exact hc
      · exact h1 d hd
    · simp only [Option.bind_some, if_neg hc] at h
      rw [hn] at h
      cases h
theorem txtNat_ok {l : IR.Txt} {n : Nat} (h : IR.txtNat l = some n) : l ≠ [] ∧ NumText.AllDigits l ∧ NumText.digitsVal l = n := by
  cases l with
  | nil => cases h
  | cons c r => exact ⟨by simp, txtNat_go (a := 0) h⟩
theorem txtInt_reads {l : IR.Txt} {n : Int} (h : IR.txtInt l = some n) (hl : l.length ≤ 20) : PySem.intText? (sT l) = some n := by
  have hlen : (sT l).length ≤ 4300 := by rw [sT_len]; omega
  unfold IR.txtInt at h
  split at h
  · rename_i r
    obtain ⟨i, hi, rfl⟩ := Option.map_eq_some_iff.mp h
    obtain ⟨m, hm, e⟩ := Option.bind_eq_some_iff.mp hi
    cases e
    obtain ⟨h1, h2, h3⟩ := txtNat_ok hm
    rw [PySem.intText_neg (x := sT (45 :: r)) (cs := r) rfl h2 h1 hlen, h3]
  · obtain ⟨i, hi, rfl⟩ := Option.map_eq_some_iff.mp h
    obtain ⟨m, hm, e⟩ := Option.bind_eq_some_iff.mp hi
    cases e
    obtain ⟨h1, h2, h3⟩ := txtNat_ok hm
    rw [PySem.intText_digits (x := sT l) h2 h1 hlen, show (sT l).cps.toList = l from rfl, h3]
theorem o_int {N : Nm} {W : Fm} {μ : List Addr} {H : Hp} {S : IR.Sto} {Q : VK} {d : IR.D} {v : V} (R : Rel N μ S H) (ra : RepV N μ H d v) (g : GV N W μ H (IR.evOp .int [d] S) Q) : rIntX [v] H Q := by
  cases d <;> first | exact g.elim | skip
  · rw [ra.bl]
    exact .inl (.inr ⟨_, rfl, GV.int R g⟩)
  · rw [ra.int]
    exact .inl (.inl ⟨_, rfl, GV.int R g⟩)
  · rename_i s
    rw [ra.str]
    have g : GV N W μ H (if s.length ≤ 20 then IR.val1 ((IR.txtInt s).map .int) S else .bad) Q := g
    split at g
    · rename_i hl
      obtain ⟨d, hd, g2⟩ := GV.val1 g
      obtain ⟨n, hn, rfl⟩ := Option.map_eq_some_iff.mp hd
      exact .inr ⟨sT s, n, rfl, txtInt_reads hn hl, by rw [sT_len]; omega, GV.int R g2⟩
    · exact g.elim
theorem e_intT (C : Cm D X c k F) (hg : c.sc.names.lookup ("int" : Str) = some .globalImplicit) (hm : D.mg "int" = none) (ha : PE X a (tV D F call x)) (hs : A1 a X) : PE X (.Call (.Name "int" p) [a] [] pos) (tV D F call (.op .int (.cons false x .nil))) :=
  s_b1 (pe_callTy call_intX (C.gl hg) (C.mgn hm) boot_int (s_cons ha s_nil hs) (he := hs)) fun R ra g => o_int R ra g
theorem e_min2 (C : Cm D X c k F) (hg : c.sc.names.lookup ("min" : Str) = some .globalImplicit) (hm : D.mg "min" = none) (ha : PE X a (tV D F call x)) (hb : PE X b (tV D F call y)) (hs : starEach [a, b] X.env = (false, eval a X.env) :: starEach [b] X.env) (hs2 : A1 b X) (hh : c.hot = false := by rfl) : PE X (.Call (.Name "min" p) [a, b] [] pos) (tV D F call (.op .min2 (.cons false x (.cons false y .nil)))) :=
  s_b2 (pe_callB (call_min2 (C.calm hh)) (C.gl hg) (C.mgn hm) boot_min (s_cons ha (s_cons hb s_nil hs2) hs) (he := hs) (hpl := by rw [hs2]; rfl)) fun R ra rb g => o_min2 R ra rb g
theorem e_max2 (C : Cm D X c k F) (hg : c.sc.names.lookup ("max" : Str) = some .globalImplicit) (hm : D.mg "max" = none) (ha : PE X a (tV D F call x)) (hb : PE X b (tV D F call y)) (hs : starEach [a, b] X.env = (false, eval a X.env) :: starEach [b] X.env) (hs2 : A1 b X) (hh : c.hot = false := by rfl) : PE X (.Call (.Name "max" p) [a, b] [] pos) (tV D F call (.op .max2 (.cons false x (.cons false y .nil)))) :=
  s_b2 (pe_callB (call_max2 (C.calm hh)) (C.gl hg) (C.mgn hm) boot_max (s_cons ha (s_cons hb s_nil hs2) hs) (he := hs) (hpl := by rw [hs2]; rfl)) fun R ra rb g => o_max2 R ra rb g
end
end IRS

namespace IRS
open PySem PySem.Spec PyProof.Rows L2
section
variable {D : Wd} {X : Cx} {c : Ctx} {k : Nat} {F : Fm} {pos p p2 : Pos} {a b e o tg elt iter : Expr} {es : List Expr} {call : Nat → List IR.D → IR.M IR.D} {x y z : IR.E} {n : Str} {o' : IR.Op}
/-! ### isinstance -/
theorem e_isi1 (C : Cm D X c k F) {T : Str} {m : String} {t : IR.Ty} (ht : tyName t = some m) (hv : bootBuiltins T = some (.type m)) (hg : c.sc.names.lookup ("isinstance" : Str) = some .globalImplicit) (hm : D.mg "isinstance" = none) (hgT : c.sc.names.lookup T = some .globalImplicit) (hmT : D.mg T = none)
    (ha : PE X a (tV D F call x)) (hs : starEach [a, .Name T p2] X.env = (false, eval a X.env) :: starEach [.Name T p2] X.env) (hnn : T ≠ "__name__") (hdb : (T == ("__debug__" : Str)) = false) :
    PE X (.Call (.Name "isinstance" p) [a, .Name T p2] [] pos) (tV D F call (.op (.isi [t]) (.cons false x .nil))) := by
  refine PE.weak (pe_callB call_isi (C.gl hg) (C.mgn hm) boot_isinstance (pa_cons ha (pa_cons (pe_bltn (v := .ty m) (C.gl hgT) (C.mgn hmT) hv rfl hnn hdb) pa_nil) hs) (he := hs)) fun σ H Q q => ?_
  obtain ⟨μ, S, ρ, hI, R, hρ, g⟩ := q
  have g : GV D.N F μ H (((IR.evs D.g call (.cons false x .nil) ρ).bind fun l => IR.evOp (.isi [t]) l) S) Q := g
  rw [evs1] at g
  refine one (f := fun a => IR.evOp (.isi [t]) [a]) hI R hρ g fun μ2 S2 H2 p p' R2 rp g2 => ?_
  rw [C.K]
  exact o_isi1 R2 rp ht g2
/-- the names of classes -/
def tTys (ms : List String) : TA := fun _ H Q => Q (ms.map V.ty) H
theorem pa_ty0 : PA X [] (tTys []) := pa_nil
theorem pa_ty1 (C : Cm D X c k F) {T : Str} {m : String} {ms : List String} (hv : bootBuiltins T = some (.type m)) (hgT : c.sc.names.lookup T = some .globalImplicit) (hmT : D.mg T = none) (hnn : T ≠ "__name__") (hdb : (T == ("__debug__" : Str)) = false) (hr : PA X es (tTys ms)) : PA X (.Name T p2 :: es) (tTys (m :: ms)) :=
  PA.weak (pa_cons (pe_bltn (v := .ty m) (C.gl hgT) (C.mgn hmT) hv rfl hnn hdb) hr) fun σ H Q q => q
theorem e_isiT (C : Cm D X c k F) {ms : List String} {ts : List IR.Ty} {j} (ht : ts.mapM tyName = some ms) (hg : c.sc.names.lookup ("isinstance" : Str) = some .globalImplicit) (hm : D.mg "isinstance" = none) (hts : PA X es (tTys ms))
    (ha : PE X a (tV D F call x)) (hs : starEach [a, .Tuple es j p2] X.env = (false, eval a X.env) :: starEach [.Tuple es j p2] X.env) (hl : ms.length ≤ 1000) :
    PE X (.Call (.Name "isinstance" p) [a, .Tuple es j p2] [] pos) (tV D F call (.op (.isi ts) (.cons false x .nil))) := by
  refine PE.weak (pe_callB call_isiT (C.gl hg) (C.mgn hm) boot_isinstance (pa_cons ha (pa_cons (pe_tup hts) pa_nil) hs) (he := hs)) fun σ H Q q => ?_
  obtain ⟨μ, S, ρ, hI, R, hρ, g⟩ := q
  have g : GV D.N F μ H (((IR.evs D.g call (.cons false x .nil) ρ).bind fun l => IR.evOp (.isi ts) l) S) Q := g
  rw [evs1] at g
  refine one (f := fun a => IR.evOp (.isi ts) [a]) hI R hρ g fun μ2 S2 H2 p p' R2 rp g2 => ?_
  refine ⟨by rw [List.length_map]; exact Nat.le_trans hl (by decide), fun q hq => ?_⟩
  rw [C.K]
  exact o_isiT (W := F) (R2.laid hq) (rp.mono (Ext.laid hq)) ht upd_same (GV.base (Ext.laid hq) g2)
/-! ### tuple(range(..)) -/
theorem rgOk_of {i j : Int} (h : j ≤ IR.LINE ∧ -IR.LINE ≤ j ∧ i ≤ IR.LINE ∧ -IR.LINE ≤ i) : RgOk i j := by
  simp only [IR.LINE] at h
  exact ⟨by omega, by omega, by omega, by omega, by omega⟩
theorem e_tupRg1 (C : Cm D X c k F) {p3 : Pos} (hg : c.sc.names.lookup ("tuple" : Str) = some .globalImplicit) (hm : D.mg "tuple" = none) (hg2 : c.sc.names.lookup ("range" : Str) = some .globalImplicit) (hm2 : D.mg "range" = none) (ha : PE X a (tV D F call x)) (hs : A1 a X) (hh : c.hot = false := by rfl) :
    PE X (.Call (.Name "tuple" p) [.Call (.Name "range" p2) [a] [] p3] [] pos) (tV D F call (.op .tupRg1 (.cons false x .nil))) := by
  refine PE.weak (pe_tupRg (C.calm hh) (C.gl hg) (C.mgn hm) (prg_1 (C.gl hg2) (C.mgn hm2) ha hs)) fun σ H Q q => ?_
  obtain ⟨μ, S, ρ, hI, R, hρ, g⟩ := q
  have g : GV D.N F μ H (((IR.evs D.g call (.cons false x .nil) ρ).bind fun l => IR.evOp .tupRg1 l) S) Q := g
  rw [evs1] at g
  refine one (f := fun a => IR.evOp .tupRg1 [a]) hI R hρ g fun μ2 S2 H2 p p' R2 rp g2 => ?_
  cases p <;> first | exact g2.elim | skip
  rename_i i
  rw [rp.int]
  have g2 : GV D.N F μ2 H2 (if i ≤ IR.LINE ∧ -IR.LINE ≤ i then .ok (.tup (IR.rg 0 i)) S2 else .bad) Q := g2
  split at g2
  · rename_i h
    exact ⟨i, rfl, rgOk_of ⟨h.1, h.2, by decide, by decide⟩, GV.newT R2 g2 rg_reps⟩
  · exact g2.elim
theorem e_lstRg1 (C : Cm D X c k F) {p3 : Pos} (hg : c.sc.names.lookup ("list" : Str) = some .globalImplicit) (hm : D.mg "list" = none) (hg2 : c.sc.names.lookup ("range" : Str) = some .globalImplicit) (hm2 : D.mg "range" = none) (ha : PE X a (tV D F call x)) (hs : A1 a X) (hh : c.hot = false := by rfl) :
    PE X (.Call (.Name "list" p) [.Call (.Name "range" p2) [a] [] p3] [] pos) (tV D F call (.op .lstRg1 (.cons false x .nil))) := by
  refine PE.weak (pe_listRg (C.calm hh) (C.gl hg) (C.mgn hm) (prg_1 (C.gl hg2) (C.mgn hm2) ha hs)) fun σ H Q q => ?_
  obtain ⟨μ, S, ρ, hI, R, hρ, g⟩ := q
  have g : GV D.N F μ H (((IR.evs D.g call (.cons false x .nil) ρ).bind fun l => IR.evOp .lstRg1 l) S) Q := g
  rw [evs1] at g
  refine one (f := fun a => IR.evOp .lstRg1 [a]) hI R hρ g fun μ2 S2 H2 p p' R2 rp g2 => ?_
  cases p <;> first | exact g2.elim | skip
  rename_i i
  rw [rp.int]
  have g2 : GV D.N F μ2 H2 (if i ≤ IR.LINE ∧ -IR.LINE ≤ i then .ok (.tl (IR.rg 0 i)) S2 else .bad) Q := g2
  split at g2
  · rename_i h
    exact ⟨i, rfl, rgOk_of ⟨h.1, h.2, by decide, by decide⟩, GV.newL R2 g2 rg_reps⟩
  · exact g2.elim
theorem e_tupRg2 (C : Cm D X c k F) {p3 : Pos} (hg : c.sc.names.lookup ("tuple" : Str) = some .globalImplicit) (hm : D.mg "tuple" = none) (hg2 : c.sc.names.lookup ("range" : Str) = some .globalImplicit) (hm2 : D.mg "range" = none) (ha : PE X a (tV D F call x)) (hb : PE X b (tV D F call y))
    (hs : starEach [a, b] X.env = (false, eval a X.env) :: starEach [b] X.env) (hs2 : A1 b X) (hh : c.hot = false := by rfl) :
    PE X (.Call (.Name "tuple" p) [.Call (.Name "range" p2) [a, b] [] p3] [] pos) (tV D F call (.op .tupRg2 (.cons false x (.cons false y .nil)))) := by
  refine PE.weak (pe_tupRg (C.calm hh) (C.gl hg) (C.mgn hm) (prg_2 (C.gl hg2) (C.mgn hm2) ha hb hs hs2 (hp := by rw [hs2]; rfl))) fun σ H Q q => ?_
  obtain ⟨μ, S, ρ, hI, R, hρ, g⟩ := q
  have g : GV D.N F μ H (((IR.evs D.g call (.cons false x (.cons false y .nil)) ρ).bind fun l => IR.evOp .tupRg2 l) S) Q := g
  rw [evs2] at g
  refine two (f := fun a b => IR.evOp .tupRg2 [a, b]) hI R hρ g fun μ2 S2 H2 p q p' q' R2 rp rq g2 => ?_
  cases p <;> first | exact g2.elim | skip
  cases q <;> first | exact g2.elim | skip
  rename_i i j
  rw [rp.int, rq.int]
  have g2 : GV D.N F μ2 H2 (if j ≤ IR.LINE ∧ -IR.LINE ≤ j ∧ i ≤ IR.LINE ∧ -IR.LINE ≤ i then .ok (.tup (IR.rg i j)) S2 else .bad) Q := g2
  split at g2
  · rename_i h
    exact ⟨i, j, rfl, rfl, rgOk_of h, GV.newT R2 g2 rg_reps⟩
  · exact g2.elim
/-! ### calls of defs by names of parameters -/
/-- how a call binds: the values in the written order -/
def permV (l : List Value) (q : List (Option Nat)) : List Value := q.map fun o => match o with
  | some k => l.getD k .none
  | none => .none
structure KwAt (D : Wd) (fd : FuncData) (ps ks : List Str) (n : Nat) (q : List (Option Nat)) : Prop where
  to : ∀ (s : Shared) (us ws : List Value), D.N.K.In s.heap → us.length = n → ws.length = ks.length → BindsTo s fd ⟨us, ks.zip ws⟩ (ps.zip (permV (us ++ ws) q))
theorem perm_ok {N : Nm} {μ : List Addr} {H : Hp} {ds : List IR.D} {vs : List V} {us : List Value} (rs : Reps N μ H ds vs) (rv : Vals vs us) {S S' : IR.Sto} : ∀ {q : List (Option Nat)} {ds' : List IR.D}, IR.permD ds q S = .ok ds' S' →
    S' = S ∧ ∃ vs', Reps N μ H ds' vs' ∧ Vals vs' (permV us q) := by
  intro q ds' h
  unfold IR.permD at h
  cases e : q.mapM (IR.pick ds) with
  | none => rw [e] at h; cases h
  | some l =>
    rw [e] at h
    cases h
    refine ⟨rfl, ?_⟩
    induction q generalizing ds' with
    | nil =>
      simp at e
      subst e
      exact ⟨[], .nil, .nil⟩
    | cons o q ih =>
      rw [List.mapM_cons] at e
      obtain ⟨d, hd, e⟩ := Option.bind_eq_some_iff.mp e
      obtain ⟨l, hl, e⟩ := Option.bind_eq_some_iff.mp e
      cases e
      obtain ⟨vs', r1, r2⟩ := ih hl
      cases o with
      | none => cases hd; exact ⟨.non :: vs', .cons .non r1, .cons rfl r2⟩
      | some k =>
        obtain ⟨v, hv, rr⟩ := rs.get hd
        obtain ⟨u, hu, ru⟩ := rv.get hv
        refine ⟨v :: vs', .cons rr r1, ?_⟩
        have e2 : permV us (some k :: q) = u :: permV us q := by simp [permV, List.getD, hu]
        rw [e2]
        exact .cons ru r2
abbrev tKs (D : Wd) (F : Fm) (call : Nat → List IR.D → IR.M IR.D) (xs : IR.Es) : TA := tAs D F call xs
theorem k_nil : PK X [] (tAs D F call .nil) := ⟨fun _ _ s σ H Q I h => wpAny_evalAll_nil (by
  obtain ⟨μ, S, ρ, hI, R, hρ, g⟩ := h
  exact ⟨[], H, I, .nil, g μ H (Ext.refl _ _) R [] .nil⟩)⟩
theorem k_cons {own : Bool} {xs : IR.Es} {kws : List Keyword} {nm : Option Str} {kpos : Pos} (ha : PE X a (tV D F call x)) (hr : PK X kws (tAs D F call xs)) : PK X (⟨nm, a, kpos⟩ :: kws) (tAs D F call (.cons own x xs)) := by
  refine ⟨fun pos pins s σ H Q I h => (pk_cons ha hr).run pos pins s σ H Q I ?_⟩
  obtain ⟨μ, S, ρ, hI, R, hρ, g⟩ := h
  refine ⟨μ, S, ρ, hI, R, hρ, ?_⟩
  have g : GG D.N F μ H (((IR.ev D.g call x ρ S).bind (IR.ownIf own)).bind fun x => (IR.evs D.g call xs ρ).bind fun l => IR.M.pure (x :: l)) fun ds _ μ' H' => ∀ vs, RepOs D.N μ' H' (own :: esOwn xs) ds vs → Q vs H' := by
    have e : IR.evs D.g call (.cons own x xs) ρ S = ((IR.ev D.g call x ρ S).bind (IR.ownIf own)).bind fun x => (IR.evs D.g call xs ρ).bind fun l => IR.M.pure (x :: l) := by
      simp only [IR.evs, IR.M.bind]
      cases IR.ev D.g call x ρ S <;> rfl
    rw [← e]; exact g
  refine GG.own g fun μ1 S1 H1 d v e1 R1 rd g1 => ?_
  refine ⟨μ1, S1, ρ, hI, R1, hρ.mono e1.w, ?_⟩
  refine GG.imp (GG.bind (show GG D.N F μ1 H1 ((IR.evs D.g call xs ρ S1).bind fun l => IR.M.pure (d :: l)) _ from g1)) fun ds S2 μ2 H2 e2 R2 g2 vs rs => ?_
  exact g2 μ2 H2 (Ext.refl _ _) R2 (v :: vs) (.cons (rd.mono e2) rs)
theorem FnAt.run_at {i np : Nat} {f : Addr} {fd : FuncData} {ps ks : List Str} {m : Nat} {q : List (Option Nat)} (A : FnAt D k (call i) i np f fd ps) (C : Cm D X c k F) (B : KwAt D fd ps ks m q) {pins : List (Addr × Obj)} {σ : L2.St} {H : Hp} {s : Shared} {Q : VK} {us ws : List Value} {vs : List V} {ds : List IR.D} {μ : List Addr} {S : IR.Sto}
    (I : Inv X pins σ H s) (hI : F.I σ) (R : Rel D.N μ S H) (rs : Reps D.N μ H ds vs) (rv : Vals vs (us ++ ws)) (hu : us.length = m) (hw : ws.length = ks.length) (hnp : q.length = np) (g : GV D.N F μ H (((IR.permD ds q).bind fun l => call i l) S) Q) (hh : c.hot = false := by rfl) :
    wpAny (model X.prog X.w) X.A (PySem.call (.ref f) us (ks.zip ws)) (EP X pins σ Q) X.xe s := by
  have ok : FnOk X.prog X.w X.K X.mg X.base (L2.CX X.prog X.w) k f fd ps (spOf D.N (call i) np) := by rw [C.prog, C.w, C.K, C.mg, C.base]; exact A.ok
  cases e : IR.permD ds q S with
  | bad => rw [show ((IR.permD ds q).bind fun l => call i l) S = (IR.permD ds q S).bind fun l => call i l from rfl, e] at g; exact g.elim
  | exc c fs S2 =>
    unfold IR.permD at e
    cases e3 : q.mapM (IR.pick ds) with
    | none => rw [e3] at e; cases e
    | some l => rw [e3] at e; cases e
  | ok ds' S2 =>
    rw [show ((IR.permD ds q).bind fun l => call i l) S = (IR.permD ds q S).bind fun l => call i l from rfl, e] at g
    obtain ⟨rfl, vs', r1, r2⟩ := perm_ok rs rv e
    have g : GV D.N F μ H (call i ds' S2) Q := g
    have hsp : spOf D.N (call i) np vs' H Q (WE F.W σ) := by
      refine ⟨?_, μ, S2, ds', R, r1, gv_call hI g⟩
      rw [r2.length]; simp [permV, hnp]
    have hps : (permV (us ++ ws) q).length = ps.length := by rw [← r2.length]; exact ok.len _ _ _ _ hsp
    refine wpAny_call (codeAny_mono (ok.run X.A X.stack s H ⟨us, ks.zip ws⟩ (permV (us ++ ws) q) vs' Q (WE F.W σ) (C.room hh) I.env0 (B.to s us ws (by rw [← C.K]; exact I.kIn) hu hw) r2 hsp) fun r s' hq => ?_)
    cases r with
    | error e => exact passAt C.tk σ pins H s e s' I hq
    | ok fl =>
      cases fl with
      | ret u => exact I.after hq
      | next => exact False.elim hq
      | brk => exact False.elim hq
      | cont => exact False.elim hq
/-- f(k = v, ..) -/
theorem e_callk (C : Cm D X c k F) {f : Addr} {fd : FuncData} {ps ks : List Str} {i np : Nat} {q : List (Option Nat)} {kws : List Keyword} {xs : IR.Es} (A : FnAt D k (call i) i np f fd ps) (B : KwAt D fd ps ks 0 q) (hg : c.sc.names.lookup n = some .globalImplicit) (hm : D.mg n = some (.ref f))
    (ha : PK X kws (tAs D F call xs)) (ho : ∀ o ∈ esOwn xs, o = true) (hl : (esOwn xs).length = ks.length) (hnp : q.length = np) (hks : (backToKw pos (keywordEach kws X.env)).filterMap (·.1) = ks) (hall : (backToKw pos (keywordEach kws X.env)).all (·.1.isSome) = true)
    (hpl : ((backTo pos (starEach [] X.env)).any (·.1) || (backToKw pos (keywordEach kws X.env)).any (·.1.isNone)) = false) (hdb : (n == ("__debug__" : Str)) = false) (hh : c.hot = false := by rfl) :
    PE X (.Call (.Name n p) [] kws pos) (tV D F call (.callp i q xs)) := by
  refine ⟨fun pins s σ H Q I h => ?_⟩
  refine wpAny_Call_Name_kw (ld_glob I (C.gl hg) (C.mgn hm) ?_ hdb)
  obtain ⟨μ, S, ρ, hI, R, hρ, g⟩ := h
  refine PySem.W.callWith_KW0 (h₀ := X.base) I.ok.mod.kin (by rw [C.K]; exact A.kp) hall (thn (ha.run pos pins s σ H (fun vs H1 => ∃ μ2 S2 ds, Rel D.N μ2 S2 H1 ∧ Reps D.N μ2 H1 ds vs ∧ vs.length = ks.length ∧ GV D.N F μ2 H1 (((IR.permD ds q).bind fun l => call i l) S2) Q) I ?_) fun ws s2 ⟨zs, H2, I2, rz, μ2, S2, ds, R2, rs, hlen, g2⟩ => ⟨I2.kIn, ?_⟩) hpl
  · exact argsG (f := fun l => (IR.permD l q).bind fun l => call i l) hI R hρ g fun μ2 S2 H2 ds vs _ R2 rs g2 => ⟨μ2, S2, ds, R2, rs.reps ho, by rw [rs.length.2]; exact hl, g2⟩
  · rw [hks]
    exact A.run_at C B (us := []) I2 hI R2 rs rz rfl (by rw [← rz.length]; exact hlen) hnp g2 (hh := hh)
end
/-- name = [..] on one line, the name a local -/
theorem st_lcG {D : Wd} {F : Fm} {call : Nat → List IR.D → IR.M IR.D} {i : Nat} {x : IR.E} {E : Ends} {σ : L2.St} {H : Hp} {μ : List Addr} {S : IR.Sto} {ρ : IR.Env} (hI : F.I σ) (R : Rel D.N μ S H) (hρ : RSt D.N μ H ρ σ) (ha : F.as i = true)
    (g : GG D.N F μ H (IR.ex D.g call (.asg (.var i) x) ρ S) (KF D.N F E H)) : GV D.N F μ H (IR.ev D.g call x ρ S) (fun v H1 => gName i v σ H1 E.nx) := by
  have g : GG D.N F μ H (((IR.ev D.g call x ρ S).bind (IR.ownIf true)).bind fun d => (IR.setTg (.var i) ρ d).bind fun ρ' => IR.M.pure (IR.Flow.next ρ')) (KF D.N F E H) := by
    have e : IR.ex D.g call (.asg (.var i) x) ρ S = ((IR.ev D.g call x ρ S).bind (IR.ownIf true)).bind fun d => (IR.setTg (.var i) ρ d).bind fun ρ' => IR.M.pure (IR.Flow.next ρ') := by
      simp only [IR.ex, IR.M.bind]
      cases IR.ev D.g call x ρ S <;> rfl
    rw [← e]; exact g
  refine GG.own g fun μ1 S1 H1 d v e1 R1 rd g1 => ?_
  exact g1 μ1 H1 (Ext.refl _ _) R1 _ (F.put _ _ _ ha hI) ((hρ.mono e1.w).set rd)
section
variable {D : Wd} {X : Cx} {c : Ctx} {k : Nat} {F : Fm} {pos p spos : Pos} {tg elt iter : Expr} {call : Nat → List IR.D → IR.M IR.D} {y z : IR.E} {n : Str} {scope : Scope}
theorem st_lc0 {i : Nat} {t : IR.Tg} {gt : TG} {own : List (Str × Nat)} {it : IR.It} (C : Cm D X c k F) (hN : c.N[i]? = some n) (hloc : c.sc.names.lookup n = some .local) (ha : F.as i = true) (hline : (p.line == pos.line) = true) (hno : scope.names.any (fun (m, k) => m == n && (k == .local || k == .cell)) = false)
    (hi : PI X tg iter (tIt D F (IR.evIt D.g call it))) (ok : BlkOk c.N c.sc scope own) (hw : own.map (·.2) = tgSlots t)
    (hg : ∀ (s : Shared) (H : Hp) (A : Addr) (cl : List (Str × Addr)) (fp : List Addr), TgOk D (X.blk s H scope (compEnvC scope cl A X.env) fp) Fm0 tg t gt)
    (he : ∀ (s : Shared) (H : Hp) (A : Addr) (cl : List (Str × Addr)) (fp : List Addr), PE (X.blk s H scope (compEnvC scope cl A X.env) fp) elt (tV D Fm0 call z)) (hs : ∀ x, foldedSetIterable iter X.env x = pure x) (hh : c.hot = false := by rfl) :
    PS X (.Assign [.Name n p] (.ListComp elt [⟨tg, iter, [], 0⟩] scope pos) spos) (tSt D F call (.asg (.var i) (.lc it t none z))) := by
  have hsw : swapsWith (.ListComp elt [⟨tg, iter, [], 0⟩] scope pos) (some (.Name n p)) spos.line X.env = pure true := by
    have hb : X.env.blockKind = .function := by unfold Env.blockKind; rw [C.kd]; rfl
    have hk : X.env.kindOf n = some .local := by show X.env.scope.names.lookup n = _; rw [C.sc]; exact hloc
    unfold swapsWith
    simp only [hb, hk, hno]
    have hline : (p.line == (Expr.ListComp elt [⟨tg, iter, [], 0⟩] scope pos).pos.line) = true := hline
    rw [hline]
    rfl
  refine ⟨fun pins s0 σ H E I q => (ps_setLc (C.calm hh) (by rw [C.N]; exact C.nd) (by rw [C.N]; exact hN) (by rw [C.sc]; exact hloc) hsw hi (by rw [C.N, C.sc]; exact ok) (fun s H A cl fp => (hg s H A cl fp).pg) (fun s H A cl fp => pts_nil) he hs).run pins s0 σ H E I ?_⟩
  obtain ⟨μ, S, ρ, hI, R, hρ, g⟩ := q
  rw [hw]
  exact lc_core' (mc := fun _ => IR.M.pure true) (hg s0 H 0 [] []).ht (fun σ H Q ⟨μ, S, ρ, _, R, hρ, g⟩ => g μ H (Ext.refl _ _) R) hI R hρ (st_lcG hI R hρ ha g)
theorem st_lc1 {i : Nat} {t : IR.Tg} {gt : TG} {own : List (Str × Nat)} {it : IR.It} {cE : Expr} (C : Cm D X c k F) (hN : c.N[i]? = some n) (hloc : c.sc.names.lookup n = some .local) (ha : F.as i = true) (hline : (p.line == pos.line) = true) (hno : scope.names.any (fun (m, k) => m == n && (k == .local || k == .cell)) = false)
    (hi : PI X tg iter (tIt D F (IR.evIt D.g call it))) (ok : BlkOk c.N c.sc scope own) (hw : own.map (·.2) = tgSlots t)
    (hg : ∀ (s : Shared) (H : Hp) (A : Addr) (cl : List (Str × Addr)) (fp : List Addr), TgOk D (X.blk s H scope (compEnvC scope cl A X.env) fp) Fm0 tg t gt)
    (hc : ∀ (s : Shared) (H : Hp) (A : Addr) (cl : List (Str × Addr)) (fp : List Addr), PT (X.blk s H scope (compEnvC scope cl A X.env) fp) cE (tB' D Fm0 call y))
    (he : ∀ (s : Shared) (H : Hp) (A : Addr) (cl : List (Str × Addr)) (fp : List Addr), PE (X.blk s H scope (compEnvC scope cl A X.env) fp) elt (tV D Fm0 call z)) (hs : ∀ x, foldedSetIterable iter X.env x = pure x) (hh : c.hot = false := by rfl) :
    PS X (.Assign [.Name n p] (.ListComp elt [⟨tg, iter, [cE], 0⟩] scope pos) spos) (tSt D F call (.asg (.var i) (.lc it t (some y) z))) := by
  have hsw : swapsWith (.ListComp elt [⟨tg, iter, [cE], 0⟩] scope pos) (some (.Name n p)) spos.line X.env = pure true := by
    have hb : X.env.blockKind = .function := by unfold Env.blockKind; rw [C.kd]; rfl
    have hk : X.env.kindOf n = some .local := by show X.env.scope.names.lookup n = _; rw [C.sc]; exact hloc
    unfold swapsWith
    simp only [hb, hk, hno]
    have hline : (p.line == (Expr.ListComp elt [⟨tg, iter, [cE], 0⟩] scope pos).pos.line) = true := hline
    rw [hline]
    rfl
  refine ⟨fun pins s0 σ H E I q => (ps_setLc (C.calm hh) (by rw [C.N]; exact C.nd) (by rw [C.N]; exact hN) (by rw [C.sc]; exact hloc) hsw hi (by rw [C.N, C.sc]; exact ok) (fun s H A cl fp => (hg s H A cl fp).pg) (fun s H A cl fp => pts_one (hc s H A cl fp)) he hs).run pins s0 σ H E I ?_⟩
  obtain ⟨μ, S, ρ, hI, R, hρ, g⟩ := q
  rw [hw]
  refine lc_core' (mc := fun ρ => (IR.ev D.g call y ρ).bind IR.truth) (hg s0 H 0 [] []).ht (fun σ H Q h => h) hI R hρ ?_
  have e : (lcF D.g call t (fun ρ => (IR.ev D.g call y ρ).bind IR.truth) z ρ) = fun x => (IR.setTg t ρ x).bind fun ρ' => (IR.ev D.g call y ρ').bind fun c => (IR.truth c).bind fun b => if b then (IR.ev D.g call z ρ').bind fun y => (IR.own y).bind fun y => IR.M.pure (some y) else IR.M.pure none := by
    funext x
    simp only [lcF, IR.M.bind_assoc]
  rw [e]
  exact st_lcG hI R hρ ha g
end
end IRS

namespace IRS
open PySem PySem.Spec PyProof.Rows L2
/-! ### defs -/
section
variable {D : Wd}
theorem FnAt.mono {j k i np : Nat} {m : List IR.D → IR.M IR.D} {f : Addr} {fd : FuncData} {ps : List Str} (A : FnAt D j m i np f fd ps) (h : j ≤ k) : FnAt D k m i np f fd ps := ⟨A.fnA, A.kp, A.hn, A.bi, A.ok.mono h⟩
theorem FnAt.up {n i np : Nat} {m : List IR.D → IR.M IR.D} {f : Addr} {fd : FuncData} {ps : List Str} (A : FnAt D (2 * n) m i np f fd ps) : FnAt D (2 * n + 1) m i np f fd ps := A.mono (by omega)
theorem at0 {i np : Nat} {f : Addr} {fd : FuncData} {ps : List Str} (ha : D.N.fnA i = some f) (kp : PySem.W.keepIn D.N.K (.ref f) = true) (hn : ps.length = np) (bi : Binds D.N.K fd ps []) : FnAt D (2 * 0) (IR.callD D.g 0 i) i np f fd ps :=
  ⟨ha, kp, hn, bi, ⟨fun vs H Q E h => h.1.trans hn.symm, fun A outer s H args us vs Q E _ _ _ _ ⟨_, μ, S, ds, _, _, g⟩ => by rw [IR.callD_z] at g; exact g.elim⟩⟩
theorem starts {N : Nm} {μ : List Addr} {H : Hp} {ds : List IR.D} {vs : List V} {Ns : List Str} (rs : Reps N μ H ds vs) : RSt N μ H (ds.map some ++ List.replicate (Ns.length - ds.length) none) (L2.start Ns vs) := by
  have hl := rs.length
  refine ⟨by simp [L2.start, hl], fun i d h => ?_⟩
  have hi : i < ds.length := by
    by_cases hi : i < ds.length
    · exact hi
    · rw [List.getElem?_append_right (by simpa using hi), List.getElem?_replicate] at h
      split at h <;> cases h
  rw [List.getElem?_append_left (by simpa using hi), List.getElem?_map, Option.map_eq_some_iff] at h
  obtain ⟨d', h1, h2⟩ := h
  cases h2
  obtain ⟨v, hv, q⟩ := rs.get h1
  refine ⟨v, ?_, q⟩
  unfold L2.start
  rw [List.getElem?_append_left (by simp; omega), List.getElem?_map, hv]
  rfl
theorem at1 {n i np : Nat} {x qual : Str} {params : Arguments} {body : List Stmt} {scope : Scope} {dvs : List V} {kws : List (Str × V)} {f : Addr} {fd : FuncData} {Ns ps : List Str} {fn : IR.Fn}
    (F : FunD D.N.K x qual params body scope dvs kws f fd) (S : FnScope Ns ps scope) (ha : D.N.fnA i = some f) (hn : ps.length = np) (bi : Binds D.N.K fd ps []) (hg : D.g.fns i = some fn) (hnp : fn.np = np) (hns : fn.ns = Ns.length)
    (hbody : ∀ {X : Cx} {F' : Fm}, Cm D X ⟨Ns, scope, fun _ => true, false⟩ (2 * n + 1) F' → PassesOwn (model X.prog X.w) X.A X.env X.xe → (∀ i, F'.as i = true) → Fx X → PSs X body (tSs D F' (IR.callD D.g n) fn.body)) :
    FnAt D (2 * (n + 1)) (IR.callD D.g (n + 1) i) i np f fd ps := by
  refine ⟨ha, F.kp, hn, bi, ?_⟩
  have e : 2 * (n + 1) = (2 * n + 1) + 1 := by omega
  rw [e]
  refine F.ok S (fun vs H Q E h => h.1.trans hn.symm) fun cdv A outer s H vs Q E hr ⟨hl, μ, S0, ds, R, rs, g⟩ => ⟨tSs D (FmE E) (IR.callD D.g n) fn.body, hbody (F' := FmE E) ⟨rfl, rfl, rfl, rfl, rfl, rfl, S.nd, rfl, rfl, S.kind, fun _ => ⟨rfl, hr.hd⟩, ⟨hr.dp, hr.un⟩, takes_of rfl rfl rfl rfl⟩ (passes_of rfl) (fun _ => rfl) ⟨rfl, rfl, rfl⟩, ?_⟩
  have hd : ds.length = np := by rw [rs.length]; exact hl
  refine ⟨μ, S0, ds.map some ++ List.replicate (fn.ns - fn.np) none, trivial, R, ?_, ?_⟩
  · rw [hns, hnp, ← hd]
    exact starts rs
  · have g : GV D.N (FmE E) μ H ((IR.exs D.g (IR.callD D.g n) fn.body (ds.map some ++ List.replicate (fn.ns - fn.np) none) S0).bind fun fl => match fl with
        | .next _ => IR.M.pure .non
        | .ret v => IR.M.pure v
        | _ => IR.M.bad) Q := by
      have e2 : IR.callD D.g (n + 1) i ds S0 = (IR.exs D.g (IR.callD D.g n) fn.body (ds.map some ++ List.replicate (fn.ns - fn.np) none) S0).bind fun fl => match fl with
        | .next _ => IR.M.pure .non
        | .ret v => IR.M.pure v
        | _ => IR.M.bad := by
        simp only [IR.callD_s, hg, hd.trans hnp.symm, if_true, IR.M.bind]
        try rfl
      rw [← e2]; exact g
    cases er : IR.exs D.g (IR.callD D.g n) fn.body (ds.map some ++ List.replicate (fn.ns - fn.np) none) S0 with
    | bad => rw [er] at g; exact g
    | exc c fs S => rw [er] at g; exact g
    | ok fl S1 =>
      rw [er] at g
      intro μ1 H1 e1 R1
      cases fl with
      | next ρ => exact fun σ' _ _ => g μ1 H1 e1 R1 .non Rep.non fun l _ z => nomatch z
      | brk ρ => exact g.elim
      | cnt ρ => exact g.elim
      | ret d => exact fun v rv tm => g μ1 H1 e1 R1 v rv tm
theorem sw_cell {X : Cx} {c : Ctx} {k : Nat} {F : Fm} {n : Str} {p : Pos} {e : Expr} {l : Nat} (C : Cm D X c k F) (h : (match c.sc.names.lookup n with | some .local => false | _ => true) = true) : swapsWithSole [.Name n p] e l X.env = pure false := by
  have hk : (X.env.kindOf n == some .local) = false := by
    show (X.env.scope.names.lookup n == some .local) = false
    rw [C.sc]
    split at h
    · cases h
    · rename_i hn
      exact beq_eq_false_iff_ne.mpr fun z => hn z
  show swapsWith e (some (.Name n p)) l X.env = pure false
  unfold swapsWith
  split
  · simp [hk]
  · rfl
theorem kwN {D : Wd} {x qual : Str} {params : Arguments} {body : List Stmt} {scope : Scope} {kws : List (Str × V)} {f : Addr} {fd : FuncData} {ps ks : List Str} {n : Nat} {q : List (Option Nat)} (F : FunD D.N.K x qual params body scope [] kws f fd)
    (h : ∀ (kV doc pm : Value) (an : Option Addr) (cdv ct : Value) (us ws : List Value), us.length = n → ws.length = ks.length → bindArgs (PySem.W.fnOf x qual params body scope .none kV doc pm an cdv ct) ⟨us, ks.zip ws⟩ = pure (ps.zip (permV (us ++ ws) q))) : KwAt D fd ps ks n q := by
  obtain ⟨oc, od, dV, kV, doc, pm, an, cdv, ct, osl, rfl, lk, hcd, hD, hK⟩ := F.ex
  rcases hD with ⟨_, rfl⟩ | ⟨e, _⟩
  · exact ⟨fun s us ws _ l1 l2 => .of_eq (h kV doc pm an cdv ct us ws l1 l2)⟩
  · exact absurd rfl e
theorem ownAll {l : List Bool} (h : l.all id = true) : ∀ o ∈ l, o = true := fun o ho => List.all_eq_true.mp h o ho
/-- the law's def: the script goes in, True comes out -/
theorem law_sp {np : Nat} {g0 : IR.G} {n i : Nat} {K : PySem.W.Frag} {N : Nm} (hK : N.K = K) {H : Hp} {a : Addr} {ns : List Int} (hO : Only H) (hS : SqL K H a (ns.map V.int)) (h : ∃ S, IR.callD g0 n i [.scr ns] [] = .ok (.bl true) S) :
    spOf N (IR.callD g0 n i) 1 [.ref a] H (fun v _ => v = .bl true) fun _ _ _ => False := by
  obtain ⟨S, h⟩ := h
  refine ⟨rfl, [], [], [.scr ns], ⟨rfl, .nil, fun i o a h => by simp at h⟩, .cons (.scr ?_) .nil, ?_⟩
  · rw [hK]
    rcases hS with hS | hS
    · rcases hS with hS | hS
      · rcases hO a with z | ⟨o, xs, z⟩ <;> (rw [z] at hS; cases hS)
      · exact .inl hS
    · exact .inr hS
  · rw [h]
    exact fun μ' H' e R v rv _ => rv.bl
end
/-- the end of the head, where what may be let out is told by the world -/
theorem walk_w {l : PySem.W.OpenLaw} {n k : Nat} {q : Program} {loose : List Str} {XP : (Str → Option Value) → Heap → Prop} {YP : World → Heap → Prop} {d : DefRec} {CXw : World → CXT} {x : Str}
    (hn : l.most = some n) (hn2 : n ≤ sizeLine) (hdf : d.params.defaults = []) (hr : Room k callerA)
    (FF : ∀ (w : World) (mg : Str → Option Value) (fa : Addr) (h : Heap), YP w h → h.Ns mainGlobals mg → mg d.name = some (.ref fa) → ∃ (K : PySem.W.Frag) (fd : FuncData) (sp : Sp), K.In h ∧ (∀ (s : Shared) (u : Value), BindsTo s fd ⟨[u], []⟩ [(x, u)]) ∧
      (∀ (H : Hp) (a : Addr) (ns : List Int), ns.length ≤ n → Only H → SqL K H a (ns.map V.int) → sp [.ref a] H (fun v _ => v = .bl true) fun _ _ _ => False) ∧ ∀ base : Heap, K.In base → base.Ns mainGlobals mg → FnOk l.prog w K mg base (CXw w) k fa fd [x] sp)
    (hCX : ∀ (w : World) (H : Hp) (s : Shared) (e : Value) (s' : Shared), CXw w [] H s (fun _ _ _ => False) e s' → False) : PySem.W.WalkO q loose XP YP l.row.toRowW d [] (fun f vs => PySem.call f vs) :=
  Att.attach_call hn hdf fun w _ s₁ mg _ fa _ _ _ _ a _ ns G Y _ _ _ hmg hobj hints hlen hg => (FF w mg fa _ Y G.T.g hmg).elim fun K z => z.elim fun fd z => z.elim fun sp z =>
    law_call z.1 G.T.g G.T.b G.T.builtins G.T.nolimit hg hobj hints (Nat.le_trans hlen hn2) hr z.2.2.2 z.2.1 (fun H hO hS => z.2.2.1 H a ns hlen hO hS) fun H e s' => hCX w H s₁ e s'
theorem cx_none {P : Program} (w : World) (H : Hp) (s : Shared) (e : Value) (s' : Shared) (h : L2.CX P w [] H s (fun _ _ _ => False) e s') : False := by
  obtain ⟨_, _, _, _, _, _, _, _, _, _, _, _, z⟩ := h
  exact z
theorem fd_one {K : PySem.W.Frag} {x x' q q' : Str} {p p' : Arguments} {b b' : List Stmt} {sc sc' : Scope} {d d' : List V} {k k' : List (Str × V)} {f : Addr} {fd fd' : FuncData} (F : FunD K x q p b sc d k f fd) (F' : FunD K x' q' p' b' sc' d' k' f fd') : fd = fd' := by
  obtain ⟨_, _, _, _, _, _, _, _, _, _, _, l1, _⟩ := F.ex
  obtain ⟨_, _, _, _, _, _, _, _, _, _, _, l2, _⟩ := F'.ex
  rw [l1] at l2
  cases l2
  rfl
end IRS

namespace IRS
open PySem PySem.Spec PyProof.Rows L2
section
variable {D : Wd} {X : Cx} {c : Ctx} {k : Nat} {F : Fm} {pos p p2 : Pos} {a b e o tg : Expr} {es : List Expr} {call : Nat → List IR.D → IR.M IR.D} {x y z : IR.E} {n : Str}
/-! ### chains -/
abbrev IsCmp (o : IR.Op) : Prop := o = .lt ∨ o = .le ∨ o = .gt ∨ o = .ge ∨ o = .eq ∨ o = .ne ∨ o = .isin ∨ o = .notin
abbrev OpOk (D : Wd) (F : Fm) (o : IR.Op) (r : R2) : Prop := ∀ {μ S H Q p q p' q'}, Rel D.N μ S H → RepV D.N μ H p p' → RepV D.N μ H q q' → GV D.N F μ H (IR.evOp o [p, q] S) Q → r p' q' H Q
theorem chainG {r r' : R2} {o1 o2 : IR.Op} (h1 : OpOk D F o1 r) (h2 : OpOk D F o2 r') (c1 : IsCmp o1) {σ : L2.St} {H : Hp} {Q : VK} {μ : List Addr} {S : IR.Sto} {ρ : IR.Env} (hI : F.I σ) (R : Rel D.N μ S H) (hρ : RSt D.N μ H ρ σ)
    (g : GV D.N F μ H (IR.ev D.g call (.chain o1 o2 x y z) ρ S) Q) : tChain r r' (tV D F call x) (tV D F call y) (tV D F call z) σ H Q := by
  refine one' (f := fun u => (IR.ev D.g call y ρ).bind fun v => (IR.evOp o1 [u, v]).bind fun r => match r with
    | .bl true => (IR.ev D.g call z ρ).bind fun w => IR.evOp o2 [v, w]
    | .bl false => IR.M.pure (.bl false)
    | _ => IR.M.bad) hI R hρ g fun μ1 S1 H1 u u' e1 R1 ru _ g1 => ?_
  refine one' (f := fun v => (IR.evOp o1 [u, v]).bind fun r => match r with
    | .bl true => (IR.ev D.g call z ρ).bind fun w => IR.evOp o2 [v, w]
    | .bl false => IR.M.pure (.bl false)
    | _ => IR.M.bad) hI R1 (hρ.mono e1.w) (GV.base e1 g1) fun μ2 S2 H2 v v' e2 R2 rv _ g2 => ?_
  have g2 := GV.base e2 g2
  refine h1 R2 (ru.mono e2) rv ?_
  have g3 : GV D.N F μ2 H2 ((IR.evOp o1 [u, v] S2).bind fun r => match r with
    | .bl true => (IR.ev D.g call z ρ).bind fun w => IR.evOp o2 [v, w]
    | .bl false => IR.M.pure (.bl false)
    | _ => IR.M.bad) Q := g2
  cases er : IR.evOp o1 [u, v] S2 with
  | bad => rw [er] at g3; exact g3
  | exc c fs S => rw [er] at g3; exact g3
  | ok d S3 =>
    obtain ⟨t, rfl⟩ := evOp_cmp c1 er
    rw [er] at g3
    refine fun μ3 H3 e3 R3 w rw' _ => ⟨t, rw'.bl, ?_⟩
    cases t with
    | true =>
      have g4 : GV D.N F μ2 H2 (((IR.ev D.g call z ρ).bind fun w => IR.evOp o2 [v, w]) S3) Q := g3
      show tV D F call z σ H3 fun w' H4 => r' v' w' H4 Q
      exact one' (f := fun w => IR.evOp o2 [v, w]) hI R3 (((hρ.mono e1.w).mono e2.w).mono e3.w) (GV.base e3 g4) fun μ4 S4 H4 w w' e4 R4 rw2 _ g5 => h2 R4 ((rv.mono e3).mono e4) rw2 (GV.base e4 g5)
    | false =>
      have g4 : GV D.N F μ2 H2 (.ok (.bl false) S3) Q := g3
      show Q (.bl false) H3
      exact GV.bl R3 (GV.base e3 g4)
theorem s_chain {op op' : CmpOp} {r r' : R2} {o1 o2 : IR.Op} (ho : OpR X (compareOp op) r) (ho' : OpR X (compareOp op') r') (h1 : OpOk D F o1 r) (h2 : OpOk D F o2 r') (c1 : IsCmp o1)
    (ha : PE X a (tV D F call x)) (hb : PE X b (tV D F call y)) (hc : PE X e (tV D F call z)) (hm : lastMarks [op, op'] [b, e] = false) : PE X (.Compare a [op, op'] [b, e] pos) (tV D F call (.chain o1 o2 x y z)) := by
  refine PE.weak (pe_chain ho ho' ha hb hc hm) fun σ H Q q => ?_
  obtain ⟨μ, S, ρ, hI, R, hρ, g⟩ := q
  exact chainG h1 h2 c1 hI R hρ g
theorem chain_bl {o1 o2 : IR.Op} (c2 : IsCmp o2) {ρ : IR.Env} {S S' : IR.Sto} {d : IR.D} (h : IR.ev D.g call (.chain o1 o2 x y z) ρ S = .ok d S') : ∃ b, d = .bl b := by
  obtain ⟨u, S1, k1, h⟩ := bind_ok (r := IR.ev D.g call x ρ S) h
  obtain ⟨v, S2, k2, h⟩ := bind_ok (r := IR.ev D.g call y ρ S1) h
  obtain ⟨r, S3, k3, h⟩ := bind_ok (r := IR.evOp o1 [u, v] S2) h
  cases r <;> try (cases h; done)
  rename_i t
  cases t with
  | false => cases h; exact ⟨_, rfl⟩
  | true =>
    obtain ⟨w, S4, k4, h⟩ := bind_ok (r := IR.ev D.g call z ρ S3) h
    exact evOp_cmp c2 h
theorem s_chainT {op op' : CmpOp} {r r' : R2} {o1 o2 : IR.Op} (ho : OpR X (compareOp op) r) (ho' : OpR X (compareOp op') r') (h1 : OpOk D F o1 r) (h2 : OpOk D F o2 r') (c1 : IsCmp o1) (c2 : IsCmp o2)
    (ha : PE X a (tV D F call x)) (hb : PE X b (tV D F call y)) (hc : PE X e (tV D F call z)) (hm : lastMarks [op, op'] [b, e] = false) : PT X (.Compare a [op, op'] [b, e] pos) (tB' D F call (.chain o1 o2 x y z)) := by
  refine PT.weak (pt_chain ho ho' ha hb hc hm) fun σ H Q q => ?_
  obtain ⟨μ, S, ρ, hI, R, hρ, g⟩ := q
  refine chainG h1 h2 c1 hI R hρ ?_
  have g : GG D.N F μ H ((IR.ev D.g call (.chain o1 o2 x y z) ρ S).bind IR.truth) fun b _ _ H' => Q b H' := g
  cases er : IR.ev D.g call (.chain o1 o2 x y z) ρ S with
  | bad => rw [er] at g; exact g
  | exc c fs S => rw [er] at g; exact g
  | ok d S' =>
    obtain ⟨t, rfl⟩ := chain_bl c2 er
    rw [er] at g
    exact fun μ' H' e R v rv _ => ⟨t, rv.bl, g μ' H' e R⟩
theorem e_cle2 (C : Cm D X c k F) (ha : PE X a (tV D F call x)) (hb : PE X b (tV D F call y)) (hc : PE X e (tV D F call z)) (hm : lastMarks [.LtE, .LtE] [b, e] = false) : PE X (.Compare a [.LtE, .LtE] [b, e] pos) (tV D F call (.chain .le .le x y z)) :=
  s_chain op_le op_le (fun R ra rb g => o_le R ra rb g) (fun R ra rb g => o_le R ra rb g) (.inr (.inl rfl)) ha hb hc hm
theorem t_cle2 (C : Cm D X c k F) (ha : PE X a (tV D F call x)) (hb : PE X b (tV D F call y)) (hc : PE X e (tV D F call z)) (hm : lastMarks [.LtE, .LtE] [b, e] = false) : PT X (.Compare a [.LtE, .LtE] [b, e] pos) (tB' D F call (.chain .le .le x y z)) :=
  s_chainT op_le op_le (fun R ra rb g => o_le R ra rb g) (fun R ra rb g => o_le R ra rb g) (.inr (.inl rfl)) (.inr (.inl rfl)) ha hb hc hm
theorem t_clt2 (C : Cm D X c k F) (ha : PE X a (tV D F call x)) (hb : PE X b (tV D F call y)) (hc : PE X e (tV D F call z)) (hm : lastMarks [.Lt, .Lt] [b, e] = false) : PT X (.Compare a [.Lt, .Lt] [b, e] pos) (tB' D F call (.chain .lt .lt x y z)) :=
  s_chainT (op_ltX (by have := C.hu; omega)) (op_ltX (by have := C.hu; omega)) (fun R ra rb g => by rw [C.K]; exact o_lt R ra rb g) (fun R ra rb g => by rw [C.K]; exact o_lt R ra rb g) (.inl rfl) (.inl rfl) ha hb hc hm
/-! ### parts of sequences -/
theorem wantI {α : Type} {d : IR.D} {S : IR.Sto} {f : Int → IR.M α} {μ : List Addr} {H : Hp} {L : α → IR.Sto → List Addr → Hp → Prop} (g : GG D.N F μ H (((IR.wantInt d).bind f) S) L) : ∃ i, d = .int i ∧ GG D.N F μ H (f i S) L := by
  cases d <;> first | exact ⟨_, rfl, g⟩ | exact g.elim
theorem slG {μ : List Addr} {H : Hp} {S : IR.Sto} {u : IR.D} {lo hi : Option Int} {Q : VK} (g : GV D.N F μ H (IR.slM u lo hi S) Q) : GV D.N F μ H (IR.val1 (IR.slD S u lo hi) S) Q := by
  unfold IR.slM at g
  unfold IR.val1
  cases e : IR.slD S u lo hi with
  | none => rw [e] at g; exact g
  | some d => rw [e] at g; exact g
theorem e_sl11 (C : Cm D X c k F) {lo hi : Expr} (ha : PE X a (tV D F call x)) (hl : PE X lo (tV D F call y)) (hh : PE X hi (tV D F call z)) : PE X (.Subscript a (.Slice (some lo) (some hi) none p2) pos) (tV D F call (.sl11 x y z)) := by
  refine PE.weak (pe_slice sl_X ha (po_some hl) (po_some hh)) fun σ H Q q => ?_
  obtain ⟨μ, S, ρ, hI, R, hρ, g⟩ := q
  refine one' (f := fun u => (IR.ev D.g call y ρ).bind fun l => (IR.wantInt l).bind fun i => (IR.ev D.g call z ρ).bind fun h => (IR.wantInt h).bind fun j => IR.slM u (some i) (some j)) hI R hρ g fun μ1 S1 H1 u u' e1 R1 ru _ g1 => ?_
  refine one' (f := fun l => (IR.wantInt l).bind fun i => (IR.ev D.g call z ρ).bind fun h => (IR.wantInt h).bind fun j => IR.slM u (some i) (some j)) hI R1 (hρ.mono e1.w) (GV.base e1 g1) fun μ2 S2 H2 v v' e2 R2 rv _ g2 => ?_
  obtain ⟨i, rfl, g3⟩ := wantI g2
  refine ⟨i, rv.int, ?_⟩
  refine one' (f := fun h => (IR.wantInt h).bind fun j => IR.slM u (some i) (some j)) hI R2 ((hρ.mono e1.w).mono e2.w) (GV.base e2 g3) fun μ3 S3 H3 w w' e3 R3 rw' _ g4 => ?_
  obtain ⟨j, rfl, g5⟩ := wantI g4
  refine ⟨j, rw'.int, ?_⟩
  rw [C.K]
  exact o_sl R3 ((ru.mono e2).mono e3) (slG (GV.base e3 g5))
theorem e_sl10 (C : Cm D X c k F) {lo : Expr} (ha : PE X a (tV D F call x)) (hl : PE X lo (tV D F call y)) : PE X (.Subscript a (.Slice (some lo) none none p2) pos) (tV D F call (.sl10 x y)) := by
  refine PE.weak (pe_slice sl_X ha (po_some hl) po_none) fun σ H Q q => ?_
  obtain ⟨μ, S, ρ, hI, R, hρ, g⟩ := q
  refine one' (f := fun u => (IR.ev D.g call y ρ).bind fun l => (IR.wantInt l).bind fun i => IR.slM u (some i) none) hI R hρ g fun μ1 S1 H1 u u' e1 R1 ru _ g1 => ?_
  refine one' (f := fun l => (IR.wantInt l).bind fun i => IR.slM u (some i) none) hI R1 (hρ.mono e1.w) (GV.base e1 g1) fun μ2 S2 H2 v v' e2 R2 rv _ g2 => ?_
  obtain ⟨i, rfl, g3⟩ := wantI g2
  refine ⟨i, rv.int, ?_⟩
  show rSlX X.K u' (some i) none H2 Q
  rw [C.K]
  exact o_sl R2 (ru.mono e2) (slG (GV.base e2 g3))
theorem e_sl01 (C : Cm D X c k F) {hi : Expr} (ha : PE X a (tV D F call x)) (hl : PE X hi (tV D F call y)) : PE X (.Subscript a (.Slice none (some hi) none p2) pos) (tV D F call (.sl01 x y)) := by
  refine PE.weak (pe_slice sl_X ha po_none (po_some hl)) fun σ H Q q => ?_
  obtain ⟨μ, S, ρ, hI, R, hρ, g⟩ := q
  refine one' (f := fun u => (IR.ev D.g call y ρ).bind fun l => (IR.wantInt l).bind fun i => IR.slM u none (some i)) hI R hρ g fun μ1 S1 H1 u u' e1 R1 ru _ g1 => ?_
  refine one' (f := fun l => (IR.wantInt l).bind fun i => IR.slM u none (some i)) hI R1 (hρ.mono e1.w) (GV.base e1 g1) fun μ2 S2 H2 v v' e2 R2 rv _ g2 => ?_
  obtain ⟨i, rfl, g3⟩ := wantI g2
  refine ⟨i, rv.int, ?_⟩
  rw [C.K]
  exact o_sl R2 (ru.mono e2) (slG (GV.base e2 g3))
theorem e_sl00 (C : Cm D X c k F) (ha : PE X a (tV D F call x)) : PE X (.Subscript a (.Slice none none none p2) pos) (tV D F call (.sl00 x)) := by
  refine PE.weak (pe_slice sl_X ha po_none po_none) fun σ H Q q => ?_
  obtain ⟨μ, S, ρ, hI, R, hρ, g⟩ := q
  refine one' (f := fun u => IR.slM u none none) hI R hρ g fun μ1 S1 H1 u u' e1 R1 ru _ g1 => ?_
  show rSlX X.K u' none none H1 Q
  rw [C.K]
  exact o_sl R1 ru (slG (GV.base e1 g1))
/-! ### a text of the module -/
theorem e_gstr (C : Cm D X c k F) {t : IR.Txt} {m : Str} {tk : Tok} (h : sT t = m) (hg : c.sc.names.lookup n = some .globalImplicit) (hm : D.mg n = some (.str m tk)) (hd : (n == ("__debug__" : Str)) = false := by rfl) : PE X (.Name n pos) (tV D F call (.c (.str t))) := s_c (pe_glob (v := .str m) (C.gl hg) (C.mgn hm) ⟨_, rfl⟩ hd) fun _ _ => by rw [← h]; exact .str t
end
end IRS

namespace IRS
open PySem PySem.Spec PyProof.Rows L2 TL
/-! ### numbers as texts -/
theorem natTxtAux_eq : ∀ (f n : Nat) (acc : List Nat), n < f → IR.natTxtAux f n acc = numL n ++ acc
  | 0, n, acc, h => by omega
  | f + 1, n, acc, h => by
    unfold IR.natTxtAux
    by_cases hn : n < 10
    · rw [if_pos hn, numL_lt hn]; rfl
    · rw [if_neg hn, natTxtAux_eq f (n / 10) _ (by omega), numL_step (n := n) (by omega), List.append_assoc]; rfl
theorem natTxt_eq (n : Nat) : IR.natTxt n = numL n := by
  rw [IR.natTxt, natTxtAux_eq _ _ _ (by omega), List.append_nil]
theorem nums (n : Nat) : (toString ((n : Nat) : Int)).toList.map Char.toNat = numL n := by
  have h := tl_num n
  rw [Str.ofString_eq_toList] at h
  exact h
theorem intTxt_eq (i : Int) : sT (IR.intTxt i) = Str.ofString (toString i) := by
  rw [Str.ofString_eq_toList]
  unfold sT
  congr 2
  cases i with
  | ofNat n =>
    have : ¬ (Int.ofNat n < 0) := Int.not_lt.mpr (Int.natCast_nonneg n)
    rw [IR.intTxt, if_neg this]
    show IR.natTxt n = _
    rw [natTxt_eq]
    exact (nums n).symm
  | negSucc m =>
    have : Int.negSucc m < 0 := by omega
    rw [IR.intTxt, if_pos this]
    show 45 :: IR.natTxt (m + 1) = _
    rw [natTxt_eq, ← nums (m + 1)]
    have e : toString (Int.negSucc m) = "-" ++ toString (((m + 1 : Nat) : Nat) : Int) := rfl
    rw [e]
    simp
section
variable {D : Wd} {X : Cx} {c : Ctx} {k : Nat} {F : Fm} {pos p p2 : Pos} {a b e o tg : Expr} {es : List Expr} {call : Nat → List IR.D → IR.M IR.D} {x y z : IR.E} {n : Str}
theorem o_str1 {N : Nm} {W : Fm} {μ : List Addr} {H : Hp} {S : IR.Sto} {Q : VK} {d : IR.D} {v : V} (R : Rel N μ S H) (ra : RepV N μ H d v) (g : GV N W μ H (IR.evOp .str [d] S) Q) : ∃ i, [v] = [V.int i] ∧ i.natAbs.log2 < 1920 ∧ Q (.str (toString i)) H := by
  cases d <;> first | exact g.elim | skip
  rename_i i
  rw [ra.int]
  have g : GV N W μ H (if i.natAbs < 10 ^ 100 then .ok (.str (IR.intTxt i)) S else .bad) Q := g
  split at g
  · rename_i h
    refine ⟨i, rfl, ?_, ?_⟩
    · have h2 : i.natAbs < 2 ^ 1919 := Nat.lt_of_lt_of_le h (by decide +kernel)
      by_cases h0 : i.natAbs = 0
      · rw [h0]; decide
      · have := (Nat.log2_lt h0).mpr h2
        omega
    · have q := GV.str R g
      rw [intTxt_eq] at q
      exact q
  · exact g.elim
theorem e_strI (C : Cm D X c k F) (hg : c.sc.names.lookup ("str" : Str) = some .globalImplicit) (hm : D.mg "str" = none) (ha : PE X a (tV D F call x)) (hs : A1 a X) : PE X (.Call (.Name "str" p) [a] [] pos) (tV D F call (.op .str (.cons false x .nil))) :=
  s_b1 (pe_callTy call_str_int (C.gl hg) (C.mgn hm) boot_str (s_cons ha s_nil hs) (he := hs)) fun R ra g => o_str1 R ra g
end
end IRS

namespace IRS
open PySem PySem.Spec PyProof.Rows L2
section
variable {D : Wd} {X : Cx} {c : Ctx} {k : Nat} {F : Fm} {pos p p2 : Pos} {a b e o tg : Expr} {es : List Expr} {call : Nat → List IR.D → IR.M IR.D} {x y z : IR.E} {n : Str} {mname : List (Str × Nat)}
/-! ### while -/
theorem st_whl {cE : Expr} {body : List Stmt} {bd : IR.Ss} (hp : PassesOwn (model X.prog X.w) X.A X.env X.xe) (hc : PT X cE (tB' D F call x)) (hb : PSs X body (tSs D F call bd)) : PS X (.While cE body [] pos) (tSt D F call (.whl x bd)) := by
  refine PS.weak (ps_while hp hc hb) fun E σ H q => ?_
  obtain ⟨μ, S, ρ, hI, R, hρ, g⟩ := q
  refine ⟨fun m σ' H' => ∃ μ' S' ρ', F.I σ' ∧ Rel D.N μ' S' H' ∧ RSt D.N μ' H' ρ' σ' ∧ GG D.N F μ' H' (IR.whlGo (fun ρ => (IR.ev D.g call x ρ).bind IR.truth) (fun ρ => IR.exs D.g call bd ρ) m ρ' S') (KF D.N F E H'), ⟨IR.WFUEL, μ, S, ρ, hI, R, hρ, g⟩, ?_⟩
  rintro m σ1 H1 ⟨μ1, S1, ρ1, hI1, R1, hρ1, g1⟩
  cases m with
  | zero => exact g1.elim
  | succ m =>
    refine ⟨μ1, S1, ρ1, hI1, R1, hρ1, ?_⟩
    have g1 : GG D.N F μ1 H1 ((((IR.ev D.g call x ρ1).bind IR.truth) S1).bind fun b => if b then (IR.exs D.g call bd ρ1).bind fun fl => match fl with
      | .next ρ' => IR.whlGo (fun ρ => (IR.ev D.g call x ρ).bind IR.truth) (fun ρ => IR.exs D.g call bd ρ) m ρ'
      | .cnt ρ' => IR.whlGo (fun ρ => (IR.ev D.g call x ρ).bind IR.truth) (fun ρ => IR.exs D.g call bd ρ) m ρ'
      | .brk ρ' => IR.M.pure (.next ρ')
      | .ret d => IR.M.pure (.ret d)
    else IR.M.pure (.next ρ1)) (KF D.N F E H1) := g1
    show GG D.N F μ1 H1 (((IR.ev D.g call x ρ1).bind IR.truth) S1) _
    refine GG.imp (GG.bind g1) fun t S2 μ2 H2 e2 R2 g2 => ?_
    have hρ2 := hρ1.mono e2.w
    have g2 := KF.base' e2 g2
    cases t with
    | false =>
      show E.nx σ1 H2
      exact g2 μ2 H2 (Ext.refl _ _) R2 σ1 hI1 hρ2
    | true =>
      refine ⟨_, fun σ' H' w => ⟨m, Nat.lt_succ_self _, w⟩, ?_⟩
      refine ⟨μ2, S2, ρ1, hI1, R2, hρ2, ?_⟩
      refine GG.imp (GG.bind (show GG D.N F μ2 H2 ((IR.exs D.g call bd ρ1 S2).bind _) (KF D.N F E H2) from g2)) fun fl S3 μ3 H3 e3 R3 g3 => ?_
      cases fl with
      | next ρ3 => exact fun σ3 hI3 hρ3 => ⟨μ3, S3, ρ3, hI3, R3, hρ3, KF.base' e3 g3⟩
      | cnt ρ3 => exact fun σ3 hI3 hρ3 => ⟨μ3, S3, ρ3, hI3, R3, hρ3, KF.base' e3 g3⟩
      | brk ρ3 => exact fun σ3 hI3 hρ3 => g3 μ3 H3 (Ext.refl _ _) R3 σ3 hI3 hρ3
      | ret d => exact g3 μ3 H3 (Ext.refl _ _) R3
theorem st_retN : PS X (.Return none pos) (tSt D F call (.ret (.c .non))) := by
  refine PS.weak ps_retN fun E σ H q => ?_
  obtain ⟨μ, S, ρ, hI, R, hρ, g⟩ := q
  exact g μ H (Ext.refl _ _) R .non Rep.non fun _ _ z => nomatch z
/-! ### fields stored -/
theorem st_fld (C : Cm D X c k F) (Kk : Kn D k call mname) {f : Nat} (hf : D.N.fld[f]? = some n) (ho : PE X o (tV D F call x)) (hv : PE X e (tV D F call y)) (hs : swapsWith e (some (.Attribute o n p2)) pos.line X.env = pure false) :
    PS X (.Assign [.Attribute o n p2] e pos) (tSt D F call (.setAttr x f y)) := by
  refine PS.weak (ps_fld ho hv hs) fun E σ H q => ?_
  obtain ⟨μ, S, ρ, hI, R, hρ, g⟩ := q
  refine ⟨μ, S, ρ, hI, R, hρ, ?_⟩
  have g : GG D.N F μ H (((IR.ev D.g call y ρ S).bind (IR.ownIf true)).bind fun d => (IR.ev D.g call x ρ).bind fun oo => (IR.setAttrD d oo f).bind fun _ => IR.M.pure (IR.Flow.next ρ)) (KF D.N F E H) := by
    have e : IR.ex D.g call (.setAttr x f y) ρ S = ((IR.ev D.g call y ρ S).bind (IR.ownIf true)).bind fun d => (IR.ev D.g call x ρ).bind fun oo => (IR.setAttrD d oo f).bind fun _ => IR.M.pure (IR.Flow.next ρ) := by
      simp only [IR.ex, IR.M.bind]
      cases IR.ev D.g call y ρ S <;> rfl
    rw [← e]; exact g
  refine GG.own g fun μ1 S1 H1 d v e1 R1 rd g1 => ?_
  refine one' (f := fun oo => (IR.setAttrD d oo f).bind fun _ => IR.M.pure (IR.Flow.next ρ)) hI R1 (hρ.mono e1.w) g1 fun μ2 S2 H2 oo oo' e2 R2 ro _ g2 => ?_
  have g2 := GG.base e2 g2
  obtain ⟨r, rfl⟩ : ∃ r, oo = .ref r := by cases oo <;> first | exact ⟨_, rfl⟩ | exact g2.elim
  obtain ⟨q, rfl, hq⟩ := ro.ref
  cases h : S2[r]? with
  | none =>
    have e3 : IR.setAttrD d (.ref r) f S2 = .bad := by simp [IR.setAttrD, h]
    rw [show ((IR.setAttrD d (.ref r) f).bind fun _ => IR.M.pure (IR.Flow.next ρ)) S2 = (IR.setAttrD d (.ref r) f S2).bind fun _ => IR.M.pure (IR.Flow.next ρ) from rfl, e3] at g2
    exact g2.elim
  | some ob =>
    cases ob with
    | lst l =>
      have e3 : IR.setAttrD d (.ref r) f S2 = .bad := by simp [IR.setAttrD, h]
      rw [show ((IR.setAttrD d (.ref r) f).bind fun _ => IR.M.pure (IR.Flow.next ρ)) S2 = (IR.setAttrD d (.ref r) f S2).bind fun _ => IR.M.pure (IR.Flow.next ρ) from rfl, e3] at g2
      exact g2.elim
    | dK l1 l2 =>
      have e3 : IR.setAttrD d (.ref r) f S2 = .bad := by simp [IR.setAttrD, h]
      rw [show ((IR.setAttrD d (.ref r) f).bind fun _ => IR.M.pure (IR.Flow.next ρ)) S2 = (IR.setAttrD d (.ref r) f S2).bind fun _ => IR.M.pure (IR.Flow.next ρ) from rfl, e3] at g2
      exact g2.elim
    | dT l1 l2 =>
      have e3 : IR.setAttrD d (.ref r) f S2 = .bad := by simp [IR.setAttrD, h]
      rw [show ((IR.setAttrD d (.ref r) f).bind fun _ => IR.M.pure (IR.Flow.next ρ)) S2 = (IR.setAttrD d (.ref r) f S2).bind fun _ => IR.M.pure (IR.Flow.next ρ) from rfl, e3] at g2
      exact g2.elim
    | exn l1 l2 =>
      have e3 : IR.setAttrD d (.ref r) f S2 = .bad := by simp [IR.setAttrD, h]
      rw [show ((IR.setAttrD d (.ref r) f).bind fun _ => IR.M.pure (IR.Flow.next ρ)) S2 = (IR.setAttrD d (.ref r) f S2).bind fun _ => IR.M.pure (IR.Flow.next ρ) from rfl, e3] at g2
      exact g2.elim
    | ins cc fs =>
      by_cases hl : fs.length < 900
      · have e3 : IR.setAttrD d (.ref r) f S2 = .ok () (S2.set r (.ins cc (IR.fPut fs f d))) := by simp [IR.setAttrD, h, hl]
        rw [show ((IR.setAttrD d (.ref r) f).bind fun _ => IR.M.pure (IR.Flow.next ρ)) S2 = (IR.setAttrD d (.ref r) f S2).bind fun _ => IR.M.pure (IR.Flow.next ρ) from rfl, e3] at g2
        obtain ⟨Ca, dx, r', hc, h1, fr⟩ := R2.ob r _ q h hq
        obtain ⟨k1, k2⟩ := Kk.cls cc Ca hc
        refine ⟨q, Ca, dx, r', rfl, h1, by rw [C.K]; exact k1, by rw [C.K]; exact k2 n (List.mem_of_getElem? hf), by rw [← fr.length]; omega, ?_⟩
        have ew : Ext μ2 H2 μ2 (upd H2 q (.ins Ca dx (putF n v r'))) := Ext.write hq h1 (fun _ z => nomatch z) (fun _ _ z => nomatch z)
        have fr2 : FR D.N μ2 (upd H2 q (.ins Ca dx (putF n v r'))) (IR.fPut fs f d) (putF n v r') := (FR.put Kk.fnd hf (RepO.mono (o := true) e2 rd) fr).mono ew.w
        exact g2 μ2 _ ew (R2.write hq ⟨Ca, dx, _, hc, upd_same, fr2⟩ ew.w) σ hI (((hρ.mono e1.w).mono e2.w).mono ew.w)
      · have e3 : IR.setAttrD d (.ref r) f S2 = .bad := by simp [IR.setAttrD, h, hl]
        rw [show ((IR.setAttrD d (.ref r) f).bind fun _ => IR.M.pure (IR.Flow.next ρ)) S2 = (IR.setAttrD d (.ref r) f S2).bind fun _ => IR.M.pure (IR.Flow.next ρ) from rfl, e3] at g2
        exact g2.elim
/-! ### methods of lists, dicts, texts -/
def kindT : Nat → String
  | 1 => "list"
  | 2 => "dict"
  | _ => "str"
theorem recv_ty {μ : List Addr} {S : IR.Sto} {H : Hp} {d : IR.D} {v : V} {N : Nm} {i : Nat} (R : Rel N μ S H) (r : RepV N μ H d v) (h : IR.recvK S d = some i) : tyV N.K (kindT i) v H := by
  cases d <;> simp only [IR.recvK] at h <;> try (cases h; done)
  · cases h; rw [r.str]; rfl
  · rename_i q
    obtain ⟨ad, rfl, hq⟩ := r.ref
    split at h
    · rename_i l e
      cases h
      obtain ⟨vs, h1, _⟩ := R.ob q _ ad e hq
      exact .inl ⟨rfl, vs, .of h1⟩
    · rename_i kvs e
      cases h
      obtain ⟨vs, h1, _⟩ := R.ob q _ ad e hq
      exact .inr (.inr (.inl ⟨rfl, .inl ⟨vs, h1⟩⟩))
    · rename_i kvs e
      cases h
      obtain ⟨vs, h1, _⟩ := R.ob q _ ad e hq
      exact .inr (.inr (.inl ⟨rfl, .inr ⟨vs, h1⟩⟩))
    · cases h
  · cases h
    obtain ⟨ad, vs, rfl, h1, _, _⟩ := r
    exact .inl ⟨rfl, vs, .of h1⟩
theorem s_bm {name : Str} {id : String} {kd : Nat} {r : V → List V → Hp → VK → Prop} {oo : IR.Op} {xs : IR.Es} {apos : Pos} (C : Cm D X c k F) (pa : PlainAttrs (kindT kd)) (slot : Slot (kindT kd) name id) (hty : typeOf (.builtin id) = pure (.type "method_descriptor")) (hm : MtR X id r) (hk : IR.bmKinds oo = [kd])
    (ho : PE X o (tV D F call x)) (ha : PA X (e :: es) (tAs D F call xs))
    (hr : ∀ {μ S H Q d v ds vs}, Rel D.N μ S H → RepV D.N μ H d v → RepOs D.N μ H (esOwn xs) ds vs → GV D.N F μ H (IR.evOp oo (d :: ds) S) Q → r v vs H Q)
    (hbase : attributeBase o name X.env (eval o X.env) = eval o X.env)
    (hfew : ((backTo pos (starEach (e :: es) X.env)).all (fun x => !x.1) && (backToKw pos (keywordEach [] X.env)).all (fun x => x.1.isSome) && decide ((e :: es).length + ([] : List Keyword).length + (if ([] : List Keyword).isEmpty then 0 else 1) < 30)) = true)
    (hline : (apos.endLine == pos.line) = true) (hs : starEach (e :: es) X.env = (false, eval e X.env) :: starEach es X.env) (hplain : (backTo pos (starEach es X.env)).any (·.1) = false) :
    PE X (.Call (.Attribute o name apos) (e :: es) [] pos) (tV D F call (.bm oo x xs)) := by
  refine PE.weak (pe_bm pa slot hty hm ho ha hbase hfew hline hs hplain) fun σ H Q q => ?_
  obtain ⟨μ, S, ρ, hI, R, hρ, g⟩ := q
  refine one' (f := fun d => (IR.recvOk oo d).bind fun _ => (IR.evs D.g call xs ρ).bind fun l => IR.evOp oo (d :: l)) hI R hρ g fun μ1 S1 H1 d v e1 R1 rd _ g1 => ?_
  have g1 : GV D.N F μ H ((IR.recvOk oo d S1).bind fun _ => (IR.evs D.g call xs ρ).bind fun l => IR.evOp oo (d :: l)) Q := g1
  unfold IR.recvOk at g1
  cases hd : IR.recvK S1 d with
  | none => rw [hd] at g1; exact g1.elim
  | some i =>
    rw [hd, hk] at g1
    by_cases hi : i = kd
    · subst hi
      simp only [List.contains_cons, beq_self_eq_true, Bool.true_or, if_true] at g1
      refine ⟨by rw [C.K]; exact recv_ty R1 rd hd, ?_⟩
      have g2 : GV D.N F μ1 H1 (((IR.evs D.g call xs ρ).bind fun l => IR.evOp oo (d :: l)) S1) Q := GV.base e1 g1
      exact argsG (f := fun l => IR.evOp oo (d :: l)) hI R1 (hρ.mono e1.w) g2 fun μ2 S2 H2 ds vs e2 R2 rs g3 => hr R2 (rd.mono e2) rs g3
    · have e3 : [kd].contains i = false := by simp [hi]
      have g1 : GV D.N F μ H ((if [kd].contains i = true then IR.Res.ok () S1 else IR.Res.bad : IR.Res Unit).bind fun _ => (IR.evs D.g call xs ρ).bind fun l => IR.evOp oo (d :: l)) Q := g1
      rw [e3] at g1
      exact g1.elim
theorem e_append (C : Cm D X c k F) {apos : Pos} (ho : PE X o (tV D F call x)) (ha : PE X e (tV D F call y)) (hs : A1 e X) (hbase : attributeBase o ("append" : Str) X.env (eval o X.env) = eval o X.env) (hline : (apos.endLine == pos.line) = true) :
    PE X (.Call (.Attribute o ("append" : Str) apos) [e] [] pos) (tV D F call (.bm .append x (.cons true y .nil))) :=
  s_bm C (kd := 1) PySem.F.plainAttrs_list PySem.F.slot_list_append PySem.F.type_list_append mt_append rfl ho (s_cons ha s_nil hs) (fun R rd rs g => by
    cases rs with
    | cons r1 rr => cases rr; exact o_append R rd r1 g) hbase (by rw [hs]; rfl) hline hs rfl
end
end IRS

namespace IRS
open PySem PySem.Spec PyProof.Rows PySem.W L2 DT L2.DX
/-! sorted(d.items()), the keys whole numbers -/
section
variable {prog : Program} {w : World} {A : Around} {E : Value → Shared → Prop} {s : Shared}
/-- v is a pair of this number and u -/
def PairN (h : Heap) (v : Value) (n : Int) (u : Value) : Prop := ∃ (a : Addr) (t : Tok), v = .ref a ∧ IsTup h a #[.int n t, u]
def numOf : Option Value → Int
  | some (.int n _) => n
  | _ => 0
def keyD : Data → Int
  | .seq xs _ => numOf xs[0]?
  | _ => 0
/-- the first item of a pair, a number -/
def keyN (h : Heap) : Value → Int
  | .ref a => (match h.get? a with | some o => keyD o.data | none => 0)
  | _ => 0
theorem PairN.key {h : Heap} {v u : Value} {n : Int} (x : PairN h v n u) : keyN h v = n := by
  obtain ⟨a, t, rfl, ⟨o, ho, hc, k, hd⟩⟩ := x
  show (match h.get? a with | some o => keyD o.data | none => 0) = n
  rw [ho]
  show keyD o.data = n
  rw [hd]
  rfl
theorem firstsN {h : Heap} : ∀ vs : List Value, (∀ v ∈ vs, ∃ n u, PairN h v n u) → ∃ fs : List Value, KatTups h vs fs ∧ fs.length = vs.length ∧ ∀ f ∈ fs, ∃ n t, f = Value.int n t
  | [], _ => ⟨[], KatTups.nil, rfl, fun f hf => by simp at hf⟩
  | v :: vs, x => by
    obtain ⟨fs, k, hl, hi⟩ := firstsN vs fun u hu => x u (List.mem_cons_of_mem _ hu)
    obtain ⟨n, u, a, t, rfl, ⟨o, ho, hc, m, hd⟩⟩ := x v (List.mem_cons_self ..)
    refine ⟨.int n t :: fs, KatTups.cons ho hc hd rfl k, by rw [List.length_cons, List.length_cons, hl], fun f hf => ?_⟩
    rcases List.mem_cons.mp hf with rfl | hf
    · exact ⟨n, t, rfl⟩
    · exact hi f hf
theorem eqBool_self {v : Value} {Q : Bool → Shared → Prop} (h : Q true s) : wpAny (model prog w) A (eqBool v v) Q E s := by
  unfold eqBool
  refine wpAny_holding ?_
  rw [if_pos (beq_self_eq_true v)]
  exact wpAny_bind (wpAny_rule (wpAny_pure h))
theorem kind_n {vs : List Value} (h2 : 2 ≤ vs.length) (x : ∀ v ∈ vs, ∃ n u, PairN s.heap v n u) (one : ∀ v ∈ vs, ∀ u ∈ vs, keyN s.heap v = keyN s.heap u → v = u) (Q : SortKind → Shared → Prop)
    (h : ∀ κ, TS.Cmp prog w A s κ (pairsOf vs) (fun v => keyN s.heap v) → Q κ s) : wpAny (model prog w) A (keyKind' vs.toArray) Q E s := by
  obtain ⟨fs, k, hl, hi⟩ := firstsN vs x
  refine kat_kind (T := Value.type "int") k (by omega) (fun f hf => ?_) rfl (h _ ?_)
  · obtain ⟨n, t, rfl⟩ := hi f hf
    exact .now
  · intro p q hp hq Q' E' hQ
    rw [pairsOf_toList] at hp hq
    have mp := (mem_zip_self hp).2
    have mq := (mem_zip_self hq).2
    obtain ⟨n, u, pn⟩ := x _ mp
    obtain ⟨m, v, pm⟩ := x _ mq
    have on := one _ mp _ mq
    have hQ' : Q' (decide (n < m)) s := by
      have z : Q' (decide (keyN s.heap p.1 < keyN s.heap q.1)) s := hQ
      rw [pn.key, pm.key] at z
      exact z
    rw [pn.key, pm.key] at on
    obtain ⟨a, t, e1, ⟨o, ho, hc, k1, hd⟩⟩ := pn
    obtain ⟨a', t', e2, ⟨o', ho', hc', k2, hd'⟩⟩ := pm
    rw [e1, e2]
    rw [e1, e2] at on
    refine kat_lt ho hd ho' hd' ?_
    show KatLex prog w A _ (decide (2 < 2)) Q' [(Value.int n t, Value.int m t'), (u, v)] 0 s
    by_cases e : n = m
    · have eaa : Value.ref a = .ref a' := on e
      injection eaa with eaa
      subst eaa
      rw [ho] at ho'
      injection ho' with ho'
      subst ho'
      rw [hd] at hd'
      injection hd' with hd' _
      have hxs : [Value.int n t, u] = [Value.int m t', v] := by
        have := congrArg Array.toList hd'
        simpa using this
      have e4 : u = v := by simp at hxs; exact hxs.2
      subst e4
      have irr : decide (n < m) = false := by simp [e]
      rw [irr] at hQ'
      refine kat_cons (wpAny_eqBool_int ?_)
      have e5 : (n == m) = true := by simp [e]
      rw [e5]
      refine kat_yes (kat_cons (eqBool_self ?_))
      exact kat_yes (kat_nil hQ')
    · refine kat_cons (wpAny_eqBool_int ?_)
      have e5 : (n == m) = false := by simp [e]
      rw [e5]
      refine kat_no ?_
      exact TS.oneLt_ints _ hQ'
end
abbrev entN (e : Int × Addr) : Key × V := (Sum.inl e.1, V.ref e.2)
/-- keys are numbers, values objects -/
def rSortN : List V → Hp → VK → Prop := fun vs H Q => ∃ (p a : Addr) (ks : List (Int × Addr)), vs = [.ref p] ∧ H p = some (itemsO p a) ∧ H a = some (.dK (ks.map entN)) ∧ ks.length < 64 ∧
  ∀ (H' : Hp) (l : Addr) (ps : List (Addr × Int × Addr)), (∀ b o, H b = some o → H' b = some o) → H l = none → (ps.map (·.2)).Perm ks → (ks.map (·.1)).Nodup → (ps.map (·.2)).Pairwise (fun e f => e.1 ≤ f.1) → H' l = some (.lst (ps.map fun z => V.ref z.1)) →
    (∀ z ∈ ps, H' z.1 = some (.tup [.int z.2.1, .ref z.2.2])) → Q (.ref l) H'
theorem nodup_lift {α β : Type} {f : α → β} : ∀ {l : List α}, (l.map f).Nodup → ∀ x ∈ l, ∀ y ∈ l, f x = f y → x = y
  | [], _, x, hx, _, _, _ => by simp at hx
  | z :: r, h, x, hx, y, hy, e => by
    rw [List.map_cons, List.nodup_cons] at h
    rcases List.mem_cons.mp hx with h1 | h1
    · rcases List.mem_cons.mp hy with h2 | h2
      · rw [h1, h2]
      · exact absurd (List.mem_map.mpr ⟨y, h2, by rw [← e, h1]⟩) h.1
    · rcases List.mem_cons.mp hy with h2 | h2
      · exact absurd (List.mem_map.mpr ⟨x, h1, by rw [e, h2]⟩) h.1
      · exact nodup_lift h.2 x h1 y h2 e
theorem pairs_at {κ : Type} [DecidableEq κ] {P : Program} {w : World} {knd : KeyKind P w κ} : ∀ {es : List DictEntry} {vs : List (κ × Value)} {j : Nat} {en : DictEntry}, Pairs knd es vs → es[j]? = some en → ∃ kv, vs[j]? = some kv ∧ knd.is kv.1 en.key = true ∧ en.val = kv.2
  | _, _, j, _, .nil, h => by simp at h
  | _, _, 0, _, .cons (kv := kv) a b _, h => by
    simp only [List.getElem?_cons_zero] at h
    cases h
    exact ⟨kv, rfl, a, b⟩
  | _, _, j + 1, _, .cons _ _ r, h => by
    simp only [List.getElem?_cons_succ] at h ⊢
    exact pairs_at r h
theorem pairs_len {κ : Type} [DecidableEq κ] {P : Program} {w : World} {knd : KeyKind P w κ} : ∀ {es : List DictEntry} {vs : List (κ × Value)}, Pairs knd es vs → es.length = vs.length
  | _, _, .nil => rfl
  | _, _, .cons _ _ r => by simp [pairs_len r]
theorem kv_keys {κ : Type} : ∀ {l : List (κ × V)} {m : List (κ × Value)}, KV l m → m.map (·.1) = l.map (·.1)
  | _, _, .nil => rfl
  | _, _, .cons h t => by
    have ih := kv_keys t
    rw [List.map_cons, List.map_cons, ih, h.1]
theorem cr_sortN {X : Cx} (hc : X.calm = true) : CallR X (.builtin "sorted") rSortN := by
  intro pins s σ H xs us Q I r h
  obtain ⟨p, a, ks, rfl, hp, ha, h64, q⟩ := h
  obtain rfl := Vals.ref1 r
  have view : s.heap.IsItemsView p a := (show ObjOk X.prog X.w H s.heap p (itemsO p a) from I.hok p _ hp).1
  obtain ⟨z, hd, vs, rel, o, es, ep, ho, hx, hdat, hko, hes, hnd⟩ := dk_of I.hok ha
  have l1 : (ks.map entN).length = vs.length := Paired.length rel
  rw [List.length_map] at l1
  have l2 : es.size = vs.length := by
    have := pairs_len hes
    simpa using this
  have hh : X.A.handled = none := I.ok.hd hc
  have hnk : (ks.map (·.1)).Nodup := by
    rw [kv_keys rel, List.map_map] at hnd
    have e : ks.map ((·.1) ∘ entN) = (ks.map (·.1)).map Sum.inl := by rw [List.map_map]; rfl
    rw [e] at hnd
    exact List.Pairwise.of_map Sum.inl (fun a b h e => h (by rw [e])) hnd
  refine DT.sortedI (es := es) (ep := ep) hh view ⟨o, ho, hx, hdat⟩ (by rw [sizeLine_eq]; omega) fun h' tk as hk hlt hl hG => ?_
  have lak : as.length = ks.length := by omega
  have nd : as.Nodup := List.Pairwise.imp (fun h => Nat.ne_of_lt h) hG.rise
  have pr : ∀ (j : Nat) (b : Addr), as[j]? = some b → ∃ (e : Int × Addr) (t : Tok), ks[j]? = some e ∧ h'.get? b = some { cls := .type "tuple", data := .seq #[Value.int e.1 t, Value.ref e.2] } := by
    intro j b hj
    obtain ⟨en, he, hg⟩ := hG.pairs j b hj
    obtain ⟨kv, hkv, hi, hv⟩ := pairs_at hes (j := j) (en := en) (by simpa using he)
    obtain ⟨e0, he0, r1, r2⟩ := pget rel hkv
    rw [List.getElem?_map] at he0
    cases hkj : ks[j]? with
    | none => rw [hkj] at he0; exact nomatch (show (none : Option (Key × V)) = some e0 from he0)
    | some e =>
      rw [hkj] at he0
      have ee : entN e = e0 := Option.some.inj he0
      rw [← ee] at r1 r2
      have r2' : kv.2 = Value.ref e.2 := r2
      have hi' : keyIs kv.1 en.key = true := hi
      rw [← r1] at hi'
      obtain ⟨t, ht⟩ : ∃ t, en.key = Value.int e.1 t := by
        rcases keyIs_shape hi' with ⟨i, t, h1, h2⟩ | ⟨x, t, h1, h2⟩
        · injection h1 with h1
          exact ⟨t, by rw [h2, h1]⟩
        · exact nomatch h1
      exact ⟨e, t, rfl, by rw [hg, ht, hv, r2']⟩
  -- the heap of the sort
  have hob : (h'.push { cls := .type "list", data := .seq (as.map Value.ref).toArray }).get? h'.objs.size = some (seqObj "list" (as.map Value.ref).toArray 0) := Heap.get?_push_size _ rfl
  have kb : ∀ b o, s.heap.get? b = some o → (h'.push { cls := .type "list", data := .seq (as.map Value.ref).toArray }).get? b = some o := fun b o e => Heap.get?_push_of_some _ (hk b o e)
  have ne0 : ∀ b o, h'.get? b = some o → b ≠ h'.objs.size := fun b o e => Nat.ne_of_lt (Heap.lt_size e)
  generalize hh2 : h'.push { cls := .type "list", data := .seq (as.map Value.ref).toArray } = h2 at hob kb ⊢
  have ka : ∀ b o, h'.get? b = some o → h2.get? b = some o := fun b o e => by rw [← hh2]; exact Heap.get?_push_of_some _ e
  have pin : ∀ (j : Nat) (b : Addr), as[j]? = some b → ∃ e : Int × Addr, ks[j]? = some e ∧ PairN (TS.midHeap h2 h'.objs.size (as.map Value.ref)) (.ref b) e.1 (.ref e.2) := by
    intro j b hj
    obtain ⟨e, t, he, hg⟩ := pr j b hj
    exact ⟨e, he, b, t, rfl, _, TS.midHeap_old (ne0 _ _ hg) (ka _ _ hg), rfl, 0, rfl⟩
  have tx : ∀ (j : Nat) (b : Addr) (e : Int × Addr), as[j]? = some b → ks[j]? = some e → keyN (TS.midHeap h2 h'.objs.size (as.map Value.ref)) (.ref b) = e.1 := by
    intro j b e hj he
    obtain ⟨e', he', hp'⟩ := pin j b hj
    have ee : e' = e := Option.some.inj (he'.symm.trans he)
    rw [← ee]
    exact hp'.key
  have at_ : ∀ v ∈ as.map Value.ref, ∃ (j : Nat) (b : Addr) (e : Int × Addr), v = .ref b ∧ as[j]? = some b ∧ ks[j]? = some e := by
    intro v hv'
    obtain ⟨b, hb, rfl⟩ := List.mem_map.mp hv'
    obtain ⟨j, hj⟩ := List.mem_iff_getElem?.mp hb
    obtain ⟨e, _, he, _⟩ := pr j b hj
    exact ⟨j, b, e, rfl, hj, he⟩
  refine wpAny_call_entry PyProof.Rows.slot_list_sort ⟨_, hob, rfl⟩ PyProof.Rows.entry_list_sort
    (SK.plain_sort (s := { s with heap := h2, toks := tk }) (r := fun v => keyN (TS.midHeap h2 h'.objs.size (as.map Value.ref)) v) hob (by rw [List.length_map]; omega) (fun h2' Qk hQk => ?_) fun ps out o1 o2 o3 => ⟨.none, rfl, ?_⟩) (PyProof.Rows.args_list_sort _)
  · refine kind_n (s := { s with heap := TS.midHeap h2 h'.objs.size (as.map Value.ref), toks := tk }) h2' (fun v hv' => ?_) (fun v hv' u hu' e => ?_) Qk hQk
    · obtain ⟨j, b, e, rfl, hj, he⟩ := at_ v hv'
      obtain ⟨e', _, hp'⟩ := pin j b hj
      exact ⟨_, _, hp'⟩
    · obtain ⟨j, b, e1, rfl, hj, he⟩ := at_ v hv'
      obtain ⟨j2, b2, e2, rfl, hj2, he2⟩ := at_ u hu'
      have z : e1.1 = e2.1 := by
        have := e
        rw [show keyN _ (.ref b) = e1.1 from tx j b e1 hj he, show keyN _ (.ref b2) = e2.1 from tx j2 b2 e2 hj2 he2] at this
        exact this
      have k1 : (ks.map (·.1))[j]? = some e1.1 := by rw [List.getElem?_map, he]; rfl
      have k2 : (ks.map (·.1))[j2]? = some e1.1 := by rw [List.getElem?_map, he2]; simp [z]
      have ej : j = j2 := (List.getElem?_inj (List.getElem?_eq_some_iff.mp k1).1 hnk).mp (k1.trans k2.symm)
      subst ej
      rw [hj] at hj2
      cases hj2
      rfl
  · show EP X pins σ Q (.ref h'.objs.size) { s with heap := sortedHeap h2 h'.objs.size (as.map Value.ref) out, toks := tk }
    obtain ⟨zs, pz, ez⟩ := perm_lift (fun z : Addr × Int × Addr => (Value.ref z.1, Value.ref z.1)) o2 (as.zip ks) (zip_self Value.ref as ks lak)
    have idx : ∀ z ∈ zs, ∃ j : Nat, as[j]? = some z.1 ∧ ks[j]? = some z.2 := by
      intro z' hz'
      obtain ⟨j, hj⟩ := List.mem_iff_getElem?.mp (pz.mem_iff.mp hz')
      exact ⟨j, List.getElem?_zip_eq_some.mp hj⟩
    have hout : out.toList = zs.map fun z => Value.ref z.1 := by
      rw [o1, ← ez, List.map_map]
      all_goals rfl
    have hperm : (zs.map (·.2)).Perm ks := by
      have e := pz.map (·.2)
      have m2 : (as.zip ks).map (·.2) = ks := List.map_snd_zip (by rw [lak]; exact Nat.le_refl _)
      rw [m2] at e
      exact e
    have hsort : (zs.map (·.2)).Pairwise (fun e f => e.1 ≤ f.1) := by
      rw [← ez, List.pairwise_map] at o3
      rw [List.pairwise_map]
      refine List.Pairwise.imp_of_mem (fun {x y} hx hy h => ?_) o3
      obtain ⟨j, j1, j2⟩ := idx x hx
      obtain ⟨i, i1, i2⟩ := idx y hy
      have h' : keyN (TS.midHeap h2 h'.objs.size (as.map Value.ref)) (.ref x.1) ≤ keyN (TS.midHeap h2 h'.objs.size (as.map Value.ref)) (.ref y.1) := h
      rw [tx j _ _ j1 j2, tx i _ _ i1 i2] at h'
      exact h'
    have kF : ∀ b o, b ≠ h'.objs.size → h2.get? b = some o → (sortedHeap h2 h'.objs.size (as.map Value.ref) out).get? b = some o := fun b o hb e => (PyProof.Rows.sortedHeap_old hb (Heap.lt_size e)).trans e
    have kS : ∀ b o, s.heap.get? b = some o → (sortedHeap h2 h'.objs.size (as.map Value.ref) out).get? b = some o := fun b o e => kF b o (ne0 _ _ (hk b o e)) (kb b o e)
    obtain ⟨eF, heF⟩ := PyProof.Rows.sortedHeap_at (vs := as.map Value.ref) (out := out) hob
    have I1 : Inv X pins σ H { s with heap := sortedHeap h2 h'.objs.size (as.map Value.ref) out, toks := tk } := I.kept (t' := tk) kS
    have hn0 : H h'.objs.size = none := I.hok.fresh (Nat.le_of_lt hlt)
    have hlen : (zs.map fun z => V.ref z.1).length ≤ sizeLine := by
      have e := hperm.length_eq
      rw [List.length_map] at e
      rw [List.length_map, sizeLine_eq]
      omega
    have rv : Vals (zs.map fun z => V.ref z.1) out.toList := by
      rw [hout]
      exact vals_maps (fun z : Addr × Int × Addr => V.ref z.1) (fun z => Value.ref z.1) zs fun _ _ => rfl
    have I2 : Inv X pins σ (upd H h'.objs.size (.lst (zs.map fun z => V.ref z.1))) { s with heap := sortedHeap h2 h'.objs.size (as.map Value.ref) out, toks := tk } :=
      I1.take (h' := sortedHeap h2 h'.objs.size (as.map Value.ref) out) (t' := tk) (fun b ob _ e => e) (I.fpOk (Nat.le_of_lt hlt) hn0) ⟨hlen, out.toList, eF, rv, heF⟩
    obtain ⟨H2, I3, g, qt⟩ := takeT (P := fun b vs => ∃ (j : Nat) (e : Int × Addr), as[j]? = some b ∧ ks[j]? = some e ∧ vs = [.int e.1, .ref e.2]) I as _ I2 nd fun b hb => by
      obtain ⟨j, hj⟩ := List.mem_iff_getElem?.mp hb
      obtain ⟨e, t, he, hg⟩ := pr j b hj
      have hbl : s.heap.objs.size ≤ b := Nat.le_of_lt (hG.above b hb)
      refine ⟨hbl, ?_, [.int e.1, .ref e.2], ⟨j, e, hj, he, rfl⟩, fun H3 => ⟨(by rw [sizeLine_eq]; show 2 ≤ 16777216; omega), [Value.int e.1 t, Value.ref e.2], .cons ⟨t, rfl⟩ (.cons rfl .nil), ⟨_, kF _ _ (ne0 _ _ hg) (ka _ _ hg), rfl, 0, rfl⟩⟩⟩
      rw [upd_ne (ne0 _ _ hg)]
      exact I.hok.fresh hbl
    have gr : ∀ b o, H b = some o → H2 b = some o := fun b o e => g b o (by rw [upd_ne (ne_of_none e hn0)]; exact e)
    refine ⟨.ref h'.objs.size, H2, I3, rfl, q H2 h'.objs.size zs gr hn0 hperm hnk hsort (g _ _ upd_same) fun z' hz' => ?_⟩
    obtain ⟨i, i1, i2⟩ := idx z' hz'
    obtain ⟨vs, ⟨j, e, j1, j2, ev⟩, hH⟩ := qt z'.1 (List.mem_of_getElem? i1)
    have eij : i = j := (List.getElem?_inj (List.getElem?_eq_some_iff.mp i1).1 nd).mp (i1.trans j1.symm)
    subst eij
    have ee : e = z'.2 := Option.some.inj (j2.symm.trans i2)
    rw [ev, ee] at hH
    exact hH
end IRS

namespace IRS
open PySem PySem.Spec PyProof.Rows L2
/-! ### sorting -/
theorem insBy_perm {α : Type} {le : α → α → Bool} {x : α} : ∀ {l : List α}, (IR.insBy le x l).Perm (x :: l)
  | [] => .refl _
  | y :: r => by
    unfold IR.insBy
    split
    · exact .refl _
    · exact ((insBy_perm (l := r)).cons y).trans (.swap x y r)
theorem sortBy_perm {α : Type} {le : α → α → Bool} : ∀ {l : List α}, (IR.sortBy le l).Perm l
  | [] => .refl _
  | x :: r => insBy_perm.trans (sortBy_perm.cons x)
theorem insBy_sorted {α : Type} {le : α → α → Bool} (tot : ∀ a b, le a b = true ∨ le b a = true) (tr : ∀ a b c, le a b = true → le b c = true → le a c = true) {x : α} : ∀ {l : List α}, l.Pairwise (fun a b => le a b = true) → (IR.insBy le x l).Pairwise (fun a b => le a b = true)
  | [], _ => by simp [IR.insBy]
  | y :: r, h => by
    obtain ⟨h1, h2⟩ := List.pairwise_cons.mp h
    unfold IR.insBy
    split
    · rename_i hx
      refine List.pairwise_cons.mpr ⟨fun z hz => ?_, h⟩
      rcases List.mem_cons.mp hz with rfl | hz
      · exact hx
      · exact tr _ _ _ hx (h1 z hz)
    · rename_i hx
      refine List.pairwise_cons.mpr ⟨fun z hz => ?_, insBy_sorted tot tr h2⟩
      rcases List.mem_cons.mp (insBy_perm.mem_iff.mp hz) with rfl | hz
      · rcases tot z y with h | h
        · exact absurd h hx
        · exact h
      · exact h1 z hz
theorem sortBy_sorted {α : Type} {le : α → α → Bool} (tot : ∀ a b, le a b = true ∨ le b a = true) (tr : ∀ a b c, le a b = true → le b c = true → le a c = true) : ∀ {l : List α}, (IR.sortBy le l).Pairwise (fun a b => le a b = true)
  | [] => .nil
  | _ :: _ => insBy_sorted tot tr (sortBy_sorted tot tr)
theorem sortI_eq {l m : List Int} (p : m.Perm l) (s : m.Pairwise (· ≤ ·)) : m = IR.sortBy IR.leI l := by
  refine List.Perm.eq_of_pairwise (le := fun a b : Int => a ≤ b) (fun a b _ _ h1 h2 => Int.le_antisymm h1 h2) s ?_ (p.trans sortBy_perm.symm)
  refine (sortBy_sorted (le := IR.leI) (fun a b => ?_) fun a b c => ?_).imp fun {a b} h => of_decide_eq_true h
  · simp only [IR.leI, decide_eq_true_eq]; omega
  · simp only [IR.leI, decide_eq_true_eq]; omega
/-- a list of pairs by a first number: one only, where the numbers are unlike -/
theorem sortN_eq {β : Type} {l m : List (Int × β)} (p : m.Perm l) (nd : (l.map (·.1)).Nodup) (s : m.Pairwise (fun a b => a.1 ≤ b.1)) : m = IR.sortBy (fun p q => decide (p.1 ≤ q.1)) l := by
  refine List.Perm.eq_of_pairwise (le := fun a b : Int × β => a.1 ≤ b.1) (fun a b ha hb h1 h2 => ?_) s ?_ (p.trans sortBy_perm.symm)
  · exact nodup_lift nd a (p.mem_iff.mp ha) b (sortBy_perm.mem_iff.mp hb) (Int.le_antisymm h1 h2)
  · refine (sortBy_sorted (le := fun p q : Int × β => decide (p.1 ≤ q.1)) (fun a b => ?_) fun a b c => ?_).imp fun {a b} h => of_decide_eq_true h
    · simp only [decide_eq_true_eq]; omega
    · simp only [decide_eq_true_eq]; omega
theorem sortBy_map {α β : Type} {f : α → β} {le : α → α → Bool} {le' : β → β → Bool} (h : ∀ a b, le' (f a) (f b) = le a b) : ∀ {l : List α}, IR.sortBy le' (l.map f) = (IR.sortBy le l).map f
  | [] => rfl
  | x :: r => by
    have e : ∀ {l : List α}, IR.insBy le' (f x) (l.map f) = (IR.insBy le x l).map f := fun {l} => by
      induction l with
      | nil => rfl
      | cons y r ih =>
        simp only [IR.insBy, List.map_cons, h]
        split
        · rfl
        · rw [ih]; rfl
    show IR.insBy le' (f x) (IR.sortBy le' (r.map f)) = _
    rw [sortBy_map h, e]
    rfl
section
variable {N : Nm} {W : Fm} {μ : List Addr} {S : IR.Sto} {H : Hp} {Q : VK} {a b : IR.D} {x y : V}
theorem Rel.grown {H' : Hp} (R : Rel N μ S H) (k : ∀ b o, H b = some o → H' b = some o) : Rel N μ S H' :=
  ⟨R.len, R.nd, fun i o a h1 h2 => by
    obtain ⟨u, e, _⟩ := R.mem_some (List.mem_of_getElem? h2)
    exact (R.ob i o a h1 h2).mono ⟨List.prefix_refl _, fun _ _ z => k _ _ z, fun _ _ _ z => k _ _ z, fun _ _ _ z => k _ _ z⟩ (by rw [e]; exact k _ _ e)⟩
theorem Ext.grown {H' : Hp} (k : ∀ b o, H b = some o → H' b = some o) : Ext μ H μ H' := ⟨List.prefix_refl _, fun _ z => .inl z, fun _ _ _ z => k _ _ z, fun _ _ z => k _ _ z, fun _ _ _ z => k _ _ z⟩
/-- a new list with new things in it -/
theorem GV.grownL {H' : Hp} {ds : List IR.D} {vs : List V} {l : Addr} (R : Rel N μ S H) (g : GV N W μ H (.ok (.tl ds) S) Q) (k : ∀ b o, H b = some o → H' b = some o) (hl : H l = none) (e : H' l = some (.lst vs)) (r : Reps N μ H' ds vs) : Q (.ref l) H' :=
  g μ H' (Ext.grown k) (R.grown k) (.ref l) ⟨l, vs, rfl, e, R.fresh hl, r⟩ fun _ a _ h => by cases h; exact hl
/-! sorted(d.items()) -/
theorem itN_of : ∀ {kvs : List (IR.Ky × IR.D)} {l : List (Int × IR.D)} {r : List (Key × V)}, kvs.mapM IR.itN1 = some l → KR N μ H kyK kvs r → ∃ ks : List (Int × Addr), r = ks.map entN ∧ ks.map (·.1) = l.map (·.1) ∧ ks.length = l.length ∧ ∀ (i : Nat) (p : Int × IR.D) (q : Int × Addr), l[i]? = some p → ks[i]? = some q → Rep N μ H p.2 (.ref q.2) ∧ ∀ t, p.2 ≠ .tl t
  | [], _, _, h, .nil => by cases h; exact ⟨[], rfl, rfl, rfl, fun i p q h => by simp at h⟩
  | (k, d) :: kvs, l, _, h, .cons (v := v) (r' := r') hd t => by
    rw [List.mapM_cons] at h
    obtain ⟨p0, h1, h2⟩ := Option.bind_eq_some_iff.mp h
    obtain ⟨l0, h3, h4⟩ := Option.bind_eq_some_iff.mp h2
    cases h4
    obtain ⟨ks, e1, e2, e3, e4⟩ := itN_of h3 t
    have fin : ∀ {i : Int} {a : Addr}, kyK k = .inl i → v = .ref a → p0 = (i, d) → (∀ t, d ≠ .tl t) → ∃ ks : List (Int × Addr), ((kyK k, v) :: r') = ks.map entN ∧ ks.map (·.1) = (p0 :: l0).map (·.1) ∧ ks.length = (p0 :: l0).length ∧ ∀ (i : Nat) (p : Int × IR.D) (q : Int × Addr), (p0 :: l0)[i]? = some p → ks[i]? = some q → Rep N μ H p.2 (.ref q.2) ∧ ∀ t, p.2 ≠ .tl t := by
      rintro i a hk rfl rfl nt
      refine ⟨(i, a) :: ks, by rw [e1, hk]; rfl, by simp [e2], by simp [e3], fun j p q h5 h6 => ?_⟩
      cases j with
      | zero => simp at h5 h6; subst h5; subst h6; exact ⟨hd, nt⟩
      | succ j => exact e4 j p q (by simpa using h5) (by simpa using h6)
    cases k with
    | inr t => cases d <;> simp [IR.itN1] at h1
    | inl i =>
      cases d <;> simp [IR.itN1] at h1
      · cases hd with
        | tup ha hb => exact fin rfl rfl h1.symm fun t z => nomatch z
      · cases hd with
        | ref ha => exact fin rfl rfl h1.symm fun t z => nomatch z
theorem Reps.pairs {H' : Hp} {k : (Int × IR.D) → (Addr × Int × Addr) → Prop} : ∀ {l : List (Int × IR.D)} {ps : List (Addr × Int × Addr)}, l.length = ps.length → (∀ (i : Nat) (p : Int × IR.D) (z : Addr × Int × Addr), l[i]? = some p → ps[i]? = some z → p.1 = z.2.1 ∧ Rep N μ H' p.2 (.ref z.2.2) ∧ H' z.1 = some (.tup [.int z.2.1, .ref z.2.2])) →
    Reps N μ H' (l.map fun p => .tup [.int p.1, p.2]) (ps.map fun z => V.ref z.1)
  | [], [], _, _ => .nil
  | [], _ :: _, h, _ => by simp at h
  | _ :: _, [], h, _ => by simp at h
  | p :: l, z :: ps, h, f => by
    obtain ⟨e, r, t⟩ := f 0 p z rfl rfl
    exact .cons (.tup t (by rw [e]; exact .cons (.int _) (.cons r .nil))) (Reps.pairs (k := k) (by simpa using h) fun i p z h1 h2 => f (i + 1) p z (by simpa using h1) (by simpa using h2))
theorem sort_pairs {α β : Type} {l : List (Int × α)} {ks : List (Int × β)} (h : l.length = ks.length) (hk : ks.map (·.1) = l.map (·.1)) (nd : (ks.map (·.1)).Nodup) {m : List (Int × β)} (p : m.Perm ks) (s : m.Pairwise (fun a b => a.1 ≤ b.1)) :
    ∃ z : List (Int × α × β), z.map (fun q => (q.1, q.2.1)) = IR.sortBy (fun p q : Int × α => decide (p.1 ≤ q.1)) l ∧ z.map (fun q => (q.1, q.2.2)) = m ∧ ∀ q ∈ z, ∃ i : Nat, l[i]? = some (q.1, q.2.1) ∧ ks[i]? = some (q.1, q.2.2) := by
  have hat : ∀ (i : Nat) (p : Int × α) (q : Int × β), l[i]? = some p → ks[i]? = some q → p.1 = q.1 := fun i p q h1 h2 => by
    have a1 : (ks.map (·.1))[i]? = some q.1 := by rw [List.getElem?_map, h2]; rfl
    have a2 : (l.map (·.1))[i]? = some p.1 := by rw [List.getElem?_map, h1]; rfl
    rw [hk, a2] at a1
    exact Option.some.inj a1
  let c : List (Int × α × β) := (l.zip ks).map fun z => (z.1.1, z.1.2, z.2.2)
  have c1 : c.map (fun q => (q.1, q.2.1)) = l := by
    rw [List.map_map]
    have : ((fun q : Int × α × β => (q.1, q.2.1)) ∘ fun z : (Int × α) × (Int × β) => (z.1.1, z.1.2, z.2.2)) = Prod.fst := by funext z; rfl
    rw [this]
    exact List.map_fst_zip (by omega)
  have c2 : c.map (fun q => (q.1, q.2.2)) = ks := by
    refine List.ext_getElem? fun i => ?_
    rw [List.map_map, List.getElem?_map]
    cases e1 : l[i]? with
    | none =>
      have e2 : ks[i]? = none := by rw [List.getElem?_eq_none_iff] at e1 ⊢; omega
      have e3 : (l.zip ks)[i]? = none := by rw [List.getElem?_eq_none_iff] at e1 ⊢; rw [List.length_zip]; omega
      rw [e2, e3]; rfl
    | some p =>
      have hi := (List.getElem?_eq_some_iff.mp e1).1
      have e2 : ks[i]? = some ks[i] := List.getElem?_eq_getElem (by omega)
      have e3 : (l.zip ks)[i]? = some (p, ks[i]) := List.getElem?_zip_eq_some.mpr ⟨e1, e2⟩
      rw [e2, e3]
      show some (p.1, ks[i].2) = some ks[i]
      rw [hat i p _ e1 e2]
  refine ⟨IR.sortBy (fun p q => decide (p.1 ≤ q.1)) c, ?_, ?_, fun q hq => ?_⟩
  · rw [← sortBy_map (f := fun q : Int × α × β => (q.1, q.2.1)) (le' := fun p q : Int × α => decide (p.1 ≤ q.1)) (fun _ _ => rfl), c1]
  · rw [← sortBy_map (f := fun q : Int × α × β => (q.1, q.2.2)) (le' := fun p q : Int × β => decide (p.1 ≤ q.1)) (fun _ _ => rfl), c2]
    exact (sortN_eq p nd s).symm
  · obtain ⟨i, hi⟩ := List.mem_iff_getElem?.mp (sortBy_perm.mem_iff.mp hq)
    refine ⟨i, ?_, ?_⟩
    · rw [← c1, List.getElem?_map, hi]; rfl
    · rw [← c2, List.getElem?_map, hi]; rfl
theorem o_sortedItems (R : Rel N μ S H) (ra : RepV N μ H a x) (g : GV N W μ H (IR.evOp .sortedItems [a] S) Q) : ∃ (p : Addr) (r : List (Key × V)), x = .ref p ∧ H p = some (.dK r) ∧ ∀ v, H v = none → rSortN [.ref v] (upd H v (DX.itemsO v p)) Q := by
  cases a <;> first | exact g.elim | skip
  rename_i n
  obtain ⟨p, rfl, hp⟩ := ra.ref
  have g : GV N W μ H (match S[n]? with
    | some (.dK false kvs) => IR.val1 ((IR.srtN kvs).map .tl) S
    | _ => .bad) Q := g
  split at g
  · rename_i kvs e
    obtain ⟨r, e1, kr⟩ := R.ob n _ p e hp
    refine ⟨p, r, rfl, e1, fun v hv => ?_⟩
    obtain ⟨d, h1, g⟩ := GV.val1 g
    obtain ⟨l2, h2, rfl⟩ := Option.map_eq_some_iff.mp h1
    unfold IR.srtN at h2
    split at h2
    · rename_i h64
      obtain ⟨l, h3, rfl⟩ := Option.map_eq_some_iff.mp h2
      obtain ⟨ks, k1, k2, k3, k4⟩ := itN_of h3 kr
      have hl := mapM_some h3
      refine ⟨v, p, ks, rfl, upd_same, by rw [upd_ne (ne_of_none e1 hv), ← k1]; exact e1, by rw [k3, ← hl.1]; exact h64, fun H' q ps grow hq pm nd srt hl' hps => ?_⟩
      obtain ⟨z, z1, z2, z3⟩ := sort_pairs k3.symm k2 nd pm srt
      have grow' : ∀ b o, H b = some o → H' b = some o := fun b o h => grow b o (by rw [upd_ne (ne_of_none h hv)]; exact h)
      refine GV.grownL R g grow' ?_ hl' ?_
      · cases hh : H q with
        | none => rfl
        | some o => rw [upd_ne (ne_of_none hh hv)] at hq; rw [hq] at hh; cases hh
      · have hz : z.length = ps.length := by have := congrArg List.length z2; simpa using this
        have e5 : IR.sortBy IR.leN l = z.map fun q => (q.1, q.2.1) := z1.symm
        rw [e5]
        refine Reps.pairs (k := fun _ _ => True) (by simp [hz]) fun i p1 z5 h5 h6 => ?_
        rw [List.getElem?_map] at h5
        obtain ⟨q5, h7, rfl⟩ := Option.map_eq_some_iff.mp h5
        have h8 : (z.map fun q => (q.1, q.2.2))[i]? = some (q5.1, q5.2.2) := by rw [List.getElem?_map, h7]; rfl
        rw [z2, List.getElem?_map, h6] at h8
        have h9 : z5.2 = (q5.1, q5.2.2) := Option.some.inj h8
        obtain ⟨j, j1, j2⟩ := z3 q5 (List.mem_of_getElem? h7)
        have h10 := k4 j _ _ j1 j2
        refine ⟨by rw [h9], ?_, ?_⟩
        · rw [h9]
          exact (h10.1).mono (Ext.grown (μ := μ) grow').w
        · exact hps z5 (List.mem_of_getElem? h6)
    · cases h2
  · exact g.elim
end
end IRS

namespace IRS
open PySem PySem.Spec PyProof.Rows L2
/-! ### dict methods, by values -/
section
variable {X : Cx}
def rItemsK : V → List V → Hp → VK → Prop := fun x xs H Q => ∃ (a : Addr) (kvs : List (Key × V)), x = .ref a ∧ xs = [] ∧ H a = some (.dK kvs) ∧ ∀ p, H p = none → Q (.ref p) (upd H p (DX.itemsO p a))
theorem mt_itemsK : MtR X "dict.items" rItemsK := by
  intro pins s σ H x xs v us Q I rx rxs h
  obtain ⟨a, kvs, rfl, rfl, ha, q⟩ := h
  cases rx
  cases rxs
  obtain ⟨z, hd, vs, rel, o, es, ep, ho, hx, hdat, _⟩ := dk_of I.hok ha
  refine DT.callItems (es := es) (ep := ep) hd ⟨o, ho, hx, hdat⟩ ?_
  have hf : H s.heap.objs.size = none := I.hok.fresh (Nat.le_refl _)
  exact ⟨.ref s.heap.objs.size, upd H s.heap.objs.size (DX.itemsO s.heap.objs.size a), I.laid (t' := s.toks) (fun b u e => Heap.get?_push_of_some _ e) (Nat.le_refl _) (DX.itemsO_ok (Heap.get?_push_size _ rfl)), rfl, q _ hf⟩
def rGet1 : V → List V → Hp → VK → Prop := fun x xs H Q => ∃ a y o, x = .ref a ∧ xs = [y] ∧ DGet H a y o ∧ Q (o.getD .non) H
theorem mt_get1 (hu : X.A.units + 1 < cLine) : MtR X "dict.get" rGet1 := by
  intro pins s σ H x xs v us Q I rx rxs h
  obtain ⟨a, y, o, rfl, rfl, g, q⟩ := h
  cases rx
  obtain ⟨u, rfl, ry⟩ := vals1 rxs
  exact d_get1 hu I g ry fun w' s3 I3 rw' => ⟨_, H, I3, rw', q⟩
def rGet2 : V → List V → Hp → VK → Prop := fun x xs H Q => ∃ a y d o, x = .ref a ∧ xs = [y, d] ∧ DGet H a y o ∧ Q (o.getD d) H
theorem mt_get2 (hu : X.A.units + 1 < cLine) : MtR X "dict.get" rGet2 := by
  intro pins s σ H x xs v us Q I rx rxs h
  obtain ⟨a, y, d, o, rfl, rfl, g, q⟩ := h
  cases rx
  obtain ⟨u, u2, rfl, ry, rd⟩ := vals2 rxs
  exact d_get2 hu I g ry rd fun w' s3 I3 rw' => ⟨_, H, I3, rw', q⟩
def rPop1 : V → List V → Hp → VK → Prop := fun x xs H Q => ∃ a kvs k v, x = .ref a ∧ xs = [kV k] ∧ H a = some (.dK kvs) ∧ valV kvs k = some v ∧ Q v (upd H a (.dK (dropK kvs k)))
theorem mt_pop1 : MtR X "dict.pop" rPop1 := by
  intro pins s σ H x xs v us Q I rx rxs h
  obtain ⟨a, kvs, k, v1, rfl, rfl, ea, l, q⟩ := h
  cases rx
  obtain ⟨u, rfl, ry⟩ := vals1 rxs
  exact d_pop I ea ry l (.inl rfl) fun w' s3 I3 rw' => ⟨v1, _, I3, rw', q⟩
end
section
variable {N : Nm} {W : Fm} {μ : List Addr} {S : IR.Sto} {H : Hp} {Q : VK} {a b d : IR.D} {x y z : V}
theorem o_get1 (R : Rel N μ S H) (ra : RepV N μ H a x) (rb : RepV N μ H b y) (g : GV N W μ H (IR.evOp .get1 [a, b] S) Q) : rGet1 x [y] H Q := by
  cases a <;> first | exact g.elim | skip
  rename_i n
  obtain ⟨p, rfl, hp⟩ := ra.ref
  have g : GV N W μ H (match S[n]?, b.ky with
    | some (.dK _ kvs), some k => .ok ((IR.dGet kvs k).getD .non) S
    | _, _ => .bad) Q := g
  split at g
  · rename_i lk kvs k e ek
    obtain ⟨r, hr, kr⟩ := rdK R e hp
    have hy := ky_of rb ek
    subst hy
    refine ⟨p, _, _, rfl, rfl, DGet.rk hr, ?_⟩
    rcases kr.get kyK_inj' k with ⟨h1, h2⟩ | ⟨d, v, h1, h2, h3⟩
    · rw [h1] at g; rw [h2]
      exact g.here R .non fun _ z => nomatch z
    · rw [h1] at g; rw [h2]
      exact g μ H (Ext.refl _ _) R v h3.v fun l _ z _ => by
        have z' : d = .tl l := z
        subst z'; cases h3
  · exact g.elim
theorem o_get2 (R : Rel N μ S H) (ra : RepV N μ H a x) (rb : RepV N μ H b y) (rd : Rep N μ H d z) (g : GV N W μ H (IR.evOp .get2 [a, b, d] S) Q) : rGet2 x [y, z] H Q := by
  cases a <;> first | exact g.elim | skip
  rename_i n
  obtain ⟨p, rfl, hp⟩ := ra.ref
  have g : GV N W μ H (match S[n]?, b.ky with
    | some (.dK _ kvs), some k => .ok ((IR.dGet kvs k).getD d) S
    | _, _ => .bad) Q := g
  split at g
  · rename_i lk kvs k e ek
    obtain ⟨r, hr, kr⟩ := rdK R e hp
    have hy := ky_of rb ek
    subst hy
    refine ⟨p, _, _, _, rfl, rfl, DGet.rk hr, ?_⟩
    rcases kr.get kyK_inj' k with ⟨h1, h2⟩ | ⟨d1, v, h1, h2, h3⟩
    · rw [h1] at g; rw [h2]
      exact g μ H (Ext.refl _ _) R z rd.v fun l _ z _ => by
        have z' : d = .tl l := z
        subst z'; cases rd
    · rw [h1] at g; rw [h2]
      exact g μ H (Ext.refl _ _) R v h3.v fun l _ z _ => by
        have z' : d1 = .tl l := z
        subst z'; cases h3
  · exact g.elim
theorem o_pop1 (R : Rel N μ S H) (ra : RepV N μ H a x) (rb : RepV N μ H b y) (g : GV N W μ H (IR.evOp .pop1 [a, b] S) Q) : rPop1 x [y] H Q := by
  cases a <;> first | exact g.elim | skip
  rename_i n
  obtain ⟨p, rfl, hp⟩ := ra.ref
  have g : GV N W μ H (match S[n]?, b.ky with
    | some (.dK false kvs), some k => match IR.dGet kvs k with
      | some v => .ok v (S.set n (.dK false (IR.dDrop kvs k)))
      | none => .bad
    | _, _ => .bad) Q := g
  split at g
  · rename_i kvs k e ek
    obtain ⟨r, hr, kr⟩ := R.ob n _ p e hp
    have hy := ky_of rb ek
    subst hy
    split at g
    · rename_i v0 e0
      obtain ⟨v, h2, h3⟩ := kr.some_of kyK_inj' e0
      refine ⟨p, r, _, v, rfl, rfl, hr, h2, ?_⟩
      have ex : Ext μ H μ (upd H p (.dK (dropK r (kyK k)))) := Ext.write hp hr (fun _ z => nomatch z) fun _ _ z => nomatch z
      exact g μ _ ex (R.write hp ⟨_, upd_same, (kr.drop kyK_inj').mono ex.w⟩ ex.w) v (h3.mono ex.w).v fun l _ z _ => by subst z; cases h3
    · exact g.elim
  · exact g.elim
theorem o_newK (R : Rel N μ S H) (g : GV N W μ H (IR.evOp .newK [] S) Q) : ∀ p, H p = none → Q (.ref p) (upd H p (.dK [])) := fun p hp => by
  have e : Ext μ H (μ ++ [p]) (upd H p (.dK [])) := (Ext.laid hp).add hp
  refine g (μ ++ [p]) _ e ((R.laid hp).add (R.fresh hp) ⟨[], upd_same, .nil⟩) (.ref p) (Rep.ref ?_) fun _ _ z => nomatch z
  rw [← R.len]; simp
theorem o_newT (R : Rel N μ S H) (g : GV N W μ H (IR.evOp .newT [] S) Q) : ∀ p, H p = none → Q (.ref p) (upd H p (.dT [])) := fun p hp => by
  have e : Ext μ H (μ ++ [p]) (upd H p (.dT [])) := (Ext.laid hp).add hp
  refine g (μ ++ [p]) _ e ((R.laid hp).add (R.fresh hp) ⟨[], upd_same, .nil⟩) (.ref p) (Rep.ref ?_) fun _ _ z => nomatch z
  rw [← R.len]; simp
def rDictD : List V → Hp → VK → Prop := fun xs H Q => ∃ (a : Addr) (kvs : List (Key × V)), xs = [.ref a] ∧ Rd H a (.dK kvs) ∧ ∀ p, H p = none → Q (.ref p) (upd H p (.dK kvs))
theorem o_abs1 (R : Rel N μ S H) (ra : RepV N μ H a x) (g : GV N W μ H (IR.evOp .abs [a] S) Q) : ∃ i, [x] = [V.int i] ∧ Q (.int (if i < 0 then -i else i)) H := o_abs R ra g
/-! sorted -/
theorem leS_le {x y : IR.Txt} : IR.leS x y = true ↔ x ≤ y := by
  unfold IR.leS
  rw [Bool.not_eq_true', decide_eq_false_iff_not]
  exact Iff.rfl
theorem rising_pw : ∀ {l : List IR.Txt} {p : IR.Txt}, risingS (sT p) (l.map sT) = true → (p :: l).Pairwise (· ≤ ·)
  | [], p, _ => by simp
  | x :: r, p, h => by
    simp only [List.map_cons, risingS, Bool.and_eq_true, Bool.not_eq_true'] at h
    have h1 : p ≤ x := by
      have := h.1
      rw [PyProof.Rows.ltCps_eq, decide_eq_false_iff_not] at this
      exact this
    have ih := rising_pw (l := r) h.2
    refine List.pairwise_cons.mpr ⟨fun z hz => ?_, ih⟩
    rcases List.mem_cons.mp hz with rfl | hz
    · exact h1
    · exact List.le_trans h1 ((List.pairwise_cons.mp ih).1 z hz)
theorem sorted_pw : ∀ {l : List IR.Txt}, sortedS (l.map sT) = true → l.Pairwise (· ≤ ·)
  | [], _ => .nil
  | x :: r, h => rising_pw h
theorem perm_sT {l m : List IR.Txt} (p : (m.map sT).Perm (l.map sT)) : m.Perm l := by
  have := p.map (fun s : Str => s.cps.toList)
  simp only [List.map_map] at this
  have e : ((fun s : Str => s.cps.toList) ∘ sT) = id := by funext x; rfl
  rw [e, List.map_id, List.map_id] at this
  exact this
theorem sortS_eq {l m : List IR.Txt} (p : (m.map sT).Perm (l.map sT)) (s : sortedS (m.map sT) = true) : m = IR.sortBy IR.leS l := by
  refine List.Perm.eq_of_pairwise (le := fun a b : IR.Txt => a ≤ b) (fun a b _ _ h1 h2 => List.le_antisymm h1 h2) (sorted_pw s) ?_ ((perm_sT p).trans sortBy_perm.symm)
  refine (sortBy_sorted (le := IR.leS) (fun a b => ?_) fun a b c h1 h2 => ?_).imp fun {a b} h => leS_le.mp h
  · rcases List.le_total a b with h | h
    · exact .inl (leS_le.mpr h)
    · exact .inr (leS_le.mpr h)
  · exact leS_le.mpr (List.le_trans (leS_le.mp h1) (leS_le.mp h2))
theorem strs_back : ∀ (ys : List Str), ∃ m : List IR.Txt, ys = m.map sT
  | [] => ⟨[], rfl⟩
  | y :: r => by
    obtain ⟨m, e⟩ := strs_back r
    exact ⟨y.cps.toList :: m, by rw [List.map_cons, ← e]; cases y; rfl⟩
theorem Reps.strs : ∀ {l : List IR.Txt}, Reps N μ H (l.map IR.D.str) ((l.map sT).map V.str)
  | [] => .nil
  | _ :: _ => .cons (.str _) Reps.strs
/-- the pair that an object is -/
def pairOf (H : Hp) : V → Int × Int
  | .ref t => (match H t with | some (.tup [.int i, .int j]) => (i, j) | _ => (0, 0))
  | _ => (0, 0)
theorem prs_of : ∀ {l : List IR.D} {ps : List (Int × Int)} {vs : List V}, l.mapM IR.D.isPr = some ps → Reps N μ H l vs → vs.map (pairOf H) = ps ∧ ∀ v ∈ vs, ∃ t, v = V.ref t ∧ H t = some (.tup [.int (pairOf H v).1, .int (pairOf H v).2])
  | [], _, _, h, .nil => by cases h; exact ⟨rfl, fun v hv => by simp at hv⟩
  | d :: l, ps, _, h, .cons (v := v) hd t => by
    rw [List.mapM_cons] at h
    obtain ⟨p0, h1, h2⟩ := Option.bind_eq_some_iff.mp h
    obtain ⟨l0, h3, h4⟩ := Option.bind_eq_some_iff.mp h2
    cases h4
    obtain ⟨e1, e2⟩ := prs_of h3 t
    obtain ⟨i, j, rfl, rfl⟩ : ∃ i j, d = .tup [.int i, .int j] ∧ p0 = (i, j) := by
      unfold IR.D.isPr at h1
      split at h1
      · cases h1; exact ⟨_, _, rfl, rfl⟩
      · cases h1
    cases hd with
    | @tup aa _ _ ha hb =>
      cases hb with
      | cons r1 r2 =>
        cases r2 with
        | cons r2 r3 =>
          cases r1; cases r2; cases r3
          have e3 : pairOf H (.ref aa) = (i, j) := by simp only [pairOf, ha]
          refine ⟨by rw [List.map_cons, e1, e3], fun u hu => ?_⟩
          rcases List.mem_cons.mp hu with rfl | hu
          · exact ⟨_, rfl, by rw [e3]; exact ha⟩
          · exact e2 u hu
theorem Reps.prs {H' : Hp} : ∀ {vs : List V}, (∀ v ∈ vs, ∃ t, v = V.ref t ∧ H' t = some (.tup [.int (pairOf H v).1, .int (pairOf H v).2])) → Reps N μ H' ((vs.map (pairOf H)).map IR.prD) vs
  | [], _ => .nil
  | v :: vs, h => by
    obtain ⟨t, rfl, ht⟩ := h v (by simp)
    exact .cons (.tup ht (.cons (.int _) (.cons (.int _) .nil))) (Reps.prs fun u hu => h u (by simp [hu]))
def rSDS : List V → Hp → VK → Prop := fun xs H Q => ∃ (a : Addr) (kvs : List (Key × V)) (ks : List Str), xs = [.ref a] ∧ Rd H a (.dK kvs) ∧ kvs.map (·.1) = ks.map Sum.inr ∧ ks.length < 64 ∧
    ∀ ys p, ys.Perm ks → sortedS ys = true → H p = none → Q (.ref p) (upd H p (.lst (ys.map V.str)))
def rSDI : List V → Hp → VK → Prop := fun xs H Q => ∃ (a : Addr) (kvs : List (Key × V)) (ks : List Int), xs = [.ref a] ∧ Rd H a (.dK kvs) ∧ kvs.map (·.1) = ks.map Sum.inl ∧ ks.length < 64 ∧
    ∀ (ys : List Int) (p : Addr), ys.Perm ks → ys.Pairwise (· ≤ ·) → H p = none → Q (.ref p) (upd H p (.lst (ys.map V.int)))
def rSortX (K : PySem.W.Frag) : List V → Hp → VK → Prop := fun xs H Q => (rSortedI K xs H Q ∨ rSortedPO K xs H Q) ∨ rSortedS K xs H Q ∨ rSDI xs H Q ∨ rSDS xs H Q
theorem CallR.or {X : Cx} {f : Value} {r r' : List V → Hp → VK → Prop} (h : CallR X f r) (h' : CallR X f r') : CallR X f (fun xs H Q => r xs H Q ∨ r' xs H Q) := fun pins s σ H xs us Q I rv q => q.elim (h pins s σ H xs us Q I rv) (h' pins s σ H xs us Q I rv)
theorem call_sortX {X : Cx} (hc : X.calm = true) : CallR X (.builtin "sorted") (rSortX X.K) := (cr_sortedI.or cr_sortedPO).or (cr_sortedS.or ((call_sortedDI hc).or (call_sortedD hc)))
theorem keysI_of : ∀ {kvs : List (IR.Ky × IR.D)} {r : List (Key × V)} {is : List Int}, (kvs.map (·.1)).mapM IR.Ky.isI = some is → KR N μ H kyK kvs r → r.map (·.1) = is.map Sum.inl
  | [], _, _, h, .nil => by cases h; rfl
  | (k, d) :: kvs, _, _, h, .cons _ t => by
    rw [List.map_cons, List.mapM_cons] at h
    obtain ⟨p0, h1, h2⟩ := Option.bind_eq_some_iff.mp h
    obtain ⟨l0, h3, h4⟩ := Option.bind_eq_some_iff.mp h2
    cases h4
    rw [List.map_cons, keysI_of h3 t]
    cases k with
    | inl i => cases h1; rfl
    | inr t => cases h1
theorem keysS_of : ∀ {kvs : List (IR.Ky × IR.D)} {r : List (Key × V)} {ts : List IR.Txt}, (kvs.map (·.1)).mapM IR.Ky.isS = some ts → KR N μ H kyK kvs r → r.map (·.1) = (ts.map sT).map Sum.inr
  | [], _, _, h, .nil => by cases h; rfl
  | (k, d) :: kvs, _, _, h, .cons _ t => by
    rw [List.map_cons, List.mapM_cons] at h
    obtain ⟨p0, h1, h2⟩ := Option.bind_eq_some_iff.mp h
    obtain ⟨l0, h3, h4⟩ := Option.bind_eq_some_iff.mp h2
    cases h4
    rw [List.map_cons, keysS_of h3 t]
    cases k with
    | inl i => cases h1
    | inr t => cases h1; rfl
theorem srtL_of (R : Rel N μ S H) {l : List IR.D} {vs : List V} {p : Addr} (hs : SqL N.K H p vs) (rl : Reps N μ H l vs) (g : GV N W μ H (IR.val1 ((IR.srtL l).map .tl) S) Q) : rSortX N.K [.ref p] H Q := by
  obtain ⟨d, h1, g⟩ := GV.val1 g
  obtain ⟨l2, h2, rfl⟩ := Option.map_eq_some_iff.mp h1
  unfold IR.srtL at h2
  split at h2
  · rename_i is ei
    cases h2
    have ev := ints_of ei rl
    subst ev
    refine .inl (.inl ⟨p, is, rfl, hs, fun ns' q pm pw hq => ?_⟩)
    rw [sortI_eq pm pw]
    exact GV.newL R g Reps.ints q hq
  · split at h2
    · rename_i ps ei
      cases h2
      obtain ⟨e1, e2⟩ := prs_of ei rl
      refine .inl (.inr ⟨p, vs, pairOf H, rfl, hs, e2, fun ys q sr st hq => ?_⟩)
      have hm : ∀ v ∈ ys, ∃ t, v = V.ref t ∧ H t = some (.tup [.int (pairOf H v).1, .int (pairOf H v).2]) := fun v hv => e2 v (st.perm.mem_iff.mp hv)
      have e3 : ys.map (pairOf H) = IR.sortBy IR.leP ps := by
        rw [← e1]
        refine List.Perm.eq_of_pairwise (le := fun a b : Int × Int => a.1 < b.1 ∨ a.1 = b.1 ∧ a.2 ≤ b.2) (fun a b _ _ h1 h2 => ?_) ?_ ?_ ((st.perm.map _).trans sortBy_perm.symm)
        · ext <;> omega
        · rw [List.pairwise_map]
          refine List.Pairwise.imp (fun {x y} h => ?_) sr
          have := SrtO.lexB_no.mp h
          omega
        · refine (sortBy_sorted (le := IR.leP) (fun a b => ?_) fun a b c => ?_).imp fun {a b} h => of_decide_eq_true h
          · simp only [IR.leP, decide_eq_true_eq]; omega
          · simp only [IR.leP, decide_eq_true_eq]; omega
      have g2 : GV N W μ H (.ok (.tl ((ys.map (pairOf H)).map IR.prD)) S) Q := by rw [e3]; exact g
      refine GV.newL R g2 (Reps.prs hm) q hq
    · split at h2
      · rename_i ts et
        split at h2
        · rename_i h64
          cases h2
          have ev := strs_of et rl
          subst ev
          refine .inr (.inl ⟨p, ts.map sT, rfl, hs, by simpa using h64, fun ys q pm pw hq => ?_⟩)
          obtain ⟨m, rfl⟩ := strs_back ys
          rw [sortS_eq pm pw]
          exact GV.newL R g Reps.strs q hq
        · cases h2
      · cases h2
theorem o_sorted (R : Rel N μ S H) (ra : RepV N μ H a x) (g : GV N W μ H (IR.evOp .sorted [a] S) Q) : rSortX N.K [x] H Q := by
  have gen : ∀ {l : List IR.D}, IR.lstItems S a = some l → GV N W μ H (IR.val1 ((IR.srtL l).map .tl) S) Q → rSortX N.K [x] H Q := fun {l} h g => by
    obtain ⟨p, vs, rfl, hs, rl⟩ := lst_of R ra h
    exact srtL_of R hs rl g
  cases a <;> first | exact g.elim | skip
  · rename_i n
    obtain ⟨p, rfl, hp⟩ := ra.ref
    have g : GV N W μ H (match S[n]? with
      | some (.lst l) => IR.val1 ((IR.srtL l).map .tl) S
      | some (.dK _ kvs) => IR.val1 ((IR.srtK (kvs.map (·.1))).map .tl) S
      | _ => .bad) Q := g
    split at g
    · rename_i l e
      exact gen (by simp only [IR.lstItems, e]) g
    · rename_i lk kvs e
      obtain ⟨r, hr, kr⟩ := rdK R e hp
      obtain ⟨d, h1, g⟩ := GV.val1 g
      obtain ⟨l2, h2, rfl⟩ := Option.map_eq_some_iff.mp h1
      unfold IR.srtK at h2
      split at h2
      · rename_i h64
        split at h2
        · rename_i is ei
          cases h2
          have ek := keysI_of ei kr
          have hl := mapM_some ei
          refine .inr (.inr (.inl ⟨p, r, is, rfl, hr, ek, by rw [← hl.1]; exact h64, fun ys q pm pw hq => ?_⟩))
          rw [sortI_eq pm pw]
          exact GV.newL R g Reps.ints q hq
        · split at h2
          · rename_i ts et
            cases h2
            have ek := keysS_of et kr
            have hl := mapM_some et
            refine .inr (.inr (.inr ⟨p, r, ts.map sT, rfl, hr, ek, by rw [List.length_map, ← hl.1]; exact h64, fun ys q pm pw hq => ?_⟩))
            obtain ⟨m, rfl⟩ := strs_back ys
            rw [sortS_eq pm pw]
            exact GV.newL R g Reps.strs q hq
          · cases h2
      · cases h2
    · exact g.elim
  · rename_i l
    exact gen rfl g
  · rename_i l
    exact gen rfl g
end
end IRS

namespace IRS
open PySem PySem.Spec PyProof.Rows L2
section
variable {D : Wd} {X : Cx} {c : Ctx} {k : Nat} {F : Fm} {pos : Pos} {a b e o tg : Expr} {es : List Expr} {call : Nat → List IR.D → IR.M IR.D} {x y z : IR.E} {p apos cpos : Pos} {mname : List Str} {n : Str}
/-! ### dicts -/
theorem e_get1 (C : Cm D X c k F) (ho : PE X o (tV D F call x)) (ha : PE X e (tV D F call y)) (hs : A1 e X) (hbase : attributeBase o ("get" : Str) X.env (eval o X.env) = eval o X.env) (hline : (apos.endLine == pos.line) = true) :
    PE X (.Call (.Attribute o ("get" : Str) apos) [e] [] pos) (tV D F call (.bm .get1 x (.cons true y .nil))) :=
  s_bm C (kd := 2) PySem.F.plainAttrs_dict PySem.F.slot_dict_get PySem.F.type_dict_get (mt_get1 (by have := C.hu; omega)) rfl ho (s_cons ha s_nil hs) (fun R rd rs g => by
    cases rs with
    | cons r1 rr => cases rr; exact o_get1 R rd r1.v g) hbase (by rw [hs]; rfl) hline hs rfl
theorem e_get2 (C : Cm D X c k F) (ho : PE X o (tV D F call x)) (ha : PE X e (tV D F call y)) (hb : PE X b (tV D F call z)) (hs2 : A1 b X) (hs : starEach [e, b] X.env = (false, eval e X.env) :: starEach [b] X.env) (hbase : attributeBase o ("get" : Str) X.env (eval o X.env) = eval o X.env) (hline : (apos.endLine == pos.line) = true) :
    PE X (.Call (.Attribute o ("get" : Str) apos) [e, b] [] pos) (tV D F call (.bm .get2 x (.cons true y (.cons true z .nil)))) :=
  s_bm C (kd := 2) PySem.F.plainAttrs_dict PySem.F.slot_dict_get PySem.F.type_dict_get (mt_get2 (by have := C.hu; omega)) rfl ho (s_cons ha (s_cons hb s_nil hs2) hs) (fun R rd rs g => by
    cases rs with
    | cons r1 rr =>
      cases rr with
      | cons r2 rr => cases rr; exact o_get2 R rd r1.v r2 g) hbase (by rw [hs, hs2]; rfl) hline hs (by rw [hs2]; rfl)
theorem e_pop1 (C : Cm D X c k F) (ho : PE X o (tV D F call x)) (ha : PE X e (tV D F call y)) (hs : A1 e X) (hbase : attributeBase o ("pop" : Str) X.env (eval o X.env) = eval o X.env) (hline : (apos.endLine == pos.line) = true) :
    PE X (.Call (.Attribute o ("pop" : Str) apos) [e] [] pos) (tV D F call (.bm .pop1 x (.cons true y .nil))) :=
  s_bm C (kd := 2) PySem.F.plainAttrs_dict PySem.F.slot_dict_pop PySem.F.type_dict_pop mt_pop1 rfl ho (s_cons ha s_nil hs) (fun R rd rs g => by
    cases rs with
    | cons r1 rr => cases rr; exact o_pop1 R rd r1.v g) hbase (by rw [hs]; rfl) hline hs rfl
theorem evs0 {g : IR.G} {call : Nat → List IR.D → IR.M IR.D} {ρ : IR.Env} {β : Type} {f : List IR.D → IR.M β} {S : IR.Sto} : ((IR.evs g call .nil ρ).bind f) S = f [] S := by
  simp only [IR.evs, IR.M.pure_bind]
theorem e_newK : PE X (.Dict [] [] pos) (tV D F call (.op .newK .nil)) := by
  refine PE.weak pe_dnewK fun σ H Q q => ?_
  obtain ⟨μ, S, ρ, hI, R, hρ, g⟩ := q
  have g : GV D.N F μ H (((IR.evs D.g call .nil ρ).bind fun l => IR.evOp .newK l) S) Q := g
  rw [evs0] at g
  exact o_newK R g
theorem e_newT : PE X (.Dict [] [] pos) (tV D F call (.op .newT .nil)) := by
  refine PE.weak pe_dnewT fun σ H Q q => ?_
  obtain ⟨μ, S, ρ, hI, R, hρ, g⟩ := q
  have g : GV D.N F μ H (((IR.evs D.g call .nil ρ).bind fun l => IR.evOp .newT l) S) Q := g
  rw [evs0] at g
  exact o_newT R g
theorem o_dictD {N : Nm} {W : Fm} {μ : List Addr} {S : IR.Sto} {H : Hp} {Q : VK} {a : IR.D} {x : V} (R : Rel N μ S H) (ra : RepV N μ H a x) (g : GV N W μ H (IR.evOp .dict [a] S) Q) : rDictD [x] H Q := by
  cases a <;> first | exact g.elim | skip
  rename_i n
  obtain ⟨p, rfl, hp⟩ := ra.ref
  have g : GV N W μ H (match S[n]? with
    | some (.dK _ kvs) => .ok (.ref S.length) (S ++ [.dK false kvs])
    | _ => .bad) Q := g
  split at g
  · rename_i lk kvs e
    obtain ⟨r, hr, kr⟩ := rdK R e hp
    refine ⟨p, r, rfl, hr, fun q hq => ?_⟩
    have ex : Ext μ H (μ ++ [q]) (upd H q (.dK r)) := (Ext.laid hq).add hq
    refine g (μ ++ [q]) _ ex ((R.laid hq).add (R.fresh hq) ⟨r, upd_same, kr.mono ex.w⟩) (.ref q) (Rep.ref ?_) fun _ _ z => nomatch z
    rw [← R.len]; simp
  · exact g.elim
theorem e_sortedItems (C : Cm D X c k F) (hg : c.sc.names.lookup ("sorted" : Str) = some .globalImplicit) (hm : D.mg "sorted" = none) (ho : PE X o (tV D F call x)) (hbase : attributeBase o ("items" : Str) X.env (eval o X.env) = eval o X.env) (hline : (apos.endLine == cpos.line) = true)
    (hs : A1 (.Call (.Attribute o ("items" : Str) apos) [] [] cpos) X) (hh : c.hot = false := by rfl) : PE X (.Call (.Name "sorted" p) [.Call (.Attribute o ("items" : Str) apos) [] [] cpos] [] pos) (tV D F call (.op .sortedItems (.cons false x .nil))) := by
  refine PE.weak (pe_callB (cr_sortN (C.calm hh)) (C.gl hg) (C.mgn hm) PyProof.Rows.boot_sorted (pa_cons (pe_bm0 PySem.F.plainAttrs_dict PySem.F.slot_dict_items PySem.F.type_dict_items mt_itemsK ho hbase hline) pa_nil hs) (he := hs)) fun σ H Q q => ?_
  obtain ⟨μ, S, ρ, hI, R, hρ, g⟩ := q
  have g : GV D.N F μ H (((IR.evs D.g call (.cons false x .nil) ρ).bind fun l => IR.evOp .sortedItems l) S) Q := g
  rw [evs1] at g
  refine one (f := fun a => IR.evOp .sortedItems [a]) hI R hρ g fun μ2 S2 H2 p p' R2 rp g2 => ?_
  obtain ⟨pa, r, rfl, hr, h⟩ := o_sortedItems R2 rp g2
  refine ⟨.inr (.inr (.inl ⟨rfl, .inl ⟨r, by exact hr⟩⟩)), pa, r, rfl, rfl, hr, fun v hv => ?_⟩
  exact h v hv
theorem e_sorted (C : Cm D X c k F) (hg : c.sc.names.lookup ("sorted" : Str) = some .globalImplicit) (hm : D.mg "sorted" = none) (ha : PE X a (tV D F call x)) (hs : A1 a X) (hh : c.hot = false := by rfl) : PE X (.Call (.Name "sorted" p) [a] [] pos) (tV D F call (.op .sorted (.cons false x .nil))) :=
  s_b1 (pe_callB (call_sortX (C.calm hh)) (C.gl hg) (C.mgn hm) PyProof.Rows.boot_sorted (s_cons ha s_nil hs) (he := hs)) fun R ra g => by rw [C.K]; exact o_sorted R ra g
theorem e_min1 (C : Cm D X c k F) (hg : c.sc.names.lookup ("min" : Str) = some .globalImplicit) (hm : D.mg "min" = none) (ha : PE X a (tV D F call x)) (hs : A1 a X) (hh : c.hot = false := by rfl) : PE X (.Call (.Name "min" p) [a] [] pos) (tV D F call (.op .min1 (.cons false x .nil))) :=
  s_b1 (pe_callB (cr_min (C.calm hh)) (C.gl hg) (C.mgn hm) PyProof.Rows.boot_min (s_cons ha s_nil hs) (he := hs)) fun R ra g => by rw [C.K]; exact o_min1 R ra g
theorem e_max1 (C : Cm D X c k F) (hg : c.sc.names.lookup ("max" : Str) = some .globalImplicit) (hm : D.mg "max" = none) (ha : PE X a (tV D F call x)) (hs : A1 a X) (hh : c.hot = false := by rfl) : PE X (.Call (.Name "max" p) [a] [] pos) (tV D F call (.op .max1 (.cons false x .nil))) :=
  s_b1 (pe_callB (cr_max (C.calm hh)) (C.gl hg) (C.mgn hm) PyProof.Rows.boot_max (s_cons ha s_nil hs) (he := hs)) fun R ra g => by rw [C.K]; exact o_max1 R ra g
theorem e_abs (C : Cm D X c k F) (hg : c.sc.names.lookup ("abs" : Str) = some .globalImplicit) (hm : D.mg "abs" = none) (ha : PE X a (tV D F call x)) (hs : A1 a X) : PE X (.Call (.Name "abs" p) [a] [] pos) (tV D F call (.op .abs (.cons false x .nil))) :=
  s_b1 (pe_callB call_abs (C.gl hg) (C.mgn hm) PyProof.Rows.boot_abs (s_cons ha s_nil hs) (he := hs)) fun R ra g => o_abs R ra g
theorem e_dict (C : Cm D X c k F) (hg : c.sc.names.lookup ("dict" : Str) = some .globalImplicit) (hm : D.mg "dict" = none) (ha : PE X a (tV D F call x)) (hs : A1 a X) : PE X (.Call (.Name "dict" p) [a] [] pos) (tV D F call (.op .dict (.cons false x .nil))) :=
  s_b1 (pe_callTy call_dictD (C.gl hg) (C.mgn hm) PyProof.Rows.boot_dict (s_cons ha s_nil hs) (he := hs)) fun R ra g => o_dictD R ra g
/-! ### is True -/
theorem o_isT {N : Nm} {W : Fm} {μ : List Addr} {S : IR.Sto} {H : Hp} {Q : VK} {d : IR.D} {v : V} (r : RepV N μ H d v) (R : Rel N μ S H) (g : GV N W μ H (IR.evOp .isT [d] S) Q) : rIsB v (.bl true) H Q := by
  cases d <;> first | exact g.elim | skip
  rename_i b
  cases r.bl
  refine ⟨b, true, rfl, rfl, ?_⟩
  have e : decide (b = true) = b := by cases b <;> rfl
  rw [e]
  exact GV.bl R g
theorem o_notT {N : Nm} {W : Fm} {μ : List Addr} {S : IR.Sto} {H : Hp} {Q : VK} {d : IR.D} {v : V} (r : RepV N μ H d v) (R : Rel N μ S H) (g : GV N W μ H (IR.evOp .notT [d] S) Q) : rNotB v (.bl true) H Q := by
  cases d <;> first | exact g.elim | skip
  rename_i b
  cases r.bl
  refine ⟨b, true, rfl, rfl, ?_⟩
  have e : (!decide (b = true)) = !b := by cases b <;> rfl
  rw [e]
  exact GV.bl R g
theorem e_isT (ha : PE X a (tV D F call x)) {p2 : Pos} {j} : PE X (.Compare a [.Is] [.Constant (.bool true) j p2] pos) (tV D F call (.op .isT (.cons false x .nil))) := by
  refine PE.weak (pe_cmpR op_isBl ha pe_bl (nomark _)) fun σ H Q q => ?_
  obtain ⟨μ, S, ρ, hI, R, hρ, g⟩ := q
  have g : GV D.N F μ H (((IR.evs D.g call (.cons false x .nil) ρ).bind fun l => IR.evOp .isT l) S) Q := g
  rw [evs1] at g
  exact one (f := fun a => IR.evOp .isT [a]) hI R hρ g fun μ2 S2 H2 p p' R2 rp g2 => o_isT rp R2 g2
theorem e_notT (ha : PE X a (tV D F call x)) {p2 : Pos} {j} : PE X (.Compare a [.IsNot] [.Constant (.bool true) j p2] pos) (tV D F call (.op .notT (.cons false x .nil))) := by
  refine PE.weak (pe_cmpR op_notBl ha pe_bl (nomark _)) fun σ H Q q => ?_
  obtain ⟨μ, S, ρ, hI, R, hρ, g⟩ := q
  have g : GV D.N F μ H (((IR.evs D.g call (.cons false x .nil) ρ).bind fun l => IR.evOp .notT l) S) Q := g
  rw [evs1] at g
  exact one (f := fun a => IR.evOp .notT [a]) hI R hρ g fun μ2 S2 H2 p p' R2 rp g2 => o_notT rp R2 g2
/-! ### walks -/
theorem s_rev (C : Cm D X c k F) (hg : c.sc.names.lookup ("reversed" : Str) = some .globalImplicit) (hm : D.mg "reversed" = none) (he : PE X e (tV D F call x)) (hs : A1 e X) : PI X tg (.Call (.Name "reversed" p) [e] [] pos) (tIt D F (IR.evIt D.g call (.rev x))) := by
  refine PI.weak (RT.pi_revA (C.gl hg) (C.mgn hm) he hs) fun σ H R q => ?_
  obtain ⟨μ, S, ρ, hI, Rl, hρ, g⟩ := q
  refine one' (f := fun d => IR.srcRev d) hI Rl hρ g fun μ1 S1 H1 d v e1 R1 rv _ g1 => ?_
  rw [C.K]
  have fin : ∀ {s : IR.Src} {J : It}, IR.srcRev d S1 = .ok s S1 → FolS D.N μ1 H1 J s → R J H1 := fun {s J} h f => by
    rw [h] at g1
    exact g1 μ1 H1 e1 R1 J f
  cases d <;> first | exact g1.elim | skip
  · rename_i l
    obtain ⟨a, vs, rfl, h1, r⟩ := rv.tup
    exact ⟨a, vs, rfl, .inr ⟨.of h1, fin rfl (fol_rev fun μ' S' H' e R' => ⟨.inr ⟨rfl, .of (e.tup _ _ h1)⟩, r.mono e.w⟩)⟩⟩
  · rename_i l
    obtain ⟨a, vs, rfl, st⟩ := lst_stays (S1 := S1) (.inl rv)
    exact ⟨a, vs, rfl, .inl ⟨(st μ1 S1 H1 (Ext.refl _ _) R1).1, fin rfl (fol_rev fun μ' S' H' e R' => ⟨.inl ⟨rfl, (st μ' S' H' e R').1⟩, (st μ' S' H' e R').2⟩)⟩⟩
theorem s_enum (C : Cm D X c k F) {elts : List Expr} {kk : Nat} {tpos : Pos} (hg : c.sc.names.lookup ("enumerate" : Str) = some .globalImplicit) (hm : D.mg "enumerate" = none) (he : PE X e (tV D F call x)) (hs : A1 e X) : PI X (.Tuple elts kk tpos) (.Call (.Name "enumerate" p) [e] [] pos) (tIt D F (IR.evIt D.g call (.enum x))) := by
  refine PI.weak (pi_enum (C.gl hg) (C.mgn hm) (s_cons (own := false) he s_nil hs) hs) fun σ H R q => ?_
  obtain ⟨μ, S, ρ, hI, Rl, hρ, g⟩ := q
  refine ⟨μ, S, ρ, hI, Rl, hρ, ?_⟩
  have e0 : IR.evs D.g call (.cons false x .nil) ρ S = (IR.ev D.g call x ρ S).bind fun a => IR.M.pure [a] := by
    have := evs1 (g := D.g) (call := call) (x := x) (ρ := ρ) (f := IR.M.pure) (S := S)
    rw [IR.M.bind_pure] at this
    exact this
  rw [e0]
  have g : GG D.N F μ H ((IR.ev D.g call x ρ S).bind IR.srcEnum) fun s S1 μ1 H1 => ∀ J, FolS D.N μ1 H1 J s → R J H1 := g
  cases er : IR.ev D.g call x ρ S with
  | bad => rw [er] at g; exact g
  | exc c fs S => rw [er] at g; exact g
  | ok d S1 =>
    rw [er] at g
    refine fun μ1 H1 e1 R1 vs rs => ?_
    cases rs with
    | cons r1 rr =>
      cases rr
      have rv := r1.v
      rw [C.K]
      have g : GG D.N F μ H (IR.srcEnum d S1) fun s S1 μ1 H1 => ∀ J, FolS D.N μ1 H1 J s → R J H1 := g
      cases d <;> first | exact g.elim | skip
      · rename_i n _
        obtain ⟨a, rfl, ha⟩ := rv.ref
        have g : GG D.N F μ H (match S1[n]? with | some (IR.MO.lst _) => (IR.Res.ok (IR.Src.rf true n) S1 : IR.Res IR.Src) | _ => IR.Res.bad) fun s S1 μ1 H1 => ∀ J, FolS D.N μ1 H1 J s → R J H1 := g
        split at g
        · rename_i l h
          obtain ⟨vs, h1, r⟩ := R1.ob n _ a h ha
          exact ⟨a, vs, rfl, .of h1, g μ1 H1 e1 R1 _ (folR_enum ha)⟩
        · exact g.elim
      · rename_i l _
        obtain ⟨a, vs, rfl, st⟩ := lst_stays (S1 := S1) (.inl rv)
        exact ⟨a, vs, rfl, (st μ1 S1 H1 (Ext.refl _ _) R1).1, g μ1 H1 e1 R1 _ (fol_enum st)⟩
theorem s_zip (C : Cm D X c k F) {elts : List Expr} {kk : Nat} {tpos : Pos} (hg : c.sc.names.lookup ("zip" : Str) = some .globalImplicit) (hm : D.mg "zip" = none) (ha : PE X a (tV D F call x)) (hb : PE X b (tV D F call y)) (hs2 : A1 b X) (hs : starEach [a, b] X.env = (false, eval a X.env) :: starEach [b] X.env) :
    PI X (.Tuple elts kk tpos) (.Call (.Name "zip" p) [a, b] [] pos) (tIt D F (IR.evIt D.g call (.zip x y))) := by
  refine PI.weak (RZ.pi_zipA (C.gl hg) (C.mgn hm) (s_cons (own := false) ha (s_cons (own := false) hb s_nil hs2) hs) hs (by rw [hs2]; rfl)) fun σ H R q => ?_
  obtain ⟨μ, S, ρ, hI, Rl, hρ, g⟩ := q
  refine ⟨μ, S, ρ, hI, Rl, hρ, ?_⟩
  have e0 : IR.evs D.g call (.cons false x (.cons false y .nil)) ρ S = (IR.ev D.g call x ρ S).bind fun a => (IR.ev D.g call y ρ).bind fun b => IR.M.pure [a, b] := by
    have := evs2 (g := D.g) (call := call) (x := x) (y := y) (ρ := ρ) (f := IR.M.pure) (S := S)
    rw [IR.M.bind_pure] at this
    exact this
  rw [e0]
  have g : GG D.N F μ H ((IR.ev D.g call x ρ S).bind fun d1 => (IR.ev D.g call y ρ).bind fun d2 => IR.srcZip d1 d2) fun s S1 μ1 H1 => ∀ J, FolS D.N μ1 H1 J s → R J H1 := g
  cases er : IR.ev D.g call x ρ S with
  | bad => rw [er] at g; exact g
  | exc c fs S => rw [er] at g; exact g
  | ok d1 S1 =>
    rw [er] at g
    have g : GG D.N F μ H ((IR.ev D.g call y ρ S1).bind fun d2 => IR.srcZip d1 d2) fun s S1 μ1 H1 => ∀ J, FolS D.N μ1 H1 J s → R J H1 := g
    show GG D.N F μ H ((IR.ev D.g call y ρ S1).bind fun b => IR.M.pure [d1, b]) _
    cases er2 : IR.ev D.g call y ρ S1 with
    | bad => rw [er2] at g; exact g
    | exc c fs S => rw [er2] at g; exact g
    | ok d2 S2 =>
      rw [er2] at g
      refine fun μ1 H1 e1 R1 vs rs => ?_
      cases rs with
      | cons r1 rr =>
        cases rr with
        | cons r2 rr =>
          cases rr
          have rv1 := r1.v
          have rv2 := r2.v
          rw [C.K]
          have g : GG D.N F μ H (IR.srcZip d1 d2 S2) fun s S1 μ1 H1 => ∀ J, FolS D.N μ1 H1 J s → R J H1 := g
          unfold IR.srcZip at g
          split at g
          · rename_i l m
            obtain ⟨a, vs, rfl, h1, q1⟩ := rv1.tup
            obtain ⟨b, us, rfl, h2, q2⟩ := rv2.tup
            exact ⟨a, b, vs, us, rfl, .inr ⟨.of h1, .of h2, g μ1 H1 e1 R1 _ (fol_zip (.inr rfl) fun μ' S' H' e R' => ⟨.inr ⟨rfl, .of (e.tup _ _ h1), .of (e.tup _ _ h2)⟩, q1.mono e.w, q2.mono e.w⟩)⟩⟩
          · rename_i l m
            obtain ⟨a, vs, rfl, s1⟩ := lst_stays (S1 := S2) (.inl rv1)
            obtain ⟨b, us, rfl, s2⟩ := lst_stays (S1 := S2) (.inl rv2)
            exact ⟨a, b, vs, us, rfl, .inl ⟨(s1 μ1 S2 H1 (Ext.refl _ _) R1).1, (s2 μ1 S2 H1 (Ext.refl _ _) R1).1, g μ1 H1 e1 R1 _ (fol_zip (.inl rfl) fun μ' S' H' e R' => ⟨.inl ⟨rfl, (s1 μ' S' H' e R').1, (s2 μ' S' H' e R').1⟩, (s1 μ' S' H' e R').2, (s2 μ' S' H' e R').2⟩)⟩⟩
          · obtain ⟨a, rfl, hna⟩ := rv1.ref
            obtain ⟨b, rfl, hmb⟩ := rv2.ref
            split at g
            · rename_i l k e e'
              obtain ⟨vs, h1, _⟩ := R1.ob _ _ a e hna
              obtain ⟨us, h2, _⟩ := R1.ob _ _ b e' hmb
              exact ⟨a, b, vs, us, rfl, .inl ⟨.of h1, .of h2, g μ1 H1 e1 R1 _ (folZ_lst hna hmb)⟩⟩
            · exact g.elim
          · exact g.elim
/-! ### raise, where it isn't reached -/
def esPlain : IR.Es → Bool
  | .nil => true
  | .cons _ (.c _) r => esPlain r
  | .cons _ (.var _) r => esPlain r
  | .cons _ _ _ => false
theorem ownIf_ok (o : Bool) (d : IR.D) (S : IR.Sto) : ∃ d' S', IR.ownIf o d S = .ok d' S' := by
  cases o with
  | false => exact ⟨_, _, rfl⟩
  | true => cases d <;> exact ⟨_, _, rfl⟩
theorem plain_noexc {g : IR.G} {ρ : IR.Env} : ∀ {xs : IR.Es} {S S' : IR.Sto} {c : Nat} {fs : List (Nat × IR.D)}, esPlain xs = true → IR.evs g call xs ρ S ≠ .exc c fs S'
  | .nil, _, _, _, _, _ => fun h => by cases h
  | .cons o e r, S, S', c, fs, hp => fun h => by
    have key : esPlain r = true → (IR.ev g call e ρ S = .bad ∨ ∃ d, IR.ev g call e ρ S = .ok d S) → False := fun hr he => by
      simp only [IR.evs, IR.M.bind] at h
      rcases he with he | ⟨d, he⟩
      · rw [he] at h; cases h
      · rw [he] at h
        obtain ⟨d', S1, ho⟩ := ownIf_ok o d S
        have h : (IR.ownIf o d S).bind (fun x s => (IR.evs g call r ρ s).bind fun l => IR.M.pure (x :: l)) = .exc c fs S' := h
        rw [ho] at h
        have h : (IR.evs g call r ρ S1).bind (fun l => IR.M.pure (d' :: l)) = .exc c fs S' := h
        cases e2 : IR.evs g call r ρ S1 with
        | ok l S2 => rw [e2] at h; cases h
        | bad => rw [e2] at h; cases h
        | exc c2 fs2 S2 => exact plain_noexc hr e2
    cases e <;> simp only [esPlain] at hp <;> first | (cases hp; done) | skip
    · exact key hp (.inr ⟨_, rfl⟩)
    · rename_i i
      refine key hp ?_
      simp only [IR.ev, IR.getVar]
      split
      · exact .inr ⟨_, rfl⟩
      · exact .inl rfl
theorem st_raiseBad {st : Stmt} {cc : Nat} {xs : IR.Es} (hx : D.g.xfs.lookup cc = none) (hp : esPlain xs = true) : PS X st (tSt D F call (.raise cc xs)) := by
  refine PS.weak ps_never fun E σ H q => ?_
  obtain ⟨μ, S, ρ, hI, R, hρ, g⟩ := q
  have g : GG D.N F μ H ((IR.evs D.g call xs ρ S).bind fun l => fun S => match D.g.xfs.lookup cc with
    | some fs => .exc cc (fs.zip l) S
    | none => .bad) (KF D.N F E H) := g
  cases e : IR.evs D.g call xs ρ S with
  | bad => rw [e] at g; exact g
  | exc c fs S => exact (plain_noexc hp e).elim
  | ok l S1 =>
    rw [e] at g
    have g : GG D.N F μ H (match D.g.xfs.lookup cc with
      | some fs => .exc cc (fs.zip l) S1
      | none => .bad) (KF D.N F E H) := g
    rw [hx] at g
    exact g
end
end IRS

namespace IRS
open PySem PySem.Spec PyProof.Rows L2
section
variable {D : Wd} {X : Cx} {c : Ctx} {k : Nat} {F : Fm} {pos : Pos} {a b e o tg : Expr} {es : List Expr} {call : Nat → List IR.D → IR.M IR.D} {x y z : IR.E} {p apos cpos tpos : Pos} {mname : List (Str × Nat)} {n : Str}
theorem look_mem {α : Type} {m : Nat} {x : α} : ∀ {l : List (Nat × α)}, l.lookup m = some x → (m, x) ∈ l
  | [], h => by cases h
  | (k, y) :: r, h => by
    rw [List.lookup_cons] at h
    by_cases e : m = k
    · subst e
      simp at h
      simp [h]
    · rw [show (m == k) = false by simpa using e] at h
      exact List.mem_cons_of_mem _ (look_mem h)
theorem setAttr_at {S : IR.Sto} {r f cc : Nat} {fs : List (Nat × IR.D)} {d : IR.D} (h : S[r]? = some (.ins cc fs)) (hl : fs.length < 900) : IR.setAttrD d (.ref r) f S = .ok () (S.set r (.ins cc (IR.fPut fs f d))) := by simp [IR.setAttrD, h, hl]
theorem setAttr_bad {S : IR.Sto} {r f : Nat} {d : IR.D} (h : ∀ cc fs, S[r]? = some (.ins cc fs) → ¬ fs.length < 900) : IR.setAttrD d (.ref r) f S = .bad := by
  unfold IR.setAttrD
  dsimp only
  split
  · rename_i cc fs e
    rw [if_neg (h _ _ e)]
  · rfl
theorem st_aug (C : Cm D X c k F) (Kk : Kn D k call mname) {f : Nat} {j : Int} (hf : D.N.fld[f]? = some n) (ho : PE X o (tV D F call x)) (hv : PE X e (tC (.int j))) :
    PS X (.AugAssign (.Attribute o n tpos) .Add e pos) (tSt D F call (.augAttr x f (.c (.int j)))) := by
  refine PS.weak (ps_fldaug ho hv in_add) fun E σ H q => ?_
  obtain ⟨μ, S, ρ, hI, R, hρ, g⟩ := q
  have g : GG D.N F μ H (((IR.ev D.g call x ρ).bind fun oo => (IR.getAttrD oo f).bind fun a => (IR.M.pure (IR.D.int j)).bind fun xx => match a, xx with
    | .int i, .int j => (IR.setAttrD (.int (i + j)) oo f).bind fun _ => IR.M.pure (.next ρ)
    | _, _ => IR.M.bad) S) (KF D.N F E H) := g
  refine one' hI R hρ g fun μ1 S1 H1 oo oo' e1 R1 ro _ g1 => ?_
  obtain ⟨r, rfl⟩ : ∃ r, oo = .ref r := by cases oo <;> first | exact ⟨_, rfl⟩ | exact g1.elim
  obtain ⟨q, rfl, hq⟩ := ro.ref
  cases h : S1[r]? with
  | none =>
    have e3 : IR.getAttrD (.ref r) f S1 = .bad := by simp [IR.getAttrD, h]
    have g1 : GG D.N F μ H ((IR.getAttrD (.ref r) f S1).bind _) (KF D.N F E H) := g1
    rw [e3] at g1; exact g1.elim
  | some ob =>
    cases ob with
    | lst l =>
      have e3 : IR.getAttrD (.ref r) f S1 = .bad := by simp [IR.getAttrD, h]
      have g1 : GG D.N F μ H ((IR.getAttrD (.ref r) f S1).bind _) (KF D.N F E H) := g1
      rw [e3] at g1; exact g1.elim
    | dK l1 l2 =>
      have e3 : IR.getAttrD (.ref r) f S1 = .bad := by simp [IR.getAttrD, h]
      have g1 : GG D.N F μ H ((IR.getAttrD (.ref r) f S1).bind _) (KF D.N F E H) := g1
      rw [e3] at g1; exact g1.elim
    | dT l1 l2 =>
      have e3 : IR.getAttrD (.ref r) f S1 = .bad := by simp [IR.getAttrD, h]
      have g1 : GG D.N F μ H ((IR.getAttrD (.ref r) f S1).bind _) (KF D.N F E H) := g1
      rw [e3] at g1; exact g1.elim
    | exn l1 l2 =>
      have e3 : IR.getAttrD (.ref r) f S1 = .bad := by simp [IR.getAttrD, h]
      have g1 : GG D.N F μ H ((IR.getAttrD (.ref r) f S1).bind _) (KF D.N F E H) := g1
      rw [e3] at g1; exact g1.elim
    | ins cc fs =>
      obtain ⟨Ca, dx, r', hc, h1, fr⟩ := R1.ob r _ q h hq
      obtain ⟨k1, k2⟩ := Kk.cls cc Ca hc
      rcases fr.get Kk.fnd hf with ⟨h2, h3⟩ | ⟨d, v, h2, h3, h4⟩
      · have e3 : IR.getAttrD (.ref r) f S1 = .bad := by simp [IR.getAttrD, h, h2, IR.val1]
        have g1 : GG D.N F μ H ((IR.getAttrD (.ref r) f S1).bind _) (KF D.N F E H) := g1
        rw [e3] at g1; exact g1.elim
      · have e3 : IR.getAttrD (.ref r) f S1 = .ok d S1 := by simp [IR.getAttrD, h, h2, IR.val1]
        have g1 : GG D.N F μ H ((IR.getAttrD (.ref r) f S1).bind fun a => (IR.M.pure (IR.D.int j)).bind fun xx => match a, xx with
          | .int i, .int j => (IR.setAttrD (.int (i + j)) (.ref r) f).bind fun _ => IR.M.pure (.next ρ)
          | _, _ => IR.M.bad) (KF D.N F E H) := g1
        rw [e3] at g1
        refine ⟨q, Ca, dx, r', v, rfl, h1, by rw [C.K]; exact k1, by rw [C.K]; exact k2 n (List.mem_of_getElem? hf), h3, ?_⟩
        have g2 : GG D.N F μ1 H1 ((match (generalizing := false) d, IR.D.int j with
          | .int i, .int j => (IR.setAttrD (.int (i + j)) (.ref r) f).bind fun _ => IR.M.pure (.next ρ)
          | _, _ => IR.M.bad : IR.M IR.Flow) S1) (KF D.N F E H) := GG.base e1 g1
        cases d <;> first | exact g2.elim | skip
        rename_i i
        cases h4
        refine ⟨i, j, rfl, rfl, ?_⟩
        have g3 : GG D.N F μ1 H1 ((IR.setAttrD (.int (i + j)) (.ref r) f S1).bind fun _ => IR.M.pure (.next ρ)) (KF D.N F E H) := g2
        by_cases hl : fs.length < 900
        · rw [setAttr_at h hl] at g3
          refine ⟨dx, r', h1, by rw [← fr.length]; omega, ?_⟩
          have ew : Ext μ1 H1 μ1 (upd H1 q (.ins Ca dx (putF n (V.int (i + j)) r'))) := Ext.write hq h1 (fun _ z => nomatch z) (fun _ _ z => nomatch z)
          have fr2 : FR D.N μ1 (upd H1 q (.ins Ca dx (putF n (V.int (i + j)) r'))) (IR.fPut fs f (.int (i + j))) (putF n (V.int (i + j)) r') := (FR.put Kk.fnd hf (.int _) fr).mono ew.w
          exact g3 μ1 _ ew (R1.write hq ⟨Ca, dx, _, hc, upd_same, fr2⟩ ew.w) σ hI ((hρ.mono e1.w).mono ew.w)
        · rw [setAttr_bad (fun cc fs z => by rw [h] at z; cases z; exact hl)] at g3; exact g3.elim
end
end IRS

namespace IRS
open PySem PySem.Spec PyProof.Rows L2
theorem pairsK_of {N : Nm} {μ : List Addr} {H : Hp} : ∀ {l : List IR.D} {kvs : List (IR.Ky × IR.D)} {vs : List V}, IR.pairsK l = some kvs → Reps N μ H l vs → ∃ (ps : List Addr) (kvs' : List (Key × V)), vs = ps.map V.ref ∧ Paired (fun p kv => SqT N.K H p [kV kv.1, kv.2]) ps kvs' ∧ KR N μ H kyK kvs kvs'
  | [], kvs, vs, e, r => by
    cases e
    cases r
    exact ⟨[], [], rfl, .nil, .nil⟩
  | d :: l, kvs, vs, e, r => by
    cases r with
    | @cons _ _ v vs h t =>
    unfold IR.pairsK at e
    split at e
    · rename_i heq; cases heq
    · rename_i k w r' heq
      obtain ⟨rfl, rfl⟩ := List.cons.inj heq
      split at e
      · rename_i k' l' e1 e2
        cases e
        obtain ⟨ps, kvs', rfl, h1, h2⟩ := pairsK_of e2 t
        cases h with
        | tup g1 g2 =>
        cases g2 with
        | cons a1 b1 =>
        cases b1 with
        | cons a2 b2 =>
        cases b2
        have ek := ky_of a1.v e1
        subst ek
        exact ⟨_ :: ps, (kyK k', _) :: kvs', rfl, .cons (.of g1) h1, .cons a2 h2⟩
      · cases e
    · cases e
theorem KR.merge {N : Nm} {μ : List Addr} {H : Hp} : ∀ {m : List (IR.Ky × IR.D)} {m' : List (Key × V)} {r : List (IR.Ky × IR.D)} {r' : List (Key × V)}, KR N μ H kyK m m' → KR N μ H kyK r r' → KR N μ H kyK (m.foldl (fun acc p => IR.dPut acc p.1 p.2) r) (mergeK r' m')
  | _, _, _, _, .nil, h => h
  | _, _, _, _, .cons (r := m) (r' := m') q t, h => KR.merge (m := m) (m' := m') t (h.put kyK_inj' q)
def rDictP (K : PySem.W.Frag) : List V → Hp → VK → Prop := fun xs H Q => ∃ (a : Addr) (ps : List Addr) (kvs : List (Key × V)), xs = [.ref a] ∧ SqL K H a (ps.map V.ref) ∧ Paired (fun p kv => SqT K H p [kV kv.1, kv.2]) ps kvs ∧ ∀ p, H p = none → Q (.ref p) (upd H p (.dK (mergeK [] kvs)))
theorem o_dictP {N : Nm} {W : Fm} {μ : List Addr} {S : IR.Sto} {H : Hp} {Q : VK} {a : IR.D} {x : V} (R : Rel N μ S H) (ra : RepV N μ H a x) (g : GV N W μ H (IR.evOp .dictP [a] S) Q) : rDictP N.K [x] H Q := by
  cases a <;> first | exact g.elim | skip
  rename_i l
  obtain ⟨p, vs, rfl, h1, h2⟩ := lst_of (S := S) (l := l) R ra rfl
  have g : GV N W μ H (match IR.pairsK l with
    | some kvs => .ok (.ref S.length) (S ++ [.dK false (kvs.foldl (fun acc p => IR.dPut acc p.1 p.2) [])])
    | none => .bad) Q := g
  split at g
  · rename_i kvs e
    obtain ⟨ps, kvs', rfl, hp, kr⟩ := pairsK_of e h2
    refine ⟨p, ps, kvs', rfl, h1, hp, fun q hq => ?_⟩
    have ex : Ext μ H (μ ++ [q]) (upd H q (.dK (mergeK [] kvs'))) := (Ext.laid hq).add hq
    refine g (μ ++ [q]) _ ex ((R.laid hq).add (R.fresh hq) ⟨_, upd_same, (KR.merge kr .nil).mono ex.w⟩) (.ref q) (Rep.ref ?_) fun _ _ z => nomatch z
    rw [← R.len]; simp
  · exact g.elim
section
variable {D : Wd} {X : Cx} {c : Ctx} {k : Nat} {F : Fm} {pos : Pos} {a b e o tg : Expr} {es : List Expr} {call : Nat → List IR.D → IR.M IR.D} {x y z : IR.E} {p apos cpos tpos : Pos} {mname : List (Str × Nat)} {n : Str}
theorem e_dictP (C : Cm D X c k F) (hg : c.sc.names.lookup ("dict" : Str) = some .globalImplicit) (hm : D.mg "dict" = none) (ha : PE X a (tV D F call x)) (hs : A1 a X) (hh : c.hot = false := by rfl) : PE X (.Call (.Name "dict" p) [a] [] pos) (tV D F call (.op .dictP (.cons false x .nil))) :=
  s_b1 (pe_callTy (call_dictP (C.calm hh)) (C.gl hg) (C.mgn hm) PyProof.Rows.boot_dict (s_cons ha s_nil hs) (he := hs)) fun R ra g => by rw [C.K]; exact o_dictP R ra g
end
end IRS

namespace HT
open PySem PySem.Spec PyProof.Rows
section
variable {prog : Program} {w : World} {A : Around} {E : Value → Shared → Prop} {s : Shared}
theorem adjust_rev (n : Nat) : Builtin.Slice.sliceAdjust none none (-1) (n : Int) = ((n : Int) - 1, -1) := by
  unfold Builtin.Slice.sliceAdjust
  simp
theorem places_rev (n : Nat) : Builtin.Slice.slicePlaces ((n : Int) - 1) (-1) (-1) = n := by
  unfold Builtin.Slice.slicePlaces
  simp
  try omega
theorem sliceApplied_rev {sl : Addr} {vs : Value} {n : Nat} {Q : Int × Int × Nat → Shared → Prop} (hs : s.heap.IsSliceOf sl .none .none vs) (ps : IsPart vs (some (-1)))
    (h : Q ((n : Int) - 1, -1, n) s) : wpAny (model prog w) A (Builtin.Slice.sliceApplied (.ref sl) (pure (n : Int))) Q E s := by
  obtain ⟨os, hos, hcs, hds⟩ := id hs
  unfold Builtin.Slice.sliceApplied Builtin.Slice.sliceFields
  refine wpAny_bind (wpAny_bind (wpAny_field hos hds (x := .none) rfl (wpAny_bind (wpAny_field hos hds (x := .none) rfl (wpAny_bind (wpAny_field hos hds (x := vs) rfl (wpAny_pure ?_)))))))
  refine wpAny_bind (slicePart_ ps ?_)
  show wpAny _ _ (if ((-1 : Int) == 0) = true then _ else _) _ _ s
  rw [if_neg (by decide)]
  refine wpAny_bind (slicePart_none (wpAny_bind (slicePart_none (wpAny_bind (wpAny_pure ?_)))))
  show wpAny _ _ (match Builtin.Slice.sliceAdjust none none (-1) (n : Int) with | (lo, hi) => pure (lo, (-1 : Int), Builtin.Slice.slicePlaces lo hi (-1))) _ _ s
  rw [adjust_rev n]
  show wpAny _ _ (pure ((n : Int) - 1, (-1 : Int), Builtin.Slice.slicePlaces ((n : Int) - 1) (-1) (-1))) _ _ s
  rw [places_rev]
  exact wpAny_pure h
theorem fm_congr {α β : Type} {f g : α → Option β} : ∀ {l : List α}, (∀ x ∈ l, f x = g x) → l.filterMap f = l.filterMap g
  | [], _ => rfl
  | x :: r, h => by
    rw [List.filterMap_cons, List.filterMap_cons, h x (by simp), fm_congr fun y hy => h y (by simp [hy])]
theorem pick_rev (xs : Array Value) : ((List.range xs.size).filterMap fun (m : Nat) => xs[((xs.size : Int) - 1 + (m : Int) * (-1)).toNat]?).toArray = xs.toList.reverse.toArray := by
  congr 1
  have e : (List.range xs.size).filterMap (fun (m : Nat) => xs[((xs.size : Int) - 1 + (m : Int) * (-1)).toNat]?) = ((List.range xs.size).map fun k => xs.size - 1 - k).filterMap (xs[·]?) := by
    rw [List.filterMap_map]
    refine fm_congr fun m hm => ?_
    have := List.mem_range.mp hm
    show xs[((xs.size : Int) - 1 + (m : Int) * (-1)).toNat]? = xs[xs.size - 1 - m]?
    rw [show ((xs.size : Int) - 1 + (m : Int) * (-1)).toNat = xs.size - 1 - m by omega]
  rw [e, PySem.W.krv_range, List.filterMap_reverse, PySem.W.krv_all]
theorem getItem_tuple_rev {t sl : Addr} {items : Array Value} {vs : Value} {Q : Value → Shared → Prop} (ht : IsTup s.heap t items) (hs : s.heap.IsSliceOf sl .none .none vs) (ps : IsPart vs (some (-1)))
    (h : Q (.ref s.heap.objs.size) { s with heap := s.heap.push { cls := .type "tuple", data := .seq items.toList.reverse.toArray } })
    (hsz : items.size ≤ sizeLine) : wpAny (model prog w) A (getItem (.ref t) (.ref sl)) Q E s := by
  have htake : sizeOk (.seq items.toList.reverse.toArray) := by
    show items.toList.reverse.toArray.size ≤ sizeLine
    rw [List.size_toArray, List.length_reverse, Array.length_toList]
    exact hsz
  obtain ⟨os, hos, hcs, hds⟩ := id hs
  have hTs : s.TypeIs (.ref sl) "slice" := ⟨os, hos, hcs⟩
  unfold getItem
  try with_reducible refine wpAny_holding ?_
  first | refine wpAny_bind (wpAny_pure ?_) | skip
  refine wpAny_bind (wpAny_sequenceKey ht.typeIs (by decide) ?_)
  refine wpAny_bind (wpAny_callSpecial?_slot (name := Str.ofString "__getitem__") ht.typeIs PyProof.Rows.slot_tuple_getitem
    (wpAny_call_entry PyProof.Rows.slot_tuple_getitem ht.typeIs entry_tuple_getitem ?_ (args_tuple_getitem _ _)))
  show wpAny _ _ (Builtin.Tuple.tupleItemsOf (.ref t) >>= _) _ _ s
  refine wpAny_bind (tupleItemsOf_ ht ?_)
  refine wpAny_bind (wpAny_typeOf hTs ?_)
  rw [if_pos (by decide)]
  refine wpAny_bind (sliceApplied_rev hs ps ?_)
  have hno : ¬ ((((items.size : Int) - 1 == 0) && (-1 : Int) == 1 && items.size == items.size) = true) := by
    intro q
    rw [Bool.and_eq_true, Bool.and_eq_true] at q
    exact absurd q.1.2 (by decide)
  show wpAny _ _ (if (((items.size : Int) - 1 == 0) && (-1 : Int) == 1 && items.size == items.size) = true then _ else _) _ _ s
  rw [if_neg hno, pick_rev]
  first
    | exact wpAny_bind (m := Builtin.Tuple.tupleExact _) (wpAny_newObj_type (wpAny_pure ⟨_, rfl, wpAny_pure h⟩) htake)
    | exact wpAny_bind (m := Builtin.Tuple.tupleExact _) (wpAny_newObj_type (wpAny_bind (wpAny_pure (wpAny_pure ⟨_, rfl, wpAny_pure h⟩))) htake)
    | exact wpAny_bind (wpAny_bind (m := Builtin.Tuple.tupleExact _) (wpAny_newObj_type (wpAny_pure (wpAny_pure ⟨_, rfl, wpAny_pure h⟩)) htake))
    | exact wpAny_bind (wpAny_bind (m := Builtin.Tuple.tupleExact _) (wpAny_newObj_type (wpAny_pure ⟨_, rfl, wpAny_pure h⟩) htake))
end
end HT
namespace IRS
open PySem PySem.Spec PyProof.Rows L2
/-- xs[::-1] of a list or a tuple -/
def tRevX (K : PySem.W.Frag) (te : TE) : TE := fun σ H Q => te σ H fun x H1 => (∃ a xs, x = .ref a ∧ SqL K H1 a xs ∧ ∀ p, H1 p = none → Q (.ref p) (upd H1 p (.lst xs.reverse))) ∨ (∃ a xs, x = .ref a ∧ SqT K H1 a xs ∧ ∀ p, H1 p = none → Q (.ref p) (upd H1 p (.tup xs.reverse)))
theorem pe_revX {X : Cx} {e : Expr} {te : TE} {k : Nat} {p1 p2 p3 pos : Pos} (he : PE X e te) : PE X (.Subscript e (.Slice none none (some (.UnaryOp .USub (.Constant (.int 1) k p1) p2)) p3) pos) (tRevX X.K te) := by
  refine ⟨fun pins s σ H Q I h => ?_⟩
  refine Subscript_ (thn (he.run pins s σ H _ I h) fun v s1 ⟨x, H1, I1, r1, q1⟩ => ?_)
  have hst : PO X (some (.UnaryOp .USub (.Constant (.int 1) k p1) p2)) (tPart (tUn (rU fun i => .int (-i)) (tC (.int 1)))) := po_some (pe_un un_neg pe_int)
  refine wpAny_Slice (thn (po_none.run pins s1 σ H1 (fun o H2 => o = none ∧ H2 = H1) I1 ⟨rfl, rfl⟩) fun vl s2 ⟨l, H2, I2, pl, el, e2⟩ => ?_)
  subst el e2
  refine thn (po_none.run pins s2 σ H2 (fun o H3 => o = none ∧ H3 = H2) I2 ⟨rfl, rfl⟩) fun vu s3 ⟨u, H3, I3, pu, eu, e3⟩ => ?_
  subst eu e3
  refine thn (hst.run pins s3 σ H3 (fun o H4 => o = some (-1) ∧ H4 = H3) I3 ⟨1, rfl, -1, rfl, rfl, rfl⟩) fun vs s4 ⟨o, H4, I4, ps, eo, e4⟩ => ?_
  subst eo e4
  have I5 : Inv X pins σ H4 { s4 with heap := s4.heap.push { cls := .type "slice", data := .fields #[vl, vu, vs] } } := I4.kept (t' := s4.toks) fun b ob q => Heap.get?_push_of_some _ q
  rcases q1 with ⟨a, xs, ex, hx, q⟩ | ⟨a, xs, ex, hx, q⟩
  · subst ex
    cases r1
    obtain ⟨its, r, ht, hz⟩ := I5.list hx
    have hlen := r.length
    show wpAny (model X.prog X.w) X.A (subscriptTail e (.Slice none none (some (.UnaryOp .USub (.Constant (.int 1) k p1) p2)) p3) (.ref a) (.ref s4.heap.objs.size)) (EP X pins σ Q) X.xe { s4 with heap := s4.heap.push { cls := .type "slice", data := .fields #[vl, vu, vs] } }
    refine tail_any (ops := [.ref a, .ref s4.heap.objs.size]) ht.isList.typeIs (PySem.slot_list_getitem.lookup) ?_ (by with_unfolding_all rfl)
    refine wpAny_getItem_list_slice ht.isList (Heap.IsSliceOf.new _ vl vu vs) pl pu ps (by decide) ?_ (by rw [List.size_toArray]; omega)
    rw [PySem.W.krv_pick]
    refine ⟨.ref _, _, I5.laid (t' := s4.toks) (o := .lst xs.reverse) (fun b ob q => Heap.get?_push_of_some _ q) (Nat.le_refl _) ?_, rfl, q _ (I5.hok.fresh (Nat.le_refl _))⟩
    exact ⟨by rw [List.length_reverse]; exact hz, _, 0, r.reverse, Heap.get?_push_size _ rfl⟩
  · subst ex
    cases r1
    obtain ⟨its, r, ht, hz⟩ := I5.tuple hx
    have hlen := r.length
    cases pl
    cases pu
    show wpAny (model X.prog X.w) X.A (subscriptTail e (.Slice none none (some (.UnaryOp .USub (.Constant (.int 1) k p1) p2)) p3) (.ref a) (.ref s4.heap.objs.size)) (EP X pins σ Q) X.xe { s4 with heap := s4.heap.push { cls := .type "slice", data := .fields #[.none, .none, vs] } }
    refine tail_any (ops := [.ref a, .ref s4.heap.objs.size]) ht.typeIs (PyProof.Rows.slot_tuple_getitem.lookup) ?_ (by with_unfolding_all rfl)
    refine HT.getItem_tuple_rev ht (Heap.IsSliceOf.new _ .none .none vs) ps ?_ (by rw [List.size_toArray]; omega)
    refine ⟨.ref _, _, I5.laid (t' := s4.toks) (o := .tup xs.reverse) (fun b ob q => Heap.get?_push_of_some _ q) (Nat.le_refl _) ?_, rfl, q _ (I5.hok.fresh (Nat.le_refl _))⟩
    exact ⟨by rw [List.length_reverse]; exact hz, _, r.reverse, IsTup.new _ _⟩

section
variable {D : Wd} {X : Cx} {c : Ctx} {k : Nat} {F : Fm} {pos : Pos} {a b e o tg : Expr} {es : List Expr} {call : Nat → List IR.D → IR.M IR.D} {x y z : IR.E} {p apos cpos tpos p1 p2 p3 : Pos} {mname : List (Str × Nat)} {n : Str}
theorem Reps.snoc' {N : Nm} {μ : List Addr} {H : Hp} {d : IR.D} {v : V} (h : Rep N μ H d v) : ∀ {l : List IR.D} {vs : List V}, Reps N μ H l vs → Reps N μ H (l ++ [d]) (vs ++ [v])
  | _, _, .nil => .cons h .nil
  | _, _, .cons a t => .cons a (Reps.snoc' h t)
theorem Reps.rev' {N : Nm} {μ : List Addr} {H : Hp} : ∀ {l : List IR.D} {vs : List V}, Reps N μ H l vs → Reps N μ H l.reverse vs.reverse
  | _, _, .nil => .nil
  | _, _, .cons h t => by
    rw [List.reverse_cons, List.reverse_cons]
    exact Reps.snoc' h (Reps.rev' t)
theorem revS_at {S : IR.Sto} {d : IR.D} (h : ∀ l, d ≠ .tup l) : IR.evOp .revS [d] S = IR.val1 ((IR.lstItems S d).map fun l => .tl l.reverse) S := by
  cases d <;> first | rfl | exact absurd rfl (h _)
theorem e_revS {kk : Nat} (C : Cm D X c k F) (ha : PE X e (tV D F call x)) :
    PE X (.Subscript e (.Slice none none (some (.UnaryOp .USub (.Constant (.int 1) kk p1) p2)) p3) pos) (tV D F call (.op .revS (.cons false x .nil))) := by
  refine PE.weak (pe_revX ha) fun σ H Q q => ?_
  obtain ⟨μ, S, ρ, hI, R, hρ, g⟩ := q
  have g : GV D.N F μ H (((IR.evs D.g call (.cons false x .nil) ρ).bind fun l => IR.evOp .revS l) S) Q := g
  rw [evs1] at g
  rw [C.K]
  refine one (f := fun a => IR.evOp .revS [a]) hI R hρ g fun μ2 S2 H2 d d' R2 rd g2 => ?_
  have lst : ∀ {l : List IR.D}, IR.lstItems S2 d = some l → GV D.N F μ2 H2 (IR.val1 ((IR.lstItems S2 d).map fun l => .tl l.reverse) S2) Q → (∃ a xs, d' = .ref a ∧ SqL D.N.K H2 a xs ∧ ∀ p, H2 p = none → Q (.ref p) (upd H2 p (.lst xs.reverse))) := fun {l} hl g2 => by
    obtain ⟨r, hr, g3⟩ := GV.val1 g2
    rw [hl] at hr
    cases hr
    obtain ⟨ad, vs, rfl, hq, rs⟩ := lst_of R2 rd hl
    exact ⟨ad, vs, rfl, hq, GV.newL R2 g3 rs.rev'⟩
  by_cases ht : ∃ l, d = .tup l
  · obtain ⟨l, rfl⟩ := ht
    obtain ⟨ad, vs, rfl, e1, r⟩ := rd.tup
    exact .inr ⟨ad, vs, rfl, .of e1, GV.newT R2 g2 r.rev'⟩
  · rw [revS_at fun l e => ht ⟨l, e⟩] at g2
    obtain ⟨r, hr, _⟩ := GV.val1 g2
    obtain ⟨l, hl, _⟩ := Option.map_eq_some_iff.mp hr
    exact .inl (lst hl g2)
end
end IRS

namespace IRS
open PySem PySem.Spec PyProof.Rows L2
section
variable {D : Wd} {X : Cx} {c : Ctx} {k : Nat} {F : Fm} {pos : Pos} {a b e o tg : Expr} {es : List Expr} {call : Nat → List IR.D → IR.M IR.D} {x y z : IR.E} {p apos cpos tpos : Pos} {mname : List (Str × Nat)} {n : Str}
/-- x is True, as a test -/
theorem t_cmpT {op : CmpOp} {r : R2} {oo : IR.Op} (ho : OpR X (compareOp op) r) (ha : PE X a (tV D F call x)) {j} {p2 : Pos} (hm : behindInMarks op (.Constant (.bool true) j p2) = false) (hb : ∀ p S d S', IR.evOp oo [p] S = .ok d S' → ∃ b, d = .bl b)
    (h : ∀ {μ S H Q p p'}, Rel D.N μ S H → RepV D.N μ H p p' → GV D.N F μ H (IR.evOp oo [p] S) Q → r p' (.bl true) H Q) : PT X (.Compare a [op] [.Constant (.bool true) j p2] pos) (tB' D F call (.op oo (.cons false x .nil))) := by
  refine PT.weak (pt_cmpR ho ha pe_bl hm) fun σ H Q q => ?_
  obtain ⟨μ, S, ρ, hI, R, hρ, g⟩ := q
  have g : GG D.N F μ H ((((IR.evs D.g call (.cons false x .nil) ρ).bind fun l => IR.evOp oo l).bind IR.truth) S) fun b _ _ H' => Q b H' := g
  rw [IR.M.bind_assoc, evs1] at g
  refine one' (f := fun a => (IR.evOp oo [a]).bind IR.truth) hI R hρ g fun μ2 S2 H2 p p' e2 R2 rp _ g2 => h R2 rp ?_
  have g2 := GG.base e2 g2
  have g2 : GG D.N F μ2 H2 ((IR.evOp oo [p] S2).bind IR.truth) fun b _ _ H' => Q b H' := g2
  cases er : IR.evOp oo [p] S2 with
  | bad => rw [er] at g2; exact g2
  | exc c fs S => rw [er] at g2; exact g2
  | ok d S3 =>
    obtain ⟨b, rfl⟩ := hb _ _ _ _ er
    rw [er] at g2
    exact fun μ' H' e R v rv _ => ⟨b, rv.bl, g2 μ' H' e R⟩
theorem t_isT (ha : PE X a (tV D F call x)) {j} {p2 : Pos} : PT X (.Compare a [.Is] [.Constant (.bool true) j p2] pos) (tB' D F call (.op .isT (.cons false x .nil))) :=
  t_cmpT op_isBl ha (nomark _) (fun p S d S' h => by cases p <;> first | (cases h; exact ⟨_, rfl⟩) | cases h) fun R rp g => o_isT rp R g
theorem t_notT (ha : PE X a (tV D F call x)) {j} {p2 : Pos} : PT X (.Compare a [.IsNot] [.Constant (.bool true) j p2] pos) (tB' D F call (.op .notT (.cons false x .nil))) :=
  t_cmpT op_notBl ha (nomark _) (fun p S d S' h => by cases p <;> first | (cases h; exact ⟨_, rfl⟩) | cases h) fun R rp g => o_notT rp R g
end
end IRS

namespace IRS
open PySem PySem.Spec PyProof.Rows L2
/-! ### texts joined, a sign's place in a text -/
theorem joinL_T (s : IR.Txt) : ∀ ts : List IR.Txt, TL.joinL s ts = IR.joinT s ts
  | [] => rfl
  | [_] => rfl
  | x :: y :: r => by
    show x ++ (s ++ TL.joinL s (y :: r)) = x ++ s ++ IR.joinT s (y :: r)
    rw [joinL_T s (y :: r), List.append_assoc]
theorem sT_join (s : IR.Txt) (ts : List IR.Txt) : Txt.join (sT s) (ts.map sT) = sT (IR.joinT s ts) := by
  rw [TL.join_eq]
  refine TL.ext_tl ?_
  rw [TL.tl_join]
  have e : (ts.map sT).map TL.tl = ts := by
    rw [List.map_map]
    exact (List.map_congr_left (g := id) fun x _ => rfl).trans (List.map_id _)
  rw [e]
  exact joinL_T s ts
theorem joinT_len (s : IR.Txt) : ∀ ts : List IR.Txt, (ts.map List.length).sum + ts.length * s.length ≤ (IR.joinT s ts).length + s.length
  | [] => by simp [IR.joinT]
  | [x] => by simp [IR.joinT]
  | x :: y :: r => by
    have ih := joinT_len s (y :: r)
    simp only [IR.joinT, List.map_cons, List.sum_cons, List.length_cons, List.length_append, Nat.add_mul, Nat.one_mul] at ih ⊢
    omega
def rJoin (K : PySem.W.Frag) : V → List V → Hp → VK → Prop := fun x xs H Q => ∃ a p, ∃ ys : List Str, x = .str a ∧ xs = [.ref p] ∧ (SqL K H p (ys.map V.str) ∨ SqT K H p (ys.map V.str)) ∧
    (ys.map (·.length)).sum + ys.length * a.length ≤ 16777216 ∧ Q (.str (Txt.join a ys)) H
section
variable {N : Nm} {W : Fm} {μ : List Addr} {S : IR.Sto} {H : Hp} {Q : VK} {a b d : IR.D} {x y z : V}
theorem o_join (R : Rel N μ S H) (ra : RepV N μ H a x) (rb : RepV N μ H b y) (g : GV N W μ H (IR.evOp .join [a, b] S) Q) : rJoin N.K x [y] H Q := by
  cases a <;> first | exact g.elim | skip
  rename_i s
  have ea := ra.str
  subst ea
  have g : GV N W μ H (IR.val1 ((IR.lstItems S b).bind fun l => (l.mapM IR.D.isStr).bind fun ts => if s.length ≤ 1000 ∧ (IR.joinT s ts).length ≤ IR.LINE then some (.str (IR.joinT s ts)) else none) S) Q := g
  obtain ⟨d, e, g⟩ := g.val1
  obtain ⟨l, e1, e⟩ := Option.bind_eq_some_iff.mp e
  obtain ⟨ts, e2, e⟩ := Option.bind_eq_some_iff.mp e
  split at e
  · rename_i hl
    cases e
    obtain ⟨p, vs, rfl, h1, h2⟩ := lst_of R rb e1
    have h3 := strs_of e2 h2
    subst h3
    refine ⟨sT s, p, ts.map sT, rfl, rfl, .inl h1, ?_, ?_⟩
    · have z := joinT_len s ts
      have e3 : ((ts.map sT).map fun x => x.length) = ts.map List.length := by
        rw [List.map_map]
        exact List.map_congr_left fun x _ => sT_len x
      rw [e3, List.length_map, sT_len]
      have := hl.1; have := hl.2
      simp only [IR.LINE] at *
      omega
    · rw [sT_join]
      exact g.str R
  · cases e
def rIndexS : V → List V → Hp → VK → Prop := fun x xs H Q => ∃ (a : Str) (c i : Nat), x = .str a ∧ xs = [.str ⟨#[c]⟩] ∧ a.cps.toList[i]? = some c ∧ (∀ k, k < i → a.cps.toList[k]? ≠ some c) ∧ Q (.int (i : Nat)) H
end
theorem mt_indexS {X : Cx} : MtR X "str.index" rIndexS := by
  intro pins s σ H x xs v us Q I rx rs h
  obtain ⟨a, c, i, rfl, rfl, h1, h2, q⟩ := h
  obtain ⟨t, rfl⟩ := rx
  cases rs with
  | cons r1 rs =>
    cases rs
    obtain ⟨u, rfl⟩ := r1
    have atI : ∀ k, PySem.StrLaws.At a ⟨#[c]⟩ a.length k ↔ a.cps.toList[k]? = some c := fun k => PySem.StrLaws.subAt_one a c k
    rcases PySem.StrLaws.occ_head a ⟨#[c]⟩ 1 (Nat.le_refl _) with ⟨_, hn⟩ | ⟨j, r, e, hj, hk⟩
    · exact absurd ((atI i).mpr h1) (hn i)
    · have ej : j = i := by
        rcases Nat.lt_trichotomy j i with l | l | l
        · exact absurd ((atI j).mp hj) (h2 j l)
        · exact l
        · exact absurd ((atI i).mpr h1) (hk i l)
      subst ej
      exact PySem.SC.index e ⟨.int (j : Nat), H, I.tok _, ⟨_, rfl⟩, q⟩
theorem findIdx_at {c : Nat} : ∀ {s : List Nat} {n : Nat}, s.findIdx? (· == c) = some n → s[n]? = some c ∧ ∀ k, k < n → s[k]? ≠ some c
  | [], n, h => by simp at h
  | x :: r, n, h => by
    rw [List.findIdx?_cons] at h
    by_cases e : (x == c) = true
    · rw [if_pos e] at h
      cases h
      exact ⟨by simpa using e, fun k hk => by omega⟩
    · rw [if_neg e] at h
      obtain ⟨m, hm, rfl⟩ := Option.map_eq_some_iff.mp h
      obtain ⟨h1, h2⟩ := findIdx_at hm
      refine ⟨by simpa using h1, fun k hk => ?_⟩
      cases k with
      | zero => intro z; simp at z; exact e (by simpa using z)
      | succ k => simpa using h2 k (by omega)
section
variable {N : Nm} {W : Fm} {μ : List Addr} {S : IR.Sto} {H : Hp} {Q : VK} {a b d : IR.D} {x y z : V}
theorem o_indexS {s : IR.Txt} (R : Rel N μ S H) (ra : RepV N μ H (.str s) x) (rb : RepV N μ H b y) (g : GV N W μ H (IR.evOp .indexS [.str s, b] S) Q) : rIndexS x [y] H Q := by
  have ea := ra.str
  subst ea
  have key : ∀ c, b = .str [c] → rIndexS (.str (sT s)) [y] H Q := fun c e => by
    subst e
    have eb := rb.str
    subst eb
    have g : GV N W μ H (IR.val1 ((s.findIdx? (· == c)).map fun (n : Nat) => IR.D.int (n : Int)) S) Q := g
    obtain ⟨d, e, g⟩ := g.val1
    obtain ⟨n, hn, rfl⟩ := Option.map_eq_some_iff.mp e
    obtain ⟨h1, h2⟩ := findIdx_at hn
    exact ⟨sT s, c, n, rfl, rfl, h1, h2, g.int R⟩
  cases b with
  | str t =>
    match t, key with
    | [c], key => exact key c rfl
    | [], _ => exact g.elim
    | _ :: _ :: _, _ => exact g.elim
  | _ => exact g.elim
end
/-! ### displays of dicts -/
/-- the pairs of a display, as told by the small language -/
structure PD (D : Wd) (X : Cx) (F : Fm) (call : Nat → List IR.D → IR.M IR.D) (pos : Pos) (keys : List (Option Expr)) (values : List Expr) (ks : List IR.Txt) (xs : IR.Es) (trs : List (TE × TE)) : Prop where
  run : PPs X pos keys values trs
  own : ∀ o ∈ esOwn xs, o = true
  len : (esOwn xs).length = ks.length ∧ keys.length = ks.length ∧ values.length = ks.length
  say : ∀ σ H (Q : List (V × V) → Hp → Prop), tAs D F call xs σ H (fun vs H2 => Q ((ks.map fun t => V.str (sT t)).zip vs) H2) → tPairs trs σ H Q
  all : keys.all (·.isSome) = true
section
variable {D : Wd} {X : Cx} {c : Ctx} {k : Nat} {F : Fm} {pos : Pos} {a b e o tg : Expr} {es : List Expr} {call : Nat → List IR.D → IR.M IR.D} {x y z : IR.E} {p apos cpos tpos : Pos} {mname : List (Str × Nat)} {n : Str}
theorem pd_nil : PD D X F call pos [] [] [] .nil [] where
  run := pps_nil
  own := fun _ h => nomatch h
  len := ⟨rfl, rfl, rfl⟩
  say := fun σ H Q q => by
    obtain ⟨μ, S, ρ, hI, R, hρ, g⟩ := q
    exact g μ H (Ext.refl _ _) R [] .nil
  all := rfl
theorem pd_cons {keys : List (Option Expr)} {values : List Expr} {t : IR.Txt} {ks : List IR.Txt} {xs : IR.Es} {trs : List (TE × TE)} {j} {kp : Pos} (hk : sT t = n) (hv : PE X e (tV D F call x)) (r : PD D X F call pos keys values ks xs trs) :
    PD D X F call pos (some (.Constant (.str n) j kp) :: keys) (e :: values) (t :: ks) (.cons true x xs) ((tC (.str n), tV D F call x) :: trs) := by
  refine ⟨pps_cons pe_str hv r.run, fun o ho => (List.mem_cons.mp ho).elim id (r.own o), ⟨?_, ?_, ?_⟩, fun σ H Q q => ?_, ?_⟩
  · show (esOwn xs).length + 1 = _; rw [r.len.1]; rfl
  · simp [r.len.2.1]
  · simp [r.len.2.2]
  · obtain ⟨μ, S, ρ, hI, R, hρ, g⟩ := q
    show tV D F call x σ H fun y H2 => tPairs trs σ H2 fun ps H3 => Q ((V.str n, y) :: ps) H3
    refine ⟨μ, S, ρ, hI, R, hρ, ?_⟩
    have g : GG D.N F μ H (((IR.ev D.g call x ρ S).bind (IR.ownIf true)).bind fun x => (IR.evs D.g call xs ρ).bind fun l => IR.M.pure (x :: l)) fun ds _ μ' H' => ∀ vs, RepOs D.N μ' H' (true :: esOwn xs) ds vs → Q (((t :: ks).map fun t => V.str (sT t)).zip vs) H' := by
      have e : IR.evs D.g call (.cons true x xs) ρ S = ((IR.ev D.g call x ρ S).bind (IR.ownIf true)).bind fun x => (IR.evs D.g call xs ρ).bind fun l => IR.M.pure (x :: l) := by
        simp only [IR.evs, IR.M.bind]
        cases IR.ev D.g call x ρ S <;> rfl
      rw [← e]; exact g
    refine GG.own g fun μ1 S1 H1 d v e1 R1 rd g1 => ?_
    refine r.say σ H1 _ ⟨μ1, S1, ρ, hI, R1, hρ.mono e1.w, ?_⟩
    refine GG.imp (GG.bind (show GG D.N F μ1 H1 ((IR.evs D.g call xs ρ S1).bind fun l => IR.M.pure (d :: l)) _ from g1)) fun ds S2 μ2 H2 e2 R2 g2 vs rs => ?_
    have q := g2 μ2 H2 (Ext.refl _ _) R2 (v :: vs) (.cons (rd.mono e2) rs)
    rw [List.map_cons, List.zip_cons_cons, hk] at q
    exact q
  · simp [r.all]
theorem merge_new : ∀ {m acc : List (Key × V)}, ((acc ++ m).map (·.1)).Nodup → mergeK acc m = acc ++ m
  | [], acc, _ => by simp [mergeK]
  | p :: m, acc, h => by
    have hp : putK acc p.1 p.2 = acc ++ [p] := by
      unfold putK
      rw [if_neg]
      intro z
      obtain ⟨q, hq, e⟩ := List.any_eq_true.mp z
      rw [List.map_append, List.nodup_append] at h
      exact h.2.2 q.1 (List.mem_map.mpr ⟨q, hq, rfl⟩) p.1 (List.mem_map.mpr ⟨p, List.mem_cons_self, rfl⟩) (by simpa using e)
    show mergeK (putK acc p.1 p.2) m = _
    rw [hp, merge_new (by simpa using h)]
    simp
theorem kr_disp {N : Nm} {μ : List Addr} {H : Hp} : ∀ {ks : List IR.Txt} {ds : List IR.D} {vs : List V}, Reps N μ H ds vs → KR N μ H kyK ((ks.zip ds).map fun p => (.inr p.1, p.2)) ((ks.zip vs).map fun p => (Sum.inr (sT p.1), p.2))
  | [], _, _, _ => .nil
  | _ :: _, _, _, .nil => .nil
  | t :: ks, _, _, .cons a r => .cons (f := kyK) (k := .inr t) a (kr_disp r)
theorem e_disp {keys : List (Option Expr)} {values : List Expr} {ks : List IR.Txt} {xs : IR.Es} {trs : List (TE × TE)} (h : PD D X F call pos keys values ks xs trs) (hn : ks.Nodup) (h0 : ks ≠ []) (h15 : ks.length ≤ 15) :
    PE X (.Dict keys values pos) (tV D F call (.op (.disp ks) xs)) := by
  refine PE.weak (pe_disp h.run h.all (h.len.2.1.trans h.len.2.2.symm) (fun z => h0 (List.eq_nil_of_length_eq_zero (by rw [← h.len.2.1, z]; rfl))) (by rw [h.len.2.1]; exact h15)) fun σ H Q q p hp => ?_
  obtain ⟨μ, S, ρ, hI, R, hρ, g⟩ := q
  have e0 : Ext μ H μ (upd H p (.dK [])) := Ext.laid hp
  refine h.say σ _ _ ⟨μ, S, ρ, hI, R.laid hp, hρ.mono e0.w, ?_⟩
  have g : GV D.N F μ H ((IR.evs D.g call xs ρ S).bind fun l => IR.evOp (.disp ks) l) Q := g
  cases er : IR.evs D.g call xs ρ S with
  | bad => rw [er] at g; exact g.elim
  | exc c fs S2 =>
    rw [er] at g
    have g : GG D.N F μ H (.exc c fs S2 : IR.Res IR.D) (fun _ _ _ _ => True) := g
    exact GG.base e0 g
  | ok ds S2 =>
  rw [er] at g
  have g : GV D.N F μ H (IR.evOp (.disp ks) ds S2) Q := g
  intro μ2 H2 e2 R2 vs rs
  have hp2 : p ∉ μ := R.fresh hp
  have ep : H2 p = some (.dK []) := e2.keep _ _ hp2 upd_same
  have np : p ∉ μ2 := fun z => by
    rcases e2.new _ z with z | z
    · exact hp2 z
    · rw [upd_same] at z; cases z
  refine ⟨ep, (ks.zip vs).map fun q => (Sum.inr (sT q.1), q.2), ?_, ?_, ?_⟩
  · rw [List.map_map]
    have : ∀ (l : List IR.Txt) (vs : List V), (l.map fun t => V.str (sT t)).zip vs = (l.zip vs).map fun q => (V.str (sT q.1), q.2) := fun l vs => by
      rw [List.zip_map_left]; rfl
    rw [this]; rfl
  · simp only [List.length_map, List.length_zip]; omega
  · have rs' := rs.reps h.own
    have hk : mergeK [] ((ks.zip vs).map fun q => ((Sum.inr (sT q.1) : Key), q.2)) = (ks.zip vs).map fun q => (Sum.inr (sT q.1), q.2) := by
      have := merge_new (acc := []) (m := (ks.zip vs).map fun q => ((Sum.inr (sT q.1) : Key), q.2)) ?_
      · simpa using this
      · rw [List.nil_append, List.map_map]
        have e3 : ((ks.zip vs).map ((fun x => x.1) ∘ fun q : IR.Txt × V => ((Sum.inr (sT q.1) : Key), q.2))) = (ks.zip vs).map fun q => (Sum.inr (sT q.1) : Key) := rfl
        rw [e3]
        have hl : ks.length = vs.length := by rw [← h.len.1, rs.length.2]
        have e4 : (ks.zip vs).map (fun q => (Sum.inr (sT q.1) : Key)) = ks.map fun t => Sum.inr (sT t) := by
          rw [← List.map_fst_zip (l₁ := ks) (l₂ := vs) (by omega), List.map_map]
          rw [List.map_fst_zip (by omega)]
          rfl
        rw [e4]
        exact List.Pairwise.map (fun t => (Sum.inr (sT t) : Key)) (fun a b hab e => hab (sT_inj (by simpa using e))) hn
    rw [hk]
    have ne : ∀ a o, H a = some o → a ≠ p := fun a o z => ne_of_none z hp
    have up : ∀ a o, H a = some o → (upd H p (.dK [])) a = some o := fun a o z => by rw [upd_ne (ne a o z)]; exact z
    have ex : Ext μ H (μ2 ++ [p]) (upd H2 p (.dK ((ks.zip vs).map fun q => (Sum.inr (sT q.1), q.2)))) := by
      refine ⟨e2.pre.trans (List.prefix_append _ _), fun a ha => ?_, fun a o ha z => ?_, fun a o z => ?_, fun a o u z => ?_⟩
      · rcases List.mem_append.mp ha with ha | ha
        · rcases e2.new a ha with z | z
          · exact .inl z
          · by_cases ea : a = p
            · subst ea; exact .inr hp
            · rw [upd_ne ea] at z; exact .inr z
        · rw [List.mem_singleton.mp ha]; exact .inr hp
      · rw [upd_ne (ne _ _ z)]; exact e2.keep _ _ ha (up _ _ z)
      · rw [upd_ne (ne _ _ z)]; exact e2.tup _ _ (up _ _ z)
      · rw [upd_ne (ne _ _ z)]; exact e2.frz _ _ _ (up _ _ z)
    have w2 : WExt μ2 H2 μ2 (upd H2 p (.dK ((ks.zip vs).map fun q => (Sum.inr (sT q.1), q.2)))) :=
      ⟨List.prefix_refl _, fun a us z => by rw [upd_ne (fun e => by rw [e, ep] at z; cases z)]; exact z, fun a q us z => by rw [upd_ne (fun e => by rw [e, ep] at z; cases z)]; exact z, fun a q us z => by rw [upd_ne (fun e => by rw [e, ep] at z; cases z)]; exact z⟩
    have R3 : Rel D.N μ2 S2 (upd H2 p (.dK ((ks.zip vs).map fun q => (Sum.inr (sT q.1), q.2)))) :=
      ⟨R2.len, R2.nd, fun i q a h1 h2 => (R2.ob i q a h1 h2).mono w2 (upd_ne fun z => by rw [← z] at np; exact np (List.mem_of_getElem? h2))⟩
    refine g (μ2 ++ [p]) _ ex (R3.add np ⟨_, upd_same, ((kr_disp rs').mono w2).mono .add⟩) (.ref p) (Rep.ref ?_) fun _ _ z => nomatch z
    rw [← R2.len]; simp
end
end IRS

namespace IRS
open PySem PySem.Spec PyProof.Rows L2
section
variable {D : Wd} {X : Cx} {c : Ctx} {k : Nat} {F : Fm} {pos : Pos} {a b e o tg : Expr} {es : List Expr} {call : Nat → List IR.D → IR.M IR.D} {x y z : IR.E} {p apos cpos tpos : Pos} {mname : List (Str × Nat)} {n : Str}
theorem e_join (C : Cm D X c k F) (ho : PE X o (tV D F call x)) (ha : PE X e (tV D F call y)) (hs : A1 e X) (hbase : attributeBase o ("join" : Str) X.env (eval o X.env) = eval o X.env) (hline : (apos.endLine == pos.line) = true) :
    PE X (.Call (.Attribute o ("join" : Str) apos) [e] [] pos) (tV D F call (.bm .join x (.cons false y .nil))) :=
  s_bm C (kd := 3) (r := rJoin X.K) PySem.F.plainAttrs_str PySem.F.slot_str_join PySem.F.type_str_join mt_join rfl ho (s_cons ha s_nil hs) (fun R rd rs g => by
    cases rs with
    | cons r1 rr => cases rr; rw [C.K]; exact o_join R rd r1 g) hbase (by rw [hs]; rfl) hline hs rfl
theorem e_indexS (C : Cm D X c k F) (ho : PE X o (tV D F call x)) (ha : PE X e (tV D F call y)) (hs : A1 e X) (hbase : attributeBase o ("index" : Str) X.env (eval o X.env) = eval o X.env) (hline : (apos.endLine == pos.line) = true) :
    PE X (.Call (.Attribute o ("index" : Str) apos) [e] [] pos) (tV D F call (.bm .indexS x (.cons false y .nil))) :=
  s_bm C (kd := 3) (r := rIndexS) PySem.F.plainAttrs_str PySem.F.slot_str_index PySem.F.type_str_index mt_indexS rfl ho (s_cons ha s_nil hs) (fun {μ S H Q d v ds vs} R rd rs g => by
    cases rs with
    | cons r1 rr =>
      cases rr
      cases d with
      | str s => exact o_indexS R rd r1 g
      | _ => exact g.elim) hbase (by rw [hs]; rfl) hline hs rfl
/-! ### a def out of a list, called -/
/-- every def that may be a value -/
def FnsAt (D : Wd) (k : Nat) (call : Nat → List IR.D → IR.M IR.D) : Prop := ∀ i f, D.N.fnA i = some f → ∃ np fd ps, FnAt D k (call i) i np f fd ps ∧ ∀ l S, l.length ≠ np → call i l S = .bad
theorem call_sub {func e : Expr} {args : List Expr} {q : Pos} (env : Env) : eval (.Call (.Subscript func e q) args [] pos) env = (do callWith pos (← eval (.Subscript func e q) env) [] (backTo pos (starEach args env)) (backToKw pos (keywordEach [] env))) := rfl
theorem e_callv {q : Pos} {xs : IR.Es} (C : Cm D X c k F) (A : FnsAt D k call) (hf : PE X (.Subscript a b q) (tV D F call x)) (ha : PA X (e :: es) (tAs D F call xs)) (ho : ∀ o ∈ esOwn xs, o = true)
    (he : starEach (e :: es) X.env = (false, eval e X.env) :: starEach es X.env) (hpl : (backTo pos (starEach es X.env)).any (·.1) = false) (hh : c.hot = false := by rfl) :
    PE X (.Call (.Subscript a b q) (e :: es) [] pos) (tV D F call (.callv x xs)) := by
  refine ⟨fun pins s σ H Q I h => ?_⟩
  rw [call_sub]
  obtain ⟨μ, S, ρ, hI, R, hρ, g⟩ := h
  refine wpAny_bind (thn (hf.run pins s σ H (fun v H1 => ∃ f i μ1 S1, v = .ref f ∧ D.N.fnA i = some f ∧ Ext μ H μ1 H1 ∧ Rel D.N μ1 S1 H1 ∧ GV D.N F μ1 H1 (((IR.evs D.g call xs ρ).bind fun l => call i l) S1) Q) I ?_) fun u s1 ⟨v, H1, I1, r1, f, i, μ1, S1, ev, hfn, e1, R1, g1⟩ => ?_)
  · refine one' (f := fun d => match d with | .fn i => (IR.evs D.g call xs ρ).bind fun l => call i l | _ => IR.M.bad) hI R hρ g fun μ1 S1 H1 d v e1 R1 rd _ g1 => ?_
    cases d with
    | fn i =>
      cases rd with
      | fn hfn => exact ⟨_, i, μ1, S1, rfl, hfn, e1, R1, GV.base e1 g1⟩
    | _ => exact g1.elim
  · subst ev
    cases r1
    obtain ⟨np, fd, ps, Af, hbad⟩ := A i f hfn
    have ok : FnOk X.prog X.w X.K X.mg X.base (L2.CX X.prog X.w) k f fd ps (spOf D.N (call i) np) := by rw [C.prog, C.w, C.K, C.mg, C.base]; exact Af.ok
    refine PySem.W.callWith_K (h₀ := X.base) I1.ok.mod.kin (by rw [C.K]; exact Af.kp) (thn (ha.run pos pins s1 σ H1 (fun vs H2 => spOf D.N (call i) np vs H2 Q (WE F.W σ)) I1 ?_) fun us s2 ⟨vs, H2, I2, r, q⟩ => ⟨I2.kIn, run_fnS ok (C.room hh) (by rw [C.K]; exact Af.bi) (passAt C.tk σ) I2 r q⟩) he hpl
    refine argsG (f := fun l => call i l) hI R1 (hρ.mono e1.w) g1 fun μ2 S2 H2 ds vs _ R2 rs g2 => ?_
    by_cases hl : ds.length = np
    · exact ⟨by rw [rs.length.2, ← rs.length.1]; exact hl, μ2, S2, ds, R2, rs.reps ho, gv_call hI g2⟩
    · rw [hbad ds S2 hl] at g2; exact g2.elim
/-- a def that is a value, and how many it takes -/
theorem callD_len {g : IR.G} {n i : Nat} {l : List IR.D} {S : IR.Sto} {d : IR.Fn} (h : g.fns i = some d) (hl : l.length ≠ d.np) : IR.callD g n i l S = .bad := by
  cases n with
  | zero => rw [IR.callD_z]; rfl
  | succ n => simp only [IR.callD_s, h, if_neg hl]; rfl
end
end IRS

namespace IRS
open PySem PySem.Spec PyProof.Rows L2
/-! ### expressions that only read -/
inductive Rd' : IR.E → Prop
  | var (i : Nat) : Rd' (.var i)
  | c (d : IR.D) : Rd' (.c d)
  | ix {a b : IR.E} : Rd' a → Rd' b → Rd' (.op .ix (.cons false a (.cons false b .nil)))
  | attr {f : Nat} {a : IR.E} : Rd' a → Rd' (.op (.attr f) (.cons false a .nil))
  | neg {a : IR.E} : Rd' a → Rd' (.op .neg (.cons false a .nil))
/-- the same but for locks -/
def Lkd (S S' : IR.Sto) : Prop := ∀ m : Nat, (S'[m]? : Option IR.MO) = S[m]? ∨ (∃ (l l' : Bool) (kvs : List (IR.Ky × IR.D)), S[m]? = some (IR.MO.dK l kvs) ∧ S'[m]? = some (IR.MO.dK l' kvs)) ∨ ∃ (l l' : Bool) (kvs : List (List IR.Ky × IR.D)), S[m]? = some (IR.MO.dT l kvs) ∧ S'[m]? = some (IR.MO.dT l' kvs)
theorem Lkd.refl {S : IR.Sto} : Lkd S S := fun _ => .inl rfl
theorem Lkd.dK {S : IR.Sto} {r : Nat} {l l' : Bool} {kvs : List (IR.Ky × IR.D)} (h : S[r]? = some (.dK l kvs)) : Lkd S (S.set r (.dK l' kvs)) := fun m => by
  by_cases e : r = m
  · subst e
    exact .inr (.inl ⟨l, l', kvs, h, List.getElem?_set_self (List.getElem?_eq_some_iff.mp h).1⟩)
  · exact .inl (List.getElem?_set_ne e)
theorem Lkd.dT {S : IR.Sto} {r : Nat} {l l' : Bool} {kvs : List (List IR.Ky × IR.D)} (h : S[r]? = some (.dT l kvs)) : Lkd S (S.set r (.dT l' kvs)) := fun m => by
  by_cases e : r = m
  · subst e
    exact .inr (.inr ⟨l, l', kvs, h, List.getElem?_set_self (List.getElem?_eq_some_iff.mp h).1⟩)
  · exact .inl (List.getElem?_set_ne e)
theorem Lkd.ixD {S S' : IR.Sto} (h : Lkd S S') (a i : IR.D) : IR.ixD S' a i = IR.ixD S a i := by
  cases a with
  | ref m =>
    rcases h m with e | ⟨l, l', kvs, e1, e2⟩ | ⟨l, l', kvs, e1, e2⟩
    · simp only [IR.ixD, e]
    · simp only [IR.ixD, e1, e2]
    · simp only [IR.ixD, e1, e2]
  | _ => rfl
theorem ix_at {a i : IR.D} {S : IR.Sto} : IR.evOp .ix [a, i] S = IR.val1 (IR.ixD S a i) S := rfl
section
variable {g : IR.G} {call : Nat → List IR.D → IR.M IR.D}
theorem rd_ev {x : IR.E} (h : Rd' x) {ρ : IR.Env} {S S' : IR.Sto} (L : Lkd S S') : (∃ d, IR.ev g call x ρ S = .ok d S ∧ IR.ev g call x ρ S' = .ok d S') ∨ IR.ev g call x ρ S = .bad := by
  induction h with
  | var i =>
    simp only [IR.ev, IR.getVar]
    split
    · exact .inl ⟨_, rfl, rfl⟩
    · exact .inr rfl
  | c d => exact .inl ⟨d, by simp only [IR.ev]; rfl, by simp only [IR.ev]; rfl⟩
  | @ix a b _ _ iha ihb =>
    have e : ∀ T, IR.ev g call (.op .ix (.cons false a (.cons false b .nil))) ρ T = ((IR.ev g call a ρ T).bind fun p => (IR.ev g call b ρ).bind fun q => IR.evOp .ix [p, q]) := fun T => by
      simp only [IR.ev]
      exact evs2
    rw [e S, e S']
    rcases iha with ⟨d, h1, h2⟩ | h1
    · rw [h1, h2]
      show (∃ d_1, ((IR.ev g call b ρ S).bind fun q => IR.evOp .ix [d, q]) = .ok d_1 S ∧ ((IR.ev g call b ρ S').bind fun q => IR.evOp .ix [d, q]) = .ok d_1 S') ∨ ((IR.ev g call b ρ S).bind fun q => IR.evOp .ix [d, q]) = .bad
      rcases ihb with ⟨i, h3, h4⟩ | h3
      · rw [h3, h4]
        show (∃ d_1, IR.evOp .ix [d, i] S = .ok d_1 S ∧ IR.evOp .ix [d, i] S' = .ok d_1 S') ∨ IR.evOp .ix [d, i] S = .bad
        rw [ix_at, ix_at, L.ixD]
        cases IR.ixD S d i with
        | none => exact .inr rfl
        | some y => exact .inl ⟨y, rfl, rfl⟩
      · rw [h3]; exact .inr rfl
    · rw [h1]; exact .inr rfl
  | @attr f a _ iha =>
    have e : ∀ T, IR.ev g call (.op (.attr f) (.cons false a .nil)) ρ T = ((IR.ev g call a ρ T).bind fun p => IR.evOp (.attr f) [p]) := fun T => by
      simp only [IR.ev]
      exact evs1
    rw [e S, e S']
    rcases iha with ⟨d, h1, h2⟩ | h1
    · rw [h1, h2]
      show (∃ d_1, IR.evOp (.attr f) [d] S = .ok d_1 S ∧ IR.evOp (.attr f) [d] S' = .ok d_1 S') ∨ IR.evOp (.attr f) [d] S = .bad
      cases d with
      | ref m =>
        have key : ∀ T, IR.evOp (.attr f) [.ref m] T = match T[m]? with
          | some (.ins _ fs) => IR.val1 (fs.lookup f) T
          | _ => .bad := fun T => rfl
        rw [key, key]
        rcases L m with e | ⟨l, l', kvs, e1, e2⟩ | ⟨l, l', kvs, e1, e2⟩
        · rw [e]
          split
          · rename_i fs _
            cases fs.lookup f with
            | none => exact .inr rfl
            | some y => exact .inl ⟨y, rfl, rfl⟩
          · exact .inr rfl
        · rw [e1]; exact .inr rfl
        · rw [e1]; exact .inr rfl
      | _ => exact .inr rfl
    · rw [h1]; exact .inr rfl
  | @neg a _ iha =>
    have e : ∀ T, IR.ev g call (.op .neg (.cons false a .nil)) ρ T = ((IR.ev g call a ρ T).bind fun p => IR.evOp .neg [p]) := fun T => by
      simp only [IR.ev]
      exact evs1
    rw [e S, e S']
    rcases iha with ⟨d, h1, h2⟩ | h1
    · rw [h1, h2]
      show (∃ d_1, IR.evOp .neg [d] S = .ok d_1 S ∧ IR.evOp .neg [d] S' = .ok d_1 S') ∨ IR.evOp .neg [d] S = .bad
      cases d with
      | int i => exact .inl ⟨_, rfl, rfl⟩
      | _ => exact .inr rfl
    · rw [h1]; exact .inr rfl
end
/-! ### the turns of a dict -/
section
variable {N : Nm} {μ1 : List Addr} {H1 : Hp} {S1 : IR.Sto}
theorem KR.at_ {κ κ' : Type} {f : κ → κ'} : ∀ {r : List (κ × IR.D)} {r' : List (κ' × V)} {i : Nat} {k : κ} {d : IR.D}, KR N μ1 H1 f r r' → r[i]? = some (k, d) → ∃ v, r'[i]? = some (f k, v) ∧ Rep N μ1 H1 d v
  | _, _, i, k, d, .nil, h => by simp at h
  | _, _, 0, k, d, .cons a _, h => by simp at h; obtain ⟨rfl, rfl⟩ := h; exact ⟨_, rfl, a⟩
  | _, _, i + 1, k, d, .cons _ r, h => by simpa using KR.at_ (i := i) r (by simpa using h)
theorem rep_ky (k : IR.Ky) : Rep N μ1 H1 k.d (kV (kyK k)) := by
  cases k with
  | inl i => exact .int i
  | inr t => exact .str t
theorem reps_kys : ∀ ks : List IR.Ky, Reps N μ1 H1 (ks.map IR.Ky.d) ((ks.map kyK).map kV)
  | [] => .nil
  | k :: ks => .cons (rep_ky k) (reps_kys ks)
variable {a : Addr} {o : Obj}
theorem fol_items {kvs : List (IR.Ky × IR.D)} {r : List (Key × V)} (h1 : H1 a = some (.frz o (.dK r))) (h2 : KR N μ1 H1 kyK kvs r) : Fol N μ1 H1 (Iti a o r) (kvs.map fun p => if false then p.2 else .tup [p.1.d, p.2]) := by
  intro μ' S' H' e R i
  have h1' := e.frz _ _ _ h1
  refine ⟨fun d hd => ?_, fun hi => ⟨h1', by rw [← h2.length]; simpa using hi⟩⟩
  rw [List.getElem?_map] at hd
  obtain ⟨⟨k, dv⟩, hk, rfl⟩ := Option.map_eq_some_iff.mp hd
  obtain ⟨v, hv, q⟩ := h2.at_ hk
  refine ⟨⟨h1', (List.getElem?_eq_some_iff.mp hv).1⟩, fun x H'' y => ?_⟩
  obtain ⟨T, k', v', e1, rfl, hT, rfl⟩ := y
  rw [hv] at e1; cases e1
  refine ⟨Ext.laid hT, R.laid hT, ?_⟩
  exact .tup upd_same (.cons (rep_ky k) (.cons ((q.mono e.w).mono (Ext.laid hT).w) .nil))
theorem fol_vals {kvs : List (IR.Ky × IR.D)} {r : List (Key × V)} (h1 : H1 a = some (.frz o (.dK r))) (h2 : KR N μ1 H1 kyK kvs r) : Fol N μ1 H1 (Itd a o r) (kvs.map fun p => if true then p.2 else .tup [p.1.d, p.2]) := by
  intro μ' S' H' e R i
  have h1' := e.frz _ _ _ h1
  refine ⟨fun d hd => ?_, fun hi => ⟨h1', by rw [← h2.length]; simpa using hi⟩⟩
  rw [List.getElem?_map] at hd
  obtain ⟨⟨k, dv⟩, hk, rfl⟩ := Option.map_eq_some_iff.mp hd
  obtain ⟨v, hv, q⟩ := h2.at_ hk
  refine ⟨⟨h1', (List.getElem?_eq_some_iff.mp hv).1⟩, fun x H'' y => ?_⟩
  obtain ⟨rfl, k', e1⟩ := y
  rw [hv] at e1; cases e1
  exact ⟨Ext.refl _ _, R, q.mono e.w⟩
theorem fol_keysT {kvs : List (List IR.Ky × IR.D)} {r : List (List Key × V)} (h1 : H1 a = some (.frz o (.dT r))) (h2 : KR N μ1 H1 (·.map kyK) kvs r) : Fol N μ1 H1 (Itkt a o r) (kvs.map fun p => .tup (p.1.map IR.Ky.d)) := by
  intro μ' S' H' e R i
  have h1' := e.frz _ _ _ h1
  refine ⟨fun d hd => ?_, fun hi => ⟨h1', by rw [← h2.length]; simpa using hi⟩⟩
  rw [List.getElem?_map] at hd
  obtain ⟨⟨k, dv⟩, hk, rfl⟩ := Option.map_eq_some_iff.mp hd
  obtain ⟨v, hv, q⟩ := h2.at_ hk
  refine ⟨⟨h1', (List.getElem?_eq_some_iff.mp hv).1⟩, fun x H'' y => ?_⟩
  obtain ⟨rfl, k', v', t, e1, rfl, ht⟩ := y
  rw [hv] at e1; cases e1
  exact ⟨Ext.refl _ _, R, .tup ht (reps_kys k)⟩
end
/-! ### locks -/
section
variable {N : Nm} {W : Fm} {μ μ2 : List Addr} {S S2 : IR.Sto} {H H2 : Hp} {p : Addr} {od : Obj} {u : HO} {n : Nat}
theorem w_unl (h : H2 p = some (.frz od u)) (hu : (∀ xs, u ≠ .lst xs) ∧ ∀ r, u ≠ .xd r) : WExt μ2 H2 μ2 (upd H2 p u) :=
  ⟨List.prefix_refl _, fun a us z => by rw [upd_ne (fun e => by rw [e, h] at z; cases z)]; exact z,
   fun a q us z => by rw [upd_ne (fun e => by rw [e, h] at z; cases z; exact hu.1 _ rfl)]; exact z,
   fun a q us z => by rw [upd_ne (fun e => by rw [e, h] at z; cases z; exact hu.2 _ rfl)]; exact z⟩
theorem e_unl (h0 : H p = some u) (hp : p ∈ μ) (hu : (∀ vs, u ≠ .tup vs) ∧ ∀ o w, u ≠ .frz o w) (e : Ext μ (upd H p (.frz od u)) μ2 H2) : Ext μ H μ2 (upd H2 p u) := by
  have ne : ∀ a o, H a = some o → a ≠ p → (upd H p (.frz od u)) a = some o := fun a o z n => by rw [upd_ne n]; exact z
  refine ⟨e.pre, fun a ha => ?_, fun a o ha z => ?_, fun a o z => ?_, fun a o w z => ?_⟩
  · rcases e.new a ha with z | z
    · exact .inl z
    · by_cases ea : a = p
      · exact .inl (ea ▸ hp)
      · rw [upd_ne ea] at z; exact .inr z
  · have n : a ≠ p := fun x => ha (x ▸ hp)
    rw [upd_ne n]; exact e.keep _ _ ha (ne _ _ z n)
  · have n : a ≠ p := fun x => by rw [x, h0] at z; exact hu.1 _ (Option.some.inj z)
    rw [upd_ne n]; exact e.tup _ _ (ne _ _ z n)
  · have n : a ≠ p := fun x => by rw [x, h0] at z; exact hu.2 _ _ (Option.some.inj z)
    rw [upd_ne n]; exact e.frz _ _ _ (ne _ _ z n)
theorem r_unl (R : Rel N μ2 S2 H2) {q : IR.MO} (hn : μ2[n]? = some p) (h : H2 p = some (.frz od u)) (hu : (∀ xs, u ≠ .lst xs) ∧ ∀ r, u ≠ .xd r) (hq : ObAt N μ2 (upd H2 p u) p q) : Rel N μ2 (S2.set n q) (upd H2 p u) := R.write hn hq (w_unl h hu)
theorem v_unl {d : IR.D} {v : V} (hp : p ∈ μ2) (w : WExt μ2 H2 μ2 (upd H2 p u)) (r : RepV N μ2 H2 d v) : RepV N μ2 (upd H2 p u) d v := by
  cases d with
  | tl l =>
    obtain ⟨a, vs, e, h1, h2, h3⟩ := r
    exact ⟨a, vs, e, by rw [upd_ne (fun z => by rw [z] at h2; exact h2 hp)]; exact h1, h2, h3.mono w⟩
  | _ => exact Rep.mono w r
/-- what unlocking gives -/
theorem unl {α : Type} {fl : α} {K : α → IR.Sto → List Addr → Hp → Prop} (h0 : H p = some u) (hp : μ[n]? = some p) (hd : (∃ r, u = .dK r) ∨ ∃ r, u = .dT r) (e : Ext μ (upd H p (.frz od u)) μ2 H2) (R : Rel N μ2 S2 H2)
    (g : GG N W μ H ((IR.unlock n S2).bind fun _ => IR.M.pure fl) K) : H2 p = some (.frz od u) ∧ WExt μ2 H2 μ2 (upd H2 p u) ∧ p ∈ μ2 ∧ ∃ S3, K fl S3 μ2 (upd H2 p u) := by
  have h2 := e.frz p od u upd_same
  have hn := prefix_get e.pre hp
  have hm := List.mem_of_getElem? hp
  have hu1 : (∀ xs, u ≠ .lst xs) ∧ ∀ r, u ≠ .xd r := by rcases hd with ⟨r, rfl⟩ | ⟨r, rfl⟩ <;> exact And.intro (fun _ z => by cases z) (fun _ z => by cases z)
  have hu2 : (∀ vs, u ≠ .tup vs) ∧ ∀ o w, u ≠ .frz o w := by rcases hd with ⟨r, rfl⟩ | ⟨r, rfl⟩ <;> exact And.intro (fun _ z => by cases z) (fun _ _ z => by cases z)
  have w := w_unl (μ2 := μ2) h2 hu1
  refine ⟨h2, w, List.mem_of_getElem? hn, ?_⟩
  have ex := e_unl h0 hm hu2 e
  cases hs : S2[n]? with
  | none => rw [show IR.unlock n S2 = .bad by simp [IR.unlock, hs]] at g; exact g.elim
  | some q =>
    have ob := R.ob n q p hs hn
    cases q with
    | dK lk kvs =>
      cases lk with
      | false => rw [show IR.unlock n S2 = .bad by simp [IR.unlock, hs]] at g; exact g.elim
      | true =>
        rw [show IR.unlock n S2 = .ok () (S2.set n (.dK false kvs)) by simp [IR.unlock, hs]] at g
        obtain ⟨o', r', z, kr⟩ := ob
        rw [h2] at z; cases z
        exact ⟨_, g μ2 _ ex (r_unl R hn h2 hu1 ⟨r', upd_same, kr.mono w⟩)⟩
    | dT lk kvs =>
      cases lk with
      | false => rw [show IR.unlock n S2 = .bad by simp [IR.unlock, hs]] at g; exact g.elim
      | true =>
        rw [show IR.unlock n S2 = .ok () (S2.set n (.dT false kvs)) by simp [IR.unlock, hs]] at g
        obtain ⟨o', r', z, kr⟩ := ob
        rw [h2] at z; cases z
        exact ⟨_, g μ2 _ ex (r_unl R hn h2 hu1 ⟨r', upd_same, kr.mono w⟩)⟩
    | _ => rw [show IR.unlock n S2 = .bad by simp [IR.unlock, hs]] at g; exact g.elim
end
end IRS

namespace IRS
open PySem PySem.Spec PyProof.Rows L2
section
variable {D : Wd} {X : Cx} {c : Ctx} {k : Nat} {F : Fm} {pos : Pos} {a b e o tg elt iter : Expr} {es : List Expr} {call : Nat → List IR.D → IR.M IR.D} {x y z : IR.E} {scope : Scope} {p apos cpos tpos : Pos} {mname : List (Str × Nat)} {n : Str}
theorem PS.or {X : Cx} {st : Stmt} {t t' : TS} (h : PS X st t) (h' : PS X st t') : PS X st (fun E σ H => t E σ H ∨ t' E σ H) := ⟨fun pins s σ H E I q => q.elim (h.run pins s σ H E I) (h'.run pins s σ H E I)⟩
/-- the turns of a for over items told ahead -/
theorem for_st {t : IR.Tg} {gt : TG} {bd : IR.Ss} (ht : TgOk D X F tg t gt) {l : List IR.D} {J : It} {μ1 : List Addr} {S1 : IR.Sto} {H1 : Hp} {ρ : IR.Env} {σ : L2.St} {E : Ends} (hI : F.I σ) (R1 : Rel D.N μ1 S1 H1) (hρ1 : RSt D.N μ1 H1 ρ σ) (hJ : Fol D.N μ1 H1 J l)
    (g1 : GG D.N F μ1 H1 (IR.forSt (fun x ρ => (IR.setTg t ρ x).bind fun ρ' => IR.exs D.g call bd ρ') l ρ S1) (KF D.N F E H1)) :
    ∃ W : Nat → Nat → L2.St → Hp → Prop, (∃ m, W 0 m σ H1) ∧ ∀ i m σ H, W i m σ H →
      (J.stop i H ∧ E.nx σ H) ∨ (J.go i H ∧ ∃ Nx : L2.St → Hp → Prop, (∀ σ' H', Nx σ' H' → ∃ m', m' < m ∧ W (i + 1) m' σ' H') ∧ ∀ x H', J.yld i H x H' → gt x σ H' fun σ2 H2 => tSs D F call bd { E with nx := Nx, ct := Nx, bk := E.nx } σ2 H2) := by
  have turn : ∀ {μ2 S2 H2 σ2 ρ2 d x H3} {rest : IR.Env → IR.M IR.Flow} {Nx : L2.St → Hp → Prop}, F.I σ2 → RSt D.N μ2 H2 ρ2 σ2 → Ext μ2 H2 μ2 H3 → Rel D.N μ2 S2 H3 → Rep D.N μ2 H3 d x →
      GG D.N F μ2 H2 ((((IR.setTg t ρ2 d).bind fun ρ' => IR.exs D.g call bd ρ').bind (fun fl => match fl with
        | .next ρ' => rest ρ'
        | .cnt ρ' => rest ρ'
        | .brk ρ' => IR.M.pure (.next ρ')
        | .ret d => IR.M.pure (.ret d))) S2) (KF D.N F E H2) →
      (∀ μ4 S4 H4 σ4 ρ4, F.I σ4 → Rel D.N μ4 S4 H4 → RSt D.N μ4 H4 ρ4 σ4 → Ext μ2 H2 μ4 H4 → GG D.N F μ4 H4 (rest ρ4 S4) (KF D.N F E H4) → Nx σ4 H4) →
      gt x σ2 H3 fun σ5 H5 => tSs D F call bd { E with nx := Nx, ct := Nx, bk := E.nx } σ5 H5 := by
    intro μ2 S2 H2 σ2 ρ2 d x H3 rest Nx hI2 hρ2 e3 R3 rd g2 hNx
    rw [IR.M.bind_assoc] at g2
    have g3 := KF.base e3 g2
    refine ht.ok hI2 R3 (hρ2.mono e3.w) rd ?_
    refine GG.imp (GG.bind (show GG D.N F μ2 H3 ((IR.setTg t ρ2 d S2).bind _) (KF D.N F E H3) from g3)) fun ρ5 S5 μ5 H5 e5 R5 g5 σ5 hI5 hρ5 _ => ?_
    have g5 := KF.base' e5 g5
    refine ⟨μ5, S5, ρ5, hI5, R5, hρ5, ?_⟩
    refine GG.imp (GG.bind (show GG D.N F μ5 H5 ((IR.exs D.g call bd ρ5 S5).bind _) (KF D.N F E H5) from g5)) fun fl S6 μ6 H6 e6 R6 g6 => ?_
    cases fl with
    | next ρ6 => exact fun σ6 hI6 hρ6 => hNx μ6 S6 H6 σ6 ρ6 hI6 R6 hρ6 ((e3.trans e5).trans e6) (KF.base' e6 g6)
    | cnt ρ6 => exact fun σ6 hI6 hρ6 => hNx μ6 S6 H6 σ6 ρ6 hI6 R6 hρ6 ((e3.trans e5).trans e6) (KF.base' e6 g6)
    | brk ρ6 => exact fun σ6 hI6 hρ6 => g6 μ6 H6 (Ext.refl _ _) R6 σ6 hI6 hρ6
    | ret d => exact g6 μ6 H6 (Ext.refl _ _) R6
  refine ⟨fun i m σ H => m = l.length - i ∧ i ≤ l.length ∧ ∃ μ' S' ρ', F.I σ ∧ Rel D.N μ' S' H ∧ RSt D.N μ' H ρ' σ ∧ Ext μ1 H1 μ' H ∧ GG D.N F μ' H (IR.forSt (fun x ρ => (IR.setTg t ρ x).bind fun ρ' => IR.exs D.g call bd ρ') (l.drop i) ρ' S') (KF D.N F E H),
    ⟨_, rfl, Nat.zero_le _, μ1, S1, ρ, hI, R1, hρ1, Ext.refl _ _, g1⟩, ?_⟩
  rintro i m' σ2 H2 ⟨rfl, hi2, μ2, S2, ρ2, hI2, R2, hρ2, e2, g2⟩
  obtain ⟨go, stop⟩ := hJ μ2 S2 H2 e2 R2 i
  by_cases hlt : i < l.length
  · obtain ⟨h1, h2⟩ := go l[i] (List.getElem?_eq_getElem hlt)
    rw [List.drop_eq_getElem_cons hlt] at g2
    refine .inr ⟨h1, _, fun σ' H' w => ⟨l.length - (i + 1), by omega, w⟩, fun x H3 y => ?_⟩
    obtain ⟨e3, R3, rd⟩ := h2 x H3 y
    exact turn hI2 hρ2 e3 R3 rd g2 fun μ4 S4 H4 σ4 ρ4 hI4 R4 hρ4 e4 g4 => ⟨rfl, hlt, μ4, S4, ρ4, hI4, R4, hρ4, e2.trans e4, g4⟩
  · have e : i = l.length := by omega
    subst e
    rw [List.drop_length] at g2
    exact .inl ⟨stop (Nat.le_refl _), g2 μ2 H2 (Ext.refl _ _) R2 σ2 hI2 hρ2⟩
/-- the ends of a locked walk -/
abbrev lkE (p : Addr) (od : Obj) (u : HO) (E : Ends) : Ends := ⟨fun σ' H' => H' p = some (.frz od u) ∧ E.nx σ' (upd H' p u), fun v H' => H' p = some (.frz od u) ∧ E.rt v (upd H' p u), fun σ' H' => H' p = some (.frz od u) ∧ E.bk σ' (upd H' p u), fun σ' H' => H' p = some (.frz od u) ∧ E.ct σ' (upd H' p u)⟩
/-- a walk under a lock, told by the walk and the unlocking -/
theorem gg_lock {E : Ends} {μ μ1 : List Addr} {H H1 : Hp} {pa : Addr} {od : Obj} {u : HO} {r : Nat} {m : IR.M IR.Flow} {T : IR.Sto} (h0 : H pa = some u) (hp : μ[r]? = some pa) (hd : (∃ r, u = .dK r) ∨ ∃ r, u = .dT r) (e1 : Ext μ (upd H pa (.frz od u)) μ1 H1)
    (g : GG D.N F μ H ((IR.noExc m T).bind fun fl => (IR.unlock r).bind fun _ => IR.M.pure fl) (KF D.N F E H)) : GG D.N F μ1 H1 (m T) (KF D.N F (lkE pa od u E) H1) := by
  unfold IR.noExc at g
  cases em : m T with
  | bad => rw [em] at g; exact g.elim
  | exc c fs S => rw [em] at g; exact g.elim
  | ok fl S2 =>
    rw [em] at g
    intro μ2 H2 e2 R2
    have g : GG D.N F μ H ((IR.unlock r S2).bind fun _ => IR.M.pure fl) (KF D.N F E H) := g
    obtain ⟨h2, w, hm, S3, kk⟩ := unl h0 hp hd (e1.trans e2) R2 g
    cases fl with
    | next ρ' => exact fun σ' hI hρ => ⟨h2, kk σ' hI (hρ.mono w)⟩
    | brk ρ' => exact fun σ' hI hρ => ⟨h2, kk σ' hI (hρ.mono w)⟩
    | cnt ρ' => exact fun σ' hI hρ => ⟨h2, kk σ' hI (hρ.mono w)⟩
    | ret d =>
      intro v rv tm
      refine ⟨h2, kk v (v_unl hm w rv) fun l a ed ev => ?_⟩
      have hn := tm l a ed ev
      subst ed; subst ev
      obtain ⟨_, _, z, h3, h4, _⟩ := rv
      cases z
      have hpm := List.mem_of_getElem? hp
      have e12 := e1.trans e2
      cases ea : H a with
      | none => rfl
      | some o =>
        exfalso
        have nm : a ∉ μ := fun z => h4 (e12.pre.subset z)
        have na : a ≠ pa := fun z => nm (z ▸ hpm)
        have : (upd H pa (.frz od u)) a = some o := by rw [upd_ne na]; exact ea
        rw [e1.keep _ _ nm this] at hn
        cases hn
/-- a kind of walk over a dict: how the small language begins it, how the model does -/
abbrev PPt := V → Hp → (It → Prop) → Prop
abbrev tiP (te : TE) (PP : PPt) : TI := fun σ H R => te σ H fun x H1 => PP x H1 fun J => R J H1
structure KD (N : Nm) (src : IR.D → IR.M IR.Src) (PP : PPt) : Prop where
  only : ∀ d S, (∃ r, d = .ref r) ∨ src d S = .bad
  go : ∀ {μ S H r}, Rel N μ S H → src (.ref r) S = .bad ∨
    (∃ u pa l q1, μ[r]? = some pa ∧ H pa = some u ∧ Mut (some u) ∧ ((∃ r, u = .dK r) ∨ ∃ r, u = .dT r) ∧ src (.ref r) S = .ok (.dk r l) (S.set r q1) ∧ Lkd S (S.set r q1) ∧
      ∀ od, WExt μ H μ (upd H pa (.frz od u)) → ObAt N μ (upd H pa (.frz od u)) pa q1 ∧ ∀ μ1 H1, Ext μ (upd H pa (.frz od u)) μ1 H1 → ∃ J, Fol N μ1 H1 J l ∧ ∀ r : It → Prop, r J → PP (.ref pa) H1 r) ∨
    ∃ pa l, μ[r]? = some pa ∧ src (.ref r) S = .ok (.st l) S ∧ ∀ μ1 H1, Ext μ H μ1 H1 → ∃ J, Fol N μ1 H1 J l ∧ ∀ r : It → Prop, r J → PP (.ref pa) H1 r
def ppI : PPt := fun x H1 r => ∃ d o kvs, x = .ref d ∧ H1 d = some (.frz o (.dK kvs)) ∧ r (Iti d o kvs)
def ppV : PPt := fun x H1 r => ∃ d o kvs, x = .ref d ∧ H1 d = some (.frz o (.dK kvs)) ∧ r (Itd d o kvs)
def ppK : PPt := fun x H1 r => ∃ d o, x = .ref d ∧ ((∃ kvs, H1 d = some (.frz o (.dK kvs)) ∧ r (Itk d o kvs)) ∨ ∃ kvs, H1 d = some (.frz o (.dT kvs)) ∧ r (Itkt d o kvs))
theorem kd_items {N : Nm} : KD N (IR.srcItems false) ppI where
  only := fun d S => by cases d <;> first | exact .inl ⟨_, rfl⟩ | exact .inr rfl
  go := fun {μ S H r} R => by
    cases hr : S[r]? with
    | none => exact .inl (by simp [IR.srcItems, hr])
    | some ob =>
      cases ob with
      | dK lk kvs =>
        cases lk with
        | false =>
          obtain ⟨pa, hpa, r', h1, kr⟩ := R.at hr
          refine .inr (.inl ⟨.dK r', pa, (kvs.map fun p => if false then p.2 else .tup [p.1.d, p.2]), .dK true kvs, hpa, h1, trivial, .inl ⟨_, rfl⟩, by unfold IR.srcItems; dsimp only; rw [hr], Lkd.dK hr, fun od w => ⟨⟨od, r', upd_same, kr.mono w⟩, fun μ1 H1 e1 => ?_⟩⟩)
          have hf := e1.frz _ _ _ (upd_same (H := H) (a := pa) (o := .frz od (.dK r')))
          exact ⟨_, fol_items hf ((kr.mono w).mono e1.w), fun r hr => ⟨_, _, _, rfl, hf, hr⟩⟩
        | true =>
          obtain ⟨pa, hpa, od, r', h1, kr⟩ := R.at hr
          exact .inr (.inr ⟨pa, (kvs.map fun p => if false then p.2 else .tup [p.1.d, p.2]), hpa, by unfold IR.srcItems; dsimp only; rw [hr], fun μ1 H1 e1 => ⟨_, fol_items (e1.frz _ _ _ h1) (kr.mono e1.w), fun r hr => ⟨_, _, _, rfl, e1.frz _ _ _ h1, hr⟩⟩⟩)
      | _ => exact .inl (by simp [IR.srcItems, hr])
theorem kd_vals {N : Nm} : KD N (IR.srcItems true) ppV where
  only := fun d S => by cases d <;> first | exact .inl ⟨_, rfl⟩ | exact .inr rfl
  go := fun {μ S H r} R => by
    cases hr : S[r]? with
    | none => exact .inl (by simp [IR.srcItems, hr])
    | some ob =>
      cases ob with
      | dK lk kvs =>
        cases lk with
        | false =>
          obtain ⟨pa, hpa, r', h1, kr⟩ := R.at hr
          refine .inr (.inl ⟨.dK r', pa, (kvs.map fun p => if true then p.2 else .tup [p.1.d, p.2]), .dK true kvs, hpa, h1, trivial, .inl ⟨_, rfl⟩, by unfold IR.srcItems; dsimp only; rw [hr], Lkd.dK hr, fun od w => ⟨⟨od, r', upd_same, kr.mono w⟩, fun μ1 H1 e1 => ?_⟩⟩)
          have hf := e1.frz _ _ _ (upd_same (H := H) (a := pa) (o := .frz od (.dK r')))
          exact ⟨_, fol_vals hf ((kr.mono w).mono e1.w), fun r hr => ⟨_, _, _, rfl, hf, hr⟩⟩
        | true =>
          obtain ⟨pa, hpa, od, r', h1, kr⟩ := R.at hr
          exact .inr (.inr ⟨pa, (kvs.map fun p => if true then p.2 else .tup [p.1.d, p.2]), hpa, by unfold IR.srcItems; dsimp only; rw [hr], fun μ1 H1 e1 => ⟨_, fol_vals (e1.frz _ _ _ h1) (kr.mono e1.w), fun r hr => ⟨_, _, _, rfl, e1.frz _ _ _ h1, hr⟩⟩⟩)
      | _ => exact .inl (by simp [IR.srcItems, hr])
theorem kd_keysT {N : Nm} : KD N IR.srcKeysT ppK where
  only := fun d S => by cases d <;> first | exact .inl ⟨_, rfl⟩ | exact .inr rfl
  go := fun {μ S H r} R => by
    cases hr : S[r]? with
    | none => exact .inl (by simp [IR.srcKeysT, hr])
    | some ob =>
      cases ob with
      | dT lk kvs =>
        cases lk with
        | false =>
          obtain ⟨pa, hpa, r', h1, kr⟩ := R.at hr
          refine .inr (.inl ⟨.dT r', pa, (kvs.map fun p => .tup (p.1.map IR.Ky.d)), .dT true kvs, hpa, h1, trivial, .inr ⟨_, rfl⟩, by unfold IR.srcKeysT; dsimp only; rw [hr], Lkd.dT hr, fun od w => ⟨⟨od, r', upd_same, kr.mono w⟩, fun μ1 H1 e1 => ?_⟩⟩)
          have hf := e1.frz _ _ _ (upd_same (H := H) (a := pa) (o := .frz od (.dT r')))
          exact ⟨_, fol_keysT hf ((kr.mono w).mono e1.w), fun r hr => ⟨_, _, rfl, .inr ⟨_, hf, hr⟩⟩⟩
        | true =>
          obtain ⟨pa, hpa, od, r', h1, kr⟩ := R.at hr
          exact .inr (.inr ⟨pa, (kvs.map fun p => .tup (p.1.map IR.Ky.d)), hpa, by unfold IR.srcKeysT; dsimp only; rw [hr], fun μ1 H1 e1 => ⟨_, fol_keysT (e1.frz _ _ _ h1) (kr.mono e1.w), fun r hr => ⟨_, _, rfl, .inr ⟨_, e1.frz _ _ _ h1, hr⟩⟩⟩⟩)
      | _ => exact .inl (by simp [IR.srcKeysT, hr])
theorem st_walkD {t : IR.Tg} {gt : TG} {it : Expr} {body : List Stmt} {bd : IR.Ss} {src : IR.D → IR.M IR.Src} {PP : PPt} {IT : IR.E → IR.It} (K : KD D.N src PP) (hIT : ∀ ρ, IR.evIt D.g call (IT x) ρ = (IR.ev D.g call x ρ).bind src) (hx : Rd' x) (P : PI X tg it (tiP (tV D F call x) PP))
    (hp : PassesOwn (model X.prog X.w) X.A X.env X.xe) (C : Cm D X c k F) (ht : TgOk D X F tg t gt) (hb : PSs X body (tSs D F call bd)) (hs : ∀ v, foldedSetIterable it X.env v = pure v) (hh : c.hot = false := by rfl) :
    PS X (.For tg it body [] pos) (tSt D F call (.for_ (IT x) t bd)) := by
  have Q := ps_for hp (C.calm hh) P ht.pg hb hs (pos := pos)
  refine PS.weak (PS.or (ps_lock Q) Q) fun E σ H q => ?_
  obtain ⟨μ, S, ρ, hI, R, hρ, g⟩ := q
  have g : GG D.N F μ H (((IR.evIt D.g call (IT x)) ρ S).bind fun s => IR.forSrc (fun x ρ => (IR.setTg t ρ x).bind fun ρ' => IR.exs D.g call bd ρ') s ρ) (KF D.N F E H) := g
  rw [hIT ρ] at g
  have g : GG D.N F μ H (((IR.ev D.g call x ρ S).bind src).bind fun s => IR.forSrc (fun x ρ => (IR.setTg t ρ x).bind fun ρ' => IR.exs D.g call bd ρ') s ρ) (KF D.N F E H) := g
  rcases rd_ev (g := D.g) (call := call) hx (ρ := ρ) (Lkd.refl (S := S)) with ⟨d, ed, _⟩ | eb
  · rw [ed] at g
    have g : GG D.N F μ H ((src d S).bind fun s => IR.forSrc (fun x ρ => (IR.setTg t ρ x).bind fun ρ' => IR.exs D.g call bd ρ') s ρ) (KF D.N F E H) := g
    rcases K.only d S with ⟨r, rfl⟩ | e
    · rcases K.go (r := r) R with e | ⟨u, pa, l, q1, hpa, h1, mu, hd, es, lk, kk⟩ | ⟨pa, l, hpa, es, kk⟩
      · rw [e] at g; exact g.elim
      · rw [es] at g
        refine .inl ⟨pa, u, h1, mu, fun od => ?_⟩
        have ew : Ext μ H μ (upd H pa (.frz od u)) := Ext.write hpa h1 (by rcases hd with ⟨r, rfl⟩ | ⟨r, rfl⟩ <;> exact fun _ z => nomatch z) (by rcases hd with ⟨r, rfl⟩ | ⟨r, rfl⟩ <;> exact fun _ _ z => nomatch z)
        obtain ⟨ho, kk⟩ := kk od ew.w
        have Rl := R.write (q := q1) hpa ho ew.w
        refine ⟨μ, S.set r q1, ρ, hI, Rl, hρ.mono ew.w, ?_⟩
        obtain ⟨_, ed1, ed2⟩ | eb := rd_ev (g := D.g) (call := call) hx (ρ := ρ) lk
        · rw [ed] at ed1; cases ed1
          rw [ed2]
          intro μ1 H1 e1 R1 v rv _
          obtain ⟨a, rfl, ha⟩ := rv.ref
          rw [prefix_get e1.pre hpa] at ha; cases ha
          obtain ⟨J, fJ, pj⟩ := kk μ1 H1 e1
          exact pj _ (for_st (E := lkE pa od u E) ht hI R1 ((hρ.mono ew.w).mono e1.w) fJ (gg_lock h1 hpa hd e1 g))
        · rw [ed] at eb; cases eb
      · rw [es] at g
        refine .inr ⟨μ, S, ρ, hI, R, hρ, ?_⟩
        rw [ed]
        intro μ1 H1 e1 R1 v rv _
        obtain ⟨a, rfl, ha⟩ := rv.ref
        rw [prefix_get e1.pre hpa] at ha; cases ha
        obtain ⟨J, fJ, pj⟩ := kk μ1 H1 e1
        exact pj _ (for_st ht hI R1 (hρ.mono e1.w) fJ (KF.base e1 g))
    · rw [e] at g; exact g.elim
  · rw [eb] at g; exact g.elim
/-! ### comprehensions over dicts -/
theorem lc_st {t : IR.Tg} {gt : TG} {tt : TT} {mc : IR.Env → IR.M Bool} {σ : L2.St} {Q : VK} {μ1 : List Addr} {S1 SF : IR.Sto} {H1 : Hp} {ρ : IR.Env} {l lF : List IR.D} {J : It} {Da : Addr}
    (ht : ∀ {μ S H ρ σ d v Q}, Rel D.N μ S H → RSt D.N μ H ρ σ → Rep D.N μ H d v → GG D.N Fm0 μ H (IR.setTg t ρ d S) (fun ρ' _ μ' H' => ∀ σ', RSt D.N μ' H' ρ' σ' → wipe σ' (tgSlots t) = wipe σ (tgSlots t) → Q σ' H') → gt v σ H Q)
    (hc : ∀ σ H Q, tT D.N Fm0 mc σ H Q → tt σ H Q) (R1 : Rel D.N μ1 S1 H1) (hρ1 : RSt D.N μ1 H1 ρ σ) (hJ : Fol D.N μ1 H1 J l) (hD : H1 Da = none) (hF : IR.lcSt (lcF D.g call t mc z ρ) l [] S1 = .ok lF SF)
    (fin : ∀ H', LcI D μ1 H1 Da SF lF H' → Q (.ref Da) H') :
    ∃ W : Nat → Nat → Hp → Prop, (∃ m, W 0 m (upd H1 Da (.lst []))) ∧ ∀ i m H, W i m H →
      (J.stop i H ∧ Q (.ref Da) H) ∨ (J.go i H ∧ ∃ Nx : Hp → Prop, (∀ H', Nx H' → ∃ m', m' < m ∧ W (i + 1) m' H') ∧ ∀ x H', J.yld i H x H' → gt x (wipe σ (tgSlots t)) H' fun σ2 H2 => wipe σ2 (tgSlots t) = wipe σ (tgSlots t) ∧ tt σ2 H2 fun b H3 =>
        if b = true then tV D Fm0 call z σ2 H3 fun y H4 => ∃ acc, H4 Da = some (.lst acc) ∧ acc.length < sizeLine ∧ Nx (upd H4 Da (.lst (acc ++ [y]))) else Nx H3) := by
  have i0 : LcI D μ1 H1 Da S1 [] (upd H1 Da (.lst [])) := ⟨μ1, [], Ext.laid hD, R1.laid hD, upd_same, R1.fresh hD, .nil⟩
  refine ⟨fun i m H => m = l.length - i ∧ i ≤ l.length ∧ ∃ S' acc, LcI D μ1 H1 Da S' acc H ∧ IR.lcSt (lcF D.g call t mc z ρ) (l.drop i) acc S' = .ok lF SF, ⟨_, rfl, Nat.zero_le _, S1, [], i0, hF⟩, ?_⟩
  rintro i m' H2 ⟨rfl, hi2, S2, acc, ⟨μ2, vacc, e2, R2, x3, x4, x5⟩, h2⟩
  obtain ⟨go, stop⟩ := hJ μ2 S2 H2 e2 R2 i
  by_cases hlt : i < l.length
  · obtain ⟨k1, k2⟩ := go l[i] (List.getElem?_eq_getElem hlt)
    rw [List.drop_eq_getElem_cons hlt] at h2
    refine .inr ⟨k1, _, fun H' w => ⟨l.length - (i + 1), by omega, w⟩, fun x H3 y => ?_⟩
    obtain ⟨e3, R3, rd⟩ := k2 x H3 y
    exact lc_turn (rest := fun acc => IR.lcSt (lcF D.g call t mc z ρ) (l.drop (i + 1)) acc) ht hc hD e2 x3 x4 x5 hρ1 e3 R3 rd h2 fun S' acc' H' q1 q2 => ⟨rfl, hlt, S', acc', q1, q2⟩
  · have e : i = l.length := by omega
    subst e
    rw [List.drop_length] at h2
    cases h2
    exact .inl ⟨stop (Nat.le_refl _), fin H2 ⟨μ2, vacc, e2, R2, x3, x4, x5⟩⟩
theorem lc_D {t : IR.Tg} {gt : TG} {tt : TT} {mc : IR.Env → IR.M Bool} {σ : L2.St} {H : Hp} {Q : VK} {μ : List Addr} {S : IR.Sto} {ρ : IR.Env} {src : IR.D → IR.M IR.Src} {PP : PPt} (K : KD D.N src PP) (hx : Rd' x)
    (ht : ∀ {μ S H ρ σ d v Q}, Rel D.N μ S H → RSt D.N μ H ρ σ → Rep D.N μ H d v → GG D.N Fm0 μ H (IR.setTg t ρ d S) (fun ρ' _ μ' H' => ∀ σ', RSt D.N μ' H' ρ' σ' → wipe σ' (tgSlots t) = wipe σ (tgSlots t) → Q σ' H') → gt v σ H Q)
    (hc : ∀ σ H Q, tT D.N Fm0 mc σ H Q → tt σ H Q) (hI : F.I σ) (R : Rel D.N μ S H) (hρ : RSt D.N μ H ρ σ)
    (g : GV D.N F μ H ((((IR.ev D.g call x ρ).bind src).bind fun s => (IR.noExc (IR.lcSrc (lcF D.g call t mc z ρ) s)).bind fun l => IR.M.pure (.tl l)) S) Q) :
    tLockE (tLc (tiP (tV D F call x) PP) gt tt (tV D Fm0 call z) (tgSlots t)) σ H Q ∨ tLc (tiP (tV D F call x) PP) gt tt (tV D Fm0 call z) (tgSlots t) σ H Q := by
  have g : GV D.N F μ H (((IR.ev D.g call x ρ S).bind src).bind fun s => (IR.noExc (IR.lcSrc (lcF D.g call t mc z ρ) s)).bind fun l => IR.M.pure (.tl l)) Q := g
  rcases rd_ev (g := D.g) (call := call) hx (ρ := ρ) (Lkd.refl (S := S)) with ⟨d, ed, _⟩ | eb
  · rw [ed] at g
    have g : GV D.N F μ H ((src d S).bind fun s => (IR.noExc (IR.lcSrc (lcF D.g call t mc z ρ) s)).bind fun l => IR.M.pure (.tl l)) Q := g
    rcases K.only d S with ⟨r, rfl⟩ | e
    · rcases K.go (r := r) R with e | ⟨u, pa, l, q1, hpa, h1, mu, hd, es, lk, kk⟩ | ⟨pa, l, hpa, es, kk⟩
      · rw [e] at g; exact g.elim
      · rw [es] at g
        have g : GV D.N F μ H ((IR.noExc ((IR.lcSt (lcF D.g call t mc z ρ) l []).bind fun r' => (IR.unlock r).bind fun _ => IR.M.pure r') (S.set r q1)).bind fun l => IR.M.pure (.tl l)) Q := g
        obtain ⟨lF, SF, hF, g2⟩ : ∃ lF SF, IR.lcSt (lcF D.g call t mc z ρ) l [] (S.set r q1) = .ok lF SF ∧ GG D.N F μ H ((IR.unlock r SF).bind fun _ => IR.M.pure lF) (fun l _ μ' H' => ∀ v, RepV D.N μ' H' (.tl l) v → Tmp H (.tl l) v → Q v H') := by
          unfold IR.noExc at g
          cases er : IR.lcSt (lcF D.g call t mc z ρ) l [] (S.set r q1) with
          | bad => rw [show ((IR.lcSt (lcF D.g call t mc z ρ) l []).bind fun r' => (IR.unlock r).bind fun _ => IR.M.pure r') (S.set r q1) = .bad by show (IR.lcSt (lcF D.g call t mc z ρ) l [] (S.set r q1)).bind _ = _; rw [er]; rfl] at g; exact g.elim
          | exc c fs S2 => rw [show ((IR.lcSt (lcF D.g call t mc z ρ) l []).bind fun r' => (IR.unlock r).bind fun _ => IR.M.pure r') (S.set r q1) = .exc c fs S2 by show (IR.lcSt (lcF D.g call t mc z ρ) l [] (S.set r q1)).bind _ = _; rw [er]; rfl] at g; exact g.elim
          | ok lF SF =>
            refine ⟨lF, SF, rfl, ?_⟩
            rw [show ((IR.lcSt (lcF D.g call t mc z ρ) l []).bind fun r' => (IR.unlock r).bind fun _ => IR.M.pure r') (S.set r q1) = (IR.unlock r SF).bind fun _ => IR.M.pure lF by show (IR.lcSt (lcF D.g call t mc z ρ) l [] (S.set r q1)).bind _ = _; rw [er]; rfl] at g
            cases eu : IR.unlock r SF with
            | bad => rw [eu] at g; exact g.elim
            | exc c fs S3 => rw [eu] at g; exact g.elim
            | ok a S3 => rw [eu] at g; exact g
        refine .inl ⟨pa, u, h1, mu, fun od => ?_⟩
        have ew : Ext μ H μ (upd H pa (.frz od u)) := Ext.write hpa h1 (by rcases hd with ⟨r, rfl⟩ | ⟨r, rfl⟩ <;> exact fun _ z => nomatch z) (by rcases hd with ⟨r, rfl⟩ | ⟨r, rfl⟩ <;> exact fun _ _ z => nomatch z)
        obtain ⟨ho, kk⟩ := kk od ew.w
        have Rl := R.write (q := q1) hpa ho ew.w
        refine ⟨μ, S.set r q1, ρ, hI, Rl, hρ.mono ew.w, ?_⟩
        obtain ⟨_, ed1, ed2⟩ | eb := rd_ev (g := D.g) (call := call) hx (ρ := ρ) lk
        · rw [ed] at ed1; cases ed1
          rw [ed2]
          intro μ1 H1 e1 R1 v rv _
          obtain ⟨a, rfl, ha⟩ := rv.ref
          rw [prefix_get e1.pre hpa] at ha; cases ha
          obtain ⟨J, fJ, pj⟩ := kk μ1 H1 e1
          refine pj _ fun Da hD => lc_st (Q := fun v H' => H' pa = some (.frz od u) ∧ Q v (upd H' pa u)) ht hc R1 ((hρ.mono ew.w).mono e1.w) fJ hD hF fun H' lc => ?_
          obtain ⟨μ', vacc, x1, x2, x3, x4, x5⟩ := lc
          obtain ⟨h2, w, hm, S3, kq⟩ := unl h1 hpa hd (e1.trans x1) x2 g2
          refine ⟨h2, kq (.ref Da) (v_unl hm w ⟨Da, vacc, rfl, x3, x4, x5⟩) fun l' a _ z => ?_⟩
          cases z
          cases ea : H Da with
          | none => rfl
          | some o =>
            exfalso
            have nm : Da ∉ μ := fun z => x4 ((e1.trans x1).pre.subset z)
            have na : Da ≠ pa := fun z => nm (by rw [z]; exact List.mem_of_getElem? hpa)
            have : (upd H pa (.frz od u)) Da = some o := by rw [upd_ne na]; exact ea
            rw [e1.keep _ _ nm this] at hD
            cases hD
        · rw [ed] at eb; cases eb
      · rw [es] at g
        refine .inr ⟨μ, S, ρ, hI, R, hρ, ?_⟩
        rw [ed]
        intro μ1 H1 e1 R1 v rv _
        obtain ⟨a, rfl, ha⟩ := rv.ref
        rw [prefix_get e1.pre hpa] at ha; cases ha
        obtain ⟨J, fJ, pj⟩ := kk μ1 H1 e1
        have g1 : GV D.N F μ1 H1 ((IR.noExc (IR.lcSt (lcF D.g call t mc z ρ) l []) S).bind fun l => IR.M.pure (.tl l)) Q := GV.base e1 g
        refine pj _ fun Da hD => ?_
        unfold IR.noExc at g1
        cases er : IR.lcSt (lcF D.g call t mc z ρ) l [] S with
        | bad => rw [er] at g1; exact g1.elim
        | exc c fs S => rw [er] at g1; exact g1.elim
        | ok lF SF =>
          rw [er] at g1
          refine lc_st ht hc R1 (hρ.mono e1.w) fJ hD er fun H' lc => ?_
          obtain ⟨μ', vacc, x1, x2, x3, x4, x5⟩ := lc
          exact g1 μ' H' x1 x2 (.ref Da) ⟨Da, vacc, rfl, x3, x4, x5⟩ fun l a _ z => by cases z; exact hD
    · rw [e] at g; exact g.elim
  · rw [eb] at g; exact g.elim
theorem s_lcD0 {t : IR.Tg} {gt : TG} {own : List (Str × Nat)} {src : IR.D → IR.M IR.Src} {PP : PPt} {IT : IR.E → IR.It} (C : Cm D X c k F) (K : KD D.N src PP) (hIT : ∀ ρ, IR.evIt D.g call (IT x) ρ = (IR.ev D.g call x ρ).bind src) (hx : Rd' x) (P : PI X tg iter (tiP (tV D F call x) PP)) (ok : BlkOk c.N c.sc scope own) (hw : own.map (·.2) = tgSlots t)
    (hg : ∀ (s : Shared) (H : Hp) (A : Addr) (cl : List (Str × Addr)) (fp : List Addr), TgOk D (X.blk s H scope (compEnvC scope cl A X.env) fp) Fm0 tg t gt)
    (he : ∀ (s : Shared) (H : Hp) (A : Addr) (cl : List (Str × Addr)) (fp : List Addr), PE (X.blk s H scope (compEnvC scope cl A X.env) fp) elt (tV D Fm0 call z)) (hs : ∀ x, foldedSetIterable iter X.env x = pure x) (hh : c.hot = false := by rfl) :
    PE X (.ListComp elt [⟨tg, iter, [], 0⟩] scope pos) (tV D F call (.lc (IT x) t none z)) := by
  have Q := pe_lc (C.calm hh) (by rw [C.N]; exact C.nd) P (by rw [C.N, C.sc]; exact ok) (fun s H A cl fp => (hg s H A cl fp).pg) (fun s H A cl fp => pts_nil) he hs (pos := pos)
  refine ⟨fun pins s0 σ H R I q => (PE.or (pe_lock Q) Q).run pins s0 σ H R I ?_⟩
  obtain ⟨μ, S, ρ, hI, Rl, hρ, g⟩ := q
  rw [hw]
  refine lc_D (mc := fun _ => IR.M.pure true) K hx (hg s0 H 0 [] []).ht (fun σ H Q ⟨μ, S, ρ, _, R, hρ, g⟩ => g μ H (Ext.refl _ _) R) hI Rl hρ ?_
  rw [← hIT ρ]
  exact g
theorem s_lcD1 {t : IR.Tg} {gt : TG} {own : List (Str × Nat)} {src : IR.D → IR.M IR.Src} {PP : PPt} {IT : IR.E → IR.It} {cE : Expr} (C : Cm D X c k F) (K : KD D.N src PP) (hIT : ∀ ρ, IR.evIt D.g call (IT x) ρ = (IR.ev D.g call x ρ).bind src) (hx : Rd' x) (P : PI X tg iter (tiP (tV D F call x) PP)) (ok : BlkOk c.N c.sc scope own) (hw : own.map (·.2) = tgSlots t)
    (hg : ∀ (s : Shared) (H : Hp) (A : Addr) (cl : List (Str × Addr)) (fp : List Addr), TgOk D (X.blk s H scope (compEnvC scope cl A X.env) fp) Fm0 tg t gt)
    (hc : ∀ (s : Shared) (H : Hp) (A : Addr) (cl : List (Str × Addr)) (fp : List Addr), PT (X.blk s H scope (compEnvC scope cl A X.env) fp) cE (tB' D Fm0 call y))
    (he : ∀ (s : Shared) (H : Hp) (A : Addr) (cl : List (Str × Addr)) (fp : List Addr), PE (X.blk s H scope (compEnvC scope cl A X.env) fp) elt (tV D Fm0 call z)) (hs : ∀ x, foldedSetIterable iter X.env x = pure x) (hh : c.hot = false := by rfl) :
    PE X (.ListComp elt [⟨tg, iter, [cE], 0⟩] scope pos) (tV D F call (.lc (IT x) t (some y) z)) := by
  have Q := pe_lc (C.calm hh) (by rw [C.N]; exact C.nd) P (by rw [C.N, C.sc]; exact ok) (fun s H A cl fp => (hg s H A cl fp).pg) (fun s H A cl fp => pts_one (hc s H A cl fp)) he hs (pos := pos)
  refine ⟨fun pins s0 σ H R I q => (PE.or (pe_lock Q) Q).run pins s0 σ H R I ?_⟩
  obtain ⟨μ, S, ρ, hI, Rl, hρ, g⟩ := q
  rw [hw]
  refine lc_D (mc := fun ρ => (IR.ev D.g call y ρ).bind IR.truth) K hx (hg s0 H 0 [] []).ht (fun σ H Q h => h) hI Rl hρ ?_
  have e : (lcF D.g call t (fun ρ => (IR.ev D.g call y ρ).bind IR.truth) z ρ) = fun x => (IR.setTg t ρ x).bind fun ρ' => (IR.ev D.g call y ρ').bind fun c => (IR.truth c).bind fun b => if b then (IR.ev D.g call z ρ').bind fun y => (IR.own y).bind fun y => IR.M.pure (some y) else IR.M.pure none := by
    funext x
    simp only [lcF, IR.M.bind_assoc]
  rw [e, ← hIT ρ]
  exact g
theorem it_items {g : IR.G} {ρ : IR.Env} : IR.evIt g call (.items x) ρ = (IR.ev g call x ρ).bind (IR.srcItems false) := by simp only [IR.evIt]
theorem it_vals {g : IR.G} {ρ : IR.Env} : IR.evIt g call (.vals x) ρ = (IR.ev g call x ρ).bind (IR.srcItems true) := by simp only [IR.evIt]
theorem it_keysT {g : IR.G} {ρ : IR.Env} : IR.evIt g call (.keysT x) ρ = (IR.ev g call x ρ).bind IR.srcKeysT := by simp only [IR.evIt]
end
end IRS

namespace IRS
open PySem PySem.Spec PyProof.Rows L2
/-! ### sorted of a dict by pairs of numbers -/
def rSortT : List V → Hp → VK → Prop := fun xs H Q => ∃ (a : Addr) (kvs : List (List Key × V)) (ps : List (Int × Int)), xs = [.ref a] ∧ Rd H a (.dT kvs) ∧ kvs.map (·.1) = ps.map (fun p => ([Sum.inl p.1, Sum.inl p.2] : List Key)) ∧
  ∀ ys p, (∀ y ∈ ys, ∃ t, y = V.ref t ∧ H t = some (.tup [.int (pairOf H y).1, .int (pairOf H y).2])) → SrtO.Srtd (ltP (pairOf H)) ys → (ys.map (pairOf H)).Perm ps → H p = none → Q (.ref p) (upd H p (.lst ys))
theorem kt_at {H : Hp} : ∀ {kvs : List (List Key × V)} {xs : List (List Key × Addr × Value)} {ps : List (Int × Int)}, KT H kvs xs → kvs.map (·.1) = ps.map (fun p => ([Sum.inl p.1, Sum.inl p.2] : List Key)) →
    (xs.map fun x => pairOf H (.ref x.2.1)) = ps ∧ ∀ x ∈ xs, H x.2.1 = some (.tup [.int (pairOf H (.ref x.2.1)).1, .int (pairOf H (.ref x.2.1)).2]) := by
  intro kvs xs ps h
  induction h generalizing ps with
  | nil =>
    intro e
    cases ps with
    | nil => exact ⟨rfl, fun x hx => by cases hx⟩
    | cons p ps => simp at e
  | @cons p q l m hq t ih =>
    intro e
    cases ps with
    | nil => simp at e
    | cons p' ps =>
      simp only [List.map_cons, List.cons.injEq] at e
      obtain ⟨e1, e2⟩ := ih e.2
      obtain ⟨h1, h2, h3⟩ := hq
      rw [e.1] at h2
      have h2 : H q.2.1 = some (.tup [.int p'.1, .int p'.2]) := h2
      have e3 : pairOf H (.ref q.2.1) = p' := by simp only [pairOf, h2]
      refine ⟨by rw [List.map_cons, e1, e3], fun x hx => ?_⟩
      rcases List.mem_cons.mp hx with rfl | hx
      · rw [e3]; exact h2
      · exact e2 x hx
theorem call_sortedTD {X : Cx} (hcalm : X.calm = true) : CallR X (.builtin "sorted") rSortT := by
  intro pins s σ H vs us Q I r q
  obtain ⟨a, kvs, ps, rfl, hd, hks, q⟩ := q
  obtain ⟨u, rfl, ru⟩ := vals1 r
  obtain rfl : u = Value.ref a := ru
  obtain ⟨z, lo, xs, kt, o, es, ep, ho, hx, hdat, he, his, hn⟩ := dt_rd I.hok hd
  obtain ⟨k1, k2⟩ := kt_at kt hks
  have hl : es.size = xs.length := size_of_entries he
  have hl2 : kvs.length = xs.length := Paired.length kt
  have hsz : es.size ≤ sizeLine := by omega
  refine Calls.call_function_entry PyProof.Rows.kind_sorted PyProof.Rows.plain_sorted PyProof.Rows.entry_sorted (PyProof.Rows.args_sorted1 _) ?_
  unfold Builtin.«sorted»
  refine wpAny_bind (m := checkCount "sorted" 1 1 _) (wpAny_pure ?_)
  refine wpAny_bind (PySem.W.kdu_collect (A := X.A.in1) (PySem.KdlSrc.rawDict (es := es) (ep := ep) lo) (I.ok.hd hcalm) ⟨o, ho, hx, hdat⟩ hsz fun h' tk acc hk hacc => ?_)
  have hacl : acc.toList = xs.map fun x => Value.ref x.2.1 := by
    refine List.ext_getElem? fun i => ?_
    rw [List.getElem?_map]
    have hs1 : acc.toList.length = es.size := by rw [Array.length_toList]; exact hacc.1
    by_cases hi : i < es.size
    · have e1 : acc.toList[i]? = some acc.toList[i] := List.getElem?_eq_getElem (by omega)
      obtain ⟨_, e2⟩ := hacc.2 i acc.toList[i] (by rw [← Array.getElem?_toList]; exact e1)
      have e3 : es.toList[i]? = some es[i] := by rw [Array.getElem?_toList]; exact Array.getElem?_eq_getElem hi
      rw [he, List.getElem?_map] at e3
      obtain ⟨x, hx1, hx2⟩ := Option.map_eq_some_iff.mp e3
      rw [e1, hx1, e2, ← hx2]
      rfl
    · rw [List.getElem?_eq_none (by omega), List.getElem?_eq_none (by omega)]
      rfl
  have I1 : Inv X pins σ H { s with heap := h', toks := tk } := I.kept hk
  have hal : acc.toList.length ≤ sizeLine := by rw [hacl, List.length_map]; omega
  refine wpAny_bind (wpAny_newList ?_ hal)
  have hoL : (h'.push (seqObj "list" acc.toList.toArray 0)).get? h'.objs.size = some (seqObj "list" acc.toList.toArray 0) := Heap.get?_push_size _ rfl
  show wpAny _ _ _ _ _ { s with heap := h'.push (seqObj "list" acc.toList.toArray 0), toks := tk }
  have pairs : ∀ v ∈ acc.toList, Srt.IsPair (h'.push (seqObj "list" acc.toList.toArray 0)) v (pairOf H (backV v)).1 (pairOf H (backV v)).2 := fun v hv => by
    rw [hacl] at hv
    obtain ⟨x, hxm, rfl⟩ := List.mem_map.mp hv
    obtain ⟨_, its2, r2, ob, hob, hc, n, hd2⟩ := I1.hok _ _ (k2 x hxm)
    obtain ⟨u1, u2, rfl, ri, rj⟩ := vals2 r2
    obtain ⟨t1, rfl⟩ := ri
    obtain ⟨t2, rfl⟩ := rj
    exact ⟨x.2.1, ob, t1, t2, n, rfl, Heap.get?_push_of_some _ hob, hc, hd2⟩
  refine wpAny_bind (wpAny_holding (wpAny_call_entry PyProof.Rows.slot_list_sort ⟨_, hoL, rfl⟩ PyProof.Rows.entry_list_sort
    (SrtO.list_sort_ord (SrtO.swo_lex fun v => pairOf H (backV v)) (s := { s with heap := h'.push (seqObj "list" acc.toList.toArray 0), toks := tk }) hoL hal (fun h2 => SrtO.pairs_sortableO (by omega) pairs fun ob e c => ?_) fun out hs hb => ⟨_, rfl, ?_⟩) (PyProof.Rows.args_list_sort _)))
  · rw [hoL] at e
    cases e
    exact absurd (Value.type.inj c) (by decide)
  · obtain ⟨e', he'⟩ := PyProof.Rows.sortedHeap_at (vs := acc.toList) (out := out.toArray) hoL
    have hm : ∀ v ∈ out, ∃ x ∈ xs, v = Value.ref x.2.1 := fun v hv => by
      have := hb.perm.mem_iff.mp hv
      rw [hacl] at this
      obtain ⟨x, hx1, rfl⟩ := List.mem_map.mp this
      exact ⟨x, hx1, rfl⟩
    have h3 : ∀ u ∈ out, ∃ a, u = Value.ref a := fun u hu => let ⟨x, _, e⟩ := hm u hu; ⟨_, e⟩
    have hlen : (out.map backV).length ≤ sizeLine := by rw [List.length_map, hb.len]; exact hal
    refine wpAny_pure ⟨_, rfl, .ref h'.objs.size, upd H h'.objs.size (.lst (out.map backV)), I1.laid (t' := tk) (fun b u e => ?_) (Nat.le_refl _)
      (show ObjOk X.prog X.w _ _ _ (.lst (out.map backV)) from ⟨hlen, out, e', vals_back h3, he'⟩), rfl, q _ _ (fun y hy => ?_) (SrtO.srtd_map hs) ?_ (I1.hok.fresh (Nat.le_refl _))⟩
    · have hb : b < h'.objs.size := Heap.lt_size e
      rw [PyProof.Rows.sortedHeap_old (Nat.ne_of_lt hb) (by rw [size_push']; exact Nat.lt_succ_of_lt hb)]
      exact Heap.get?_push_of_some _ e
    · obtain ⟨v, hv, rfl⟩ := List.mem_map.mp hy
      obtain ⟨x, hx1, rfl⟩ := hm v hv
      exact ⟨x.2.1, rfl, k2 x hx1⟩
    · have p1 := (hb.perm.map backV).map (pairOf H)
      refine p1.trans ?_
      rw [hacl, List.map_map, List.map_map, ← k1]
      exact List.Perm.refl _
section
variable {N : Nm} {W : Fm} {μ : List Addr} {S : IR.Sto} {H : Hp} {Q : VK} {a b d : IR.D} {x y z : V}
theorem keysP_of : ∀ {kvs : List (List IR.Ky × IR.D)} {r : List (List Key × V)} {ps : List (Int × Int)}, (kvs.map (·.1)).mapM IR.pr2 = some ps → KR N μ H (·.map kyK) kvs r → r.map (·.1) = ps.map (fun p => ([Sum.inl p.1, Sum.inl p.2] : List Key))
  | [], _, _, h, .nil => by cases h; rfl
  | (k, d) :: kvs, _, _, h, .cons _ t => by
    rw [List.map_cons, List.mapM_cons] at h
    obtain ⟨p0, h1, h2⟩ := Option.bind_eq_some_iff.mp h
    obtain ⟨l0, h3, h4⟩ := Option.bind_eq_some_iff.mp h2
    cases h4
    rw [List.map_cons, keysP_of h3 t]
    unfold IR.pr2 at h1
    split at h1
    · rename_i i j heq
      cases h1
      have heq : k = [Sum.inl i, Sum.inl j] := heq
      subst heq; rfl
    · cases h1
theorem o_sortedT (R : Rel N μ S H) (ra : RepV N μ H a x) (g : GV N W μ H (IR.evOp .sortedT [a] S) Q) : rSortT [x] H Q := by
  cases a <;> first | exact g.elim | skip
  rename_i n
  obtain ⟨p, rfl, hp⟩ := ra.ref
  have g : GV N W μ H (match S[n]? with
    | some (.dT _ kvs) => IR.val1 ((IR.srtT (kvs.map (·.1))).map .tl) S
    | _ => .bad) Q := g
  split at g
  · rename_i lk kvs e
    obtain ⟨r, hr, kr⟩ := rdT R e hp
    obtain ⟨d, h1, g⟩ := GV.val1 g
    obtain ⟨l2, h2, rfl⟩ := Option.map_eq_some_iff.mp h1
    unfold IR.srtT at h2
    split at h2
    · obtain ⟨ps, h3, h4⟩ := Option.map_eq_some_iff.mp h2
      subst h4
      refine ⟨p, r, ps, rfl, hr, keysP_of h3 kr, fun ys q hm sr pm hq => ?_⟩
      have e3 : ys.map (pairOf H) = IR.sortBy IR.leP ps := by
        refine List.Perm.eq_of_pairwise (le := fun a b : Int × Int => a.1 < b.1 ∨ a.1 = b.1 ∧ a.2 ≤ b.2) (fun a b _ _ h1 h2 => ?_) ?_ ?_ (pm.trans sortBy_perm.symm)
        · ext <;> omega
        · rw [List.pairwise_map]
          refine List.Pairwise.imp (fun {x y} h => ?_) sr
          have := SrtO.lexB_no.mp h
          omega
        · refine (sortBy_sorted (le := IR.leP) (fun a b => ?_) fun a b c => ?_).imp fun {a b} h => of_decide_eq_true h
          · simp only [IR.leP, decide_eq_true_eq]; omega
          · simp only [IR.leP, decide_eq_true_eq]; omega
      have g2 : GV N W μ H (.ok (.tl ((ys.map (pairOf H)).map IR.prD)) S) Q := by rw [e3]; exact g
      exact GV.newL R g2 (Reps.prs hm) q hq
    · cases h2
  · exact g.elim
end
section
variable {D : Wd} {X : Cx} {c : Ctx} {k : Nat} {F : Fm} {pos : Pos} {a b e o tg : Expr} {es : List Expr} {call : Nat → List IR.D → IR.M IR.D} {x y z : IR.E} {p apos cpos tpos : Pos} {mname : List (Str × Nat)} {n : Str}
theorem e_sortedT (C : Cm D X c k F) (hg : c.sc.names.lookup ("sorted" : Str) = some .globalImplicit) (hm : D.mg "sorted" = none) (ha : PE X a (tV D F call x)) (hs : A1 a X) (hh : c.hot = false := by rfl) : PE X (.Call (.Name "sorted" p) [a] [] pos) (tV D F call (.op .sortedT (.cons false x .nil))) :=
  s_b1 (pe_callB (call_sortedTD (C.calm hh)) (C.gl hg) (C.mgn hm) PyProof.Rows.boot_sorted (s_cons ha s_nil hs) (he := hs)) fun R ra g => o_sortedT R ra g
end
end IRS

namespace IRS
open PySem PySem.Spec PyProof.Rows L2
/-! ### an exception that was caught, kept as a thing that is known -/
/-- .. its dict nobody writes to -/
def frzd (H : Hp) : Option (Addr × List (Str × V)) → Obj → Hp
  | none, _ => H
  | some (d, r), o => upd H d (.frz o (.xd r))
section
variable {X : Cx} {pins : List (Addr × Obj)} {σ : L2.St} {H : Hp} {s : Shared} {a : Addr} {oe : Obj}
theorem isO_ok {P : Program} {w : World} {H : Hp} {h : Heap} (ha : h.get? a = some oe) : ObjOk P w H h a (isO a oe) :=
  show h.get? a = some oe ∧ (∃ o, h.get? a = some o) ∧ ∀ h1 h2 : Heap, h1.get? a = some oe → (∀ o, h1.get? a = some o → h2.get? a = some o) → h2.get? a = some oe from
    ⟨ha, ⟨oe, ha⟩, fun h1 h2 e k => k oe e⟩
theorem inv_adopt {vs : Array Value} (I : Inv X pins σ H s) (ha : s.heap.get? a = some oe) (hd : oe.data = .fields vs) (na : H a = none) (nL : a ≠ X.env.locals) (nb : X.s_0.heap.get? a = none) (np : ∀ p ∈ X.pn ++ pins, p.1 ≠ a) : Inv X pins σ (upd H a (isO a oe)) s where
  ok := I.ok
  os := I.os
  bare := I.bare
  base := {
    keep := I.base.keep
    slot := I.base.slot
    free := fun b o e n x => by
      have : b ≠ a := fun z => by subst z; rw [nb] at e; cases e
      rw [upd_ne this]; exact I.base.free b o e n x
    there := I.base.there
    tups := fun b xs q => by
      have := I.base.tups b xs q
      rw [upd_ne (ne_of_none this na)]; exact this
    frzs := fun b o u q => by
      have := I.base.frzs b o u q
      rw [upd_ne (ne_of_none this na)]; exact this
    tbls := fun b ps q => by
      obtain ⟨m, this⟩ := I.base.tbls b ps q
      exact ⟨m, by rw [upd_ne (ne_of_none this na)]; exact this⟩ }
  loc := I.loc
  cell := I.cell
  free := by rw [upd_ne (Ne.symm nL)]; exact I.free
  freeC := fun x c e => by
    have : c ≠ a := fun z => by
      subst z
      obtain ⟨v, o, ho, hv⟩ := I.cell x c e
      rw [ha] at ho
      cases ho
      rw [hd] at hv
      cases hv
    rw [upd_ne this]; exact I.freeC x c e
  pin := fun p hp => by
    obtain ⟨e1, e2, e3, e4, e5⟩ := I.pin p hp
    exact ⟨e1, by rw [upd_ne (np p hp)]; exact e2, e3, e4, e5⟩
  hok := fun b u e => by
    by_cases hb : b = a
    · subst hb; rw [upd_same] at e; cases e; exact isO_ok ha
    · rw [upd_ne hb] at e
      exact (I.hok b u e).stay (fun c v _ q => q) (fun c q => by rw [upd_ne (ne_of_none q na)]; exact q) fun c xs q => by rw [upd_ne (ne_of_none q na)]; exact q
  len := I.len
/-- .. the dict frozen -/
theorem inv_frz {d : Addr} {r : List (Str × V)} (I : Inv X pins σ H s) (hd : H d = some (.xd r)) : ∃ o, Inv X pins σ (upd H d (.frz o (.xd r))) s := by
  have x := I.hok d _ hd
  obtain ⟨o, ho⟩ : ∃ o, s.heap.get? d = some o := by
    obtain ⟨mA, hn, _⟩ := id x
    obtain ⟨o, _, _, ho, _⟩ := hn
    exact ⟨o, ho⟩
  have neN : ∀ b, H b = none → b ≠ d := fun b e z => by rw [z, hd] at e; cases e
  have neU : ∀ b u, H b = some u → u ≠ .xd r → b ≠ d := fun b u e h z => by rw [z, hd] at e; cases e; exact h rfl
  refine ⟨o, I.ok, I.os, I.bare, ⟨I.base.keep, I.base.slot, fun b o e n hx => ?_, I.base.there, fun b xs e => ?_, fun b o x e => ?_, fun b ps e => ?_⟩, I.loc, I.cell, ?_, fun x c e => ?_, fun p hp => ?_, fun b u e => ?_, I.len⟩
  · rw [upd_ne (neN b (I.base.free b o e n hx))]; exact I.base.free b o e n hx
  · have q := I.base.tups b xs e
    rw [upd_ne (neU b _ q (fun z => nomatch z))]; exact q
  · have q := I.base.frzs b o x e
    rw [upd_ne (neU b _ q (fun z => nomatch z))]; exact q
  · obtain ⟨m, q⟩ := I.base.tbls b ps e
    exact ⟨m, by rw [upd_ne (neU b _ q (fun z => nomatch z))]; exact q⟩
  · rw [upd_ne (neN _ I.free)]; exact I.free
  · rw [upd_ne (neN c (I.freeC x c e))]; exact I.freeC x c e
  · obtain ⟨e, n, r⟩ := I.pin p hp
    exact ⟨e, by rw [upd_ne (neN _ n)]; exact n, r⟩
  · by_cases hb : b = d
    · rw [hb, upd_same] at e
      cases e
      rw [hb]
      exact ⟨ho, x.stay (fun c v _ q => q) (fun c q => by rw [upd_ne (neU c _ q (fun z => nomatch z))]; exact q) fun c xs q => by rw [upd_ne (neU c _ q (fun z => nomatch z))]; exact q⟩
    · rw [upd_ne hb] at e
      exact (I.hok b u e).stay (fun c v _ q => q) (fun c q => by rw [upd_ne (neU c _ q (fun z => nomatch z))]; exact q) fun c xs q => by rw [upd_ne (neU c _ q (fun z => nomatch z))]; exact q
theorem inv_frzd {z : Option (Addr × List (Str × V))} (I : Inv X pins σ H s) (hz : ∀ p, z = some p → H p.1 = some (.xd p.2)) : ∃ o, Inv X pins σ (frzd H z o) s := by
  cases z with
  | none => exact ⟨oe0, I⟩
  | some p => exact inv_frz I (hz p rfl)
where
  oe0 : Obj := { cls := .none, data := .fields #[] }
theorem inv_suiteX (I : Inv X pins σ H s) : Inv (X.suite a (X.pn ++ pins)) [] σ H s :=
  ⟨I.ok.suite _ _, I.os, I.bare, I.base, I.loc, I.cell, I.free, I.freeC, fun p hp => I.pin p (by rw [List.append_nil] at hp; exact hp), I.hok, I.len⟩
theorem inv_unsuiteX {pn' : List (Addr × Obj)} (I : Inv (X.suite a (X.pn ++ pins)) pn' σ H s) (ok : X.Ok) : Inv X pins σ H s :=
  ⟨ok, I.os, I.bare, I.base, I.loc, I.cell, I.free, I.freeC, fun p hp => I.pin p (List.mem_append_left _ hp), I.hok, I.len⟩
/-- what the clause 'except x as n' wishes of an exception of the body: slot i is n's; the exception is a thing that is known -/
def wAsX (K : PySem.W.Frag) (c : Value) (i : Nat) (ts : TS) (Wout : WX) (D : Ends) : WX := fun cls d σ H =>
  ∃ b, PySem.W.exmOne K cls c = some b ∧ (b = true → ∃ z : Option (Addr × List (Str × V)), (∀ p, z = some p → H p.1 = some (.xd p.2)) ∧ ∀ a oe o, H a = none → Zc cls d oe → (∃ vs, oe.data = .fields vs) → ts { nx := fun σ' H' => D.nx (σ'.set i none) H', rt := D.rt, bk := fun σ' H' => D.bk (σ'.set i none) H', ct := fun σ' H' => D.ct (σ'.set i none) H' } (σ.set i (some (.ref a))) (frzd (upd H a (isO a oe)) z o)) ∧
    (b = false → Wout cls d σ H)
end
section
variable {X : Cx} {x n : Str} {c : Value} {i : Nat} {body suite : List Stmt} {b₀ : Stmt} {np pos pos' : Pos} {tb : WX → TS} {ts : TS} {Wout : WX}
theorem ps_try_asX (hex : X.ex = []) (hs : X.stack = X.env :: X.outer) (hf : X.env.frame = some X.env.locals) (hN : X.N.Nodup) (hi : X.N[i]? = some n) (hln : X.env.kindOf n = some .local) (hc : Names X x c) (tk : Takes X Wout)
    (hb : ∀ (W : WX) (pn : List (Addr × Obj)) (xe : Value → Shared → Prop), Takes (X.tr pn xe) W → PassesOwn (model X.prog X.w) X.A X.env xe → PSs (X.tr pn xe) body (tb W))
    (hsu : ∀ (a : Addr) (pn : List (Addr × Obj)), PSs (X.suite a pn) (b₀ :: suite) ts) :
    PS X (.Try body [.ExceptHandler (some (.Name x np)) (some n) (b₀ :: suite) pos'] [] [] pos) (fun D σ H => tb (wAsX X.K c i ts Wout D) D σ H) := by
  refine ⟨fun pins s σ H D I h => ?_⟩
  have ok := I.ok
  have hfr : X.A.frames = some (X.env :: X.outer) := by rw [ok.frames, hs]
  have hloc : Loc X.env.scope n := .inl hln
  refine wpAny_Try_except ?_
  refine wpAny_mono ((hb (wAsX X.K c i ts Wout D) (X.pn ++ pins) (fun e s₁ => wpAny (model X.prog X.w) X.A (noteFrame e X.env) (fun _ s₂ => wpAny (model X.prog X.w) X.A (setFlight e none) (fun _ s₃ =>
    wpAny (model X.prog X.w) X.A (handleBy e X.env [.ExceptHandler (some (.Name x np)) (some n) (b₀ :: suite) pos']) (SP X pins D) X.xe s₃) X.xe s₂) X.xe s₁) (fun u s' xx => ?_) PassesOwn.looking).run [] s σ H D (I.toTry _) h) (fun f s1 hsp => ?_) (fun e s1 he => he)
  · -- the catch
    obtain ⟨a, B, sI, pins', σ', H', cls, d, rfl, J', nb, up, sky, na, os, ag, b, hb1, hyes, hno⟩ := xx
    have J : Inv X pins σ' H' sI := J'.ofTry ok
    have sky' : Sky B (X.env :: X.outer) a (Zc cls d) X.env.locals s'.heap := by rw [← hs]; exact sky
    show wpAny _ X.A (noteFrame (.ref a) X.env) _ _ _
    refine Sky.land Zc.steady hfr hf sky' fun h3 fl3 up3 => ?_
    have J3 : Inv X pins σ' H' { s' with heap := h3 } := J.landed nb fl3.1 (up.trans up3) os ag
    obtain ⟨oe3, vs3, he3, hz3, hd3⟩ := fl3.there
    have notFr : ∀ {h : Heap} {o : Obj} {vs : Array Value}, h.FunFrames B (X.env :: X.outer) → h.get? a = some o → o.data = .fields vs → a ∉ frs (X.env :: X.outer) := fun {h o vs} ff e dd hm => by
      obtain ⟨_, o', e', hnf⟩ := ff.mem hm
      rw [e] at e'; cases e'
      exact hnf _ dd
    have nfr := notFr fl3.2.2.1 he3 hd3
    have nL : a ≠ X.env.locals := fun z => nfr (List.mem_filterMap.mpr ⟨X.env, List.mem_cons_self, by rw [hf, z]⟩)
    have nF : a ∉ X.fs := fun hm => by
      obtain ⟨e, he, q⟩ := List.mem_filterMap.mp hm
      exact nfr (List.mem_filterMap.mpr ⟨e, List.mem_cons_of_mem _ he, q⟩)
    have S3 := J3.suite he3 hd3 na nL nF
    refine wpAny_handleBy_cons (codeAny_handlers_test ?_) (by intro q; cases q)
    have LT : PySem.W.Looks (model X.prog X.w) h3 (typeOf (.ref a)) cls := fun A Q E s k q => wpAny_typeOf_ref (k _ _ he3) (by rw [hz3.1]; exact q)
    have LM := PySem.W.exm_one (M := model X.prog X.w) (J3.kIn) LT hb1
    have test : ∀ {Q : Value → Shared → Prop} {E : Value → Shared → Prop}, Q c { s' with heap := h3 } → wpAny (model X.prog X.w) (X.A.mark (some (.ref a))) (eval (.Name x np) X.env) Q E { s' with heap := h3 } := fun {Q E} q => by
      obtain ⟨hg, hdbg, hm | ⟨hm, hv, hnn⟩⟩ := hc
      · exact ld_glob (X := X.suite a ((a, oe3) :: (X.pn ++ pins))) S3 hg hm q hdbg
      · exact ld_blt (X := X.suite a ((a, oe3) :: (X.pn ++ pins))) S3 hg hm hv q hnn hdbg
    refine test (LM.here ?_)
    cases b with
    | true =>
      refine codeAny_handlers_suite_as ?_
      refine HandSPX.lands_againZ fl3 fun h4 fl4 up4 => ?_
      have J4 : Inv X pins σ' H' { s' with heap := h4 } := J.landed nb fl4.1 ((up.trans up3).trans up4) os ag
      obtain ⟨oe4, vs4, he4, hz4, hd4⟩ := fl4.there
      have sIn : sI.heap.get? a = none := by
        cases e : sI.heap.get? a with
        | none => rfl
        | some o =>
          have := nb a o e (by show a ∉ frs X.stack; rw [hs]; exact nfr)
          rw [fl4.2.1] at this; cases this
      have nb0 : X.s_0.heap.get? a = none := by
        cases e : X.s_0.heap.get? a with
        | none => rfl
        | some o =>
          obtain ⟨o', e'⟩ := J.base.there a o e (by rw [hex]; exact List.not_mem_nil)
          rw [sIn] at e'; cases e'
      have np : ∀ p ∈ X.pn ++ pins, p.1 ≠ a := fun p hp z => by
        have := (J.pin p hp).1
        rw [z, sIn] at this
        cases this
      obtain ⟨z, hz, hts⟩ := hyes rfl
      obtain ⟨o, S4'⟩ := inv_frzd (z := z) (inv_adopt J4 he4 hd4 na nL nb0 np) fun p hp => by
        have e := hz p hp
        rw [upd_ne (ne_of_none e na)]; exact e
      have S4 := inv_suiteX (a := a) S4'
      refine store_ok (X := X.suite a (X.pn ++ pins)) (v := .ref a) S4 hN hi hloc rfl (fun s5 S5 => ?_) (.inr hln)
      refine wpAny_mono ((hsu a (X.pn ++ pins)).run [] s5 _ _ _ S5 (hts a oe4 o na hz4 ⟨_, hd4⟩)) (fun f s6 hsp => ?_) (fun _ _ z => False.elim z)
      have end_ : ∀ {σ6 : L2.St} {H6 : Hp} {Q : Shared → Prop}, Inv (X.suite a (X.pn ++ pins)) [] σ6 H6 s6 → (∀ s7, Inv X pins (σ6.set i none) H6 s7 → Q s7) →
          wpAny (model X.prog X.w) X.A (do bindName X.env n .none; unbindBehindTheSuite X.env n pos') (fun _ s7 => Q s7) X.xe s6 := fun {σ6 H6 Q} S6 hq => gone_ok (inv_unsuiteX S6 ok) hN hi hln hq
      cases f with
      | next =>
        obtain ⟨σ6, H6, S6, q6⟩ := hsp
        exact end_ S6 fun s7 J7 => ⟨_, _, J7, q6⟩
      | brk =>
        obtain ⟨σ6, H6, S6, q6⟩ := hsp
        exact end_ S6 fun s7 J7 => ⟨_, _, J7, q6⟩
      | cont =>
        obtain ⟨σ6, H6, S6, q6⟩ := hsp
        exact end_ S6 fun s7 J7 => ⟨_, _, J7, q6⟩
      | ret u =>
        obtain ⟨v6, σ6, H6, S6, r6, q6⟩ := hsp
        exact end_ S6 fun s7 J7 => ⟨_, _, _, J7, r6, q6⟩
    | false =>
      show wpAny _ X.A (handleBy (.ref a) X.env []) _ _ _
      refine wpAny_handleBy_nil ?_
      obtain ⟨k1, k2, k3, oe, vs, T, oT, ts', he, hz, hd, h1, hr⟩ := id fl3
      unfold PySem.passOn
      refine wpAny_bind (wpAny_field he hd h1 ?_)
      rw [if_neg (show ¬ ((Value.ref T == Value.none) = true) from by simp)]
      have fin : wpAny (model X.prog X.w) X.A (setFlight (.ref a) X.env.frame) (fun _ s4 => wpAny (model X.prog X.w) X.A (throw (.ref a) : Sem Flow) (SP X pins D) X.xe s4) X.xe { s' with heap := h3 } := by
        rw [hf]
        refine HandSPX.setFlight_upZ fl3 fun h4 hh4 up4 => wpAny_throw (tk _ _ ?_)
        exact ⟨a, B, sI, pins, σ', H', cls, d, rfl, J, nb, (up.trans up3).trans up4, .inr (.inr (by rw [hs]; exact hh4)), na, os, ag, hno rfl⟩
      first
        | exact wpAny_bind (wpAny_pure (wpAny_bind fin))
        | exact wpAny_bind fin
  · cases f with
    | next =>
      obtain ⟨σ', H', J', q⟩ := hsp
      exact wpAny_execs_nil ⟨σ', H', J'.ofTry ok, q⟩
    | brk =>
      obtain ⟨σ', H', J', q⟩ := hsp
      exact ⟨σ', H', J'.ofTry ok, q⟩
    | cont =>
      obtain ⟨σ', H', J', q⟩ := hsp
      exact ⟨σ', H', J'.ofTry ok, q⟩
    | ret u =>
      obtain ⟨v, σ', H', J', r, q⟩ := hsp
      exact ⟨v, σ', H', J'.ofTry ok, r, q⟩
end
end IRS

namespace IRS
open PySem PySem.Spec PyProof.Rows L2
/-! ### isinstance of a known exception, with a dict or without one -/
section
open PySem.W PySem.Calls
variable {prog : Program} {w : World} {A : Around} {E : Value → Shared → Prop} {s : Shared} {K : Frag} {x D : Addr} {ox : Obj} {od : Option Obj}
theorem findObj_dataO {C : Addr} {name : Str} {a g : Value} (hc : (clsIn K C).isSome = true) (ha : findIn K (.ref C) name = some (some a)) (hg : specialIn K a "__get__" = some (some g)) (ht : takesIn K a = some true) : findObj K C od name = some (.bind g a) := by
  obtain ⟨cd, hc⟩ := Option.isSome_iff_exists.mp hc
  unfold findObj
  rw [hc, Option.bind_some, ha, Option.bind_some]
  simp [hg, ht]
theorem kin_classO {Q : Option Value → Shared → Prop} (hga : findIn K (.ref D) "__getattribute__" = some (some (.builtin "BaseException.__getattribute__"))) (hgt : findIn K (.ref D) "__getattr__" = some none) (hsub : subIn K (.ref D) (.type "BaseException") = some true)
    (hdct : hasDictIn K D = true) (ha : findIn K (.ref D) "__class__" = some (some (.builtin "object.__class__")))
    (hn : specialIn K (.builtin "object.__class__") "__get__" = some (some (.builtin "getset_descriptor.__get__"))) (htk : takesIn K (.builtin "object.__class__") = some true) (hm : mroIn K D (.type "object") = some true)
    (X : K.In s.heap) (I : PySem.W.InstAt s.heap x ox D od) (h : Q (some (.ref D)) { s with toks := s.toks + 1 }) : wpAny (model prog w) A (getAttr? (.ref x) "__class__") Q E s := by
  have hf : findObj K D od "__class__" = some (.bind (.builtin "getset_descriptor.__get__") (.builtin "object.__class__")) := findObj_dataO (by obtain ⟨cd, hc, _⟩ := PySem.W.any_some hdct; rw [hc]; rfl) ha hn htk
  obtain ⟨hp, g, d, t, os⟩ := s
  have L0 := I.type (M := model prog w)
  have L1 := looks_findIn (M := model prog w) X hga
  have L2 := looks_findIn (M := model prog w) X hgt
  have L3 := looks_find (M := model prog w) X I hf
  have sub : Looks (model prog w) hp (isInstance (.ref x) (.type "BaseException")) true := L0.andThen (looks_subIn X hsub)
  have hx0 : (false && onTheHeap (Value.builtin "BaseException.__getattribute__")) = false := rfl
  have hx2 : (Value.builtin "BaseException.__getattribute__" == Value.builtin "object.__getattribute__") = false := by decide +kernel
  have hx1 : (onTheHeap (Value.ref D) && Value.builtin "BaseException.__getattribute__" == Value.builtin "object.__getattribute__") = false := by rw [hx2]; rfl
  unfold getAttr? getAttrBy? getAttrBy
  refine wpAny_bind (wpAny_mkText (wpAny_bind (wpAny_attempt (wpAny_holding (wpAny_bind (L0.at (wpAny_bind (L1.at ?_))))))))
  show wpAny _ _ (if (onTheHeap (Value.ref D) && Value.builtin "BaseException.__getattribute__" == Value.builtin "object.__getattribute__") = true then _ else _) _ _ _
  rw [hx1, if_neg Bool.false_ne_true]
  unfold getAttrByItsOwn hookBefore
  refine wpAny_bind ?_
  rw [if_pos (show onTheHeap (Value.ref D) = true from rfl)]
  refine L2.at ?_
  refine wpAny_bind (wpAny_attempt (wpAny_holding ?_))
  unfold callGetattribute
  rw [hx0, if_neg Bool.false_ne_true]
  unfold boundAndCalled
  rw [PySem.F.excAttr_ValueError.ga.bind (.ref x)]
  refine wpAny_bind (wpAny_pure ?_)
  show wpAny _ _ (call (.builtin "BaseException.__getattribute__") [.ref x, .str "__class__" t]) _ _ _
  refine wpAny_call (codeAny_call_builtin PySem.F.excAttr_ValueError.ga.plain PySem.F.entry_bexc_ga ?_)
  refine @check_slot (model prog w) _ _ ⟨hp, g, d, t + 1, os⟩ "BaseException.__getattribute__" "BaseException" "__getattribute__" (.ref x) [.str "__class__" t] [] _ (by decide +kernel) (by decide +kernel) sub (PySem.F.args_bexc_ga (.ref x) (.str "__class__" t)) ?_
  unfold Builtin.«object.__getattribute__»
  refine wpAny_bind (wpAny_of_eq (a := ((Value.ref x : Value), [Value.str "__class__" t])) (by first | rfl | (simp only [slotArgs]; rfl)) ?_)
  refine wpAny_bind (wpAny_pure (wpAny_bind (L0.at (wpAny_bind (L3.at ?_)))))
  show wpAny _ _ (holding [Value.builtin "object.__class__"] (call (.builtin "getset_descriptor.__get__") [.builtin "object.__class__", .ref x, .ref D]) >>= ret) _ _ _
  refine wpAny_bind (wpAny_holding (wpAny_call (class_get (s := ⟨hp, g, d, t + 1, os⟩) (ox := ox) (od := od) X I hm ?_)))
  refine wpAny_pure ?_
  show wpAny _ _ (handedOut (.ref D)) _ _ _
  rw [handedOut_of (v := .ref D) rfl]
  first
    | exact wpAny_pure (wpAny_pure h)
    | exact wpAny_pure h
    | exact wpAny_pure (wpAny_bind (wpAny_pure (wpAny_pure h)))
theorem kitx_O (C : ExcC K D) : KitX K (.ref x) (.ref D) (fun h => PySem.W.InstAt h x ox D od) where
  ty := fun _ _ _ I => I.type
  it := fun _ _ X _ => by
    obtain ⟨cdD, hcD, _⟩ := PySem.W.any_some C.hd
    unfold clsIn at hcD
    split at hcD
    · rename_i c' d' cd' sl' ho
      intro A' Q' E' s' k q
      unfold isType loadHead
      exact wpAny_bind (wpAny_loadPart (k _ _ (X _ _ ho)) (wpAny_pure q))
    · cases hcD
  ne := fun h tp dd its n sl X htp => by
    obtain ⟨cdD, hcD, _⟩ := PySem.W.any_some C.hd
    refine Bool.eq_false_iff.mpr fun q => ?_
    have e : D = tp := Value.ref.inj (beq_iff_eq.mp q)
    subst e
    unfold clsIn at hcD
    split at hcD
    · rename_i c' d' cd' sl' ho
      have z := (X _ _ ho).symm.trans htp
      cases z
    · cases hcD
  ca := fun X I k => kin_classO C.hg C.hk C.hs C.hd C.ha C.hn C.ht C.hm X I k
end
/-- the dict of an exception stands -/
def DcOk (H : Hp) (oe : Obj) : Prop := oe.dict = none ∨ ∃ d o u, oe.dict = some d ∧ H d = some (.frz o u)
theorem inst_O {X : Cx} {pins : List (Addr × Obj)} {σ : L2.St} {H : Hp} {s : Shared} {a D : Addr} {oe : Obj} (I : Inv X pins σ H s) (hH : H a = some (isO a oe)) (hc : oe.cls = .ref D) (hf : ∃ vs, oe.data = .fields vs) (hd : DcOk H oe) : ∃ od, PySem.W.InstAt s.heap a oe D od := by
  have hget : s.heap.get? a = some oe := (I.hok a _ hH).1
  obtain ⟨vs, hv⟩ := hf
  obtain ⟨oc, od, oda, osl⟩ := oe
  dsimp only at hc hv
  subst hc hv
  rcases hd with hd | ⟨d, o, u, hd, hu⟩
  · dsimp only at hd
    subst hd
    exact ⟨none, hget, rfl, rfl, trivial⟩
  · dsimp only at hd
    subst hd
    exact ⟨some o, hget, rfl, rfl, (I.hok d _ hu).1⟩
/-- isinstance(e, c), e an exception that is known -/
def rIsO1 (K : PySem.W.Frag) : List V → Hp → VK → Prop := fun xs H Q => ∃ (a D : Addr) (oe : Obj) (c : V) (cv : Value) (b : Bool), xs = [.ref a, c] ∧ H a = some (isO a oe) ∧ ExcC K D ∧ oe.cls = .ref D ∧ (∃ vs, oe.data = .fields vs) ∧ DcOk H oe ∧ ClsV c cv ∧ PySem.W.kitOne K (.ref D) cv = some b ∧ Q (.bl b) H
theorem call_isO1 {X : Cx} : CallR X (.builtin "isinstance") (rIsO1 X.K) := by
  intro pins s σ H xs us Q I r h
  obtain ⟨a, D, oe, c, cv, b, rfl, hH, C, hz, hf, hd, hcv, e, q⟩ := h
  obtain ⟨u1, u2, rfl, r1, r2⟩ := vals2 r
  cases (show u1 = Value.ref a from r1)
  have ec := hcv.eq r2
  subst ec
  obtain ⟨od, J⟩ := inst_O I hH hz hf hd
  exact PySem.W.kia_one (kitx_O C) I.kIn J e (fun z => nomatch z) fun tk => ⟨.bl b, H, I.kept (t' := tk) fun _ _ z => z, rfl, q⟩
/-- isinstance(e, (c1, c2, ..)) -/
def rIsOn (K : PySem.W.Frag) : List V → Hp → VK → Prop := fun xs H Q => ∃ (a D tp : Addr) (oe : Obj) (cs : List V) (us : List Value) (b : Bool), xs = [.ref a, .ref tp] ∧ H tp = some (.tup cs) ∧ Paired ClsV cs us ∧ H a = some (isO a oe) ∧ ExcC K D ∧ oe.cls = .ref D ∧ (∃ vs, oe.data = .fields vs) ∧ DcOk H oe ∧ PySem.W.kitAny K (.ref D) us = some b ∧ Q (.bl b) H
theorem call_isOn {X : Cx} : CallR X (.builtin "isinstance") (rIsOn X.K) := by
  intro pins s σ H xs us Q I r h
  obtain ⟨a, D, tp, oe, cs, ws, b, rfl, hT, k, hH, C, hz, hf, hd, e, q⟩ := h
  obtain ⟨u1, u2, rfl, r1, r2⟩ := vals2 r
  cases (show u2 = Value.ref tp from r2)
  cases (show u1 = Value.ref a from r1)
  obtain ⟨od, J⟩ := inst_O I hH hz hf hd
  obtain ⟨_, its, rv, o, h1, h2, n, h3⟩ := (show ObjOk X.prog X.w H s.heap tp (.tup cs) from I.hok tp _ hT)
  have e3 := ClsV.all k rv
  subst e3
  obtain ⟨oc, od, dt, sl⟩ := o
  simp only at h2 h3
  subst h2 h3
  exact PySem.W.kia_tup (kitx_O C) I.kIn J h1 e (fun z => nomatch z) fun tk => ⟨.bl b, H, I.tok tk, rfl, q⟩
/-! ### the classes of exceptions -/
/-- a class as isinstance and except see it, by its number: 9 is ValueError -/
def xvV (K : PySem.W.Frag) (l : List (Nat × Str)) (c : Nat) : Option V := if c = 9 then some (.ty "ValueError") else (l.lookup c).map fun x => .ref (He.ga K x)
def xvW (K : PySem.W.Frag) (l : List (Nat × Str)) (c : Nat) : Option Value := if c = 9 then some (.type "ValueError") else (l.lookup c).map fun x => .ref (He.ga K x)
def eqE (a : Option (Option Value)) (b : String) : Bool := decide (a = some (some (.builtin b)))
def excB (K : PySem.W.Frag) (D : Addr) : Bool := eqE (PySem.W.findIn K (.ref D) "__getattribute__") "BaseException.__getattribute__" && (decide (PySem.W.findIn K (.ref D) "__getattr__" = some none) && (decide (PySem.W.subIn K (.ref D) (.type "BaseException") = some true) && (PySem.W.hasDictIn K D &&
  (eqE (PySem.W.findIn K (.ref D) "__class__") "object.__class__" && (eqE (PySem.W.specialIn K (.builtin "object.__class__") "__get__") "getset_descriptor.__get__" && (decide (PySem.W.takesIn K (.builtin "object.__class__") = some true) && decide (PySem.W.mroIn K D (.type "object") = some true)))))))
theorem excB_ok {K : PySem.W.Frag} {D : Addr} (h : excB K D = true) : ExcC K D := by
  unfold excB eqE at h
  simp only [Bool.and_eq_true, decide_eq_true_eq] at h
  obtain ⟨h1, h2, h3, h4, h5, h6, h7, h8⟩ := h
  exact ⟨h1, h2, h3, h4, h5, h6, h7, h8⟩
/-- what is asked of the written part -/
def xB (K : PySem.W.Frag) (l : List (Nat × Str)) : Bool := l.all fun p => decide (p.1 ≠ 9) && (decide (PySem.W.nsIn K mainGlobals p.2 = some (some (.ref (He.ga K p.2)))) && (excB K (He.ga K p.2) &&
  (decide (PySem.W.kitOne K (.ref (He.ga K p.2)) (.type "ValueError") = some true) && (decide (PySem.W.exmOne K (.ref (He.ga K p.2)) (.type "ValueError") = some true) &&
  l.all fun q => decide (PySem.W.exmOne K (.ref (He.ga K p.2)) (.ref (He.ga K q.2)) = some (IR.subX p.1 q.1)) && decide (PySem.W.kitOne K (.ref (He.ga K p.2)) (.ref (He.ga K q.2)) = some (IR.subX p.1 q.1))))))
structure XAll (D : Wd) (l : List (Nat × Str)) : Prop where
  clX : ∀ c, D.N.clX c = (l.lookup c).map (He.ga D.N.K)
  nm : ∀ c x, l.lookup c = some x → D.mg x = some (.ref (He.ga D.N.K x))
  ok : ∀ c x, l.lookup c = some x → ExcC D.N.K (He.ga D.N.K x)
  kit : ∀ c x y u, l.lookup c = some x → xvW D.N.K l y = some u → PySem.W.kitOne D.N.K (.ref (He.ga D.N.K x)) u = some (IR.subX c y)
  exm : ∀ c x y u, l.lookup c = some x → xvW D.N.K l y = some u → PySem.W.exmOne D.N.K (.ref (He.ga D.N.K x)) u = some (IR.subX c y)
theorem lookup_mem' {α β : Type} [BEq α] [LawfulBEq α] {l : List (α × β)} {c : α} {x : β} (h : l.lookup c = some x) : (c, x) ∈ l := by
  induction l with
  | nil => cases h
  | cons p r ih =>
    obtain ⟨a, b⟩ := p
    by_cases e : c = a
    · subst e
      simp only [List.lookup, beq_self_eq_true] at h
      cases h
      exact List.mem_cons_self
    · simp only [List.lookup, beq_eq_false_iff_ne.mpr e] at h
      exact List.mem_cons_of_mem _ (ih h)
theorem xall {D : Wd} {l : List (Nat × Str)} {h : Heap} (X : D.N.K.In h) (G : h.Ns mainGlobals D.mg) (hx : ∀ c, D.N.clX c = (l.lookup c).map (He.ga D.N.K)) (hB : xB D.N.K l = true) : XAll D l := by
  have key : ∀ c x, l.lookup c = some x → _ := fun c x e => List.all_eq_true.mp hB (c, x) (lookup_mem' e)
  simp only [Bool.and_eq_true, decide_eq_true_eq, List.all_eq_true] at key
  refine ⟨hx, fun c x e => PySem.W.mg_of X G (key c x e).2.1, fun c x e => excB_ok (key c x e).2.2.1, fun c x y u e eu => ?_, fun c x y u e eu => ?_⟩
  · unfold xvW at eu
    split at eu
    · rename_i h9
      cases eu
      rw [h9, (key c x e).2.2.2.1]
      simp [IR.subX]
    · obtain ⟨z, hz, rfl⟩ := Option.map_eq_some_iff.mp eu
      exact ((key c x e).2.2.2.2.2 _ (lookup_mem' hz)).2
  · unfold xvW at eu
    split at eu
    · rename_i h9
      cases eu
      rw [h9, (key c x e).2.2.2.2.1]
      simp [IR.subX]
    · obtain ⟨z, hz, rfl⟩ := Option.map_eq_some_iff.mp eu
      exact ((key c x e).2.2.2.2.2 _ (lookup_mem' hz)).1
/-! ### the head's hook, with one thing more asked of the written part -/
def obsE (n : Nat) (fa : List He.Fa) (fn : List He.DefD) (ex : PySem.W.Frag → Bool) (g : Addr → Option Obj) : He.AlD × Bool := (He.obsDG n fa fn g, ex (He.frG g (He.asD g n)))
def hookE (n : Nat) (fa : List He.Fa) (fn : List He.DefD) (ex : PySem.W.Frag → Bool) : PySem.W.Hook where
  α := He.AlD × Bool
  obs := fun s => obsE n fa fn ex s.heap.get?
  val := fun _ => (He.valD fn, true)
  says := fun _ h => ∃ K : PySem.W.Frag, K.In h ∧ He.SaysD fa fn K ∧ ex K = true
  of := fun _ _ e => ⟨_, He.frG_in, congrArg Prod.fst e, congrArg Prod.snd e⟩
  keeps := fun _ _ _ ⟨K, hK, c⟩ k => ⟨K, PySem.W.Frag.In.keeps hK k, c⟩
theorem obsE_eq {n : Nat} {fa : List He.Fa} {fn : List He.DefD} {ex : PySem.W.Frag → Bool} {g : Addr → Option Obj} {s : Shared} (h : ∀ a, g a = s.heap.get? a) : obsE n fa fn ex g = (hookE n fa fn ex).obs s := by
  have e : g = s.heap.get? := funext h
  rw [e] <;> rfl
/-- a class without own __init__: it may be raised so -/
structure RaOk (K : PySem.W.Frag) (x : Str) : Prop where
  ex : PySem.W.excIn K (He.ga K x) He.veBase "ValueError.__new__" = true
  kp : PySem.W.keepIn K (.ref (He.ga K x)) = true
  sb : PySem.W.subIn K (.ref (He.ga K x)) (.type "BaseException") = some true
  ty : PySem.W.typeIn K (.ref (He.ga K x)) = some (.type "type")
/-! ### rules -/
section
variable {D : Wd} {X : Cx} {c : Ctx} {k : Nat} {F : Fm} {pos : Pos} {a b e o tg : Expr} {es : List Expr} {call : Nat → List IR.D → IR.M IR.D} {x y z : IR.E} {p apos cpos tpos p2 p3 : Pos} {n : Str} {l : List (Nat × Str)}
theorem Rep.exn {N : Nm} {μ : List Addr} {H : Hp} {S : IR.Sto} {r c : Nat} {fs : List (Nat × IR.D)} {v : V} (R : Rel N μ S H) (rv : RepV N μ H (.ref r) v) (h : S[r]? = some (.exn c fs)) :
    ∃ a C oe, v = .ref a ∧ H a = some (isO a oe) ∧ N.clX c = some C ∧ oe.cls = .ref C ∧ (∃ vs, oe.data = .fields vs) ∧ DcOk H oe := by
  obtain ⟨a, rfl, ha⟩ := rv.ref
  obtain ⟨C, oe, h1, h2, h3, h4, h5⟩ := R.ob r _ a h ha
  exact ⟨a, C, oe, rfl, h2, h1, h3, h4, h5.imp (fun z => z.2) fun ⟨dd, o, r, e1, e2, _⟩ => ⟨dd, o, _, e1, e2⟩⟩
theorem isx_at {cs : List Nat} {r : Nat} {S : IR.Sto} : IR.evOp (.isx cs) [.ref r] S = match S[r]? with
    | some (.exn c _) => .ok (.bl (cs.any (IR.subX c))) S
    | _ => .bad := rfl
theorem isx_bad {cs : List Nat} {d : IR.D} {S : IR.Sto} {N : Nm} {W : Fm} {μ : List Addr} {H : Hp} {Q : VK} (g : GV N W μ H (IR.evOp (.isx cs) [d] S) Q) : ∃ r c fs, d = .ref r ∧ S[r]? = some (.exn c fs) ∧ GV N W μ H (.ok (.bl (cs.any (IR.subX c))) S) Q := by
  cases d <;> first | exact g.elim | skip
  rename_i r
  rw [isx_at] at g
  cases h : S[r]? with
  | none => rw [h] at g; exact g.elim
  | some o =>
    rw [h] at g
    cases o with
    | exn c fs => exact ⟨r, c, fs, rfl, h, g⟩
    | lst l => exact g.elim
    | dK q l => exact g.elim
    | dT q l => exact g.elim
    | ins q l => exact g.elim
/-- the name of a class -/
structure XNm (D : Wd) (X : Cx) (l : List (Nat × Str)) (y : Nat) (e : Expr) (v : V) (u : Value) : Prop where
  pe : PE X e (tC v)
  cv : ClsV v u
  at_ : xvW D.N.K l y = some u
theorem xnm (C : Cm D X c k F) (A : XAll D l) {y : Nat} {xn : Str} (hg : c.sc.names.lookup xn = some .globalImplicit) (hy : l.lookup y = some xn) (h9 : y ≠ 9 := by decide) (hdb : (xn == ("__debug__" : Str)) = false := by rfl) : XNm D X l y (.Name xn p) (.ref (He.ga D.N.K xn)) (.ref (He.ga D.N.K xn)) :=
  ⟨pe_glob (C.gl hg) (by rw [C.mg]; exact A.nm _ _ hy) rfl hdb, .own _, by unfold xvW; rw [if_neg h9, hy]; rfl⟩
theorem xnv (C : Cm D X c k F) (hg : c.sc.names.lookup ("ValueError" : Str) = some .globalImplicit) (hm : D.mg "ValueError" = none) : XNm D X l 9 (.Name "ValueError" p) (.ty "ValueError") (.type "ValueError") :=
  ⟨pe_bltn (v := .ty "ValueError") (C.gl hg) (C.mgn hm) (by rfl) rfl (by decide) (by rfl), .ty _, rfl⟩
/-- isinstance(e, C) -/
theorem e_isx1 (C : Cm D X c k F) (A : XAll D l) {y : Nat} {ce : Expr} {v : V} {u : Value} (hc : XNm D X l y ce v u) (hg : c.sc.names.lookup ("isinstance" : Str) = some .globalImplicit) (hm : D.mg "isinstance" = none)
    (ha : PE X a (tV D F call x)) (hs : starEach [a, ce] X.env = (false, eval a X.env) :: starEach [ce] X.env) (hs2 : starEach [ce] X.env = (false, eval ce X.env) :: starEach [] X.env) (hpl : (backTo pos (starEach [ce] X.env)).any (·.1) = false := by rfl) :
    PE X (.Call (.Name "isinstance" p) [a, ce] [] pos) (tV D F call (.op (.isx [y]) (.cons false x .nil))) := by
  refine PE.weak (pe_callB call_isO1 (C.gl hg) (C.mgn hm) boot_isinstance (pa_cons ha (pa_cons hc.pe pa_nil hs2) hs) (he := hs) (hpl := hpl)) fun σ H Q q => ?_
  obtain ⟨μ, S, ρ, hI, R, hρ, g⟩ := q
  have g : GV D.N F μ H (((IR.evs D.g call (.cons false x .nil) ρ).bind fun l => IR.evOp (.isx [y]) l) S) Q := g
  rw [evs1] at g
  refine one (f := fun a => IR.evOp (.isx [y]) [a]) hI R hρ g fun μ2 S2 H2 d v' R2 rd g2 => ?_
  obtain ⟨r, cc, fs, rfl, hS, g2⟩ := isx_bad g2
  obtain ⟨a', C', oe, rfl, h2, h1, h3, h4, h5⟩ := Rep.exn R2 rd hS
  rw [A.clX] at h1
  obtain ⟨xc, hxc, rfl⟩ := Option.map_eq_some_iff.mp h1
  rw [C.K]
  refine ⟨a', _, oe, v, u, _, rfl, h2, A.ok _ _ hxc, h3, h4, h5, hc.cv, A.kit _ _ _ _ hxc hc.at_, ?_⟩
  have := GV.bl R2 g2
  simpa using this
/-- the names of classes -/
structure XNms (D : Wd) (X : Cx) (l : List (Nat × Str)) (ys : List Nat) (es : List Expr) (vs : List V) (us : List Value) : Prop where
  pa : PA X es (fun _ H Q => Q vs H)
  cv : Paired ClsV vs us
  at_ : ys.mapM (xvW D.N.K l) = some us
  len : vs.length = ys.length
theorem xn0 : XNms D X l [] [] [] [] := ⟨pa_nil, .nil, rfl, rfl⟩
theorem xn1 {y : Nat} {ys : List Nat} {v : V} {vs : List V} {u : Value} {us : List Value} (h : XNm D X l y e v u) (r : XNms D X l ys es vs us) (hs : starEach (e :: es) X.env = (false, eval e X.env) :: starEach es X.env) : XNms D X l (y :: ys) (e :: es) (v :: vs) (u :: us) :=
  ⟨PA.weak (pa_cons h.pe r.pa hs) fun σ H Q q => q, .cons h.cv r.cv, by rw [List.mapM_cons, h.at_, r.at_]; rfl, by simp [r.len]⟩
theorem kit_any {cc : Nat} {xc : Str} (A : XAll D l) (hxc : l.lookup cc = some xc) : ∀ {ys : List Nat} {us : List Value}, ys.mapM (xvW D.N.K l) = some us → PySem.W.kitAny D.N.K (.ref (He.ga D.N.K xc)) us = some (ys.any (IR.subX cc))
  | [], us, h => by cases h; rfl
  | y :: ys, us, h => by
    rw [List.mapM_cons] at h
    cases e1 : xvW D.N.K l y with
    | none => rw [e1] at h; cases h
    | some u =>
      cases e2 : ys.mapM (xvW D.N.K l) with
      | none => rw [e1, e2] at h; cases h
      | some us' =>
        rw [e1, e2] at h
        cases h
        have ih := kit_any A hxc e2
        have q := A.kit _ _ _ _ hxc e1
        have e : (y :: ys).any (IR.subX cc) = (IR.subX cc y || ys.any (IR.subX cc)) := rfl
        unfold PySem.W.kitAny
        rw [q, e]
        cases IR.subX cc y with
        | true => rfl
        | false => exact ih
theorem e_isxT (C : Cm D X c k F) (A : XAll D l) {ys : List Nat} {j} {vs : List V} {us : List Value} (hc : XNms D X l ys es vs us) (hg : c.sc.names.lookup ("isinstance" : Str) = some .globalImplicit) (hm : D.mg "isinstance" = none)
    (ha : PE X a (tV D F call x)) (hs : starEach [a, .Tuple es j p2] X.env = (false, eval a X.env) :: starEach [.Tuple es j p2] X.env) (hl : ys.length ≤ 1000) :
    PE X (.Call (.Name "isinstance" p) [a, .Tuple es j p2] [] pos) (tV D F call (.op (.isx ys) (.cons false x .nil))) := by
  refine PE.weak (pe_callB call_isOn (C.gl hg) (C.mgn hm) boot_isinstance (pa_cons ha (pa_cons (pe_tup hc.pa) pa_nil) hs) (he := hs)) fun σ H Q q => ?_
  obtain ⟨μ, S, ρ, hI, R, hρ, g⟩ := q
  have g : GV D.N F μ H (((IR.evs D.g call (.cons false x .nil) ρ).bind fun l => IR.evOp (.isx ys) l) S) Q := g
  rw [evs1] at g
  refine one (f := fun a => IR.evOp (.isx ys) [a]) hI R hρ g fun μ2 S2 H2 d v' R2 rd g2 => ?_
  refine ⟨by rw [hc.len]; exact Nat.le_trans hl (by decide), fun q hq => ?_⟩
  obtain ⟨r, cc, fs, rfl, hS, g2⟩ := isx_bad g2
  have R3 := R2.laid (o := .tup vs) hq
  obtain ⟨a', C', oe, rfl, h2, h1, h3, h4, h5⟩ := Rep.exn R3 (rd.mono (Ext.laid hq)) hS
  rw [A.clX] at h1
  obtain ⟨xc, hxc, rfl⟩ := Option.map_eq_some_iff.mp h1
  rw [C.K]
  exact ⟨a', _, q, oe, vs, us, _, rfl, upd_same, hc.cv, h2, A.ok _ _ hxc, h3, h4, h5, kit_any A hxc hc.at_, GV.bl R3 (GV.base (Ext.laid hq) g2)⟩
/-- raise C(e) -/
theorem st_raise (C : Cm D X c k F) (A : XAll D l) {y : Nat} {xn : Str} (hy : l.lookup y = some xn) (ra : RaOk D.N.K xn) (hfs : D.g.xfs.lookup y = some []) (hg : c.sc.names.lookup xn = some .globalImplicit)
    (ha : PA X [e] (tAs D F call (.cons true x .nil))) (hdb : (xn == ("__debug__" : Str)) = false := by rfl) (he : starEach [e] X.env = (false, eval e X.env) :: starEach [] X.env := by rfl) (hpl : (backTo p2 (starEach [] X.env)).any (·.1) = false := by rfl) (hh : c.hot = false := by rfl) :
    PS X (.Raise (some (.Call (.Name xn p) [e] [] p2)) none pos) (tSt D F call (.raise y (.cons true x .nil))) := by
  refine PS.weak (ps_raise (C.calm hh) C.tk (pmk_ownA (C := He.ga D.N.K xn) PySem.F.excBase_ValueError (by rw [C.K]; exact ra.ex) (by rw [C.mg]; exact A.nm _ _ hy) (by rw [C.K]; exact ra.kp) (raises_own (by rw [C.K]; exact ra.sb) (by rw [C.K]; exact ra.ty)) (C.gl hg) ha hdb he hpl)) fun E σ H q => ?_
  obtain ⟨μ, S, ρ, hI, R, hρ, g⟩ := q
  refine ⟨μ, S, ρ, hI, R, hρ, ?_⟩
  have g : GG D.N F μ H ((IR.evs D.g call (.cons true x .nil) ρ S).bind fun l => fun S => match D.g.xfs.lookup y with
    | some fs => .exc y (fs.zip l) S
    | none => .bad) (KF D.N F E H) := g
  cases er : IR.evs D.g call (.cons true x .nil) ρ S with
  | bad => rw [er] at g; exact g
  | exc cc fs S1 => rw [er] at g; exact g
  | ok ds S1 =>
    rw [er] at g
    have g : GG D.N F μ H ((match D.g.xfs.lookup y with
      | some fs => .exc y (fs.zip ds) S1
      | none => .bad) : IR.Res IR.Flow) (KF D.N F E H) := g
    rw [hfs] at g
    refine fun μ' H' e1 R1 vs rs => ⟨by rw [rs.length.2]; show 1 ≤ sizeLine; decide, ?_⟩
    exact g μ' H' (.ref (He.ga D.N.K xn)) none e1 R1 ⟨_, by rw [A.clX, hy]; rfl, rfl, .inl ⟨rfl, rfl⟩⟩ (fun d z => nomatch z) σ hI
/-! ### try -/
/-- where one stands in a try's body; in its suite -/
def Fb (F : Fm) (ws : List Nat) (σ0 : L2.St) (W : WX) : Fm where
  I := fun σ => F.I σ ∧ wipe σ ws = wipe σ0 ws
  as := fun j => F.as j && ws.contains j
  W := W
  put := fun σ i v h hI => by
    rw [Bool.and_eq_true] at h
    exact ⟨F.put σ i v h.1 hI.1, by rw [wipe_set (by simpa using h.2)]; exact hI.2⟩
  del := fun σ i h hI => by
    rw [Bool.and_eq_true] at h
    exact ⟨F.del σ i h.1 hI.1, by rw [wipe_set (by simpa using h.2)]; exact hI.2⟩
def Fs (F : Fm) (i : Nat) : Fm where
  I := fun σ => F.I (σ.set i none)
  as := F.as
  W := fun _ _ _ _ => False
  put := fun σ j v h hI => by
    by_cases e : j = i
    · subst e; rw [List.set_set]; exact hI
    · rw [List.set_comm _ _ e]; exact F.put _ j v h hI
  del := fun σ j h hI => by
    by_cases e : j = i
    · subst e; rw [List.set_set]; exact hI
    · rw [List.set_comm _ _ e]; exact F.del _ j h hI
def Ctx.heat (c : Ctx) : Ctx := ⟨c.N, c.sc, c.fs, true⟩
theorem Cm.tr (C : Cm D X c k F) {pn : List (Addr × Obj)} {xe : Value → Shared → Prop} {F' : Fm} (tk : Takes (X.tr pn xe) F'.W) : Cm D (X.tr pn xe) c k F' :=
  ⟨C.prog, C.w, C.K, C.mg, C.base, C.N, C.nd, C.sc, C.fs, C.kd, C.calm0, C.room0, tk⟩
theorem Cm.suite (C : Cm D X c k F) {pn : List (Addr × Obj)} {a : Addr} {F' : Fm} (tk : Takes (X.suite a pn) F'.W) : Cm D (X.suite a pn) c.heat k F' :=
  ⟨C.prog, C.w, C.K, C.mg, C.base, C.N, C.nd, C.sc, C.fs, C.kd, (fun z => nomatch (show true = false from z)), ⟨C.room0.dp, C.room0.un⟩, tk⟩
theorem wipeV_get {j : Nat} {d : IR.D} : ∀ {ws : List Nat} {ρ : IR.Env}, (IR.wipeV ρ ws)[j]? = some (some d) → j ∉ ws ∧ ρ[j]? = some (some d)
  | [], ρ, h => ⟨List.not_mem_nil, h⟩
  | i :: ws, ρ, h => by
    obtain ⟨h1, h2⟩ := wipeV_get (ws := ws) (ρ := ρ.set i none) h
    rw [List.getElem?_set] at h2
    split at h2
    · split at h2 <;> cases h2
    · rename_i hne
      exact ⟨fun hm => (List.mem_cons.mp hm).elim (fun e => hne e.symm) h1, h2⟩
theorem wipeV_len : ∀ {ws : List Nat} {ρ : IR.Env}, (IR.wipeV ρ ws).length = ρ.length
  | [], ρ => rfl
  | i :: ws, ρ => by
    have := wipeV_len (ws := ws) (ρ := ρ.set i none)
    rw [List.length_set] at this
    exact this
theorem wipe_get {j : Nat} {σ : L2.St} : ∀ {ws : List Nat}, j ∉ ws → (wipe σ ws)[j]? = σ[j]?
  | [], _ => rfl
  | i :: ws, h => by
    have h1 : i ≠ j := fun e => h (e ▸ List.mem_cons_self)
    have h2 : j ∉ ws := fun e => h (List.mem_cons_of_mem _ e)
    show ((wipe σ ws).set i none)[j]? = _
    rw [List.getElem?_set_ne h1, wipe_get h2]
theorem wipe_len {σ : L2.St} : ∀ {ws : List Nat}, (wipe σ ws).length = σ.length
  | [] => rfl
  | i :: ws => by
    show ((wipe σ ws).set i none).length = _
    rw [List.length_set, wipe_len]
theorem RSt.wiped {N : Nm} {μ : List Addr} {H : Hp} {ρ : IR.Env} {σ σ' : L2.St} {ws : List Nat} (h : RSt N μ H ρ σ) (e : L2.wipe σ' ws = L2.wipe σ ws) : RSt N μ H (IR.wipeV ρ ws) σ' := by
  refine ⟨by rw [wipeV_len, h.1, ← wipe_len (ws := ws), ← e, wipe_len], fun j d hd => ?_⟩
  obtain ⟨h1, h2⟩ := wipeV_get hd
  rw [← wipe_get h1, e, wipe_get h1]
  exact h.2 j d h2
theorem RSt.gone {N : Nm} {μ : List Addr} {H : Hp} {ρ : IR.Env} {σ : L2.St} {i : Nat} (h : RSt N μ H ρ σ) : RSt N μ H (ρ.set i none) (σ.set i none) := by
  refine ⟨by simp [h.1], fun j d hd => ?_⟩
  rw [List.getElem?_set] at hd ⊢
  split at hd
  · split at hd <;> cases hd
  · rename_i hne
    rw [if_neg hne]
    exact h.2 j d hd
theorem WExt.trans' {μ μ1 μ2 : List Addr} {H H1 H2 : Hp} (a : WExt μ H μ1 H1) (b : WExt μ1 H1 μ2 H2) : WExt μ H μ2 H2 := ⟨a.pre.trans b.pre, fun x vs e => b.tup _ _ (a.tup _ _ e), fun x o u e => b.frz _ _ _ (a.frz _ _ _ e), fun x o u e => b.frx _ _ _ (a.frx _ _ _ e)⟩
theorem w_frzd {N : Nm} {μ : List Addr} {H : Hp} {d : Addr} {r : List (Str × V)} {o : Obj} (hd : H d = some (.xd r)) : WExt μ H μ (upd H d (.frz o (.xd r))) :=
  ⟨List.prefix_refl _, fun a us z => by rw [upd_ne (fun e => by rw [e, hd] at z; cases z)]; exact z, fun a q us z => by rw [upd_ne (fun e => by rw [e, hd] at z; cases z)]; exact z, fun a q us z => by rw [upd_ne (fun e => by rw [e, hd] at z; cases z)]; exact z⟩
theorem Rel.frzd {N : Nm} {μ : List Addr} {S : IR.Sto} {H : Hp} {d : Addr} {r : List (Str × V)} {o : Obj} (R : Rel N μ S H) (hd : H d = some (.xd r)) (hm : d ∉ μ) : Rel N μ S (upd H d (.frz o (.xd r))) :=
  ⟨R.len, R.nd, fun i q a h1 h2 => (R.ob i q a h1 h2).mono (w_frzd (N := N) hd) (upd_ne fun e => hm (e ▸ List.mem_of_getElem? h2))⟩
theorem st_try {y i : Nat} {xn n : Str} {bd sd : IR.Ss} {ws : List Nat} {body suite : List Stmt} {b₀ : Stmt} {np pos' : Pos} (C : Cm D X c k F) (hx : Fx X) (A : XAll D l) (hN : c.N[i]? = some n) (hln : c.sc.names.lookup n = some .local)
    (hy : l.lookup y = some xn) (hg : c.sc.names.lookup xn = some .globalImplicit) (has : ∀ j, F.as j = true)
    (hb : ∀ (pn : List (Addr × Obj)) (xe : Value → Shared → Prop) (F' : Fm), Cm D (X.tr pn xe) c k F' → Fx (X.tr pn xe) → PassesOwn (model X.prog X.w) X.A X.env xe → (∀ j, ws.contains j = true → F'.as j = true) → PSs (X.tr pn xe) body (tSs D F' call bd))
    (hs : ∀ (a : Addr) (pn : List (Addr × Obj)) (F' : Fm), Cm D (X.suite a pn) c.heat k F' → (∀ j, F'.as j = true) → PSs (X.suite a pn) (b₀ :: suite) (tSs D F' call sd)) (h9 : y ≠ 9 := by decide) (hdb : (xn == ("__debug__" : Str)) = false := by rfl) :
    PS X (.Try body [.ExceptHandler (some (.Name xn np)) (some n) (b₀ :: suite) pos'] [] [] pos) (tSt D F call (.try_ bd ws y i sd)) := by
  have hv : xvW D.N.K l y = some (.ref (He.ga D.N.K xn)) := by unfold xvW; rw [if_neg h9, hy]; rfl
  have P := ps_try_asX (x := xn) (n := n) (c := .ref (He.ga D.N.K xn)) (i := i) (body := body) (suite := suite) (b₀ := b₀) (np := np) (pos := pos) (pos' := pos') (tb := fun W E σ H => tS D.N (Fb F ws σ W) (IR.exs D.g call bd) E σ H) (ts := tSs D (Fs F i) call sd) (Wout := F.W)
    hx.ex hx.st hx.fr (by rw [C.N]; exact C.nd) (by rw [C.N]; exact hN) (by show X.env.scope.names.lookup n = _; rw [C.sc]; exact hln) ⟨C.gl hg, hdb, .inl (by rw [C.mg]; exact A.nm _ _ hy)⟩ C.tk
    (fun W pn xe tk' hp' => ⟨fun pins s σ H E I h => (hb pn xe (Fb F ws σ W) (C.tr tk') ⟨hx.ex, hx.st, hx.fr⟩ hp' (fun j hj => by show (F.as j && ws.contains j) = true; rw [has j, hj]; rfl)).run pins s σ H E I h⟩)
    (fun a pn => hs a pn (Fs F i) (C.suite takes00) has)
  refine PS.weak P fun E σ H q => ?_
  obtain ⟨μ, S, ρ, hI, R, hρ, g⟩ := q
  refine ⟨μ, S, ρ, ⟨hI, rfl⟩, R, hρ, ?_⟩
  have g : GG D.N F μ H (IR.caught y i ws ρ (IR.exs D.g call bd ρ) (fun ρ => IR.exs D.g call sd ρ) S) (KF D.N F E H) := g
  unfold IR.caught at g
  cases er : IR.exs D.g call bd ρ S with
  | bad => rw [er] at g; exact g
  | ok fl S1 =>
    rw [er] at g
    intro μ' H' e R'
    have g := g μ' H' e R'
    cases fl with
    | next ρ' => exact fun σ' hI' => g σ' hI'.1
    | brk ρ' => exact fun σ' hI' => g σ' hI'.1
    | cnt ρ' => exact fun σ' hI' => g σ' hI'.1
    | ret d => exact g
  | exc c' fs S1 =>
    rw [er] at g
    dsimp only at g
    intro μ' H' cls dd e R' rx nw σ' hI'
    obtain ⟨C', hC', rfl, rfs⟩ := id rx
    have hC2 := hC'
    rw [A.clX] at hC'
    obtain ⟨xc, hxc, rfl⟩ := Option.map_eq_some_iff.mp hC'
    show wAsX X.K _ i _ F.W E _ dd σ' H'
    refine ⟨IR.subX c' y, by rw [C.K]; exact A.exm _ _ _ _ hxc hv, fun hb1 => ?_, fun hb0 => ?_⟩
    · rw [if_pos hb1] at g
      have frA : ∀ {p : Addr}, H' p = none → H p = none := fun {p} hp => none_of fun o z => by
        by_cases hm : p ∈ μ
        · obtain ⟨u, e1, _⟩ := R'.mem_some (e.pre.subset hm)
          rw [hp] at e1; cases e1
        · have := e.keep p o hm z
          rw [hp] at this; cases this
      have hdn : ∀ {d : Addr}, dd = some d → d ∉ μ' := fun {d} hd => rx.fresh R' hd
      have fin : ∀ (a : Addr) (oe : Obj) (Hn : Hp), H' a = none → Zc (.ref (He.ga D.N.K xc)) dd oe → (∃ vs, oe.data = .fields vs) → Ext μ H (μ' ++ [a]) Hn → WExt μ' H' (μ' ++ [a]) Hn → Rel D.N (μ' ++ [a]) (S1 ++ [.exn c' fs]) Hn →
          tSs D (Fs F i) call sd { nx := fun σ' H' => E.nx (σ'.set i none) H', rt := E.rt, bk := fun σ' H' => E.bk (σ'.set i none) H', ct := fun σ' H' => E.ct (σ'.set i none) H' } (σ'.set i (some (.ref a))) Hn := by
        intro a oe Hn na hz hd e2 w2 R2
        have hat : (μ' ++ [a])[S1.length]? = some a := by rw [← R'.len]; simp
        refine ⟨μ' ++ [a], S1 ++ [.exn c' fs], (IR.wipeV ρ ws).set i (some (.ref S1.length)), ?_, R2, (((hρ.mono e.w).wiped hI'.2).mono w2).set (.ref hat), ?_⟩
        · show F.I ((σ'.set i (some (.ref a))).set i none)
          rw [List.set_set]
          exact F.del _ _ (has i) hI'.1
        · have g2 := KF.base e2 g
          have g2 : GG D.N F (μ' ++ [a]) Hn ((IR.noExc (IR.exs D.g call sd ((IR.wipeV ρ ws).set i (some (.ref S1.length)))) (S1 ++ [.exn c' fs])).bind fun fl => IR.M.pure (fl.gone i)) (KF D.N F E Hn) := g2
          unfold IR.noExc at g2
          cases es : IR.exs D.g call sd ((IR.wipeV ρ ws).set i (some (.ref S1.length))) (S1 ++ [.exn c' fs]) with
          | bad => rw [es] at g2; exact g2
          | exc c2 f2 S2 => rw [es] at g2; exact g2.elim
          | ok fl S2 =>
            rw [es] at g2
            intro μ6 H6 e6 R6
            have k := g2 μ6 H6 e6 R6
            cases fl with
            | next ρ6 => exact fun σ6 h6 r6 => k (σ6.set i none) h6 r6.gone
            | brk ρ6 => exact fun σ6 h6 r6 => k (σ6.set i none) h6 r6.gone
            | cnt ρ6 => exact fun σ6 h6 r6 => k (σ6.set i none) h6 r6.gone
            | ret d => exact k
      rcases rfs with ⟨rfl, rfl⟩ | ⟨d, r, rfl, hxd, fr⟩
      · refine ⟨none, (fun p z => nomatch z), fun a oe o na hz hd => fin a oe _ na hz hd ((e.updNew (frA na)).add (frA na)) ?_ ?_⟩
        · exact (Ext.laid na).w.trans' .add
        · exact (R'.laid na).add (R'.fresh na) ⟨_, oe, hC2, upd_same, hz.1, hd, .inl ⟨rfl, hz.2⟩⟩
      · refine ⟨some (d, r), fun p z => by cases z; exact hxd, fun a oe o na hz hd => ?_⟩
        have hd2 : (upd H' a (isO a oe)) d = some (.xd r) := by rw [upd_ne (ne_of_none hxd na)]; exact hxd
        have w2 : WExt μ' H' μ' (upd (upd H' a (isO a oe)) d (.frz o (.xd r))) := (Ext.laid na).w.trans' (w_frzd (N := D.N) hd2)
        refine fin a oe _ na hz hd (((e.updNew (frA na)).updNew (nw d rfl)).add (frA na)) (w2.trans' .add) ?_
        refine ((R'.laid na).frzd hd2 (hdn rfl)).add (R'.fresh na) ⟨_, oe, hC2, ?_, hz.1, hd, .inr ⟨d, o, r, hz.2, upd_same, (fr.mono w2).mono .add⟩⟩
        rw [upd_ne (Ne.symm (ne_of_none hxd na))]
        exact upd_same
    · rw [if_neg (by rw [hb0]; decide)] at g
      exact g μ' H' _ dd e R' rx nw σ' hI'.1
end
end IRS

namespace IRS
open PySem PySem.Spec PyProof.Rows L2
/-! ### defs called within an except suite -/
theorem RoomB.mono {j k : Nat} {A : Around} (r : RoomB k A) (h : j ≤ k) : RoomB j A := ⟨by have := r.dp; omega, by have := r.un; omega⟩
theorem RoomB.deeper {k : Nat} {A : Around} (r : RoomB (k + 1) A) (env : Env) : RoomB k (A.deeper env) :=
  ⟨by have := r.dp; show A.depth + 1 + 3 * k + 5 < _; omega, by have := r.un; show A.units + 3 + 16 * k + 200 < _; omega⟩
structure FnHt (P : Program) (w : World) (K : PySem.W.Frag) (mg : Str → Option Value) (base : Heap) (CX : CXT) (k : Nat) (f : Addr) (fd : FuncData) (ps : List Str) (sp : Sp) : Prop where
  len : ∀ vs H Q E, sp vs H Q E → vs.length = ps.length
  run : ∀ (A : Around) (outer : List Env) (s : Shared) (H : Hp) (args : Args) (us : List Value) (vs : List V) (Q : VK) (E : XK), RoomB k A → Env0 P w K mg base A outer s H → BindsTo s fd args (ps.zip us) → Vals vs us → sp vs H Q E →
    codeAny (model P w) A (.call (.ref f) args) (CR CX outer P w H s Q E) s
/-- the context of such a def's body -/
def cxHt (CX : CXT) (P : Program) (w : World) (K : PySem.W.Frag) (mg : Str → Option Value) (base : Heap) (N : List Str) (qual : Str) (scope : Scope) (f : Addr) (cd : Value) (A : Around) (outer : List Env) (s : Shared) (H : Hp) (E : XK) : Cx :=
  { cxOf CX P w K mg base N qual scope f cd A outer s H E with calm := false }
theorem inv_startX {CX : CXT} {P : Program} {w : World} {K : PySem.W.Frag} {mg : Str → Option Value} {base : Heap} {N ps : List Str} {qual : Str} {scope : Scope} {f : Addr} {cd : Value} {A : Around} {outer : List Env} {s s1 : Shared} {H : Hp} {E : XK} {us : List Value} {vs : List V}
    (S : FnScope N ps scope) (e0 : Env0 P w K mg base A outer s H) (hl : vs.length = ps.length) (r : Vals vs us)
    (x : InCallC s s.heap.objs.size (bindL (envOfC qual scope s.heap.objs.size f cd).kindOf (ps.zip us) fun _ => none) (cellsFrom (s.heap.objs.size + 1) scope.names []) (bindC (envOfC qual scope s.heap.objs.size f cd).kindOf (ps.zip us) fun _ => none) s1) :
    Inv (cxHt CX P w K mg base N qual scope f cd A outer s H E) [] (L2.start N vs) H s1 := by
  have hpl : ps.length ≤ N.length := by have := congrArg List.length S.pre; rw [List.length_take] at this; omega
  obtain ⟨h1, tk, rfl, hk⟩ := x.done
  have noA : ∀ b : Addr, b ∉ (cxHt CX P w K mg base N qual scope f cd A outer s H E).ex := fun b z => absurd (show b ∈ ([] : List Addr) from z) (by simp)
  refine ⟨⟨e0.mod, S.kind, rfl, rfl, Nat.le_refl _, fun y z c h1 h2 => ?_, fun y hy => ?_, fun y c _ h => ?_, (fun z => Bool.noConfusion (show false = true from z)), Around.frames_deeper e0.frames, .inr ⟨rfl, rfl⟩, fun b z => absurd z (noA b), e0.bs, e0.bsz, fun b _ _ => noA b, fun b z => absurd z (noA b), e0.funs, e0.frf⟩,
    rfl, e0.bare, Un.kept hk, ⟨_, x.toInCall.ns, fun i y v h1 h2 h3 => ?_⟩, fun y c h => ⟨_, x.cell y c h⟩, e0.hok.fresh (Nat.le_refl _), fun y c h => ?_, fun p hp => absurd (show p ∈ ([] : List (Addr × Obj)) from hp) (by simp), e0.hok.kept hk, ?_⟩
  · exact name_of_addr x.apart (PySem.mem_of_lookup h1) (PySem.mem_of_lookup h2)
  · have hy : scope.names.lookup y = some .cell ∨ scope.names.lookup y = some .free := hy
    rcases hy with hy | hy
    · exact cell_has hy
    · exact absurd rfl (S.nofree _ (PySem.mem_of_lookup hy))
  · exact Nat.le_of_lt (x.above y c (PySem.mem_of_lookup h))
  · have hi : i < vs.length := by
      unfold L2.start at h2
      by_cases hi : i < vs.length
      · exact hi
      · rw [List.getElem?_append_right (by simpa using hi)] at h2
        rw [List.getElem?_replicate] at h2
        split at h2 <;> cases h2
    have ha : vs[i]? = some v := by
      unfold L2.start at h2
      rw [List.getElem?_append_left (by simpa using hi), List.getElem?_map] at h2
      cases e : vs[i]? with
      | none => rw [e] at h2; cases h2
      | some a => rw [e] at h2; cases h2; rfl
    obtain ⟨u, hu, rv⟩ := r.get ha
    have hp : ps[i]? = some y := by
      rw [← S.pre, List.getElem?_take_of_lt (by omega)]; exact h1
    have ndP : ps.Nodup := by rw [← S.pre]; exact S.nd.sublist (List.take_sublist _ _)
    refine ⟨u, rv, ?_⟩
    rcases S.par y (List.mem_of_getElem? hp) with k | k
    · exact .inl ⟨k, bindL_get ndP hp hu k⟩
    · obtain ⟨c, e⟩ := cell_has (n := s.heap.objs.size + 1) k
      refine .inr ⟨.inl k, c, e, ?_⟩
      have q := x.cell y c e
      rw [bindC_get ndP hp hu (by show scope.names.lookup y ≠ _; rw [k]; decide)] at q
      exact q
  · exact e0.hok.fresh (Nat.le_of_lt (x.above y c (PySem.mem_of_lookup h)))
  · unfold L2.start
    show _ = N.length
    rw [List.length_append, List.length_map, List.length_replicate]
    omega
theorem fn_ofX {CX : CXT} {P : Program} {w : World} {K : PySem.W.Frag} {mg : Str → Option Value} {base : Heap} {k : Nat} {f : Addr} {name qual : Str} {params : Arguments} {body : List Stmt} {scope : Scope} {dV kV doc pm cdv ct oc : Value} {an od : Option Addr}
    {osl : Array (Option Value)} {N ps : List Str} {sp : Sp} (lk : K.lookup f = some ⟨oc, od, .func (PySem.W.fnOf name qual params body scope dV kV doc pm an cdv ct), osl⟩) (hcd : PySem.W.codeIn K cdv qual = true) (S : FnScope N ps scope)
    (len : ∀ vs H Q E, sp vs H Q E → vs.length = ps.length)
    (hbody : ∀ (A : Around) (outer : List Env) (s : Shared) (H : Hp) (vs : List V) (Q : VK) (E : XK), RoomB k (A.deeper (envOfC qual scope s.heap.objs.size f cdv)) → sp vs H Q E →
      ∃ t, PSs (cxHt CX P w K mg base N qual scope f cdv A outer s H E) body t ∧ t { nx := fun _ H' => Q .non H', rt := Q } (L2.start N vs) H) :
    FnHt P w K mg base CX (k + 1) f (PySem.W.fnOf name qual params body scope dV kV doc pm an cdv ct) ps sp := by
  refine ⟨len, fun A outer s H args us vs Q E hr e0 hb r hsp => ?_⟩
  have hl := len _ _ _ _ hsp
  have KX : K.In s.heap := e0.mod.kin.keeps fun b o e => (e0.bs b o e).1
  have lim : s.heap.NoLimit := e0.mod.nolimit.keeps fun b o e => (e0.bs b o e).1
  have hkind : ∀ y ∈ ps.zip us, scope.names.lookup y.1 = some .local ∨ (scope.names.lookup y.1 = some .cell ∧ ((cellsFrom (s.heap.objs.size + 1) scope.names []).lookup y.1).isSome = true) := fun ⟨n, v⟩ hy => by
    rcases S.par n (List.of_mem_zip hy).1 with q | q
    · exact .inl q
    · exact .inr ⟨q, PySem.W.cellsFrom_some _ _ _ (.inl q)⟩
  refine codeAny_call_function (by have := hr.dp; omega) (KX _ _ lk) rfl S.co S.gen rfl (PySem.W.codeRec_of KX hcd) (hb _ _ _ _ ?_)
  refine wpAny_newFunctionEnv_cells S.kind hkind fun env he s1 x => ?_
  subst he
  refine ⟨lim.keeps x.toInCall.keep, codeAny_func ?_⟩
  obtain ⟨t, ht, hq⟩ := hbody A outer s H vs Q E (hr.deeper _) hsp
  have I : Inv (cxHt CX P w K mg base N qual scope f cdv A outer s H E) [] (L2.start N vs) H s1 := inv_startX S e0 hl r x
  refine wpAny_mono (ht.run [] s1 (L2.start N vs) H _ I hq) (fun fl s' hs => ?_) fun e s' hs => hs
  have fin : ∀ {σ' : L2.St} {H' : Hp} {v : V} {u : Value}, Inv (cxHt CX P w K mg base N qual scope f cdv A outer s H E) [] σ' H' s' → RelV v u → Q v H' → CE outer P w H s Q u s' :=
    fun {σ' H' v u} J rv q => ⟨v, H', J.os, J.bare, J.base, J.hok, rv, q⟩
  cases fl with
  | ret u =>
    obtain ⟨v, σ', H', J, rv, q⟩ := hs
    exact fin J rv q
  | next =>
    obtain ⟨σ', H', J, q⟩ := hs
    exact fin (v := V.non) (u := Value.none) J rfl q
  | brk =>
    obtain ⟨_, _, _, q⟩ := hs
    exact False.elim q
  | cont =>
    obtain ⟨_, _, _, q⟩ := hs
    exact False.elim q
section
variable {X : Cx} {CX : CXT} {k : Nat} {f : Addr} {fd : FuncData} {ps : List Str} {sp : Sp} {E : L2.St → XK}
theorem run_fnX {pins : List (Addr × Obj)} {σ : L2.St} {H : Hp} {s : Shared} {Q : VK} {us : List Value} {vs : List V} (F : FnHt X.prog X.w X.K X.mg X.base CX k f fd ps sp) (hr : RoomB k X.A) (hb : Binds X.K fd ps []) (hx : PassesAt CX X σ (E σ))
    (I : Inv X pins σ H s) (r : Vals vs us) (h : sp vs H Q (E σ)) : wpAny (model X.prog X.w) X.A (call (.ref f) us) (EP X pins σ Q) X.xe s := by
  have hl : us.length = ps.length := by rw [← r.length]; exact F.len _ _ _ _ h
  have b := hb s us I.kIn (by rw [List.append_nil]; exact hl)
  rw [List.append_nil] at b
  refine wpAny_call (codeAny_mono (F.run X.A X.stack s H ⟨us, []⟩ us vs Q (E σ) hr I.env0 b r h) fun r s' hq => ?_)
  cases r with
  | error e => exact hx pins H s e s' I hq
  | ok fl =>
    cases fl with
    | ret u => exact I.after hq
    | next => exact False.elim hq
    | brk => exact False.elim hq
    | cont => exact False.elim hq
end
structure FnAtH (D : Wd) (k : Nat) (m : List IR.D → IR.M IR.D) (i np : Nat) (f : Addr) (fd : FuncData) (ps : List Str) : Prop where
  kp : PySem.W.keepIn D.N.K (.ref f) = true
  bi : Binds D.N.K fd ps []
  ok : FnHt D.P D.w D.N.K D.mg D.base (L2.CX D.P D.w) k f fd ps (spOf D.N m np)
section
variable {D : Wd}
theorem FnAtH.up {n i np : Nat} {m : List IR.D → IR.M IR.D} {f : Addr} {fd : FuncData} {ps : List Str} (A : FnAtH D (2 * n) m i np f fd ps) : FnAtH D (2 * n + 1) m i np f fd ps :=
  ⟨A.kp, A.bi, A.ok.len, fun Ar outer s H args us vs Q E hr => A.ok.run Ar outer s H args us vs Q E (hr.mono (by omega))⟩
theorem ht0 {i np : Nat} {f : Addr} {fd : FuncData} {ps : List Str} (kp : PySem.W.keepIn D.N.K (.ref f) = true) (hn : ps.length = np) (bi : Binds D.N.K fd ps []) : FnAtH D (2 * 0) (IR.callD D.g 0 i) i np f fd ps :=
  ⟨kp, bi, ⟨fun vs H Q E h => h.1.trans hn.symm, fun A outer s H args us vs Q E _ _ _ _ ⟨_, μ, S, ds, _, _, g⟩ => by rw [IR.callD_z] at g; exact g.elim⟩⟩
theorem ht1 {n i np : Nat} {x qual : Str} {params : Arguments} {body : List Stmt} {scope : Scope} {dvs : List V} {kws : List (Str × V)} {f : Addr} {fd : FuncData} {Ns ps : List Str} {fn : IR.Fn}
    (F : FunD D.N.K x qual params body scope dvs kws f fd) (S : FnScope Ns ps scope) (hn : ps.length = np) (bi : Binds D.N.K fd ps []) (hg : D.g.fns i = some fn) (hnp : fn.np = np) (hns : fn.ns = Ns.length)
    (hbody : ∀ {X : Cx} {F' : Fm}, Cm D X ⟨Ns, scope, fun _ => true, true⟩ (2 * n + 1) F' → (∀ i, F'.as i = true) → PSs X body (tSs D F' (IR.callD D.g n) fn.body)) :
    FnAtH D (2 * (n + 1)) (IR.callD D.g (n + 1) i) i np f fd ps := by
  refine ⟨F.kp, bi, ?_⟩
  have e : 2 * (n + 1) = (2 * n + 1) + 1 := by omega
  rw [e]
  obtain ⟨oc, od, dV, kV, doc, pm, an, cdv, ct, osl, rfl, lk, hcd, _, _⟩ := F.ex
  refine fn_ofX lk hcd S (fun vs H Q E h => h.1.trans hn.symm) fun A outer s H vs Q E hr ⟨hl, μ, S0, ds, R, rs, g⟩ => ⟨tSs D (FmE E) (IR.callD D.g n) fn.body, hbody (F' := FmE E) ⟨rfl, rfl, rfl, rfl, rfl, rfl, S.nd, rfl, rfl, S.kind, (fun z => nomatch (show true = false from z)), hr, takes_of rfl rfl rfl rfl⟩ (fun _ => rfl), ?_⟩
  have hd : ds.length = np := by rw [rs.length]; exact hl
  refine ⟨μ, S0, ds.map some ++ List.replicate (fn.ns - fn.np) none, trivial, R, ?_, ?_⟩
  · rw [hns, hnp, ← hd]
    exact starts rs
  · have g : GV D.N (FmE E) μ H ((IR.exs D.g (IR.callD D.g n) fn.body (ds.map some ++ List.replicate (fn.ns - fn.np) none) S0).bind fun fl => match fl with
        | .next _ => IR.M.pure .non
        | .ret v => IR.M.pure v
        | _ => IR.M.bad) Q := by
      have e2 : IR.callD D.g (n + 1) i ds S0 = (IR.exs D.g (IR.callD D.g n) fn.body (ds.map some ++ List.replicate (fn.ns - fn.np) none) S0).bind fun fl => match fl with
        | .next _ => IR.M.pure .non
        | .ret v => IR.M.pure v
        | _ => IR.M.bad := by
        simp only [IR.callD_s, hg, hd.trans hnp.symm, if_true, IR.M.bind]
        try rfl
      rw [← e2]; exact g
    cases er : IR.exs D.g (IR.callD D.g n) fn.body (ds.map some ++ List.replicate (fn.ns - fn.np) none) S0 with
    | bad => rw [er] at g; exact g
    | exc c fs S => rw [er] at g; exact g
    | ok fl S1 =>
      rw [er] at g
      intro μ1 H1 e1 R1
      cases fl with
      | next ρ => exact fun σ' _ _ => g μ1 H1 e1 R1 .non Rep.non fun l _ z => nomatch z
      | brk ρ => exact g.elim
      | cnt ρ => exact g.elim
      | ret d => exact fun v rv tm => g μ1 H1 e1 R1 v rv tm
end
section
variable {D : Wd} {X : Cx} {c : Ctx} {k : Nat} {F : Fm} {pos p : Pos} {e : Expr} {es : List Expr} {call : Nat → List IR.D → IR.M IR.D} {n : Str}
/-- a call of a def within a suite -/
theorem s_callH (C : Cm D X c k F) {f : Addr} {fd : FuncData} {ps : List Str} {i np : Nat} {xs : IR.Es} (A : FnAtH D k (call i) i np f fd ps) (hg : Gl X n) (hm : D.mg n = some (.ref f)) (ha : PA X (e :: es) (tAs D F call xs))
    (ho : ∀ o ∈ esOwn xs, o = true) (hl : (esOwn xs).length = np) (hdb : (n == ("__debug__" : Str)) = false) (he : starEach (e :: es) X.env = (false, eval e X.env) :: starEach es X.env) (hpl : (backTo pos (starEach es X.env)).any (·.1) = false) :
    PE X (.Call (.Name n p) (e :: es) [] pos) (tV D F call (.call i xs)) := by
  have ok : FnHt X.prog X.w X.K X.mg X.base (L2.CX X.prog X.w) k f fd ps (spOf D.N (call i) np) := by rw [C.prog, C.w, C.K, C.mg, C.base]; exact A.ok
  refine ⟨fun pins s σ H Q I q => ?_⟩
  obtain ⟨μ, S, ρ, hI, R, hρ, g⟩ := q
  have q : tAs D F call xs σ H fun vs H1 => spOf D.N (call i) np vs H1 Q (WE F.W σ) := argsG (f := fun l => call i l) hI R hρ g fun μ2 S2 H2 ds vs _ R2 rs g2 => ⟨by rw [rs.length.2]; exact hl, μ2, S2, ds, R2, rs.reps ho, gv_call hI g2⟩
  refine wpAny_Call_Name_kw (ld_glob I hg (by rw [C.mg]; exact hm) ?_ hdb)
  refine PySem.W.callWith_K (h₀ := X.base) I.ok.mod.kin (by rw [C.K]; exact A.kp) (thn (ha.run pos pins s σ H _ I q) fun us s1 ⟨vs, H1, I1, r, q⟩ => ⟨I1.kIn, ?_⟩) he hpl
  exact run_fnX (E := WE F.W) ok C.room0 (by rw [C.K]; exact A.bi) (passAt C.tk σ) I1 r q
end
end IRS


/-! no two pairs of numbers within bounds have one hash -/
namespace TH
abbrev MM : Nat := 18446744073709551616
theorem lat (h l a b s t : Int) (e1 : h = 7788283243316379648 * a + 7590084986956340487 * b + 18446744073709551616 * s) (e2 : l = 14029467366897019727 * a + 3666569952317407232 * b + 18446744073709551616 * t)
    (h1 : -2147483648 < h) (h2 : h < 2147483648) (l1 : -8589934592 < l) (l2 : l < 8589934592) (a1 : -8000000000 ≤ a) (a2 : a ≤ 8000000000) (b1 : -999999 ≤ b) (b2 : b ≤ 999999) : a = 0 ∧ b = 0 := by
  have k0 : 340282366920938463463374607431768211456 * (-27681098 * a + 180081966 * b + 622070975 * s + -381731604 * t) = 11475184071507972640577945600 * h + -7041705203834641368496472064 * l + 5299397977434709275222999040 * a + -12200671875149609741553663737856 * b := by omega
  have k1 : 340282366920938463463374607431768211456 * (134040696 * a + 162188439 * b + 422284553 * s + -58181631 * t) = 7789775075471837055992987648 * h + -1073261656848005933297565696 * l + -394352115177777285914689536 * a + 55808213676042022175773902766080 * b := by omega
  have k2 : 340282366920938463463374607431768211456 * (191857493 * a + 108441550 * b + 193612305 * s + 144783729 * t) = 3571516639855996188890234880 * h + 2670788394900319745882456064 * l + 4314104342068670208451543040 * a + -7372598690643990561508303044608 * b := by omega
  have k3 : 340282366920938463463374607431768211456 * (-330126609 * a + -294031047 * b + -689940982 * s + -51057197 * t) = -12727164720917848424722726912 * h + -941839046179971097639780352 * l + 732509342034746879745458176 * a + 10676008214579329097969881317376 * b := by omega
  have c0 : -27681098 * a + 180081966 * b + 622070975 * s + -381731604 * t = 0 := by
    clear e1 e2 k1 k2 k3
    generalize -27681098 * a + 180081966 * b + 622070975 * s + -381731604 * t = c at k0 ⊢
    have y0 : -24642770139878249875764546804855603200 ≤ 11475184071507972640577945600 * h ∧ 11475184071507972640577945600 * h ≤ 24642770139878249875764546804855603200 := by clear k0; omega
    have y1 : -60487787110043891735327423044018765824 ≤ -7041705203834641368496472064 * l ∧ -7041705203834641368496472064 * l ≤ 60487787110043891735327423044018765824 := by clear k0; omega
    have y2 : -42395183819477674201783992320000000000 ≤ 5299397977434709275222999040 * a ∧ 5299397977434709275222999040 * a ≤ 42395183819477674201783992320000000000 := by clear k0; omega
    have y3 : -12200659674477734591943922184192262144 ≤ -12200671875149609741553663737856 * b ∧ -12200671875149609741553663737856 * b ≤ 12200659674477734591943922184192262144 := by clear k0; omega
    generalize 11475184071507972640577945600 * h = z0 at k0 y0
    generalize -7041705203834641368496472064 * l = z1 at k0 y1
    generalize 5299397977434709275222999040 * a = z2 at k0 y2
    generalize -12200671875149609741553663737856 * b = z3 at k0 y3
    clear h1 h2 l1 l2 a1 a2 b1 b2
    omega
  have c1 : 134040696 * a + 162188439 * b + 422284553 * s + -58181631 * t = 0 := by
    clear e1 e2 k0 k2 k3 c0
    generalize 134040696 * a + 162188439 * b + 422284553 * s + -58181631 * t = c at k1 ⊢
    have y0 : -16728414588383960886793564320752992256 ≤ 7789775075471837055992987648 * h ∧ 7789775075471837055992987648 * h ≤ 16728414588383960886793564320752992256 := by clear k1; omega
    have y1 : -9219247431352658195805998268165390336 ≤ -1073261656848005933297565696 * l ∧ -1073261656848005933297565696 * l ≤ 9219247431352658195805998268165390336 := by clear k1; omega
    have y2 : -3154816921422218287317516288000000000 ≤ -394352115177777285914689536 * a ∧ -394352115177777285914689536 * a ≤ 3154816921422218287317516288000000000 := by clear k1; omega
    have y3 : -55808157867828346133751726992177233920 ≤ 55808213676042022175773902766080 * b ∧ 55808213676042022175773902766080 * b ≤ 55808157867828346133751726992177233920 := by clear k1; omega
    generalize 7789775075471837055992987648 * h = z0 at k1 y0
    generalize -1073261656848005933297565696 * l = z1 at k1 y1
    generalize -394352115177777285914689536 * a = z2 at k1 y2
    generalize 55808213676042022175773902766080 * b = z3 at k1 y3
    clear h1 h2 l1 l2 a1 a2 b1 b2
    omega
  have c2 : 191857493 * a + 108441550 * b + 193612305 * s + 144783729 * t = 0 := by
    clear e1 e2 k0 k1 k3 c0 c1
    generalize 191857493 * a + 108441550 * b + 193612305 * s + 144783729 * t = c at k2 ⊢
    have y0 : -7669773579079140250536102482789007360 ≤ 3571516639855996188890234880 * h ∧ 3571516639855996188890234880 * h ≤ 7669773579079140250536102482789007360 := by clear k2; omega
    have y1 : -22941897618595624582116039164191309824 ≤ 2670788394900319745882456064 * l ∧ 2670788394900319745882456064 * l ≤ 22941897618595624582116039164191309824 := by clear k2; omega
    have y2 : -34512834736549361667612344320000000000 ≤ 4314104342068670208451543040 * a ∧ 4314104342068670208451543040 * a ≤ 34512834736549361667612344320000000000 := by clear k2; omega
    have y3 : -7372591318045299917517741536304955392 ≤ -7372598690643990561508303044608 * b ∧ -7372598690643990561508303044608 * b ≤ 7372591318045299917517741536304955392 := by clear k2; omega
    generalize 3571516639855996188890234880 * h = z0 at k2 y0
    generalize 2670788394900319745882456064 * l = z1 at k2 y1
    generalize 4314104342068670208451543040 * a = z2 at k2 y2
    generalize -7372598690643990561508303044608 * b = z3 at k2 y3
    clear h1 h2 l1 l2 a1 a2 b1 b2
    omega
  have c3 : -330126609 * a + -294031047 * b + -689940982 * s + -51057197 * t = 0 := by
    clear e1 e2 k0 k1 k2 c0 c1 c2
    generalize -330126609 * a + -294031047 * b + -689940982 * s + -51057197 * t = c at k3 ⊢
    have y0 : -27331378110846398322516766552766808064 ≤ -12727164720917848424722726912 * h ∧ -12727164720917848424722726912 * h ≤ 27331378110846398322516766552766808064 := by clear k3; omega
    have y1 : -8090335801935780142996187703286956032 ≤ -941839046179971097639780352 * l ∧ -941839046179971097639780352 * l ≤ 8090335801935780142996187703286956032 := by clear k3; omega
    have y2 : -5860074736277975037963665408000000000 ≤ 732509342034746879745458176 * a ∧ 732509342034746879745458176 * a ≤ 5860074736277975037963665408000000000 := by clear k3; omega
    have y3 : -10675997538571114518640783347494682624 ≤ 10676008214579329097969881317376 * b ∧ 10676008214579329097969881317376 * b ≤ 10675997538571114518640783347494682624 := by clear k3; omega
    generalize -12727164720917848424722726912 * h = z0 at k3 y0
    generalize -941839046179971097639780352 * l = z1 at k3 y1
    generalize 732509342034746879745458176 * a = z2 at k3 y2
    generalize 10676008214579329097969881317376 * b = z3 at k3 y3
    clear h1 h2 l1 l2 a1 a2 b1 b2
    omega
  clear k0 k1 k2 k3 e1 e2
  have ea : a = 15696404953 * (-27681098 * a + 180081966 * b + 622070975 * s + -381731604 * t) + 4477050077 * (134040696 * a + 162188439 * b + 422284553 * s + -58181631 * t) + 54537802950 * (191857493 * a + 108441550 * b + 193612305 * s + 144783729 * t) + 32197039083 * (-330126609 * a + -294031047 * b + -689940982 * s + -51057197 * t) := by clear c0 c1 c2 c3 h1 h2 l1 l2 a1 a2 b1 b2; omega
  have eb : b = -833819 * (-27681098 * a + 180081966 * b + 622070975 * s + -381731604 * t) + 5496410 * (134040696 * a + 162188439 * b + 422284553 * s + -58181631 * t) + 1033861 * (191857493 * a + 108441550 * b + 193612305 * s + 144783729 * t) + 2902455 * (-330126609 * a + -294031047 * b + -689940982 * s + -51057197 * t) := by clear c0 c1 c2 c3 ea h1 h2 l1 l2 a1 a2 b1 b2; omega
  rw [c0, c1, c2, c3] at ea eb
  exact ⟨by simpa using ea, by simpa using eb⟩
theorem cong (h l a b u v : Int) (e1 : h * 8589934592 + l = a * 14029467366897019727 + 18446744073709551616 * u) (e2 : (l * 2147483648 + h) * 11400714785074694791 + b * 14029467366897019727 = 18446744073709551616 * v) : (∃ s, h = 7788283243316379648 * a + 7590084986956340487 * b + 18446744073709551616 * s) ∧ ∀ s, h = 7788283243316379648 * a + 7590084986956340487 * b + 18446744073709551616 * s → ∃ t, l = 14029467366897019727 * a + 3666569952317407232 * b + 18446744073709551616 * t := by
  have f1 := Int.sub_eq_zero.mpr e1
  have f2 := Int.sub_eq_zero.mpr e2
  refine ⟨⟨-1633244959 * a - 467381882117324798 * b + v * 614540362697595703 - 379806830464837242 * (l * 2147483648 + h) - 2147483648 * u + h, ?_⟩, fun s es => ⟨u + (14029467366897019727 - 8589934592 * 1633244959) * a - 3534408746 * b - 8589934592 * s, ?_⟩⟩
  · have id : h - (7788283243316379648 * a + 7590084986956340487 * b + 18446744073709551616 * (-1633244959 * a - 467381882117324798 * b + v * 614540362697595703 - 379806830464837242 * (l * 2147483648 + h) - 2147483648 * u + h)) = -2147483648 * (h * 8589934592 + l - (a * 14029467366897019727 + 18446744073709551616 * u)) + 614540362697595703 * ((l * 2147483648 + h) * 11400714785074694791 + b * 14029467366897019727 - 18446744073709551616 * v) := by clear e1 e2 f1 f2; omega
    rw [f1, f2] at id
    exact Int.sub_eq_zero.mp (id.trans (by decide))
  · have fs := Int.sub_eq_zero.mpr es
    have id : l - (14029467366897019727 * a + 3666569952317407232 * b + 18446744073709551616 * (u + (14029467366897019727 - 8589934592 * 1633244959) * a - 3534408746 * b - 8589934592 * s)) = (h * 8589934592 + l - (a * 14029467366897019727 + 18446744073709551616 * u)) + -8589934592 * (h - (7788283243316379648 * a + 7590084986956340487 * b + 18446744073709551616 * s)) := by clear e1 e2 f1 f2 es fs; omega
    rw [f1, fs] at id
    exact Int.sub_eq_zero.mp (id.trans (by decide))
theorem off (h l a b u v : Int) (e1 : h * 8589934592 + l = 2870177450012600261 + a * 14029467366897019727 + 18446744073709551616 * u) (e2 : (l * 2147483648 + h) * 11400714785074694791 + b * 14029467366897019727 = 9148689060682678900 + 18446744073709551616 * v)
    (h1 : 0 ≤ h) (h2 : h < 2147483648) (l1 : 0 ≤ l) (l2 : l < 8589934592) (a1 : -4000000000 ≤ a) (a2 : a ≤ 4000000000) (b1 : 0 ≤ b) (b2 : b ≤ 999999) : False := by
  obtain ⟨⟨s, es⟩, ht⟩ := cong (h - 10584725455837954796) (l - 10903748335040358341) a b (u - 4928896882) (v - 14471649764131422581232636314) (by clear e2; omega) (by
    have id : ((l - 10903748335040358341) * 2147483648 + (h - 10584725455837954796)) * 11400714785074694791 + b * 14029467366897019727 - 18446744073709551616 * (v - 14471649764131422581232636314) = (l * 2147483648 + h) * 11400714785074694791 + b * 14029467366897019727 - (9148689060682678900 + 18446744073709551616 * v) := by clear e1 e2; omega
    exact Int.sub_eq_zero.mp (id.trans (Int.sub_eq_zero.mpr e2)))
  obtain ⟨t, et⟩ := ht s es
  have k3 : 340282366920938463463374607431768211456 * (-330126609 * a + -294031047 * b + -689940982 * s + -51057197 * t) = -12727164720917848424722726912 * (h - 10584725455837954796) + -941839046179971097639780352 * (l - 10903748335040358341) + 732509342034746879745458176 * a + 10676008214579329097969881317376 * b := by clear e1 e2 ht; omega
  clear e1 e2 ht es et
  generalize -330126609 * a + -294031047 * b + -689940982 * s + -51057197 * t = c at k3
  have y0 : 134713544374810531791523013149440632393341861888 ≤ -12727164720917848424722726912 * (h - 10584725455837954796) ∧ -12727164720917848424722726912 * (h - 10584725455837954796) ≤ 134713544402141909902369411471957398946108669952 := by clear k3; omega
  have y1 : 10269575923570523225694943320818216767324160000 ≤ -941839046179971097639780352 * (l - 10903748335040358341) ∧ -941839046179971097639780352 * (l - 10903748335040358341) ≤ 10269575931660859027630723463814404470611116032 := by clear k3; omega
  have y2 : -2930037368138987518981832704000000000 ≤ 732509342034746879745458176 * a ∧ 732509342034746879745458176 * a ≤ 2930037368138987518981832704000000000 := by clear k3; omega
  have y3 : 0 ≤ 10676008214579329097969881317376 * b ∧ 10676008214579329097969881317376 * b ≤ 10675997538571114518640783347494682624 := by clear k3; omega
  generalize -12727164720917848424722726912 * (h - 10584725455837954796) = z0 at k3 y0
  generalize -941839046179971097639780352 * (l - 10903748335040358341) = z1 at k3 y1
  generalize 732509342034746879745458176 * a = z2 at k3 y2
  generalize 10676008214579329097969881317376 * b = z3 at k3 y3
  clear h1 h2 l1 l2 a1 a2 b1 b2
  omega
def hx (la : Int) : Nat := (2870177450012600261 + (la % 18446744073709551616).toNat * 14029467366897019727) % 18446744073709551616
def rot (x : Nat) : Nat := (x * 2147483648) % 18446744073709551616 + x / 8589934592
def h2 (la lb : Int) : Nat := ((rot (hx la) * 11400714785074694791) % 18446744073709551616 + (lb % 18446744073709551616).toNat * 14029467366897019727) % 18446744073709551616
def raw (la lb : Int) : Nat := ((rot (h2 la lb) * 11400714785074694791) % 18446744073709551616 + 2870177450013471924) % 18446744073709551616
theorem rot_is {x : Nat} (hx : x < 18446744073709551616) : rot x = (x % 8589934592) * 2147483648 + x / 8589934592 := by unfold rot; omega
theorem rot_lt {x : Nat} (hx : x < 18446744073709551616) : rot x < 18446744073709551616 := by rw [rot_is hx]; omega
theorem rot_inj {x y : Nat} (hx : x < 18446744073709551616) (hy : y < 18446744073709551616) (e : rot x = rot y) : x = y := by rw [rot_is hx, rot_is hy] at e; omega
theorem mul_inj' {x y q q' r : Int} (hx : 0 ≤ x ∧ x < 18446744073709551616) (hy : 0 ≤ y ∧ y < 18446744073709551616) (a : 18446744073709551616 * q + r = x * 11400714785074694791) (b : 18446744073709551616 * q' + r = y * 11400714785074694791) : x = y := by
  have a1 := Int.sub_eq_zero.mpr a
  have b1 := Int.sub_eq_zero.mpr b
  have id : (x - y) - 18446744073709551616 * ((q - q') * 614540362697595703 - 379806830464837242 * (x - y)) = 614540362697595703 * ((18446744073709551616 * q' + r - y * 11400714785074694791) - (18446744073709551616 * q + r - x * 11400714785074694791)) := by clear a b a1 b1 hx hy; omega
  rw [a1, b1] at id
  generalize (q - q') * 614540362697595703 - 379806830464837242 * (x - y) = z at id
  clear a b a1 b1
  omega
theorem mul_inj {x y : Nat} (hx : x < 18446744073709551616) (hy : y < 18446744073709551616) (e : x * 11400714785074694791 % 18446744073709551616 = y * 11400714785074694791 % 18446744073709551616) : x = y := by
  have a := Nat.div_add_mod (x * 11400714785074694791) 18446744073709551616
  have b := Nat.div_add_mod (y * 11400714785074694791) 18446744073709551616
  rw [e] at a
  have a' := congrArg (fun n : Nat => (n : Int)) a
  have b' := congrArg (fun n : Nat => (n : Int)) b
  simp only [Int.natCast_add, Int.natCast_mul] at a' b'
  exact Int.ofNat.inj (mul_inj' (x := x) (y := y) ⟨Int.natCast_nonneg x, by clear e a b a' b'; omega⟩ ⟨Int.natCast_nonneg y, by clear e a b a' b'; omega⟩ a' b')
theorem add_inj {x y : Nat} (hx : x < 18446744073709551616) (hy : y < 18446744073709551616) (e : (x + 2870177450013471924) % 18446744073709551616 = (y + 2870177450013471924) % 18446744073709551616) : x = y := by omega
theorem hx_lt {a : Int} : hx a < 18446744073709551616 := by unfold hx; omega
theorem h2_lt {a b : Int} : h2 a b < 18446744073709551616 := by unfold h2; omega
theorem raw_h2 {a b a' b' : Int} (e : raw a b = raw a' b') : h2 a b = h2 a' b' :=
  rot_inj h2_lt h2_lt (mul_inj (rot_lt h2_lt) (rot_lt h2_lt) (add_inj (Nat.mod_lt _ (by decide)) (Nat.mod_lt _ (by decide)) e))
theorem hv1 (X N xa a A Q : Int) (e1 : X = N - 18446744073709551616 * Q) (e2 : N = 2870177450012600261 + xa * 14029467366897019727) (e3 : xa = a - 18446744073709551616 * A) : X = 2870177450012600261 + a * 14029467366897019727 + 18446744073709551616 * (-Q - A * 14029467366897019727) := by subst e3; subst e2; subst e1; omega
theorem hv2 (H R t xb b B Q2 Q3 : Int) (e1 : t = R * 11400714785074694791 - 18446744073709551616 * Q2) (e2 : H = (t + xb * 14029467366897019727) - 18446744073709551616 * Q3) (e3 : xb = b - 18446744073709551616 * B) : R * 11400714785074694791 + b * 14029467366897019727 = H + 18446744073709551616 * (Q2 + Q3 + B * 14029467366897019727) := by subst e3; subst e1; subst e2; omega
theorem lane_is (a : Int) : (((a % 18446744073709551616).toNat : Nat) : Int) = a - 18446744073709551616 * (a / 18446744073709551616) := by
  rw [Int.toNat_of_nonneg (Int.emod_nonneg _ (by decide)), Int.emod_def]
theorem mod_is (n : Nat) : (((n % 18446744073709551616 : Nat)) : Int) = (n : Int) - 18446744073709551616 * ((n / 18446744073709551616 : Nat) : Int) := by omega
/-- what the two halves are -/
theorem halves (a b : Int) : ∃ h l u v : Int, (0 ≤ h ∧ h < 2147483648) ∧ (0 ≤ l ∧ l < 8589934592) ∧ h * 8589934592 + l = 2870177450012600261 + a * 14029467366897019727 + 18446744073709551616 * u ∧ (l * 2147483648 + h) * 11400714785074694791 + b * 14029467366897019727 = (h2 a b : Nat) + 18446744073709551616 * v := by
  have hX : hx a < 18446744073709551616 := hx_lt
  have q1 := hv1 (hx a : Nat) ((2870177450012600261 + (a % 18446744073709551616).toNat * 14029467366897019727 : Nat)) _ a _ _ (mod_is _) (by rw [Int.natCast_add, Int.natCast_mul]; rfl) (lane_is a)
  have q2 := hv2 (h2 a b : Nat) (rot (hx a) : Nat) ((rot (hx a) * 11400714785074694791 % 18446744073709551616 : Nat)) _ b _ _ _ ((mod_is _).trans (by rw [Int.natCast_mul]; rfl)) ((mod_is _).trans (by rw [Int.natCast_add, Int.natCast_mul]; rfl)) (lane_is b)
  have hr := rot_is hX
  have hr2 : ((rot (hx a) : Nat) : Int) = ((hx a % 8589934592 : Nat) : Int) * 2147483648 + ((hx a / 8589934592 : Nat) : Int) := by rw [hr]; omega
  rw [hr2] at q2
  refine ⟨((hx a / 8589934592 : Nat) : Int), ((hx a % 8589934592 : Nat) : Int), _, _, ?_, ?_, Eq.trans ?_ q1, q2⟩
  · clear q1 q2 hr hr2; omega
  · clear q1 q2 hr hr2; omega
  · clear q1 q2 hr hr2; omega
theorem same {a b a' b' : Int} (ha : -4000000000 ≤ a ∧ a ≤ 4000000000) (ha' : -4000000000 ≤ a' ∧ a' ≤ 4000000000) (hb : 0 ≤ b ∧ b ≤ 999999) (hb' : 0 ≤ b' ∧ b' ≤ 999999) (e : raw a b = raw a' b') : a = a' ∧ b = b' := by
  have e2 := raw_h2 e
  obtain ⟨h, l, u, v, hh, hl, x1, x2⟩ := halves a b
  obtain ⟨h', l', u', v', hh', hl', y1, y2⟩ := halves a' b'
  rw [← e2] at y2
  have f1 := Int.sub_eq_zero.mpr x1
  have f2 := Int.sub_eq_zero.mpr x2
  have f3 := Int.sub_eq_zero.mpr y1
  have f4 := Int.sub_eq_zero.mpr y2
  generalize ((h2 a b : Nat) : Int) = g at f2 f4
  clear x1 x2 y1 y2 e e2
  have g1 : (h - h') * 8589934592 + (l - l') = (a - a') * 14029467366897019727 + 18446744073709551616 * (u - u') := by
    have id : (h - h') * 8589934592 + (l - l') - ((a - a') * 14029467366897019727 + 18446744073709551616 * (u - u')) = (h * 8589934592 + l - (2870177450012600261 + a * 14029467366897019727 + 18446744073709551616 * u)) - (h' * 8589934592 + l' - (2870177450012600261 + a' * 14029467366897019727 + 18446744073709551616 * u')) := by clear f1 f2 f3 f4 hh hl hh' hl' ha ha' hb hb'; omega
    rw [f1, f3] at id
    exact Int.sub_eq_zero.mp id
  have g2 : ((l - l') * 2147483648 + (h - h')) * 11400714785074694791 + (b - b') * 14029467366897019727 = 18446744073709551616 * (v - v') := by
    have id : ((l - l') * 2147483648 + (h - h')) * 11400714785074694791 + (b - b') * 14029467366897019727 - 18446744073709551616 * (v - v') = ((l * 2147483648 + h) * 11400714785074694791 + b * 14029467366897019727 - (g + 18446744073709551616 * v)) - ((l' * 2147483648 + h') * 11400714785074694791 + b' * 14029467366897019727 - (g + 18446744073709551616 * v')) := by clear g1 f1 f2 f3 f4 hh hl hh' hl' ha ha' hb hb'; omega
    rw [f2, f4] at id
    exact Int.sub_eq_zero.mp id
  clear f1 f2 f3 f4
  obtain ⟨⟨s, es⟩, ht⟩ := cong _ _ _ _ _ _ g1 g2
  obtain ⟨t, et⟩ := ht s es
  clear g1 g2 ht
  have bd : (-2147483648 < h - h' ∧ h - h' < 2147483648) ∧ (-8589934592 < l - l' ∧ l - l' < 8589934592) ∧ (-8000000000 ≤ a - a' ∧ a - a' ≤ 8000000000) ∧ (-999999 ≤ b - b' ∧ b - b' ≤ 999999) := by clear es et; omega
  have z := lat _ _ _ _ s t es et bd.1.1 bd.1.2 bd.2.1.1 bd.2.1.2 bd.2.2.1.1 bd.2.2.1.2 bd.2.2.2.1 bd.2.2.2.2
  clear es et bd
  omega
theorem never {a b : Int} (ha : -4000000000 ≤ a ∧ a ≤ 4000000000) (hb : 0 ≤ b ∧ b ≤ 999999) : raw a b ≠ 18446744073709551615 := by
  intro e
  have hg : h2 a b = 9148689060682678900 := by
    refine rot_inj h2_lt (by decide) (mul_inj (rot_lt h2_lt) (rot_lt (by decide)) (add_inj (Nat.mod_lt _ (by decide)) (Nat.mod_lt _ (by decide)) ?_))
    exact e.trans (by decide)
  obtain ⟨h, l, u, v, hh, hl, x1, x2⟩ := halves a b
  rw [hg] at x2
  exact off h l a b u v x1 x2 hh.1 hh.2 hl.1 hl.2 ha.1 ha.2 hb.1 hb.2

end TH

/-! the hash of a pair of ints in closed form -/
namespace TH
def fin (m acc : Nat) : Int := if acc == m - 1 then 1546275796 else if acc < 2 ^ 63 then acc else (acc : Int) - m
def stp (m p1 p2 : Nat) (acc : Nat) (h : Int) : Nat :=
    let acc := (acc + (h % (m : Int)).toNat * p2) % m
    let acc := (acc * 2 ^ 31) % m + acc / 2 ^ 33
    (acc * p1) % m
def gen (m p1 p2 p5 : Nat) (hs : List Int) : Int := fin m ((hs.foldl (stp m p1 p2) p5 + (hs.length ^^^ (p5 ^^^ 3527539))) % m)
theorem two (m p1 p2 p5 : Nat) (x y : Int) : gen m p1 p2 p5 [x, y] = fin m ((stp m p1 p2 (stp m p1 p2 p5 x) y + (2 ^^^ (p5 ^^^ 3527539))) % m) := by
  have hl : [x, y].length = 2 := rfl
  unfold gen
  rw [hl]
  generalize 2 ^^^ (p5 ^^^ 3527539) = k
  rw [List.foldl_cons, List.foldl_cons, List.foldl_nil]
theorem th_eq (hs : List Int) : PySem.Builtin.Tuple.tupleHashOf hs = gen (2 ^ 64) 11400714785074694791 14029467366897019727 2870177450012600261 hs := by
  delta PySem.Builtin.Tuple.tupleHashOf gen fin stp
  generalize (2 ^ 64 : Nat) = m
  generalize (11400714785074694791 : Nat) = p1
  generalize (14029467366897019727 : Nat) = p2
  generalize (2870177450012600261 : Nat) = p5
  generalize (2 ^ 63 : Nat) = q
  generalize (2 ^ 31 : Nat) = q1
  generalize (2 ^ 33 : Nat) = q2
  generalize (3527539 : Nat) = q3
  generalize (1546275796 : Int) = q4
  rfl
theorem p31 : (2 : Nat) ^ 31 = 2147483648 := rfl
theorem p33 : (2 : Nat) ^ 33 = 8589934592 := rfl
theorem p63 : (2 : Nat) ^ 63 = 9223372036854775808 := rfl
theorem p64 : (2 : Nat) ^ 64 = 18446744073709551616 := rfl
theorem xo : (2 ^^^ (2870177450012600261 ^^^ 3527539) : Nat) = 2870177450013471924 := rfl
theorem stp_is (m p1 p2 acc : Nat) (h : Int) : stp m p1 p2 acc h = ((((acc + (h % (m : Int)).toNat * p2) % m) * 2147483648) % m + ((acc + (h % (m : Int)).toNat * p2) % m) / 8589934592) * p1 % m := by
  unfold stp; rw [p31, p33]
def rawG (m p1 p2 p5 k : Nat) (x y : Int) : Nat := (stp m p1 p2 (stp m p1 p2 p5 x) y + k) % m
theorem raw_is (x y : Int) : rawG 18446744073709551616 11400714785074694791 14029467366897019727 2870177450012600261 2870177450013471924 x y = raw x y := by
  unfold rawG raw h2 hx rot
  rw [stp_is, stp_is]
  have hc : ((18446744073709551616 : Nat) : Int) = 18446744073709551616 := rfl
  rw [hc]
theorem hash2 (x y : Int) : PySem.Builtin.Tuple.tupleHashOf [x, y] = fin 18446744073709551616 (raw x y) := by
  rw [th_eq, two, xo, p64]
  exact congrArg (fin 18446744073709551616) (raw_is x y)
end TH

/-! hashes of pairs of numbers differ -/
namespace TH
open PySem PySem.Spec PyProof.Rows L2
theorem red (i : Int) (h1 : -9223372036854775808 ≤ i) (h2 : i < 9223372036854775808) (h3 : i ≠ -1) : reduceHash i = i := by
  unfold reduceHash
  have c1 : (decide (-(2 ^ 63 : Int) ≤ i) && decide (i < 2 ^ 63)) = true := by
    rw [Bool.and_eq_true, decide_eq_true_eq, decide_eq_true_eq]; exact ⟨by omega, by omega⟩
  rw [if_pos c1, if_neg]
  rw [beq_iff_eq]; exact h3
theorem fin_lo {x : Nat} (h : x < 9223372036854775808) : fin 18446744073709551616 x = x := by
  unfold fin
  rw [if_neg (by rw [beq_iff_eq]; omega), p63, if_pos h]
theorem fin_hi {x : Nat} (h : 9223372036854775808 ≤ x) (h2 : x < 18446744073709551615) : fin 18446744073709551616 x = (x : Int) - 18446744073709551616 := by
  unfold fin
  rw [if_neg (by rw [beq_iff_eq]; omega), p63, if_neg (by omega)]
  rfl
theorem sg {x : Nat} (hx : x < 18446744073709551615) : (x < 9223372036854775808 ∧ reduceHash (fin 18446744073709551616 x) = x) ∨ (9223372036854775808 ≤ x ∧ reduceHash (fin 18446744073709551616 x) = (x : Int) - 18446744073709551616) := by
  by_cases h : x < 9223372036854775808
  · rw [fin_lo h]; exact .inl ⟨h, red _ (by omega) (by omega) (by omega)⟩
  · rw [fin_hi (by omega) hx]; exact .inr ⟨by omega, red _ (by omega) (by omega) (by omega)⟩
theorem fin_inj {x y : Nat} (hx : x < 18446744073709551615) (hy : y < 18446744073709551615) (e : reduceHash (fin 18446744073709551616 x) = reduceHash (fin 18446744073709551616 y)) : x = y := by
  rcases sg hx with ⟨a, b⟩ | ⟨a, b⟩ <;> rcases sg hy with ⟨c, d⟩ | ⟨c, d⟩ <;> rw [b, d] at e <;> omega
theorem raw_lt {a b : Int} : raw a b < 18446744073709551616 := Nat.mod_lt _ (by decide)
theorem rawHash_is {k : Int} (h1 : -4000000000 ≤ k) (h2 : k ≤ 4000000000) : hashInt k = if k = -1 then -2 else k := by
  have hr : rawHash k = if k = -1 then -2 else k := by
    unfold rawHash
    have e1 : ((k.natAbs : Int) % ((2 ^ 61 - 1 : Nat) : Int)) = (k.natAbs : Int) := Int.emod_eq_of_lt (by omega) (by omega)
    simp only [e1]
    have e2 : (if k < 0 then -(k.natAbs : Int) else (k.natAbs : Int)) = k := by split <;> omega
    rw [e2]
    by_cases e : k = -1
    · rw [if_pos e, if_pos (by rw [beq_iff_eq]; exact e)]
    · rw [if_neg e, if_neg (by rw [beq_iff_eq]; exact e)]
  unfold hashInt
  rw [hr]
  by_cases e : k = -1
  · rw [if_pos e]; rfl
  · rw [if_neg e, if_neg (by rw [beq_iff_eq]; exact e)]
def lan (a : Int) : Int := if a = -1 then -2 else a
theorem lan_in {a : Int} (h1 : -4000000000 ≤ a) (h2 : a ≤ 4000000000) : -4000000000 ≤ lan a ∧ lan a ≤ 4000000000 := by unfold lan; split <;> omega
theorem key_hash {P : Program} {w : World} {i j : Int} (h1 : -4000000000 ≤ i) (h2 : i ≤ 4000000000) (h3 : 0 ≤ j) (h4 : j ≤ 999999) :
    (tupleKind (mixKind P w)).hash [Sum.inl i, Sum.inl j] = reduceHash (fin 18446744073709551616 (raw (lan i) j)) := by
  show reduceHash (Builtin.Tuple.tupleHashOf [hashInt i, hashInt j]) = _
  rw [hash2, rawHash_is h1 h2, rawHash_is (k := j) (by omega) (by omega), if_neg (c := j = -1) (by omega)]
  rfl
theorem key_inj {P : Program} {w : World} {i j i' j' : Int} (h1 : -4000000000 ≤ i) (h2 : i ≤ 4000000000) (h3 : 0 ≤ j) (h4 : j ≤ 999999) (h1' : -4000000000 ≤ i') (h2' : i' ≤ 4000000000) (h3' : 0 ≤ j') (h4' : j' ≤ 999999)
    (e : (tupleKind (mixKind P w)).hash [Sum.inl i, Sum.inl j] = (tupleKind (mixKind P w)).hash [Sum.inl i', Sum.inl j']) : lan i = lan i' ∧ j = j' := by
  rw [key_hash h1 h2 h3 h4, key_hash h1' h2' h3' h4'] at e
  have l := lan_in h1 h2
  have l' := lan_in h1' h2'
  have n := never l ⟨h3, h4⟩
  have n' := never l' ⟨h3', h4'⟩
  have r := raw_lt (a := lan i) (b := j)
  have r' := raw_lt (a := lan i') (b := j')
  exact same l l' ⟨h3, h4⟩ ⟨h3', h4'⟩ (fin_inj (by omega) (by omega) e)
end TH

namespace IRS
open PySem PySem.Spec PyProof.Rows L2
/-! ### dict(d) where the keys are pairs of numbers -/
section
variable {prog : Program} {w : World} {K : Type} [DecidableEq K] {knd : HeapKind prog w K} {A : Around} {E : Value → Shared → Prop} {s : Shared}
theorem call_dict_heap {o : Addr} {more : List (K × Addr × Value)} {Q : Value → Shared → Prop} (hu : knd.room A.in1.in1) (hoS : (o == sysModules) = false) (ho : s.heap.DictOfH knd o more) (hsz : more.length ≤ sizeLine)
    (hpush : ∀ ob, (s.heap.push ob).DictOfH knd o more) (hty : ∀ x ∈ more, s.TypeIs (.ref x.2.1) "tuple") (hap : (more.map fun x => knd.hash x.1).Nodup)
    (h : ∀ h', h'.DictOfH knd s.heap.objs.size more → Heap.SameBut s.heap.objs.size (s.heap.push { cls := .type "dict", data := .dict #[] }) h' → Q (.ref s.heap.objs.size) { s with heap := h' }) :
    wpAny (model prog w) A (call (.type "dict") [.ref o]) Q E s := by
  refine callType_codes (Q₁ := fun obj s₁ => obj = .ref s.heap.objs.size ∧ s₁ = { s with heap := s.heap.push { cls := .type "dict", data := .dict #[] } }) PySem.F.kt_called_dict (PySem.F.kt_typeCall_dict_1 _) PySem.F.entry_dict_init (kt_code_dict_new _ ⟨rfl, rfl⟩) ?_
  rintro obj s₁ ⟨rfl, rfl⟩
  have hnew : (s.heap.push { cls := .type "dict", data := .dict #[] }).DictOfH knd s.heap.objs.size [] := Heap.DictOfH.new s.heap
  have ho' : (s.heap.push { cls := .type "dict", data := .dict #[] }).DictOfH knd o more := hpush _
  have hn : (more.map (·.1)).Nodup := ho.nodup
  have hdo : s.heap.objs.size ≠ o := by
    obtain ⟨_, _, _, hg, _⟩ := ho
    exact fun e => absurd (Heap.lt_size hg) (by rw [e]; exact Nat.lt_irrefl _)
  refine ⟨hnew.typeIs, PySem.F.args_dict_init_2 _ _, ?_⟩
  unfold Builtin.«dict.__init__»
  refine wpAny_bind ?_
  unfold Builtin.Dict.selfAndRest
  refine wpAny_bind (wpAny_notOrdered_dict hnew.typeIs ?_)
  show wpAny _ _ (pure (s.heap.objs.size, [Value.ref o])) _ _ _
  refine wpAny_pure ?_
  show wpAny _ _ (Builtin.Dict.updateFrom "dict.__init__" s.heap.objs.size (.ref o) [] .none) _ _ _
  unfold Builtin.Dict.updateFrom
  refine wpAny_bind (wpAny_typeOf ho'.typeIs ?_)
  rw [if_neg (by decide)]
  refine wpAny_bind ?_
  unfold Builtin.Dict.merge
  refine wpAny_bind ?_
  unfold Builtin.Dict.readDirectly
  refine wpAny_bind (wpAny_isInstance ho'.typeIs isSubtype_dict_dict ?_)
  simp only [Bool.not_true, Bool.false_eq_true, if_false]
  refine wpAny_bind (wpAny_specialOf ho'.typeIs PySem.F.slot_dict_iter.lookup (wpAny_pure ?_))
  simp only [beq_self_eq_true, if_true]
  refine wpAny_bind (wpAny_pure ?_)
  refine wpAny_mergeDict_heap (hsz := by simpa using hsz) hu hdo hoS hnew ho' (.inr ⟨fun x hx => ?_, hap⟩) fun h' hd' _ hs' => ?_
  · obtain ⟨ob, h1, h2⟩ := hty x hx
    exact ⟨ob, Heap.get?_push_of_some _ h1, h2⟩
  show wpAny _ _ (Builtin.Dict.addKeywords s.heap.objs.size [] >>= _) _ _ _
  rw [storedAllH_nil_of_nodup more hn] at hd'
  exact wpAny_bind (wpAny_pure (wpAny_pure ⟨rfl, h h' hd' hs'⟩))
end
/-- the keys are pairs within bounds, told apart by hashes -/
def Lan (ps : List (Int × Int)) : Prop := (∀ p ∈ ps, -4000000000 ≤ p.1 ∧ p.1 ≤ 4000000000 ∧ 0 ≤ p.2 ∧ p.2 ≤ 999999) ∧ (ps.map fun p => (TH.lan p.1, p.2)).Nodup
theorem lan_nodup (f : List Key → Int) (hf : ∀ i j i' j' : Int, -4000000000 ≤ i → i ≤ 4000000000 → 0 ≤ j → j ≤ 999999 → -4000000000 ≤ i' → i' ≤ 4000000000 → 0 ≤ j' → j' ≤ 999999 → f [Sum.inl i, Sum.inl j] = f [Sum.inl i', Sum.inl j'] → TH.lan i = TH.lan i' ∧ j = j')
    {ps : List (Int × Int)} (h : Lan ps) : ((ps.map fun p => ([Sum.inl p.1, Sum.inl p.2] : List Key)).map f).Nodup := by
  obtain ⟨h1, h2⟩ := h
  rw [List.map_map]
  unfold List.Nodup at h2 ⊢
  rw [List.pairwise_map] at h2 ⊢
  refine List.Pairwise.imp_of_mem (fun {a b} ma mb ne e => ?_) h2
  obtain ⟨a1, a2, a3, a4⟩ := h1 a ma
  obtain ⟨b1, b2, b3, b4⟩ := h1 b mb
  obtain ⟨e1, e2⟩ := hf _ _ _ _ a1 a2 a3 a4 b1 b2 b3 b4 e
  exact ne (by rw [e1, e2])
theorem lan_hash {P : Program} {w : World} {ps : List (Int × Int)} (h : Lan ps) : ((ps.map fun p => ([Sum.inl p.1, Sum.inl p.2] : List Key)).map (tupleKind (mixKind P w)).hash).Nodup :=
  lan_nodup (tupleKind (mixKind P w)).hash (fun i j i' j' a1 a2 a3 a4 b1 b2 b3 b4 e => TH.key_inj a1 a2 a3 a4 b1 b2 b3 b4 e) h
theorem kt_fst {H : Hp} {kvs : List (List Key × V)} {vs : List (List Key × Addr × Value)} (rel : KT H kvs vs) : vs.map (·.1) = kvs.map (·.1) := by
  induction rel with
  | nil => rfl
  | cons h t ih => rw [List.map_cons, List.map_cons, ih, h.1]
def rDictT : List V → Hp → VK → Prop := fun xs H Q => ∃ (a : Addr) (kvs : List (List Key × V)) (ps : List (Int × Int)), xs = [.ref a] ∧ Rd H a (.dT kvs) ∧ kvs.map (·.1) = ps.map (fun p => ([Sum.inl p.1, Sum.inl p.2] : List Key)) ∧ Lan ps ∧
  ∀ p, H p = none → Q (.ref p) (upd H p (.dT kvs))
theorem call_dictTD {X : Cx} (hu : X.A.units + 2 < cLine) : CallR X (.type "dict") rDictT := by
  intro pins s σ H xs us Q I r q
  obtain ⟨a, kvs, ps, rfl, hd, hks, hl, q⟩ := q
  obtain ⟨u, rfl, ru⟩ := vals1 r
  obtain rfl : u = Value.ref a := ru
  obtain ⟨z, lo, vs, rel, dd⟩ := dt_rd I.hok hd
  have hks' : vs.map (·.1) = kvs.map (·.1) := kt_fst rel
  have hm : (s.heap.objs.size == sysModules) = false := beq_eq_false_iff_ne.mpr (Nat.ne_of_gt I.big)
  obtain ⟨o, es, ep, h1, h2, h3, h4, h5, h6⟩ := id dd
  refine call_dict_heap (knd := tupleKind (mixKind X.prog X.w)) (by show X.A.units + 1 + 1 < cLine; omega) lo dd (by rw [← Paired.length rel]; exact z) (fun ob => ⟨o, es, ep, Heap.get?_push_of_some _ h1, h2, h3, h4, fun x hx => (let ⟨o, items, n, ho, hc, hd, hi⟩ := h5 x hx; ⟨o, items, n, Heap.get?_push_of_some _ ho, hc, hd, hi⟩), h6⟩)
    (fun x hx => IsTupleKey.typeIs (h5 x hx)) ?_ fun h' d' hs => ?_
  · have e : (vs.map fun x => (tupleKind (mixKind X.prog X.w)).hash x.1) = (ps.map fun p => ([Sum.inl p.1, Sum.inl p.2] : List Key)).map (tupleKind (mixKind X.prog X.w)).hash := by
      rw [← hks, ← hks', List.map_map]; rfl
    rw [e]
    exact lan_hash hl
  · obtain ⟨o', es', ep', g1, g2, g3, g4, _, g6⟩ := d'
    have hf : H s.heap.objs.size = none := I.hok.fresh (Nat.le_refl _)
    exact ⟨.ref s.heap.objs.size, upd H s.heap.objs.size (.dT kvs), I.laid (t' := s.toks) (fun b u e => (hs.2 b (Nat.ne_of_lt (Heap.lt_size e))).trans (Heap.get?_push_of_some _ e)) (Nat.le_refl _)
      (show ObjOk X.prog X.w _ _ _ (.dT kvs) from ⟨z, hm, vs, KT.keeps rel (fun b ys e => by rw [upd_ne (ne_of_none e hf)]; exact e), o', es', ep', g1, g2, g3, g4, g6⟩), rfl, q _ hf⟩
section
variable {D : Wd} {X : Cx} {c : Ctx} {k : Nat} {F : Fm} {N : Nm} {W : Fm} {μ : List Addr} {S : IR.Sto} {H : Hp} {Q : VK} {a : IR.D} {x : V}
theorem pr2_is {k : List IR.Ky} {p : Int × Int} (h : IR.pr2 k = some p) : k = [Sum.inl p.1, Sum.inl p.2] := by
  unfold IR.pr2 at h
  split at h
  · cases h; rfl
  · cases h
theorem lanes : ∀ {ks : List (List IR.Ky)} {l : List (Int × Int)}, (ks.mapM fun k => (IR.pr2 k).bind IR.lane) = some l →
    ∃ ps : List (Int × Int), ks.mapM IR.pr2 = some ps ∧ (∀ p ∈ ps, -4000000000 ≤ p.1 ∧ p.1 ≤ 4000000000 ∧ 0 ≤ p.2 ∧ p.2 ≤ 999999) ∧ l = ps.map fun p => (TH.lan p.1, p.2) := by
  intro ks
  induction ks with
  | nil => intro l h; cases h; exact ⟨[], rfl, (fun p hp => by cases hp), rfl⟩
  | cons k ks ih =>
    intro l h
    rw [List.mapM_cons] at h
    obtain ⟨q, h1, h⟩ := Option.bind_eq_some_iff.mp h
    obtain ⟨l2, h2, h⟩ := Option.bind_eq_some_iff.mp h
    cases h
    obtain ⟨p, hp, hl⟩ := Option.bind_eq_some_iff.mp h1
    obtain ⟨ps, e1, e2, e3⟩ := ih h2
    unfold IR.lane at hl
    split at hl
    · rename_i hb
      cases hl
      refine ⟨p :: ps, by rw [List.mapM_cons, hp, e1]; rfl, fun r hr => ?_, by rw [e3]; rfl⟩
      rcases List.mem_cons.mp hr with rfl | hr
      · exact hb
      · exact e2 r hr
    · cases hl
theorem cpT_lan {kvs : List (List IR.Ky × IR.D)} (h : IR.cpT kvs = true) : ∃ ps, (kvs.map (·.1)).mapM IR.pr2 = some ps ∧ Lan ps := by
  unfold IR.cpT at h
  rw [Bool.and_eq_true] at h
  obtain ⟨_, h⟩ := h
  split at h
  · rename_i l e
    obtain ⟨ps, e1, e2, e3⟩ := lanes e
    exact ⟨ps, e1, e2, by rw [← e3]; exact of_decide_eq_true h⟩
  · cases h
theorem o_dictT (R : Rel N μ S H) (ra : RepV N μ H a x) (g : GV N W μ H (IR.evOp .dictT [a] S) Q) : rDictT [x] H Q := by
  cases a <;> first | exact g.elim | skip
  rename_i n
  obtain ⟨p, rfl, hp⟩ := ra.ref
  have g : GV N W μ H (match S[n]? with
    | some (.dT _ kvs) => if IR.cpT kvs then .ok (.ref S.length) (S ++ [.dT false kvs]) else .bad
    | _ => .bad) Q := g
  split at g
  · rename_i lk kvs e
    split at g
    · rename_i hc
      obtain ⟨r, hr, kr⟩ := rdT R e hp
      obtain ⟨ps, h1, h2⟩ := cpT_lan hc
      refine ⟨p, r, ps, rfl, hr, keysP_of h1 kr, h2, fun q hq => ?_⟩
      have ex : Ext μ H (μ ++ [q]) (upd H q (.dT r)) := (Ext.laid hq).add hq
      refine g (μ ++ [q]) _ ex ((R.laid hq).add (R.fresh hq) ⟨r, upd_same, kr.mono ex.w⟩) (.ref q) (Rep.ref ?_) fun _ _ z => nomatch z
      rw [← R.len]; simp
    · exact g.elim
  · exact g.elim
end
section
variable {D : Wd} {X : Cx} {c : Ctx} {k : Nat} {F : Fm} {pos : Pos} {a b e o tg : Expr} {es : List Expr} {call : Nat → List IR.D → IR.M IR.D} {x y z : IR.E} {p apos cpos tpos : Pos} {mname : List (Str × Nat)} {n : Str}
theorem e_dictT (C : Cm D X c k F) (hg : c.sc.names.lookup ("dict" : Str) = some .globalImplicit) (hm : D.mg "dict" = none) (ha : PE X a (tV D F call x)) (hs : A1 a X) : PE X (.Call (.Name "dict" p) [a] [] pos) (tV D F call (.op .dictT (.cons false x .nil))) :=
  s_b1 (pe_callTy (call_dictTD (by have := C.hu; omega)) (C.gl hg) (C.mgn hm) PyProof.Rows.boot_dict (s_cons ha s_nil hs) (he := hs)) fun R ra g => o_dictT R ra g
end
end IRS

namespace IRS
open PySem PySem.Spec PyProof.Rows L2 L2.DX
/-! ### d.pop(k, x) by tuples, l.extend(m) -/
section
variable {N : Nm} {W : Fm} {μ : List Addr} {S : IR.Sto} {H : Hp} {Q : VK} {a b d : IR.D} {x y z : V}
theorem o_pop2 (R : Rel N μ S H) (ra : RepV N μ H a x) (rb : RepV N μ H b y) (rd : Rep N μ H d z) (g : GV N W μ H (IR.evOp .pop2 [a, b, d] S) Q) : rPopT x [y, z] H Q := by
  cases a <;> first | exact g.elim | skip
  rename_i n
  obtain ⟨p, rfl, hp⟩ := ra.ref
  have g : GV N W μ H (match S[n]?, b.kys with
    | some (.dT false kvs), some k => match IR.dGet kvs k with
      | some v => .ok v (S.set n (.dT false (IR.dDrop kvs k)))
      | none => .ok d S
    | _, _ => .bad) Q := g
  split at g
  · rename_i kvs k e ek
    obtain ⟨r, hr, kr⟩ := R.ob n _ p e hp
    obtain ⟨p2, rfl, e2⟩ := kys_of rb ek
    refine ⟨p, r, _, p2, z, rfl, rfl, hr, e2, ?_⟩
    rcases kr.get kyKs_inj' k with ⟨h1, h2⟩ | ⟨d1, v, h1, h2, h3⟩
    · rw [h1] at g
      refine ⟨fun v hv => (by rw [h2] at hv; cases hv), fun _ => ?_⟩
      exact g μ H (Ext.refl _ _) R z rd.v fun l _ z _ => by
        have z' : d = .tl l := z
        subst z'; cases rd
    · rw [h1] at g
      refine ⟨fun v' hv => ?_, fun hn => (by rw [h2] at hn; cases hn)⟩
      rw [h2] at hv
      cases hv
      have ex : Ext μ H μ (upd H p (.dT (dropK r (k.map kyK)))) := Ext.write hp hr (fun _ z => nomatch z) fun _ _ z => nomatch z
      exact g μ _ ex (R.write hp ⟨_, upd_same, (kr.drop kyKs_inj').mono ex.w⟩ ex.w) v (h3.mono ex.w).v fun l _ z _ => by subst z; cases h3
  · exact g.elim
end
section
variable {D : Wd} {X : Cx} {c : Ctx} {k : Nat} {F : Fm} {pos : Pos} {a b e o tg : Expr} {es : List Expr} {call : Nat → List IR.D → IR.M IR.D} {x y z : IR.E} {p apos cpos tpos : Pos} {mname : List (Str × Nat)} {n : Str}
theorem e_pop2 (C : Cm D X c k F) (ho : PE X o (tV D F call x)) (ha : PE X e (tV D F call y)) (hb : PE X b (tV D F call z)) (hs2 : A1 b X) (hs : starEach [e, b] X.env = (false, eval e X.env) :: starEach [b] X.env) (hbase : attributeBase o ("pop" : Str) X.env (eval o X.env) = eval o X.env) (hline : (apos.endLine == pos.line) = true) :
    PE X (.Call (.Attribute o ("pop" : Str) apos) [e, b] [] pos) (tV D F call (.bm .pop2 x (.cons true y (.cons true z .nil)))) :=
  s_bm C (kd := 2) PySem.F.plainAttrs_dict PySem.F.slot_dict_pop PySem.F.type_dict_pop (mt_popT (by have := C.hu; omega)) rfl ho (s_cons ha (s_cons hb s_nil hs2) hs) (fun R rd rs g => by
    cases rs with
    | cons r1 rr =>
      cases rr with
      | cons r2 rr => cases rr; exact o_pop2 R rd r1.v r2 g) hbase (by rw [hs, hs2]; rfl) hline hs (by rw [hs2]; rfl)
/-- f(e, ..) that leaves defaults out -/
theorem e_calld (C : Cm D X c k F) {f : Addr} {fd : FuncData} {ps : List Str} {i np m : Nat} {q : List (Option Nat)} {xs : IR.Es} (A : FnAt D k (call i) i np f fd ps) (B : KwAt D fd ps [] m q) (hg : Gl X n) (hm : D.mg n = some (.ref f))
    (ha : PA X (e :: es) (tAs D F call xs)) (ho : ∀ o ∈ esOwn xs, o = true) (hl : (esOwn xs).length = m) (hnp : q.length = np) (hdb : (n == ("__debug__" : Str)) = false)
    (he : starEach (e :: es) X.env = (false, eval e X.env) :: starEach es X.env) (hpl : (backTo pos (starEach es X.env)).any (·.1) = false) (hh : c.hot = false := by rfl) :
    PE X (.Call (.Name n p) (e :: es) [] pos) (tV D F call (.callp i q xs)) := by
  refine ⟨fun pins s σ H Q I h => ?_⟩
  refine wpAny_Call_Name_kw (ld_glob I hg (by rw [C.mg]; exact hm) ?_ hdb)
  obtain ⟨μ, S, ρ, hI, R, hρ, g⟩ := h
  refine PySem.W.callWith_K (h₀ := X.base) I.ok.mod.kin (by rw [C.K]; exact A.kp) (thn (ha.run pos pins s σ H (fun vs H1 => ∃ μ2 S2 ds, Rel D.N μ2 S2 H1 ∧ Reps D.N μ2 H1 ds vs ∧ vs.length = m ∧ GV D.N F μ2 H1 (((IR.permD ds q).bind fun l => call i l) S2) Q) I ?_) fun us s2 ⟨zs, H2, I2, rz, μ2, S2, ds, R2, rs, hlen, g2⟩ => ⟨I2.kIn, ?_⟩) he hpl
  · exact argsG (f := fun l => (IR.permD l q).bind fun l => call i l) hI R hρ g fun μ2 S2 H2 ds vs _ R2 rs g2 => ⟨μ2, S2, ds, R2, rs.reps ho, by rw [rs.length.2]; exact hl, g2⟩
  · exact A.run_at C B (us := us) (ws := []) I2 hI R2 rs (by rw [List.append_nil]; exact rz) (by rw [← rz.length]; exact hlen) rfl hnp g2 (hh := hh)
theorem nons : ∀ {m : Nat} {ds : List Value}, Vals (List.replicate m V.non) ds → ds = List.replicate m Value.none
  | 0, _, .nil => rfl
  | m + 1, _, .cons r t => by cases r; rw [nons t]; rfl
theorem kwD {fd : FuncData} {ps : List Str} {n m : Nat} {q : List (Option Nat)} {ds : List Value} (hd : Vals (List.replicate m V.non) ds) (hb : Binds D.N.K fd ps ds) (hl : n + m = ps.length) (hq : ∀ us : List Value, us.length = n → permV us q = us ++ List.replicate m Value.none) : KwAt D fd ps [] n q := by
  rw [nons hd] at hb
  refine ⟨fun s us ws hK h1 h2 => ?_⟩
  have hw : ws = [] := List.eq_nil_of_length_eq_zero h2
  subst hw
  rw [List.append_nil, hq us h1]
  exact hb s us hK (by rw [List.length_append, List.length_replicate]; omega)
end
end IRS

namespace IRS
open PySem PySem.Spec PyProof.Rows L2
/-- calls by names of a def that has defaults (each of them None) -/
theorem kwM {D : Wd} {x qual : Str} {params : Arguments} {body : List Stmt} {scope : Scope} {m : Nat} {kws : List (Str × V)} {f : Addr} {fd : FuncData} {ps ks : List Str} {n : Nat} {q : List (Option Nat)} (F : FunD D.N.K x qual params body scope (List.replicate (m + 1) V.non) kws f fd)
    (h : ∀ (T : Addr) (kV doc pm : Value) (an : Option Addr) (cdv ct : Value) (us ws : List Value), us.length = n → ws.length = ks.length →
      ∃ k, bindArgs (PySem.W.fnOf x qual params body scope (.ref T) kV doc pm an cdv ct) ⟨us, ks.zip ws⟩ = seqItems? (.ref T) >>= k ∧ k (some (List.replicate (m + 1) Value.none).toArray) = pure (ps.zip (permV (us ++ ws) q))) : KwAt D fd ps ks n q := by
  obtain ⟨oc, od, dV, kV, doc, pm, an, cdv, ct, osl, rfl, lk, hcd, hD, hK⟩ := F.ex
  rcases hD with ⟨e, _⟩ | ⟨_, T, o, its, m', rfl, lT, oT, rT⟩
  · exact absurd e (fun z => nomatch z)
  · have hi := nons rT
    subst hi
    refine ⟨fun s us ws X l1 l2 => ?_⟩
    obtain ⟨k, e1, e2⟩ := h T kV doc pm an cdv ct us ws l1 l2
    refine BindsTo.of_looks fun M => ?_
    rw [e1]
    exact looks_items X lT oT (.of_pure e2)
end IRS

namespace IRS
open PySem PySem.Spec PyProof.Rows L2
/-! ### calls with positional values and names -/
def esApp : IR.Es → IR.Es → IR.Es
  | .nil, ys => ys
  | .cons o x r, ys => .cons o x (esApp r ys)
theorem evs_app {g : IR.G} {call : Nat → List IR.D → IR.M IR.D} {ρ : IR.Env} {ys : IR.Es} : ∀ (xs : IR.Es) (S : IR.Sto), IR.evs g call (esApp xs ys) ρ S = ((IR.evs g call xs ρ).bind fun l => (IR.evs g call ys ρ).bind fun l' => IR.M.pure (l ++ l')) S
  | .nil, S => by
    simp only [esApp, IR.evs, IR.M.bind, IR.M.pure, IR.Res.bind]
    cases IR.evs g call ys ρ S <;> rfl
  | .cons o x r, S => by
    simp only [esApp, IR.evs, IR.M.bind, IR.M.pure, IR.Res.bind]
    cases IR.ev g call x ρ S with
    | bad => rfl
    | exc c fs S1 => rfl
    | ok d S1 =>
      simp only [IR.M.bind, IR.Res.bind]
      cases IR.ownIf o d S1 with
      | bad => rfl
      | exc c fs S2 => rfl
      | ok d2 S2 =>
        simp only [evs_app r S2, IR.M.bind, IR.M.pure, IR.Res.bind]
        cases IR.evs g call r ρ S2 with
        | bad => rfl
        | exc c fs S3 => rfl
        | ok l S3 =>
          simp only []
          cases IR.evs g call ys ρ S3 <;> rfl
section
variable {D : Wd} {X : Cx} {c : Ctx} {k : Nat} {F : Fm} {pos : Pos} {a b e o tg : Expr} {es : List Expr} {call : Nat → List IR.D → IR.M IR.D} {p : Pos} {n : Str}
theorem e_callm (C : Cm D X c k F) {f : Addr} {fd : FuncData} {ps ks : List Str} {i np m : Nat} {q : List (Option Nat)} {kws : List Keyword} {xs ys zs : IR.Es} (A : FnAt D k (call i) i np f fd ps) (B : KwAt D fd ps ks m q) (hg : Gl X n) (hm : D.mg n = some (.ref f))
    (ha : PA X (e :: es) (tAs D F call xs)) (hk : PK X kws (tAs D F call ys)) (hz : zs = esApp xs ys) (ho : ∀ o ∈ esOwn xs, o = true) (ho2 : ∀ o ∈ esOwn ys, o = true) (hl : (esOwn xs).length = m) (hl2 : (esOwn ys).length = ks.length) (hnp : q.length = np)
    (hks : (backToKw pos (keywordEach kws X.env)).filterMap (·.1) = ks) (hall : (backToKw pos (keywordEach kws X.env)).all (·.1.isSome) = true)
    (hpl : ((backTo pos (starEach (e :: es) X.env)).any (·.1) || (backToKw pos (keywordEach kws X.env)).any (·.1.isNone)) = false) (he : starEach (e :: es) X.env = (false, eval e X.env) :: starEach es X.env) (hdb : (n == ("__debug__" : Str)) = false) (hh : c.hot = false := by rfl) :
    PE X (.Call (.Name n p) (e :: es) kws pos) (tV D F call (.callp i q zs)) := by
  subst hz
  refine ⟨fun pins s σ H Q I h => ?_⟩
  refine wpAny_Call_Name_kw (ld_glob I hg (by rw [C.mg]; exact hm) ?_ hdb)
  obtain ⟨μ, S, ρ, hI, R, hρ, g⟩ := h
  have g : GV D.N F μ H (((IR.evs D.g call xs ρ).bind fun l => (IR.evs D.g call ys ρ).bind fun l' => (IR.permD (l ++ l') q).bind fun l => call i l) S) Q := by
    have e1 : ((IR.evs D.g call (esApp xs ys) ρ).bind fun l => (IR.permD l q).bind fun l => call i l) S = ((IR.evs D.g call xs ρ).bind fun l => (IR.evs D.g call ys ρ).bind fun l' => (IR.permD (l ++ l') q).bind fun l => call i l) S := by
      simp only [IR.M.bind, evs_app xs S, IR.M.pure]
      cases IR.evs D.g call xs ρ S with
      | bad => rfl
      | exc c fs S3 => rfl
      | ok l S3 =>
        show _ = ((IR.evs D.g call ys ρ).bind _) S3; simp only [IR.M.bind, IR.Res.bind]
        cases IR.evs D.g call ys ρ S3 <;> rfl
    rw [← e1]; exact g
  refine PySem.W.callWith_KW (h₀ := X.base) I.ok.mod.kin (by rw [C.K]; exact A.kp) hall (thn (ha.run pos pins s σ H (fun vs H1 => ∃ μ2 S2 ds, F.I σ ∧ Rel D.N μ2 S2 H1 ∧ RSt D.N μ2 H1 ρ σ ∧ Reps D.N μ2 H1 ds vs ∧ vs.length = m ∧ GV D.N F μ2 H1 (((IR.evs D.g call ys ρ).bind fun l' => (IR.permD (ds ++ l') q).bind fun l => call i l) S2) Q) I ?_) fun us s2 ⟨zs, H2, I2, rz, μ2, S2, ds, hI2, R2, hρ2, rs, hlen, g2⟩ => ?_) hpl he
  · exact argsG (f := fun l => (IR.evs D.g call ys ρ).bind fun l' => (IR.permD (l ++ l') q).bind fun l => call i l) hI R hρ g fun μ2 S2 H2 ds vs x R2 rs g2 => ⟨μ2, S2, ds, hI, R2, hρ.mono x.w, rs.reps ho, by rw [rs.length.2]; exact hl, g2⟩
  · refine thn (hk.run pos pins s2 σ H2 (fun vs H1 => ∃ μ3 S3 ds', Rel D.N μ3 S3 H1 ∧ Reps D.N μ3 H1 (ds ++ ds') (zs ++ vs) ∧ vs.length = ks.length ∧ GV D.N F μ3 H1 (((IR.permD (ds ++ ds') q).bind fun l => call i l) S3) Q) I2 ?_) fun ws s3 ⟨ys', H3, I3, ry, μ3, S3, ds', R3, rs3, hlen3, g3⟩ => ⟨I3.kIn, ?_⟩
    · exact argsG (f := fun l' => (IR.permD (ds ++ l') q).bind fun l => call i l) hI2 R2 hρ2 g2 fun μ3 S3 H3 ds' vs x R3 rs' g3 => ⟨μ3, S3, ds', R3, (rs.mono x.w).append (rs'.reps ho2), by rw [rs'.length.2]; exact hl2, g3⟩
    · rw [hks]
      exact A.run_at C B (us := us) (ws := ws) I3 hI R3 rs3 (rz.append ry) (by rw [← rz.length]; exact hlen) (by rw [← ry.length]; exact hlen3) hnp g3 (hh := hh)
end
end IRS

namespace IRS
open PySem PySem.Spec PyProof.Rows L2
/-! ### a dict beside the empty one -/
def rEqE (ng : Bool) : R2 := fun x y H Q => ∃ (a b : Addr) (ks : List (Key × V)), x = .ref a ∧ y = .ref b ∧ H a = some (.dK ks) ∧ H b = some (.dK []) ∧ Q (.bl (xor ng ks.isEmpty)) H
section
variable {X : Cx}
theorem eqE_run {pins : List (Addr × Obj)} {σ : L2.St} {H : Hp} {s : Shared} (I : Inv X pins σ H s) {a b : Addr} {ks : List (Key × V)} (ha : H a = some (.dK ks)) (hb : H b = some (.dK [])) :
    ∃ va : List (Key × Value), (a == sysModules) = false ∧ (b == sysModules) = false ∧ s.heap.DictOf (mixKind X.prog X.w) a va ∧ s.heap.DictOf (mixKind X.prog X.w) b [] ∧ va.length = ks.length := by
  obtain ⟨_, ya, va, ra, da⟩ := (show ObjOk X.prog X.w H s.heap a (.dK ks) from I.hok a _ ha)
  obtain ⟨_, yb, vb, rb, db⟩ := (show ObjOk X.prog X.w H s.heap b (.dK []) from I.hok b _ hb)
  have e : vb = [] := by
    have := rb.length
    cases vb with
    | nil => rfl
    | cons p r => simp at this
  subst e
  exact ⟨va, ya, yb, da, db, ra.length.symm⟩
theorem empty_len {va : List (Key × Value)} {ks : List (Key × V)} (h : va.length = ks.length) : ((va.length == ([] : List (Key × Value)).length) && true) = ks.isEmpty := by
  rw [h]
  cases ks <;> simp
theorem op_eqE (hu : X.A.units < cLine) : OpR X (compareOp .Eq) (rEqE false) := by
  intro pins s σ H x y v u Q I rx ry h
  obtain ⟨a, b, ks, rfl, rfl, ha, hb, q⟩ := h
  cases (show v = Value.ref a from rx)
  cases (show u = Value.ref b from ry)
  obtain ⟨va, ya, yb, da, db, hl⟩ := eqE_run I ha hb
  refine PySem.W.keq_eq (r := true) ya yb da db hu (fun z => ?_) ?_
  · cases va with
    | nil => exact .nil
    | cons p r => simp at z
  · rw [empty_len hl]
    exact ⟨.bl ks.isEmpty, H, I, rfl, by simpa using q⟩
theorem op_neE (hu : X.A.units < cLine) : OpR X (compareOp .NotEq) (rEqE true) := by
  intro pins s σ H x y v u Q I rx ry h
  obtain ⟨a, b, ks, rfl, rfl, ha, hb, q⟩ := h
  cases (show v = Value.ref a from rx)
  cases (show u = Value.ref b from ry)
  obtain ⟨va, ya, yb, da, db, hl⟩ := eqE_run I ha hb
  refine PySem.W.keq_ne (r := true) ya yb da db hu (fun z => ?_) ?_
  · cases va with
    | nil => exact .nil
    | cons p r => simp at z
  · rw [empty_len hl]
    exact ⟨.bl (!ks.isEmpty), H, I, rfl, by simpa using q⟩
end
section
variable {N : Nm} {W : Fm} {μ : List Addr} {S : IR.Sto} {H : Hp} {Q : VK} {a b : IR.D} {x y : V}
theorem KR.nil_of {r : List (Key × V)} (h : KR N μ H kyK ([] : List (IR.Ky × IR.D)) r) : r = [] := by cases h; rfl
theorem KR.emp {kvs : List (IR.Ky × IR.D)} {r : List (Key × V)} (h : KR N μ H kyK kvs r) : kvs.isEmpty = r.isEmpty := by cases h <;> rfl
theorem o_eqE {ng : Bool} {o : IR.Op} (ho : ∀ a b, IR.evOp o [.ref a, .ref b] S = (match S[a]?, S[b]? with
    | some (.dK false kvs), some (.dK false []) => IR.Res.ok (IR.D.bl (xor ng kvs.isEmpty)) S
    | _, _ => IR.Res.bad)) (hr : ∀ a b, (∀ n m, ¬ (a = .ref n ∧ b = .ref m)) → IR.evOp o [a, b] S = IR.Res.bad) (R : Rel N μ S H) (ra : RepV N μ H a x) (rb : RepV N μ H b y) (g : GV N W μ H (IR.evOp o [a, b] S) Q) : rEqE ng x y H Q := by
  by_cases hab : ∃ n m, a = .ref n ∧ b = .ref m
  · obtain ⟨n, m, rfl, rfl⟩ := hab
    rw [ho] at g
    obtain ⟨p, rfl, hp⟩ := ra.ref
    obtain ⟨q, rfl, hq⟩ := rb.ref
    split at g
    · rename_i kvs e1 e2
      obtain ⟨r, h1, kr⟩ := R.ob n _ p e1 hp
      obtain ⟨r2, h2, kr2⟩ := R.ob m _ q e2 hq
      have e := kr2.nil_of
      subst e
      refine ⟨p, q, r, rfl, rfl, h1, h2, ?_⟩
      have := GV.bl R g
      rw [kr.emp] at this
      exact this
    · exact g.elim
  · rw [hr a b fun n m z => hab ⟨n, m, z⟩] at g
    exact g.elim
theorem ev_eqE {a b : Nat} : IR.evOp .eqE [.ref a, .ref b] S = (match S[a]?, S[b]? with
    | some (.dK false kvs), some (.dK false []) => IR.Res.ok (IR.D.bl (xor false kvs.isEmpty)) S
    | _, _ => IR.Res.bad) := by
  show (match S[a]?, S[b]? with
    | some (.dK false kvs), some (.dK false []) => IR.Res.ok (IR.D.bl kvs.isEmpty) S
    | _, _ => IR.Res.bad) = _
  simp only [Bool.false_xor]
theorem ev_neE {a b : Nat} : IR.evOp .neE [.ref a, .ref b] S = (match S[a]?, S[b]? with
    | some (.dK false kvs), some (.dK false []) => IR.Res.ok (IR.D.bl (xor true kvs.isEmpty)) S
    | _, _ => IR.Res.bad) := by
  show (match S[a]?, S[b]? with
    | some (.dK false kvs), some (.dK false []) => IR.Res.ok (IR.D.bl (!kvs.isEmpty)) S
    | _, _ => IR.Res.bad) = _
  simp only [Bool.true_xor]
theorem ev_eqE' {o : IR.Op} (h : o = .eqE ∨ o = .neE) {a b : IR.D} (k : ∀ n m, ¬ (a = .ref n ∧ b = .ref m)) : IR.evOp o [a, b] S = IR.Res.bad := by
  rcases h with rfl | rfl <;> cases a <;> first | rfl | (cases b <;> first | rfl | exact absurd ⟨rfl, rfl⟩ (k _ _))
end
section
variable {D : Wd} {X : Cx} {c : Ctx} {k : Nat} {F : Fm} {pos : Pos} {a b : Expr} {call : Nat → List IR.D → IR.M IR.D} {x y : IR.E}
theorem e_eqE (C : Cm D X c k F) (ha : PE X a (tV D F call x)) (hb : PE X b (tV D F call y)) : PE X (.Compare a [.Eq] [b] pos) (tV D F call (.op .eqE (.cons false x (.cons false y .nil)))) := s_cmp2 (op_eqE (by have := C.hu; omega)) ha hb (nomark _) fun R ra rb g => o_eqE (fun _ _ => ev_eqE) (fun _ _ k => ev_eqE' (.inl rfl) k) R ra rb g
theorem e_neE (C : Cm D X c k F) (ha : PE X a (tV D F call x)) (hb : PE X b (tV D F call y)) : PE X (.Compare a [.NotEq] [b] pos) (tV D F call (.op .neE (.cons false x (.cons false y .nil)))) := s_cmp2 (op_neE (by have := C.hu; omega)) ha hb (nomark _) fun R ra rb g => o_eqE (fun _ _ => ev_neE) (fun _ _ k => ev_eqE' (.inr rfl) k) R ra rb g
theorem s_cmpTB {o : IR.Op} {op : CmpOp} {r : R2} (C : Cm D X c k F) (ho : OpR X (compareOp op) r) (ha : PE X a (tV D F call x)) (hb : PE X b (tV D F call y)) (hm : behindInMarks op b = false)
    (hc : ∀ p q S d S', IR.evOp o [p, q] S = IR.Res.ok d S' → ∃ b, d = .bl b)
    (h : ∀ {μ S H Q p q p' q'}, Rel D.N μ S H → RepV D.N μ H p p' → RepV D.N μ H q q' → GV D.N F μ H (IR.evOp o [p, q] S) Q → r p' q' H Q) :
    PT X (.Compare a [op] [b] pos) (tB' D F call (.op o (.cons false x (.cons false y .nil)))) := by
  refine PT.weak (pt_cmpR ho ha hb hm) fun σ H Q q => ?_
  obtain ⟨μ, S, ρ, hI, R, hρ, g⟩ := q
  have g : GG D.N F μ H ((((IR.evs D.g call (.cons false x (.cons false y .nil)) ρ).bind fun l => IR.evOp o l).bind IR.truth) S) fun b _ _ H' => Q b H' := g
  rw [IR.M.bind_assoc, evs2] at g
  refine two (f := fun a b => IR.evOp o [a, b]) (Q := fun v H => ∃ k, v = .bl k ∧ Q k H) hI R hρ ?_ fun μ2 S2 H2 p q p' q' R2 rp rq g2 => h R2 rp rq g2
  have e : (fun a => (IR.ev D.g call y ρ).bind fun b => (IR.evOp o [a, b]).bind IR.truth) = fun a => ((IR.ev D.g call y ρ).bind fun b => IR.evOp o [a, b]).bind IR.truth := by
    funext a; rw [IR.M.bind_assoc]
  rw [e, ← IR.M.bind_assoc] at g
  have g : GG D.N F μ H ((((IR.ev D.g call x ρ).bind fun a => (IR.ev D.g call y ρ).bind fun b => IR.evOp o [a, b]) S).bind IR.truth) fun b _ _ H' => Q b H' := g
  have bl : ∀ d S', ((IR.ev D.g call x ρ).bind fun a => (IR.ev D.g call y ρ).bind fun b => IR.evOp o [a, b]) S = IR.Res.ok d S' → ∃ b, d = .bl b := fun d S' h => by
    simp only [IR.M.bind] at h
    cases e1 : IR.ev D.g call x ρ S with
    | bad => rw [e1] at h; cases h
    | exc c fs S => rw [e1] at h; cases h
    | ok p S1 =>
      rw [e1] at h
      have h : (IR.ev D.g call y ρ S1).bind (fun b => IR.evOp o [p, b]) = .ok d S' := h
      cases e2 : IR.ev D.g call y ρ S1 with
      | bad => rw [e2] at h; cases h
      | exc c fs S => rw [e2] at h; cases h
      | ok q S2 =>
        rw [e2] at h
        exact hc _ _ _ _ _ h
  generalize hr : ((IR.ev D.g call x ρ).bind fun a => (IR.ev D.g call y ρ).bind fun b => IR.evOp o [a, b]) S = r at g bl
  cases r with
  | bad => exact g
  | exc c fs S => exact g
  | ok d S' =>
    obtain ⟨b, rfl⟩ := bl d S' rfl
    exact fun μ' H' e R v rv _ => ⟨b, rv.bl, g μ' H' e R⟩
theorem bl_eqE {o : IR.Op} (ho : o = .eqE ∨ o = .neE) {p q : IR.D} {S S' : IR.Sto} {d : IR.D} (h : IR.evOp o [p, q] S = IR.Res.ok d S') : ∃ b, d = .bl b := by
  by_cases hab : ∃ n m, p = .ref n ∧ q = .ref m
  · obtain ⟨n, m, rfl, rfl⟩ := hab
    rcases ho with rfl | rfl
    · rw [ev_eqE] at h
      split at h
      · cases h; exact ⟨_, rfl⟩
      · cases h
    · rw [ev_neE] at h
      split at h
      · cases h; exact ⟨_, rfl⟩
      · cases h
  · rw [ev_eqE' ho fun n m z => hab ⟨n, m, z⟩] at h
    cases h
theorem t_eqE (C : Cm D X c k F) (ha : PE X a (tV D F call x)) (hb : PE X b (tV D F call y)) : PT X (.Compare a [.Eq] [b] pos) (tB' D F call (.op .eqE (.cons false x (.cons false y .nil)))) := s_cmpTB C (op_eqE (by have := C.hu; omega)) ha hb (nomark _) (fun _ _ _ _ _ h => bl_eqE (.inl rfl) h) fun R ra rb g => o_eqE (fun _ _ => ev_eqE) (fun _ _ k => ev_eqE' (.inl rfl) k) R ra rb g
theorem t_neE (C : Cm D X c k F) (ha : PE X a (tV D F call x)) (hb : PE X b (tV D F call y)) : PT X (.Compare a [.NotEq] [b] pos) (tB' D F call (.op .neE (.cons false x (.cons false y .nil)))) := s_cmpTB C (op_neE (by have := C.hu; omega)) ha hb (nomark _) (fun _ _ _ _ _ h => bl_eqE (.inr rfl) h) fun R ra rb g => o_eqE (fun _ _ => ev_neE) (fun _ _ k => ev_eqE' (.inr rfl) k) R ra rb g
end
end IRS

namespace IRS
open PySem PySem.Spec PyProof.Rows L2
/-! ### e.f of a caught exception -/
section
variable {D : Wd} {X : Cx} {c : Ctx} {k : Nat} {F : Fm} {pos : Pos} {a b e o tg : Expr} {es : List Expr} {call : Nat → List IR.D → IR.M IR.D} {x y z : IR.E} {p apos cpos tpos p2 p3 : Pos} {n : Str} {l : List (Nat × Str)}
theorem pe_xfH {te : TE} (he : PE X e te) (hb : attributeBase e n X.env (eval e X.env) = eval e X.env) : PE X (.Attribute e n pos) (fun σ H Q => te σ H fun v H1 => ∃ (a C : Addr) (oe : Obj) (dd : Addr) (od : Obj) (r : List (Str × V)) (w : V),
    v = .ref a ∧ H1 a = some (isO a oe) ∧ ExcC X.K C ∧ PySem.W.findIn X.K (.ref C) n = some none ∧ oe.cls = .ref C ∧ (∃ vs, oe.data = .fields vs) ∧ oe.dict = some dd ∧ H1 dd = some (.frz od (.xd r)) ∧ r.lookup n = some w ∧ Q w H1) := by
  refine ⟨fun pins s σ H Q I h => ?_⟩
  refine attr_of hb (thn (he.run pins s σ H _ I h) fun u s1 hh => ?_)
  obtain ⟨v, H1, I1, rv, a, C, oe, dd, od, r, w, rfl, h1, hC, hno, h2, hf, h3, h4, h5, q⟩ := hh
  obtain rfl : u = Value.ref a := rv
  have hget : s1.heap.get? a = some oe := (I1.hok a _ h1).1
  have hfz : ObjOk X.prog X.w H1 s1.heap dd (.frz od (.xd r)) := I1.hok dd _ h4
  obtain ⟨hg, hx⟩ := (show s1.heap.get? dd = some od ∧ ObjOk X.prog X.w H1 s1.heap dd (.xd r) from hfz)
  obtain ⟨mA, hns, hr⟩ := (show ∃ mA, s1.heap.Ns1 dd mA ∧ ∀ f, RelO (r.lookup f) (mA f) from hx)
  obtain ⟨od', ho, hl⟩ := lookIn_ns hns
  rw [hg] at ho
  cases ho
  obtain ⟨u, hu, ru⟩ := RelO.some_of (v := w) (o := mA n) (by rw [← h5]; exact hr n)
  obtain ⟨vs, hd⟩ := hf
  have J : PySem.W.InstAt s1.heap a oe C (some od) := ⟨hget, h2, by unfold PySem.W.notCls; rw [hd] <;> rfl, by rw [h3]; exact hg⟩
  exact HandSPX.exc_get I1.kIn J hC.hg hC.hk hC.hs (PySem.W.findObj_own hC.hd hno rfl (by rw [hl, hu])) (handed_of ru) ⟨w, H1, I1.tok _, ru, q⟩
theorem attrX_at {j r : Nat} {S : IR.Sto} : IR.evOp (.attrX j) [.ref r] S = match S[r]? with
    | some (.exn _ fs) => IR.val1 (fs.lookup j) S
    | _ => .bad := rfl
theorem attrX_bad {j : Nat} {d : IR.D} {S : IR.Sto} {N : Nm} {W : Fm} {μ : List Addr} {H : Hp} {Q : VK} (g : GV N W μ H (IR.evOp (.attrX j) [d] S) Q) : ∃ r c fs w, d = .ref r ∧ S[r]? = some (.exn c fs) ∧ fs.lookup j = some w ∧ GV N W μ H (.ok w S) Q := by
  cases d <;> first | exact g.elim | skip
  rename_i r
  rw [attrX_at] at g
  cases h : S[r]? with
  | none => rw [h] at g; exact g.elim
  | some o =>
    rw [h] at g
    cases o with
    | exn c fs =>
      have g : GV N W μ H (IR.val1 (fs.lookup j) S) Q := g
      cases hl : fs.lookup j with
      | none => rw [hl] at g; exact g.elim
      | some w => rw [hl] at g; exact ⟨r, c, fs, w, rfl, h, hl, g⟩
    | lst l => exact g.elim
    | dK q l => exact g.elim
    | dT q l => exact g.elim
    | ins q l => exact g.elim
/-- no class of these has a field's name for its own -/
def NoF (K : PySem.W.Frag) (l : List (Nat × Str)) (n : Str) : Prop := ∀ y xn, l.lookup y = some xn → PySem.W.findIn K (.ref (He.ga K xn)) n = some none
theorem e_attrX {j : Nat} (C : Cm D X c k F) (A : XAll D l) (nd : D.N.fld.Nodup) (hj : D.N.fld[j]? = some n) (hno : NoF D.N.K l n) (ha : PE X a (tV D F call x)) (hb : attributeBase a n X.env (eval a X.env) = eval a X.env) :
    PE X (.Attribute a n pos) (tV D F call (.op (.attrX j) (.cons false x .nil))) := by
  refine PE.weak (pe_xfH ha hb) fun σ H Q q => ?_
  obtain ⟨μ, S, ρ, hI, R, hρ, g⟩ := q
  have g : GV D.N F μ H (((IR.evs D.g call (.cons false x .nil) ρ).bind fun l => IR.evOp (.attrX j) l) S) Q := g
  rw [evs1] at g
  refine one (f := fun a => IR.evOp (.attrX j) [a]) hI R hρ g fun μ2 S2 H2 d v' R2 rd g2 => ?_
  obtain ⟨r, cc, fs, w, rfl, hS, hl, g2⟩ := attrX_bad g2
  obtain ⟨a', rfl, ha'⟩ := rd.ref
  obtain ⟨C', oe, h1, h2, h3, h4, h5⟩ := R2.ob r _ a' hS ha'
  rw [A.clX] at h1
  obtain ⟨xc, hxc, rfl⟩ := Option.map_eq_some_iff.mp h1
  rw [C.K]
  rcases h5 with ⟨rfl, _⟩ | ⟨dd, od, rr, e1, e2, fr⟩
  · cases hl
  · rcases FR.get nd fr hj with ⟨z, _⟩ | ⟨d', v, z1, z2, z3⟩
    · rw [z] at hl; cases hl
    · rw [z1] at hl; cases hl
      refine ⟨a', _, oe, dd, od, rr, v, rfl, h2, A.ok _ _ hxc, hno _ _ hxc, h3, h4, e1, e2, z2, ?_⟩
      exact g2 μ2 H2 (Ext.refl _ _) R2 v z3.v (fun l a z => by cases z3 <;> cases z)
end
/-! ### an __init__ that hands a text on and keeps its one value -/
/-- what is asked of the class handed on to -/
structure LgC (K : PySem.W.Frag) (B : Addr) : Prop where
  hg : PySem.W.specialIn K (.ref B) "__getattribute__" = some (some (.builtin "type.__getattribute__"))
  hm : PySem.W.typeIn K (.ref B) = some (.type "type")
  hr : PySem.W.readsIn K B (.type "type") = true
  vV : PySem.W.findCls K (.ref B) (.type "type") "__init__" = some (.val (.builtin "ValueError.__init__"))
section
variable {X : Cx} {o e : Expr} {es : List Expr} {to te : TE} {ta : TA} {f n : Str} {p p' p1 p2 pos : Pos} {B : Addr}
theorem pe_lginit {pl : Sem Bool} (hg : Gl X n) (hm : X.mg n = some (.ref B)) (L : LgC X.K B) (ha : PA X (e :: es) ta) (hdb : (n == ("__debug__" : Str)) = false)
    (hc : eval (.Call (.Attribute (.Name n p1) "__init__" p2) (e :: es) [] pos) X.env = (do
      let ov ← eval (.Name n p1) X.env
      standAt p2.atName
      let (f, first) ← holding [ov] (getMethod ov "__init__" pl)
      callWith pos f first (backTo pos (starEach (e :: es) X.env)) (backToKw pos (keywordEach [] X.env))) := by rfl)
    (he : starEach (e :: es) X.env = (false, eval e X.env) :: starEach es X.env := by rfl) (hpl : (backTo pos (starEach es X.env)).any (·.1) = false := by rfl) :
    PE X (.Call (.Attribute (.Name n p1) "__init__" p2) (e :: es) [] pos) (tVeI X.K ta) := by
  refine ⟨fun pins s σ H Q I h => ?_⟩
  refine PySem.W.methodCall_KW (ld_glob I hg hm ?_ hdb) hc
  obtain ⟨m, fr⟩ := I.fr
  refine PySem.W.method_of_cls fr I.ok.mod.kin L.hg (PySem.W.cls_val fr I.ok.mod.kin L.hm L.hr L.vV rfl ?_)
  show wpAny _ _ (callWith pos (Value.builtin "ValueError.__init__") [] (backTo pos (starEach (e :: es) X.env)) []) _ _ _
  refine PyProof.Rows.callWith_method1 (thn (ha.run pos pins _ σ H _ (I.tok _) h) fun us s1 ⟨vs, H1, I1, r1, a, C, ws, ev, hl, T, ea, q⟩ => ?_) he hpl
  subst ev
  cases r1 with
  | @cons _ u0 _ ur ra rw' =>
    obtain rfl : u0 = Value.ref a := ra
    have hlen : ur.length ≤ sizeLine := by
      rw [← Paired.length rw', sizeLine_eq]
      omega
    exact oinit_ok T I1 ea hlen fun s' J => ⟨.non, H1, J, rfl, q⟩
end
/-- self, an exception that is being made, and its value: the value is kept -/
def spX1 (C : Addr) (f : Str) : Sp := fun vs H Q _ => ∃ (a : Addr) (w : V), vs = [.ref a, w] ∧ H a = some (exo a C none) ∧ ∀ dx, H dx = none → dx ≠ a → Q .non (upd (upd H dx (exd dx [(f, w)])) a (exo a C (some dx)))
/-- nothing is let out -/
def CXn : CXT := fun _ _ _ _ _ _ => False
structure XiOk (K : PySem.W.Frag) (mg : Str → Option Value) (x : Str) (f : Str) (fI : Addr) (fd : FuncData) (ps : List Str) : Prop where
  ox : OexC K (He.ga K x)
  nm : mg x = some (.ref (He.ga K x))
  iC : PySem.W.findIn K (.ref (He.ga K x)) "__init__" = some (some (.ref fI))
  tI : PySem.W.typeIn K (.ref fI) = some (.type "function")
  no : PySem.W.findIn K (.ref (He.ga K x)) f = some none
  bi : Binds K fd ps []
  ok : ∀ P w base k, FnOk P w K mg base CXn (k + 1) fI fd ps (spX1 (He.ga K x) f)
theorem xi_ok {K : PySem.W.Frag} {mg : Str → Option Value} {x qual m : Str} {params : Arguments} {scope : Scope} {fI B : Addr} {fd : FuncData} {j : Nat} {p1 p2 p3 p4 p5 p6 p7 p8 p9 p10 : Pos} {pl : Env → Sem Bool}
    (F : FunD K "__init__" qual params [.Expr (.Call (.Attribute (.Name "LagError" p1) "__init__" p2) [.Name "self" p3, .Constant (.str m) j p4] [] p5) p6, .Assign [.Attribute (.Name "self" p7) "part" p8] (.Name "part" p9) p10] scope [] [] fI fd)
    (S : FnScope ["self", "part"] ["self", "part"] scope) (hb : scope.names.lookup ("LagError" : Str) = some .globalImplicit) (h1 : Vis scope "self") (h2 : Vis scope "part") (bi : Binds K fd ["self", "part"] []) (ox : OexC K (He.ga K x)) (nm : mg x = some (.ref (He.ga K x)))
    (iC : PySem.W.findIn K (.ref (He.ga K x)) "__init__" = some (some (.ref fI))) (tI : PySem.W.typeIn K (.ref fI) = some (.type "function")) (no : PySem.W.findIn K (.ref (He.ga K x)) "part" = some none)
    (mb : mg "LagError" = some (.ref B)) (L : LgC K B)
    (hc : ∀ env : Env, eval (.Call (.Attribute (.Name "LagError" p1) "__init__" p2) [.Name "self" p3, .Constant (.str m) j p4] [] p5) env = (do
      let ov ← eval (.Name "LagError" p1) env
      standAt p2.atName
      let (f, first) ← holding [ov] (getMethod ov "__init__" (pl env))
      callWith p5 f first (backTo p5 (starEach [.Name "self" p3, .Constant (.str m) j p4] env)) (backToKw p5 (keywordEach [] env)))) :
    XiOk K mg x "part" fI fd ["self", "part"] where
  ox := ox
  nm := nm
  iC := iC
  tI := tI
  no := no
  bi := bi
  ok := fun P w base k => by
    refine F.ok S (fun vs H Q E ⟨a, v, e, _⟩ => by rw [e]; rfl) fun cdv A outer s H vs Q E hr ⟨a, v, ev, ea, q⟩ => ⟨_, pss_cons (ps_expr (pe_lginit (B := B) ?_ mb L (pa_cons (pe_var (i := 0) rfl h1) (pa_cons pe_str pa_nil)) (by decide) (hc _))) (pss_cons (ps_ost (pe_var (i := 0) rfl h1) (pe_var (i := 1) rfl h2)) pss_nil), ?_⟩
    · exact hb
    · subst ev
      refine ⟨.ref a, rfl, _, _, [_], rfl, (show 1 ≤ 1000 by decide), ox, ea, ?_⟩
      refine ⟨v, rfl, .ref a, rfl, a, _, rfl, ox, no, .inl ⟨ea, fun dx n ne => ?_⟩⟩
      exact q dx n ne
/-! ### raise C(v) -/
section
variable {D : Wd} {X : Cx} {c : Ctx} {k : Nat} {F : Fm} {pos : Pos} {a b e o tg : Expr} {es : List Expr} {call : Nat → List IR.D → IR.M IR.D} {x y z : IR.E} {p apos cpos tpos p2 p3 : Pos} {n f : Str} {l : List (Nat × Str)}
theorem st_raiseF (C : Cm D X c (k + 2) F) (A : XAll D l) {y j : Nat} {xn : Str} {fI : Addr} {fd : FuncData} {ps : List Str} (hy : l.lookup y = some xn) (xi : XiOk D.N.K D.mg xn f fI fd ps) (hfs : D.g.xfs.lookup y = some [j]) (hj : D.N.fld[j]? = some f) (hg : c.sc.names.lookup xn = some .globalImplicit)
    (ha : PA X [e] (tAs D F call (.cons true x .nil))) (hdb : (xn == ("__debug__" : Str)) = false := by rfl) (he : starEach [e] X.env = (false, eval e X.env) :: starEach [] X.env := by rfl) (hpl : (backTo p2 (starEach [] X.env)).any (·.1) = false := by rfl) (hh : c.hot = false := by rfl) :
    PS X (.Raise (some (.Call (.Name xn p) [e] [] p2)) none pos) (tSt D F call (.raise y (.cons true x .nil))) := by
  have ok : FnOk X.prog X.w X.K X.mg X.base CXn (k + 1) fI fd ps (spX1 (He.ga D.N.K xn) f) := by rw [C.prog, C.w, C.K, C.mg, C.base]; exact xi.ok _ _ _ _
  refine PS.weak (ps_raise (C.calm hh) C.tk (pmk_oex (CX := CXn) (by rw [C.K]; exact xi.ox) (by rw [C.K]; exact xi.iC) (by rw [C.K]; exact xi.tI) ok (C.room hh) (by rw [C.K]; exact xi.bi) (dvs := []) .nil (fun _ _ _ _ _ _ _ z => False.elim z) (C.gl hg) (by rw [C.mg]; exact xi.nm) ha hdb he hpl)) fun E σ H q => ?_
  obtain ⟨μ, S, ρ, hI, R, hρ, g⟩ := q
  refine ⟨μ, S, ρ, hI, R, hρ, ?_⟩
  have g : GG D.N F μ H ((IR.evs D.g call (.cons true x .nil) ρ S).bind fun l => fun S => match D.g.xfs.lookup y with
    | some fs => .exc y (fs.zip l) S
    | none => .bad) (KF D.N F E H) := g
  cases er : IR.evs D.g call (.cons true x .nil) ρ S with
  | bad => rw [er] at g; exact g
  | exc cc fs S1 => rw [er] at g; exact g
  | ok ds S1 =>
    rw [er] at g
    have g : GG D.N F μ H ((match D.g.xfs.lookup y with
      | some fs => .exc y (fs.zip ds) S1
      | none => .bad) : IR.Res IR.Flow) (KF D.N F E H) := g
    rw [hfs] at g
    intro μ' H' e1 R1 vs rs
    have hl : vs.length = 1 := rs.length.2.trans rfl
    have rr : Reps D.N μ' H' ds vs := rs.reps (fun o ho => by simpa [esOwn] using ho)
    refine ⟨by rw [hl]; decide, fun a ha' => ?_⟩
    match vs, ds, hl, rr, g with
    | [w], [d], _, .cons rw0 .nil, g =>
      refine ⟨a, w, rfl, upd_same, fun dx hdx hne => ?_⟩
      have hdx' : H' dx = none := by rw [upd_ne hne] at hdx; exact hdx
      have eH : upd (del (upd (upd (upd H' a (exo a (He.ga D.N.K xn) none)) dx (exd dx [(f, w)])) a (exo a (He.ga D.N.K xn) (some dx))) a) dx (.xd [(f, w)]) = upd H' dx (.xd [(f, w)]) := by
        funext b
        by_cases h1 : b = dx
        · rw [h1, upd_same, upd_same]
        · rw [upd_ne h1, upd_ne h1]
          by_cases h2 : b = a
          · rw [h2, del_same, ha']
          · rw [del_ne h2, upd_ne h2, upd_ne h1, upd_ne h2]
      refine ⟨rfl, dx, [(f, w)], upd_same, ?_, hdx', ?_⟩
      · rw [upd_ne hne, upd_same]
      · rw [eH]
        have frA : H dx = none := none_of fun o z => by
          by_cases hm : dx ∈ μ
          · obtain ⟨u, e2, _⟩ := R1.mem_some (e1.pre.subset hm)
            rw [hdx'] at e2; cases e2
          · have := e1.keep dx o hm z
            rw [hdx'] at this; cases this
        have g : GG D.N F μ H ((.exc y [(j, d)] S1) : IR.Res IR.Flow) (KF D.N F E H) := g
        exact g μ' _ (.ref (He.ga D.N.K xn)) (some dx) (e1.updNew frA) (R1.laid hdx') ⟨_, by rw [A.clX, hy]; rfl, rfl, .inr ⟨dx, _, rfl, upd_same, .cons hj (rw0.mono (Ext.laid hdx').w) .nil⟩⟩ (fun d' z => by cases z; exact frA) σ hI
end
/-! ### levels with one more between -/
section
variable {D : Wd}
theorem at0g {i np k : Nat} {f : Addr} {fd : FuncData} {ps : List Str} (ha : D.N.fnA i = some f) (kp : PySem.W.keepIn D.N.K (.ref f) = true) (hn : ps.length = np) (bi : Binds D.N.K fd ps []) : FnAt D k (IR.callD D.g 0 i) i np f fd ps :=
  ⟨ha, kp, hn, bi, ⟨fun vs H Q E h => h.1.trans hn.symm, fun A outer s H args us vs Q E _ _ _ _ ⟨_, μ, S, ds, _, _, g⟩ => by rw [IR.callD_z] at g; exact g.elim⟩⟩
theorem at1g {n k k' i np : Nat} {x qual : Str} {params : Arguments} {body : List Stmt} {scope : Scope} {dvs : List V} {kws : List (Str × V)} {f : Addr} {fd : FuncData} {Ns ps : List Str} {fn : IR.Fn}
    (F : FunD D.N.K x qual params body scope dvs kws f fd) (S : FnScope Ns ps scope) (ha : D.N.fnA i = some f) (hn : ps.length = np) (bi : Binds D.N.K fd ps []) (hg : D.g.fns i = some fn) (hnp : fn.np = np) (hns : fn.ns = Ns.length)
    (hbody : ∀ {X : Cx} {F' : Fm}, Cm D X ⟨Ns, scope, fun _ => true, false⟩ k F' → PassesOwn (model X.prog X.w) X.A X.env X.xe → (∀ i, F'.as i = true) → Fx X → PSs X body (tSs D F' (IR.callD D.g n) fn.body)) (e : k' = k + 1 := by omega) :
    FnAt D k' (IR.callD D.g (n + 1) i) i np f fd ps := by
  refine ⟨ha, F.kp, hn, bi, ?_⟩
  rw [e]
  refine F.ok S (fun vs H Q E h => h.1.trans hn.symm) fun cdv A outer s H vs Q E hr ⟨hl, μ, S0, ds, R, rs, g⟩ => ⟨tSs D (FmE E) (IR.callD D.g n) fn.body, hbody (F' := FmE E) ⟨rfl, rfl, rfl, rfl, rfl, rfl, S.nd, rfl, rfl, S.kind, fun _ => ⟨rfl, hr.hd⟩, ⟨hr.dp, hr.un⟩, takes_of rfl rfl rfl rfl⟩ (passes_of rfl) (fun _ => rfl) ⟨rfl, rfl, rfl⟩, ?_⟩
  have hd : ds.length = np := by rw [rs.length]; exact hl
  refine ⟨μ, S0, ds.map some ++ List.replicate (fn.ns - fn.np) none, trivial, R, ?_, ?_⟩
  · rw [hns, hnp, ← hd]
    exact starts rs
  · have g : GV D.N (FmE E) μ H ((IR.exs D.g (IR.callD D.g n) fn.body (ds.map some ++ List.replicate (fn.ns - fn.np) none) S0).bind fun fl => match fl with
        | .next _ => IR.M.pure .non
        | .ret v => IR.M.pure v
        | _ => IR.M.bad) Q := by
      have e2 : IR.callD D.g (n + 1) i ds S0 = (IR.exs D.g (IR.callD D.g n) fn.body (ds.map some ++ List.replicate (fn.ns - fn.np) none) S0).bind fun fl => match fl with
        | .next _ => IR.M.pure .non
        | .ret v => IR.M.pure v
        | _ => IR.M.bad := by
        simp only [IR.callD_s, hg, hd.trans hnp.symm, if_true, IR.M.bind]
        try rfl
      rw [← e2]; exact g
    cases er : IR.exs D.g (IR.callD D.g n) fn.body (ds.map some ++ List.replicate (fn.ns - fn.np) none) S0 with
    | bad => rw [er] at g; exact g
    | exc c fs S => rw [er] at g; exact g
    | ok fl S1 =>
      rw [er] at g
      intro μ1 H1 e1 R1
      cases fl with
      | next ρ => exact fun σ' _ _ => g μ1 H1 e1 R1 .non Rep.non fun l _ z => nomatch z
      | brk ρ => exact g.elim
      | cnt ρ => exact g.elim
      | ret d => exact fun v rv tm => g μ1 H1 e1 R1 v rv tm
theorem ht0g {i np k : Nat} {f : Addr} {fd : FuncData} {ps : List Str} (kp : PySem.W.keepIn D.N.K (.ref f) = true) (hn : ps.length = np) (bi : Binds D.N.K fd ps []) : FnAtH D k (IR.callD D.g 0 i) i np f fd ps :=
  ⟨kp, bi, ⟨fun vs H Q E h => h.1.trans hn.symm, fun A outer s H args us vs Q E _ _ _ _ ⟨_, μ, S, ds, _, _, g⟩ => by rw [IR.callD_z] at g; exact g.elim⟩⟩
theorem ht1g {n k k' i np : Nat} {x qual : Str} {params : Arguments} {body : List Stmt} {scope : Scope} {dvs : List V} {kws : List (Str × V)} {f : Addr} {fd : FuncData} {Ns ps : List Str} {fn : IR.Fn}
    (F : FunD D.N.K x qual params body scope dvs kws f fd) (S : FnScope Ns ps scope) (hn : ps.length = np) (bi : Binds D.N.K fd ps []) (hg : D.g.fns i = some fn) (hnp : fn.np = np) (hns : fn.ns = Ns.length)
    (hbody : ∀ {X : Cx} {F' : Fm}, Cm D X ⟨Ns, scope, fun _ => true, true⟩ k F' → (∀ i, F'.as i = true) → PSs X body (tSs D F' (IR.callD D.g n) fn.body)) (e : k' = k + 1 := by omega) :
    FnAtH D k' (IR.callD D.g (n + 1) i) i np f fd ps := by
  refine ⟨F.kp, bi, ?_⟩
  rw [e]
  obtain ⟨oc, od, dV, kV, doc, pm, an, cdv, ct, osl, rfl, lk, hcd, _, _⟩ := F.ex
  refine fn_ofX lk hcd S (fun vs H Q E h => h.1.trans hn.symm) fun A outer s H vs Q E hr ⟨hl, μ, S0, ds, R, rs, g⟩ => ⟨tSs D (FmE E) (IR.callD D.g n) fn.body, hbody (F' := FmE E) ⟨rfl, rfl, rfl, rfl, rfl, rfl, S.nd, rfl, rfl, S.kind, (fun z => nomatch (show true = false from z)), hr, takes_of rfl rfl rfl rfl⟩ (fun _ => rfl), ?_⟩
  have hd : ds.length = np := by rw [rs.length]; exact hl
  refine ⟨μ, S0, ds.map some ++ List.replicate (fn.ns - fn.np) none, trivial, R, ?_, ?_⟩
  · rw [hns, hnp, ← hd]
    exact starts rs
  · have g : GV D.N (FmE E) μ H ((IR.exs D.g (IR.callD D.g n) fn.body (ds.map some ++ List.replicate (fn.ns - fn.np) none) S0).bind fun fl => match fl with
        | .next _ => IR.M.pure .non
        | .ret v => IR.M.pure v
        | _ => IR.M.bad) Q := by
      have e2 : IR.callD D.g (n + 1) i ds S0 = (IR.exs D.g (IR.callD D.g n) fn.body (ds.map some ++ List.replicate (fn.ns - fn.np) none) S0).bind fun fl => match fl with
        | .next _ => IR.M.pure .non
        | .ret v => IR.M.pure v
        | _ => IR.M.bad := by
        simp only [IR.callD_s, hg, hd.trans hnp.symm, if_true, IR.M.bind]
        try rfl
      rw [← e2]; exact g
    cases er : IR.exs D.g (IR.callD D.g n) fn.body (ds.map some ++ List.replicate (fn.ns - fn.np) none) S0 with
    | bad => rw [er] at g; exact g
    | exc c fs S => rw [er] at g; exact g
    | ok fl S1 =>
      rw [er] at g
      intro μ1 H1 e1 R1
      cases fl with
      | next ρ => exact fun σ' _ _ => g μ1 H1 e1 R1 .non Rep.non fun l _ z => nomatch z
      | brk ρ => exact g.elim
      | cnt ρ => exact g.elim
      | ret d => exact fun v rv tm => g μ1 H1 e1 R1 v rv tm
theorem FnAt.up1 {k i np : Nat} {m : List IR.D → IR.M IR.D} {f : Addr} {fd : FuncData} {ps : List Str} (A : FnAt D k m i np f fd ps) : FnAt D (k + 1) m i np f fd ps := A.mono (by omega)
theorem FnAtH.up1 {k i np : Nat} {m : List IR.D → IR.M IR.D} {f : Addr} {fd : FuncData} {ps : List Str} (A : FnAtH D k m i np f fd ps) : FnAtH D (k + 1) m i np f fd ps :=
  ⟨A.kp, A.bi, A.ok.len, fun Ar outer s H args us vs Q E hr => A.ok.run Ar outer s H args us vs Q E (hr.mono (by omega))⟩
end
/-! ### what the written part is asked -/
def oexB (K : PySem.W.Frag) (C : Addr) : Bool := match K.lookup C with
  | some ⟨.type "type", _, .cls cd, sl⟩ => (match cd.mro, sl.toList with
    | .ref C' :: bm, [_, _, _, _, some (.builtin n), _] => C' == C && (n == "ValueError.__new__" && (!cd.hasDel && (cd.hasDict && PySem.HandSPX.refsVE bm)))
    | _, _ => false)
  | _ => false
theorem oexB_ok {K : PySem.W.Frag} {C : Addr} (q : oexB K C = true) : ∃ nm q N bs bm sn sub ab col dd k0 k1 k2 k3 k5, K.lookup C = some (excClassObj nm q C N bs bm true sn sub ab col dd k0 k1 k2 k3 k5 "ValueError.__new__") ∧ PySem.HandSPX.refsVE bm = true := by
  unfold oexB at q
  split at q
  · rename_i dd cd sl ho
    split at q
    · rename_i C' bm k0 k1 k2 k3 n k5 hm hs
      simp only [Bool.and_eq_true, beq_iff_eq, Bool.not_eq_true'] at q
      obtain ⟨rfl, rfl, hdel, hdi, ht⟩ := q
      obtain ⟨nm, bs, mro, ns, qn, hd, sn, sub, ab, col, del⟩ := cd
      dsimp only at hm hdel hdi
      subst hm hdel hdi
      have hsl : sl = #[k0, k1, k2, k3, some (.builtin "ValueError.__new__"), k5] := by
        obtain ⟨l⟩ := sl
        simp only at hs
        rw [hs]
      subst hsl
      exact ⟨nm, qn, ns, bs, bm, sn, sub, ab, col, dd, k0, k1, k2, k3, k5, ho, ht⟩
    · cases q
  · cases q
def lgB (K : PySem.W.Frag) : Bool := decide (PySem.W.nsIn K mainGlobals "LagError" = some (some (.ref (He.ga K "LagError")))) && (eqE (PySem.W.specialIn K (.ref (He.ga K "LagError")) "__getattribute__") "type.__getattribute__" && (decide (PySem.W.typeIn K (.ref (He.ga K "LagError")) = some (.type "type")) &&
  (PySem.W.readsIn K (He.ga K "LagError") (.type "type") && match PySem.W.findCls K (.ref (He.ga K "LagError")) (.type "type") "__init__" with
    | some (.val (.builtin b)) => b == "ValueError.__init__"
    | _ => false)))
theorem lgB_ok {K : PySem.W.Frag} {h : Heap} {mg : Str → Option Value} (X : K.In h) (G : h.Ns mainGlobals mg) (q : lgB K = true) : mg "LagError" = some (.ref (He.ga K "LagError")) ∧ LgC K (He.ga K "LagError") := by
  unfold lgB eqE at q
  simp only [Bool.and_eq_true, decide_eq_true_eq] at q
  obtain ⟨h1, h2, h3, h4, h5⟩ := q
  refine ⟨PySem.W.mg_of X G h1, h2, h3, h4, ?_⟩
  split at h5
  · rename_i b e
    rw [e, beq_iff_eq.mp h5]
  · cases h5
/-- a class with such an __init__ -/
def xiB (K : PySem.W.Frag) (x : Str) : Bool := oexB K (He.ga K x) && (eqE (PySem.W.findIn K (.ref (He.ga K x)) "__setattr__") "object.__setattr__" && (decide (PySem.W.subIn K (.ref (He.ga K x)) (.type "BaseException") = some true) && (decide (PySem.W.typeIn K (.ref (He.ga K x)) = some (.type "type")) && (PySem.W.keepIn K (.ref (He.ga K x)) &&
  (decide (PySem.W.nsIn K mainGlobals x = some (some (.ref (He.ga K x)))) && (decide (PySem.W.findIn K (.ref (He.ga K x)) "__init__" = some (some (.ref (He.fAd K (x, some "__init__"))))) && (decide (PySem.W.typeIn K (.ref (He.fAd K (x, some "__init__"))) = some (.type "function")) &&
  decide (PySem.W.findIn K (.ref (He.ga K x)) "part" = some none))))))))
structure XiC (K : PySem.W.Frag) (mg : Str → Option Value) (x : Str) : Prop where
  ox : OexC K (He.ga K x)
  nm : mg x = some (.ref (He.ga K x))
  iC : PySem.W.findIn K (.ref (He.ga K x)) "__init__" = some (some (.ref (He.fAd K (x, some "__init__"))))
  tI : PySem.W.typeIn K (.ref (He.fAd K (x, some "__init__"))) = some (.type "function")
  no : PySem.W.findIn K (.ref (He.ga K x)) "part" = some none
theorem xiB_ok {K : PySem.W.Frag} {h : Heap} {mg : Str → Option Value} {x : Str} (X : K.In h) (G : h.Ns mainGlobals mg) (q : xiB K x = true) : XiC K mg x := by
  unfold xiB eqE at q
  simp only [Bool.and_eq_true, decide_eq_true_eq] at q
  obtain ⟨h1, h2, h3, h4, h5, h6, h7, h8, h9⟩ := q
  exact ⟨⟨oexB_ok h1, h2, h3, h4, h5⟩, PySem.W.mg_of X G h6, h7, h8, h9⟩
def noFB (K : PySem.W.Frag) (l : List (Nat × Str)) (f : Str) : Bool := l.all fun p => decide (PySem.W.findIn K (.ref (He.ga K p.2)) f = some none)
theorem noFB_ok {K : PySem.W.Frag} {l : List (Nat × Str)} {f : Str} (q : noFB K l f = true) : NoF K l f := fun y xn e => of_decide_eq_true (List.all_eq_true.mp q (y, xn) (lookup_mem' e))
/-- all of it -/
def xrB (K : PySem.W.Frag) (l : List (Nat × Str)) (xs fs : List Str) : Bool := xB K l && (lgB K && (xs.all (xiB K) && fs.all (noFB K l)))
theorem xrB_ok {K : PySem.W.Frag} {l : List (Nat × Str)} {xs fs : List Str} (q : xrB K l xs fs = true) : xB K l = true ∧ lgB K = true ∧ (∀ x ∈ xs, xiB K x = true) ∧ ∀ f ∈ fs, noFB K l f = true := by
  unfold xrB at q
  simp only [Bool.and_eq_true, List.all_eq_true] at q
  exact q
end IRS

namespace IRS
open PySem PySem.Spec PyProof.Rows L2
/-! ### the head's hook: each object is come to once by its own road, the interpreter's own statics beside -/
def refF (o : Obj) : List Addr := match o.data with
  | .dict es _ => es.toList.flatMap fun e => He.refV e.val
  | .func fd => He.refV fd.code ++ He.refV fd.defaults
  | .cls cd => [cd.ns]
  | _ => []
def stepF (g : Addr → Option Obj) (as : List Addr) : List Addr := as.flatMap fun a => match g a with
  | some o => refF o
  | none => []
/-- the front, n steps on, and all behind it -/
def asF (g : Addr → Option Obj) : Nat → List Addr → List Addr
  | 0, as => as
  | n + 1, as => as ++ asF g n (stepF g as)
def asS (g : Addr → Option Obj) (n : Nat) : List Addr := asF g n [mainGlobals] ++ [cStatics]
def obsS (n : Nat) (fa : List He.Fa) (fn : List He.DefD) (ex : PySem.W.Frag → Bool) (g : Addr → Option Obj) : He.AlD × Bool := (He.obsD fa fn (He.frG g (asS g n)), ex (He.frG g (asS g n)))
def hookS (n : Nat) (fa : List He.Fa) (fn : List He.DefD) (ex : PySem.W.Frag → Bool) : PySem.W.Hook where
  α := He.AlD × Bool
  obs := fun s => obsS n fa fn ex s.heap.get?
  val := fun _ => (He.valD fn, true)
  says := fun _ h => ∃ K : PySem.W.Frag, K.In h ∧ He.SaysD fa fn K ∧ ex K = true
  of := fun _ _ e => ⟨_, He.frG_in, congrArg Prod.fst e, congrArg Prod.snd e⟩
  keeps := fun _ _ _ ⟨K, hK, c⟩ k => ⟨K, PySem.W.Frag.In.keeps hK k, c⟩
theorem obsS_eq {n : Nat} {fa : List He.Fa} {fn : List He.DefD} {ex : PySem.W.Frag → Bool} {g : Addr → Option Obj} {s : Shared} (h : ∀ a, g a = s.heap.get? a) : obsS n fa fn ex g = (hookS n fa fn ex).obs s := by
  have e : g = s.heap.get? := funext h
  rw [e] <;> rfl
end IRS

namespace IRS
open PySem PySem.Spec PyProof.Rows L2
/-! ### a try whose body is one store to a name: where it raises, nothing is stored -/
section
variable {D : Wd} {X : Cx} {c : Ctx} {k : Nat} {F : Fm} {pos : Pos} {a b e o tg : Expr} {es : List Expr} {call : Nat → List IR.D → IR.M IR.D} {x y z : IR.E} {p apos cpos tpos p2 p3 : Pos} {n : Str} {l : List (Nat × Str)}
theorem st_try1 {y i i3 : Nat} {xn n n3 : Str} {e3 : Expr} {p3 p4 : Pos} {x3 : IR.E} {sd : IR.Ss} {suite : List Stmt} {b₀ : Stmt} {np pos' : Pos} (C : Cm D X c k F) (hx : Fx X) (A : XAll D l) (hN : c.N[i]? = some n) (hln : c.sc.names.lookup n = some .local)
    (hy : l.lookup y = some xn) (hg : c.sc.names.lookup xn = some .globalImplicit) (has : ∀ j, F.as j = true)
    (hN3 : c.N[i3]? = some n3) (hl3 : Loc c.sc n3) (hf3 : c.fs n3 = true ∨ c.sc.names.lookup n3 = some .local)
    (hs3 : swapsWithSole [.Name n3 p3] e3 p4.line X.env = pure false) (hw3 : swappedStores [.Name n3 p3] e3 X.env = pure none) (h13 : (assignEach [.Name n3 p3] X.env).map (·.2) = [assign (.Name n3 p3) X.env])
    (hb : ∀ (pn : List (Addr × Obj)) (xe : Value → Shared → Prop) (F' : Fm), Cm D (X.tr pn xe) c k F' → Fx (X.tr pn xe) → PassesOwn (model X.prog X.w) X.A X.env xe → PE (X.tr pn xe) e3 (tV D F' call x3))
    (hs : ∀ (a : Addr) (pn : List (Addr × Obj)) (F' : Fm), Cm D (X.suite a pn) c.heat k F' → (∀ j, F'.as j = true) → PSs (X.suite a pn) (b₀ :: suite) (tSs D F' call sd)) (h9 : y ≠ 9 := by decide) (hdb : (xn == ("__debug__" : Str)) = false := by rfl) :
    PS X (.Try [.Assign [.Name n3 p3] e3 p4] [.ExceptHandler (some (.Name xn np)) (some n) (b₀ :: suite) pos'] [] [] pos) (tSt D F call (.try_ (.cons (.asg (.var i3) x3) .nil) [] y i sd)) := by
  have hv : xvW D.N.K l y = some (.ref (He.ga D.N.K xn)) := by unfold xvW; rw [if_neg h9, hy]; rfl
  have P := ps_try_asX (x := xn) (n := n) (c := .ref (He.ga D.N.K xn)) (i := i) (body := [.Assign [.Name n3 p3] e3 p4]) (suite := suite) (b₀ := b₀) (np := np) (pos := pos) (pos' := pos') (tb := fun W E σ H => ∃ μ S ρ, F.I σ ∧ Rel D.N μ S H ∧ RSt D.N μ H ρ σ ∧ GG D.N (Fb F [] σ W) μ H (IR.exs D.g call (.cons (.asg (.var i3) x3) .nil) ρ S) (KF D.N F E H)) (ts := tSs D (Fs F i) call sd) (Wout := F.W)
    hx.ex hx.st hx.fr (by rw [C.N]; exact C.nd) (by rw [C.N]; exact hN) (by show X.env.scope.names.lookup n = _; rw [C.sc]; exact hln) ⟨C.gl hg, hdb, .inl (by rw [C.mg]; exact A.nm _ _ hy)⟩ C.tk
    (fun W pn xe tk' hp' => ⟨fun pins s σ H E I h => by
      obtain ⟨μ, S, ρ, hI, R, hρ, g⟩ := h
      have C' : Cm D (X.tr pn xe) c k (Fb F [] σ W) := C.tr tk'
      have Q := pss_cons (ps_asg (hb pn xe (Fb F [] σ W) C' ⟨hx.ex, hx.st, hx.fr⟩ hp') (pg_name (X := X.tr pn xe) (i := i3) (by rw [C'.N]; exact C'.nd) (by rw [C'.N]; exact hN3) (by rw [C'.sc]; exact hl3) (by rw [C'.fs, C'.sc]; exact hf3)) hs3 hw3 h13) pss_nil
      refine Q.run pins s σ H E I ?_
      refine ⟨μ, S, ρ, ⟨hI, rfl⟩, R, hρ, ?_⟩
      have g : GG D.N (Fb F [] σ W) μ H (((IR.ev D.g call x3 ρ S).bind (IR.ownIf true)).bind fun d => (IR.setTg (.var i3) ρ d).bind fun ρ' => IR.M.pure (IR.Flow.next ρ')) (KF D.N F E H) := by
        have e : IR.exs D.g call (.cons (.asg (.var i3) x3) .nil) ρ S = ((IR.ev D.g call x3 ρ S).bind (IR.ownIf true)).bind fun d => (IR.setTg (.var i3) ρ d).bind fun ρ' => IR.M.pure (IR.Flow.next ρ') := by
          simp only [IR.exs, IR.ex, IR.M.bind]
          cases IR.ev D.g call x3 ρ S with
          | ok d S1 =>
            simp only [IR.Res.bind, IR.M.bind, IR.ownIf, if_true]
            cases IR.own d S1 <;> rfl
          | exc c fs S1 => rfl
          | bad => rfl
        rw [← e]; exact g
      refine GG.own g fun μ1 S1 H1 d v e1 R1 rd g1 => ?_
      exact g1 μ1 H1 (Ext.refl _ _) R1 (σ.set i3 (some v)) (F.put _ _ _ (has i3) hI) ((hρ.mono e1.w).set rd)⟩)
    (fun a pn => hs a pn (Fs F i) (C.suite takes00) has)
  refine PS.weak P fun E σ H q => ?_
  obtain ⟨μ, S, ρ, hI, R, hρ, g⟩ := q
  refine ⟨μ, S, ρ, hI, R, hρ, ?_⟩
  have g : GG D.N F μ H (IR.caught y i [] ρ (IR.exs D.g call (.cons (.asg (.var i3) x3) .nil) ρ) (fun ρ => IR.exs D.g call sd ρ) S) (KF D.N F E H) := g
  unfold IR.caught at g
  cases er : IR.exs D.g call (.cons (.asg (.var i3) x3) .nil) ρ S with
  | bad => rw [er] at g; exact g
  | ok fl S1 =>
    rw [er] at g
    intro μ' H' e R'
    have g := g μ' H' e R'
    cases fl with
    | next ρ' => exact g
    | brk ρ' => exact g
    | cnt ρ' => exact g
    | ret d => exact g
  | exc c' fs S1 =>
    rw [er] at g
    dsimp only at g
    intro μ' H' cls dd e R' rx nw σ' hI'
    obtain ⟨C', hC', rfl, rfs⟩ := id rx
    have hC2 := hC'
    rw [A.clX] at hC'
    obtain ⟨xc, hxc, rfl⟩ := Option.map_eq_some_iff.mp hC'
    show wAsX X.K _ i _ F.W E _ dd σ' H'
    refine ⟨IR.subX c' y, by rw [C.K]; exact A.exm _ _ _ _ hxc hv, fun hb1 => ?_, fun hb0 => ?_⟩
    · rw [if_pos hb1] at g
      have frA : ∀ {p : Addr}, H' p = none → H p = none := fun {p} hp => none_of fun o z => by
        by_cases hm : p ∈ μ
        · obtain ⟨u, e1, _⟩ := R'.mem_some (e.pre.subset hm)
          rw [hp] at e1; cases e1
        · have := e.keep p o hm z
          rw [hp] at this; cases this
      have hdn : ∀ {d : Addr}, dd = some d → d ∉ μ' := fun {d} hd => rx.fresh R' hd
      have fin : ∀ (a : Addr) (oe : Obj) (Hn : Hp), H' a = none → Zc (.ref (He.ga D.N.K xc)) dd oe → (∃ vs, oe.data = .fields vs) → Ext μ H (μ' ++ [a]) Hn → WExt μ' H' (μ' ++ [a]) Hn → Rel D.N (μ' ++ [a]) (S1 ++ [.exn c' fs]) Hn →
          tSs D (Fs F i) call sd { nx := fun σ' H' => E.nx (σ'.set i none) H', rt := E.rt, bk := fun σ' H' => E.bk (σ'.set i none) H', ct := fun σ' H' => E.ct (σ'.set i none) H' } (σ'.set i (some (.ref a))) Hn := by
        intro a oe Hn na hz hd e2 w2 R2
        have hat : (μ' ++ [a])[S1.length]? = some a := by rw [← R'.len]; simp
        refine ⟨μ' ++ [a], S1 ++ [.exn c' fs], (IR.wipeV ρ []).set i (some (.ref S1.length)), ?_, R2, (((hρ.mono e.w).wiped hI'.2).mono w2).set (.ref hat), ?_⟩
        · show F.I ((σ'.set i (some (.ref a))).set i none)
          rw [List.set_set]
          exact F.del _ _ (has i) hI'.1
        · have g2 := KF.base e2 g
          have g2 : GG D.N F (μ' ++ [a]) Hn ((IR.noExc (IR.exs D.g call sd ((IR.wipeV ρ []).set i (some (.ref S1.length)))) (S1 ++ [.exn c' fs])).bind fun fl => IR.M.pure (fl.gone i)) (KF D.N F E Hn) := g2
          unfold IR.noExc at g2
          cases es : IR.exs D.g call sd ((IR.wipeV ρ []).set i (some (.ref S1.length))) (S1 ++ [.exn c' fs]) with
          | bad => rw [es] at g2; exact g2
          | exc c2 f2 S2 => rw [es] at g2; exact g2.elim
          | ok fl S2 =>
            rw [es] at g2
            intro μ6 H6 e6 R6
            have k := g2 μ6 H6 e6 R6
            cases fl with
            | next ρ6 => exact fun σ6 h6 r6 => k (σ6.set i none) h6 r6.gone
            | brk ρ6 => exact fun σ6 h6 r6 => k (σ6.set i none) h6 r6.gone
            | cnt ρ6 => exact fun σ6 h6 r6 => k (σ6.set i none) h6 r6.gone
            | ret d => exact k
      rcases rfs with ⟨rfl, rfl⟩ | ⟨d, r, rfl, hxd, fr⟩
      · refine ⟨none, (fun p z => nomatch z), fun a oe o na hz hd => fin a oe _ na hz hd ((e.updNew (frA na)).add (frA na)) ?_ ?_⟩
        · exact (Ext.laid na).w.trans' .add
        · exact (R'.laid na).add (R'.fresh na) ⟨_, oe, hC2, upd_same, hz.1, hd, .inl ⟨rfl, hz.2⟩⟩
      · refine ⟨some (d, r), fun p z => by cases z; exact hxd, fun a oe o na hz hd => ?_⟩
        have hd2 : (upd H' a (isO a oe)) d = some (.xd r) := by rw [upd_ne (ne_of_none hxd na)]; exact hxd
        have w2 : WExt μ' H' μ' (upd (upd H' a (isO a oe)) d (.frz o (.xd r))) := (Ext.laid na).w.trans' (w_frzd (N := D.N) hd2)
        refine fin a oe _ na hz hd (((e.updNew (frA na)).updNew (nw d rfl)).add (frA na)) (w2.trans' .add) ?_
        refine ((R'.laid na).frzd hd2 (hdn rfl)).add (R'.fresh na) ⟨_, oe, hC2, ?_, hz.1, hd, .inr ⟨d, o, r, hz.2, upd_same, (fr.mono w2).mono .add⟩⟩
        rw [upd_ne (Ne.symm (ne_of_none hxd na))]
        exact upd_same
    · rw [if_neg (by rw [hb0]; decide)] at g
      exact g μ' H' _ dd e R' rx nw σ' hI'.1
end
end IRS

namespace IRS
open PySem PySem.Spec PyProof.Rows L2
/-! ### l.count(b), l.index(x) of lists of truths, of numbers -/
def rCountF (K : PySem.W.Frag) : V → List V → Hp → VK → Prop := fun x xs H Q => ∃ (a : Addr) (ys : List V) (y : V), x = .ref a ∧ xs = [y] ∧ SqL K H a ys ∧ flatV y = true ∧ ys.all flatV = true ∧ Q (.int ((ys.countP fun z => eqV z y : Nat) : Int)) H
theorem count_eqU {x : V} : ∀ {xs : List V} {us : List Value}, Vals xs us → xs.all flatV = true → us.countP (eqU x) = xs.countP fun y => eqV y x
  | _, _, .nil, _ => rfl
  | y :: xs, u :: us, .cons r t, f => by
    rw [List.all_cons, Bool.and_eq_true] at f
    rw [List.countP_cons, List.countP_cons, count_eqU t f.2, eqU_of r f.1]
theorem mt_countF {X : Cx} : MtR X "list.count" (rCountF X.K) := by
  intro pins s σ H x xs v us Q I rx rxs h
  obtain ⟨a, ys, y, rfl, rfl, hs, fy, fys, q⟩ := h
  cases rx
  obtain ⟨u, rfl, ru⟩ := rxs.one
  obtain ⟨its, rv, ⟨⟨cls, dd, data, sl⟩, n, ho, hc, hdn, hd⟩, hlen⟩ := I.list hs
  simp only at hc hd
  subst hc hd
  refine call_meets PySem.F.slot_list_count ⟨_, ho, rfl⟩ PySem.F.entry_list_count (PySem.F.args_list_count_2 _ _)
    (SeqAt.list_countAt a its.toArray n dd sl u (eqU y)) ⟨ho, fun u' hu' => mem_eqAt ru fy rv fys u' (by simpa using hu'), ?_⟩
  have ec : its.toArray.toList.countP (eqU y) = ys.countP fun z => eqV z y := count_eqU rv fys
  refine ⟨.int ((ys.countP fun z => eqV z y : Nat) : Int), H, I.tok _, ⟨s.toks, ?_⟩, q⟩
  show Value.int ((its.toArray.toList.countP (eqU y) : Nat) : Int) s.toks = Value.int ((ys.countP fun z => eqV z y : Nat) : Int) s.toks
  rw [ec]
theorem eqV_bl {a b : Bool} : eqV (.bl a) (.bl b) = (a == b) := rfl
theorem eqV_int {a b : Int} : eqV (.int a) (.int b) = (a == b) := rfl
section
variable {N : Nm} {W : Fm} {μ : List Addr} {S : IR.Sto} {H : Hp} {Q : VK} {a b d : IR.D} {x y z : V}
theorem bls53_of : ∀ {l : List IR.D} {bs : List Bool} {vs : List V}, l.mapM IR.D.isBl = some bs → Reps N μ H l vs → vs = bs.map V.bl
  | [], bs, vs, h, r => by
    cases r
    cases h; rfl
  | d :: l, bs, vs, h, r => by
    rw [List.mapM_cons] at h
    obtain ⟨b, h1, h⟩ := Option.bind_eq_some_iff.mp h
    obtain ⟨t, h2, h⟩ := Option.bind_eq_some_iff.mp h
    cases h
    cases r with
    | cons r1 rr =>
      rw [bls53_of h2 rr]
      cases d <;> cases h1
      rw [r1.v.bl]; rfl
theorem nums53_of : ∀ {l : List IR.D} {bs : List Int} {vs : List V}, l.mapM IR.D.isInt = some bs → Reps N μ H l vs → vs = bs.map V.int
  | [], bs, vs, h, r => by
    cases r
    cases h; rfl
  | d :: l, bs, vs, h, r => by
    rw [List.mapM_cons] at h
    obtain ⟨b, h1, h⟩ := Option.bind_eq_some_iff.mp h
    obtain ⟨t, h2, h⟩ := Option.bind_eq_some_iff.mp h
    cases h
    cases r with
    | cons r1 rr =>
      rw [nums53_of h2 rr]
      cases d <;> cases h1
      rw [r1.v.int]; rfl
theorem all_bl {bs : List Bool} : (bs.map V.bl).all flatV = true := by rw [List.all_map]; exact List.all_eq_true.mpr fun _ _ => rfl
theorem all_int {bs : List Int} : (bs.map V.int).all flatV = true := by rw [List.all_map]; exact List.all_eq_true.mpr fun _ _ => rfl
theorem o_countB (R : Rel N μ S H) (ra : RepV N μ H a x) (rb : RepV N μ H b y) (g : GV N W μ H (IR.evOp .countB [a, b] S) Q) : rCountF N.K x [y] H Q := by
  cases b <;> first | exact g.elim | skip
  rename_i t
  have g : GV N W μ H (IR.val1 ((IR.ownItems S a).bind fun l => (l.mapM IR.D.isBl).map fun bs => IR.D.int ((bs.filter fun x => x == t).length : Nat)) S) Q := g
  obtain ⟨d, e, g⟩ := g.val1
  obtain ⟨l, e1, e⟩ := Option.bind_eq_some_iff.mp e
  obtain ⟨bs, e2, rfl⟩ := Option.map_eq_some_iff.mp e
  obtain ⟨p, vs, rfl, h1, h2⟩ := own_of R ra e1
  have h3 := bls53_of e2 h2
  subst h3
  refine ⟨p, _, y, rfl, rfl, .of h1, by rw [rb.bl]; rfl, all_bl, ?_⟩
  have e4 : ((bs.map V.bl).countP fun z => eqV z y) = (bs.filter fun x => x == t).length := by
    rw [rb.bl, List.countP_map, ← List.countP_eq_length_filter]
    rfl
  rw [e4]
  exact g.int R
theorem index_of {α : Type} {p : α → Bool} : ∀ {s : List α} {n : Nat}, s.findIdx? p = some n → (∃ z, s[n]? = some z ∧ p z = true) ∧ ∀ k z, k < n → s[k]? = some z → p z = false
  | [], n, h => by simp at h
  | x :: r, n, h => by
    rw [List.findIdx?_cons] at h
    by_cases e : p x = true
    · rw [if_pos e] at h
      cases h
      exact ⟨⟨x, rfl, e⟩, fun k _ hk => by omega⟩
    · rw [if_neg e] at h
      obtain ⟨m, hm, rfl⟩ := Option.map_eq_some_iff.mp h
      obtain ⟨h1, h2⟩ := index_of hm
      refine ⟨by simpa using h1, fun k z hk hz => ?_⟩
      cases k with
      | zero =>
        have : x = z := by simpa using hz
        subst this
        exact Bool.eq_false_iff.mpr e
      | succ k => exact h2 k z (by omega) (by simpa using hz)
theorem o_indexL (R : Rel N μ S H) (ra : RepV N μ H a x) (rb : RepV N μ H b y) (g : GV N W μ H (IR.evOp .indexL [a, b] S) Q) : rIndex N.K x [y] H Q := by
  cases b <;> first | exact g.elim | skip
  case bl t =>
    have g : GV N W μ H (IR.val1 ((IR.ownItems S a).bind fun l => (l.mapM IR.D.isBl).bind fun bs => (bs.findIdx? fun x => x == t).map fun (n : Nat) => IR.D.int (n : Int)) S) Q := g
    obtain ⟨d, e, g⟩ := g.val1
    obtain ⟨l, e1, e⟩ := Option.bind_eq_some_iff.mp e
    obtain ⟨bs, e2, e⟩ := Option.bind_eq_some_iff.mp e
    obtain ⟨n, e3, rfl⟩ := Option.map_eq_some_iff.mp e
    obtain ⟨p, vs, rfl, h1, h2⟩ := own_of R ra e1
    have h3 := bls53_of e2 h2
    subst h3
    obtain ⟨⟨z, z1, z2⟩, z3⟩ := index_of e3
    refine ⟨p, _, y, n, .bl z, rfl, rfl, .of h1, by rw [rb.bl]; rfl, all_bl, by rw [List.getElem?_map, z1]; rfl, by rw [rb.bl]; exact z2, fun m z' hm hz => ?_, g.int R⟩
    rw [List.getElem?_map] at hz
    obtain ⟨w, w1, rfl⟩ := Option.map_eq_some_iff.mp hz
    rw [rb.bl]
    exact z3 m w hm w1
  case int t =>
    have g : GV N W μ H (IR.val1 ((IR.ownItems S a).bind fun l => (l.mapM IR.D.isInt).bind fun bs => (bs.findIdx? fun x => x == t).map fun (n : Nat) => IR.D.int (n : Int)) S) Q := g
    obtain ⟨d, e, g⟩ := g.val1
    obtain ⟨l, e1, e⟩ := Option.bind_eq_some_iff.mp e
    obtain ⟨bs, e2, e⟩ := Option.bind_eq_some_iff.mp e
    obtain ⟨n, e3, rfl⟩ := Option.map_eq_some_iff.mp e
    obtain ⟨p, vs, rfl, h1, h2⟩ := own_of R ra e1
    have h3 := nums53_of e2 h2
    subst h3
    obtain ⟨⟨z, z1, z2⟩, z3⟩ := index_of e3
    refine ⟨p, _, y, n, .int z, rfl, rfl, .of h1, by rw [rb.int]; rfl, all_int, by rw [List.getElem?_map, z1]; rfl, by rw [rb.int]; exact z2, fun m z' hm hz => ?_, g.int R⟩
    rw [List.getElem?_map] at hz
    obtain ⟨w, w1, rfl⟩ := Option.map_eq_some_iff.mp hz
    rw [rb.int]
    exact z3 m w hm w1
end
section
variable {D : Wd} {X : Cx} {c : Ctx} {k : Nat} {F : Fm} {pos : Pos} {a b e o tg : Expr} {es : List Expr} {call : Nat → List IR.D → IR.M IR.D} {x y z : IR.E} {p apos cpos tpos : Pos} {mname : List (Str × Nat)} {n : Str}
theorem e_countB (C : Cm D X c k F) (ho : PE X o (tV D F call x)) (ha : PE X e (tV D F call y)) (hs : A1 e X) (hbase : attributeBase o ("count" : Str) X.env (eval o X.env) = eval o X.env) (hline : (apos.endLine == pos.line) = true) :
    PE X (.Call (.Attribute o ("count" : Str) apos) [e] [] pos) (tV D F call (.bm .countB x (.cons false y .nil))) :=
  s_bm C (kd := 1) PySem.F.plainAttrs_list PySem.F.slot_list_count PySem.F.type_list_count mt_countF rfl ho (s_cons ha s_nil hs) (fun R rd rs g => by
    cases rs with
    | cons r1 rr => cases rr; rw [C.K]; exact o_countB R rd r1 g) hbase (by rw [hs]; rfl) hline hs rfl
theorem e_indexL (C : Cm D X c k F) (ho : PE X o (tV D F call x)) (ha : PE X e (tV D F call y)) (hs : A1 e X) (hbase : attributeBase o ("index" : Str) X.env (eval o X.env) = eval o X.env) (hline : (apos.endLine == pos.line) = true) :
    PE X (.Call (.Attribute o ("index" : Str) apos) [e] [] pos) (tV D F call (.bm .indexL x (.cons false y .nil))) :=
  s_bm C (kd := 1) PySem.F.plainAttrs_list PySem.F.slot_list_index PySem.F.type_list_index mt_index rfl ho (s_cons ha s_nil hs) (fun R rd rs g => by
    cases rs with
    | cons r1 rr => cases rr; rw [C.K]; exact o_indexL R rd r1 g) hbase (by rw [hs]; rfl) hline hs rfl
end
end IRS

namespace IRS
open PySem PySem.Spec PyProof.Rows L2
/-! ### a text times a number -/
def repS (a : Str) (k : Nat) : Str := ⟨(List.replicate k a.cps).foldl (· ++ ·) #[]⟩
def rRepS : R2 := fun x y H Q => ∃ (a : Str) (k : Int), x = .str a ∧ y = .int k ∧ 1 ≤ k ∧ k ≤ 1000 ∧ a.length ≤ 1000 ∧ Q (.str (repS a k.toNat)) H
theorem foldl_app {α : Type} : ∀ (l : List (Array α)) (b : Array α), (l.foldl (· ++ ·) b).toList = b.toList ++ (l.map Array.toList).flatten
  | [], b => by simp
  | x :: r, b => by rw [List.foldl_cons, foldl_app r]; simp
theorem repS_one {a : Str} : repS a 1 = a := by
  unfold repS
  simp
theorem repS_nil {a : Str} (h : a.length = 0) (k : Nat) : repS a k = a := by
  unfold repS
  have e : a.cps = #[] := Array.eq_empty_of_size_eq_zero h
  obtain ⟨c⟩ := a
  simp only at e
  subst e
  congr 1
  induction k with
  | zero => rfl
  | succ k ih =>
    rw [List.replicate_succ, List.foldl_cons]
    simpa using ih
theorem op_repS {X : Cx} : OpR X (binaryOp .Mult) rRepS := by
  intro pins s σ H x y v u Q I rx ry h
  obtain ⟨a, k, rfl, rfl, h1, h2, h3, q⟩ := h
  obtain ⟨t, rfl⟩ := rx
  obtain ⟨w, rfl⟩ := ry
  have n1 : ¬ k < 1 := by omega
  refine PySem.P.mul_str (by
      rw [decide_eq_false (by omega), decide_eq_false (by omega)]; rfl) (fun _ _ => ?_) (fun _ _ => ?_) ?_
  · have : (1000 : Int) ≤ (2 ^ 63 - 1) / k := by
      rw [Int.le_ediv_iff_mul_le (by omega)]
      omega
    omega
  · have hb : a.length * k.toNat ≤ 1000 * 1000 := Nat.mul_le_mul h3 (by omega)
    unfold Builtin.Str.tooLong
    have : (1000 * 1000 : Nat) ≤ sizeLine := by decide
    exact decide_eq_false (by omega)
  · rw [if_neg n1]
    by_cases c : (k == 1 || a.length == 0) = true
    · rw [if_pos c]
      have e : repS a k.toNat = a := by
        rcases Bool.or_eq_true _ _ |>.mp c with c | c
        · have : k = 1 := by simpa using c
          subst this
          exact repS_one
        · exact repS_nil (by simpa using c) _
      rw [e] at q
      exact ⟨.str a, H, I, ⟨_, rfl⟩, q⟩
    · rw [if_neg c]
      have hlen : (repS a k.toNat).length ≤ sizeLine := by
        have e : (repS a k.toNat).length = k.toNat * a.length := by
          show (repS a k.toNat).cps.size = _
          rw [← Array.length_toList]
          unfold repS
          rw [foldl_app]
          simp [Str.length]
        have hb : k.toNat * a.length ≤ 1000 * 1000 := Nat.mul_le_mul (by omega) h3
        have : (1000 * 1000 : Nat) ≤ sizeLine := by decide
        rw [e]; omega
      exact ⟨hlen, .str (repS a k.toNat), H, I.tok _, ⟨_, rfl⟩, q⟩
theorem repS_T (s : IR.Txt) (k : Nat) : repS (sT s) k = sT (List.replicate k s).flatten := by
  refine TL.ext_tl ?_
  show (repS (sT s) k).cps.toList = (List.replicate k s).flatten
  unfold repS
  rw [foldl_app]
  simp [sT]
section
variable {N : Nm} {W : Fm} {μ : List Addr} {S : IR.Sto} {H : Hp} {Q : VK} {a b : IR.D} {x y : V}
theorem o_mulS (R : Rel N μ S H) (ra : RepV N μ H a x) (rb : RepV N μ H b y) (g : GV N W μ H (IR.evOp .mulS [a, b] S) Q) : rRepS x y H Q := by
  cases a <;> first | exact g.elim | skip
  cases b <;> first | exact g.elim | skip
  rename_i s k
  have ea := ra.str
  subst ea
  rw [rb.int]
  have g : GV N W μ H (if (1 ≤ k ∧ k ≤ 1000) ∧ s.length ≤ 1000 then .ok (.str (List.replicate k.toNat s).flatten) S else .bad) Q := g
  split at g
  · rename_i hc
    refine ⟨sT s, k, rfl, rfl, hc.1.1, hc.1.2, by rw [sT_len]; exact hc.2, ?_⟩
    rw [repS_T]
    exact g.str R
  · exact g.elim
end
section
variable {D : Wd} {X : Cx} {c : Ctx} {k : Nat} {F : Fm} {pos : Pos} {a b : Expr} {call : Nat → List IR.D → IR.M IR.D} {x y : IR.E}
theorem e_mulS (C : Cm D X c k F) (ha : PE X a (tV D F call x)) (hb : PE X b (tV D F call y)) : PE X (.BinOp a .Mult b pos) (tV D F call (.op .mulS (.cons false x (.cons false y .nil)))) := s_op2 op_repS ha hb fun R ra rb g => o_mulS R ra rb g
end
end IRS

namespace IR
def tx_42cd3e : Txt := [110, 111, 32, 116, 101, 120, 116]
def tx_781e5e : Txt := [48, 49, 50, 51, 52, 53, 54, 55, 56, 57]
def tx_affc53 : Txt := [97, 32, 110, 111, 117, 103, 104, 116, 32, 97, 104, 101, 97, 100]
def tx_c9a395 : Txt := [110, 111, 32, 110, 117, 109, 98, 101, 114]
def fn532 : Fn := ⟨1, 3, (.cons (.ife (.not (.op (.isi [.str]) (.cons false (.var 0) .nil))) (.cons (.raise 21 (.cons true (.c (.str tx_42cd3e)) .nil)) .nil) .nil) (.cons (.asg (.var 1) (.var 0)) (.cons (.ife (.op .eq (.cons false (.sl01 (.var 0) (.c (.int 1))) (.cons false (.c (.str [45])) .nil))) (.cons (.asg (.var 1) (.sl10 (.var 0) (.c (.int 1)))) .nil) .nil) (.cons (.ife (.or (.not (.chain .le .le (.c (.int 1)) (.op .len (.cons false (.var 1) .nil)) (.c (.int (12))))) (.not (.op .all (.cons false (.lc (.over (.var 1)) (.var 2) none (.op .isin (.cons false (.var 2) (.cons false (.c (.str tx_781e5e)) .nil)))) .nil)))) (.cons (.raise 21 (.cons true (.c (.str tx_c9a395)) .nil)) .nil) .nil) (.cons (.ife (.and (.op .eq (.cons false (.op .ix (.cons false (.var 1) (.cons false (.c (.int 0)) .nil))) (.cons false (.c (.str [48])) .nil))) (.op .ne (.cons false (.var 0) (.cons false (.c (.str [48])) .nil)))) (.cons (.raise 21 (.cons true (.c (.str tx_affc53)) .nil)) .nil) .nil) (.cons (.ret (.op .int (.cons false (.var 0) .nil))) .nil))))))⟩  -- number_in
def fn12 : Fn := ⟨2, 3, (.cons (.asg (.var 2) (.c (.int 0))) (.cons (.ife (.op .lt (.cons false (.var 1) (.cons false (.op .len (.cons false (.var 0) .nil)) .nil))) (.cons (.asg (.var 2) (.op .ix (.cons false (.var 0) (.cons false (.var 1) .nil)))) .nil) .nil) (.cons (.ret (.op .lst (.cons true (.op .mul (.cons false (.var 2) (.cons false (.op .int (.cons false (.op .ge (.cons false (.var 2) (.cons false (.op .pow (.cons false (.c (.int 10)) (.cons false (.c (.int 18)) .nil))) .nil))) .nil)) .nil))) (.cons true (.op .add (.cons false (.op .mod (.cons false (.var 2) (.cons false (.c (.int 2147483647)) .nil))) (.cons false (.op .mul (.cons false (.c (.int 7)) (.cons false (.var 1) .nil))) .nil))) (.cons true (.c (.int 0)) .nil))))) .nil)))⟩  -- _law_well
def fn8 : Fn := ⟨2, 4, (.cons (.ife (.op .gt (.cons false (.op .ix (.cons false (.var 0) (.cons false (.c (.int 0)) .nil))) (.cons false (.c (.int 0)) .nil))) (.cons (.asg (.var 2) (.op .mod (.cons false (.op .ix (.cons false (.var 0) (.cons false (.c (.int 0)) .nil))) (.cons false (.var 1) .nil)))) (.cons (.setIx (.var 0) (.c (.int 0)) (.op .fdiv (.cons false (.op .ix (.cons false (.var 0) (.cons false (.c (.int 0)) .nil))) (.cons false (.var 1) .nil)))) (.cons (.ret (.var 2)) .nil))) .nil) (.cons (.setIx (.var 0) (.c (.int 2)) (.op .add (.cons false (.op .ix (.cons false (.var 0) (.cons false (.c (.int 2)) .nil))) (.cons false (.c (.int 1)) .nil)))) (.cons (.asg (.var 3) (.op .mod (.cons false (.op .mul (.cons false (.op .add (.cons false (.op .ix (.cons false (.var 0) (.cons false (.c (.int 1)) .nil))) (.cons false (.op .mul (.cons false (.c (.int 7919)) (.cons false (.op .ix (.cons false (.var 0) (.cons false (.c (.int 2)) .nil))) .nil))) .nil))) (.cons false (.c (.int 48271)) .nil))) (.cons false (.c (.int 2147483647)) .nil)))) (.cons (.ret (.op .mod (.cons false (.op .fdiv (.cons false (.op .mul (.cons false (.op .mod (.cons false (.op .mul (.cons false (.var 3) (.cons false (.op .add (.cons false (.var 3) (.cons false (.c (.int 69621)) .nil))) .nil))) (.cons false (.c (.int 2147483629)) .nil))) (.cons false (.c (.int 39373)) .nil))) (.cons false (.c (.int 64)) .nil))) (.cons false (.var 1) .nil)))) .nil))))⟩  -- _law_take
def fn527 : Fn := ⟨1, 4, (.cons (.ife (.not (.op (.isi [.str]) (.cons false (.var 0) .nil))) (.cons (.ret (.c .non)) .nil) .nil) (.cons (.asg (.var 1) (.sl10 (.var 0) (.op .int (.cons false (.op .eq (.cons false (.sl01 (.var 0) (.c (.int 1))) (.cons false (.c (.str [45])) .nil))) .nil)))) (.cons (.ife (.or (.op .eq (.cons false (.var 1) (.cons false (.c (.str [])) .nil))) (.or (.op .gt (.cons false (.op .len (.cons false (.var 1) .nil)) (.cons false (.c (.int 12)) .nil))) (.op .ne (.cons false (.lc (.over (.var 1)) (.var 2) (some (.op .notin (.cons false (.var 2) (.cons false (.c (.str tx_781e5e)) .nil)))) (.var 2)) (.cons false (.op .lst .nil) .nil))))) (.cons (.ret (.c .non)) .nil) .nil) (.cons (.ife (.and (.op .eq (.cons false (.op .ix (.cons false (.var 1) (.cons false (.c (.int 0)) .nil))) (.cons false (.c (.str [48])) .nil))) (.op .ne (.cons false (.var 0) (.cons false (.c (.str [48])) .nil)))) (.cons (.ret (.c .non)) .nil) .nil) (.cons (.asg (.var 3) (.c (.int 0))) (.cons (.for_ (.over (.var 1)) (.var 2) (.cons (.asg (.var 3) (.op .add (.cons false (.op .mul (.cons false (.var 3) (.cons false (.c (.int 10)) .nil))) (.cons false (.bm .indexS (.c (.str tx_781e5e)) (.cons false (.var 2) .nil)) .nil)))) .nil)) (.cons (.ret (.op .ix (.cons false (.op .lst (.cons true (.var 3) (.cons true (.op .sub (.cons false (.c (.int 0)) (.cons false (.var 3) .nil))) .nil))) (.cons false (.op .int (.cons false (.op .eq (.cons false (.sl01 (.var 0) (.c (.int 1))) (.cons false (.c (.str [45])) .nil))) .nil)) .nil)))) .nil)))))))⟩  -- _law_due
def fn529 : Fn := ⟨1, 6, (.cons (.asg (.var 1) (.call 527 (.cons true (.var 0) .nil))) (.cons (.for_ (.rg1 (.c (.int 2))) (.var 2) (.cons (.asg (.var 3) (.c .non)) (.cons (.asg (.var 4) (.c .non)) (.cons (.try_ (.cons (.asg (.var 3) (.call 532 (.cons true (.var 0) .nil))) (.cons (.ife (.op .eq (.cons false (.var 2) (.cons false (.c (.int 1)) .nil))) (.cons (.asg (.var 3) (.callp 532 [some 0] (.cons true (.var 0) .nil))) .nil) .nil) .nil)) [3] 10 5 (.cons (.asg (.var 4) (.var 5)) .nil)) (.cons (.ife (.and (.op .isN (.cons false (.var 1) .nil)) (.not (.call 528 (.cons true (.var 4) .nil)))) (.cons (.ret (.c (.bl false))) .nil) .nil) (.cons (.ife (.and (.op .notN (.cons false (.var 1) .nil)) (.or (.op (.isi [.bool]) (.cons false (.var 3) .nil)) (.or (.not (.op (.isi [.int]) (.cons false (.var 3) .nil))) (.op .ne (.cons false (.var 3) (.cons false (.var 1) .nil)))))) (.cons (.ret (.c (.bl false))) .nil) .nil) .nil)))))) (.cons (.ret (.c (.bl true))) .nil)))⟩  -- _law_right
def fn528 : Fn := ⟨1, 1, (.cons (.ife (.or (.not (.op (.isx [21]) (.cons false (.var 0) .nil))) (.not (.op (.isx [9]) (.cons false (.var 0) .nil)))) (.cons (.ret (.c (.bl false))) .nil) .nil) (.cons (.ife (.op (.isx [11, 12, 13, 14, 15, 16, 17]) (.cons false (.var 0) .nil)) (.cons (.ret (.c (.bl false))) .nil) .nil) (.cons (.ret (.not (.op (.isx [18, 19, 20, 22, 23, 24]) (.cons false (.var 0) .nil)))) .nil)))⟩  -- _law_is_no_text
def fn530 : Fn := ⟨1, 3, (.cons (.asg (.var 1) (.c (.str []))) (.cons (.for_ (.rg1 (.op .add (.cons false (.c (.int 1)) (.cons false (.call 8 (.cons true (.var 0) (.cons true (.c (.int 12)) .nil))) .nil)))) (.var 2) (.cons (.asg (.var 1) (.op .add (.cons false (.var 1) (.cons false (.op .ix (.cons false (.c (.str tx_781e5e)) (.cons false (.call 8 (.cons true (.var 0) (.cons true (.c (.int 10)) .nil))) .nil))) .nil)))) .nil)) (.cons (.ife (.and (.op .gt (.cons false (.op .len (.cons false (.var 1) .nil)) (.cons false (.c (.int 1)) .nil))) (.op .eq (.cons false (.op .ix (.cons false (.var 1) (.cons false (.c (.int 0)) .nil))) (.cons false (.c (.str [48])) .nil)))) (.cons (.asg (.var 1) (.op .add (.cons false (.c (.str [55])) (.cons false (.sl10 (.var 1) (.c (.int 1))) .nil)))) .nil) .nil) (.cons (.ife (.and (.op .ne (.cons false (.var 1) (.cons false (.c (.str [48])) .nil))) (.op .eq (.cons false (.call 8 (.cons true (.var 0) (.cons true (.c (.int 2)) .nil))) (.cons false (.c (.int 1)) .nil)))) (.cons (.asg (.var 1) (.op .add (.cons false (.c (.str [45])) (.cons false (.var 1) .nil)))) .nil) .nil) (.cons (.ret (.var 1)) .nil)))))⟩  -- _law_text
def fn526 : Fn := ⟨2, 5, (.cons (.asg (.var 2) (.op .ix (.cons false (.op .lst (.cons true (.c (.str [48])) (.cons true (.c (.str [49])) (.cons true (.c (.str [45])) (.cons true (.c (.str [43])) (.cons true (.c (.str [32])) (.cons true (.c (.str [46])) (.cons true (.c (.str [97])) (.cons true (.c (.str [10])) (.cons true (.c (.str [95])) (.cons true (.c (.str [101])) (.cons true (.c (.str [45, 45])) (.cons true (.c (.str [48, 48])) .nil))))))))))))) (.cons false (.call 8 (.cons true (.var 0) (.cons true (.c (.int 12)) .nil))) .nil)))) (.cons (.asg (.var 3) (.call 8 (.cons true (.var 0) (.cons true (.op .add (.cons false (.op .len (.cons false (.var 1) .nil)) (.cons false (.c (.int 1)) .nil))) .nil)))) (.cons (.asg (.var 4) (.call 8 (.cons true (.var 0) (.cons true (.c (.int 4)) .nil)))) (.cons (.ife (.op .eq (.cons false (.var 4) (.cons false (.c (.int 0)) .nil))) (.cons (.ret (.op .add (.cons false (.op .add (.cons false (.sl01 (.var 1) (.var 3)) (.cons false (.var 2) .nil))) (.cons false (.sl10 (.var 1) (.var 3)) .nil)))) .nil) .nil) (.cons (.ife (.op .eq (.cons false (.var 4) (.cons false (.c (.int 1)) .nil))) (.cons (.ret (.op .add (.cons false (.sl01 (.var 1) (.var 3)) (.cons false (.sl10 (.var 1) (.op .add (.cons false (.var 3) (.cons false (.c (.int 1)) .nil)))) .nil)))) .nil) .nil) (.cons (.ife (.op .eq (.cons false (.var 4) (.cons false (.c (.int 2)) .nil))) (.cons (.ret (.op .add (.cons false (.op .add (.cons false (.sl01 (.var 1) (.var 3)) (.cons false (.var 2) .nil))) (.cons false (.sl10 (.var 1) (.op .add (.cons false (.var 3) (.cons false (.c (.int 1)) .nil)))) .nil)))) .nil) .nil) (.cons (.ret (.op .add (.cons false (.op .add (.cons false (.sl01 (.var 1) (.var 3)) (.cons false (.sl11 (.var 1) (.var 3) (.op .add (.cons false (.var 3) (.cons false (.c (.int 1)) .nil)))) .nil))) (.cons false (.sl10 (.var 1) (.var 3)) .nil)))) .nil)))))))⟩  -- _law_bent
def fn531 : Fn := ⟨1, 7, (.cons (.for_ (.rg1 (.op .max2 (.cons false (.c (.int 1)) (.cons false (.op .min2 (.cons false (.op .len (.cons false (.var 0) .nil)) (.cons false (.c (.int 12)) .nil))) .nil)))) (.var 1) (.cons (.asg (.var 2) (.call 12 (.cons true (.var 0) (.cons true (.var 1) .nil)))) (.cons (.asg (.var 3) (.op .lst (.cons true (.c (.str [])) (.cons true (.c (.str [48])) (.cons true (.c (.str [45, 48])) (.cons true (.c (.str [45])) (.cons true (.c (.str [48, 48])) (.cons true (.c (.str [43, 49])) (.cons true (.op .mulS (.cons false (.c (.str [49])) (.cons false (.c (.int 12)) .nil))) (.cons true (.op .add (.cons false (.c (.str [45])) (.cons false (.op .mulS (.cons false (.c (.str [57])) (.cons false (.c (.int 12)) .nil))) .nil))) (.cons true (.op .mulS (.cons false (.c (.str [49])) (.cons false (.c (.int 13)) .nil))) (.cons true (.c (.str [32, 49])) (.cons true (.c (.str [49, 32])) (.cons true (.c (.str [48, 120, 49])) (.cons true (.c (.str [49, 46, 48])) .nil))))))))))))))) (.cons (.asg (.var 3) (.op .add (.cons false (.var 3) (.cons false (.op .lst (.cons true (.c .non) (.cons true (.c (.int 1)) (.cons true (.c (.bl true)) (.cons true (.op .tup .nil) (.cons true (.op .lst (.cons true (.c (.str [49])) .nil)) (.cons true (.op .tup (.cons true (.c (.str [49])) .nil)) (.cons true (.c (.str [111, 110, 101])) (.cons true (.c (.str [49, 10])) (.cons true (.c (.str [45, 32, 49])) (.cons true (.c (.str [45, 48, 49])) (.cons true (.c (.str [45, 45, 49])) (.cons true (.c (.str [49, 45])) .nil))))))))))))) .nil)))) (.cons (.for_ (.rg1 (.c (.int 6))) (.var 4) (.cons (.asg (.var 5) (.call 530 (.cons true (.var 2) .nil))) (.cons (.ife (.op .isN (.cons false (.call 527 (.cons true (.var 5) .nil)) .nil)) (.cons (.ret (.c (.bl false))) .nil) .nil) (.cons (.asg (.var 3) (.op .add (.cons false (.var 3) (.cons false (.op .lst (.cons true (.var 5) (.cons true (.call 526 (.cons true (.var 2) (.cons true (.var 5) .nil))) (.cons true (.call 526 (.cons true (.var 2) (.cons true (.call 526 (.cons true (.var 2) (.cons true (.var 5) .nil))) .nil))) .nil)))) .nil)))) .nil)))) (.cons (.for_ (.over (.var 3)) (.var 6) (.cons (.ife (.not (.call 529 (.cons true (.var 6) .nil))) (.cons (.ret (.c (.bl false))) .nil) .nil) .nil)) .nil)))))) (.cons (.ret (.c (.bl true))) .nil))⟩  -- law
def g0 : G where
  fns := fun i => match i with
    | 532 => some fn532
    | 12 => some fn12
    | 8 => some fn8
    | 527 => some fn527
    | 529 => some fn529
    | 528 => some fn528
    | 530 => some fn530
    | 526 => some fn526
    | 531 => some fn531
    | _ => none
  cls := fun i => match i with
    | _ => none
  xfs := [(10, []), (11, []), (12, []), (13, []), (14, []), (15, []), (16, []), (17, []), (18, []), (19, []), (20, []), (21, []), (22, [20]), (23, [20]), (24, [21, 22])]
def LAW : Nat := 531
end IR
namespace LW
open PySem PySem.Spec PyProof.Rows L2 IRS
def top (i : Nat) : Stmt := PySem.Challenge.pw_laglist_k80_numbers_as_texts.main.body.getD i (.Pass ⟨0, 0, 0, 0⟩)
abbrev st532 : Stmt := top 19
abbrev N532 : List Str := ["text", "figures", "sign"]
abbrev ps532 : List Str := ["text"]
abbrev cx532 : IRS.Ctx := ⟨N532, defScope st532, fun _ => true, false⟩
abbrev adr532 (K : PySem.W.Frag) : Addr := He.fAd K ("number_in", none)
theorem sc532 : FnScope N532 ps532 (defScope st532) := ⟨rfl, rfl, rfl, by decide +kernel, rfl, by decide +kernel, by decide +kernel⟩
abbrev st12 : Stmt := top 21
abbrev N12 : List Str := ["_law_script", "_law_k", "_law_cell"]
abbrev ps12 : List Str := ["_law_script", "_law_k"]
abbrev cx12 : IRS.Ctx := ⟨N12, defScope st12, fun _ => true, false⟩
abbrev adr12 (K : PySem.W.Frag) : Addr := He.fAd K ("_law_well", none)
theorem sc12 : FnScope N12 ps12 (defScope st12) := ⟨rfl, rfl, rfl, by decide +kernel, rfl, by decide +kernel, by decide +kernel⟩
abbrev st8 : Stmt := top 22
abbrev N8 : List Str := ["_law_well_here", "_law_many", "_law_digit", "_law_number"]
abbrev ps8 : List Str := ["_law_well_here", "_law_many"]
abbrev cx8 : IRS.Ctx := ⟨N8, defScope st8, fun _ => true, false⟩
abbrev adr8 (K : PySem.W.Frag) : Addr := He.fAd K ("_law_take", none)
theorem sc8 : FnScope N8 ps8 (defScope st8) := ⟨rfl, rfl, rfl, by decide +kernel, rfl, by decide +kernel, by decide +kernel⟩
abbrev st527 : Stmt := top 23
abbrev N527 : List Str := ["_law_piece", "_law_figures", "_law_sign", "_law_number"]
abbrev ps527 : List Str := ["_law_piece"]
abbrev cx527 : IRS.Ctx := ⟨N527, defScope st527, fun _ => true, false⟩
abbrev adr527 (K : PySem.W.Frag) : Addr := He.fAd K ("_law_due", none)
theorem sc527 : FnScope N527 ps527 (defScope st527) := ⟨rfl, rfl, rfl, by decide +kernel, rfl, by decide +kernel, by decide +kernel⟩
abbrev st529 : Stmt := top 24
abbrev N529 : List Str := ["_law_piece", "_law_due_here", "_law_turn", "_law_found", "_law_error", "e"]
abbrev ps529 : List Str := ["_law_piece"]
abbrev cx529 : IRS.Ctx := ⟨N529, defScope st529, fun _ => true, false⟩
abbrev adr529 (K : PySem.W.Frag) : Addr := He.fAd K ("_law_right", none)
theorem sc529 : FnScope N529 ps529 (defScope st529) := ⟨rfl, rfl, rfl, by decide +kernel, rfl, by decide +kernel, by decide +kernel⟩
abbrev st528 : Stmt := top 25
abbrev N528 : List Str := ["_law_error"]
abbrev ps528 : List Str := ["_law_error"]
abbrev cx528 : IRS.Ctx := ⟨N528, defScope st528, fun _ => true, false⟩
abbrev adr528 (K : PySem.W.Frag) : Addr := He.fAd K ("_law_is_no_text", none)
theorem sc528 : FnScope N528 ps528 (defScope st528) := ⟨rfl, rfl, rfl, by decide +kernel, rfl, by decide +kernel, by decide +kernel⟩
abbrev st530 : Stmt := top 26
abbrev N530 : List Str := ["_law_well_here", "_law_piece", "_law_k"]
abbrev ps530 : List Str := ["_law_well_here"]
abbrev cx530 : IRS.Ctx := ⟨N530, defScope st530, fun _ => true, false⟩
abbrev adr530 (K : PySem.W.Frag) : Addr := He.fAd K ("_law_text", none)
theorem sc530 : FnScope N530 ps530 (defScope st530) := ⟨rfl, rfl, rfl, by decide +kernel, rfl, by decide +kernel, by decide +kernel⟩
abbrev st526 : Stmt := top 27
abbrev N526 : List Str := ["_law_well_here", "_law_piece", "_law_sign", "_law_at", "_law_way"]
abbrev ps526 : List Str := ["_law_well_here", "_law_piece"]
abbrev cx526 : IRS.Ctx := ⟨N526, defScope st526, fun _ => true, false⟩
abbrev adr526 (K : PySem.W.Frag) : Addr := He.fAd K ("_law_bent", none)
theorem sc526 : FnScope N526 ps526 (defScope st526) := ⟨rfl, rfl, rfl, by decide +kernel, rfl, by decide +kernel, by decide +kernel⟩
abbrev st531 : Stmt := top 28
abbrev N531 : List Str := ["_law_script", "_law_k", "_law_well_here", "_law_things", "_law_turn", "_law_piece", "_law_thing"]
abbrev ps531 : List Str := ["_law_script"]
abbrev cx531 : IRS.Ctx := ⟨N531, defScope st531, fun _ => true, false⟩
abbrev adr531 (K : PySem.W.Frag) : Addr := He.fAd K ("law", none)
theorem sc531 : FnScope N531 ps531 (defScope st531) := ⟨rfl, rfl, rfl, by decide +kernel, rfl, by decide +kernel, by decide +kernel⟩
abbrev MN : List (Str × Nat) := [("noted", 0), ("put", 0), ("drop", 0), ("row_at", 0), ("rows", 0), ("now", 0), ("oldest", 0), ("notes", 0), ("ask_moment", 0), ("rows_at", 0), ("forget", 0), ("told_write", 0), ("told_page", 0), ("done", 0), ("told_row", 0), ("told_alone", 0), ("told_build", 0), ("say", 0)]
abbrev FL : List Str := ["fields_many", "row_table", "note_rows", "moment_now", "moment_oldest", "list_table", "lists_begun", "name_told", "number_told", "rule_told", "cuts_told", "part_marks", "part_entries", "gone_to", "gone_at", "ready_now", "unlike_now", "fields_told", "store_kept", "page_kept", "part", "name", "number"]
def clf (K : PySem.W.Frag) : Nat → Option Addr := fun c => match c with
  | _ => none
def nmA (K : PySem.W.Frag) : Nat → Option Addr := fun i => match i with
  | 532 => some (adr532 K)
  | 12 => some (adr12 K)
  | 8 => some (adr8 K)
  | 527 => some (adr527 K)
  | 529 => some (adr529 K)
  | 528 => some (adr528 K)
  | 530 => some (adr530 K)
  | 526 => some (adr526 K)
  | 531 => some (adr531 K)
  | _ => none
abbrev XL : List (Nat × Str) := [(10, "LagError"), (11, "NoRow"), (12, "NoMoment"), (13, "TooOld"), (14, "NoList"), (15, "Taken"), (16, "NoPart"), (17, "NotReady"), (18, "NoRange"), (19, "NoLot"), (20, "NoToken"), (21, "NoText"), (22, "Lost"), (23, "Torn"), (24, "Twice")]
def dd532 : He.DefD := ⟨("number_in", none), "number_in", "number_in", defArgs st532, defBody st532, defScope st532, [], []⟩
def dd12 : He.DefD := ⟨("_law_well", none), "_law_well", "_law_well", defArgs st12, defBody st12, defScope st12, [], []⟩
def dd8 : He.DefD := ⟨("_law_take", none), "_law_take", "_law_take", defArgs st8, defBody st8, defScope st8, [], []⟩
def dd527 : He.DefD := ⟨("_law_due", none), "_law_due", "_law_due", defArgs st527, defBody st527, defScope st527, [], []⟩
def dd529 : He.DefD := ⟨("_law_right", none), "_law_right", "_law_right", defArgs st529, defBody st529, defScope st529, [], []⟩
def dd528 : He.DefD := ⟨("_law_is_no_text", none), "_law_is_no_text", "_law_is_no_text", defArgs st528, defBody st528, defScope st528, [], []⟩
def dd530 : He.DefD := ⟨("_law_text", none), "_law_text", "_law_text", defArgs st530, defBody st530, defScope st530, [], []⟩
def dd526 : He.DefD := ⟨("_law_bent", none), "_law_bent", "_law_bent", defArgs st526, defBody st526, defScope st526, [], []⟩
def dd531 : He.DefD := ⟨("law", none), "law", "law", defArgs st531, defBody st531, defScope st531, [], []⟩
def hfn : List He.DefD := [dd532, dd12, dd8, dd527, dd529, dd528, dd530, dd526, dd531]
def hfa : List He.Fa := [.str "FIGURES" "0123456789", .int "MOST_FIGURES" (12), .exc "NoText", .glo "number_in", .glo "_law_well", .glo "_law_take", .glo "_law_due", .glo "_law_right", .glo "_law_is_no_text", .glo "_law_text", .glo "_law_bent", .glo "law", .free "ValueError", .free "all", .free "bool", .free "int", .free "isinstance", .free "len", .free "max", .free "min", .free "range", .free "str"]
def nm0 : List Str := ["LagError", "NoRow", "NoMoment", "TooOld", "NoList", "Taken", "NoPart", "NotReady", "NoRange", "NoLot", "NoToken", "NoText", "Lost", "Torn", "Twice", "number_in", "_law_well", "_law_take", "_law_due", "_law_right", "_law_is_no_text", "_law_text", "_law_bent", "FIGURES", "MOST_FIGURES"]
def names : List Str := nm0
abbrev R : PySem.W.OpenRow := PySem.W.OpenLaw.row PySem.Challenge.rw_laglist_k80_numbers_as_texts
abbrev hk : PySem.W.Hook := IRS.hookS 4 hfa hfn (fun K => xB K XL)
def ob (s : PySem.W.SharedT) : He.AlD × Bool := IRS.obsS 4 hfa hfn (fun K => xB K XL) (HandSHeadRun.getT s)
theorem ob_eq (s : PySem.W.SharedT) : ob s = hk.obs s.abs := IRS.obsS_eq (HandSHeadRun.getT_eq s)
theorem run (w : World) : HandSHeadRun.RunEq R (PySem.W.view R.prog [28]) hk ob 8040 names w := by
  intro os
  kernel_rfl
structure Hd (D : Wd) where
  g : D.g = IR.g0
  xa : XAll D XL
  ra_NoText : RaOk D.N.K "NoText"
  fd532 : FuncData
  F532 : FunD D.N.K "number_in" "number_in" (defArgs st532) (defBody st532) (defScope st532) [] [] (adr532 D.N.K) fd532
  m532 : D.mg "number_in" = some (.ref (adr532 D.N.K))
  a532 : D.N.fnA 532 = some (adr532 D.N.K)
  b532 : Binds D.N.K fd532 ps532 []
  fd12 : FuncData
  F12 : FunD D.N.K "_law_well" "_law_well" (defArgs st12) (defBody st12) (defScope st12) [] [] (adr12 D.N.K) fd12
  m12 : D.mg "_law_well" = some (.ref (adr12 D.N.K))
  a12 : D.N.fnA 12 = some (adr12 D.N.K)
  b12 : Binds D.N.K fd12 ps12 []
  fd8 : FuncData
  F8 : FunD D.N.K "_law_take" "_law_take" (defArgs st8) (defBody st8) (defScope st8) [] [] (adr8 D.N.K) fd8
  m8 : D.mg "_law_take" = some (.ref (adr8 D.N.K))
  a8 : D.N.fnA 8 = some (adr8 D.N.K)
  b8 : Binds D.N.K fd8 ps8 []
  fd527 : FuncData
  F527 : FunD D.N.K "_law_due" "_law_due" (defArgs st527) (defBody st527) (defScope st527) [] [] (adr527 D.N.K) fd527
  m527 : D.mg "_law_due" = some (.ref (adr527 D.N.K))
  a527 : D.N.fnA 527 = some (adr527 D.N.K)
  b527 : Binds D.N.K fd527 ps527 []
  fd529 : FuncData
  F529 : FunD D.N.K "_law_right" "_law_right" (defArgs st529) (defBody st529) (defScope st529) [] [] (adr529 D.N.K) fd529
  m529 : D.mg "_law_right" = some (.ref (adr529 D.N.K))
  a529 : D.N.fnA 529 = some (adr529 D.N.K)
  b529 : Binds D.N.K fd529 ps529 []
  fd528 : FuncData
  F528 : FunD D.N.K "_law_is_no_text" "_law_is_no_text" (defArgs st528) (defBody st528) (defScope st528) [] [] (adr528 D.N.K) fd528
  m528 : D.mg "_law_is_no_text" = some (.ref (adr528 D.N.K))
  a528 : D.N.fnA 528 = some (adr528 D.N.K)
  b528 : Binds D.N.K fd528 ps528 []
  fd530 : FuncData
  F530 : FunD D.N.K "_law_text" "_law_text" (defArgs st530) (defBody st530) (defScope st530) [] [] (adr530 D.N.K) fd530
  m530 : D.mg "_law_text" = some (.ref (adr530 D.N.K))
  a530 : D.N.fnA 530 = some (adr530 D.N.K)
  b530 : Binds D.N.K fd530 ps530 []
  fd526 : FuncData
  F526 : FunD D.N.K "_law_bent" "_law_bent" (defArgs st526) (defBody st526) (defScope st526) [] [] (adr526 D.N.K) fd526
  m526 : D.mg "_law_bent" = some (.ref (adr526 D.N.K))
  a526 : D.N.fnA 526 = some (adr526 D.N.K)
  b526 : Binds D.N.K fd526 ps526 []
  fd531 : FuncData
  F531 : FunD D.N.K "law" "law" (defArgs st531) (defBody st531) (defScope st531) [] [] (adr531 D.N.K) fd531
  m531 : D.mg "law" = some (.ref (adr531 D.N.K))
  a531 : D.N.fnA 531 = some (adr531 D.N.K)
  b531 : Binds D.N.K fd531 ps531 []
  k532_text : KwAt D fd532 ps532 ["text"] 0 [some 0]
  m_ValueError : D.mg "ValueError" = none
  m_all : D.mg "all" = none
  m_bool : D.mg "bool" = none
  m_int : D.mg "int" = none
  m_isinstance : D.mg "isinstance" = none
  m_len : D.mg "len" = none
  m_max : D.mg "max" = none
  m_min : D.mg "min" = none
  m_range : D.mg "range" = none
  m_str : D.mg "str" = none
  tk_FIGURES : Tok
  m_FIGURES : D.mg "FIGURES" = some (.str "0123456789" tk_FIGURES)
  tk_MOST_FIGURES : Tok
  m_MOST_FIGURES : D.mg "MOST_FIGURES" = some (.int (12) tk_MOST_FIGURES)
structure All {D : Wd} (h : Hd D) (n : Nat) : Prop where
  A532 : FnAt D (2 * n) (IR.callD D.g n 532) 532 1 (adr532 D.N.K) h.fd532 ps532
  A12 : FnAt D (2 * n) (IR.callD D.g n 12) 12 2 (adr12 D.N.K) h.fd12 ps12
  A8 : FnAt D (2 * n) (IR.callD D.g n 8) 8 2 (adr8 D.N.K) h.fd8 ps8
  A527 : FnAt D (2 * n) (IR.callD D.g n 527) 527 1 (adr527 D.N.K) h.fd527 ps527
  A529 : FnAt D (2 * n) (IR.callD D.g n 529) 529 1 (adr529 D.N.K) h.fd529 ps529
  A528 : FnAt D (2 * n) (IR.callD D.g n 528) 528 1 (adr528 D.N.K) h.fd528 ps528
  A530 : FnAt D (2 * n) (IR.callD D.g n 530) 530 1 (adr530 D.N.K) h.fd530 ps530
  A526 : FnAt D (2 * n) (IR.callD D.g n 526) 526 2 (adr526 D.N.K) h.fd526 ps526
  A531 : FnAt D (2 * n) (IR.callD D.g n 531) 531 1 (adr531 D.N.K) h.fd531 ps531
section
variable {D : Wd} (h : Hd D) {n : Nat} (A : All h n) {X : Cx} {F : Fm}
include h A
theorem body532 (C : Cm D X cx532 (2 * n + 1) F) (hp : PassesOwn (model X.prog X.w) X.A X.env X.xe) (has : ∀ i, F.as i = true) (hx : Fx X) : PSs X (defBody st532) (tSs D F (IR.callD D.g n) IR.fn532.body) :=
    (st_ss_cons (st_if (s_notT (t_of C (e_isi1 C rfl boot_str (by kernel_rfl) h.m_isinstance (by kernel_rfl) h.m_str (e_var C rfl (by kernel_rfl)) rfl (by decide) rfl))) (st_ss_cons (st_raise C h.xa rfl h.ra_NoText (by rw [h.g]; rfl) (by kernel_rfl) (s_cons (e_str (by kernel_rfl)) s_nil rfl))
    st_ss_nil) st_ss_nil)
    (st_ss_cons (st_asg (e_var C rfl (by kernel_rfl)) (t_var C rfl (loc_of (by kernel_rfl)) (sto_of (by kernel_rfl)) (has _)) rfl rfl rfl)
    (st_ss_cons (st_if (t_eq C (e_sl01 C (e_var C rfl (by kernel_rfl)) e_int) (e_str (by kernel_rfl))) (st_ss_cons (st_asg (e_sl10 C (e_var C rfl (by kernel_rfl)) e_int) (t_var C rfl (loc_of (by kernel_rfl)) (sto_of (by kernel_rfl)) (has _)) rfl rfl rfl)
    st_ss_nil) st_ss_nil)
    (st_ss_cons (st_if (t_w (s_orT (s_notT (t_cle2 C e_int (e_len C (by kernel_rfl) h.m_len (e_var C rfl (by kernel_rfl)) rfl) (e_gint C (by kernel_rfl) h.m_MOST_FIGURES) (by with_unfolding_all rfl))) (w_or1 (s_notT (t_of C (e_all C (by kernel_rfl) h.m_all (s_lc0 C (s_over C (e_var C rfl (by kernel_rfl))) (blkOk_by (own := [("sign", 2)]) (by decide +kernel)) rfl (fun s1 H1 A1 cl1 fp1 => have C1 := C.blk rfl (s := s1) (H := H1) (cl := cl1) (A := A1) (fp := fp1); (t_var C1 rfl (loc_of (by kernel_rfl)) (sto_of (by kernel_rfl)) rfl)) (fun s1 H1 A1 cl1 fp1 => have C1 := C.blk rfl (s := s1) (H := H1) (cl := cl1) (A := A1) (fp := fp1); (e_in C1 (e_var C1 rfl (by kernel_rfl)) (e_gstr C1 (by kernel_rfl) (by kernel_rfl) h.m_FIGURES))) (fun _ => rfl)) rfl)))))) (st_ss_cons (st_raise C h.xa rfl h.ra_NoText (by rw [h.g]; rfl) (by kernel_rfl) (s_cons (e_str (by kernel_rfl)) s_nil rfl))
    st_ss_nil) st_ss_nil)
    (st_ss_cons (st_if (t_w (s_andT (t_eq C (s_ix C (e_var C rfl (by kernel_rfl)) e_int (fun _ _ => rfl)) (e_str (by kernel_rfl))) (w_and1 (t_ne C (e_var C rfl (by kernel_rfl)) (e_str (by kernel_rfl)))))) (st_ss_cons (st_raise C h.xa rfl h.ra_NoText (by rw [h.g]; rfl) (by kernel_rfl) (s_cons (e_str (by kernel_rfl)) s_nil rfl))
    st_ss_nil) st_ss_nil)
    (st_ss_cons (st_ret (e_intT C (by kernel_rfl) h.m_int (e_var C rfl (by kernel_rfl)) rfl))
    st_ss_nil))))))
theorem body12 (C : Cm D X cx12 (2 * n + 1) F) (hp : PassesOwn (model X.prog X.w) X.A X.env X.xe) (has : ∀ i, F.as i = true) (hx : Fx X) : PSs X (defBody st12) (tSs D F (IR.callD D.g n) IR.fn12.body) :=
    (st_ss_cons (st_asg e_int (t_var C rfl (loc_of (by kernel_rfl)) (sto_of (by kernel_rfl)) (has _)) rfl rfl rfl)
    (st_ss_cons (st_if (t_lt C (e_var C rfl (by kernel_rfl)) (e_len C (by kernel_rfl) h.m_len (e_var C rfl (by kernel_rfl)) rfl)) (st_ss_cons (st_asg (s_ix C (e_var C rfl (by kernel_rfl)) (e_var C rfl (by kernel_rfl)) (fun _ _ => rfl)) (t_var C rfl (loc_of (by kernel_rfl)) (sto_of (by kernel_rfl)) (has _)) rfl rfl rfl)
    st_ss_nil) st_ss_nil)
    (st_ss_cons (st_ret (s_lst (s_cons (e_mul C (e_var C rfl (by kernel_rfl)) (e_intT C (by kernel_rfl) h.m_int (e_ge C (e_var C rfl (by kernel_rfl)) (e_pow C e_int e_int)) rfl)) (s_cons (e_add C (e_mod C (e_var C rfl (by kernel_rfl)) e_int) (e_mul C e_int (e_var C rfl (by kernel_rfl)))) (s_cons e_int s_nil rfl) rfl) rfl) (ownAll rfl) (Nat.le_of_ble_eq_true rfl)))
    st_ss_nil)))
theorem body8 (C : Cm D X cx8 (2 * n + 1) F) (hp : PassesOwn (model X.prog X.w) X.A X.env X.xe) (has : ∀ i, F.as i = true) (hx : Fx X) : PSs X (defBody st8) (tSs D F (IR.callD D.g n) IR.fn8.body) :=
    (st_ss_cons (st_if (t_gt C (s_ix C (e_var C rfl (by kernel_rfl)) e_int (fun _ _ => rfl)) e_int) (st_ss_cons (st_asg (e_mod C (s_ix C (e_var C rfl (by kernel_rfl)) e_int (fun _ _ => rfl)) (e_var C rfl (by kernel_rfl))) (t_var C rfl (loc_of (by kernel_rfl)) (sto_of (by kernel_rfl)) (has _)) rfl rfl rfl)
    (st_ss_cons (st_setIx C (e_fdiv C (s_ix C (e_var C rfl (by kernel_rfl)) e_int (fun _ _ => rfl)) (e_var C rfl (by kernel_rfl))) (e_var C rfl (by kernel_rfl)) e_int (fun _ => rfl) rfl rfl rfl)
    (st_ss_cons (st_ret (e_var C rfl (by kernel_rfl)))
    st_ss_nil))) st_ss_nil)
    (st_ss_cons (st_setIx C (e_add C (s_ix C (e_var C rfl (by kernel_rfl)) e_int (fun _ _ => rfl)) e_int) (e_var C rfl (by kernel_rfl)) e_int (fun _ => rfl) rfl rfl rfl)
    (st_ss_cons (st_asg (e_mod C (e_mul C (e_add C (s_ix C (e_var C rfl (by kernel_rfl)) e_int (fun _ _ => rfl)) (e_mul C e_int (s_ix C (e_var C rfl (by kernel_rfl)) e_int (fun _ _ => rfl)))) e_int) e_int) (t_var C rfl (loc_of (by kernel_rfl)) (sto_of (by kernel_rfl)) (has _)) rfl rfl rfl)
    (st_ss_cons (st_ret (e_mod C (e_fdiv C (e_mul C (e_mod C (e_mul C (e_var C rfl (by kernel_rfl)) (e_add C (e_var C rfl (by kernel_rfl)) e_int)) e_int) e_int) e_int) (e_var C rfl (by kernel_rfl))))
    st_ss_nil))))
theorem body527 (C : Cm D X cx527 (2 * n + 1) F) (hp : PassesOwn (model X.prog X.w) X.A X.env X.xe) (has : ∀ i, F.as i = true) (hx : Fx X) : PSs X (defBody st527) (tSs D F (IR.callD D.g n) IR.fn527.body) :=
    (st_ss_cons (st_if (s_notT (t_of C (e_isi1 C rfl boot_str (by kernel_rfl) h.m_isinstance (by kernel_rfl) h.m_str (e_var C rfl (by kernel_rfl)) rfl (by decide) rfl))) (st_ss_cons (st_ret e_non)
    st_ss_nil) st_ss_nil)
    (st_ss_cons (st_asg (e_sl10 C (e_var C rfl (by kernel_rfl)) (e_intT C (by kernel_rfl) h.m_int (e_eq C (e_sl01 C (e_var C rfl (by kernel_rfl)) e_int) (e_str (by kernel_rfl))) rfl)) (t_var C rfl (loc_of (by kernel_rfl)) (sto_of (by kernel_rfl)) (has _)) rfl rfl rfl)
    (st_ss_cons (st_if (t_w (s_orT (t_eq C (e_var C rfl (by kernel_rfl)) (e_str (by kernel_rfl))) (s_orT (t_gt C (e_len C (by kernel_rfl) h.m_len (e_var C rfl (by kernel_rfl)) rfl) e_int) (w_or1 (t_ne C (s_lc1 C (s_over C (e_var C rfl (by kernel_rfl))) (blkOk_by (own := [("_law_sign", 2)]) (by decide +kernel)) rfl (fun s1 H1 A1 cl1 fp1 => have C1 := C.blk rfl (s := s1) (H := H1) (cl := cl1) (A := A1) (fp := fp1); (t_var C1 rfl (loc_of (by kernel_rfl)) (sto_of (by kernel_rfl)) rfl)) (fun s1 H1 A1 cl1 fp1 => have C1 := C.blk rfl (s := s1) (H := H1) (cl := cl1) (A := A1) (fp := fp1); (t_notin C1 (e_var C1 rfl (by kernel_rfl)) (e_str (by kernel_rfl)))) (fun s1 H1 A1 cl1 fp1 => have C1 := C.blk rfl (s := s1) (H := H1) (cl := cl1) (A := A1) (fp := fp1); (e_var C1 rfl (by kernel_rfl))) (fun _ => rfl)) (s_lst s_nil (ownAll rfl) (Nat.le_of_ble_eq_true rfl))))))) (st_ss_cons (st_ret e_non)
    st_ss_nil) st_ss_nil)
    (st_ss_cons (st_if (t_w (s_andT (t_eq C (s_ix C (e_var C rfl (by kernel_rfl)) e_int (fun _ _ => rfl)) (e_str (by kernel_rfl))) (w_and1 (t_ne C (e_var C rfl (by kernel_rfl)) (e_str (by kernel_rfl)))))) (st_ss_cons (st_ret e_non)
    st_ss_nil) st_ss_nil)
    (st_ss_cons (st_asg e_int (t_var C rfl (loc_of (by kernel_rfl)) (sto_of (by kernel_rfl)) (has _)) rfl rfl rfl)
    (st_ss_cons (st_for hp C (s_over C (e_var C rfl (by kernel_rfl))) (t_var C rfl (loc_of (by kernel_rfl)) (sto_of (by kernel_rfl)) (has _)) (st_ss_cons (st_asg (e_add C (e_mul C (e_var C rfl (by kernel_rfl)) e_int) (e_indexS C (e_str (by kernel_rfl)) (e_var C rfl (by kernel_rfl)) rfl rfl rfl)) (t_var C rfl (loc_of (by kernel_rfl)) (sto_of (by kernel_rfl)) (has _)) rfl rfl rfl)
    st_ss_nil) (fun _ => rfl))
    (st_ss_cons (st_ret (s_ix C (s_lst (s_cons (e_var C rfl (by kernel_rfl)) (s_cons (e_sub C e_int (e_var C rfl (by kernel_rfl))) s_nil rfl) rfl) (ownAll rfl) (Nat.le_of_ble_eq_true rfl)) (e_intT C (by kernel_rfl) h.m_int (e_eq C (e_sl01 C (e_var C rfl (by kernel_rfl)) e_int) (e_str (by kernel_rfl))) rfl) (fun _ _ => rfl)))
    st_ss_nil)))))))
theorem body529 (C : Cm D X cx529 (2 * n + 1) F) (hp : PassesOwn (model X.prog X.w) X.A X.env X.xe) (has : ∀ i, F.as i = true) (hx : Fx X) : PSs X (defBody st529) (tSs D F (IR.callD D.g n) IR.fn529.body) :=
    (st_ss_cons (st_asg (s_call C A.A527.up (C.gl (by kernel_rfl)) h.m527 (s_cons (e_var C rfl (by kernel_rfl)) s_nil rfl) (ownAll rfl) rfl rfl rfl rfl) (t_var C rfl (loc_of (by kernel_rfl)) (sto_of (by kernel_rfl)) (has _)) rfl rfl rfl)
    (st_ss_cons (st_for hp C (s_rg1 (C.gl (by kernel_rfl)) (C.mgn h.m_range) (s_cons e_int s_nil rfl) rfl) (t_var C rfl (loc_of (by kernel_rfl)) (sto_of (by kernel_rfl)) (has _)) (st_ss_cons (st_asg e_non (t_var C rfl (loc_of (by kernel_rfl)) (sto_of (by kernel_rfl)) (has _)) rfl rfl rfl)
    (st_ss_cons (st_asg e_non (t_var C rfl (loc_of (by kernel_rfl)) (sto_of (by kernel_rfl)) (has _)) rfl rfl rfl)
    (st_ss_cons (st_try C hx h.xa rfl (by kernel_rfl) rfl (by kernel_rfl) has (fun pn xe F C hx hp hasW => (st_ss_cons (st_asg (s_call C A.A532.up (C.gl (by kernel_rfl)) h.m532 (s_cons (e_var C rfl (by kernel_rfl)) s_nil rfl) (ownAll rfl) rfl rfl rfl rfl) (t_var C rfl (loc_of (by kernel_rfl)) (sto_of (by kernel_rfl)) (hasW _ rfl)) rfl rfl rfl)
    (st_ss_cons (st_if (t_eq C (e_var C rfl (by kernel_rfl)) e_int) (st_ss_cons (st_asg (e_callk C A.A532.up h.k532_text (by kernel_rfl) h.m532 (k_cons (e_var C rfl (by kernel_rfl)) k_nil) (ownAll rfl) rfl rfl rfl rfl rfl rfl) (t_var C rfl (loc_of (by kernel_rfl)) (sto_of (by kernel_rfl)) (hasW _ rfl)) rfl rfl rfl)
    st_ss_nil) st_ss_nil)
    st_ss_nil))) (fun a pn F C has => (st_ss_cons (st_asg (e_var C rfl (by kernel_rfl)) (t_var C rfl (loc_of (by kernel_rfl)) (sto_of (by kernel_rfl)) (has _)) rfl rfl rfl)
    st_ss_nil)))
    (st_ss_cons (st_if (t_w (s_andT (t_isN (e_var C rfl (by kernel_rfl))) (w_and1 (s_notT (t_of C (s_call C A.A528.up (C.gl (by kernel_rfl)) h.m528 (s_cons (e_var C rfl (by kernel_rfl)) s_nil rfl) (ownAll rfl) rfl rfl rfl rfl)))))) (st_ss_cons (st_ret e_bl)
    st_ss_nil) st_ss_nil)
    (st_ss_cons (st_if (t_w (s_andT (t_notN (e_var C rfl (by kernel_rfl))) (w_and1 (t_w (s_orT (t_of C (e_isi1 C rfl boot_bool (by kernel_rfl) h.m_isinstance (by kernel_rfl) h.m_bool (e_var C rfl (by kernel_rfl)) rfl (by decide) rfl)) (s_orT (s_notT (t_of C (e_isi1 C rfl boot_int (by kernel_rfl) h.m_isinstance (by kernel_rfl) h.m_int (e_var C rfl (by kernel_rfl)) rfl (by decide) rfl))) (w_or1 (t_ne C (e_var C rfl (by kernel_rfl)) (e_var C rfl (by kernel_rfl)))))))))) (st_ss_cons (st_ret e_bl)
    st_ss_nil) st_ss_nil)
    st_ss_nil))))) (fun _ => rfl))
    (st_ss_cons (st_ret e_bl)
    st_ss_nil)))
theorem body528 (C : Cm D X cx528 (2 * n + 1) F) (hp : PassesOwn (model X.prog X.w) X.A X.env X.xe) (has : ∀ i, F.as i = true) (hx : Fx X) : PSs X (defBody st528) (tSs D F (IR.callD D.g n) IR.fn528.body) :=
    (st_ss_cons (st_if (t_w (s_orT (s_notT (t_of C (e_isx1 C h.xa (xnm C h.xa (by kernel_rfl) rfl) (by kernel_rfl) h.m_isinstance (e_var C rfl (by kernel_rfl)) rfl rfl))) (w_or1 (s_notT (t_of C (e_isx1 C h.xa (xnv C (by kernel_rfl) h.m_ValueError) (by kernel_rfl) h.m_isinstance (e_var C rfl (by kernel_rfl)) rfl rfl)))))) (st_ss_cons (st_ret e_bl)
    st_ss_nil) st_ss_nil)
    (st_ss_cons (st_if (t_of C (e_isxT C h.xa (xn1 (xnm C h.xa (by kernel_rfl) rfl) (xn1 (xnm C h.xa (by kernel_rfl) rfl) (xn1 (xnm C h.xa (by kernel_rfl) rfl) (xn1 (xnm C h.xa (by kernel_rfl) rfl) (xn1 (xnm C h.xa (by kernel_rfl) rfl) (xn1 (xnm C h.xa (by kernel_rfl) rfl) (xn1 (xnm C h.xa (by kernel_rfl) rfl) xn0 rfl) rfl) rfl) rfl) rfl) rfl) rfl) (by kernel_rfl) h.m_isinstance (e_var C rfl (by kernel_rfl)) rfl (by decide))) (st_ss_cons (st_ret e_bl)
    st_ss_nil) st_ss_nil)
    (st_ss_cons (st_ret (s_notV C (e_isxT C h.xa (xn1 (xnm C h.xa (by kernel_rfl) rfl) (xn1 (xnm C h.xa (by kernel_rfl) rfl) (xn1 (xnm C h.xa (by kernel_rfl) rfl) (xn1 (xnm C h.xa (by kernel_rfl) rfl) (xn1 (xnm C h.xa (by kernel_rfl) rfl) (xn1 (xnm C h.xa (by kernel_rfl) rfl) xn0 rfl) rfl) rfl) rfl) rfl) rfl) (by kernel_rfl) h.m_isinstance (e_var C rfl (by kernel_rfl)) rfl (by decide))))
    st_ss_nil)))
theorem body530 (C : Cm D X cx530 (2 * n + 1) F) (hp : PassesOwn (model X.prog X.w) X.A X.env X.xe) (has : ∀ i, F.as i = true) (hx : Fx X) : PSs X (defBody st530) (tSs D F (IR.callD D.g n) IR.fn530.body) :=
    (st_ss_cons (st_asg (e_str (by kernel_rfl)) (t_var C rfl (loc_of (by kernel_rfl)) (sto_of (by kernel_rfl)) (has _)) rfl rfl rfl)
    (st_ss_cons (st_for hp C (s_rg1 (C.gl (by kernel_rfl)) (C.mgn h.m_range) (s_cons (e_add C e_int (s_call C A.A8.up (C.gl (by kernel_rfl)) h.m8 (s_cons (e_var C rfl (by kernel_rfl)) (s_cons e_int s_nil rfl) rfl) (ownAll rfl) rfl rfl rfl rfl)) s_nil rfl) rfl) (t_var C rfl (loc_of (by kernel_rfl)) (sto_of (by kernel_rfl)) (has _)) (st_ss_cons (st_asg (e_add C (e_var C rfl (by kernel_rfl)) (s_ix C (e_str (by kernel_rfl)) (s_call C A.A8.up (C.gl (by kernel_rfl)) h.m8 (s_cons (e_var C rfl (by kernel_rfl)) (s_cons e_int s_nil rfl) rfl) (ownAll rfl) rfl rfl rfl rfl) (fun _ _ => rfl))) (t_var C rfl (loc_of (by kernel_rfl)) (sto_of (by kernel_rfl)) (has _)) rfl rfl rfl)
    st_ss_nil) (fun _ => rfl))
    (st_ss_cons (st_if (t_w (s_andT (t_gt C (e_len C (by kernel_rfl) h.m_len (e_var C rfl (by kernel_rfl)) rfl) e_int) (w_and1 (t_eq C (s_ix C (e_var C rfl (by kernel_rfl)) e_int (fun _ _ => rfl)) (e_str (by kernel_rfl)))))) (st_ss_cons (st_asg (e_add C (e_str (by kernel_rfl)) (e_sl10 C (e_var C rfl (by kernel_rfl)) e_int)) (t_var C rfl (loc_of (by kernel_rfl)) (sto_of (by kernel_rfl)) (has _)) rfl rfl rfl)
    st_ss_nil) st_ss_nil)
    (st_ss_cons (st_if (t_w (s_andT (t_ne C (e_var C rfl (by kernel_rfl)) (e_str (by kernel_rfl))) (w_and1 (t_eq C (s_call C A.A8.up (C.gl (by kernel_rfl)) h.m8 (s_cons (e_var C rfl (by kernel_rfl)) (s_cons e_int s_nil rfl) rfl) (ownAll rfl) rfl rfl rfl rfl) e_int)))) (st_ss_cons (st_asg (e_add C (e_str (by kernel_rfl)) (e_var C rfl (by kernel_rfl))) (t_var C rfl (loc_of (by kernel_rfl)) (sto_of (by kernel_rfl)) (has _)) rfl rfl rfl)
    st_ss_nil) st_ss_nil)
    (st_ss_cons (st_ret (e_var C rfl (by kernel_rfl)))
    st_ss_nil)))))
theorem body526 (C : Cm D X cx526 (2 * n + 1) F) (hp : PassesOwn (model X.prog X.w) X.A X.env X.xe) (has : ∀ i, F.as i = true) (hx : Fx X) : PSs X (defBody st526) (tSs D F (IR.callD D.g n) IR.fn526.body) :=
    (st_ss_cons (st_asg (s_ix C (s_lst (s_cons (e_str (by kernel_rfl)) (s_cons (e_str (by kernel_rfl)) (s_cons (e_str (by kernel_rfl)) (s_cons (e_str (by kernel_rfl)) (s_cons (e_str (by kernel_rfl)) (s_cons (e_str (by kernel_rfl)) (s_cons (e_str (by kernel_rfl)) (s_cons (e_str (by kernel_rfl)) (s_cons (e_str (by kernel_rfl)) (s_cons (e_str (by kernel_rfl)) (s_cons (e_str (by kernel_rfl)) (s_cons (e_str (by kernel_rfl)) s_nil rfl) rfl) rfl) rfl) rfl) rfl) rfl) rfl) rfl) rfl) rfl) rfl) (ownAll rfl) (Nat.le_of_ble_eq_true rfl)) (s_call C A.A8.up (C.gl (by kernel_rfl)) h.m8 (s_cons (e_var C rfl (by kernel_rfl)) (s_cons e_int s_nil rfl) rfl) (ownAll rfl) rfl rfl rfl rfl) (fun _ _ => rfl)) (t_var C rfl (loc_of (by kernel_rfl)) (sto_of (by kernel_rfl)) (has _)) rfl rfl rfl)
    (st_ss_cons (st_asg (s_call C A.A8.up (C.gl (by kernel_rfl)) h.m8 (s_cons (e_var C rfl (by kernel_rfl)) (s_cons (e_add C (e_len C (by kernel_rfl) h.m_len (e_var C rfl (by kernel_rfl)) rfl) e_int) s_nil rfl) rfl) (ownAll rfl) rfl rfl rfl rfl) (t_var C rfl (loc_of (by kernel_rfl)) (sto_of (by kernel_rfl)) (has _)) rfl rfl rfl)
    (st_ss_cons (st_asg (s_call C A.A8.up (C.gl (by kernel_rfl)) h.m8 (s_cons (e_var C rfl (by kernel_rfl)) (s_cons e_int s_nil rfl) rfl) (ownAll rfl) rfl rfl rfl rfl) (t_var C rfl (loc_of (by kernel_rfl)) (sto_of (by kernel_rfl)) (has _)) rfl rfl rfl)
    (st_ss_cons (st_if (t_eq C (e_var C rfl (by kernel_rfl)) e_int) (st_ss_cons (st_ret (e_add C (e_add C (e_sl01 C (e_var C rfl (by kernel_rfl)) (e_var C rfl (by kernel_rfl))) (e_var C rfl (by kernel_rfl))) (e_sl10 C (e_var C rfl (by kernel_rfl)) (e_var C rfl (by kernel_rfl)))))
    st_ss_nil) st_ss_nil)
    (st_ss_cons (st_if (t_eq C (e_var C rfl (by kernel_rfl)) e_int) (st_ss_cons (st_ret (e_add C (e_sl01 C (e_var C rfl (by kernel_rfl)) (e_var C rfl (by kernel_rfl))) (e_sl10 C (e_var C rfl (by kernel_rfl)) (e_add C (e_var C rfl (by kernel_rfl)) e_int))))
    st_ss_nil) st_ss_nil)
    (st_ss_cons (st_if (t_eq C (e_var C rfl (by kernel_rfl)) e_int) (st_ss_cons (st_ret (e_add C (e_add C (e_sl01 C (e_var C rfl (by kernel_rfl)) (e_var C rfl (by kernel_rfl))) (e_var C rfl (by kernel_rfl))) (e_sl10 C (e_var C rfl (by kernel_rfl)) (e_add C (e_var C rfl (by kernel_rfl)) e_int))))
    st_ss_nil) st_ss_nil)
    (st_ss_cons (st_ret (e_add C (e_add C (e_sl01 C (e_var C rfl (by kernel_rfl)) (e_var C rfl (by kernel_rfl))) (e_sl11 C (e_var C rfl (by kernel_rfl)) (e_var C rfl (by kernel_rfl)) (e_add C (e_var C rfl (by kernel_rfl)) e_int))) (e_sl10 C (e_var C rfl (by kernel_rfl)) (e_var C rfl (by kernel_rfl)))))
    st_ss_nil)))))))
theorem body531 (C : Cm D X cx531 (2 * n + 1) F) (hp : PassesOwn (model X.prog X.w) X.A X.env X.xe) (has : ∀ i, F.as i = true) (hx : Fx X) : PSs X (defBody st531) (tSs D F (IR.callD D.g n) IR.fn531.body) :=
    (st_ss_cons (st_for hp C (s_rg1 (C.gl (by kernel_rfl)) (C.mgn h.m_range) (s_cons (e_max2 C (by kernel_rfl) h.m_max e_int (e_min2 C (by kernel_rfl) h.m_min (e_len C (by kernel_rfl) h.m_len (e_var C rfl (by kernel_rfl)) rfl) e_int rfl rfl) rfl rfl) s_nil rfl) rfl) (t_var C rfl (loc_of (by kernel_rfl)) (sto_of (by kernel_rfl)) (has _)) (st_ss_cons (st_asg (s_call C A.A12.up (C.gl (by kernel_rfl)) h.m12 (s_cons (e_var C rfl (by kernel_rfl)) (s_cons (e_var C rfl (by kernel_rfl)) s_nil rfl) rfl) (ownAll rfl) rfl rfl rfl rfl) (t_var C rfl (loc_of (by kernel_rfl)) (sto_of (by kernel_rfl)) (has _)) rfl rfl rfl)
    (st_ss_cons (st_asg (s_lst (s_cons (e_str (by kernel_rfl)) (s_cons (e_str (by kernel_rfl)) (s_cons (e_str (by kernel_rfl)) (s_cons (e_str (by kernel_rfl)) (s_cons (e_str (by kernel_rfl)) (s_cons (e_str (by kernel_rfl)) (s_cons (e_mulS C (e_str (by kernel_rfl)) e_int) (s_cons (e_add C (e_str (by kernel_rfl)) (e_mulS C (e_str (by kernel_rfl)) e_int)) (s_cons (e_mulS C (e_str (by kernel_rfl)) e_int) (s_cons (e_str (by kernel_rfl)) (s_cons (e_str (by kernel_rfl)) (s_cons (e_str (by kernel_rfl)) (s_cons (e_str (by kernel_rfl)) s_nil rfl) rfl) rfl) rfl) rfl) rfl) rfl) rfl) rfl) rfl) rfl) rfl) rfl) (ownAll rfl) (Nat.le_of_ble_eq_true rfl)) (t_var C rfl (loc_of (by kernel_rfl)) (sto_of (by kernel_rfl)) (has _)) rfl rfl rfl)
    (st_ss_cons (st_asg (e_add C (e_var C rfl (by kernel_rfl)) (s_lst (s_cons e_non (s_cons e_int (s_cons e_bl (s_cons (s_tup s_nil (ownAll rfl) (Nat.le_of_ble_eq_true rfl)) (s_cons (s_lst (s_cons (e_str (by kernel_rfl)) s_nil rfl) (ownAll rfl) (Nat.le_of_ble_eq_true rfl)) (s_cons (s_tup (s_cons (e_str (by kernel_rfl)) s_nil rfl) (ownAll rfl) (Nat.le_of_ble_eq_true rfl)) (s_cons (e_str (by kernel_rfl)) (s_cons (e_str (by kernel_rfl)) (s_cons (e_str (by kernel_rfl)) (s_cons (e_str (by kernel_rfl)) (s_cons (e_str (by kernel_rfl)) (s_cons (e_str (by kernel_rfl)) s_nil rfl) rfl) rfl) rfl) rfl) rfl) rfl) rfl) rfl) rfl) rfl) rfl) (ownAll rfl) (Nat.le_of_ble_eq_true rfl))) (t_var C rfl (loc_of (by kernel_rfl)) (sto_of (by kernel_rfl)) (has _)) rfl rfl rfl)
    (st_ss_cons (st_for hp C (s_rg1 (C.gl (by kernel_rfl)) (C.mgn h.m_range) (s_cons e_int s_nil rfl) rfl) (t_var C rfl (loc_of (by kernel_rfl)) (sto_of (by kernel_rfl)) (has _)) (st_ss_cons (st_asg (s_call C A.A530.up (C.gl (by kernel_rfl)) h.m530 (s_cons (e_var C rfl (by kernel_rfl)) s_nil rfl) (ownAll rfl) rfl rfl rfl rfl) (t_var C rfl (loc_of (by kernel_rfl)) (sto_of (by kernel_rfl)) (has _)) rfl rfl rfl)
    (st_ss_cons (st_if (t_isN (s_call C A.A527.up (C.gl (by kernel_rfl)) h.m527 (s_cons (e_var C rfl (by kernel_rfl)) s_nil rfl) (ownAll rfl) rfl rfl rfl rfl)) (st_ss_cons (st_ret e_bl)
    st_ss_nil) st_ss_nil)
    (st_ss_cons (st_asg (e_add C (e_var C rfl (by kernel_rfl)) (s_lst (s_cons (e_var C rfl (by kernel_rfl)) (s_cons (s_call C A.A526.up (C.gl (by kernel_rfl)) h.m526 (s_cons (e_var C rfl (by kernel_rfl)) (s_cons (e_var C rfl (by kernel_rfl)) s_nil rfl) rfl) (ownAll rfl) rfl rfl rfl rfl) (s_cons (s_call C A.A526.up (C.gl (by kernel_rfl)) h.m526 (s_cons (e_var C rfl (by kernel_rfl)) (s_cons (s_call C A.A526.up (C.gl (by kernel_rfl)) h.m526 (s_cons (e_var C rfl (by kernel_rfl)) (s_cons (e_var C rfl (by kernel_rfl)) s_nil rfl) rfl) (ownAll rfl) rfl rfl rfl rfl) s_nil rfl) rfl) (ownAll rfl) rfl rfl rfl rfl) s_nil rfl) rfl) rfl) (ownAll rfl) (Nat.le_of_ble_eq_true rfl))) (t_var C rfl (loc_of (by kernel_rfl)) (sto_of (by kernel_rfl)) (has _)) rfl rfl rfl)
    st_ss_nil))) (fun _ => rfl))
    (st_ss_cons (st_for hp C (s_over C (e_var C rfl (by kernel_rfl))) (t_var C rfl (loc_of (by kernel_rfl)) (sto_of (by kernel_rfl)) (has _)) (st_ss_cons (st_if (s_notT (t_of C (s_call C A.A529.up (C.gl (by kernel_rfl)) h.m529 (s_cons (e_var C rfl (by kernel_rfl)) s_nil rfl) (ownAll rfl) rfl rfl rfl rfl))) (st_ss_cons (st_ret e_bl)
    st_ss_nil) st_ss_nil)
    st_ss_nil) (fun _ => rfl))
    st_ss_nil))))) (fun _ => rfl))
    (st_ss_cons (st_ret e_bl)
    st_ss_nil))
end
theorem all {D : Wd} (h : Hd D) : ∀ n, All h n
  | 0 => ⟨at0 h.a532 h.F532.kp rfl h.b532, at0 h.a12 h.F12.kp rfl h.b12, at0 h.a8 h.F8.kp rfl h.b8, at0 h.a527 h.F527.kp rfl h.b527, at0 h.a529 h.F529.kp rfl h.b529, at0 h.a528 h.F528.kp rfl h.b528, at0 h.a530 h.F530.kp rfl h.b530, at0 h.a526 h.F526.kp rfl h.b526, at0 h.a531 h.F531.kp rfl h.b531⟩
  | n + 1 => ⟨at1 h.F532 sc532 h.a532 rfl h.b532 (by rw [h.g]; rfl) rfl rfl fun C hp has hx => body532 h (all h n) C hp has hx,
    at1 h.F12 sc12 h.a12 rfl h.b12 (by rw [h.g]; rfl) rfl rfl fun C hp has hx => body12 h (all h n) C hp has hx,
    at1 h.F8 sc8 h.a8 rfl h.b8 (by rw [h.g]; rfl) rfl rfl fun C hp has hx => body8 h (all h n) C hp has hx,
    at1 h.F527 sc527 h.a527 rfl h.b527 (by rw [h.g]; rfl) rfl rfl fun C hp has hx => body527 h (all h n) C hp has hx,
    at1 h.F529 sc529 h.a529 rfl h.b529 (by rw [h.g]; rfl) rfl rfl fun C hp has hx => body529 h (all h n) C hp has hx,
    at1 h.F528 sc528 h.a528 rfl h.b528 (by rw [h.g]; rfl) rfl rfl fun C hp has hx => body528 h (all h n) C hp has hx,
    at1 h.F530 sc530 h.a530 rfl h.b530 (by rw [h.g]; rfl) rfl rfl fun C hp has hx => body530 h (all h n) C hp has hx,
    at1 h.F526 sc526 h.a526 rfl h.b526 (by rw [h.g]; rfl) rfl rfl fun C hp has hx => body526 h (all h n) C hp has hx,
    at1 h.F531 sc531 h.a531 rfl h.b531 (by rw [h.g]; rfl) rfl rfl fun C hp has hx => body531 h (all h n) C hp has hx⟩
end LW
namespace LW
open PySem PySem.Spec PyProof.Rows L2 IRS
def wd (P : Program) (w : World) (K : PySem.W.Frag) (mg : Str → Option Value) (base : Heap) : Wd := ⟨P, w, ⟨K, nmA K, clf K, fun c => (XL.lookup c).map (He.ga K), FL⟩, mg, base, IR.g0⟩
theorem facts {P : Program} {w : World} {K : PySem.W.Frag} {hp : Heap} {mg : Str → Option Value} (X : K.In hp) (G : hp.Ns mainGlobals mg) (c : He.SaysD hfa hfn K) (cx : xB K XL = true) (base : Heap) : Nonempty (Hd (wd P w K mg base)) := by
  obtain ⟨fd532, F532⟩ := c.def_ 0 (d := dd532) rfl
  obtain ⟨fd12, F12⟩ := c.def_ 1 (d := dd12) rfl
  obtain ⟨fd8, F8⟩ := c.def_ 2 (d := dd8) rfl
  obtain ⟨fd527, F527⟩ := c.def_ 3 (d := dd527) rfl
  obtain ⟨fd529, F529⟩ := c.def_ 4 (d := dd529) rfl
  obtain ⟨fd528, F528⟩ := c.def_ 5 (d := dd528) rfl
  obtain ⟨fd530, F530⟩ := c.def_ 6 (d := dd530) rfl
  obtain ⟨fd526, F526⟩ := c.def_ 7 (d := dd526) rfl
  obtain ⟨fd531, F531⟩ := c.def_ 8 (d := dd531) rfl
  obtain ⟨tk_FIGURES, m_FIGURES⟩ := He.str_ok X G (c.fact 0 (f := .str "FIGURES" "0123456789") rfl)
  obtain ⟨tk_MOST_FIGURES, m_MOST_FIGURES⟩ := He.int_ok X G (c.fact 1 (f := .int "MOST_FIGURES" (12)) rfl)
  exact ⟨{
    g := rfl
    xa := IRS.xall X G (fun _ => rfl) cx
    ra_NoText := (let z := He.exc_ok (c.fact 2 (f := .exc "NoText") rfl); ⟨z.1, z.2.1, z.2.2.1, z.2.2.2⟩)
    fd532 := fd532
    F532 := F532
    m532 := He.glo_ok X G (c.fact 3 (f := .glo "number_in") rfl)
    a532 := rfl
    b532 := F532.bindsN fun _ _ _ _ _ _ us hl => match us, hl with | [_], _ => rfl
    fd12 := fd12
    F12 := F12
    m12 := He.glo_ok X G (c.fact 4 (f := .glo "_law_well") rfl)
    a12 := rfl
    b12 := F12.bindsN fun _ _ _ _ _ _ us hl => match us, hl with | [_, _], _ => rfl
    fd8 := fd8
    F8 := F8
    m8 := He.glo_ok X G (c.fact 5 (f := .glo "_law_take") rfl)
    a8 := rfl
    b8 := F8.bindsN fun _ _ _ _ _ _ us hl => match us, hl with | [_, _], _ => rfl
    fd527 := fd527
    F527 := F527
    m527 := He.glo_ok X G (c.fact 6 (f := .glo "_law_due") rfl)
    a527 := rfl
    b527 := F527.bindsN fun _ _ _ _ _ _ us hl => match us, hl with | [_], _ => rfl
    fd529 := fd529
    F529 := F529
    m529 := He.glo_ok X G (c.fact 7 (f := .glo "_law_right") rfl)
    a529 := rfl
    b529 := F529.bindsN fun _ _ _ _ _ _ us hl => match us, hl with | [_], _ => rfl
    fd528 := fd528
    F528 := F528
    m528 := He.glo_ok X G (c.fact 8 (f := .glo "_law_is_no_text") rfl)
    a528 := rfl
    b528 := F528.bindsN fun _ _ _ _ _ _ us hl => match us, hl with | [_], _ => rfl
    fd530 := fd530
    F530 := F530
    m530 := He.glo_ok X G (c.fact 9 (f := .glo "_law_text") rfl)
    a530 := rfl
    b530 := F530.bindsN fun _ _ _ _ _ _ us hl => match us, hl with | [_], _ => rfl
    fd526 := fd526
    F526 := F526
    m526 := He.glo_ok X G (c.fact 10 (f := .glo "_law_bent") rfl)
    a526 := rfl
    b526 := F526.bindsN fun _ _ _ _ _ _ us hl => match us, hl with | [_, _], _ => rfl
    fd531 := fd531
    F531 := F531
    m531 := He.glo_ok X G (c.fact 11 (f := .glo "law") rfl)
    a531 := rfl
    b531 := F531.bindsN fun _ _ _ _ _ _ us hl => match us, hl with | [_], _ => rfl
    k532_text := kwN (D := wd P w K mg base) F532 fun _ _ _ _ _ _ us ws h1 h2 => match us, ws, h1, h2 with | [], [_], _, _ => rfl
    m_ValueError := He.free_ok X G (c.fact 12 (f := .free "ValueError") rfl)
    m_all := He.free_ok X G (c.fact 13 (f := .free "all") rfl)
    m_bool := He.free_ok X G (c.fact 14 (f := .free "bool") rfl)
    m_int := He.free_ok X G (c.fact 15 (f := .free "int") rfl)
    m_isinstance := He.free_ok X G (c.fact 16 (f := .free "isinstance") rfl)
    m_len := He.free_ok X G (c.fact 17 (f := .free "len") rfl)
    m_max := He.free_ok X G (c.fact 18 (f := .free "max") rfl)
    m_min := He.free_ok X G (c.fact 19 (f := .free "min") rfl)
    m_range := He.free_ok X G (c.fact 20 (f := .free "range") rfl)
    m_str := He.free_ok X G (c.fact 21 (f := .free "str") rfl)
    tk_FIGURES := tk_FIGURES
    m_FIGURES := m_FIGURES
    tk_MOST_FIGURES := tk_MOST_FIGURES
    m_MOST_FIGURES := m_MOST_FIGURES
  }⟩
end LW

namespace IR
/-- it answers, and so -/
def Res.wp {α : Type} (r : Res α) (Q : α → Sto → Prop) : Prop := match r with
  | .ok a S' => Q a S'
  | _ => False
def wp {α : Type} (m : M α) (S : Sto) (Q : α → Sto → Prop) : Prop := (m S).wp Q
section
variable {α β : Type} {S : Sto} {Q Q' : α → Sto → Prop}
theorem wp_mono {m : M α} (h : wp m S Q) (k : ∀ a S', Q a S' → Q' a S') : wp m S Q' := by
  unfold wp at h ⊢
  cases e : m S with
  | ok a S' => rw [e] at h; exact k _ _ h
  | exc c fs S' => rw [e] at h; exact h
  | bad => rw [e] at h; exact h
theorem wp_ok {m : M α} (h : wp m S Q) : ∃ a S', m S = .ok a S' ∧ Q a S' := by
  unfold wp at h
  cases e : m S with
  | ok a S' => rw [e] at h; exact ⟨_, _, rfl, h⟩
  | exc c fs S' => rw [e] at h; exact h.elim
  | bad => rw [e] at h; exact h.elim
@[simp] theorem wp_pure {a : α} : wp (M.pure a) S Q ↔ Q a S := Iff.rfl
theorem wp_bind' {m : M α} {f : α → M β} {Q : β → Sto → Prop} : wp (m.bind f) S Q ↔ wp m S fun a S' => wp (f a) S' Q := by
  unfold wp M.bind Res.bind
  cases m S <;> rfl
@[simp] theorem wp_bind {m : M α} {f : α → M β} {Q : β → Sto → Prop} : wp (M.bind m f) S Q ↔ wp m S fun a S' => wp (f a) S' Q := wp_bind'
@[simp] theorem wp_bad : wp (M.bad : M α) S Q ↔ False := Iff.rfl
@[simp] theorem wp_okf {a : α} {S' : Sto} : wp (fun _ => .ok a S') S Q ↔ Q a S' := Iff.rfl
theorem wp_fun {m : M α} {r : Res α} (h : m S = r) : wp m S Q ↔ r.wp Q := by unfold wp; rw [h]
@[simp] theorem wp_ite {c : Prop} [Decidable c] {m n : M α} : wp (if c then m else n) S Q ↔ if c then wp m S Q else wp n S Q := by split <;> rfl
@[simp] theorem wp_getVar {ρ : Env} {i : Nat} {Q : D → Sto → Prop} : wp (getVar ρ i) S Q ↔ ∃ d, ρ[i]? = some (some d) ∧ Q d S := by
  unfold wp getVar
  cases ρ[i]? with
  | none => simp [Res.wp]
  | some o => cases o <;> simp [Res.wp]
/-! ### operations -/
variable {P : D → Sto → Prop}
@[simp] theorem wp_val1 {o : Option D} : wp (val1 o) S P ↔ ∃ d, o = some d ∧ P d S := by
  cases o <;> simp [wp, val1, Res.wp]
@[simp] theorem wp_bool1 {o : Option Bool} : wp (bool1 o) S P ↔ ∃ b, o = some b ∧ P (.bl b) S := by
  cases o <;> simp [wp, bool1, Res.wp]
@[simp] theorem o_addI {i j : Int} : wp (evOp .add [.int i, .int j]) S P ↔ P (.int (i + j)) S := Iff.rfl
@[simp] theorem o_subI {i j : Int} : wp (evOp .sub [.int i, .int j]) S P ↔ P (.int (i - j)) S := Iff.rfl
@[simp] theorem o_mulI' {i j : Int} : wp (evOp .mul [.int i, .int j]) S P ↔ ((-B64 < i ∧ i < B64) ∨ (-B64 < j ∧ j < B64)) ∧ P (.int (i * j)) S := by
  show wp (val1 (if (-B64 < i ∧ i < B64) ∨ (-B64 < j ∧ j < B64) then some (.int (i * j)) else none)) S P ↔ _
  by_cases h : (-B64 < i ∧ i < B64) ∨ (-B64 < j ∧ j < B64) <;> simp [h]
@[simp] theorem o_fdivI {i j : Int} : wp (evOp .fdiv [.int i, .int j]) S P ↔ (0 < j ∧ (j < B64 ∨ j = 1000000000000000000000000000000 ∨ j = 100000000000000000000)) ∧ P (.int (i / j)) S := by
  show wp (fun S => if 0 < j ∧ (j < B64 ∨ j = 1000000000000000000000000000000 ∨ j = 100000000000000000000) then .ok (.int (i / j)) S else .bad) S P ↔ _
  by_cases h : 0 < j ∧ (j < B64 ∨ j = 1000000000000000000000000000000 ∨ j = 100000000000000000000) <;> simp [wp, h, Res.wp]
@[simp] theorem o_modI {i j : Int} : wp (evOp .mod [.int i, .int j]) S P ↔ 0 < j ∧ P (.int (i % j)) S := by
  show wp (fun S => if 0 < j then .ok (.int (i % j)) S else .bad) S P ↔ _
  by_cases h : 0 < j <;> simp [wp, h, Res.wp]
@[simp] theorem o_powI {i j : Int} : wp (evOp .pow [.int i, .int j]) S P ↔ (0 ≤ j ∧ j ≤ 1000 ∧ i.natAbs < 1000) ∧ P (.int (i ^ j.toNat)) S := by
  show wp (fun S => if 0 ≤ j ∧ j ≤ 1000 ∧ i.natAbs < 1000 then .ok (.int (i ^ j.toNat)) S else .bad) S P ↔ _
  by_cases h : 0 ≤ j ∧ j ≤ 1000 ∧ i.natAbs < 1000 <;> simp [wp, h, Res.wp]
@[simp] theorem o_negI {i : Int} : wp (evOp .neg [.int i]) S P ↔ P (.int (-i)) S := Iff.rfl
@[simp] theorem o_ltI {i j : Int} : wp (evOp .lt [.int i, .int j]) S P ↔ P (.bl (decide (i < j))) S := Iff.rfl
@[simp] theorem o_leI {i j : Int} : wp (evOp .le [.int i, .int j]) S P ↔ P (.bl (decide (i ≤ j))) S := Iff.rfl
@[simp] theorem o_gtI {i j : Int} : wp (evOp .gt [.int i, .int j]) S P ↔ P (.bl (decide (j < i))) S := Iff.rfl
@[simp] theorem o_geI {i j : Int} : wp (evOp .ge [.int i, .int j]) S P ↔ P (.bl (decide (j ≤ i))) S := Iff.rfl
theorem wp_as {m m' : M α} (h : m S = m' S) : wp m S Q ↔ wp m' S Q := by unfold wp; rw [h]
@[simp] theorem o_eq {a b : D} : wp (evOp .eq [a, b]) S P ↔ ∃ t, eqD S a b = some t ∧ P (.bl t) S := (wp_as (show evOp .eq [a, b] S = bool1 (eqD S a b) S from rfl)).trans wp_bool1
theorem wp_boolN {o : Option Bool} : wp (bool1 (o.map (!·))) S P ↔ ∃ t, o = some t ∧ P (.bl (!t)) S := by cases o with | none => simp | some b => cases b <;> simp
@[simp] theorem o_ne {a b : D} : wp (evOp .ne [a, b]) S P ↔ ∃ t, eqD S a b = some t ∧ P (.bl (!t)) S := (wp_as (show evOp .ne [a, b] S = bool1 ((eqD S a b).map (!·)) S from rfl)).trans wp_boolN
@[simp] theorem o_in {a b : D} : wp (evOp .isin [a, b]) S P ↔ ∃ t, inD S a b = some t ∧ P (.bl t) S := (wp_as (show evOp .isin [a, b] S = bool1 (inD S a b) S from rfl)).trans wp_bool1
@[simp] theorem o_notin {a b : D} : wp (evOp .notin [a, b]) S P ↔ ∃ t, inD S a b = some t ∧ P (.bl (!t)) S := (wp_as (show evOp .notin [a, b] S = bool1 ((inD S a b).map (!·)) S from rfl)).trans wp_boolN
@[simp] theorem o_isN {a : D} : wp (evOp .isN [a]) S P ↔ P (.bl (match a with | .non => true | _ => false)) S := Iff.rfl
@[simp] theorem o_notN {a : D} : wp (evOp .notN [a]) S P ↔ P (.bl (match a with | .non => false | _ => true)) S := Iff.rfl
@[simp] theorem o_ix {a b : D} : wp (evOp .ix [a, b]) S P ↔ ∃ d, ixD S a b = some d ∧ P d S := by exact wp_val1 (o := ixD S a b)
@[simp] theorem o_tup {l : List D} : wp (evOp .tup l) S P ↔ P (.tup l) S := by
  rw [wp_fun (show evOp .tup l S = .ok (.tup l) S by unfold evOp; rfl)]; rfl
@[simp] theorem o_lst {l : List D} : wp (evOp .lst l) S P ↔ P (.tl l) S := by
  rw [wp_fun (show evOp .lst l S = .ok (.tl l) S by unfold evOp; rfl)]; rfl
@[simp] theorem o_len {a : D} : wp (evOp .len [a]) S P ↔ ∃ n, lenD S a = some n ∧ P (.int n) S := by
  show wp (val1 ((lenD S a).map fun n => .int n)) S P ↔ _
  cases lenD S a <;> simp
@[simp] theorem o_sum {a : D} : wp (evOp .sum [a]) S P ↔ ∃ l is, lstItems S a = some l ∧ l.mapM D.isInt = some is ∧ P (.int is.sum) S := by
  show wp (val1 ((lstItems S a).bind fun l => (l.mapM D.isInt).map fun is => .int is.sum)) S P ↔ _
  rw [wp_val1]
  constructor
  · rintro ⟨d, h, q⟩
    obtain ⟨l, h1, h2⟩ := Option.bind_eq_some_iff.mp h
    obtain ⟨is, h3, rfl⟩ := Option.map_eq_some_iff.mp h2
    exact ⟨l, is, h1, h3, q⟩
  · rintro ⟨l, is, h1, h2, q⟩
    exact ⟨_, by rw [h1]; simp [h2], q⟩
@[simp] theorem o_max2 {i j : Int} : wp (evOp .max2 [.int i, .int j]) S P ↔ P (.int (if j > i then j else i)) S := Iff.rfl
@[simp] theorem o_min2 {i j : Int} : wp (evOp .min2 [.int i, .int j]) S P ↔ P (.int (if j < i then j else i)) S := Iff.rfl
@[simp] theorem o_tupleL {l : List D} : wp (evOp .tuple [.tl l]) S P ↔ P (.tup l) S := Iff.rfl
@[simp] theorem o_tupleT {l : List D} : wp (evOp .tuple [.tup l]) S P ↔ P (.tup l) S := Iff.rfl
@[simp] theorem o_tupleR {n : Nat} : wp (evOp .tuple [.ref n]) S P ↔ ∃ l, S[n]? = some (.lst l) ∧ P (.tup l) S := by
  refine (wp_as (show evOp .tuple [.ref n] S = val1 ((lstItems S (.ref n)).map .tup) S from rfl)).trans ?_
  rw [wp_val1]
  simp only [lstItems]
  cases h : S[n]? with
  | none => simp
  | some o => cases o <;> simp
@[simp] theorem o_intI {i : Int} : wp (evOp .int [.int i]) S P ↔ P (.int i) S := Iff.rfl
@[simp] theorem o_intB {b : Bool} : wp (evOp .int [.bl b]) S P ↔ P (.int (if b then 1 else 0)) S := Iff.rfl
theorem o_tupRg1 {n : Int} (h : n ≤ LINE ∧ -LINE ≤ n) : wp (evOp .tupRg1 [.int n]) S P ↔ P (.tup (rg 0 n)) S := by
  rw [wp_fun (r := .ok (.tup (rg 0 n)) S) (by show (if _ then _ else _) = _; rw [if_pos h])]; rfl
@[simp] theorem o_isi {ts : List Ty} {a : D} : wp (evOp (.isi ts) [a]) S P ↔ ∃ k, kindD S a = some k ∧ P (.bl (ts.any (tyIs k))) S := by
  show wp (val1 ((kindD S a).map fun k => .bl (ts.any (tyIs k)))) S P ↔ _
  cases kindD S a <;> simp
theorem wp_as' {m m' : M α} (h : m S = m' S) (k : wp m' S Q) : wp m S Q := (wp_as h).mpr k
/-! ### truth -/
variable {T : Bool → Sto → Prop}
@[simp] theorem truth_bl {b : Bool} : wp (truth (.bl b)) S T ↔ T b S := Iff.rfl
@[simp] theorem truth_non : wp (truth .non) S T ↔ T false S := Iff.rfl
@[simp] theorem truth_int {i : Int} : wp (truth (.int i)) S T ↔ T (i != 0) S := Iff.rfl
/-! ### owning, storing -/
theorem own_nt {d : D} (h : ∀ l, d ≠ .tl l) : own d = M.pure d := by
  funext S
  cases d with
  | tl l => exact absurd rfl (h l)
  | _ => rfl
@[simp] theorem own_int {i : Int} : own (.int i) = M.pure (.int i) := rfl
@[simp] theorem own_bl {i : Bool} : own (.bl i) = M.pure (.bl i) := rfl
@[simp] theorem own_non : own .non = M.pure .non := rfl
@[simp] theorem own_str {i : Txt} : own (.str i) = M.pure (.str i) := rfl
@[simp] theorem own_tup {i : List D} : own (.tup i) = M.pure (.tup i) := rfl
@[simp] theorem own_ref {i : Nat} : own (.ref i) = M.pure (.ref i) := rfl
@[simp] theorem own_fn {i : Nat} : own (.fn i) = M.pure (.fn i) := rfl
@[simp] theorem own_scr {i : List Int} : own (.scr i) = M.pure (.scr i) := rfl
@[simp] theorem wp_own {l : List D} : wp (own (.tl l)) S P ↔ P (.ref S.length) (S ++ [.lst l]) := Iff.rfl
@[simp] theorem ownIf_f {d : D} : ownIf false d = M.pure d := rfl
@[simp] theorem ownIf_t {d : D} : ownIf true d = own d := rfl
@[simp] theorem wp_setVar {i : Nat} {ρ : Env} {d : D} {Q : Env → Sto → Prop} : wp (setTg (.var i) ρ d) S Q ↔ Q (ρ.set i (some d)) S := Iff.rfl
@[simp] theorem wp_setIx {r : Nat} {i : Int} {d : D} {Q : Unit → Sto → Prop} : wp (setIxD d (.ref r) (.int i)) S Q ↔ (∃ l j, S[r]? = some (.lst l) ∧ ixOf l.length i = some j ∧ Q () (S.set r (.lst (l.set j d)))) ∨ (∃ kvs, S[r]? = some (.dK false kvs) ∧ kvs.length < LINE ∧ Q () (S.set r (.dK false (dPut kvs (.inl i) d)))) := by
  cases h : S[r]? with
  | none => simp [wp, setIxD, h, Res.wp]
  | some o =>
    cases o with
    | lst l =>
      cases hj : ixOf l.length i with
      | none => simp [wp, setIxD, h, D.isInt, hj, Res.wp]
      | some j => simp [wp, setIxD, h, D.isInt, hj, Res.wp]
    | dK lk kvs =>
      cases lk with
      | true => simp [wp, setIxD, h, Res.wp]
      | false =>
        by_cases hl : kvs.length < LINE
        · simp [wp, setIxD, h, D.ky, hl, Res.wp]
        · simp [wp, setIxD, h, D.ky, hl, Res.wp]
    | dT lk kvs => cases lk <;> simp [wp, setIxD, h, D.kys, Res.wp]
    | ins c fs => simp [wp, setIxD, h, Res.wp]
    | exn c fs => simp [wp, setIxD, h, Res.wp]
theorem ixD_ref {r : Nat} {l : List D} {i : Int} (h : S[r]? = some (.lst l)) : ixD S (.ref r) (.int i) = atD l i := by
  simp only [ixD, h]
  rfl
theorem get_set {r : Nat} (h : r < S.length) (o : MO) : (S.set r o)[r]? = some o := by rw [List.getElem?_set_self h]
theorem ixD_set {r : Nat} (h : r < S.length) (l : List D) (i : Int) : ixD (S.set r (.lst l)) (.ref r) (.int i) = atD l i := ixD_ref (get_set h _)
@[simp] theorem ixD_tup {l : List D} {i : Int} : ixD S (.tup l) (.int i) = atD l i := rfl
@[simp] theorem ixD_scr {l : List Int} {i : Int} : ixD S (.scr l) (.int i) = (atD l i).map .int := rfl
@[simp] theorem ixD_tl {l : List D} {i : Int} : ixD S (.tl l) (.int i) = atD l i := rfl
theorem atD_lt {α : Type} {l : List α} {i : Int} (h0 : 0 ≤ i) (h1 : i < l.length) : ∃ d, atD l i = some d ∧ l[i.toNat]? = some d := by
  have h2 : i.toNat < l.length := by omega
  refine ⟨l[i.toNat], ?_, List.getElem?_eq_getElem h2⟩
  unfold atD ixOf
  rw [if_pos h0, if_pos h1]
  exact List.getElem?_eq_getElem h2
@[simp] theorem at0 {α : Type} {x : α} {r : List α} : atD (x :: r) 0 = some x := by simp [atD, ixOf]
@[simp] theorem at1 {α : Type} {x y : α} {r : List α} : atD (x :: y :: r) 1 = some y := by
  have h : (1 : Int) < ((x :: y :: r).length : Nat) := by simp only [List.length_cons]; omega
  simp only [atD, ixOf, h]
  rfl
@[simp] theorem at2 {α : Type} {x y z : α} {r : List α} : atD (x :: y :: z :: r) 2 = some z := by
  have h : (2 : Int) < ((x :: y :: z :: r).length : Nat) := by simp only [List.length_cons]; omega
  simp only [atD, ixOf, h]
  rfl
@[simp] theorem at3 {α : Type} {x y z u : α} {r : List α} : atD (x :: y :: z :: u :: r) 3 = some u := by
  have h : (3 : Int) < ((x :: y :: z :: u :: r).length : Nat) := by simp only [List.length_cons]; omega
  simp only [atD, ixOf, h]
  rfl
@[simp] theorem ixOf0 {n : Nat} : ixOf (n + 1) 0 = some 0 := by simp [ixOf]
@[simp] theorem ixOf2 {n : Nat} : ixOf (n + 3) 2 = some 2 := by
  have h : (2 : Int) < ((n + 3 : Nat) : Int) := by omega
  simp only [ixOf, h]; rfl
/-! ### walks -/
theorem wp_forSt {f : D → Env → M Flow} {Q : Flow → Sto → Prop} (Inv : List D → Env → Sto → Prop) : ∀ {l pre : List D} {ρ : Env} {S : Sto}, Inv pre ρ S → (∀ pre x post ρ S, Inv pre ρ S → pre ++ x :: post = l' → wp (f x ρ) S fun fl S' => match fl with
    | .next ρ' => Inv (pre ++ [x]) ρ' S'
    | .cnt ρ' => Inv (pre ++ [x]) ρ' S'
    | .brk ρ' => Q (.next ρ') S'
    | .ret d => Q (.ret d) S') → pre ++ l = l' → (∀ ρ S, Inv l' ρ S → Q (.next ρ) S) → wp (forSt f l ρ) S Q
  | [], pre, ρ, S, h, _, e, fin => by
    rw [List.append_nil] at e
    subst e
    exact fin ρ S h
  | x :: r, pre, ρ, S, h, step, e, fin => by
    rw [forSt, wp_bind]
    refine wp_mono (step pre x r ρ S h e) fun fl S' q => ?_
    have e' : (pre ++ [x]) ++ r = l' := by rw [List.append_assoc]; exact e
    cases fl with
    | next ρ' => exact wp_forSt Inv q step e' fin
    | cnt ρ' => exact wp_forSt Inv q step e' fin
    | brk ρ' => exact q
    | ret d => exact q
theorem wp_for {f : D → Env → M Flow} {Q : Flow → Sto → Prop} {l : List D} {ρ : Env} (Inv : List D → Env → Sto → Prop) (h0 : Inv [] ρ S) (step : ∀ pre x post ρ S, Inv pre ρ S → pre ++ x :: post = l → wp (f x ρ) S fun fl S' => match fl with
    | .next ρ' => Inv (pre ++ [x]) ρ' S'
    | .cnt ρ' => Inv (pre ++ [x]) ρ' S'
    | .brk ρ' => Q (.next ρ') S'
    | .ret d => Q (.ret d) S') (fin : ∀ ρ S, Inv l ρ S → Q (.next ρ) S) : wp (forSt f l ρ) S Q := wp_forSt Inv h0 step rfl fin
@[simp] theorem wp_noExc {m : M α} : wp (noExc m) S Q ↔ wp m S Q := by
  unfold wp noExc
  cases m S <;> rfl
theorem wp_lcSt {f : D → M (Option D)} {Q : List D → Sto → Prop} (Inv : List D → List D → Sto → Prop) : ∀ {l pre acc : List D} {S : Sto}, Inv pre acc S → (∀ pre x post acc S, Inv pre acc S → pre ++ x :: post = l' → acc.length < LINE ∧ wp (f x) S fun o S' => match o with
    | none => Inv (pre ++ [x]) acc S'
    | some y => Inv (pre ++ [x]) (acc ++ [y]) S') → pre ++ l = l' → (∀ acc S, Inv l' acc S → Q acc S) → wp (lcSt f l acc) S Q
  | [], pre, acc, S, h, _, e, fin => by
    rw [List.append_nil] at e
    subst e
    exact fin acc S h
  | x :: r, pre, acc, S, h, step, e, fin => by
    rw [lcSt, wp_bind]
    obtain ⟨h1, h2⟩ := step pre x r acc S h e
    refine wp_mono h2 fun o S' q => ?_
    have e' : (pre ++ [x]) ++ r = l' := by rw [List.append_assoc]; exact e
    cases o with
    | none => exact wp_lcSt Inv q step e' fin
    | some y =>
      show wp (if acc.length < LINE then _ else _) _ _
      rw [if_pos h1]
      exact wp_lcSt Inv q step e' fin
theorem wp_lc {f : D → M (Option D)} {Q : List D → Sto → Prop} {l : List D} (Inv : List D → List D → Sto → Prop) (h0 : Inv [] [] S) (step : ∀ pre x post acc S, Inv pre acc S → pre ++ x :: post = l → acc.length < LINE ∧ wp (f x) S fun o S' => match o with
    | none => Inv (pre ++ [x]) acc S'
    | some y => Inv (pre ++ [x]) (acc ++ [y]) S') (fin : ∀ acc S, Inv l acc S → Q acc S) : wp (lcSt f l []) S Q := wp_lcSt Inv h0 step rfl fin
theorem get_app {r : Nat} {o : MO} (h : S[r]? = some o) (T : Sto) : (S ++ T)[r]? = some o := by
  rw [List.getElem?_append_left (List.getElem?_eq_some_iff.mp h).1]; exact h
@[simp] theorem get_new {o : MO} : (S ++ [o])[S.length]? = some o := by simp
theorem toP_int {n : Nat} {i : Int} : toP S (n + 1) (.int i) = some (.int i) := by rw [toP.eq_def]
theorem toP_ints {n : Nat} : ∀ {l : List Int}, (l.map D.int).mapM (toP S (n + 1)) = some (l.map IR.P.int)
  | [] => rfl
  | i :: r => by rw [List.map_cons, List.mapM_cons, toP_ints (l := r), toP_int]; rfl
theorem toP_ref {n r : Nat} {l : List D} (h : S[r]? = some (.lst l)) : toP S (n + 1) (.ref r) = (l.mapM (toP S n)).map .lst := by rw [toP.eq_def]; simp only [h]
theorem toP_tl {n : Nat} {l : List D} : toP S (n + 1) (.tl l) = (l.mapM (toP S n)).map .lst := by rw [toP.eq_def]
theorem isInts : ∀ {l : List Int}, (l.map D.int).mapM D.isInt = some l
  | [] => rfl
  | i :: r => by simp [List.mapM_cons, isInts (l := r), D.isInt]
@[simp] theorem eqD_int {i j : Int} : eqD S (.int i) (.int j) = some (i == j) := by
  rw [eqD, toP_int (n := 19), toP_int (n := 19)]
  simp [P.eqv]
theorem toP_bl {n : Nat} {i : Bool} : toP S (n + 1) (.bl i) = some (.bl i) := by rw [toP.eq_def]
@[simp] theorem eqD_bl {i j : Bool} : eqD S (.bl i) (.bl j) = some (i == j) := by
  rw [eqD, toP_bl (n := 19), toP_bl (n := 19)]
  simp [P.eqv]
theorem eqD_emp {r : Nat} {l : List Int} (h : S[r]? = some (.lst (l.map .int))) : eqD S (.ref r) (.tl []) = some l.isEmpty := by
  rw [eqD, toP_ref (n := 19) h, toP_ints (n := 18), toP_tl (n := 19)]
  cases l <;> simp [P.eqv, P.eqvs]
@[simp] theorem len_scr {l : List Int} : lenD S (.scr l) = some l.length := rfl
@[simp] theorem len_tup {l : List D} : lenD S (.tup l) = some l.length := rfl
@[simp] theorem len_tl {l : List D} : lenD S (.tl l) = some l.length := rfl
@[simp] theorem lst_tl {l : List D} : lstItems S (.tl l) = some l := rfl
@[simp] theorem lst_scr {l : List Int} : lstItems S (.scr l) = some (l.map .int) := rfl
@[simp] theorem wp_srcT {l : List D} {Q : Src → Sto → Prop} : wp (srcOf (.tup l)) S Q ↔ Q (.st l) S := Iff.rfl
@[simp] theorem wp_srcL {l : List D} {Q : Src → Sto → Prop} : wp (srcOf (.tl l)) S Q ↔ Q (.st l) S := Iff.rfl
@[simp] theorem wp_srcS {l : Txt} {Q : Src → Sto → Prop} : wp (srcOf (.str l)) S Q ↔ Q (.st (l.map fun c => .str [c])) S := Iff.rfl
@[simp] theorem inD_chr {c : Nat} {s : Txt} : inD S (.str [c]) (.str s) = some (s.contains c) := rfl
@[simp] theorem lcSrc_st {f : D → M (Option D)} {l : List D} : lcSrc f (.st l) = lcSt f l [] := rfl
@[simp] theorem forSrc_st {f : D → Env → M Flow} {l : List D} {ρ : Env} : forSrc f (.st l) ρ = forSt f l ρ := rfl
theorem rg_nat {n : Nat} : rg 0 (n : Int) = (List.range n).map fun (i : Nat) => D.int i := by simp [rg]
theorem split_at {α : Type} {pre post l : List α} {x : α} (h : pre ++ x :: post = l) : l[pre.length]? = some x ∧ pre.length < l.length := by
  subst h; simp
theorem rg_at {pre post : List D} {x : D} {n : Int} (h : pre ++ x :: post = rg 0 n) : x = .int pre.length ∧ (pre.length : Int) < n := by
  obtain ⟨h1, h2⟩ := split_at h
  have hl : pre.length < n.toNat := by simpa [rg] using h2
  refine ⟨?_, by omega⟩
  have e : (rg 0 n)[pre.length]? = some (.int pre.length) := by simp [rg, hl]
  rw [e] at h1
  exact (Option.some.inj h1).symm
@[simp] theorem kind_int {i : Int} : kindD S (.int i) = some 2 := rfl
@[simp] theorem pick_some {l : List D} {k : Nat} : pick l (some k) = l[k]? := rfl
@[simp] theorem pick_none {l : List D} : pick l none = some .non := rfl
@[simp] theorem wp_permD {l : List D} {p : List (Option Nat)} {Q : List D → Sto → Prop} : wp (permD l p) S Q ↔ ∃ r, p.mapM (pick l) = some r ∧ Q r S := by
  unfold permD
  cases p.mapM (pick l) <;> simp [M.of]
/-! ### lists as objects, walked by place -/
theorem wp_forRf {f : D → Env → M Flow} {en : Bool} {r : Nat} {l : List D} {Q : Flow → Sto → Prop} (Inv : Nat → Env → Sto → Prop) (stay : ∀ i ρ S, Inv i ρ S → S[r]? = some (.lst l))
    (step : ∀ i d ρ S, Inv i ρ S → l[i]? = some d → wp (f (if en then .tup [.int i, d] else d) ρ) S fun fl S' => match fl with
      | .next ρ' => Inv (i + 1) ρ' S'
      | .cnt ρ' => Inv (i + 1) ρ' S'
      | .brk ρ' => Q (.next ρ') S'
      | .ret d => Q (.ret d) S') (fin : ∀ ρ S, Inv l.length ρ S → Q (.next ρ) S) : ∀ (k i : Nat) (ρ : Env) (S : Sto), l.length - i = k → i ≤ l.length → Inv i ρ S → wp (forRf f en r k i ρ) S Q
  | 0, i, ρ, S, hk, hi, h => by
    have e : i = l.length := by omega
    subst e
    refine wp_as' (m' := M.pure (.next ρ)) ?_ (fin ρ S h)
    simp only [forRf, stay _ _ _ h, Nat.le_refl, if_true]
    rfl
  | k + 1, i, ρ, S, hk, hi, h => by
    have hl : i < l.length := by omega
    refine wp_as' (m' := (f (if en then .tup [.int i, l[i]] else l[i]) ρ).bind fun fl => match fl with
        | .next ρ' => forRf f en r k (i + 1) ρ'
        | .cnt ρ' => forRf f en r k (i + 1) ρ'
        | .brk ρ' => M.pure (.next ρ')
        | .ret d => M.pure (.ret d)) ?_ ?_
    · simp only [forRf, stay _ _ _ h, List.getElem?_eq_getElem hl]
      try rfl
    · rw [wp_bind]
      refine wp_mono (step i l[i] ρ S h (List.getElem?_eq_getElem hl)) fun fl S' q => ?_
      cases fl with
      | next ρ' => exact wp_forRf Inv stay step fin k (i + 1) ρ' S' (by omega) hl q
      | cnt ρ' => exact wp_forRf Inv stay step fin k (i + 1) ρ' S' (by omega) hl q
      | brk ρ' => exact q
      | ret d => exact q
theorem wp_forR {f : D → Env → M Flow} {en : Bool} {r : Nat} {l : List D} {ρ : Env} {Q : Flow → Sto → Prop} (Inv : Nat → Env → Sto → Prop) (h0 : Inv 0 ρ S) (stay : ∀ i ρ S, Inv i ρ S → S[r]? = some (.lst l))
    (step : ∀ i d ρ S, Inv i ρ S → l[i]? = some d → wp (f (if en then .tup [.int i, d] else d) ρ) S fun fl S' => match fl with
      | .next ρ' => Inv (i + 1) ρ' S'
      | .cnt ρ' => Inv (i + 1) ρ' S'
      | .brk ρ' => Q (.next ρ') S'
      | .ret d => Q (.ret d) S') (fin : ∀ ρ S, Inv l.length ρ S → Q (.next ρ) S) : wp (forSrc f (.rf en r) ρ) S Q := by
  refine wp_as' (m' := forRf f en r l.length 0 ρ) ?_ (wp_forRf Inv stay step fin _ 0 ρ S (by omega) (Nat.zero_le _) h0)
  simp only [forSrc, stay _ _ _ h0]
@[simp] theorem wp_srcR {r : Nat} {Q : Src → Sto → Prop} : wp (srcOf (.ref r)) S Q ↔ (∃ l, S[r]? = some (.lst l)) ∧ Q (.rf false r) S := by
  cases h : S[r]? with
  | none => rw [wp_fun (r := .bad) (by simp only [srcOf, h])]; simp [Res.wp]
  | some o =>
    cases o with
    | lst l => rw [wp_fun (r := .ok (.rf false r) S) (by simp only [srcOf, h])]; simp [Res.wp]
    | dK a b => rw [wp_fun (r := .bad) (by simp only [srcOf, h])]; simp [Res.wp]
    | dT a b => rw [wp_fun (r := .bad) (by simp only [srcOf, h])]; simp [Res.wp]
    | ins a b => rw [wp_fun (r := .bad) (by simp only [srcOf, h])]; simp [Res.wp]
    | exn a b => rw [wp_fun (r := .bad) (by simp only [srcOf, h])]; simp [Res.wp]
@[simp] theorem o_addRL {r : Nat} {m : List D} : wp (evOp .add [.ref r, .tl m]) S P ↔ ∃ l, S[r]? = some (.lst l) ∧ l.length + m.length ≤ LINE ∧ P (.tl (l ++ m)) S := by
  refine (wp_as (show evOp .add [.ref r, .tl m] S = val1 (addD S (.ref r) (.tl m)) S from rfl)).trans ?_
  rw [wp_val1]
  cases h : S[r]? with
  | none => simp [addD, ownItems, h]
  | some o =>
    cases o with
    | lst l =>
      by_cases hl : l.length + m.length ≤ LINE
      · simp [addD, ownItems, h, hl]
      · simp [addD, ownItems, h, hl]
    | dK a b => simp [addD, ownItems, h]
    | dT a b => simp [addD, ownItems, h]
    | ins a b => simp [addD, ownItems, h]
    | exn a b => simp [addD, ownItems, h]
@[simp] theorem o_sortedSet {l : List D} : wp (evOp .sortedSet [.tl l]) S P ↔ ∃ is, l.mapM D.isInt = some is ∧ is.length < 64 ∧ P (.tl ((setOf is).map .int)) S := by
  refine (wp_as (show evOp .sortedSet [.tl l] S = val1 ((lstItems S (.tl l)).bind fun l => (l.mapM D.isInt).bind fun is => if is.length < 64 then some (.tl ((setOf is).map .int)) else none) S from rfl)).trans ?_
  rw [wp_val1]
  simp only [lst_tl, Option.bind_some]
  cases l.mapM D.isInt with
  | none => simp
  | some is => by_cases h : is.length < 64 <;> simp [h]
@[simp] theorem o_listT {l : List D} : wp (evOp .list [.tup l]) S P ↔ P (.tl l) S := Iff.rfl
@[simp] theorem o_listL {l : List D} : wp (evOp .list [.tl l]) S P ↔ P (.tl l) S := Iff.rfl
theorem lenD_ref {r : Nat} {l : List D} (h : S[r]? = some (.lst l)) : lenD S (.ref r) = some l.length := by simp only [lenD, h]
@[simp] theorem o_addTT {x y : List D} : wp (evOp .add [.tup x, .tup y]) S P ↔ x.length + y.length ≤ LINE ∧ P (.tup (x ++ y)) S := by
  refine (wp_as (show evOp .add [.tup x, .tup y] S = val1 (addD S (.tup x) (.tup y)) S from rfl)).trans ?_
  rw [wp_val1]
  by_cases h : x.length + y.length ≤ LINE <;> simp [addD, h]
@[simp] theorem o_addSS {x y : Txt} : wp (evOp .add [.str x, .str y]) S P ↔ x.length + y.length ≤ LINE ∧ P (.str (x ++ y)) S := by
  refine (wp_as (show evOp .add [.str x, .str y] S = val1 (addD S (.str x) (.str y)) S from rfl)).trans ?_
  rw [wp_val1]
  by_cases h : x.length + y.length ≤ LINE <;> simp [addD, h]
theorem cut_len {α : Type} {l : List α} {a b : Option Int} : (cut l a b).length ≤ l.length := by simp [cut]; omega
theorem cut_mem {α : Type} {l : List α} {a b : Option Int} {x : α} (h : x ∈ cut l a b) : x ∈ l := List.mem_of_mem_drop (List.mem_of_mem_take h)
@[simp] theorem wp_wantInt {S : Sto} {i : Int} {P : Int → Sto → Prop} : wp (wantInt (.int i)) S P ↔ P i S := Iff.rfl
@[simp] theorem wp_slT {S : Sto} {l : List D} {a b : Option Int} {P : D → Sto → Prop} : wp (slM (.tup l) a b) S P ↔ P (.tup (cut l a b)) S := Iff.rfl
@[simp] theorem o_all {a : D} : wp (evOp .all [a]) S P ↔ ∃ l bs, lstItems S a = some l ∧ l.mapM D.isBl = some bs ∧ P (.bl (bs.all id)) S := by
  show wp (val1 ((lstItems S a).bind fun l => (l.mapM D.isBl).map fun bs => .bl (bs.all id))) S P ↔ _
  rw [wp_val1]
  constructor
  · rintro ⟨d, h, q⟩
    obtain ⟨l, h1, h2⟩ := Option.bind_eq_some_iff.mp h
    obtain ⟨is, h3, rfl⟩ := Option.map_eq_some_iff.mp h2
    exact ⟨l, is, h1, h3, q⟩
  · rintro ⟨l, is, h1, h2, q⟩
    exact ⟨_, by rw [h1]; simp [h2], q⟩
/-- a call -/
theorem wp_call {g : G} {n f : Nat} {as : List D} {d : Fn} (hf : g.fns f = some d) (hn : as.length = d.np) (h : wp (exs g (callD g n) d.body (as.map some ++ List.replicate (d.ns - d.np) none)) S fun fl S' => match fl with
    | .next _ => P .non S'
    | .ret v => P v S'
    | _ => False) : wp (callD g (n + 1) f as) S P := by
  simp only [callD_s, hf, hn, if_true]
  rw [wp_bind]
  refine wp_mono h fun fl S' q => ?_
  cases fl with
  | next ρ => exact q
  | ret v => exact q
  | brk ρ => exact q.elim
  | cnt ρ => exact q.elim
end
end IR

namespace IR
section
variable {α β : Type} {S : Sto} {Q : Unit → Sto → Prop} {P : D → Sto → Prop} {r : Nat}
@[simp] theorem wp_setTup {is : List Nat} {l : List D} {ρ : Env} {Q : Env → Sto → Prop} : wp (setTg (.tup is) ρ (.tup l)) S Q ↔ l.length = is.length ∧ Q (setVars ρ is l) S := by
  by_cases h : l.length = is.length
  · rw [wp_fun (r := .ok (setVars ρ is l) S) (by simp [setTg, h])]; simp [h, Res.wp]
  · rw [wp_fun (r := .bad) (by simp [setTg, h])]; simp [h, Res.wp]
@[simp] theorem setVars_c {ρ : Env} {i : Nat} {is : List Nat} {d : D} {ds : List D} : setVars ρ (i :: is) (d :: ds) = setVars (ρ.set i (some d)) is ds := rfl
@[simp] theorem setVars_n {ρ : Env} : setVars ρ [] [] = ρ := rfl
theorem wp_recvL {o : Op} {l : List D} (h : S[r]? = some (.lst l)) : wp (recvOk o (.ref r)) S Q ↔ (bmKinds o).contains 1 = true ∧ Q () S := by
  unfold wp recvOk
  simp only [recvK, h]
  split <;> simp_all [Res.wp]
theorem wp_recvK {o : Op} {l : List (Ky × D)} (h : S[r]? = some (.dK false l)) : wp (recvOk o (.ref r)) S Q ↔ (bmKinds o).contains 2 = true ∧ Q () S := by
  unfold wp recvOk
  simp only [recvK, h]
  split <;> simp_all [Res.wp]
@[simp] theorem wp_recvS {o : Op} {t : Txt} : wp (recvOk o (.str t)) S Q ↔ (bmKinds o).contains 3 = true ∧ Q () S := by
  unfold wp recvOk
  simp only [recvK]
  split <;> simp_all [Res.wp]
@[simp] theorem wp_recvT {o : Op} {l : List D} : wp (recvOk o (.tl l)) S Q ↔ (bmKinds o).contains 1 = true ∧ Q () S := by
  unfold wp recvOk
  simp only [recvK]
  split <;> simp_all [Res.wp]
@[simp] theorem bk_append : (bmKinds .append).contains 1 = true := rfl
@[simp] theorem bk_extend : (bmKinds .extend).contains 1 = true := rfl
@[simp] theorem bk_insert : (bmKinds .insert).contains 1 = true := rfl
@[simp] theorem bk_count : (bmKinds .count).contains 1 = true := rfl
@[simp] theorem bk_pop1 : (bmKinds .pop1).contains 2 = true := rfl
@[simp] theorem bk_pop2 : (bmKinds .pop2).contains 2 = true := rfl
@[simp] theorem bk_get1 : (bmKinds .get1).contains 2 = true := rfl
@[simp] theorem bk_get2 : (bmKinds .get2).contains 2 = true := rfl
@[simp] theorem bk_join : (bmKinds .join).contains 3 = true := rfl
@[simp] theorem bk_split : (bmKinds .split).contains 3 = true := rfl
@[simp] theorem bk_index : (bmKinds .index).contains 1 = true := rfl
@[simp] theorem bk_indexS : (bmKinds .indexS).contains 3 = true := rfl
@[simp] theorem bk_index3 : (bmKinds .index).contains 3 = true := rfl
theorem o_append {l : List D} {d : D} (h : S[r]? = some (.lst l)) : wp (evOp .append [.ref r, d]) S P ↔ l.length < LINE ∧ P .non (S.set r (.lst (l ++ [d]))) := by
  rw [wp_fun (r := if l.length < LINE then .ok .non (S.set r (.lst (l ++ [d]))) else .bad) (by show (match S[r]? with | some (.lst l) => _ | _ => _) = _; rw [h])]
  by_cases hl : l.length < LINE <;> simp [hl, Res.wp]
theorem o_attr {f c : Nat} {fs : List (Nat × D)} (h : S[r]? = some (.ins c fs)) : wp (evOp (.attr f) [.ref r]) S P ↔ ∃ d, fs.lookup f = some d ∧ P d S := by
  rw [wp_as (m' := val1 (fs.lookup f)) (by show (match S[r]? with | some (.ins _ fs) => val1 (fs.lookup f) S | _ => _) = _; rw [h]), wp_val1]
theorem wp_methM {g : G} {m c : Nat} {fs : List (Nat × D)} {Q : Nat → Sto → Prop} (h : S[r]? = some (.ins c fs)) : wp (methM g m (.ref r)) S Q ↔ ∃ i, ((g.cls c).bind fun cl => cl.ms.lookup m) = some i ∧ Q i S := by
  unfold wp methM methOf
  simp only [h]
  cases (g.cls c).bind fun cl => cl.ms.lookup m <;> simp [Res.wp]
theorem wp_getAttr {f c : Nat} {fs : List (Nat × D)} (h : S[r]? = some (.ins c fs)) : wp (getAttrD (.ref r) f) S P ↔ ∃ d, fs.lookup f = some d ∧ P d S := by
  rw [wp_as (m' := val1 (fs.lookup f)) (by simp only [getAttrD, h]), wp_val1]
theorem wp_setAttr {f c : Nat} {d : D} {fs : List (Nat × D)} (h : S[r]? = some (.ins c fs)) : wp (setAttrD d (.ref r) f) S Q ↔ fs.length < 900 ∧ Q () (S.set r (.ins c (fPut fs f d))) := by
  rw [wp_fun (r := if fs.length < 900 then .ok () (S.set r (.ins c (fPut fs f d))) else .bad) (by simp only [setAttrD, h])]
  by_cases hl : fs.length < 900 <;> simp [hl, Res.wp]
@[simp] theorem o_newK : wp (evOp .newK []) S P ↔ P (.ref S.length) (S ++ [.dK false []]) := Iff.rfl
@[simp] theorem o_newT : wp (evOp .newT []) S P ↔ P (.ref S.length) (S ++ [.dT false []]) := Iff.rfl
theorem o_get1 {lk : Bool} {kvs : List (Ky × D)} {i : Int} (h : S[r]? = some (.dK lk kvs)) : wp (evOp .get1 [.ref r, .int i]) S P ↔ P ((dGet kvs (.inl i)).getD .non) S := by
  rw [wp_fun (r := .ok ((dGet kvs (.inl i)).getD .non) S) (by show (match S[r]?, (D.int i).ky with | some (.dK _ kvs), some k => _ | _, _ => _) = _; rw [h]; rfl)]
  rfl
theorem o_pop1 {kvs : List (Ky × D)} {i : Int} {v : D} (h : S[r]? = some (.dK false kvs)) (hv : dGet kvs (.inl i) = some v) : wp (evOp .pop1 [.ref r, .int i]) S P ↔ P v (S.set r (.dK false (dDrop kvs (.inl i)))) := by
  rw [wp_fun (r := .ok v (S.set r (.dK false (dDrop kvs (.inl i))))) (by
    show (match S[r]?, (D.int i).ky with
    | some (.dK false kvs), some k => match dGet kvs k with
      | some v => Res.ok v (S.set r (.dK false (dDrop kvs k)))
      | none => .bad
    | _, _ => .bad) = _
    rw [h]
    show (match dGet kvs (.inl i) with
      | some v => Res.ok v (S.set r (.dK false (dDrop kvs (.inl i))))
      | none => .bad) = _
    rw [hv])]
  rfl
theorem o_dict {lk : Bool} {kvs : List (Ky × D)} (h : S[r]? = some (.dK lk kvs)) : wp (evOp .dict [.ref r]) S P ↔ P (.ref S.length) (S ++ [.dK false kvs]) := by
  rw [wp_fun (r := .ok (.ref S.length) (S ++ [.dK false kvs])) (by show (match S[r]? with | some (.dK _ kvs) => _ | _ => _) = _; rw [h])]
  rfl
theorem wp_setK {kvs : List (Ky × D)} {i : Int} {d : D} (h : S[r]? = some (.dK false kvs)) : wp (setIxD d (.ref r) (.int i)) S Q ↔ kvs.length < LINE ∧ Q () (S.set r (.dK false (dPut kvs (.inl i) d))) := by
  rw [wp_setIx]
  simp [h]
theorem inD_dK {lk : Bool} {kvs : List (Ky × D)} {i : Int} (h : S[r]? = some (.dK lk kvs)) : inD S (.int i) (.ref r) = some (dGet kvs (.inl i)).isSome := by
  simp only [inD, h]; rfl
theorem ixD_dK {lk : Bool} {kvs : List (Ky × D)} {i : Int} (h : S[r]? = some (.dK lk kvs)) : ixD S (.ref r) (.int i) = dGet kvs (.inl i) := by
  simp only [ixD, h]; rfl
theorem lenD_dK {lk : Bool} {kvs : List (Ky × D)} (h : S[r]? = some (.dK lk kvs)) : lenD S (.ref r) = some kvs.length := by simp only [lenD, h]
theorem o_sortedItems {kvs : List (Ky × D)} (h : S[r]? = some (.dK false kvs)) : wp (evOp .sortedItems [.ref r]) S P ↔ ∃ l, srtN kvs = some l ∧ P (.tl l) S := by
  rw [wp_as (m' := val1 ((srtN kvs).map .tl)) (by show (match S[r]? with | some (.dK false kvs) => val1 ((srtN kvs).map .tl) S | _ => _) = _; rw [h]), wp_val1]
  cases srtN kvs <;> simp
theorem o_sortedK {lk : Bool} {kvs : List (Ky × D)} (h : S[r]? = some (.dK lk kvs)) : wp (evOp .sorted [.ref r]) S P ↔ ∃ l, srtK (kvs.map Prod.fst) = some l ∧ P (.tl l) S := by
  rw [wp_as (m' := val1 ((srtK (kvs.map Prod.fst)).map .tl)) (by
    show (match S[r]? with
      | some (.lst l) => val1 ((srtL l).map .tl) S
      | some (.dK _ kvs) => val1 ((srtK (kvs.map (fun (p : Ky × D) => p.1))).map .tl) S
      | _ => Res.bad) = _
    rw [h]), wp_val1]
  cases srtK (kvs.map Prod.fst) <;> simp
@[simp] theorem o_sortedT {l : List D} : wp (evOp .sorted [.tl l]) S P ↔ ∃ m, srtL l = some m ∧ P (.tl m) S := by
  refine (wp_as (show evOp .sorted [.tl l] S = val1 ((srtL l).map .tl) S from rfl)).trans ?_
  rw [wp_val1]
  cases srtL l <;> simp
@[simp] theorem wp_slS {l : List Int} {a b : Option Int} : wp (slM (.scr l) a b) S P ↔ P (.tl (cut (l.map .int) a b)) S := Iff.rfl
@[simp] theorem wp_slL {l : List D} {a b : Option Int} : wp (slM (.tl l) a b) S P ↔ P (.tl (cut l a b)) S := Iff.rfl
theorem wp_slR {l : List D} {a b : Option Int} (h : S[r]? = some (.lst l)) : wp (slM (.ref r) a b) S P ↔ P (.tl (cut l a b)) S := by
  rw [wp_fun (r := .ok (.tl (cut l a b)) S) (by simp only [slM, slD, lstItems, h]; rfl)]; rfl
@[simp] theorem wp_revT {l : List D} {Q : Src → Sto → Prop} : wp (srcRev (.tup l)) S Q ↔ Q (.st l.reverse) S := Iff.rfl
@[simp] theorem wp_zipT {l m : List D} {Q : Src → Sto → Prop} : wp (srcZip (.tup l) (.tup m)) S Q ↔ Q (.st ((l.zip m).map fun p => .tup [p.1, p.2])) S := Iff.rfl
@[simp] theorem wp_enumT {l : List D} {Q : Src → Sto → Prop} : wp (srcEnum (.tl l)) S Q ↔ Q (.st (numbered l)) S := Iff.rfl
theorem wp_enumR {l : List D} {Q : Src → Sto → Prop} (h : S[r]? = some (.lst l)) : wp (srcEnum (.ref r)) S Q ↔ Q (.rf true r) S := by
  rw [wp_fun (r := .ok (.rf true r) S) (by simp only [srcEnum, h])]; rfl
theorem wp_runNew {g : G} {call : Nat → List D → M D} {c : Nat} {cl : Cl} {as : List D} (h : g.cls c = some cl) : wp (runNew g call c as) S P ↔ wp (call cl.init (.ref S.length :: as)) (S ++ [.ins c []]) fun d S' => d = .non ∧ P (.ref S.length) S' := by
  rw [wp_as (m' := fun S => ((call cl.init (.ref S.length :: as)).bind fun r => match r with | .non => M.pure (.ref S.length) | _ => M.bad) (S ++ [.ins c []])) (by first | (simp only [runNew, h]; done) | (simp only [runNew, h]; rfl))]
  show wp ((call cl.init (.ref S.length :: as)).bind fun r => match r with | .non => M.pure (.ref S.length) | _ => M.bad) (S ++ [.ins c []]) P ↔ _
  rw [wp_bind]
  constructor
  · intro z
    refine wp_mono z fun d S' q => ?_
    cases d <;> first | exact ⟨rfl, q⟩ | exact q.elim
  · intro z
    refine wp_mono z fun d S' q => ?_
    obtain ⟨rfl, q⟩ := q
    exact q
/-- a comprehension that changes nothing -/
theorem wp_lcP {f : D → M (Option D)} (o : D → Option D) {Q : List D → Sto → Prop} {l : List D} (hl : l.length ≤ LINE) (step : ∀ x ∈ l, ∀ Q' : Option D → Sto → Prop, Q' (o x) S → wp (f x) S Q') (q : Q (l.filterMap o) S) : wp (lcSt f l []) S Q := by
  refine wp_lc (fun pre acc S' => S' = S ∧ acc = pre.filterMap o) ⟨rfl, rfl⟩ ?_ ?_
  · rintro pre x post acc S' ⟨rfl, rfl⟩ e
    have hp := (split_at e).2
    refine ⟨Nat.lt_of_le_of_lt (List.length_filterMap_le _ _) (Nat.lt_of_lt_of_le hp hl), ?_⟩
    refine step x (by rw [← e]; simp) _ ?_
    cases h : o x with
    | none => exact ⟨rfl, by simp [h]⟩
    | some y => exact ⟨rfl, by simp [h]⟩
  · rintro acc S' ⟨rfl, rfl⟩
    exact q
/-- .. each of which gives something -/
theorem wp_lcM {f : D → M (Option D)} (o : D → D) {Q : List D → Sto → Prop} {l : List D} (hl : l.length ≤ LINE) (step : ∀ x ∈ l, ∀ Q' : Option D → Sto → Prop, Q' (some (o x)) S → wp (f x) S Q') (q : Q (l.map o) S) : wp (lcSt f l []) S Q := by
  refine wp_lcP (fun x => some (o x)) hl step ?_
  have : (l.filterMap fun x => some (o x)) = l.map o := by induction l <;> simp_all
  rw [this]; exact q
end
end IR

namespace IR
/-- it raises, and so -/
def wx {α : Type} (m : M α) (S : Sto) (X : Nat → List (Nat × D) → Sto → Prop) : Prop := match m S with
  | .exc c fs S' => X c fs S'
  | _ => False
section
variable {α β : Type} {S : Sto} {X : Nat → List (Nat × D) → Sto → Prop}
theorem wx_is {m : M α} : wx m S X ↔ ∃ c fs S', m S = .exc c fs S' ∧ X c fs S' := by
  unfold wx
  cases e : m S with
  | ok a S' => simp
  | bad => simp
  | exc c fs S' => exact ⟨fun h => ⟨_, _, _, rfl, h⟩, fun ⟨_, _, _, h1, h2⟩ => by cases h1; exact h2⟩
theorem wx_mono {m : M α} {Y : Nat → List (Nat × D) → Sto → Prop} (h : wx m S X) (k : ∀ c fs S', X c fs S' → Y c fs S') : wx m S Y := by
  obtain ⟨c, fs, S', e, q⟩ := wx_is.mp h
  exact wx_is.mpr ⟨c, fs, S', e, k _ _ _ q⟩
theorem wx_bind {m : M α} {f : α → M β} : wx (m.bind f) S X ↔ wx m S X ∨ wp m S fun a S' => wx (f a) S' X := by
  unfold wx wp M.bind Res.bind
  cases m S <;> simp [Res.wp]
/-- it does not raise -/
def NX (m : M α) : Prop := ∀ S c fs S', m S ≠ .exc c fs S'
theorem NX.wx {m : M α} (h : NX m) : wx m S X ↔ False := by
  unfold IR.wx
  cases e : m S with
  | exc c fs S' => exact absurd e (h _ _ _ _)
  | ok a S' => simp
  | bad => simp
theorem wx_r {m : M α} {f : α → M β} (h : wp m S fun a S' => wx (f a) S' X) : wx (m.bind f) S X := wx_bind.mpr (.inr h)
theorem wx_l {m : M α} {f : α → M β} (h : wx m S X) : wx (m.bind f) S X := wx_bind.mpr (.inl h)
@[simp] theorem wx_pure {a : α} : wx (M.pure a) S X ↔ False := Iff.rfl
@[simp] theorem wx_bad : wx (M.bad : M α) S X ↔ False := Iff.rfl
@[simp] theorem wx_getVar {ρ : Env} {i : Nat} : wx (getVar ρ i) S X ↔ False := NX.wx fun S c fs S' h => by
  unfold getVar at h
  split at h <;> cases h
@[simp] theorem wx_own {d : D} : wx (own d) S X ↔ False := NX.wx fun S c fs S' h => by
  cases d <;> cases h
@[simp] theorem wx_truth {d : D} : wx (truth d) S X ↔ False := NX.wx fun S c fs S' h => by
  unfold truth at h
  cases d <;> simp only at h <;> (try (repeat' split at h)) <;> cases h
@[simp] theorem wx_setTg {t : Tg} {ρ : Env} {d : D} : wx (setTg t ρ d) S X ↔ False := NX.wx fun S c fs S' h => by
  unfold setTg at h
  (repeat' split at h) <;> cases h
@[simp] theorem wx_methM {g : G} {m : Nat} {o : D} : wx (methM g m o) S X ↔ False := NX.wx fun S c fs S' h => by
  unfold methM at h
  split at h <;> cases h
@[simp] theorem wx_recvOk {o : Op} {d : D} : wx (recvOk o d) S X ↔ False := NX.wx fun S c fs S' h => by
  unfold recvOk at h
  (repeat' split at h) <;> cases h
@[simp] theorem wx_ite {c : Prop} [Decidable c] {m n : M α} : wx (if c then m else n) S X ↔ if c then wx m S X else wx n S X := by split <;> rfl
theorem wx_raise {g : G} {c : Nat} {l : List D} : wx (fun S => match g.xfs.lookup c with
    | some fs => (.exc c (fs.zip l) S : Res α)
    | none => .bad) S X ↔ ∃ fs, g.xfs.lookup c = some fs ∧ X c (fs.zip l) S := by
  unfold wx
  cases g.xfs.lookup c <;> simp
theorem wx_call {g : G} {n f : Nat} {as : List D} {d : Fn} (hf : g.fns f = some d) (hn : as.length = d.np) (h : wx (exs g (callD g n) d.body (as.map some ++ List.replicate (d.ns - d.np) none)) S X) : wx (callD g (n + 1) f as) S X := by
  simp only [callD_s, hf, hn, if_true]
  exact wx_l h
variable {a b : D} {i j : Int}
theorem val1_nx {P : Prop} {o : Option D} {S : Sto} {c : Nat} {fs : List (Nat × D)} {S' : Sto} (h : val1 o S = .exc c fs S') : P := by cases o <;> cases h
theorem bool1_nx {P : Prop} {o : Option Bool} {S : Sto} {c : Nat} {fs : List (Nat × D)} {S' : Sto} (h : bool1 o S = .exc c fs S') : P := by cases o <;> cases h
@[simp] theorem wxo_isin : wx (evOp .isin [a, b]) S X ↔ False := NX.wx fun S c fs S' h => bool1_nx h
@[simp] theorem wxo_notin : wx (evOp .notin [a, b]) S X ↔ False := NX.wx fun S c fs S' h => bool1_nx h
@[simp] theorem wxo_eq : wx (evOp .eq [a, b]) S X ↔ False := NX.wx fun S c fs S' h => bool1_nx h
@[simp] theorem wxo_ne : wx (evOp .ne [a, b]) S X ↔ False := NX.wx fun S c fs S' h => bool1_nx h
@[simp] theorem wxo_lt : wx (evOp .lt [a, b]) S X ↔ False := NX.wx fun S c fs S' h => bool1_nx h
@[simp] theorem wxo_add : wx (evOp .add [a, b]) S X ↔ False := NX.wx fun S c fs S' h => val1_nx h
@[simp] theorem wxo_mul : wx (evOp .mul [a, b]) S X ↔ False := NX.wx fun S c fs S' h => val1_nx h
@[simp] theorem wxo_ix : wx (evOp .ix [a, b]) S X ↔ False := NX.wx fun S c fs S' h => val1_nx h
@[simp] theorem wxo_len : wx (evOp .len [a]) S X ↔ False := NX.wx fun S c fs S' h => val1_nx h
@[simp] theorem wxo_list : wx (evOp .list [a]) S X ↔ False := NX.wx fun S c fs S' h => val1_nx h
@[simp] theorem wxo_isi {a : D} {ts : List Ty} : wx (evOp (.isi ts) [a]) S X ↔ False := NX.wx fun S c fs S' h => val1_nx h
@[simp] theorem wxo_isN : wx (evOp .isN [a]) S X ↔ False := NX.wx fun S c fs S' h => by cases h
@[simp] theorem wxo_notN : wx (evOp .notN [a]) S X ↔ False := NX.wx fun S c fs S' h => by cases h
@[simp] theorem wxo_gt : wx (evOp .gt [.int i, .int j]) S X ↔ False := NX.wx fun S c fs S' h => by cases h
@[simp] theorem wxo_ge : wx (evOp .ge [.int i, .int j]) S X ↔ False := NX.wx fun S c fs S' h => by cases h
@[simp] theorem wxo_le : wx (evOp .le [.int i, .int j]) S X ↔ False := NX.wx fun S c fs S' h => by cases h
@[simp] theorem wxo_sub : wx (evOp .sub [.int i, .int j]) S X ↔ False := NX.wx fun S c fs S' h => by cases h
@[simp] theorem wxo_tup {l : List D} : wx (evOp .tup l) S X ↔ False := NX.wx fun S c fs S' h => by cases h
@[simp] theorem wxo_lst {l : List D} : wx (evOp .lst l) S X ↔ False := NX.wx fun S c fs S' h => by cases h
@[simp] theorem wxo_attr {f r : Nat} : wx (evOp (.attr f) [.ref r]) S X ↔ False := NX.wx fun S c fs S' h => by
  have h : (match S[r]? with
    | some (.ins _ fs) => val1 (fs.lookup f) S
    | _ => .bad) = .exc c fs S' := h
  split at h
  · exact val1_nx h
  · cases h
@[simp] theorem wp_false {m : M α} : (wp m S fun _ _ => False) ↔ False := by
  unfold wp
  cases m S <;> simp [Res.wp]
theorem raised {g : G} {c : Nat} {fs : List Nat} {l : List D} (h : g.xfs.lookup c = some fs) (q : X c (fs.zip l) S) : wx (fun S => match g.xfs.lookup c with
    | some fs => (.exc c (fs.zip l) S : Res α)
    | none => .bad) S X := wx_raise.mpr ⟨fs, h, q⟩
/-- one statement of a block -/
theorem wp_cons {g : G} {call : Nat → List D → M D} {s : St} {r : Ss} {ρ : Env} {Q : Flow → Sto → Prop} (P : Flow → Sto → Prop) (h : wp (ex g call s ρ) S P) (k : ∀ fl S', P fl S' → match fl with
    | .next ρ' => wp (exs g call r ρ') S' Q
    | fl => Q fl S') : wp (exs g call (.cons s r) ρ) S Q := by
  simp only [exs, wp_bind]
  refine wp_mono h fun fl S' q => ?_
  have := k fl S' q
  cases fl <;> exact this
/-- a suite hears of it -/
theorem wp_caught {c i : Nat} {ws : List Nat} {ρ : Env} {m : M Flow} {s : Env → M Flow} {Q : Flow → Sto → Prop} (h : wx m S fun c' fs S' => subX c' c = true ∧ wp (s ((wipeV ρ ws).set i (some (.ref S'.length)))) (S' ++ [.exn c' fs]) fun fl S'' => Q (fl.gone i) S'') : wp (caught c i ws ρ m s) S Q := by
  obtain ⟨c', fs, S', e, hc, q⟩ := wx_is.mp h
  unfold wp caught
  rw [e]
  dsimp only
  rw [if_pos hc]
  obtain ⟨fl, S2, e2, q2⟩ := wp_ok q
  unfold M.bind noExc
  rw [e2]
  exact q2
theorem wp_calm {c i : Nat} {ws : List Nat} {ρ : Env} {m : M Flow} {s : Env → M Flow} {Q : Flow → Sto → Prop} (h : wp m S Q) : wp (caught c i ws ρ m s) S Q := by
  obtain ⟨fl, S', e, q⟩ := wp_ok h
  unfold wp caught
  rw [e]
  exact q
theorem o_isx {r c : Nat} {fs : List (Nat × D)} {cs : List Nat} {P : D → Sto → Prop} (h : S[r]? = some (.exn c fs)) : wp (evOp (.isx cs) [.ref r]) S P ↔ P (.bl (cs.any (subX c))) S := by
  rw [wp_fun (r := .ok (.bl (cs.any (subX c))) S) (by show (match S[r]? with | some (.exn c _) => _ | _ => _) = _; rw [h])]
  exact Iff.rfl
end
end IR


namespace IR
section
variable {S : Sto} {P : D → Sto → Prop} {r : Nat}
@[simp] theorem o_isT {b : Bool} : wp (evOp .isT [.bl b]) S P ↔ P (.bl b) S := Iff.rfl
@[simp] theorem o_notT {b : Bool} : wp (evOp .notT [.bl b]) S P ↔ P (.bl (!b)) S := Iff.rfl
@[simp] theorem o_isF {b : Bool} : wp (evOp .isF [.bl b]) S P ↔ P (.bl (!b)) S := Iff.rfl
@[simp] theorem o_notF {b : Bool} : wp (evOp .notF [.bl b]) S P ↔ P (.bl b) S := Iff.rfl
@[simp] theorem o_revT {l : List D} : wp (evOp .revS [.tup l]) S P ↔ P (.tup l.reverse) S := Iff.rfl
end
theorem wp_lcRf {S : Sto} {f : D → M (Option D)} {r : Nat} {l : List D} {Q : List D → Sto → Prop} (o : D → Option D) (h : S[r]? = some (.lst l)) (hl : l.length ≤ LINE) (step : ∀ x ∈ l, ∀ Q' : Option D → Sto → Prop, Q' (o x) S → wp (f x) S Q') (q : Q (l.filterMap o) S) :
    ∀ (k i : Nat), l.length - i = k → i ≤ l.length → wp (lcRf f false r k i ((l.take i).filterMap o)) S Q
  | 0, i, hk, hi => by
    have e : i = l.length := by omega
    subst e
    refine wp_as' (m' := M.pure ((l.take l.length).filterMap o)) ?_ ?_
    · simp only [lcRf, h, Nat.le_refl, if_true]
      rfl
    · rw [List.take_length]; exact q
  | k + 1, i, hk, hi => by
    have hlt : i < l.length := by omega
    refine wp_as' (m' := (f l[i]).bind fun y => match y with
        | none => lcRf f false r k (i + 1) ((l.take i).filterMap o)
        | some y => if ((l.take i).filterMap o).length < LINE then lcRf f false r k (i + 1) (((l.take i).filterMap o) ++ [y]) else M.bad) ?_ ?_
    · simp only [lcRf, h, List.getElem?_eq_getElem hlt]
      rfl
    · rw [wp_bind]
      have ht : l.take (i + 1) = l.take i ++ [l[i]] := List.take_succ_eq_append_getElem hlt
      refine step l[i] (List.getElem_mem _) _ ?_
      have ih := wp_lcRf o h hl step q k (i + 1) (by omega) hlt
      rw [ht, List.filterMap_append] at ih
      cases ho : o l[i] with
      | none => simpa [ho] using ih
      | some y =>
        have hb : ((l.take i).filterMap o).length < LINE := Nat.lt_of_le_of_lt (List.length_filterMap_le _ _) (by rw [List.length_take]; omega)
        show wp (if ((l.take i).filterMap o).length < LINE then lcRf f false r k (i + 1) (((l.take i).filterMap o) ++ [y]) else M.bad) S Q
        rw [if_pos hb]
        simpa [ho] using ih
theorem wp_lcR {S : Sto} {f : D → M (Option D)} {r : Nat} {l : List D} {Q : List D → Sto → Prop} (o : D → Option D) (h : S[r]? = some (.lst l)) (hl : l.length ≤ LINE) (step : ∀ x ∈ l, ∀ Q' : Option D → Sto → Prop, Q' (o x) S → wp (f x) S Q') (q : Q (l.filterMap o) S) : wp (lcSrc f (.rf false r)) S Q := by
  refine wp_as' (m' := lcRf f false r l.length 0 []) ?_ (wp_lcRf o h hl step q _ 0 (by omega) (Nat.zero_le _))
  simp only [lcSrc, h]
/-- a comprehension over a list object that stays -/
theorem wp_lcRfI {f : D → M (Option D)} {en : Bool} {r : Nat} {l : List D} {Q : List D → Sto → Prop} (Inv : Nat → List D → Sto → Prop) (stay : ∀ i acc S, Inv i acc S → S[r]? = some (.lst l))
    (step : ∀ i d acc S, Inv i acc S → l[i]? = some d → acc.length < LINE ∧ wp (f (if en then .tup [.int i, d] else d)) S fun o S' => match o with
      | none => Inv (i + 1) acc S'
      | some y => Inv (i + 1) (acc ++ [y]) S') (fin : ∀ acc S, Inv l.length acc S → Q acc S) : ∀ (k i : Nat) (acc : List D) (S : Sto), l.length - i = k → i ≤ l.length → Inv i acc S → wp (lcRf f en r k i acc) S Q
  | 0, i, acc, S, hk, hi, h => by
    have e : i = l.length := by omega
    subst e
    refine wp_as' (m' := M.pure acc) ?_ (fin acc S h)
    simp only [lcRf, stay _ _ _ h, Nat.le_refl, if_true]
    rfl
  | k + 1, i, acc, S, hk, hi, h => by
    have hl : i < l.length := by omega
    obtain ⟨hL, hs⟩ := step i l[i] acc S h (List.getElem?_eq_getElem hl)
    refine wp_as' (m' := (f (if en then .tup [.int i, l[i]] else l[i])).bind fun o => match o with
        | none => lcRf f en r k (i + 1) acc
        | some y => if acc.length < LINE then lcRf f en r k (i + 1) (acc ++ [y]) else M.bad) ?_ ?_
    · simp only [lcRf, stay _ _ _ h, List.getElem?_eq_getElem hl]
      try rfl
    · rw [wp_bind]
      refine wp_mono hs fun o S' q => ?_
      cases o with
      | none => exact wp_lcRfI Inv stay step fin k (i + 1) acc S' (by omega) hl q
      | some y =>
        show wp (if acc.length < LINE then lcRf f en r k (i + 1) (acc ++ [y]) else M.bad) S' Q
        rw [if_pos hL]
        exact wp_lcRfI Inv stay step fin k (i + 1) (acc ++ [y]) S' (by omega) hl q
theorem wp_lcRI {S : Sto} {f : D → M (Option D)} {en : Bool} {r : Nat} {l : List D} {Q : List D → Sto → Prop} (Inv : Nat → List D → Sto → Prop) (h0 : Inv 0 [] S) (stay : ∀ i acc S, Inv i acc S → S[r]? = some (.lst l))
    (step : ∀ i d acc S, Inv i acc S → l[i]? = some d → acc.length < LINE ∧ wp (f (if en then .tup [.int i, d] else d)) S fun o S' => match o with
      | none => Inv (i + 1) acc S'
      | some y => Inv (i + 1) (acc ++ [y]) S') (fin : ∀ acc S, Inv l.length acc S → Q acc S) : wp (lcSrc f (.rf en r)) S Q := by
  refine wp_as' (m' := lcRf f en r l.length 0 []) ?_ (wp_lcRfI Inv stay step fin _ 0 [] S (by omega) (Nat.zero_le _) h0)
  simp only [lcSrc, stay _ _ _ h0]

theorem wp_lcRM {S : Sto} {f : D → M (Option D)} {r : Nat} {l : List D} {Q : List D → Sto → Prop} (o : D → D) (h : S[r]? = some (.lst l)) (hl : l.length ≤ LINE) (step : ∀ x ∈ l, ∀ Q' : Option D → Sto → Prop, Q' (some (o x)) S → wp (f x) S Q') (q : Q (l.map o) S) : wp (lcSrc f (.rf false r)) S Q := by
  refine wp_lcR (fun x => some (o x)) h hl step ?_
  have : (l.filterMap fun x => some (o x)) = l.map o := by induction l <;> simp_all
  rw [this]; exact q
theorem wp_lcRE {S : Sto} {f : D → M (Option D)} {r : Nat} {l : List D} {Q : List D → Sto → Prop} (h : S[r]? = some (.lst l)) (hl : l.length ≤ LINE) (step : ∀ x ∈ l, ∀ Q' : Option D → Sto → Prop, Q' none S → wp (f x) S Q') (q : Q [] S) : wp (lcSrc f (.rf false r)) S Q := by
  refine wp_lcR (fun x => none) h hl step ?_
  have : (l.filterMap fun _ => (none : Option D)) = [] := by induction l <;> simp_all
  rw [this]; exact q
end IR

namespace IR
/-- a well: three numbers in a list -/
def Well (S : Sto) (w : Nat) : Prop := ∃ a b c : Int, S[w]? = some (.lst [.int a, .int b, .int c])
/-- what stands stays, but for the well -/
def Fr (w : Nat) (S S' : Sto) : Prop := S.length ≤ S'.length ∧ ∀ (r : Nat) (o : MO), r ≠ w → S[r]? = some o → S'[r]? = some o
theorem Fr.refl (w : Nat) (S : Sto) : Fr w S S := ⟨Nat.le_refl _, fun _ _ _ h => h⟩
theorem Fr.trans {w : Nat} {S T U : Sto} (a : Fr w S T) (b : Fr w T U) : Fr w S U := ⟨Nat.le_trans a.1 b.1, fun r o h e => b.2 r o h (a.2 r o h e)⟩
theorem Fr.app (w : Nat) (S T : Sto) : Fr w S (S ++ T) := ⟨by simp, fun r o _ h => get_app h T⟩
theorem Well.app {S : Sto} {w : Nat} (h : Well S w) (T : Sto) : Well (S ++ T) w := let ⟨a, b, c, e⟩ := h; ⟨a, b, c, get_app e T⟩
theorem Well.lt {S : Sto} {w : Nat} (h : Well S w) : w < S.length := let ⟨_, _, _, e⟩ := h; (List.getElem?_eq_some_iff.mp e).1
theorem Fr.set {w : Nat} {S : Sto} {o : MO} : Fr w S (S.set w o) := ⟨by simp, fun r o' hr e => by rw [List.getElem?_set_ne (Ne.symm hr)]; exact e⟩
/-- a draw -/
theorem take_ok {n : Nat} {S : Sto} {w : Nat} {m : Int} {Q : D → Sto → Prop} (h : Well S w) (hm : 0 < m) (hm2 : m < B64) (q : ∀ d S', 0 ≤ d → d < m → Well S' w → Fr w S S' → Q (.int d) S') : wp (callD g0 (n + 1) 8 [.ref w, .int m]) S Q := by
  obtain ⟨a, b, c, hw⟩ := h
  have hl : w < S.length := (List.getElem?_eq_some_iff.mp hw).1
  have e0 := fun i => ixD_ref (i := i) hw
  have e1 := ixD_set hl
  have e2 := get_set hl
  refine wp_call (d := fn8) rfl rfl ?_
  show wp (exs g0 (callD g0 n) fn8.body [some (.ref w), some (.int m), none, none]) S _
  simp only [fn8, exs, ex, ev, evs, wp_bind, wp_getVar, wp_pure, ownIf_f, ownIf_t]
  simp [hw, e0, e1, e2, hm, hm2, List.set_set]
  split
  · exact q _ _ (Int.emod_nonneg _ (by omega)) (Int.emod_lt_of_pos _ hm) ⟨_, _, _, e2 _⟩ .set
  · have h1 := Int.emod_nonneg ((b + 7919 * (c + 1)) * 48271) (b := 2147483647) (by omega)
    have h2 := Int.emod_lt_of_pos ((b + 7919 * (c + 1)) * 48271) (b := 2147483647) (by omega)
    generalize (b + 7919 * (c + 1)) * 48271 % 2147483647 = z at h1 h2 ⊢
    refine ⟨?_, .inr (by decide), ?_, .inr (by decide), by decide, q _ _ (Int.emod_nonneg _ (by omega)) (Int.emod_lt_of_pos _ hm) ⟨_, _, _, e2 _⟩ .set⟩
    · simp only [B64]; omega
    · simp only [B64]; omega
theorem well_ok {n : Nat} {S : Sto} {ns : List Int} {k : Nat} {Q : D → Sto → Prop} (q : ∀ a b c : Int, Q (.tl [.int a, .int b, .int c]) S) : wp (callD g0 (n + 1) 12 [.scr ns, .int k]) S Q := by
  refine wp_call (d := fn12) rfl rfl ?_
  show wp (exs g0 (callD g0 n) fn12.body [some (.scr ns), some (.int k), none]) S _
  simp only [fn12, exs, ex, ev, evs, evIt, wp_bind, wp_getVar, wp_pure, ownIf_f, ownIf_t]
  by_cases h : k < ns.length
  · obtain ⟨d, hd, _⟩ := atD_lt (l := ns) (i := k) (by omega) (by omega)
    simp [h, hd]
    refine ⟨?_, .inl (by decide), q _ _ _⟩
    split <;> simp [B64]
  · simp [h]
    exact ⟨by decide, .inl (by decide), q _ _ _⟩
end IR

namespace IR
def Ss.tk : Nat → Ss → Ss
  | 0, _ => .nil
  | _ + 1, .nil => .nil
  | n + 1, .cons s r => .cons s (Ss.tk n r)
def Ss.dp : Nat → Ss → Ss
  | 0, s => s
  | _ + 1, .nil => .nil
  | n + 1, .cons _ r => Ss.dp n r
section
variable {n w : Nat} {S : Sto} {Q : D → Sto → Prop} {X : Nat → List (Nat × D) → Sto → Prop} {s a b : Txt}
theorem wp_split {g : G} {call : Nat → List D → M D} : ∀ (k : Nat) {b : Ss} {ρ : Env} {S : Sto} {Q : Flow → Sto → Prop}, wp (exs g call (b.tk k) ρ) S (fun fl S' => match fl with
    | .next ρ' => wp (exs g call (b.dp k) ρ') S' Q
    | fl => Q fl S') → wp (exs g call b ρ) S Q
  | 0, b, ρ, S, Q, h => by
    simp only [Ss.tk, exs, wp_pure, Ss.dp] at h
    exact h
  | k + 1, .nil, ρ, S, Q, h => by
    simp only [Ss.tk, exs, wp_pure, Ss.dp] at h
    exact h
  | k + 1, .cons s r, ρ, S, Q, h => by
    simp only [Ss.tk, exs, wp_bind, Ss.dp] at h ⊢
    refine wp_mono h fun fl S' q => ?_
    cases fl with
    | next ρ' => exact wp_split k q
    | cnt ρ' => exact q
    | brk ρ' => exact q
    | ret d => exact q
/-! ### rows above -/
theorem wx_split {g : G} {call : Nat → List D → M D} : ∀ (k : Nat) {b : Ss} {ρ : Env} {S : Sto} {X : Nat → List (Nat × D) → Sto → Prop}, wp (exs g call (b.tk k) ρ) S (fun fl S' => match fl with
    | .next ρ' => wx (exs g call (b.dp k) ρ') S' X
    | _ => False) → wx (exs g call b ρ) S X
  | 0, b, ρ, S, X, h => by
    simp only [Ss.tk, exs, wp_pure, Ss.dp] at h
    exact h
  | k + 1, .nil, ρ, S, X, h => by
    simp only [Ss.tk, exs, wp_pure, Ss.dp] at h
    exact h
  | k + 1, .cons s r, ρ, S, X, h => by
    simp only [Ss.tk, exs, wp_bind, Ss.dp] at h ⊢
    refine wx_r (wp_mono h fun fl S' q => ?_)
    cases fl with
    | next ρ' => exact wx_split k q
    | _ => exact False.elim q
theorem wp_slS' {S : Sto} {s : Txt} {a b : Option Int} {P : D → Sto → Prop} (h : s.length ≤ LINE) : wp (slM (.str s) a b) S P ↔ P (.str (cut s a b)) S := by
  rw [wp_fun (r := .ok (.str (cut s a b)) S) (by simp only [slM, slD, if_pos h])]; rfl
theorem cut_drop {α : Type} {l : List α} {m : Int} (h : 0 ≤ m) : cut l (some m) none = l.drop m.toNat := by
  unfold cut sIx
  simp only [if_pos h]
  by_cases e : m.toNat ≤ l.length
  · rw [show min m.toNat l.length = m.toNat by omega, List.take_of_length_le (by simp)]
  · rw [show min m.toNat l.length = l.length by omega, List.drop_eq_nil_of_le (Nat.le_refl _), List.drop_eq_nil_of_le (by omega)]
    simp
theorem cut_take {α : Type} {l : List α} {m : Int} (h0 : 0 ≤ m) : cut l none (some m) = l.take m.toNat := by
  unfold cut
  have e2 : sIx l.length l.length (some m) = min m.toNat l.length := by simp only [sIx, if_pos h0]
  rw [e2]
  simp [sIx, List.take_eq_take_iff]
def Ok (s : Txt) : Prop := ∀ c ∈ s, c < 1114112
theorem toP_ok {k : Nat} (h : Ok s) : toP S (k + 1) (.str s) = some (.str s) := by
  rw [toP.eq_def]
  have : s.all (fun c => decide (c < 1114112)) = true := by rw [List.all_eq_true]; intro c hc; simpa using h c hc
  simp only [this, if_true]
theorem eqD_ss (ha : Ok a) (hb : Ok b) : eqD S (.str a) (.str b) = some (a == b) := by
  unfold eqD
  rw [toP_ok (k := 19) ha, toP_ok (k := 19) hb]
  rfl
def neg (s : Txt) : Bool := s.take 1 == [45]
def figs (s : Txt) : Txt := if neg s then s.drop 1 else s
def numOk (s : Txt) : Bool := decide (1 ≤ (figs s).length) && decide ((figs s).length ≤ 12) && (figs s).all (fun c => decide (48 ≤ c ∧ c ≤ 57)) && !((figs s).take 1 == [48] && !(s == [48]))
theorem of_map' {α β : Type} {f : α → β} {l : List α} {pre post : List β} {x : β} (e : pre ++ x :: post = l.map f) : ∃ a, l[pre.length]? = some a ∧ f a = x ∧ pre.length < l.length := by
  have h1 : (l.map f)[pre.length]? = some x := by rw [← e]; simp
  rw [List.getElem?_map] at h1
  obtain ⟨a, h2, h3⟩ := Option.map_eq_some_iff.mp h1
  exact ⟨a, h2, h3, (List.getElem?_eq_some_iff.mp h2).1⟩
theorem lc_chars {f : D → IR.M (Option D)} {l : Txt} {g : Nat → Option D} {Q : List D → Sto → Prop} (hl : l.length ≤ 1000) (hf : ∀ c ∈ l, ∀ Q' : Option D → Sto → Prop, Q' (g c) S → wp (f (.str [c])) S Q') (q : Q (l.filterMap g) S) : wp (lcSt f (l.map fun c => .str [c]) []) S Q := by
  refine wp_lc (fun pre acc S' => S' = S ∧ acc = (l.take pre.length).filterMap g) ⟨rfl, by simp⟩ ?_ ?_
  · rintro pre x post acc S' ⟨rfl, rfl⟩ e
    obtain ⟨c, hc, hx, hcl⟩ := of_map' (f := fun c => D.str [c]) e
    subst hx
    have hb : ((l.take pre.length).filterMap g).length ≤ 1000 := Nat.le_trans (List.length_filterMap_le _ _) (by rw [List.length_take]; omega)
    refine ⟨by simp only [LINE]; omega, hf c (List.mem_of_getElem? hc) _ ?_⟩
    have ht : l.take (pre ++ [D.str [c]]).length = l.take pre.length ++ [c] := by rw [List.length_append, List.length_singleton, List.take_succ, hc]; rfl
    cases hg : g c with
    | none => exact ⟨rfl, by rw [ht, List.filterMap_append]; simp [hg]⟩
    | some d => exact ⟨rfl, by rw [ht, List.filterMap_append]; simp [hg]⟩
  · rintro acc S' ⟨rfl, rfl⟩
    rw [List.length_map, List.take_length]
    exact q
def dig (c : Nat) : Bool := decide (48 ≤ c ∧ c ≤ 57)
theorem inFig {c : Nat} : tx_781e5e.contains c = dig c := by
  have e : tx_781e5e = [48, 49, 50, 51, 52, 53, 54, 55, 56, 57] := rfl
  unfold dig
  rw [e, Bool.eq_iff_iff, List.contains_iff_mem, decide_eq_true_iff]
  simp only [List.mem_cons, List.not_mem_nil, or_false]
  omega
theorem inD_fig {c : Nat} : inD S (.str [c]) (.str tx_781e5e) = some (dig c) := by
  show some (tx_781e5e.contains c) = _
  rw [inFig]
theorem isBls : ∀ l : List Bool, (l.map D.bl).mapM D.isBl = some l
  | [] => rfl
  | c :: r => by rw [List.map_cons, List.mapM_cons, isBls r]; rfl
theorem fm_bl {l : Txt} : l.filterMap (fun c => some (D.bl (dig c))) = (l.map dig).map D.bl := by
  induction l with
  | nil => rfl
  | cons c r ih => rw [List.filterMap_cons, ih]; rfl
theorem ixD_first {l : Txt} (h : 1 ≤ l.length) (h2 : l.length ≤ LINE) : ixD S (.str l) (.int 0) = some (.str (l.take 1)) := by
  cases l with
  | nil => simp at h
  | cons c r =>
    show (if _ then _ else _) = _
    rw [if_pos h2]
    have : atD (c :: r) 0 = some c := by simp [atD]
    show ((some 0 : Option Int).bind fun j => Option.map (fun c => D.str [c]) (atD (c :: r) j)) = _
    simp [this]
theorem num_ok (h : Ok s) (hl : s.length ≤ 20) {i : Int} (hi : txtInt s = some i) (hok : numOk s = true) (q : Q (.int i) S) : wp (callD g0 (n + 1) 532 [.str s]) S Q := by
  have hL : s.length ≤ LINE := by simp only [LINE]; omega
  have et : eqD S (.str (cut s none (some 1))) (.str [45]) = some (neg s) := by rw [cut_take (by decide)]; exact eqD_ss (fun c hc => h c (List.mem_of_mem_take hc)) (by simp [Ok])
  refine wp_call (d := fn532) rfl rfl ?_
  show wp (exs g0 (callD g0 _) fn532.body [some (.str s), none, none]) _ _
  refine wp_split 3 ?_
  generalize hT : fn532.body.dp 3 = T
  simp only [fn532, Ss.tk, exs, ex, ev, evs, evIt, wp_bind, wp_getVar, wp_pure, ownIf_f, ownIf_t]
  try simp [-Bool.exists_bool, -List.contains_eq_mem, List.lookup, fPut, kindD, tyIs, wp_slS' hL, et]
  have fl1 : (figs s).length ≤ s.length := by unfold figs; split <;> simp
  have fL : (figs s).length ≤ LINE := by omega
  have fo : Ok (figs s) := fun c hc => h c (by unfold figs at hc; split at hc; exact List.mem_of_mem_drop hc; exact hc)
  have key : wp (exs g0 (callD g0 n) T [some (.str s), some (.str (figs s)), none]) S (fun fl S' => match fl with
      | .next _ => Q .non S'
      | .ret v => Q v S'
      | _ => False) := by
    unfold numOk at hok
    simp only [Bool.and_eq_true, decide_eq_true_eq] at hok
    obtain ⟨⟨⟨k1, k2⟩, k3⟩, k4⟩ := hok
    have k1' : (1 : Int) ≤ (figs s).length := by omega
    have k2' : ((figs s).length : Int) ≤ 12 := by omega
    have ln : lenD S (.str (figs s)) = some (figs s).length := by show (if _ then _ else _) = _; rw [if_pos fL]
    have e0 := ixD_first (S := S) k1 fL
    have e1 : eqD S (.str ((figs s).take 1)) (.str [48]) = some ((figs s).take 1 == [48]) := eqD_ss (fun c hc => fo c (List.mem_of_mem_take hc)) (by simp [Ok])
    have e2 : eqD S (.str s) (.str [48]) = some (s == [48]) := eqD_ss h (by simp [Ok])
    have ei : wp (evOp .int [.str s]) S Q ↔ Q (.int i) S := by
      rw [wp_fun (r := .ok (.int i) S) (by show (if s.length ≤ 20 then val1 ((txtInt s).map .int) S else .bad) = _; rw [if_pos hl, hi]; rfl)]; rfl
    rw [← hT]
    simp only [fn532, Ss.dp, exs, ex, ev, evs, evIt, wp_bind, wp_getVar, wp_pure, ownIf_f, ownIf_t]
    try simp [-Bool.exists_bool, -List.contains_eq_mem, List.lookup, fPut, ln, k1', k2']
    refine lc_chars (g := fun c => some (.bl (dig c))) (by omega) (fun c _ Q' q' => ?_) ?_
    · simp [-Bool.exists_bool, -List.contains_eq_mem, List.lookup, fPut, inD_fig]
      rw [inFig]
      exact q'
    · rw [fm_bl]
      have nf : ¬ false ∈ (figs s).map dig := fun hm => by
        obtain ⟨c, hc, e⟩ := List.mem_map.mp hm
        have := List.all_eq_true.mp k3 c hc
        unfold dig at e
        rw [e] at this
        cases this
      refine ⟨_, isBls _, ?_⟩
      rw [if_neg nf]
      try simp [-Bool.exists_bool, -List.contains_eq_mem, List.lookup, fPut, e0, e1, e2, ei]
      by_cases c1 : (figs s).take 1 = [48]
      · have c2 : s = [48] := by
          by_cases c2 : s = [48]
          · exact c2
          · exfalso
            simp [c1, c2] at k4
        rw [if_pos c1, if_pos c2]
        exact q
      · rw [if_neg c1, if_neg c1]
        exact q
  by_cases c : neg s = true
  · have e : figs s = cut s (some 1) none := by unfold figs; rw [if_pos c, cut_drop (by decide)]; rfl
    rw [if_pos c, ← e]
    exact key
  · have e : figs s = s := by unfold figs; rw [if_neg c]
    rw [e] at key
    rw [if_neg c]
    exact key
theorem raise21 {call : Nat → List D → IR.M D} {u : Txt} {ρ : Env} (q : X 21 [] S) : wx (exs g0 call (Ss.cons (St.raise 21 (Es.cons true (E.c (D.str u)) Es.nil)) Ss.nil) ρ) S X := by
  simp only [exs, ex, ev, evs, evIt]
  simp [-Bool.exists_bool, -List.contains_eq_mem, List.lookup, fPut, wx_bind]
  first | exact .inl (raised (g := g0) (fs := []) rfl q) | exact raised (g := g0) (fs := []) rfl q | exact .inl (.inl (raised (g := g0) (fs := []) rfl q))
theorem num_no (h : Ok s) (hl : s.length ≤ 20) (hok : numOk s = false) (q : X 21 [] S) : wx (callD g0 (n + 1) 532 [.str s]) S X := by
  have hL : s.length ≤ LINE := by simp only [LINE]; omega
  have et : eqD S (.str (cut s none (some 1))) (.str [45]) = some (neg s) := by rw [cut_take (by decide)]; exact eqD_ss (fun c hc => h c (List.mem_of_mem_take hc)) (by simp [Ok])
  have fl1 : (figs s).length ≤ s.length := by unfold figs; split <;> simp
  have fL : (figs s).length ≤ LINE := by omega
  have fo : Ok (figs s) := fun c hc => h c (by unfold figs at hc; split at hc; exact List.mem_of_mem_drop hc; exact hc)
  have ln : lenD S (.str (figs s)) = some (figs s).length := by show (if _ then _ else _) = _; rw [if_pos fL]
  refine wx_call (d := fn532) rfl rfl ?_
  show wx (exs g0 (callD g0 _) fn532.body [some (.str s), none, none]) _ _
  refine wx_split 3 ?_
  generalize hT : fn532.body.dp 3 = T
  simp only [fn532, Ss.tk, exs, ex, ev, evs, evIt, wp_bind, wp_getVar, wp_pure, ownIf_f, ownIf_t]
  try simp [-Bool.exists_bool, -List.contains_eq_mem, List.lookup, fPut, kindD, tyIs, wp_slS' hL, et]
  have key : wx (exs g0 (callD g0 n) T [some (.str s), some (.str (figs s)), none]) S X := by
    by_cases k12 : 1 ≤ (figs s).length ∧ (figs s).length ≤ 12
    · have k1' : (1 : Int) ≤ (figs s).length := by omega
      have k2' : ((figs s).length : Int) ≤ 12 := by omega
      by_cases k3 : (figs s).all dig = true
      · have e0 := ixD_first (S := S) k12.1 fL
        have e1 : eqD S (.str ((figs s).take 1)) (.str [48]) = some ((figs s).take 1 == [48]) := eqD_ss (fun c hc => fo c (List.mem_of_mem_take hc)) (by simp [Ok])
        have e2 : eqD S (.str s) (.str [48]) = some (s == [48]) := eqD_ss h (by simp [Ok])
        have k4 : (figs s).take 1 = [48] ∧ s ≠ [48] := by
          unfold numOk at hok
          have k3' : (figs s).all (fun c => decide (48 ≤ c ∧ c ≤ 57)) = true := k3
          rw [k3'] at hok
          simpa [k12.1, k12.2] using hok
        refine wx_split 1 ?_
        rw [← hT]
        simp only [fn532, Ss.dp, Ss.tk, exs, ex, ev, evs, evIt, wp_bind, wp_getVar, wp_pure, ownIf_f, ownIf_t]
        try simp [-Bool.exists_bool, -List.contains_eq_mem, List.lookup, fPut, ln, k1', k2']
        refine lc_chars (g := fun c => some (.bl (dig c))) (by omega) (fun c _ Q' q' => ?_) ?_
        · simp [-Bool.exists_bool, -List.contains_eq_mem, List.lookup, fPut, inD_fig]
          rw [inFig]
          exact q'
        · rw [fm_bl]
          have nf : ¬ false ∈ (figs s).map dig := fun hm => by
            obtain ⟨c, hc, e⟩ := List.mem_map.mp hm
            have := List.all_eq_true.mp k3 c hc
            rw [e] at this
            cases this
          refine ⟨_, isBls _, ?_⟩
          rw [if_neg nf]
          have e48 : eqD S (.str [48]) (.str [48]) = some true := eqD_ss (by simp [Ok]) (by simp [Ok])
          simp [-Bool.exists_bool, -List.contains_eq_mem, List.lookup, fPut, wx_bind, e0, e1, e2, e48, k4.1, k4.2]
          first | exact .inl (raised (g := g0) (fs := []) rfl q) | exact raised (g := g0) (fs := []) rfl q | exact .inl (.inl (raised (g := g0) (fs := []) rfl q))
      · rw [← hT]
        simp only [fn532, Ss.dp, exs]
        refine wx_l ?_
        simp only [ex, ev, evs, evIt]
        refine wx_r ?_
        simp only [wp_bind, wp_getVar, wp_pure, ownIf_f, ownIf_t]
        try simp [-Bool.exists_bool, -List.contains_eq_mem, List.lookup, fPut, ln, k1', k2']
        refine lc_chars (g := fun c => some (.bl (dig c))) (by omega) (fun c _ Q' q' => ?_) ?_
        · simp [-Bool.exists_bool, -List.contains_eq_mem, List.lookup, fPut, inD_fig]
          rw [inFig]
          exact q'
        · rw [fm_bl]
          have nf : false ∈ (figs s).map dig := by
            by_cases hm : false ∈ (figs s).map dig
            · exact hm
            · exfalso
              refine k3 (List.all_eq_true.mpr fun c hc => ?_)
              cases hd : dig c
              · exact absurd (List.mem_map.mpr ⟨c, hc, hd⟩) hm
              · rfl
          have hb : (!((figs s).map dig).all id) = true := by
            simp only [Bool.not_eq_true']
            rw [List.all_eq_false]
            exact ⟨false, nf, by simp⟩
          refine ⟨_, isBls _, ?_⟩
          rw [hb]
          refine wx_r ?_
          try simp [-Bool.exists_bool, -List.contains_eq_mem, List.lookup, fPut]
          exact raise21 q
    · rw [← hT]
      simp only [fn532, Ss.dp, exs]
      refine wx_l ?_
      simp only [ex, ev, evs, evIt]
      refine wx_r ?_
      simp only [wp_bind, wp_getVar, wp_pure, ownIf_f, ownIf_t]
      by_cases k1 : 1 ≤ (figs s).length
      · have k1' : (1 : Int) ≤ (figs s).length := by omega
        have k2' : ¬ ((figs s).length : Int) ≤ 12 := by omega
        try simp [-Bool.exists_bool, -List.contains_eq_mem, List.lookup, fPut, ln, k1', k2']
        refine wx_r ?_
        try simp [-Bool.exists_bool, -List.contains_eq_mem, List.lookup, fPut]
        exact raise21 q
      · have k1' : ¬ (1 : Int) ≤ (figs s).length := by omega
        try simp [-Bool.exists_bool, -List.contains_eq_mem, List.lookup, fPut, ln, k1']
        refine wx_r ?_
        try simp [-Bool.exists_bool, -List.contains_eq_mem, List.lookup, fPut]
        exact raise21 q
  by_cases c : neg s = true
  · have e : figs s = cut s (some 1) none := by unfold figs; rw [if_pos c, cut_drop (by decide)]; rfl
    rw [if_pos c, ← e]
    exact key
  · have e : figs s = s := by unfold figs; rw [if_neg c]
    rw [e] at key
    rw [if_neg c]
    exact key
/-- the number that the figures tell -/
def valN (l : Txt) : Nat := l.foldl (fun a c => a * 10 + (c - 48)) 0
def numI (s : Txt) : Int := if neg s then -(valN (figs s) : Int) else valN (figs s)
theorem txtNat_val {l : Txt} (h0 : l ≠ []) (h : l.all dig = true) : txtNat l = some (valN l) := by
  have go : ∀ (l : Txt) (a : Nat), l.all dig = true → l.foldl (fun (a : Option Nat) c => a.bind fun n => if 48 ≤ c ∧ c ≤ 57 then some (n * 10 + (c - 48)) else none) (some a) = some (l.foldl (fun a c => a * 10 + (c - 48)) a) := fun l => by
    induction l with
    | nil => intro a _; rfl
    | cons c r ih =>
      intro a h
      rw [List.all_cons, Bool.and_eq_true] at h
      have hc : 48 ≤ c ∧ c ≤ 57 := of_decide_eq_true h.1
      rw [List.foldl_cons, List.foldl_cons]
      simp only [Option.bind_some, hc, and_self, if_true]
      exact ih _ h.2
  cases l with
  | nil => exact absurd rfl h0
  | cons c r => exact go (c :: r) 0 h
theorem txtInt_val (h : numOk s = true) : txtInt s = some (numI s) := by
  unfold numOk at h
  simp only [Bool.and_eq_true, decide_eq_true_eq] at h
  obtain ⟨⟨⟨k1, k2⟩, k3⟩, k4⟩ := h
  have z := txtNat_val (l := figs s) (by intro e; rw [e] at k1; simp at k1) k3
  unfold numI
  cases s with
  | nil => simp [figs, neg] at k1
  | cons c r =>
    by_cases e : c = 45
    · subst e
      have hn : neg (45 :: r) = true := rfl
      have hf : figs (45 :: r) = r := rfl
      rw [hf] at z
      rw [hn, hf, if_pos rfl]
      show ((txtNat r).bind fun a => some (a : Int)).map _ = _
      rw [z]
      rfl
    · have hn : neg (c :: r) = false := by simp [neg, e]
      have hf : figs (c :: r) = c :: r := by unfold figs; rw [hn]; rfl
      rw [hf] at z
      rw [hn, hf]
      unfold txtInt
      split
      · rename_i heq; simp at heq; exact absurd heq.1 e
      · rw [z]; rfl
def numD (s : Txt) : D := if numOk s then .int (numI s) else .non
theorem fm_no {l : Txt} : l.filterMap (fun c => if dig c then none else some (D.str [c])) = (l.filter fun c => !dig c).map fun c => .str [c] := by
  induction l with
  | nil => rfl
  | cons c r ih =>
    rw [List.filterMap_cons, List.filter_cons, ih]
    cases dig c <;> rfl
theorem eqD_tlC {l : Txt} (h : Ok l) : eqD S (.tl (l.map fun c => .str [c])) (.tl []) = some l.isEmpty := by
  have e : ∀ l : Txt, Ok l → (l.map fun c => D.str [c]).mapM (toP S 19) = some (l.map fun c => IR.P.str [c]) := fun l => by
    induction l with
    | nil => intro _; rfl
    | cons c r ih =>
      intro h
      rw [List.map_cons, List.mapM_cons, ih fun x hx => h x (List.mem_cons_of_mem _ hx), toP_ok (k := 18) (fun x hx => h x (by simp only [List.mem_singleton] at hx; subst hx; simp))]
      rfl
  unfold eqD
  rw [toP_tl (n := 19), toP_tl (n := 19), e l h]
  cases l <;> rfl
theorem o_ixfig {c : Nat} {P : D → Sto → Prop} (h : dig c = true) : wp (evOp .indexS [.str tx_781e5e, .str [c]]) S P ↔ P (.int ((c - 48 : Nat) : Int)) S := by
  have hc : 48 ≤ c ∧ c ≤ 57 := of_decide_eq_true h
  have : c = 48 ∨ c = 49 ∨ c = 50 ∨ c = 51 ∨ c = 52 ∨ c = 53 ∨ c = 54 ∨ c = 55 ∨ c = 56 ∨ c = 57 := by omega
  rcases this with rfl | rfl | rfl | rfl | rfl | rfl | rfl | rfl | rfl | rfl <;> exact Iff.rfl
theorem valN_snoc {l : Txt} {c : Nat} : valN (l ++ [c]) = valN l * 10 + (c - 48) := by
  unfold valN
  rw [List.foldl_append]
  rfl
theorem loop_ok {call : Nat → List D → IR.M D} {l : Txt} {x0 x2 : Option D} (hl : l.length ≤ 30) (hd : l.all dig = true) {Q : Flow → Sto → Prop} (q : ∀ x2, Q (.next [x0, some (.str l), x2, some (.int (valN l))]) S) : wp (ex g0 call (.for_ (.over (.var 1)) (.var 2) (.cons (.asg (.var 3) (.op .add (.cons false (.op .mul (.cons false (.var 3) (.cons false (.c (.int 10)) .nil))) (.cons false (.bm .indexS (.c (.str tx_781e5e)) (.cons false (.var 2) .nil)) .nil)))) .nil)) [x0, some (.str l), x2, some (.int 0)]) S Q := by
  simp only [ex, exs, ev, evs, evIt, wp_bind, wp_getVar, wp_pure, ownIf_f, ownIf_t]
  try simp [-Bool.exists_bool, -List.contains_eq_mem, List.lookup, fPut]
  refine wp_for (fun pre ρ S' => S' = S ∧ ∃ x2, ρ = [x0, some (.str l), x2, some (.int (valN (l.take pre.length)))]) ⟨rfl, _, rfl⟩ ?_ ?_
  · rintro pre x post ρ S' ⟨rfl, x2, rfl⟩ e
    have hz := of_map' (f := fun c => D.str [c]) e
    revert e
    clear hz
    intro e
    have hlt : pre.length < l.length := by have := congrArg List.length e; simp at this; omega
    have hx0 : x = D.str [l[pre.length]] := by
      have h1 : (l.map fun c => D.str [c])[pre.length]? = some x := by rw [← e]; simp
      rw [List.getElem?_map, List.getElem?_eq_getElem hlt] at h1
      exact (Option.some.inj h1).symm
    have hz2 : l[pre.length]? = some l[pre.length] ∧ D.str [l[pre.length]] = x ∧ pre.length < l.length := ⟨List.getElem?_eq_getElem hlt, hx0.symm, hlt⟩
    generalize l[pre.length] = c at hz2
    have hc := hz2.1
    have hx := hz2.2.1
    have hcl := hz2.2.2
    rw [← hx]
    have hdc := List.all_eq_true.mp hd c (List.mem_of_getElem? hc)
    have ht : l.take (pre.length + 1) = l.take pre.length ++ [c] := by rw [List.take_succ, hc]; rfl
    have hv := valN_snoc (l := l.take pre.length) (c := c)
    rw [← ht] at hv
    generalize valN (l.take pre.length) = v at hv ⊢
    try simp [-Bool.exists_bool, -List.contains_eq_mem, List.lookup, fPut, o_ixfig hdc]
    refine ⟨.inr (by decide), ?_⟩
    rw [hv]
    simp
  · rintro ρ S' ⟨rfl, x2, rfl⟩
    rw [List.length_map, List.take_length]
    exact q _
theorem due_ok (h : Ok s) (hl : s.length ≤ 20) (q : Q (numD s) S) : wp (callD g0 (n + 1) 527 [.str s]) S Q := by
  have hL : s.length ≤ LINE := by simp only [LINE]; omega
  have et : eqD S (.str (cut s none (some 1))) (.str [45]) = some (neg s) := by rw [cut_take (by decide)]; exact eqD_ss (fun c hc => h c (List.mem_of_mem_take hc)) (by simp [Ok])
  have fl1 : (figs s).length ≤ s.length := by unfold figs; split <;> simp
  have fL : (figs s).length ≤ LINE := by omega
  have fo : Ok (figs s) := fun c hc => h c (by unfold figs at hc; split at hc; exact List.mem_of_mem_drop hc; exact hc)
  have ln : lenD S (.str (figs s)) = some (figs s).length := by show (if _ then _ else _) = _; rw [if_pos fL]
  have ec : cut s (some (if neg s = true then 1 else 0)) none = figs s := by
    unfold figs
    cases neg s with
    | true => rw [if_pos rfl, if_pos rfl, cut_drop (by decide)]; rfl
    | false => rw [if_neg (by simp), if_neg (by simp), cut_drop (by decide)]; rfl
  have ee : eqD S (.str (figs s)) (.str []) = some (figs s == []) := eqD_ss fo (by simp [Ok])
  refine wp_call (d := fn527) rfl rfl ?_
  show wp (exs g0 (callD g0 _) fn527.body [some (.str s), none, none, none]) _ _
  refine wp_split 2 ?_
  generalize hT : fn527.body.dp 2 = T
  simp only [fn527, Ss.tk, exs, ex, ev, evs, evIt, wp_bind, wp_getVar, wp_pure, ownIf_f, ownIf_t]
  try simp [-Bool.exists_bool, -List.contains_eq_mem, List.lookup, fPut, kindD, tyIs, wp_slS' hL, et, ec]
  have no : numOk s = false → Q .non S := fun e => by unfold numD at q; rw [e] at q; exact q
  rw [← hT]
  refine wp_split 1 ?_
  generalize hT2 : (fn527.body.dp 2).dp 1 = T2
  simp only [fn527, Ss.dp, Ss.tk, exs, ex, ev, evs, evIt, wp_bind, wp_getVar, wp_pure, ownIf_f, ownIf_t]
  by_cases k1 : figs s = []
  · have ee' : eqD S (.str (figs s)) (.str []) = some true := by rw [ee, k1]; rfl
    try simp [-Bool.exists_bool, -List.contains_eq_mem, List.lookup, fPut, ee']
    exact no (by unfold numOk; rw [k1]; rfl)
  · have ee' : eqD S (.str (figs s)) (.str []) = some false := by rw [ee]; simpa using k1
    have k1l : 1 ≤ (figs s).length := List.length_pos_iff.mpr k1
    by_cases k2 : (figs s).length ≤ 12
    · have k2' : ¬ (12 : Int) < (figs s).length := by omega
      try simp [-Bool.exists_bool, -List.contains_eq_mem, List.lookup, fPut, ee', ln, k2']
      refine lc_chars (g := fun c => if dig c then none else some (.str [c])) (by omega) (fun c _ Q' q' => ?_) ?_
      · simp [-Bool.exists_bool, -List.contains_eq_mem, List.lookup, fPut, inFig]
        cases hd : dig c with
        | true => rw [hd] at q'; exact q'
        | false => rw [hd] at q'; exact q'
      · rw [fm_no]
        have el := eqD_tlC (S := S) (l := (figs s).filter fun c => !dig c) (fun c hc => fo c (List.mem_filter.mp hc).1)
        refine ⟨_, el, ?_⟩
        cases k3 : ((figs s).filter fun c => !dig c).isEmpty with
        | false =>
          try simp [-Bool.exists_bool, -List.contains_eq_mem, List.lookup, fPut]
          refine no ?_
          have kk : (figs s).all dig = false := by
            cases ka : (figs s).all dig with
            | false => rfl
            | true =>
              exfalso
              have : (figs s).filter (fun c => !dig c) = [] := List.filter_eq_nil_iff.mpr fun c hc => by
                rw [List.all_eq_true.mp ka c hc]; simp
              rw [this] at k3
              cases k3
          have kk : (figs s).all (fun c => decide (48 ≤ c ∧ c ≤ 57)) = false := kk
          unfold numOk
          rw [kk]
          simp
        | true =>
          have k3' : (figs s).all dig = true := by
            rw [List.all_eq_true]
            intro c hc
            cases hd : dig c
            · have : c ∈ (figs s).filter fun c => !dig c := List.mem_filter.mpr ⟨hc, by rw [hd]; rfl⟩
              rw [List.isEmpty_iff.mp k3] at this
              cases this
            · rfl
          try simp [-Bool.exists_bool, -List.contains_eq_mem, List.lookup, fPut]
          have e0 := ixD_first (S := S) k1l fL
          have e1 : eqD S (.str ((figs s).take 1)) (.str [48]) = some ((figs s).take 1 == [48]) := eqD_ss (fun c hc => fo c (List.mem_of_mem_take hc)) (by simp [Ok])
          have e2 : eqD S (.str s) (.str [48]) = some (s == [48]) := eqD_ss h (by simp [Ok])
          rw [← hT2]
          refine wp_split 1 ?_
          generalize hT3 : ((fn527.body.dp 2).dp 1).dp 1 = T3
          simp only [fn527, Ss.dp, Ss.tk, exs, ex, ev, evs, evIt, wp_bind, wp_getVar, wp_pure, ownIf_f, ownIf_t]
          have key : numOk s = true → wp (exs g0 (callD g0 n) T3 [some (.str s), some (.str (figs s)), none, none]) S (fun fl S' => match fl with
              | .next _ => Q .non S'
              | .ret v => Q v S'
              | _ => False) := fun hok => by
            have q : Q (.int (numI s)) S := by unfold numD at q; rw [hok] at q; exact q
            rw [← hT3]
            refine wp_split 1 ?_
            generalize hT4 : (((fn527.body.dp 2).dp 1).dp 1).dp 1 = T4
            simp only [fn527, Ss.dp, Ss.tk, exs, ex, ev, evs, evIt, wp_bind, wp_getVar, wp_pure, ownIf_f, ownIf_t]
            try simp [-Bool.exists_bool, -List.contains_eq_mem, List.lookup, fPut]
            rw [← hT4]
            simp only [fn527, Ss.dp, exs, wp_bind]
            refine loop_ok (by omega) k3' fun x2 => ?_
            simp only [ex, ev, evs, evIt, wp_bind, wp_getVar, wp_pure, ownIf_f, ownIf_t]
            try simp [-Bool.exists_bool, -List.contains_eq_mem, List.lookup, fPut, wp_slS' hL, et]
            unfold numI at q
            cases hn : neg s with
            | true => rw [hn] at q; simp [-Bool.exists_bool, -List.contains_eq_mem, List.lookup, fPut]; exact q
            | false => rw [hn] at q; simp [-Bool.exists_bool, -List.contains_eq_mem, List.lookup, fPut]; exact q
          have nk : numOk s = !((figs s).take 1 == [48] && !(s == [48])) := by
            unfold numOk
            have k3'' : (figs s).all (fun c => decide (48 ≤ c ∧ c ≤ 57)) = true := k3'
            rw [k3'']
            simp [k1l, k2]
          try simp [-Bool.exists_bool, -List.contains_eq_mem, List.lookup, fPut, e0, e1, e2]
          by_cases z1 : (figs s).take 1 = [48]
          · rw [if_pos z1]
            by_cases z2 : s = [48]
            · rw [if_pos z2]
              exact key (by rw [nk]; simp [z2])
            · rw [if_neg z2]
              exact no (by rw [nk]; simp [z1, z2])
          · rw [if_neg z1, if_neg z1]
            exact key (by rw [nk]; simp [z1])
    · have k2' : (12 : Int) < (figs s).length := by omega
      try simp [-Bool.exists_bool, -List.contains_eq_mem, List.lookup, fPut, ee', ln, k2']
      refine no ?_
      unfold numOk
      simp [k2]
def dueD : Option Int → D
  | some i => .int i
  | none => .non
/-- a thing, as both read it -/
structure Thg (S : Sto) (d : D) (o : Option Int) : Prop where
  own : own d = IR.M.pure d
  due : ∀ T n Q, Q (dueD o) (S ++ T) → wp (callD g0 (n + 1) 527 [d]) (S ++ T) Q
  yes : ∀ i, o = some i → ∀ T n Q, Q (.int i) (S ++ T) → wp (callD g0 (n + 1) 532 [d]) (S ++ T) Q
  no : o = none → ∀ T n X, X 21 [] (S ++ T) → wx (callD g0 (n + 1) 532 [d]) (S ++ T) X
theorem is_no_ok {r : Nat} {fs : List (Nat × D)} (h : S[r]? = some (.exn 21 fs)) (q : Q (.bl true) S) : wp (callD g0 (n + 1) 528 [.ref r]) S Q := by
  refine wp_call (d := fn528) rfl rfl ?_
  show wp (exs g0 (callD g0 _) fn528.body [some (.ref r)]) _ _
  simp only [fn528, exs, ex, ev, evs, evIt, wp_bind, wp_getVar, wp_pure, ownIf_f, ownIf_t]
  try simp [-Bool.exists_bool, -List.contains_eq_mem, List.lookup, fPut, o_isx h, subX]
  exact q
theorem right_ok {d : D} {o : Option Int} (h : Thg S d o) (q : ∀ T, Q (.bl true) (S ++ T)) : wp (callD g0 (n + 2) 529 [d]) S Q := by
  have hs : S ++ [] = S := List.append_nil S
  have ho := h.own
  cases o with
  | none =>
    refine wp_call (d := fn529) rfl rfl ?_
    show wp (exs g0 (callD g0 _) fn529.body [some (d), none, none, none, none, none]) _ _
    refine wp_split 1 ?_
    generalize hT : fn529.body.dp 1 = T
    simp only [fn529, Ss.tk, exs, ex, ev, evs, evIt, wp_bind, wp_getVar, wp_pure, ownIf_f, ownIf_t]
    try simp [-Bool.exists_bool, -List.contains_eq_mem, List.lookup, fPut, ho]
    have z := h.due [] n
    rw [hs] at z
    refine z _ ?_
    try simp [-Bool.exists_bool, -List.contains_eq_mem, List.lookup, fPut, dueD]
    rw [← hT]
    simp only [fn529, Ss.dp, exs, ex, ev, evs, evIt, wp_bind, wp_getVar, wp_pure, ownIf_f, ownIf_t]
    try simp [-Bool.exists_bool, -List.contains_eq_mem, List.lookup, fPut]
    refine ⟨by decide, ?_⟩
    refine wp_for (fun pre ρ S' => (∃ x2 x3 x4 x5, ρ = [some d, some .non, x2, x3, x4, x5]) ∧ ∃ T, S' = S ++ T) ⟨⟨_, _, _, _, rfl⟩, [], hs.symm⟩ ?_ ?_
    · rintro pre x post ρ S' ⟨⟨x2, x3, x4, x5, rfl⟩, T, rfl⟩ e
      try simp [-Bool.exists_bool, -List.contains_eq_mem, List.lookup, fPut]
      refine wp_caught ?_
      simp [-Bool.exists_bool, -List.contains_eq_mem, List.lookup, fPut, wx_bind, ho]
      refine .inl (h.no rfl T n _ ⟨rfl, ?_⟩)
      have ge : (S ++ T ++ [MO.exn 21 []])[(S ++ T).length]? = some (.exn 21 []) := get_new
      have ge' : (S ++ (T ++ [MO.exn 21 []]))[S.length + T.length]? = some (.exn 21 []) := by simpa [List.append_assoc] using ge
      try simp [-Bool.exists_bool, -List.contains_eq_mem, List.lookup, fPut, wipeV, Flow.gone]
      refine is_no_ok ge' ?_
      try simp [-Bool.exists_bool, -List.contains_eq_mem, List.lookup, fPut]
      try exact ⟨_, rfl⟩
    · rintro ρ S' ⟨⟨x2, x3, x4, x5, rfl⟩, T, rfl⟩
      try simp [-Bool.exists_bool, -List.contains_eq_mem, List.lookup, fPut]
      exact q T
  | some i =>
    refine wp_call (d := fn529) rfl rfl ?_
    show wp (exs g0 (callD g0 _) fn529.body [some (d), none, none, none, none, none]) _ _
    refine wp_split 1 ?_
    generalize hT : fn529.body.dp 1 = T
    simp only [fn529, Ss.tk, exs, ex, ev, evs, evIt, wp_bind, wp_getVar, wp_pure, ownIf_f, ownIf_t]
    try simp [-Bool.exists_bool, -List.contains_eq_mem, List.lookup, fPut, ho]
    have z := h.due [] n
    rw [hs] at z
    refine z _ ?_
    try simp [-Bool.exists_bool, -List.contains_eq_mem, List.lookup, fPut, dueD]
    rw [← hT]
    simp only [fn529, Ss.dp, exs, ex, ev, evs, evIt, wp_bind, wp_getVar, wp_pure, ownIf_f, ownIf_t]
    try simp [-Bool.exists_bool, -List.contains_eq_mem, List.lookup, fPut]
    refine ⟨by decide, ?_⟩
    refine wp_for (fun pre ρ S' => (∃ x2 x3 x4 x5, ρ = [some d, some (.int i), x2, x3, x4, x5]) ∧ ∃ T, S' = S ++ T) ⟨⟨_, _, _, _, rfl⟩, [], hs.symm⟩ ?_ ?_
    · rintro pre x post ρ S' ⟨⟨x2, x3, x4, x5, rfl⟩, T, rfl⟩ e
      obtain ⟨rfl, hp⟩ := rg_at e
      try simp [-Bool.exists_bool, -List.contains_eq_mem, List.lookup, fPut]
      refine wp_calm ?_
      try simp [-Bool.exists_bool, -List.contains_eq_mem, List.lookup, fPut, ho]
      refine h.yes i rfl T n _ ?_
      have fin : ∃ T', S ++ T = S ++ T' := ⟨T, rfl⟩
      try simp [-Bool.exists_bool, -List.contains_eq_mem, List.lookup, fPut, ho]
      split
      · refine h.yes i rfl T n _ ?_
        try simp [-Bool.exists_bool, -List.contains_eq_mem, List.lookup, fPut, kindD, tyIs]
        try exact fin
      · first | exact fin | (simp [tyIs]; done) | (simp [tyIs]; exact fin)
    · rintro ρ S' ⟨⟨x2, x3, x4, x5, rfl⟩, T, rfl⟩
      try simp [-Bool.exists_bool, -List.contains_eq_mem, List.lookup, fPut]
      exact q T
theorem thg_str (h : Ok s) (hl : s.length ≤ 20) : Thg S (.str s) (if numOk s then some (numI s) else none) := by
  refine ⟨rfl, fun T n Q q => due_ok h hl ?_, fun i e T n Q q => ?_, fun e T n X q => ?_⟩
  · unfold numD
    cases hk : numOk s with
    | true => rw [hk] at q; exact q
    | false => rw [hk] at q; exact q
  · cases hk : numOk s with
    | true =>
      rw [hk, if_pos rfl] at e
      cases e
      exact num_ok h hl (txtInt_val hk) hk q
    | false => rw [hk] at e; cases e
  · cases hk : numOk s with
    | true => rw [hk] at e; cases e
    | false => exact num_no h hl hk q
theorem thg_not {d : D} (ho : own d = IR.M.pure d) (hk : ∀ T, ∃ k, kindD (S ++ T) d = some k ∧ k ≠ 3) : Thg S d none := by
  refine ⟨ho, fun T n Q q => ?_, fun i e => (nomatch e), fun _ T n X q => ?_⟩
  · obtain ⟨k, h1, h2⟩ := hk T
    refine wp_call (d := fn527) rfl rfl ?_
    show wp (exs g0 (callD g0 _) fn527.body [some (d), none, none, none]) _ _
    simp only [fn527, exs, ex, ev, evs, evIt, wp_bind, wp_getVar, wp_pure, ownIf_f, ownIf_t]
    try simp [-Bool.exists_bool, -List.contains_eq_mem, List.lookup, fPut, h1, tyIs, h2]
    exact q
  · obtain ⟨k, h1, h2⟩ := hk T
    refine wx_call (d := fn532) rfl rfl ?_
    show wx (exs g0 (callD g0 _) fn532.body [some (d), none, none]) _ _
    simp only [fn532, exs, ex, ev, evs, evIt, wp_bind, wp_getVar, wp_pure, ownIf_f, ownIf_t, wx_bind]
    simp [-Bool.exists_bool, -List.contains_eq_mem, List.lookup, fPut, wx_bind, h1, tyIs, h2]
    first | exact .inl (.inl (raised (g := g0) (fs := []) rfl q)) | exact .inl (raised (g := g0) (fs := []) rfl q)
theorem ixD_dig {k : Int} (h0 : 0 ≤ k) (h1 : k < 10) : ∃ c, dig c = true ∧ ixD S (.str tx_781e5e) (.int k) = some (.str [c]) := by
  have : k = 0 ∨ k = 1 ∨ k = 2 ∨ k = 3 ∨ k = 4 ∨ k = 5 ∨ k = 6 ∨ k = 7 ∨ k = 8 ∨ k = 9 := by omega
  rcases this with rfl | rfl | rfl | rfl | rfl | rfl | rfl | rfl | rfl | rfl <;> exact ⟨_, by decide, rfl⟩
theorem dig_ok {t : Txt} (h : t.all dig = true) : Ok t := fun c hc => by
  have : 48 ≤ c ∧ c ≤ 57 := of_decide_eq_true (List.all_eq_true.mp h c hc)
  omega
theorem numOk_pos {t : Txt} (h : t.all dig = true) (h1 : 1 ≤ t.length) (h2 : t.length ≤ 12) (h3 : t.take 1 = [48] → t = [48]) : numOk t = true := by
  have hn : neg t = false := by
    cases t with
    | nil => simp at h1
    | cons c r =>
      have : 48 ≤ c ∧ c ≤ 57 := of_decide_eq_true (List.all_eq_true.mp h c (by simp))
      have : c ≠ 45 := by omega
      simp [neg, this]
  have hf : figs t = t := by unfold figs; rw [hn]; rfl
  unfold numOk
  rw [hf]
  have h' : t.all (fun c => decide (48 ≤ c ∧ c ≤ 57)) = true := h
  rw [h']
  by_cases c : t.take 1 = [48]
  · have e := h3 c
    subst e
    rfl
  · simp [h1, h2, c]
theorem numOk_neg {t : Txt} (h : t.all dig = true) (h1 : 1 ≤ t.length) (h2 : t.length ≤ 12) (h3 : t.take 1 = [48] → t = [48]) (h4 : t ≠ [48]) : numOk (45 :: t) = true := by
  have hf : figs (45 :: t) = t := rfl
  unfold numOk
  rw [hf]
  have h' : t.all (fun c => decide (48 ≤ c ∧ c ≤ 57)) = true := h
  rw [h']
  have c : ¬ t.take 1 = [48] := fun e => h4 (h3 e)
  simp [h1, h2, c]
theorem text_ok (h : Well S w) (q : ∀ s S', numOk s = true → Ok s → s.length ≤ 13 → Well S' w → Fr w S S' → Q (.str s) S') : wp (callD g0 (n + 2) 530 [.ref w]) S Q := by
  refine wp_call (d := fn530) rfl rfl ?_
  show wp (exs g0 (callD g0 _) fn530.body [some (.ref w), none, none]) _ _
  refine wp_split 2 ?_
  generalize hT : fn530.body.dp 2 = T
  simp only [fn530, Ss.tk, exs, ex, ev, evs, evIt, wp_bind, wp_getVar, wp_pure, ownIf_f, ownIf_t]
  try simp [-Bool.exists_bool, -List.contains_eq_mem, List.lookup, fPut]
  refine take_ok h (by omega) (by decide) fun d S1 d0 d1 h1 f1 => ?_
  try simp [-Bool.exists_bool, -List.contains_eq_mem, List.lookup, fPut]
  refine ⟨by simp [rgOk, LINE]; omega, ?_⟩
  have hrl : (rg 0 (1 + d)).length = (1 + d).toNat := by simp [rg]
  refine wp_for (fun pre ρ S' => ∃ x2 t, ρ = [some (.ref w), some (.str t), x2] ∧ t.length = pre.length ∧ t.all dig = true ∧ Well S' w ∧ Fr w S S') ⟨_, [], rfl, rfl, rfl, h1, f1⟩ ?_ ?_
  · rintro pre x post ρ S2 ⟨x2, t, rfl, tl, td, h2, f2⟩ e
    obtain ⟨rfl, hp⟩ := rg_at e
    try simp [-Bool.exists_bool, -List.contains_eq_mem, List.lookup, fPut]
    refine take_ok h2 (by omega) (by decide) fun y S3 y0 y1 h3 f3 => ?_
    obtain ⟨c, hc, hix⟩ := ixD_dig (S := S3) y0 y1
    try simp [-Bool.exists_bool, -List.contains_eq_mem, List.lookup, fPut, hix]
    refine ⟨by simp only [LINE]; omega, ?_⟩
    have fin : ∃ x2 t', [some (D.ref w), some (.str (t ++ [c])), some (.int pre.length)] = [some (.ref w), some (.str t'), x2] ∧ t'.length = pre.length + 1 ∧ t'.all dig = true ∧ Well S3 w ∧ Fr w S S3 := ⟨_, _, rfl, by simp [tl], by rw [List.all_append, td]; simp [hc], h3, f2.trans f3⟩
    simpa using fin
  · rintro ρ S2 ⟨x2, t, rfl, tl, td, h2, f2⟩
    rw [hrl] at tl
    have tL : t.length ≤ LINE := by simp only [LINE]; omega
    have ln : lenD S2 (.str t) = some t.length := by show (if _ then _ else _) = _; rw [if_pos tL]
    have e0 := ixD_first (S := S2) (l := t) (by omega) tL
    have to := dig_ok td
    have e1 : eqD S2 (.str (t.take 1)) (.str [48]) = some (t.take 1 == [48]) := eqD_ss (fun c hc => to c (List.mem_of_mem_take hc)) (by simp [Ok])
    have last : ∀ t' : Txt, t'.all dig = true → 1 ≤ t'.length → t'.length ≤ 12 → (t'.take 1 = [48] → t' = [48]) → wp (exs g0 (callD g0 (n + 1)) (T.dp 1) [some (.ref w), some (.str t'), x2]) S2 fun fl S' => match fl with
        | .next _ => Q .non S'
        | .ret v => Q v S'
        | _ => False := fun t' a1 a2 a3 a4 => by
      have e2 : eqD S2 (.str t') (.str [48]) = some (t' == [48]) := eqD_ss (dig_ok a1) (by simp [Ok])
      rw [← hT]
      simp only [fn530, Ss.dp, exs, ex, ev, evs, evIt, wp_bind, wp_getVar, wp_pure, ownIf_f, ownIf_t]
      by_cases z : t' = [48]
      · subst z
        have e2 : eqD S2 (.str [48]) (.str [48]) = some true := e2
        try simp [-Bool.exists_bool, -List.contains_eq_mem, List.lookup, fPut, e2]
        exact q _ _ rfl (by simp [Ok]) (by simp) h2 f2
      · have ez : (t' == [48]) = false := by simpa using z
        rw [ez] at e2
        try simp [-Bool.exists_bool, -List.contains_eq_mem, List.lookup, fPut, e2]
        refine take_ok h2 (by omega) (by decide) fun y S3 y0 y1 h3 f3 => ?_
        by_cases z2 : y = 1
        · simp [-Bool.exists_bool, -List.contains_eq_mem, List.lookup, fPut, z2]
          refine ⟨by simp only [LINE]; omega, q _ _ (numOk_neg a1 a2 a3 a4 z) (fun c hc => ?_) (by simp; omega) h3 (f2.trans f3)⟩
          rcases List.mem_cons.mp hc with rfl | hc
          · omega
          · exact dig_ok a1 c hc
        · simp [-Bool.exists_bool, -List.contains_eq_mem, List.lookup, fPut, z2]
          exact q _ _ (numOk_pos a1 a2 a3 a4) (dig_ok a1) (by omega) h3 (f2.trans f3)
    try simp [-Bool.exists_bool, -List.contains_eq_mem, List.lookup, fPut]
    rw [← hT]
    refine wp_split 1 ?_
    generalize hT2 : (fn530.body.dp 2).dp 1 = T2
    simp only [fn530, Ss.dp, Ss.tk, exs, ex, ev, evs, evIt, wp_bind, wp_getVar, wp_pure, ownIf_f, ownIf_t]
    rw [← hT, hT2] at last
    by_cases z1 : 1 < t.length
    · have z1' : (1 : Int) < t.length := by omega
      by_cases z2 : t.take 1 = [48]
      · rw [z2] at e0 e1
        have e1 : eqD S2 (.str [48]) (.str [48]) = some true := e1
        try simp [-Bool.exists_bool, -List.contains_eq_mem, List.lookup, fPut, ln, z1', z1, e0, e1, wp_slS' tL, cut_drop (α := Nat) (m := 1) (by decide)]
        have a := last (55 :: t.drop 1) (by
          rw [List.all_cons]
          simp only [Bool.and_eq_true]
          exact ⟨by decide, List.all_eq_true.mpr fun c hc => List.all_eq_true.mp td c (List.mem_of_mem_drop hc)⟩) (by simp) (by simp; omega) (fun z => by simp at z)
        rw [List.drop_one] at a
        exact ⟨by simp only [LINE]; omega, a⟩
      · have e1 : eqD S2 (.str (t.take 1)) (.str [48]) = some false := by rw [e1]; simpa using z2
        have a := last t td (by omega) (by omega) (fun z => absurd z z2)
        try simp [-Bool.exists_bool, -List.contains_eq_mem, List.lookup, fPut, ln, z1', z1, e0, e1]
        exact a
    · have z1' : ¬ (1 : Int) < t.length := by omega
      have a := last t td (by omega) (by omega) (fun z => by
        match t, z, z1 with
        | [c], z, _ => simpa using z
        | [], z, _ => simp at z
        | _ :: _ :: _, _, z1 => simp at z1)
      try simp [-Bool.exists_bool, -List.contains_eq_mem, List.lookup, fPut, ln, z1', z1]
      exact a
theorem o_mulS {s : Txt} {k : Int} (h : (1 ≤ k ∧ k ≤ 1000) ∧ s.length ≤ 1000) : wp (evOp .mulS [.str s, .int k]) S R ↔ R (.str (List.replicate k.toNat s).flatten) S := by
  rw [wp_fun (r := .ok (.str (List.replicate k.toNat s).flatten) S) (by show (if _ then _ else _) = _; rw [if_pos h])]; rfl
theorem cut_in {x y : Option Int} {c : Nat} (h : c ∈ cut s x y) : c ∈ s := List.mem_of_mem_drop (List.mem_of_mem_take h)
theorem cut_one {a : Int} (h : 0 ≤ a) : (cut s (some a) (some (a + 1))).length ≤ 1 := by
  unfold cut
  rw [List.length_take]
  have e1 : sIx s.length s.length (some (a + 1)) = min (a + 1).toNat s.length := by simp only [sIx, if_pos (show 0 ≤ a + 1 by omega)]
  have e2 : sIx s.length 0 (some a) = min a.toNat s.length := by simp only [sIx, if_pos h]
  rw [e1, e2]
  omega
theorem bent_ok (h : Well S w) (ho : Ok s) (hl : s.length ≤ 18) (q : ∀ s' S', Ok s' → s'.length ≤ s.length + 2 → Well S' w → Fr w S S' → Q (.str s') S') : wp (callD g0 (n + 2) 526 [.ref w, .str s]) S Q := by
  have hL : s.length ≤ LINE := by simp only [LINE]; omega
  have ln : ∀ S, lenD S (.str s) = some s.length := fun S => by show (if _ then _ else _) = _; rw [if_pos hL]
  refine wp_call (d := fn526) rfl rfl ?_
  show wp (exs g0 (callD g0 _) fn526.body [some (.ref w), some (.str s), none, none, none]) _ _
  refine wp_split 3 ?_
  generalize hT : fn526.body.dp 3 = T
  simp only [fn526, Ss.tk, exs, ex, ev, evs, evIt, wp_bind, wp_getVar, wp_pure, ownIf_f, ownIf_t]
  try simp [-Bool.exists_bool, -List.contains_eq_mem, List.lookup, fPut]
  refine take_ok h (by omega) (by decide) fun d S1 d0 d1 h1 f1 => ?_
  obtain ⟨g, hg, go, gl⟩ : ∃ g : Txt, atD [D.str [48], D.str [49], D.str [45], D.str [43], D.str [32], D.str [46], D.str [97], D.str [10], D.str [95], D.str [101], D.str [45, 45], D.str [48, 48]] d = some (.str g) ∧ Ok g ∧ g.length ≤ 2 := by
    have : d = 0 ∨ d = 1 ∨ d = 2 ∨ d = 3 ∨ d = 4 ∨ d = 5 ∨ d = 6 ∨ d = 7 ∨ d = 8 ∨ d = 9 ∨ d = 10 ∨ d = 11 := by omega
    rcases this with rfl | rfl | rfl | rfl | rfl | rfl | rfl | rfl | rfl | rfl | rfl | rfl <;> exact ⟨_, rfl, by simp [Ok], by simp⟩
  try simp [-Bool.exists_bool, -List.contains_eq_mem, List.lookup, fPut, hg, ln]
  refine take_ok h1 (by omega) (by simp only [B64]; omega) fun a S2 a0 a1 h2 f2 => ?_
  try simp [-Bool.exists_bool, -List.contains_eq_mem, List.lookup, fPut]
  refine take_ok h2 (by omega) (by decide) fun y S3 y0 y1 h3 f3 => ?_
  try simp [-Bool.exists_bool, -List.contains_eq_mem, List.lookup, fPut]
  rw [← hT]
  simp only [fn526, Ss.dp, exs, ex, ev, evs, evIt, wp_bind, wp_getVar, wp_pure, ownIf_f, ownIf_t]
  have q := fun s' a b => q s' S3 a b h3 ((f1.trans f2).trans f3)
  have t1 := cut_take (l := s) a0
  have t2 := cut_drop (l := s) a0
  have t3 := cut_drop (l := s) (m := a + 1) (by omega)
  have t4 := cut_one (s := s) a0
  have c1 := congrArg List.length t1
  have c2 := congrArg List.length t2
  have c3 := congrArg List.length t3
  rw [List.length_take] at c1
  rw [List.length_drop] at c2 c3
  by_cases z0 : y = 0
  · simp [-Bool.exists_bool, -List.contains_eq_mem, List.lookup, fPut, z0, wp_slS' hL]
    refine ⟨by simp only [LINE]; omega, by simp only [LINE]; omega, q _ (fun c hc => ?_) (by simp only [List.length_append]; omega)⟩
    simp only [List.mem_append] at hc
    rcases hc with hc | hc | hc <;> first | exact ho c (cut_in hc) | exact go c hc
  · by_cases z1 : y = 1
    · simp [-Bool.exists_bool, -List.contains_eq_mem, List.lookup, fPut, z0, z1, wp_slS' hL]
      refine ⟨by simp only [LINE]; omega, q _ (fun c hc => ?_) (by simp only [List.length_append]; omega)⟩
      simp only [List.mem_append] at hc
      rcases hc with hc | hc <;> first | exact ho c (cut_in hc) | exact go c hc
    · by_cases z2 : y = 2
      · simp [-Bool.exists_bool, -List.contains_eq_mem, List.lookup, fPut, z0, z1, z2, wp_slS' hL]
        refine ⟨by simp only [LINE]; omega, by simp only [LINE]; omega, q _ (fun c hc => ?_) (by simp only [List.length_append]; omega)⟩
        simp only [List.mem_append] at hc
        rcases hc with hc | hc | hc <;> first | exact ho c (cut_in hc) | exact go c hc
      · simp [-Bool.exists_bool, -List.contains_eq_mem, List.lookup, fPut, z0, z1, z2, wp_slS' hL]
        refine ⟨by simp only [LINE]; omega, by simp only [LINE]; omega, q _ (fun c hc => ?_) (by simp only [List.length_append]; omega)⟩
        simp only [List.mem_append] at hc
        rcases hc with hc | hc | hc <;> first | exact ho c (cut_in hc) | exact go c hc
end
def Item (r : Nat) (d : D) : Prop := (∃ s, d = .str s ∧ Ok s ∧ s.length ≤ 17) ∨ d = .non ∨ d = .int 1 ∨ d = .bl true ∨ d = .tup [] ∨ d = .tup [.str [49]] ∨ d = .ref r
/-- the things so far -/
structure Th (S : Sto) (w r a m : Nat) : Prop where
  h : Well S w
  nr : r ≠ w
  na : a ≠ w
  hr : S[r]? = some (.lst [.str [49]])
  ha : ∃ l, S[a]? = some (.lst l) ∧ l.length ≤ m ∧ ∀ d ∈ l, Item r d
theorem Th.app {S : Sto} {w r a m : Nat} (t : Th S w r a m) (T : Sto) : Th (S ++ T) w r a m := ⟨t.h.app _, t.nr, t.na, get_app t.hr _, let ⟨l, x, y, z⟩ := t.ha; ⟨l, get_app x _, y, z⟩⟩
theorem Item.thg {S : Sto} {r : Nat} {d : D} (h : Item r d) (hr : S[r]? = some (.lst [.str [49]])) : ∃ o, Thg S d o := by
  rcases h with ⟨s, rfl, h1, h2⟩ | rfl | rfl | rfl | rfl | rfl | rfl
  · exact ⟨_, thg_str h1 (by omega)⟩
  · exact ⟨_, thg_not rfl fun T => ⟨0, rfl, by decide⟩⟩
  · exact ⟨_, thg_not rfl fun T => ⟨2, rfl, by decide⟩⟩
  · exact ⟨_, thg_not rfl fun T => ⟨1, rfl, by decide⟩⟩
  · exact ⟨_, thg_not rfl fun T => ⟨4, rfl, by decide⟩⟩
  · exact ⟨_, thg_not rfl fun T => ⟨4, rfl, by decide⟩⟩
  · exact ⟨_, thg_not rfl fun T => ⟨5, by show (match (S ++ T)[r]? with | some (.lst _) => some 5 | _ => none) = _; rw [get_app hr], by decide⟩⟩
theorem holds (ns : List Int) (hn : ns.length ≤ 63) : ∃ S, callD g0 40 531 [.scr ns] [] = .ok (.bl true) S := by
  suffices h : wp (callD g0 40 531 [.scr ns]) [] fun d _ => d = .bl true by
    obtain ⟨a, S, h1, rfl⟩ := wp_ok h
    exact ⟨S, h1⟩
  refine wp_call (d := fn531) rfl rfl ?_
  show wp (exs g0 (callD g0 _) fn531.body [some (.scr ns), none, none, none, none, none, none]) _ _
  simp only [fn531, exs, ex, ev, evs, evIt, wp_bind, wp_getVar, wp_pure, ownIf_f, ownIf_t]
  try simp [-Bool.exists_bool, -List.contains_eq_mem, List.lookup, fPut, lenD]
  generalize hK : (if (if (12 : Int) < ns.length then (12 : Int) else ns.length) > 1 then (if (12 : Int) < ns.length then (12 : Int) else ns.length) else 1) = K
  have hK8 : 1 ≤ K ∧ K ≤ 12 := by rw [← hK]; split <;> split <;> omega
  refine ⟨by simp [rgOk, LINE]; omega, ?_⟩
  refine wp_for (fun pre ρ S' => ∃ x1 x2 x3 x4 x5 x6, ρ = [some (.scr ns), x1, x2, x3, x4, x5, x6]) ⟨_, _, _, _, _, _, rfl⟩ ?_ ?_
  · rintro pre x post ρ S1 ⟨x1, x2, x3, x4, x5, x6, rfl⟩ e
    obtain ⟨rfl, hp⟩ := rg_at e
    try simp [-Bool.exists_bool, -List.contains_eq_mem, List.lookup, fPut]
    refine well_ok fun a b c => ?_
    try simp [-Bool.exists_bool, -List.contains_eq_mem, List.lookup, fPut]
    have h2 : Well (S1 ++ [.lst [.int a, .int b, .int c]]) S1.length := ⟨a, b, c, get_new⟩
    generalize S1 ++ [MO.lst [.int a, .int b, .int c]] = S2 at h2 ⊢
    generalize S1.length = w at h2 ⊢
    try simp [-Bool.exists_bool, -List.contains_eq_mem, List.lookup, fPut, o_mulS]
    refine ⟨by decide, by decide, by decide, ?_⟩
    have T0 : Th (S2 ++ [.lst [.str [], .str [48], .str [45, 48], .str [45], .str [48, 48], .str [43, 49], .str [49, 49, 49, 49, 49, 49, 49, 49, 49, 49, 49, 49], .str [45, 57, 57, 57, 57, 57, 57, 57, 57, 57, 57, 57, 57], .str [49, 49, 49, 49, 49, 49, 49, 49, 49, 49, 49, 49, 49], .str [32, 49], .str [49, 32], .str [48, 120, 49], .str [49, 46, 48]], .lst [.str [49]], .lst [.str [], .str [48], .str [45, 48], .str [45], .str [48, 48], .str [43, 49], .str [49, 49, 49, 49, 49, 49, 49, 49, 49, 49, 49, 49], .str [45, 57, 57, 57, 57, 57, 57, 57, 57, 57, 57, 57, 57], .str [49, 49, 49, 49, 49, 49, 49, 49, 49, 49, 49, 49, 49], .str [32, 49], .str [49, 32], .str [48, 120, 49], .str [49, 46, 48], .non, .int 1, .bl true, .tup [], .ref (S2.length + 1), .tup [.str [49]], .str [111, 110, 101], .str [49, 10], .str [45, 32, 49], .str [45, 48, 49], .str [45, 45, 49], .str [49, 45]]]) w (S2.length + 1) (S2.length + 2) 25 := by
      have hw := h2.lt
      refine ⟨h2.app _, by omega, by omega, by simp, _, by rw [List.getElem?_append_right (by omega), show S2.length + 2 - S2.length = 2 by omega]; rfl, by simp, fun d hd => ?_⟩
      have st : ∀ s : Txt, s.all (fun c => decide (c < 1114112)) = true → s.length ≤ 17 → Item (S2.length + 1) (.str s) := fun s a b => .inl ⟨s, rfl, fun c hc => of_decide_eq_true (List.all_eq_true.mp a c hc), b⟩
      simp only [List.mem_cons, List.not_mem_nil, or_false] at hd
      rcases hd with rfl | rfl | rfl | rfl | rfl | rfl | rfl | rfl | rfl | rfl | rfl | rfl | rfl | rfl | rfl | rfl | rfl | rfl | rfl | rfl | rfl | rfl | rfl | rfl | rfl
      all_goals first | exact st _ (by decide) (by decide) | (unfold Item; simp)
    generalize S2 ++ [MO.lst [D.str [], .str [48], .str [45, 48], .str [45], .str [48, 48], .str [43, 49], .str [49, 49, 49, 49, 49, 49, 49, 49, 49, 49, 49, 49], .str [45, 57, 57, 57, 57, 57, 57, 57, 57, 57, 57, 57, 57], .str [49, 49, 49, 49, 49, 49, 49, 49, 49, 49, 49, 49, 49], .str [32, 49], .str [49, 32], .str [48, 120, 49], .str [49, 46, 48]], .lst [.str [49]], .lst [.str [], .str [48], .str [45, 48], .str [45], .str [48, 48], .str [43, 49], .str [49, 49, 49, 49, 49, 49, 49, 49, 49, 49, 49, 49], .str [45, 57, 57, 57, 57, 57, 57, 57, 57, 57, 57, 57, 57], .str [49, 49, 49, 49, 49, 49, 49, 49, 49, 49, 49, 49, 49], .str [32, 49], .str [49, 32], .str [48, 120, 49], .str [49, 46, 48], .non, .int 1, .bl true, .tup [], .ref (S2.length + 1), .tup [.str [49]], .str [111, 110, 101], .str [49, 10], .str [45, 32, 49], .str [45, 48, 49], .str [45, 45, 49], .str [49, 45]]] = S3 at T0 ⊢
    generalize S2.length + 1 = r at T0
    generalize S2.length + 2 = a at T0 ⊢
    refine wp_for (fun pre2 ρ S' => ∃ a x4 x5 x6, ρ = [some (.scr ns), some (.int pre.length), some (.ref w), some (.ref a), x4, x5, x6] ∧ Th S' w r a (25 + 3 * pre2.length)) ⟨_, _, _, _, rfl, T0⟩ ?_ ?_
    · rintro pre2 x post2 ρ S4 ⟨a, x4, x5, x6, rfl, ⟨h4, nr, na, hr4, l, hl4, ll4, hi4⟩⟩ e2
      obtain ⟨rfl, hp2⟩ := rg_at e2
      try simp [-Bool.exists_bool, -List.contains_eq_mem, List.lookup, fPut]
      refine text_ok h4 fun s S5 so sO sl h5 f5 => ?_
      have eD : numD s = .int (numI s) := by unfold numD; rw [so]; rfl
      try simp [-Bool.exists_bool, -List.contains_eq_mem, List.lookup, fPut]
      refine due_ok sO (by omega) ?_
      rw [eD]
      try simp [-Bool.exists_bool, -List.contains_eq_mem, List.lookup, fPut]
      refine bent_ok h5 sO (by omega) fun s1 S6 sO1 sl1 h6 f6 => ?_
      try simp [-Bool.exists_bool, -List.contains_eq_mem, List.lookup, fPut]
      refine bent_ok h6 sO (by omega) fun s2 S7 sO2 sl2 h7 f7 => ?_
      try simp [-Bool.exists_bool, -List.contains_eq_mem, List.lookup, fPut]
      refine bent_ok h7 sO2 (by omega) fun s3 S8 sO3 sl3 h8 f8 => ?_
      have ff := ((f5.trans f6).trans f7).trans f8
      have hl8 := ff.2 a _ na hl4
      have hr8 := ff.2 r _ nr hr4
      try simp [-Bool.exists_bool, -List.contains_eq_mem, List.lookup, fPut, hl8]
      have hw8 := h8.lt
      have fin : Th (S8 ++ [MO.lst (l ++ [D.str s, D.str s1, D.str s3])]) w r S8.length (25 + 3 * (pre2.length + 1)) := by
        refine ⟨h8.app _, nr, by omega, get_app hr8 _, _, get_new, by simp; omega, fun d hd => ?_⟩
        rcases List.mem_append.mp hd with hd | hd
        · exact hi4 d hd
        · simp only [List.mem_cons, List.not_mem_nil, or_false] at hd
          rcases hd with rfl | rfl | rfl
          · exact .inl ⟨_, rfl, sO, by omega⟩
          · exact .inl ⟨_, rfl, sO1, by omega⟩
          · exact .inl ⟨_, rfl, sO3, by omega⟩
      exact ⟨by simp only [LINE]; omega, fin⟩
    · rintro ρ S4 ⟨a, x4, x5, x6, rfl, t4⟩
      obtain ⟨h4, nr, na, hr4, l, hl4, ll4, hi4⟩ := t4
      have erg6 : (rg 0 6).length = 6 := rfl
      rw [erg6] at ll4
      try simp [-Bool.exists_bool, -List.contains_eq_mem, List.lookup, fPut]
      refine ⟨⟨l, hl4⟩, ?_⟩
      have base : (∃ x6', [some (D.scr ns), some (.int pre.length), some (.ref w), some (.ref a), x4, x5, x6] = [some (.scr ns), some (.int pre.length), some (.ref w), some (.ref a), x4, x5, x6']) ∧ ∃ T, S4 = S4 ++ T := ⟨⟨_, rfl⟩, [], (List.append_nil S4).symm⟩
      refine wp_forR (l := l) (fun i ρ S' => (∃ x6, ρ = [some (.scr ns), some (.int pre.length), some (.ref w), some (.ref a), x4, x5, x6]) ∧ ∃ T, S' = S4 ++ T) base (fun i ρ S' z => ?_) ?_ ?_
      · obtain ⟨_, T, rfl⟩ := z
        exact get_app hl4 _
      · rintro i d ρ S' ⟨⟨x6, rfl⟩, T, rfl⟩ hd
        have it := hi4 d (List.mem_of_getElem? hd)
        obtain ⟨o, th⟩ := it.thg (get_app hr4 T)
        have ow := th.own
        try simp [-Bool.exists_bool, -List.contains_eq_mem, List.lookup, fPut, ow]
        refine right_ok (n := 37) th fun T' => ?_
        try simp [-Bool.exists_bool, -List.contains_eq_mem, List.lookup, fPut]
        try first | exact ⟨⟨_, rfl⟩, T ++ T', List.append_assoc _ _ _⟩ | exact ⟨T ++ T', List.append_assoc _ _ _⟩ | exact ⟨_, rfl⟩
      · rintro ρ S' ⟨⟨x6, rfl⟩, T, rfl⟩
        try simp [-Bool.exists_bool, -List.contains_eq_mem, List.lookup, fPut]
        try exact ⟨_, _, _, _, _, _, rfl⟩
  · rintro ρ S1 ⟨x1, x2, x3, x4, x5, x6, rfl⟩
    try simp [-Bool.exists_bool, -List.contains_eq_mem, List.lookup, fPut]
end IR

open PySem PySem.W PySem.Calls PyProof.Rows
theorem PySem.Challenge.cw_laglist_k80_numbers_as_texts_holds : PySem.Challenge.rw_laglist_k80_numbers_as_texts.Holds := by
  w_on; o_law
  refine HandSHeadRun.head_any (r := OpenLaw.row PySem.Challenge.rw_laglist_k80_numbers_as_texts) (q := view (OpenLaw.row PySem.Challenge.rw_laglist_k80_numbers_as_texts).prog [28]) (H := LW.hk) (ob := LW.ob) (M := 8040) (loose := LW.names) (d := HandSHeadRun.topDef (OpenLaw.row PySem.Challenge.rw_laglist_k80_numbers_as_texts).prog 28) (kwd := []) LW.ob_eq
    (by kernel_rfl) (fun s => by kernel_rfl) LW.run (by kernel_rfl) (by kernel_rfl) (by kernel_rfl) (by rfl) (by first | assumption | decide +kernel) (by decide +kernel) ⟨rfl, rfl, rfl, rfl, rfl, by decide +kernel⟩ ?hw ?hc
  case hw => w_witness2
  case hc =>
    refine IRS.walk_w (l := PySem.Challenge.rw_laglist_k80_numbers_as_texts) (n := 63) (k := 2 * 40) (x := "_law_script") (CXw := L2.CX PySem.Challenge.pw_laglist_k80_numbers_as_texts) rfl (by decide) (by kernel_rfl) ⟨rfl, by decide, by decide⟩ ?F IRS.cx_none
    intro w mg fa h Y G hmg0
    obtain ⟨K, KX, c, cx⟩ := Y
    have hmg : mg ("law" : PySem.Str) = some (.ref fa) := by
      have e : (HandSHeadRun.topDef (OpenLaw.row PySem.Challenge.rw_laglist_k80_numbers_as_texts).prog 28).name = ("law" : PySem.Str) := by kernel_rfl
      rw [← e]
      exact hmg0
    have A := fun base => (LW.facts (P := PySem.Challenge.pw_laglist_k80_numbers_as_texts) (w := w) KX G c cx base)
    obtain ⟨hd0⟩ := A h
    have e0 : fa = LW.adr531 K := by
      have z := hmg.symm.trans (He.glo_ok KX G (c.fact 11 (f := .glo "law") rfl))
      cases z
      rfl
    subst e0
    obtain ⟨fd, FD⟩ := c.def_ 8 (d := LW.dd531) rfl
    refine ⟨K, fd, IRS.spOf (LW.wd PySem.Challenge.pw_laglist_k80_numbers_as_texts w K mg h).N (IR.callD IR.g0 40 531) 1, KX, fun s u => L2.FunD.bindsA (ps := ["_law_script"]) FD (fun _ _ _ _ _ _ us hl => match us, hl with | [_], _ => rfl) s [u] rfl, fun H a ns hl hO hS => ?_, fun base _ _ => ?_⟩
    · exact IRS.law_sp (K := K) (N := (LW.wd PySem.Challenge.pw_laglist_k80_numbers_as_texts w K mg h).N) (np := 1) rfl hO hS (IR.holds ns hl)
    · obtain ⟨hd⟩ := A base
      have z := (LW.all hd 40).A531.ok
      have e1 : hd.fd531 = fd := IRS.fd_one hd.F531 FD
      rw [e1] at z
      exact z
