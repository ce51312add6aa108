import PyProof.Rows.All
import Wide.All
import OpenK.AllK
import Wide.FinOn
import HandS.ForMost
import HandS.Exc
import HandS.ExcOwn
import HandS.ExcInit
import HandS.TryOnly
import HandS.WordsExc
import HandS.Defaults
import HandS.Wide
import HandS.Conv
import HandS.Rev
import HandS.Zip
import HandS.IsInst
import HandS.TupAny
import HandS.TupLe
import HandS.Codes
import HandS.Deep
import HandS.Flow
import HandS.NoneIn
import HandS.Head0
import HandS.Head1
import HandS.Head2
import HandS.HeadEnd
import HandS.HeadHook1
import HandS.HeadHook2
import HandS.Text
import HandS.SetFor
import HandS.Strs
import HandS.DictTup
import HandS.Keys
import HandS.More
import HandS.SortInts
import HandS.SortRule
import HandS.Style
import KE.KRevSl
import HandS.StrMore
import HandS.Iter
import HandS.ExcIs
import HandS.Small
import PySem.Challenge.RW_laglist_k25_made_at_once
import Lean
set_option Elab.async false
set_option linter.all false
set_option maxRecDepth 100000
set_option maxHeartbeats 0
/-! The small language: values, objects, a state that is a list of objects, and a total interpreter. -/
namespace IR
/-- a text: its code points -/
abbrev Txt := List Nat
/-- a value; tl: a list that nothing but this value holds yet; scr: the script -/
inductive D where
  | non | bl (b : Bool) | int (i : Int) | str (s : Txt) | tup (l : List D) | ref (n : Nat) | tl (l : List D) | fn (i : Nat) | scr (l : List Int)
/-- a key of a dict -/
abbrev Ky := Sum Int Txt
/-- an object: a list, a dict (by ints and texts; by tuples of them), one of a class. lk: a dict that is being walked -/
inductive MO where
  | lst (l : List D) | dK (lk : Bool) (kvs : List (Ky × D)) | dT (lk : Bool) (kvs : List (List Ky × D)) | ins (c : Nat) (fs : List (Nat × D)) | exn (c : Nat) (fs : List (Nat × D))
abbrev Sto := List MO
inductive Res (α : Type) where
  | ok (a : α) (s : Sto) | exc (c : Nat) (fs : List (Nat × D)) (s : Sto) | bad
abbrev M (α : Type) := Sto → Res α
def M.pure {α : Type} (a : α) : M α := fun s => .ok a s
def Res.bind {α β : Type} (r : Res α) (f : α → M β) : Res β := match r with
  | .ok a s => f a s
  | .exc c fs s => .exc c fs s
  | .bad => .bad
def M.bind {α β : Type} (m : M α) (f : α → M β) : M β := fun s => (m s).bind f
def M.bad {α : Type} : M α := fun _ => .bad
theorem M.pure_bind {α β : Type} (a : α) (f : α → M β) : (M.pure a).bind f = f a := rfl
theorem M.bind_assoc {α β γ : Type} (m : M α) (f : α → M β) (h : β → M γ) : (m.bind f).bind h = m.bind fun x => (f x).bind h := by
  funext s
  unfold M.bind Res.bind
  cases m s <;> rfl
theorem M.bind_pure {α : Type} (m : M α) : m.bind M.pure = m := by
  funext s
  unfold M.bind Res.bind
  cases m s <;> rfl
def M.of {α : Type} : Option α → M α
  | some a => M.pure a
  | none => M.bad
def M.chk (b : Bool) : M Unit := fun s => if b then .ok () s else .bad
/-- the greatest length of a list, a text -/
abbrev LINE : Nat := 1000000

/-! ### data -/
inductive P where
  | non | bl (b : Bool) | int (i : Int) | str (s : Txt) | lst (l : List P) | tup (l : List P)
mutual
def P.eqv : P → P → Bool
  | .non, .non => true
  | .bl a, .bl b => a == b
  | .bl a, .int j => (if a then 1 else 0) == j
  | .int i, .bl b => i == (if b then 1 else 0)
  | .int i, .int j => i == j
  | .str x, .str y => x == y
  | .lst xs, .lst ys => P.eqvs xs ys
  | .tup xs, .tup ys => P.eqvs xs ys
  | _, _ => false
def P.eqvs : List P → List P → Bool
  | [], [] => true
  | x :: xs, y :: ys => P.eqv x y && P.eqvs xs ys
  | _, _ => false
end
/-- what a value says as data, at most n deep -/
def toP (S : Sto) : Nat → D → Option P
  | 0, _ => none
  | n + 1, d => match d with
    | .non => some .non
    | .bl b => some (.bl b)
    | .int i => some (.int i)
    | .str s => if s.all (fun c => decide (c < 1114112)) then some (.str s) else none
    | .tup l => (l.mapM (toP S n)).map .tup
    | .tl l => (l.mapM (toP S n)).map .lst
    | .ref r => match S[r]? with
      | some (.lst l) => (l.mapM (toP S n)).map .lst
      | _ => none
    | .scr l => some (.lst (l.map .int))
    | .fn _ => none
def eqD (S : Sto) (a b : D) : Option Bool := match toP S 20 a, toP S 20 b with
  | some p, some q => some (p.eqv q)
  | _, _ => none
def D.ky : D → Option Ky
  | .int i => some (.inl i)
  | .str s => some (.inr s)
  | _ => none
def pairsK : List D → Option (List (Ky × D))
  | [] => some []
  | .tup [k, v] :: r => match k.ky, pairsK r with
    | some k, some l => some ((k, v) :: l)
    | _, _ => none
  | _ => none
def D.kys : D → Option (List Ky)
  | .tup l => l.mapM D.ky
  | _ => none
def Ky.d : Ky → D
  | .inl i => .int i
  | .inr s => .str s
/-- the items of a list, a tuple, as a value -/
def items (S : Sto) : D → Option (List D)
  | .tup l => some l
  | .tl l => some l
  | .scr l => some (l.map .int)
  | .ref r => match S[r]? with
    | some (.lst l) => some l
    | _ => none
  | _ => none
def lstItems (S : Sto) : D → Option (List D)
  | .tl l => some l
  | .scr l => some (l.map .int)
  | .ref r => match S[r]? with
    | some (.lst l) => some l
    | _ => none
  | _ => none
def ownItems (S : Sto) : D → Option (List D)
  | .tl l => some l
  | .ref r => match S[r]? with
    | some (.lst l) => some l
    | _ => none
  | _ => none
def D.isInt : D → Option Int
  | .int i => some i
  | _ => none
def D.isBl : D → Option Bool
  | .bl b => some b
  | _ => none
def D.isStr : D → Option Txt
  | .str s => some s
  | _ => none

/-! ### dicts -/
section
variable {κ : Type} [DecidableEq κ]
def dGet : List (κ × D) → κ → Option D
  | [], _ => none
  | p :: r, k => if p.1 = k then some p.2 else dGet r k
def dPut (kvs : List (κ × D)) (k : κ) (v : D) : List (κ × D) := if (dGet kvs k).isSome then kvs.map (fun p => if p.1 = k then (p.1, v) else p) else kvs ++ [(k, v)]
def dDrop (kvs : List (κ × D)) (k : κ) : List (κ × D) := kvs.filter fun p => decide (p.1 ≠ k)
end

/-! ### order -/
def ixOf (n : Nat) (i : Int) : Option Nat := if 0 ≤ i then (if i < n then some i.toNat else none) else if -(n : Int) ≤ i then some (i + n).toNat else none
def atD {α : Type} (l : List α) (i : Int) : Option α := (ixOf l.length i).bind fun j => l[j]?
def sIx (n d : Nat) : Option Int → Nat
  | none => d
  | some i => if 0 ≤ i then min i.toNat n else (i + n).toNat
def cut {α : Type} (l : List α) (lo hi : Option Int) : List α := (l.drop (sIx l.length 0 lo)).take (sIx l.length l.length hi - sIx l.length 0 lo)
mutual
def P.lt : P → P → Option Bool
  | .int i, .int j => some (decide (i < j))
  | .str x, .str y => some (decide (x < y))
  | .tup xs, .tup ys => P.lts xs ys
  | _, _ => none
def P.lts : List P → List P → Option Bool
  | [], [] => some false
  | [], _ :: _ => some true
  | _ :: _, [] => some false
  | x :: xs, y :: ys => if P.eqv x y then P.lts xs ys else P.lt x y
end
/-- put among sorted ones; sorted -/
def insBy {α : Type} (le : α → α → Bool) (x : α) : List α → List α
  | [] => [x]
  | y :: r => if le x y then x :: y :: r else y :: insBy le x r
def sortBy {α : Type} (le : α → α → Bool) : List α → List α
  | [] => []
  | x :: r => insBy le x (sortBy le r)
def leI (i j : Int) : Bool := decide (i ≤ j)
def leP (p q : Int × Int) : Bool := decide (p.1 < q.1 ∨ p.1 = q.1 ∧ p.2 ≤ q.2)
def leS (x y : Txt) : Bool := !decide (y < x)
def D.isPr : D → Option (Int × Int)
  | .tup [.int i, .int j] => some (i, j)
  | _ => none
def prD (p : Int × Int) : D := .tup [.int p.1, .int p.2]
/-- numbers, pairs of numbers, texts, sorted -/
def srtL (l : List D) : Option (List D) := match l.mapM D.isInt with
  | some is => some ((sortBy leI is).map .int)
  | none => match l.mapM D.isPr with
    | some ps => some ((sortBy leP ps).map prD)
    | none => match l.mapM D.isStr with
      | some ts => if ts.length < 64 then some ((sortBy leS ts).map .str) else none
      | none => none
def Ky.isI : Ky → Option Int
  | .inl i => some i
  | .inr _ => none
def Ky.isS : Ky → Option Txt
  | .inl _ => none
  | .inr t => some t
/-- the keys of a dict, sorted -/
def srtK (ks : List Ky) : Option (List D) := if ks.length < 64 then (match ks.mapM Ky.isI with
  | some is => some ((sortBy leI is).map .int)
  | none => match ks.mapM Ky.isS with
    | some ts => some ((sortBy leS ts).map .str)
    | none => none) else none
def leN (p q : Int × D) : Bool := decide (p.1 ≤ q.1)
def itN1 : Ky × D → Option (Int × D)
  | (.inl i, .tup l) => some (i, .tup l)
  | (.inl i, .ref n) => some (i, .ref n)
  | _ => none
/-- the entries of a dict by numbers, sorted -/
def srtN (kvs : List (Ky × D)) : Option (List D) := if kvs.length < 64 then (kvs.mapM itN1).map fun l => (sortBy leN l).map fun p => .tup [.int p.1, p.2] else none

/-! ### texts -/
def digit (n : Nat) : Nat := 48 + n
def natTxtAux : Nat → Nat → Txt → Txt
  | 0, _, acc => acc
  | f + 1, n, acc => if n < 10 then digit n :: acc else natTxtAux f (n / 10) (digit (n % 10) :: acc)
def natTxt (n : Nat) : Txt := natTxtAux (n + 1) n []
def intTxt (i : Int) : Txt := if i < 0 then 45 :: natTxt i.natAbs else natTxt i.natAbs
def txtNat : Txt → Option Nat
  | [] => none
  | l => l.foldl (fun a c => a.bind fun n => if 48 ≤ c ∧ c ≤ 57 then some (n * 10 + (c - 48)) else none) (some 0)
def txtInt : Txt → Option Int
  | 45 :: l => (txtNat l).map fun n => -(n : Int)
  | l => (txtNat l).map fun n => (n : Int)
def joinT (sep : Txt) : List Txt → Txt
  | [] => []
  | [x] => x
  | x :: y :: r => x ++ sep ++ joinT sep (y :: r)
def splitAux (sep : Nat) : Txt → Txt → List Txt
  | [], acc => [acc.reverse]
  | c :: r, acc => if c = sep then acc.reverse :: splitAux sep r [] else splitAux sep r (c :: acc)
def splitT (sep : Nat) (t : Txt) : List Txt := splitAux sep t []

/-! ### operations -/
/-- a kind asked by isinstance -/
inductive Ty where
  | int | bool | str | tuple | list | exc (c : Nat)
inductive Op where
  | add | sub | mul | fdiv | mod | pow | neg
  | lt | le | gt | ge | eq | ne | isin | notin | isN | notN | isT | isF | notT | notF
  | ix | sl (lo hi : Bool) | revS
  | tup | lst | newK | newT | disp (ks : List Txt)
  | attr (f : Nat)
  | len | sum | all | min1 | max1 | min2 | max2 | abs | sorted | tuple | list | int | str | dict | dictP
  | tupRg1 | tupRg2 | lstRg1 | lstRg2 | sortedSet | lenSet | sortedItems | sortedKeys
  | isi (ts : List Ty)
  | append | extend | pop1 | pop2 | get1 | get2 | index | count | insert | join | split
  | sortedT | dictT | lstRg3 | slB | isx (cs : List Nat) | attrX (f : Nat) | indexS
def wantInt (d : D) : M Int := fun S => match d with
  | .int i => .ok i S
  | _ => .bad
def addD (S : Sto) : D → D → Option D
  | .int i, .int j => some (.int (i + j))
  | .str x, .str y => if x.length + y.length ≤ LINE then some (.str (x ++ y)) else none
  | .tup x, .tup y => if x.length + y.length ≤ LINE then some (.tup (x ++ y)) else none
  | a, b => match ownItems S a, ownItems S b with
    | some x, some y => if x.length + y.length ≤ LINE then some (.tl (x ++ y)) else none
    | _, _ => none
def B64 : Int := 18446744073709551616
def mulD (S : Sto) : D → D → Option D
  | .int i, .int j => if (-B64 < i ∧ i < B64) ∨ (-B64 < j ∧ j < B64) then some (.int (i * j)) else none
  | a, .int j => match ownItems S a with
    | some x => if j ≤ LINE ∧ -LINE ≤ j ∧ x.length * j.toNat ≤ LINE then some (.tl (List.replicate j.toNat x).flatten) else none
    | none => none
  | _, _ => none
def ltD (S : Sto) (a b : D) : Option Bool := match a, b with
  | .int i, .int j => some (decide (i < j))
  | .tup x, .tup y => match x.mapM D.isInt, y.mapM D.isInt with
    | some is, some js => P.lts (is.map .int) (js.map .int)
    | _, _ => none
  | _, _ => none
def anyEq (S : Sto) (x : D) (l : List D) : Option Bool := match toP S 20 x, l.mapM (toP S 19) with
  | some q, some ps => some (ps.any fun p => p.eqv q)
  | _, _ => none
def findEq (S : Sto) (x : D) (l : List D) : Option Nat := match toP S 20 x, l.mapM (toP S 19) with
  | some q, some ps => ps.findIdx? fun p => p.eqv q
  | _, _ => none
/-- flat: None, truths, numbers, texts -/
def D.flat : D → Bool
  | .non => true
  | .bl _ => true
  | .int _ => true
  | .str _ => true
  | _ => false
def inD (S : Sto) (x : D) (c : D) : Option Bool := match c with
  | .str s => match x with
    | .str [k] => some (s.contains k)
    | _ => none
  | .ref r => match S[r]? with
    | some (.dK _ kvs) => x.ky.map fun k => (dGet kvs k).isSome
    | some (.dT _ kvs) => x.kys.map fun k => (dGet kvs k).isSome
    | some (.lst l) => anyEq S x l
    | _ => none
  | .scr l => anyEq S x (l.map .int)
  | .tl l => anyEq S x l
  | .tup l => if x.flat && l.all D.flat then anyEq S x l else none
  | _ => none
def ixD (S : Sto) (a i : D) : Option D := match a with
  | .str s => if s.length ≤ LINE then i.isInt.bind fun j => (atD s j).map fun c => .str [c] else none
  | .ref r => match S[r]? with
    | some (.dK _ kvs) => i.ky.bind fun k => dGet kvs k
    | some (.dT _ kvs) => i.kys.bind fun k => dGet kvs k
    | some (.lst l) => i.isInt.bind fun j => atD l j
    | _ => none
  | .scr l => i.isInt.bind fun j => (atD l j).map .int
  | .tl l => i.isInt.bind fun j => atD l j
  | .tup l => i.isInt.bind fun j => atD l j
  | _ => none
def slD (S : Sto) (a : D) (lo hi : Option Int) : Option D := match a with
  | .str s => if s.length ≤ LINE then some (.str (cut s lo hi)) else none
  | .tup l => some (.tup (cut l lo hi))
  | a => (lstItems S a).map fun l => .tl (cut l lo hi)
def lenD (S : Sto) (a : D) : Option Nat := match a with
  | .str s => if s.length ≤ LINE then some s.length else none
  | .ref r => match S[r]? with
    | some (.dK _ kvs) => some kvs.length
    | some (.lst l) => some l.length
    | _ => none
  | .scr l => some l.length
  | .tl l => some l.length
  | .tup l => some l.length
  | _ => none
def slM (a : D) (lo hi : Option Int) : M D := fun S => match slD S a lo hi with
  | some d => .ok d S
  | none => .bad
def foldMin : List Int → Option Int
  | [] => none
  | x :: r => some (r.foldl (fun a b => if b < a then b else a) x)
def foldMax : List Int → Option Int
  | [] => none
  | x :: r => some (r.foldl (fun a b => if a < b then b else a) x)
def rg (a b : Int) : List D := (List.range (b - a).toNat).map fun (i : Nat) => D.int (a + i)
/-- put among rising ones, if it isn't there -/
def insS (x : Int) : List Int → List Int
  | [] => [x]
  | y :: r => if x < y then x :: y :: r else if x = y then y :: r else y :: insS x r
/-- the members, rising -/
def setOf : List Int → List Int
  | [] => []
  | x :: r => insS x (setOf r)
/-- a, a + c, .. below b -/
def rg3 (a b c : Int) : List D := (List.range ((b - a + c - 1) / c).toNat).map fun (i : Nat) => D.int (a + i * c)
/-- every k-th item, from the last one back -/
def backBy {α : Type} (k : Nat) (l : List α) : List α := (List.range ((l.length + k - 1) / k)).filterMap fun i => l[l.length - 1 - i * k]?
def pr2 : List Ky → Option (Int × Int)
  | [.inl i, .inl j] => some (i, j)
  | _ => none
def srtT (ks : List (List Ky)) : Option (List D) := if ks.length < 1000 then (ks.mapM pr2).map fun ps => (sortBy leP ps).map prD else none
/-- a pair of numbers within bounds; -1 and -2 are told apart by no hash -/
def lane (p : Int × Int) : Option (Int × Int) := if -4000000000 ≤ p.1 ∧ p.1 ≤ 4000000000 ∧ 0 ≤ p.2 ∧ p.2 ≤ 999999 then some (if p.1 = -1 then -2 else p.1, p.2) else none
def cpT (kvs : List (List Ky × D)) : Bool := kvs.length < 1000 && (match (kvs.map (·.1)).mapM fun k => (pr2 k).bind lane with
  | some l => decide l.Nodup
  | none => false)
/-- the class c of exceptions is below the class d: 9 ValueError, 10 LagError -/
def subX (c d : Nat) : Bool := d == c || d == 10 || d == 9
/-- the kind of a value: 0 None, 1 a truth, 2 a number, 3 a text, 4 a tuple, 5 a list -/
def kindD (S : Sto) : D → Option Nat
  | .non => some 0
  | .bl _ => some 1
  | .int _ => some 2
  | .str _ => some 3
  | .tup _ => some 4
  | .tl _ => some 5
  | .scr _ => some 5
  | .ref r => match S[r]? with
    | some (.lst _) => some 5
    | _ => none
  | .fn _ => none
def tyIs : Nat → Ty → Bool
  | 1, .int => true
  | 2, .int => true
  | 1, .bool => true
  | 3, .str => true
  | 4, .tuple => true
  | 5, .list => true
  | _, _ => false
def bool1 (o : Option Bool) : M D := fun S => match o with | some b => .ok (.bl b) S | none => .bad
def val1 (o : Option D) : M D := fun S => match o with | some d => .ok d S | none => .bad
def evOp (o : Op) (as : List D) : M D := fun S => match o, as with
  | .add, [a, b] => val1 (addD S a b) S
  | .sub, [.int i, .int j] => .ok (.int (i - j)) S
  | .mul, [a, b] => val1 (mulD S a b) S
  | .fdiv, [.int i, .int j] => if 0 < j ∧ (j < B64 ∨ j = 1000000000000000000000000000000) then .ok (.int (i / j)) S else .bad
  | .mod, [.int i, .int j] => if 0 < j then .ok (.int (i % j)) S else .bad
  | .pow, [.int i, .int j] => if 0 ≤ j ∧ j ≤ 1000 ∧ i.natAbs < 1000 then .ok (.int (i ^ j.toNat)) S else .bad
  | .neg, [.int i] => .ok (.int (-i)) S
  | .lt, [a, b] => bool1 (ltD S a b) S
  | .le, [.int i, .int j] => .ok (.bl (decide (i ≤ j))) S
  | .gt, [.int i, .int j] => .ok (.bl (decide (j < i))) S
  | .ge, [.int i, .int j] => .ok (.bl (decide (j ≤ i))) S
  | .eq, [a, b] => bool1 (eqD S a b) S
  | .ne, [a, b] => bool1 ((eqD S a b).map (!·)) S
  | .isin, [a, b] => bool1 (inD S a b) S
  | .notin, [a, b] => bool1 ((inD S a b).map (!·)) S
  | .isN, [a] => .ok (.bl (match a with | .non => true | _ => false)) S
  | .notN, [a] => .ok (.bl (match a with | .non => false | _ => true)) S
  | .isT, [.bl b] => .ok (.bl b) S
  | .isF, [.bl b] => .ok (.bl (!b)) S
  | .notT, [.bl b] => .ok (.bl (!b)) S
  | .notF, [.bl b] => .ok (.bl b) S
  | .ix, [a, i] => val1 (ixD S a i) S
  | .sl true true, [a, .int i, .int j] => val1 (slD S a (some i) (some j)) S
  | .sl true false, [a, .int i] => val1 (slD S a (some i) none) S
  | .sl false true, [a, .int j] => val1 (slD S a none (some j)) S
  | .sl false false, [a] => val1 (slD S a none none) S
  | .revS, [.tup l] => .ok (.tup l.reverse) S
  | .revS, [a] => val1 ((lstItems S a).map fun l => .tl l.reverse) S
  | .tup, l => .ok (.tup l) S
  | .lst, l => .ok (.tl l) S
  | .newK, [] => .ok (.ref S.length) (S ++ [.dK false []])
  | .newT, [] => .ok (.ref S.length) (S ++ [.dT false []])
  | .disp ks, l => .ok (.ref S.length) (S ++ [.dK false ((ks.zip l).map fun p => (.inr p.1, p.2))])
  | .attr f, [.ref r] => match S[r]? with
    | some (.ins _ fs) => val1 (fs.lookup f) S
    | _ => .bad
  | .attrX f, [.ref r] => match S[r]? with
    | some (.exn _ fs) => val1 (fs.lookup f) S
    | _ => .bad
  | .len, [a] => val1 ((lenD S a).map fun n => .int n) S
  | .sum, [a] => val1 ((lstItems S a).bind fun l => (l.mapM D.isInt).map fun is => .int is.sum) S
  | .all, [a] => val1 ((lstItems S a).bind fun l => (l.mapM D.isBl).map fun bs => .bl (bs.all id)) S
  | .min1, [a] => val1 ((lstItems S a).bind fun l => (l.mapM D.isInt).bind fun is => (foldMin is).map .int) S
  | .max1, [a] => val1 ((lstItems S a).bind fun l => (l.mapM D.isInt).bind fun is => (foldMax is).map .int) S
  | .min2, [.int i, .int j] => .ok (.int (if j < i then j else i)) S
  | .max2, [.int i, .int j] => .ok (.int (if j > i then j else i)) S
  | .abs, [.int i] => .ok (.int (if i < 0 then -i else i)) S
  | .sorted, [.ref r] => match S[r]? with
    | some (.lst l) => val1 ((srtL l).map .tl) S
    | some (.dK _ kvs) => val1 ((srtK (kvs.map (·.1))).map .tl) S
    | _ => .bad
  | .sorted, [a] => val1 ((lstItems S a).bind fun l => (srtL l).map .tl) S
  | .tuple, [.tup l] => .ok (.tup l) S
  | .tuple, [a] => val1 ((lstItems S a).map .tup) S
  | .list, [a] => val1 ((items S a).map .tl) S
  | .int, [.int i] => .ok (.int i) S
  | .int, [.bl b] => .ok (.int (if b then 1 else 0)) S
  | .str, [.int i] => if i.natAbs < 10 ^ 100 then .ok (.str (intTxt i)) S else .bad
  | .dict, [.ref r] => match S[r]? with
    | some (.dK _ kvs) => .ok (.ref S.length) (S ++ [.dK false kvs])
    | _ => .bad
  | .dictP, [.tl l] => match pairsK l with
    | some kvs => .ok (.ref S.length) (S ++ [.dK false (kvs.foldl (fun acc p => dPut acc p.1 p.2) [])])
    | none => .bad
  | .tupRg1, [.int n] => if n ≤ LINE ∧ -LINE ≤ n then .ok (.tup (rg 0 n)) S else .bad
  | .tupRg2, [.int a, .int b] => if b ≤ LINE ∧ -LINE ≤ b ∧ a ≤ LINE ∧ -LINE ≤ a then .ok (.tup (rg a b)) S else .bad
  | .lstRg1, [.int n] => if n ≤ LINE ∧ -LINE ≤ n then .ok (.tl (rg 0 n)) S else .bad
  | .lstRg2, [.int a, .int b] => if b ≤ LINE ∧ -LINE ≤ b ∧ a ≤ LINE ∧ -LINE ≤ a then .ok (.tl (rg a b)) S else .bad
  | .sortedSet, [a] => val1 ((items S a).bind fun l => (l.mapM D.isInt).bind fun is => if is.length < 64 then some (.tl ((setOf is).map .int)) else none) S
  | .lenSet, [a] => val1 ((lstItems S a).bind fun l => (l.mapM D.isInt).bind fun is => if is.length ≤ 200 then some (.int (setOf is).length) else none) S
  | .sortedItems, [.ref r] => match S[r]? with
    | some (.dK false kvs) => val1 ((srtN kvs).map .tl) S
    | _ => .bad
  | .isi ts, [a] => val1 ((kindD S a).map fun k => .bl (ts.any (tyIs k))) S
  | .append, [.ref r, d] => match S[r]? with
    | some (.lst l) => if l.length < LINE then .ok .non (S.set r (.lst (l ++ [d]))) else .bad
    | _ => .bad
  | .extend, [.ref r, b] => match S[r]?, ownItems S b with
    | some (.lst l), some m => if l.length + m.length ≤ LINE then .ok .non (S.set r (.lst (l ++ m))) else .bad
    | _, _ => .bad
  | .pop1, [.ref r, k] => match S[r]?, k.ky with
    | some (.dK false kvs), some k => match dGet kvs k with
      | some v => .ok v (S.set r (.dK false (dDrop kvs k)))
      | none => .bad
    | _, _ => .bad
  | .pop2, [.ref r, k, d] => match S[r]?, k.kys with
    | some (.dT false kvs), some k => match dGet kvs k with
      | some v => .ok v (S.set r (.dT false (dDrop kvs k)))
      | none => .ok d S
    | _, _ => .bad
  | .get1, [.ref r, k] => match S[r]?, k.ky with
    | some (.dK _ kvs), some k => .ok ((dGet kvs k).getD .non) S
    | _, _ => .bad
  | .get2, [.ref r, k, d] => match S[r]?, k.ky with
    | some (.dK _ kvs), some k => .ok ((dGet kvs k).getD d) S
    | _, _ => .bad
  | .index, [.str s, .str [k]] => val1 ((s.findIdx? (· == k)).map fun (n : Nat) => D.int (n : Int)) S
  | .index, [a, x] => val1 ((lstItems S a).bind fun l => (findEq S x l).map fun (n : Nat) => D.int (n : Int)) S
  | .insert, [.ref r, .int 0, d] => match S[r]? with
    | some (.lst l) => if l.length < LINE then .ok .non (S.set r (.lst (d :: l))) else .bad
    | _ => .bad
  | .join, [.str sep, a] => val1 ((lstItems S a).bind fun l => (l.mapM D.isStr).bind fun ts => if sep.length ≤ 1000 ∧ (joinT sep ts).length ≤ LINE then some (.str (joinT sep ts)) else none) S
  | .split, [.str s, .str [k]] => if s.length ≤ LINE then .ok (.tl ((splitT k s).map .str)) S else .bad
  | .indexS, [.str s, .str [k]] => val1 ((s.findIdx? (· == k)).map fun (n : Nat) => D.int (n : Int)) S
  | .sortedT, [.ref r] => match S[r]? with
    | some (.dT _ kvs) => val1 ((srtT (kvs.map (·.1))).map .tl) S
    | _ => .bad
  | .dictT, [.ref r] => match S[r]? with
    | some (.dT _ kvs) => if cpT kvs then .ok (.ref S.length) (S ++ [.dT false kvs]) else .bad
    | _ => .bad
  | .lstRg3, [.int a, .int b, .int c] => if (b ≤ LINE ∧ -LINE ≤ b ∧ a ≤ LINE ∧ -LINE ≤ a) ∧ 0 < c ∧ c ≤ LINE then .ok (.tl (rg3 a b c)) S else .bad
  | .slB, [a, .int k] => if 0 < k ∧ k ≤ LINE then val1 ((ownItems S a).map fun l => .tl (backBy k.toNat l)) S else .bad
  | .isx cs, [.ref r] => match S[r]? with
    | some (.exn c _) => .ok (.bl (cs.any (subX c))) S
    | _ => .bad
  | _, _ => .bad
/-- truth -/
def truth (d : D) : M Bool := fun S => match d with
  | .non => .ok false S
  | .bl b => .ok b S
  | .int i => .ok (i != 0) S
  | .str s => if s.length ≤ LINE then .ok (!s.isEmpty) S else .bad
  | .tup l => .ok (!l.isEmpty) S
  | .tl l => .ok (!l.isEmpty) S
  | .ref r => match S[r]? with
    | some (.lst l) => .ok (!l.isEmpty) S
    | some (.dK false l) => .ok (!l.isEmpty) S
    | _ => .bad
  | .scr l => .ok (!l.isEmpty) S
  | .fn _ => .bad

theorem truth_st {d : D} {S S' : Sto} {b : Bool} (h : truth d S = .ok b S') : S' = S := by
  unfold truth at h
  repeat' split at h
  all_goals first | (injection h with _ h2; exact h2.symm) | (cases h; done)

/-! ### syntax -/
inductive Tg where
  | var (i : Nat) | tup (is : List Nat)
mutual
inductive E where
  | c (d : D)
  | var (i : Nat)
  | op (o : Op) (as : Es)
  | bm (o : Op) (r : E) (as : Es)
  | and (a b : E) | or (a b : E) | not (a : E) | ife (c a b : E)
  | chain (o1 o2 : Op) (a b c : E)
  | call (f : Nat) (as : Es)
  | callp (f : Nat) (p : List (Option Nat)) (as : Es)
  | new (c : Nat) (as : Es)
  | meth (m : Nat) (o : E) (as : Es)
  | methp (m : Nat) (o : E) (p : List (Option Nat)) (as : Es)
  | callv (f : E) (as : Es)
  | lc (it : It) (tg : Tg) (cond : Option E) (elt : E)
  | sl11 (a lo hi : E) | sl10 (a lo : E) | sl01 (a hi : E) | sl00 (a : E)
inductive Es where
  | nil | cons (own : Bool) (e : E) (r : Es)
inductive It where
  | over (e : E) | rg1 (a : E) | rg2 (a b : E) | enum (e : E) | zip (a b : E) | rev (e : E) | items (e : E) | vals (e : E) | keysT (e : E) | enumT (e : E)
end
mutual
inductive St where
  | pass | expr (e : E) | ret (e : E)
  | ife (c : E) (a b : Ss)
  | asg (t : Tg) (e : E)
  | setIx (o i v : E) | setAttr (o : E) (f : Nat) (v : E) | augAttr (o : E) (f : Nat) (v : E)
  | for_ (it : It) (tg : Tg) (b : Ss) | whl (c : E) (b : Ss)
  | raise (c : Nat) (as : Es)
  | brk | cnt
  | try_ (b : Ss) (ws : List Nat) (c i : Nat) (s : Ss)
inductive Ss where
  | nil | cons (s : St) (r : Ss)
end
/-- a def: how many parameters, how many names, its body -/
structure Fn where
  np : Nat
  ns : Nat
  body : Ss
/-- a class: its __init__, its methods -/
structure Cl where
  init : Nat
  ms : List (Nat × Nat)
structure G where
  fns : Nat → Option Fn
  cls : Nat → Option Cl
  /-- the fields of the exceptions' classes -/
  xfs : List (Nat × List Nat)
abbrev Env := List (Option D)
inductive Flow where
  | next (ρ : Env) | ret (d : D) | brk (ρ : Env) | cnt (ρ : Env)
inductive Src where
  | st (l : List D) | rf (en : Bool) (n : Nat) | dk (n : Nat) (l : List D)

/-! ### the interpreter -/
/-- a list that nothing holds yet becomes an object -/
def own (d : D) : M D := fun S => match d with
  | .tl l => .ok (.ref S.length) (S ++ [.lst l])
  | d => .ok d S
def ownIf (b : Bool) (d : D) : M D := if b then own d else M.pure d
def getVar (ρ : Env) (i : Nat) : M D := fun S => match ρ[i]? with
  | some (some d) => .ok d S
  | _ => .bad
def setVars : Env → List Nat → List D → Env
  | ρ, i :: is, d :: ds => setVars (ρ.set i (some d)) is ds
  | ρ, _, _ => ρ
def setTg (t : Tg) (ρ : Env) (d : D) : M Env := fun S => match t, d with
  | .var i, d => .ok (ρ.set i (some d)) S
  | .tup is, .tup l => if l.length = is.length then .ok (setVars ρ is l) S else .bad
  | .tup is, .ref r => match S[r]? with
    | some (.lst l) => if l.length = is.length then .ok (setVars ρ is l) S else .bad
    | _ => .bad
  | _, _ => .bad
def srcOf (d : D) : M Src := fun S => match d with
  | .tl l => .ok (.st l) S
  | .tup l => .ok (.st l) S
  | .str s => .ok (.st (s.map fun c => .str [c])) S
  | .scr l => .ok (.st (l.map .int)) S
  | .ref r => match S[r]? with
    | some (.lst _) => .ok (.rf false r) S
    | _ => .bad
  | _ => .bad
def numbered (l : List D) : List D := (l.zip (List.range l.length)).map fun p => .tup [.int p.2, p.1]
def srcEnum (d : D) : M Src := fun S => match d with
  | .tl l => .ok (.st (numbered l)) S
  | .ref r => match S[r]? with
    | some (.lst _) => .ok (.rf true r) S
    | _ => .bad
  | _ => .bad
def srcEnumT (d : D) : M Src := fun S => match d with
  | .tup l => .ok (.st (numbered l)) S
  | _ => .bad
def srcZip (a b : D) : M Src := fun S => match a, b with
  | .tup x, .tup y => .ok (.st ((x.zip y).map fun p => .tup [p.1, p.2])) S
  | .tl x, .tl y => .ok (.st ((x.zip y).map fun p => .tup [p.1, p.2])) S
  | _, _ => .bad
def srcRev (a : D) : M Src := fun S => match a with
  | .tup l => .ok (.st l.reverse) S
  | .tl l => .ok (.st l.reverse) S
  | _ => .bad
def srcItems (vals : Bool) (d : D) : M Src := fun S => match d with
  | .ref r => match S[r]? with
    | some (.dK false kvs) => .ok (.dk r (kvs.map fun p => if vals then p.2 else .tup [p.1.d, p.2])) (S.set r (.dK true kvs))
    | some (.dK true kvs) => .ok (.st (kvs.map fun p => if vals then p.2 else .tup [p.1.d, p.2])) S
    | _ => .bad
  | _ => .bad
/-- the keys of a dict by tuples -/
def srcKeysT (d : D) : M Src := fun S => match d with
  | .ref r => match S[r]? with
    | some (.dT false kvs) => .ok (.dk r (kvs.map fun p => .tup (p.1.map Ky.d))) (S.set r (.dT true kvs))
    | some (.dT true kvs) => .ok (.st (kvs.map fun p => .tup (p.1.map Ky.d))) S
    | _ => .bad
  | _ => .bad
def unlock (n : Nat) : M Unit := fun S => match S[n]? with
  | some (.dK true kvs) => .ok () (S.set n (.dK false kvs))
  | some (.dT true kvs) => .ok () (S.set n (.dT false kvs))
  | _ => .bad
/-- a comprehension over items told ahead -/
def lcSt (f : D → M (Option D)) : List D → List D → M (List D)
  | [], acc => M.pure acc
  | x :: r, acc => (f x).bind fun o => match o with
    | none => lcSt f r acc
    | some y => if acc.length < LINE then lcSt f r (acc ++ [y]) else M.bad
/-- .. over a list object, by place -/
def lcRf (f : D → M (Option D)) (en : Bool) (n : Nat) : Nat → Nat → List D → M (List D)
  | 0, i, acc => fun S => match S[n]? with
    | some (.lst l) => if l.length ≤ i then .ok acc S else .bad
    | _ => .bad
  | k + 1, i, acc => fun S => match S[n]? with
    | some (.lst l) => match l[i]? with
      | none => .ok acc S
      | some x => ((f (if en then .tup [.int i, x] else x)).bind fun o => match o with
        | none => lcRf f en n k (i + 1) acc
        | some y => if acc.length < LINE then lcRf f en n k (i + 1) (acc ++ [y]) else M.bad) S
    | _ => .bad
def lcSrc (f : D → M (Option D)) : Src → M (List D)
  | .st l => lcSt f l []
  | .dk n l => (lcSt f l []).bind fun r => (unlock n).bind fun _ => M.pure r
  | .rf en n => fun S => match S[n]? with
    | some (.lst l) => lcRf f en n l.length 0 [] S
    | _ => .bad
/-- no exception leaves a comprehension -/
def noExc {α : Type} (m : M α) : M α := fun S => match m S with
  | .ok a s => .ok a s
  | _ => .bad
def forSt (f : D → Env → M Flow) : List D → Env → M Flow
  | [], ρ => M.pure (.next ρ)
  | x :: r, ρ => (f x ρ).bind fun fl => match fl with
    | .next ρ' => forSt f r ρ'
    | .cnt ρ' => forSt f r ρ'
    | .brk ρ' => M.pure (.next ρ')
    | .ret d => M.pure (.ret d)
def forRf (f : D → Env → M Flow) (en : Bool) (n : Nat) : Nat → Nat → Env → M Flow
  | 0, i, ρ => fun S => match S[n]? with
    | some (.lst l) => if l.length ≤ i then .ok (.next ρ) S else .bad
    | _ => .bad
  | k + 1, i, ρ => fun S => match S[n]? with
    | some (.lst l) => match l[i]? with
      | none => .ok (.next ρ) S
      | some x => ((f (if en then .tup [.int i, x] else x) ρ).bind fun fl => match fl with
        | .next ρ' => forRf f en n k (i + 1) ρ'
        | .cnt ρ' => forRf f en n k (i + 1) ρ'
        | .brk ρ' => M.pure (.next ρ')
        | .ret d => M.pure (.ret d)) S
    | _ => .bad
def forSrc (f : D → Env → M Flow) (s : Src) (ρ : Env) : M Flow := match s with
  | .st l => forSt f l ρ
  | .dk n l => (noExc (forSt f l ρ)).bind fun r => (unlock n).bind fun _ => M.pure r
  | .rf en n => fun S => match S[n]? with
    | some (.lst l) => forRf f en n l.length 0 ρ S
    | _ => .bad
def whlGo (c : Env → M Bool) (f : Env → M Flow) : Nat → Env → M Flow
  | 0, _ => M.bad
  | k + 1, ρ => (c ρ).bind fun b => if b then (f ρ).bind fun fl => match fl with
      | .next ρ' => whlGo c f k ρ'
      | .cnt ρ' => whlGo c f k ρ'
      | .brk ρ' => M.pure (.next ρ')
      | .ret d => M.pure (.ret d)
    else M.pure (.next ρ)
def rgOk (a b : Int) : Bool := decide (b ≤ LINE ∧ -LINE ≤ b ∧ a ≤ LINE ∧ -LINE ≤ a)
section
variable (g : G) (call : Nat → List D → M D)
def runNew (c : Nat) (as : List D) : M D := fun S => match g.cls c with
  | some cl => ((call cl.init (.ref S.length :: as)).bind fun r => match r with
    | .non => M.pure (.ref S.length)
    | _ => M.bad) (S ++ [.ins c []])
  | none => .bad
/-- the arguments in the parameters' order; None where none is given -/
def pick (l : List D) : Option Nat → Option D
  | some k => l[k]?
  | none => some .non
def permD (l : List D) (p : List (Option Nat)) : M (List D) := M.of (p.mapM (pick l))
def methOf (S : Sto) (m : Nat) : D → Option Nat
  | .ref r => match S[r]? with
    | some (.ins c _) => (g.cls c).bind fun cl => cl.ms.lookup m
    | _ => none
  | _ => none
def methM (m : Nat) (o : D) : M Nat := fun S => match methOf g S m o with
  | some f => .ok f S
  | none => .bad
/-- the receiver of a built-in method: 1 a list, 2 a dict, 3 a text -/
def recvK (S : Sto) : D → Option Nat
  | .str _ => some 3
  | .tl _ => some 1
  | .ref r => match S[r]? with
    | some (.lst _) => some 1
    | some (.dK false _) => some 2
    | some (.dT false _) => some 2
    | _ => none
  | _ => none
def bmKinds : Op → List Nat
  | .append => [1]
  | .extend => [1]
  | .insert => [1]
  | .count => [1]
  | .index => [1, 3]
  | .indexS => [3]
  | .pop1 => [2]
  | .pop2 => [2]
  | .get1 => [2]
  | .get2 => [2]
  | .join => [3]
  | .split => [3]
  | _ => []
def recvOk (o : Op) (d : D) : M Unit := fun S => match recvK S d with
  | some k => if (bmKinds o).contains k then .ok () S else .bad
  | none => .bad
mutual
def ev : E → Env → M D
  | .c d, _ => M.pure d
  | .var i, ρ => getVar ρ i
  | .op o as, ρ => (evs as ρ).bind fun l => evOp o l
  | .bm o r as, ρ => (ev r ρ).bind fun d => (recvOk o d).bind fun _ => (evs as ρ).bind fun l => evOp o (d :: l)
  | .and a b, ρ => (ev a ρ).bind fun x => (truth x).bind fun t => if t then ev b ρ else M.pure x
  | .or a b, ρ => (ev a ρ).bind fun x => (truth x).bind fun t => if t then M.pure x else ev b ρ
  | .not a, ρ => (ev a ρ).bind fun x => (truth x).bind fun t => M.pure (.bl (!t))
  | .ife c a b, ρ => (ev c ρ).bind fun x => (truth x).bind fun t => if t then ev a ρ else ev b ρ
  | .chain o1 o2 a b c, ρ => (ev a ρ).bind fun x => (ev b ρ).bind fun y => (evOp o1 [x, y]).bind fun r => match r with
    | .bl true => (ev c ρ).bind fun z => evOp o2 [y, z]
    | .bl false => M.pure (.bl false)
    | _ => M.bad
  | .call f as, ρ => (evs as ρ).bind fun l => call f l
  | .callp f p as, ρ => (evs as ρ).bind fun l => (permD l p).bind fun l => call f l
  | .new c as, ρ => (evs as ρ).bind fun l => runNew g call c l
  | .meth m o as, ρ => (ev o ρ).bind fun x => (methM g m x).bind fun f => (evs as ρ).bind fun l => call f (x :: l)
  | .methp m o p as, ρ => (ev o ρ).bind fun x => (methM g m x).bind fun f => (evs as ρ).bind fun l => (permD l p).bind fun l => call f (x :: l)
  | .callv f as, ρ => (ev f ρ).bind fun x => match x with
    | .fn i => (evs as ρ).bind fun l => call i l
    | _ => M.bad
  | .lc it tg none elt, ρ => (evIt it ρ).bind fun s => (noExc (lcSrc (fun x => (setTg tg ρ x).bind fun ρ' => (ev elt ρ').bind fun y => (own y).bind fun y => M.pure (some y)) s)).bind fun l => M.pure (.tl l)
  | .lc it tg (some cond) elt, ρ => (evIt it ρ).bind fun s => (noExc (lcSrc (fun x => (setTg tg ρ x).bind fun ρ' => (ev cond ρ').bind fun c => (truth c).bind fun t =>
      if t then (ev elt ρ').bind fun y => (own y).bind fun y => M.pure (some y) else M.pure none) s)).bind fun l => M.pure (.tl l)
  | .sl11 a lo hi, ρ => (ev a ρ).bind fun x => (ev lo ρ).bind fun l => (wantInt l).bind fun i => (ev hi ρ).bind fun h => (wantInt h).bind fun j => slM x (some i) (some j)
  | .sl10 a lo, ρ => (ev a ρ).bind fun x => (ev lo ρ).bind fun l => (wantInt l).bind fun i => slM x (some i) none
  | .sl01 a hi, ρ => (ev a ρ).bind fun x => (ev hi ρ).bind fun h => (wantInt h).bind fun j => slM x none (some j)
  | .sl00 a, ρ => (ev a ρ).bind fun x => slM x none none
def evs : Es → Env → M (List D)
  | .nil, _ => M.pure []
  | .cons o e r, ρ => (ev e ρ).bind fun x => (ownIf o x).bind fun x => (evs r ρ).bind fun l => M.pure (x :: l)
def evIt : It → Env → M Src
  | .over e, ρ => (ev e ρ).bind srcOf
  | .rg1 a, ρ => (ev a ρ).bind fun x => match x with
    | .int n => if rgOk 0 n then M.pure (.st (rg 0 n)) else M.bad
    | _ => M.bad
  | .rg2 a b, ρ => (ev a ρ).bind fun x => (ev b ρ).bind fun y => match x, y with
    | .int i, .int j => if rgOk i j then M.pure (.st (rg i j)) else M.bad
    | _, _ => M.bad
  | .enum e, ρ => (ev e ρ).bind srcEnum
  | .zip a b, ρ => (ev a ρ).bind fun x => (ev b ρ).bind fun y => srcZip x y
  | .rev e, ρ => (ev e ρ).bind srcRev
  | .items e, ρ => (ev e ρ).bind (srcItems false)
  | .vals e, ρ => (ev e ρ).bind (srcItems true)
  | .keysT e, ρ => (ev e ρ).bind srcKeysT
  | .enumT e, ρ => (ev e ρ).bind srcEnumT
end
def setIxD (v o i : D) : M Unit := fun S => match o with
  | .ref r => match S[r]? with
    | some (.lst l) => match i.isInt.bind (ixOf l.length) with
      | some j => .ok () (S.set r (.lst (l.set j v)))
      | none => .bad
    | some (.dK false kvs) => match i.ky with
      | some k => if kvs.length < LINE then .ok () (S.set r (.dK false (dPut kvs k v))) else .bad
      | none => .bad
    | some (.dT false kvs) => match i.kys with
      | some k => if kvs.length < LINE then .ok () (S.set r (.dT false (dPut kvs k v))) else .bad
      | none => .bad
    | _ => .bad
  | _ => .bad
def fPut : List (Nat × D) → Nat → D → List (Nat × D)
  | [], k, v => [(k, v)]
  | p :: r, k, v => if p.1 = k then (p.1, v) :: r else p :: fPut r k v
def setAttrD (v o : D) (f : Nat) : M Unit := fun S => match o with
  | .ref r => match S[r]? with
    | some (.ins c fs) => if fs.length < 900 then .ok () (S.set r (.ins c (fPut fs f v))) else .bad
    | _ => .bad
  | _ => .bad
def getAttrD (o : D) (f : Nat) : M D := fun S => match o with
  | .ref r => match S[r]? with
    | some (.ins _ fs) => val1 (fs.lookup f) S
    | _ => .bad
  | _ => .bad
def WFUEL : Nat := 100000
def wipeV (ρ : Env) (ws : List Nat) : Env := ws.foldl (fun ρ i => ρ.set i none) ρ
/-- the name of a caught exception is gone behind the suite -/
def Flow.gone (i : Nat) : Flow → Flow
  | .next ρ => .next (ρ.set i none)
  | .brk ρ => .brk (ρ.set i none)
  | .cnt ρ => .cnt (ρ.set i none)
  | .ret d => .ret d
/-- what a suite does to an exception of the body -/
def caught (c i : Nat) (ws : List Nat) (ρ : Env) (m : M Flow) (s : Env → M Flow) : M Flow := fun S => match m S with
  | .exc c' fs S' => if subX c' c then ((noExc (s ((wipeV ρ ws).set i (some (.ref S'.length))))).bind fun fl => M.pure (fl.gone i)) (S' ++ [.exn c' fs]) else .exc c' fs S'
  | r => r
mutual
def ex : St → Env → M Flow
  | .pass, ρ => M.pure (.next ρ)
  | .expr e, ρ => (ev g call e ρ).bind fun _ => M.pure (.next ρ)
  | .ret e, ρ => (ev g call e ρ).bind fun d => M.pure (.ret d)
  | .ife c a b, ρ => (ev g call c ρ).bind fun x => (truth x).bind fun t => if t then exs a ρ else exs b ρ
  | .asg t e, ρ => (ev g call e ρ).bind fun x => (own x).bind fun x => (setTg t ρ x).bind fun ρ' => M.pure (.next ρ')
  | .setIx o i v, ρ => (ev g call v ρ).bind fun x => (own x).bind fun x => (ev g call o ρ).bind fun y => (ev g call i ρ).bind fun z => (setIxD x y z).bind fun _ => M.pure (.next ρ)
  | .setAttr o f v, ρ => (ev g call v ρ).bind fun x => (own x).bind fun x => (ev g call o ρ).bind fun y => (setAttrD x y f).bind fun _ => M.pure (.next ρ)
  | .augAttr o f v, ρ => (ev g call o ρ).bind fun y => (getAttrD y f).bind fun a => (ev g call v ρ).bind fun x => match a, x with
    | .int i, .int j => (setAttrD (.int (i + j)) y f).bind fun _ => M.pure (.next ρ)
    | _, _ => M.bad
  | .for_ it tg b, ρ => (evIt g call it ρ).bind fun s => forSrc (fun x ρ => (setTg tg ρ x).bind fun ρ' => exs b ρ') s ρ
  | .whl c b, ρ => whlGo (fun ρ => (ev g call c ρ).bind truth) (fun ρ => exs b ρ) WFUEL ρ
  | .raise c as, ρ => (evs g call as ρ).bind fun l => fun S => match g.xfs.lookup c with
    | some fs => .exc c (fs.zip l) S
    | none => .bad
  | .try_ b ws c i s, ρ => caught c i ws ρ (exs b ρ) (fun ρ => exs s ρ)
  | .brk, ρ => M.pure (.brk ρ)
  | .cnt, ρ => M.pure (.cnt ρ)
def exs : Ss → Env → M Flow
  | .nil, ρ => M.pure (.next ρ)
  | .cons s r, ρ => (ex s ρ).bind fun fl => match fl with
    | .next ρ' => exs r ρ'
    | fl => M.pure fl
end
end
/-- a call at depth n -/
def callR (g : G) : Nat → Nat → List D → M D
  | 0, _, _ => M.bad
  | n + 1, f, as => match g.fns f with
    | some d => if as.length = d.np then (exs g (callR g n) d.body (as.map some ++ List.replicate (d.ns - d.np) none)).bind fun fl => match fl with
        | .next _ => M.pure .non
        | .ret v => M.pure v
        | _ => M.bad
      else M.bad
    | none => M.bad
@[irreducible] def callD (g : G) (n : Nat) : Nat → List D → M D := callR g n
theorem callD_eq (g : G) (n : Nat) : callD g n = callR g n := by unfold callD; rfl
theorem callD_z (g : G) (f : Nat) (as : List D) : callD g 0 f as = M.bad := by rw [callD_eq]; rfl
theorem callD_s (g : G) (n f : Nat) (as : List D) : callD g (n + 1) f as = match g.fns f with
    | some d => if as.length = d.np then (exs g (callD g n) d.body (as.map some ++ List.replicate (d.ns - d.np) none)).bind fun fl => match fl with
        | .next _ => M.pure .non
        | .ret v => M.pure v
        | _ => M.bad
      else M.bad
    | none => M.bad := by rw [callD_eq, callD_eq]; rfl
end IR

namespace IRS
open PySem L2
/-- a text as the model has it -/
def sT (t : IR.Txt) : Str := ⟨t.toArray⟩
theorem sT_cps (t : IR.Txt) : (sT t).cps.toList = t := rfl
theorem sT_inj {a b : IR.Txt} (h : sT a = sT b) : a = b := by
  have := congrArg (fun x : Str => x.cps.toList) h
  exact this
theorem sT_eta (x : Str) : sT x.cps.toList = x := by cases x; rfl
def kyK : IR.Ky → Key
  | .inl i => .inl i
  | .inr t => .inr (sT t)
theorem kyK_inj {a b : IR.Ky} (h : kyK a = kyK b) : a = b := by
  cases a <;> cases b <;> simp only [kyK, Sum.inl.injEq, Sum.inr.injEq, reduceCtorEq] at h
  · rw [h]
  · rw [sT_inj h]
theorem kyK_map_inj : ∀ {a b : List IR.Ky}, a.map kyK = b.map kyK → a = b
  | [], [], _ => rfl
  | [], _ :: _, h => by simp at h
  | _ :: _, [], h => by simp at h
  | x :: a, y :: b, h => by
    simp only [List.map_cons, List.cons.injEq] at h
    rw [kyK_inj h.1, kyK_map_inj h.2]
/-- where the names of the small program stand -/
structure Nm where
  K : PySem.W.Frag
  fnA : Nat → Option Addr
  clA : Nat → Option Addr
  clX : Nat → Option Addr
  fld : List Str
/-- the script, known to the object or an object of the module -/
def Scr (K : PySem.W.Frag) (H : Hp) (a : Addr) (xs : List V) : Prop := (∃ o, H a = some (.frz o (.lst xs))) ∨ ∃ (o : Obj) (its : Array Value) (n : Nat), K.lookup a = some o ∧ o.cls = .type "list" ∧ o.dict = none ∧ o.data = .seq its n ∧ its.size ≤ sizeLine ∧ Vals xs its.toList
theorem Scr.sq {K : PySem.W.Frag} {H : Hp} {a : Addr} {xs : List V} (h : Scr K H a xs) : SqL K H a xs := h.elim (fun z => .inl (.inr z)) .inr
mutual
/-- a value of the small language is this value of the model -/
inductive Rep (N : Nm) (μ : List Addr) (H : Hp) : IR.D → V → Prop
  | non : Rep N μ H .non .non
  | bl (b : Bool) : Rep N μ H (.bl b) (.bl b)
  | int (i : Int) : Rep N μ H (.int i) (.int i)
  | str (t : IR.Txt) : Rep N μ H (.str t) (.str (sT t))
  | tup {a : Addr} {ds : List IR.D} {vs : List V} : H a = some (.tup vs) → Reps N μ H ds vs → Rep N μ H (.tup ds) (.ref a)
  | ref {n : Nat} {a : Addr} : μ[n]? = some a → Rep N μ H (.ref n) (.ref a)
  | fn {i : Nat} {f : Addr} : N.fnA i = some f → Rep N μ H (.fn i) (.ref f)
  | scr {a : Addr} {ns : List Int} : Scr N.K H a (ns.map V.int) → Rep N μ H (.scr ns) (.ref a)
inductive Reps (N : Nm) (μ : List Addr) (H : Hp) : List IR.D → List V → Prop
  | nil : Reps N μ H [] []
  | cons {d : IR.D} {ds : List IR.D} {v : V} {vs : List V} : Rep N μ H d v → Reps N μ H ds vs → Reps N μ H (d :: ds) (v :: vs)
end
/-- the object at a is oe -/
abbrev isO (a : Addr) (oe : Obj) : HO := .ext fun h => h.get? a = some oe
/-- the model goes on from μ, H to μ', H': objects are added, what isn't ours stays -/
structure Ext (μ : List Addr) (H : Hp) (μ' : List Addr) (H' : Hp) : Prop where
  pre : μ <+: μ'
  new : ∀ a ∈ μ', a ∈ μ ∨ H a = none
  keep : ∀ a o, a ∉ μ → H a = some o → H' a = some o
  tup : ∀ a vs, H a = some (.tup vs) → H' a = some (.tup vs)
  frz : ∀ a o u, H a = some (.frz o u) → H' a = some (.frz o u)
theorem Ext.refl (μ : List Addr) (H : Hp) : Ext μ H μ H := ⟨List.prefix_refl _, fun _ h => .inl h, fun _ _ _ h => h, fun _ _ h => h, fun _ _ _ h => h⟩
theorem Ext.trans {μ μ1 μ2 : List Addr} {H H1 H2 : Hp} (a : Ext μ H μ1 H1) (b : Ext μ1 H1 μ2 H2) : Ext μ H μ2 H2 where
  pre := a.pre.trans b.pre
  new := fun x hx => by
    rcases b.new x hx with h | h
    · exact a.new x h
    · by_cases hm : x ∈ μ
      · exact .inl hm
      · refine .inr ?_
        cases e : H x with
        | none => rfl
        | some o => rw [a.keep x o hm e] at h; cases h
  keep := fun x o hx e => by
    refine b.keep x o (fun hm => ?_) (a.keep x o hx e)
    rcases a.new x hm with h | h
    · exact hx h
    · rw [e] at h; cases h
  tup := fun x vs e => b.tup x vs (a.tup x vs e)
  frz := fun x o u e => b.frz x o u (a.frz x o u e)
theorem prefix_get {α : Type} {l m : List α} (h : l <+: m) {i : Nat} {x : α} (e : l[i]? = some x) : m[i]? = some x := by
  obtain ⟨t, rfl⟩ := h
  rw [List.getElem?_append_left (List.getElem?_eq_some_iff.mp e).1]
  exact e
/-- .. what a value leans on stays -/
structure WExt (μ : List Addr) (H : Hp) (μ' : List Addr) (H' : Hp) : Prop where
  pre : μ <+: μ'
  tup : ∀ a vs, H a = some (.tup vs) → H' a = some (.tup vs)
  frz : ∀ a o u, H a = some (.frz o (.lst u)) → H' a = some (.frz o (.lst u))
  frx : ∀ a o r, H a = some (.frz o (.xd r)) → H' a = some (.frz o (.xd r))
theorem Ext.w {μ μ' : List Addr} {H H' : Hp} (e : Ext μ H μ' H') : WExt μ H μ' H' := ⟨e.pre, e.tup, fun a o u => e.frz a o _, fun a o r => e.frz a o _⟩
theorem Scr.mono {K : PySem.W.Frag} {μ μ' : List Addr} {H H' : Hp} {a : Addr} {xs : List V} (h : Scr K H a xs) (e : WExt μ H μ' H') : Scr K H' a xs := h.imp (fun ⟨o, z⟩ => ⟨o, e.frz _ _ _ z⟩) id
section
variable {N : Nm} {μ μ' : List Addr} {H H' : Hp}
mutual
theorem Rep.mono (e : WExt μ H μ' H') : ∀ {d : IR.D} {v : V}, Rep N μ H d v → Rep N μ' H' d v
  | _, _, .non => .non
  | _, _, .bl b => .bl b
  | _, _, .int i => .int i
  | _, _, .str t => .str t
  | _, _, .tup h r => .tup (e.tup _ _ h) (Reps.mono e r)
  | _, _, .ref h => .ref (prefix_get e.pre h)
  | _, _, .fn h => .fn h
  | _, _, .scr h => .scr (h.mono e)
theorem Reps.mono (e : WExt μ H μ' H') : ∀ {ds : List IR.D} {vs : List V}, Reps N μ H ds vs → Reps N μ' H' ds vs
  | _, _, .nil => .nil
  | _, _, .cons a r => .cons (Rep.mono e a) (Reps.mono e r)
end
theorem Reps.length : ∀ {ds : List IR.D} {vs : List V}, Reps N μ H ds vs → ds.length = vs.length
  | _, _, .nil => rfl
  | _, _, .cons _ r => by simp [Reps.length r]
theorem Reps.append : ∀ {ds es : List IR.D} {vs us : List V}, Reps N μ H ds vs → Reps N μ H es us → Reps N μ H (ds ++ es) (vs ++ us)
  | _, _, _, _, .nil, s => s
  | _, _, _, _, .cons a r, s => .cons a (Reps.append r s)
theorem Reps.get : ∀ {ds : List IR.D} {vs : List V} {i : Nat} {d : IR.D}, Reps N μ H ds vs → ds[i]? = some d → ∃ v, vs[i]? = some v ∧ Rep N μ H d v
  | _, _, _, _, .nil, h => by simp at h
  | _, _, 0, _, .cons a _, h => by simp at h; subst h; exact ⟨_, rfl, a⟩
  | _, _, i + 1, _, .cons _ r, h => by simpa using Reps.get (i := i) r (by simpa using h)
theorem Reps.get' {ds : List IR.D} {vs : List V} {i : Nat} {v : V} (r : Reps N μ H ds vs) (h : vs[i]? = some v) : ∃ d, ds[i]? = some d ∧ Rep N μ H d v := by
  have hl : i < ds.length := by rw [r.length]; exact (List.getElem?_eq_some_iff.mp h).1
  obtain ⟨v', h1, h2⟩ := r.get (i := i) (List.getElem?_eq_getElem hl)
  rw [h] at h1; cases h1
  exact ⟨_, List.getElem?_eq_getElem hl, h2⟩
theorem Reps.of_get : ∀ {ds : List IR.D} {vs : List V}, ds.length = vs.length → (∀ (i : Nat) (d : IR.D) (v : V), ds[i]? = some d → vs[i]? = some v → Rep N μ H d v) → Reps N μ H ds vs
  | [], [], _, _ => .nil
  | [], _ :: _, h, _ => by simp at h
  | _ :: _, [], h, _ => by simp at h
  | d :: ds, v :: vs, h, f => .cons (f 0 d v rfl rfl) (Reps.of_get (by simpa using h) fun i d v h1 h2 => f (i + 1) d v (by simpa using h1) (by simpa using h2))
theorem Reps.take {ds : List IR.D} {vs : List V} (r : Reps N μ H ds vs) (n : Nat) : Reps N μ H (ds.take n) (vs.take n) := by
  refine Reps.of_get (by simp [r.length]) fun i d v h1 h2 => ?_
  rw [List.getElem?_take] at h1 h2
  split at h1
  · rename_i hi
    rw [if_pos hi] at h2
    obtain ⟨v', e, q⟩ := r.get h1
    rw [h2] at e; cases e; exact q
  · cases h1
theorem Reps.drop {ds : List IR.D} {vs : List V} (r : Reps N μ H ds vs) (n : Nat) : Reps N μ H (ds.drop n) (vs.drop n) := by
  refine Reps.of_get (by simp [r.length]) fun i d v h1 h2 => ?_
  rw [List.getElem?_drop] at h1 h2
  obtain ⟨v', e, q⟩ := r.get h1
  rw [h2] at e; cases e; exact q
theorem Reps.set {ds : List IR.D} {vs : List V} {d : IR.D} {v : V} (r : Reps N μ H ds vs) (n : Nat) (q : Rep N μ H d v) : Reps N μ H (ds.set n d) (vs.set n v) := by
  refine Reps.of_get (by simp [r.length]) fun i d' v' h1 h2 => ?_
  rw [List.getElem?_set] at h1 h2
  have hl := r.length
  split at h1
  · rename_i hi
    subst hi
    split at h1
    · rename_i hn
      rw [if_pos rfl, if_pos (by omega)] at h2
      cases h1; cases h2; exact q
    · cases h1
  · rename_i hi
    rw [if_neg hi] at h2
    obtain ⟨v'', e, q'⟩ := r.get h1
    rw [h2] at e; cases e; exact q'
theorem Reps.reverse {ds : List IR.D} {vs : List V} (r : Reps N μ H ds vs) : Reps N μ H ds.reverse vs.reverse := by
  have hl := r.length
  refine Reps.of_get (by simp [hl]) fun i d v h1 h2 => ?_
  have hi : i < ds.length := by simpa using (List.getElem?_eq_some_iff.mp h1).1
  rw [List.getElem?_reverse hi] at h1
  rw [List.getElem?_reverse (by omega)] at h2
  rw [hl] at h1
  obtain ⟨v', e, q⟩ := r.get h1
  rw [h2] at e; cases e; exact q
/-- the entries of a dict -/
inductive KR (N : Nm) (μ : List Addr) (H : Hp) {κ κ' : Type} (f : κ → κ') : List (κ × IR.D) → List (κ' × V) → Prop
  | nil : KR N μ H f [] []
  | cons {k : κ} {d : IR.D} {v : V} {r : List (κ × IR.D)} {r' : List (κ' × V)} : Rep N μ H d v → KR N μ H f r r' → KR N μ H f ((k, d) :: r) ((f k, v) :: r')
theorem KR.mono {κ κ' : Type} {f : κ → κ'} (e : WExt μ H μ' H') : ∀ {r : List (κ × IR.D)} {r' : List (κ' × V)}, KR N μ H f r r' → KR N μ' H' f r r'
  | _, _, .nil => .nil
  | _, _, .cons a r => .cons (a.mono e) (KR.mono e r)
theorem KR.length {κ κ' : Type} {f : κ → κ'} : ∀ {r : List (κ × IR.D)} {r' : List (κ' × V)}, KR N μ H f r r' → r.length = r'.length
  | _, _, .nil => rfl
  | _, _, .cons _ r => by simp [KR.length r]
/-- the fields of such -/
inductive FR (N : Nm) (μ : List Addr) (H : Hp) : List (Nat × IR.D) → List (Str × V) → Prop
  | nil : FR N μ H [] []
  | cons {k : Nat} {n : Str} {d : IR.D} {v : V} {r : List (Nat × IR.D)} {r' : List (Str × V)} : N.fld[k]? = some n → Rep N μ H d v → FR N μ H r r' → FR N μ H ((k, d) :: r) ((n, v) :: r')
theorem FR.mono (e : WExt μ H μ' H') : ∀ {r : List (Nat × IR.D)} {r' : List (Str × V)}, FR N μ H r r' → FR N μ' H' r r'
  | _, _, .nil => .nil
  | _, _, .cons h a r => .cons h (a.mono e) (FR.mono e r)
theorem FR.length : ∀ {r : List (Nat × IR.D)} {r' : List (Str × V)}, FR N μ H r r' → r.length = r'.length
  | _, _, .nil => rfl
  | _, _, .cons _ _ r => by simp [FR.length r]
/-- what stands at an object's address -/
def ObAt (N : Nm) (μ : List Addr) (H : Hp) (a : Addr) : IR.MO → Prop
  | .lst ds => ∃ vs, H a = some (.lst vs) ∧ Reps N μ H ds vs
  | .dK false kvs => ∃ r, H a = some (.dK r) ∧ KR N μ H kyK kvs r
  | .dK true kvs => ∃ o r, H a = some (.frz o (.dK r)) ∧ KR N μ H kyK kvs r
  | .dT false kvs => ∃ r, H a = some (.dT r) ∧ KR N μ H (·.map kyK) kvs r
  | .dT true kvs => ∃ o r, H a = some (.frz o (.dT r)) ∧ KR N μ H (·.map kyK) kvs r
  | .ins c fs => ∃ C dx r, N.clA c = some C ∧ H a = some (.ins C dx r) ∧ FR N μ H fs r
  | .exn c fs => ∃ C oe, N.clX c = some C ∧ H a = some (isO a oe) ∧ oe.cls = .ref C ∧ (∃ vs, oe.data = .fields vs) ∧ ((fs = [] ∧ oe.dict = none) ∨ ∃ dd o r, oe.dict = some dd ∧ H dd = some (.frz o (.xd r)) ∧ FR N μ H fs r)
theorem ObAt.some {a : Addr} {o : IR.MO} (h : ObAt N μ H a o) : ∃ u, H a = some u ∧ ∀ vs, u ≠ .tup vs := by
  cases o with
  | lst ds => obtain ⟨vs, e, _⟩ := h; exact ⟨_, e, fun _ z => nomatch z⟩
  | dK lk kvs => cases lk with
    | false => obtain ⟨r, e, _⟩ := h; exact ⟨_, e, fun _ z => nomatch z⟩
    | true => obtain ⟨o, r, e, _⟩ := h; exact ⟨_, e, fun _ z => nomatch z⟩
  | dT lk kvs => cases lk with
    | false => obtain ⟨r, e, _⟩ := h; exact ⟨_, e, fun _ z => nomatch z⟩
    | true => obtain ⟨o, r, e, _⟩ := h; exact ⟨_, e, fun _ z => nomatch z⟩
  | ins c fs => obtain ⟨C, dx, r, _, e, _⟩ := h; exact ⟨_, e, fun _ z => nomatch z⟩
  | exn c fs => obtain ⟨C, oe, _, e, _⟩ := h; exact ⟨_, e, fun _ z => nomatch z⟩
theorem ObAt.mono (e : WExt μ H μ' H') {a : Addr} (ha : H' a = H a) {o : IR.MO} (h : ObAt N μ H a o) : ObAt N μ' H' a o := by
  cases o with
  | lst ds => obtain ⟨vs, z, r⟩ := h; exact ⟨vs, ha.trans z, r.mono e⟩
  | dK lk kvs => cases lk with
    | false => obtain ⟨r, z, q⟩ := h; exact ⟨r, ha.trans z, q.mono e⟩
    | true => obtain ⟨o, r, z, q⟩ := h; exact ⟨o, r, ha.trans z, q.mono e⟩
  | dT lk kvs => cases lk with
    | false => obtain ⟨r, z, q⟩ := h; exact ⟨r, ha.trans z, q.mono e⟩
    | true => obtain ⟨o, r, z, q⟩ := h; exact ⟨o, r, ha.trans z, q.mono e⟩
  | ins c fs => obtain ⟨C, dx, r, hc, z, q⟩ := h; exact ⟨C, dx, r, hc, ha.trans z, q.mono e⟩
  | exn c fs =>
    obtain ⟨C, oe, hc, z, h1, h2, h3⟩ := h
    refine ⟨C, oe, hc, ha.trans z, h1, h2, ?_⟩
    rcases h3 with h3 | ⟨dd, o, r, e1, e2, e3⟩
    · exact .inl h3
    · exact .inr ⟨dd, o, r, e1, e.frx _ _ _ e2, e3.mono e⟩
/-- the state is this heap's -/
structure Rel (N : Nm) (μ : List Addr) (S : IR.Sto) (H : Hp) : Prop where
  len : μ.length = S.length
  nd : μ.Nodup
  ob : ∀ (i : Nat) (o : IR.MO) (a : Addr), S[i]? = some o → μ[i]? = some a → ObAt N μ H a o
variable {S : IR.Sto}
theorem Rel.at (R : Rel N μ S H) {i : Nat} {o : IR.MO} (h : S[i]? = some o) : ∃ a, μ[i]? = some a ∧ ObAt N μ H a o := by
  have hi : i < μ.length := by rw [R.len]; exact (List.getElem?_eq_some_iff.mp h).1
  exact ⟨μ[i], List.getElem?_eq_getElem hi, R.ob i o _ h (List.getElem?_eq_getElem hi)⟩
theorem Rel.mem_some (R : Rel N μ S H) {a : Addr} (h : a ∈ μ) : ∃ u, H a = some u ∧ ∀ vs, u ≠ .tup vs := by
  obtain ⟨i, hi⟩ := List.mem_iff_getElem?.mp h
  have hl : i < S.length := by rw [← R.len]; exact (List.getElem?_eq_some_iff.mp hi).1
  exact (R.ob i _ a (List.getElem?_eq_getElem hl) hi).some
theorem Rel.fresh (R : Rel N μ S H) {p : Addr} (h : H p = none) : p ∉ μ := fun hm => by
  obtain ⟨u, e, _⟩ := R.mem_some hm
  rw [h] at e; cases e
/-- something new is laid that isn't ours -/
theorem Ext.laid {μ : List Addr} {H : Hp} {p : Addr} {o : HO} (h : H p = none) : Ext μ H μ (upd H p o) :=
  ⟨List.prefix_refl _, fun _ z => .inl z, fun a u _ e => by rw [upd_ne (ne_of_none e h)]; exact e, fun a u e => by rw [upd_ne (ne_of_none e h)]; exact e, fun a u v e => by rw [upd_ne (ne_of_none e h)]; exact e⟩
theorem Rel.laid (R : Rel N μ S H) {p : Addr} {o : HO} (h : H p = none) : Rel N μ S (upd H p o) :=
  ⟨R.len, R.nd, fun i q a h1 h2 => (R.ob i q a h1 h2).mono (Ext.laid h).w (upd_ne (fun z => by
    obtain ⟨u, e, _⟩ := R.mem_some (List.mem_of_getElem? h2)
    rw [z, h] at e; cases e))⟩
/-- an object of ours is added -/
theorem Ext.add {p : Addr} {H0 : Hp} (e : Ext μ H0 μ' H') (h : H0 p = none) : Ext μ H0 (μ' ++ [p]) H' :=
  ⟨e.pre.trans (List.prefix_append _ _), fun a ha => by
    rcases List.mem_append.mp ha with z | z
    · exact e.new a z
    · rw [List.mem_singleton.mp z]; exact .inr h, e.keep, e.tup, e.frz⟩
theorem WExt.add {p : Addr} : WExt μ H (μ ++ [p]) H := ⟨List.prefix_append _ _, fun _ _ h => h, fun _ _ _ h => h, fun _ _ _ h => h⟩
theorem Rel.add {p : Addr} {o : IR.MO} (R : Rel N μ S H) (hp : p ∉ μ) (h : ObAt N (μ ++ [p]) H p o) : Rel N (μ ++ [p]) (S ++ [o]) H := by
  refine ⟨by simp [R.len], List.nodup_append.mpr ⟨R.nd, by simp, fun a ha b hb => by rw [List.mem_singleton.mp hb]; exact fun z => hp (z ▸ ha)⟩, fun i q a h1 h2 => ?_⟩
  have hl := R.len
  by_cases hi : i < S.length
  · rw [List.getElem?_append_left hi] at h1
    rw [List.getElem?_append_left (by omega)] at h2
    exact (R.ob i q a h1 h2).mono .add rfl
  · rw [List.getElem?_append_right (by omega)] at h1 h2
    have e : i - S.length = 0 := by have := (List.getElem?_eq_some_iff.mp h1).1; simp at this; omega
    rw [hl, e] at h2
    rw [e] at h1
    cases h1; cases h2
    exact h
/-- an object of ours is written -/
theorem Rel.write {n : Nat} {a : Addr} {o : HO} {q : IR.MO} (R : Rel N μ S H) (hn : μ[n]? = some a) (hq : ObAt N μ (upd H a o) a q) (w : WExt μ H μ (upd H a o)) : Rel N μ (S.set n q) (upd H a o) := by
  refine ⟨by simp [R.len], R.nd, fun i q' b h1 h2 => ?_⟩
  rw [List.getElem?_set] at h1
  split at h1
  · rename_i hi
    subst hi
    split at h1
    · cases h1
      rw [hn] at h2; cases h2
      exact hq
    · cases h1
  · rename_i hi
    have hb : b ≠ a := fun z => by
      subst z
      have l1 := (List.getElem?_eq_some_iff.mp hn).1
      have l2 := (List.getElem?_eq_some_iff.mp h2).1
      exact hi ((List.getElem_inj R.nd).mp (((List.getElem?_eq_some_iff.mp hn).2).trans (List.getElem?_eq_some_iff.mp h2).2.symm))
    exact (R.ob i q' b h1 h2).mono w (upd_ne hb)
/-- the heap with an object of ours written: what stood there was no tuple, nothing frozen -/
theorem Ext.write {n : Nat} {a : Addr} {o u : HO} (hn : μ[n]? = some a) (h : H a = some u) (ht : ∀ vs, u ≠ .tup vs) (hf : ∀ o w, u ≠ .frz o w) : Ext μ H μ (upd H a o) :=
  ⟨List.prefix_refl _, fun _ z => .inl z, fun b w hb e => by rw [upd_ne (fun z => hb (by rw [z]; exact List.mem_of_getElem? hn))]; exact e,
   fun b vs e => by rw [upd_ne (fun z => by rw [z, h] at e; exact ht vs (Option.some.inj e))]; exact e,
   fun b w x e => by rw [upd_ne (fun z => by rw [z, h] at e; exact hf _ _ (Option.some.inj e))]; exact e⟩
/-- a value that has just been reckoned: a list that nothing holds yet is at an address of its own -/
def RepV (N : Nm) (μ : List Addr) (H : Hp) : IR.D → V → Prop
  | .tl ds, v => ∃ a vs, v = .ref a ∧ H a = some (.lst vs) ∧ a ∉ μ ∧ Reps N μ H ds vs
  | d, v => Rep N μ H d v
theorem Rep.v {d : IR.D} {v : V} (h : Rep N μ H d v) : RepV N μ H d v := by
  cases h with
  | non => exact .non
  | bl b => exact .bl b
  | int i => exact .int i
  | str t => exact .str t
  | tup a b => exact .tup a b
  | ref a => exact .ref a
  | fn a => exact .fn a
  | scr a => exact .scr a
theorem RepV.mono (e : Ext μ H μ' H') {d : IR.D} {v : V} (h : RepV N μ H d v) : RepV N μ' H' d v := by
  cases d with
  | tl ds =>
    obtain ⟨a, vs, rfl, h1, h2, r⟩ := h
    exact ⟨a, vs, rfl, e.keep _ _ h2 h1, fun hm => (e.new _ hm).elim h2 (fun z => by rw [h1] at z; cases z), r.mono e.w⟩
  | non => exact Rep.mono e.w h
  | bl b => exact Rep.mono e.w h
  | int b => exact Rep.mono e.w h
  | str b => exact Rep.mono e.w h
  | tup b => exact Rep.mono e.w h
  | ref b => exact Rep.mono e.w h
  | fn b => exact Rep.mono e.w h
  | scr b => exact Rep.mono e.w h
/-- the names' values -/
def RSt (N : Nm) (μ : List Addr) (H : Hp) (ρ : IR.Env) (σ : L2.St) : Prop := ρ.length = σ.length ∧ ∀ (i : Nat) (d : IR.D), ρ[i]? = some (some d) → ∃ v, σ[i]? = some (some v) ∧ Rep N μ H d v
theorem RSt.mono {ρ : IR.Env} {σ : L2.St} (e : WExt μ H μ' H') (h : RSt N μ H ρ σ) : RSt N μ' H' ρ σ := ⟨h.1, fun i d hd => let ⟨v, a, b⟩ := h.2 i d hd; ⟨v, a, b.mono e⟩⟩
/-- .. where it is new since H0 -/
def Tmp (H0 : Hp) (d : IR.D) (v : V) : Prop := ∀ l a, d = .tl l → v = .ref a → H0 a = none
end
end IRS

namespace IRS
open PySem L2
section
variable {N : Nm}
/-- an exception of the small program's class c with these fields -/
def RX (N : Nm) (μ : List Addr) (H : Hp) (c : Nat) (fs : List (Nat × IR.D)) (cls : Value) (dd : Option Addr) : Prop :=
  ∃ C, N.clX c = some C ∧ cls = .ref C ∧ ((fs = [] ∧ dd = none) ∨ ∃ d r, dd = some d ∧ H d = some (.xd r) ∧ FR N μ H fs r)
/-- where the fields of an exception stand there is nothing of ours -/
theorem RX.fresh {μ : List Addr} {S : IR.Sto} {H : Hp} {c : Nat} {fs : List (Nat × IR.D)} {cls : Value} {dd : Option Addr} (q : RX N μ H c fs cls dd) (R : Rel N μ S H) {d : Addr} (hd : dd = some d) : d ∉ μ := fun hm => by
  obtain ⟨C, _, _, q⟩ := q
  rcases q with ⟨_, q⟩ | ⟨d', r, q, e, _⟩
  · rw [q] at hd; cases hd
  · rw [q] at hd; cases hd
    obtain ⟨i, hi⟩ := List.mem_iff_getElem?.mp hm
    have hl : i < S.length := by rw [← R.len]; exact (List.getElem?_eq_some_iff.mp hi).1
    have ob := R.ob i _ d (List.getElem?_eq_getElem hl) hi
    cases h : S[i] with
    | lst l => rw [h] at ob; obtain ⟨_, z, _⟩ := ob; rw [e] at z; cases z
    | dK lk l => rw [h] at ob; cases lk with
      | false => obtain ⟨_, z, _⟩ := ob; rw [e] at z; cases z
      | true => obtain ⟨_, _, z, _⟩ := ob; rw [e] at z; cases z
    | dT lk l => rw [h] at ob; cases lk with
      | false => obtain ⟨_, z, _⟩ := ob; rw [e] at z; cases z
      | true => obtain ⟨_, _, z, _⟩ := ob; rw [e] at z; cases z
    | ins c l => rw [h] at ob; obtain ⟨_, _, _, _, z, _⟩ := ob; rw [e] at z; cases z
    | exn c l => rw [h] at ob; obtain ⟨_, _, _, z, _⟩ := ob; rw [e] at z; cases z
/-- where one stands: what holds of the names' values, which places may be stored to, what is wanted of an exception -/
structure Fm where
  I : L2.St → Prop
  as : Nat → Bool
  W : WX
  put : ∀ σ i v, as i = true → I σ → I (σ.set i (some v))
  del : ∀ σ i, as i = true → I σ → I (σ.set i none)
/-- what an answer of the small language asks of every heap that is it -/
def GG (N : Nm) (W : Fm) (μ : List Addr) (H : Hp) {α : Type} (r : IR.Res α) (K : α → IR.Sto → List Addr → Hp → Prop) : Prop := match r with
  | .ok a S' => ∀ μ' H', Ext μ H μ' H' → Rel N μ' S' H' → K a S' μ' H'
  | .exc c fs S' => ∀ μ' H' cls dd, Ext μ H μ' H' → Rel N μ' S' H' → RX N μ' H' c fs cls dd → (∀ d, dd = some d → H d = none) → ∀ σ, W.I σ → W.W cls dd σ H'
  | .bad => False
variable {W : Fm} {μ μ1 : List Addr} {H H1 : Hp} {σ : L2.St} {α β : Type} {r : IR.Res α} {K K' : α → IR.Sto → List Addr → Hp → Prop}
theorem none_of {α : Type} {o : Option α} (h : ∀ x, o = some x → False) : o = none := match o, h with | none, _ => rfl | some x, h => (h x rfl).elim
theorem GG.base (e : Ext μ H μ1 H1) (g : GG N W μ H r K) : GG N W μ1 H1 r K := by
  cases r with
  | ok a S => exact fun μ' H' x R => g μ' H' (e.trans x) R
  | exc c fs S =>
    exact fun μ' H' cls dd x R q nw => g μ' H' cls dd (e.trans x) R q fun d hd => none_of fun o z => by
      have := e.keep d o (fun hm => q.fresh R hd ((e.trans x).pre.subset hm)) z
      rw [nw d hd] at this; cases this
  | bad => exact g
theorem GG.imp (g : GG N W μ H r K) (k : ∀ a S' μ' H', Ext μ H μ' H' → Rel N μ' S' H' → K a S' μ' H' → K' a S' μ' H') : GG N W μ H r K' := by
  cases r with
  | ok a S => exact fun μ' H' x R => k a S μ' H' x R (g μ' H' x R)
  | exc c fs S => exact g
  | bad => exact g
theorem GG.bind {f : α → IR.M β} {L : β → IR.Sto → List Addr → Hp → Prop} (g : GG N W μ H (r.bind f) L) : GG N W μ H r fun a S1 μ1 H1 => GG N W μ1 H1 (f a S1) L := by
  cases r with
  | ok a S => exact fun μ' H' x R => GG.base x g
  | exc c fs S => exact g
  | bad => exact g
/-- a value is wanted -/
def GV (N : Nm) (W : Fm) (μ : List Addr) (H : Hp) (r : IR.Res IR.D) (Q : VK) : Prop := GG N W μ H r fun d _ μ' H' => ∀ v, RepV N μ' H' d v → Tmp H d v → Q v H'
theorem GV.base {r : IR.Res IR.D} {Q : VK} (e : Ext μ H μ1 H1) (g : GV N W μ H r Q) : GV N W μ1 H1 r Q := by
  refine GG.imp (GG.base e g) fun d S' μ' H' x R k v rv tm => k v rv fun l a h1 h2 => ?_
  subst h1; subst h2
  have hn := tm l a rfl rfl
  cases e0 : H a with
  | none => rfl
  | some o =>
    by_cases hm : a ∈ μ
    · obtain ⟨_, _, z, h3, h4, _⟩ := rv
      cases z
      exact absurd ((e.trans x).pre.subset hm) h4
    · rw [e.keep a o hm e0] at hn; cases hn
/-- a value that is owned or not -/
def RepO (N : Nm) (μ : List Addr) (H : Hp) (o : Bool) (d : IR.D) (v : V) : Prop := if o = true then Rep N μ H d v else RepV N μ H d v
theorem RepO.mono {o : Bool} {d : IR.D} {v : V} (e : Ext μ H μ1 H1) (h : RepO N μ H o d v) : RepO N μ1 H1 o d v := by
  cases o with
  | true => exact Rep.mono e.w h
  | false => exact RepV.mono e h
theorem RepO.v {o : Bool} {d : IR.D} {v : V} (h : RepO N μ H o d v) : RepV N μ H d v := by
  cases o with
  | true => exact Rep.v h
  | false => exact h
theorem RepV.rep {d : IR.D} {v : V} (h : RepV N μ H d v) (n : ∀ l, d ≠ .tl l) : Rep N μ H d v := by
  cases d with
  | tl l => exact absurd rfl (n l)
  | non => exact h
  | bl b => exact h
  | int b => exact h
  | str b => exact h
  | tup b => exact h
  | ref b => exact h
  | fn b => exact h
  | scr b => exact h
/-- reckon, own, go on -/
theorem GG.own {r : IR.Res IR.D} {o : Bool} {f : IR.D → IR.M β} {L : β → IR.Sto → List Addr → Hp → Prop} (g : GG N W μ H ((r.bind (IR.ownIf o)).bind f) L) {Q : VK}
    (k : ∀ μ1 S1 H1 d v, Ext μ H μ1 H1 → Rel N μ1 S1 H1 → RepO N μ1 H1 o d v → GG N W μ1 H1 (f d S1) L → Q v H1) : GV N W μ H r Q := by
  cases r with
  | exc c fs S => exact g
  | bad => exact g
  | ok d S =>
    refine fun μ' H' e R v rv tm => ?_
    cases o with
    | false => exact k μ' S H' d v e R rv (GG.base e g)
    | true =>
      by_cases hd : ∃ l, d = .tl l
      · obtain ⟨l, rfl⟩ := hd
        obtain ⟨a, vs, rfl, h1, h2, rr⟩ := rv
        have e2 : Ext μ H (μ' ++ [a]) H' := e.add (tm l a rfl rfl)
        have R2 : Rel N (μ' ++ [a]) (S ++ [.lst l]) H' := R.add h2 ⟨vs, h1, rr.mono .add⟩
        have g2 : GG N W μ H (f (.ref S.length) (S ++ [.lst l])) L := g
        refine k (μ' ++ [a]) (S ++ [.lst l]) H' (.ref S.length) (.ref a) e2 R2 ?_ (GG.base e2 g2)
        show Rep N (μ' ++ [a]) H' (.ref S.length) (.ref a)
        refine .ref ?_
        rw [← R.len]
        simp
      · have hn : ∀ l, d ≠ .tl l := fun l z => hd ⟨l, z⟩
        have g2 : GG N W μ H (f d S) L := by
          have e3 : IR.ownIf true d S = .ok d S := by
            cases d with
            | tl l => exact absurd rfl (hn l)
            | _ => rfl
          have g' := g
          simp only [IR.Res.bind, e3] at g'
          exact g'
        exact k μ' S H' d v e R (rv.rep hn) (GG.base e g2)
theorem GV.of {r : IR.Res IR.D} {f : IR.D → IR.M β} {L : β → IR.Sto → List Addr → Hp → Prop} (g : GG N W μ H (r.bind f) L) {Q : VK}
    (k : ∀ μ1 S1 H1 d v, Ext μ H μ1 H1 → Rel N μ1 S1 H1 → RepV N μ1 H1 d v → GG N W μ1 H1 (f d S1) L → Q v H1) : GV N W μ H r Q := by
  cases r with
  | exc c fs S => exact g
  | bad => exact g
  | ok d S => exact fun μ' H' e R v rv tm => k μ' S H' d v e R rv (GG.base e g)

/-! ### readings -/
def tE (N : Nm) (W : Fm) (m : IR.Env → IR.M IR.D) : TE := fun σ H Q => ∃ μ S ρ, W.I σ ∧ Rel N μ S H ∧ RSt N μ H ρ σ ∧ GV N W μ H (m ρ S) Q
def tT (N : Nm) (W : Fm) (m : IR.Env → IR.M Bool) : TT := fun σ H Q => ∃ μ S ρ, W.I σ ∧ Rel N μ S H ∧ RSt N μ H ρ σ ∧ GG N W μ H (m ρ S) fun b _ _ H' => Q b H'
inductive RepOs (N : Nm) (μ : List Addr) (H : Hp) : List Bool → List IR.D → List V → Prop
  | nil : RepOs N μ H [] [] []
  | cons {o : Bool} {os : List Bool} {d : IR.D} {ds : List IR.D} {v : V} {vs : List V} : RepO N μ H o d v → RepOs N μ H os ds vs → RepOs N μ H (o :: os) (d :: ds) (v :: vs)
theorem RepOs.mono (e : Ext μ H μ1 H1) : ∀ {os : List Bool} {ds : List IR.D} {vs : List V}, RepOs N μ H os ds vs → RepOs N μ1 H1 os ds vs
  | _, _, _, .nil => .nil
  | _, _, _, .cons a r => .cons (a.mono e) (RepOs.mono e r)
theorem RepOs.reps : ∀ {os : List Bool} {ds : List IR.D} {vs : List V}, (∀ o ∈ os, o = true) → RepOs N μ H os ds vs → Reps N μ H ds vs
  | _, _, _, _, .nil => .nil
  | _, _, _, h, .cons a r => .cons (by have e := h _ List.mem_cons_self; subst e; exact a) (RepOs.reps (fun o ho => h o (List.mem_cons_of_mem _ ho)) r)
theorem RepOs.length : ∀ {os : List Bool} {ds : List IR.D} {vs : List V}, RepOs N μ H os ds vs → ds.length = os.length ∧ vs.length = os.length
  | _, _, _, .nil => ⟨rfl, rfl⟩
  | _, _, _, .cons _ r => ⟨by simp [(RepOs.length r).1], by simp [(RepOs.length r).2]⟩
/-- arguments -/
def tA (N : Nm) (W : Fm) (os : List Bool) (m : IR.Env → IR.M (List IR.D)) : TA := fun σ H Q => ∃ μ S ρ, W.I σ ∧ Rel N μ S H ∧ RSt N μ H ρ σ ∧ GG N W μ H (m ρ S) fun ds _ μ' H' => ∀ vs, RepOs N μ' H' os ds vs → Q vs H'
/-- a block, a statement -/
def KF (N : Nm) (W : Fm) (D : Ends) (H0 : Hp) : IR.Flow → IR.Sto → List Addr → Hp → Prop
  | .next ρ, _, μ, H => ∀ σ', W.I σ' → RSt N μ H ρ σ' → D.nx σ' H
  | .brk ρ, _, μ, H => ∀ σ', W.I σ' → RSt N μ H ρ σ' → D.bk σ' H
  | .cnt ρ, _, μ, H => ∀ σ', W.I σ' → RSt N μ H ρ σ' → D.ct σ' H
  | .ret d, _, μ, H => ∀ v, RepV N μ H d v → Tmp H0 d v → D.rt v H
def tS (N : Nm) (W : Fm) (m : IR.Env → IR.M IR.Flow) : TS := fun D σ H => ∃ μ S ρ, W.I σ ∧ Rel N μ S H ∧ RSt N μ H ρ σ ∧ GG N W μ H (m ρ S) (KF N W D H)
end
end IRS

namespace IRS
open PySem L2
section
variable {N : Nm} {W : Fm} {μ : List Addr} {S : IR.Sto} {H : Hp} {Q : VK} {a b : IR.D} {x y : V}
/-! ### what a value-answer gives -/
theorem GV.here {d : IR.D} {v : V} (R : Rel N μ S H) (g : GV N W μ H (.ok d S) Q) (r : Rep N μ H d v) (n : ∀ l, d ≠ .tl l) : Q v H :=
  g μ H (Ext.refl μ H) R v r.v fun l _ e _ => absurd e (n l)
theorem GV.int {i : Int} (R : Rel N μ S H) (g : GV N W μ H (.ok (.int i) S) Q) : Q (.int i) H := g.here R (.int i) fun _ z => nomatch z
theorem GV.bl {i : Bool} (R : Rel N μ S H) (g : GV N W μ H (.ok (.bl i) S) Q) : Q (.bl i) H := g.here R (.bl i) fun _ z => nomatch z
theorem GV.str {i : IR.Txt} (R : Rel N μ S H) (g : GV N W μ H (.ok (.str i) S) Q) : Q (.str (sT i)) H := g.here R (.str i) fun _ z => nomatch z
theorem GV.newL {l : List IR.D} {vs : List V} (R : Rel N μ S H) (g : GV N W μ H (.ok (.tl l) S) Q) (r : Reps N μ H l vs) : ∀ p, H p = none → Q (.ref p) (upd H p (.lst vs)) := fun p hp =>
  g μ _ (Ext.laid hp) (R.laid hp) (.ref p) ⟨p, vs, rfl, upd_same, R.fresh hp, r.mono (Ext.laid hp).w⟩ fun _ q _ e => by cases e; exact hp
theorem GV.newT {l : List IR.D} {vs : List V} (R : Rel N μ S H) (g : GV N W μ H (.ok (.tup l) S) Q) (r : Reps N μ H l vs) : ∀ p, H p = none → Q (.ref p) (upd H p (.tup vs)) := fun p hp =>
  g μ _ (Ext.laid hp) (R.laid hp) (.ref p) (.tup upd_same (r.mono (Ext.laid hp).w)) fun _ _ z => nomatch z
theorem GV.val1 {o : Option IR.D} (g : GV N W μ H (IR.val1 o S) Q) : ∃ d, o = some d ∧ GV N W μ H (.ok d S) Q := by
  cases o with
  | none => exact g.elim
  | some d => exact ⟨d, rfl, g⟩
theorem GV.bool1 {o : Option Bool} (R : Rel N μ S H) (g : GV N W μ H (IR.bool1 o S) Q) : ∃ d, o = some d ∧ Q (.bl d) H := by
  cases o with
  | none => exact g.elim
  | some d => exact ⟨d, rfl, GV.bl R g⟩
/-! ### what a value is -/
theorem RepV.int {i : Int} (h : RepV N μ H (.int i) x) : x = .int i := by cases h; rfl
theorem RepV.bl {i : Bool} (h : RepV N μ H (.bl i) x) : x = .bl i := by cases h; rfl
theorem RepV.non (h : RepV N μ H .non x) : x = .non := by cases h; rfl
theorem RepV.str {i : IR.Txt} (h : RepV N μ H (.str i) x) : x = .str (sT i) := by cases h; rfl
theorem RepV.tup {l : List IR.D} (h : RepV N μ H (.tup l) x) : ∃ a vs, x = .ref a ∧ H a = some (.tup vs) ∧ Reps N μ H l vs := by cases h with | tup h1 h2 => exact ⟨_, _, rfl, h1, h2⟩
theorem RepV.ref {n : Nat} (h : RepV N μ H (.ref n) x) : ∃ a, x = .ref a ∧ μ[n]? = some a := by cases h with | ref h => exact ⟨_, rfl, h⟩
theorem RepV.scr {l : List Int} (h : RepV N μ H (.scr l) x) : ∃ a, x = .ref a ∧ Scr N.K H a (l.map V.int) := by cases h with | scr h => exact ⟨_, rfl, h⟩
theorem Reps.ints : ∀ {l : List Int} , Reps N μ H (l.map IR.D.int) (l.map V.int)
  | [] => .nil
  | i :: l => .cons (.int i) Reps.ints
theorem Rel.obAt (R : Rel N μ S H) {n : Nat} {o : IR.MO} {a : Addr} (h : S[n]? = some o) (ha : μ[n]? = some a) : ObAt N μ H a o := R.ob n o a h ha
/-- a list of the program's own making -/
theorem own_of {l : List IR.D} (R : Rel N μ S H) (r : RepV N μ H a x) (h : IR.ownItems S a = some l) : ∃ p vs, x = .ref p ∧ H p = some (.lst vs) ∧ Reps N μ H l vs := by
  cases a with
  | tl l' => cases h; obtain ⟨p, vs, e, h1, _, r⟩ := r; exact ⟨p, vs, e, h1, r⟩
  | ref n =>
    obtain ⟨p, rfl, hp⟩ := r.ref
    simp only [IR.ownItems] at h
    split at h
    · rename_i l' e
      cases h
      obtain ⟨vs, h1, r⟩ := R.ob n _ p e hp
      exact ⟨p, vs, rfl, h1, r⟩
    · cases h
  | _ => cases h
theorem lst_of {l : List IR.D} (R : Rel N μ S H) (r : RepV N μ H a x) (h : IR.lstItems S a = some l) : ∃ p vs, x = .ref p ∧ SqL N.K H p vs ∧ Reps N μ H l vs := by
  cases a with
  | tl l' => cases h; obtain ⟨p, vs, e, h1, _, r⟩ := r; exact ⟨p, vs, e, .of h1, r⟩
  | ref n =>
    obtain ⟨p, rfl, hp⟩ := r.ref
    simp only [IR.lstItems] at h
    split at h
    · rename_i l' e
      cases h
      obtain ⟨vs, h1, r⟩ := R.ob n _ p e hp
      exact ⟨p, vs, rfl, .of h1, r⟩
    · cases h
  | scr l' =>
    cases h
    obtain ⟨p, rfl, hp⟩ := r.scr
    exact ⟨p, _, rfl, hp.sq, Reps.ints⟩
  | _ => cases h
theorem seq_of {l : List IR.D} (R : Rel N μ S H) (r : RepV N μ H a x) (h : IR.items S a = some l) : ∃ p vs, x = .ref p ∧ (SqL N.K H p vs ∨ SqT N.K H p vs) ∧ Reps N μ H l vs := by
  cases a with
  | tup l' =>
    cases h
    obtain ⟨p, vs, e, h1, r⟩ := r.tup
    exact ⟨p, vs, e, .inr (.of h1), r⟩
  | tl l' => obtain ⟨p, vs, e, h1, r⟩ := lst_of (S := S) (l := l) R r h; exact ⟨p, vs, e, .inl h1, r⟩
  | ref n => obtain ⟨p, vs, e, h1, r⟩ := lst_of (S := S) (l := l) R r h; exact ⟨p, vs, e, .inl h1, r⟩
  | scr n => obtain ⟨p, vs, e, h1, r⟩ := lst_of (S := S) (l := l) R r h; exact ⟨p, vs, e, .inl h1, r⟩
  | _ => cases h
theorem line_le {n : Nat} (h : n ≤ IR.LINE) : n ≤ sizeLine := Nat.le_trans h (by decide)
theorem line_lt {n : Nat} (h : n < IR.LINE) : n < sizeLine := Nat.lt_of_lt_of_le h (by decide)
theorem sT_append (x y : IR.Txt) : sT x ++ sT y = sT (x ++ y) := by
  show Str.append _ _ = _
  simp [Str.append, sT]
theorem sT_len (x : IR.Txt) : (sT x).length = x.length := by simp [sT, Str.length]
/-! ### arithmetic -/
section
variable {X : Cx}
def rAddX (K : PySem.W.Frag) : R2 := fun x y H Q => (((∃ i j, x = .int i ∧ y = .int j ∧ Q (.int (i + j)) H) ∨ (∃ i j, x = .str i ∧ y = .str j ∧ i.length + j.length ≤ sizeLine ∧ Q (.str (i ++ j)) H)) ∨ rCat x y H Q) ∨ rCatA K x y H Q
theorem op_addX : OpR X (binaryOp .Add) (rAddX X.K) := ((op_add.or op_add_str).or op_cat).or op_catA
end
theorem o_add (R : Rel N μ S H) (ra : RepV N μ H a x) (rb : RepV N μ H b y) (g : GV N W μ H (IR.evOp .add [a, b] S) Q) : rAddX N.K x y H Q := by
  obtain ⟨d, hd, g⟩ := GV.val1 (o := IR.addD S a b) g
  have cat : ∀ l m, IR.ownItems S a = some l → IR.ownItems S b = some m → l.length + m.length ≤ IR.LINE → GV N W μ H (.ok (.tl (l ++ m)) S) Q → rAddX N.K x y H Q := fun l m h1 h2 hl g => by
    obtain ⟨p, vs, rfl, e1, r1⟩ := own_of R ra h1
    obtain ⟨q, us, rfl, e2, r2⟩ := own_of R rb h2
    refine .inl (.inr ⟨p, q, vs, us, rfl, rfl, e1, e2, ?_, GV.newL R g (r1.append r2)⟩)
    rw [← r1.length, ← r2.length]; exact line_le hl
  unfold IR.addD at hd
  split at hd
  · cases hd
    rw [ra.int, rb.int]
    exact .inl (.inl (.inl ⟨_, _, rfl, rfl, GV.int R g⟩))
  · split at hd
    · rename_i hl
      cases hd
      rw [ra.str, rb.str]
      refine .inl (.inl (.inr ⟨_, _, rfl, rfl, by rw [sT_len, sT_len]; exact line_le hl, ?_⟩))
      rw [sT_append]
      exact GV.str R g
    · cases hd
  · split at hd
    · rename_i l m hl
      cases hd
      obtain ⟨p, vs, rfl, e1, r1⟩ := ra.tup
      obtain ⟨q, us, rfl, e2, r2⟩ := rb.tup
      have h1 := r1.length
      have h2 := r2.length
      refine .inr ⟨p, q, vs, us, rfl, rfl, .of e1, .of e2, by rw [← h1, ← h2]; exact line_le hl, fun z => ?_, fun _ z => ?_, fun _ _ => GV.newT R g (r1.append r2)⟩
      · subst z
        have : l = [] := List.eq_nil_of_length_eq_zero (by simpa using h1)
        subst this
        exact g.here R (.tup e2 r2) fun _ z => nomatch z
      · subst z
        have : m = [] := List.eq_nil_of_length_eq_zero (by simpa using h2)
        subst this
        rw [List.append_nil] at g
        exact g.here R (.tup e1 r1) fun _ z => nomatch z
    · cases hd
  · split at hd
    · rename_i l m h1 h2
      split at hd
      · rename_i hl
        cases hd
        exact cat l m h1 h2 hl g
      · cases hd
    · cases hd
theorem o_sub (R : Rel N μ S H) (ra : RepV N μ H a x) (rb : RepV N μ H b y) (g : GV N W μ H (IR.evOp .sub [a, b] S) Q) : rI0 (fun i j => .int (i - j)) x y H Q := by
  cases a <;> first | exact g.elim | skip
  cases b <;> first | exact g.elim | skip
  rw [ra.int, rb.int]
  exact ⟨_, _, rfl, rfl, GV.int R g⟩
def rMulX : R2 := fun x y H Q => rI CMul (fun i j => .int (i * j)) x y H Q ∨ rRep x y H Q
theorem op_mulX {X : Cx} : OpR X (binaryOp .Mult) rMulX := op_mul.or op_rep
theorem o_mul (R : Rel N μ S H) (ra : RepV N μ H a x) (rb : RepV N μ H b y) (g : GV N W μ H (IR.evOp .mul [a, b] S) Q) : rMulX x y H Q := by
  obtain ⟨d, hd, g⟩ := GV.val1 (o := IR.mulD S a b) g
  unfold IR.mulD at hd
  split at hd
  · split at hd
    · rename_i i j hc
      cases hd
      rw [ra.int, rb.int]
      have e : IR.B64 = 2 ^ 64 := by decide
      rw [e] at hc
      exact .inl ⟨_, _, rfl, rfl, hc, GV.int R g⟩
    · cases hd
  · rename_i j _
    split at hd
    · rename_i l h1
      split at hd
      · rename_i hc
        cases hd
        obtain ⟨p, vs, rfl, e1, r1⟩ := own_of R ra h1
        rw [rb.int]
        have rr : ∀ k : Nat, Reps N μ H (List.replicate k l).flatten (List.replicate k vs).flatten := fun k => by
          induction k with
          | zero => exact .nil
          | succ k ih =>
            rw [List.replicate_succ, List.replicate_succ, List.flatten_cons, List.flatten_cons]
            exact r1.append ih
        have hl := r1.length
        have e : IR.LINE = 1000000 := rfl
        rw [e] at hc
        refine .inr ⟨p, j, vs, rfl, rfl, e1, by omega, by omega, by rw [← hl]; exact line_le hc.2.2, GV.newL R g (rr _)⟩
      · cases hd
    · cases hd
  · cases hd
theorem o_fdiv (R : Rel N μ S H) (ra : RepV N μ H a x) (rb : RepV N μ H b y) (g : GV N W μ H (IR.evOp .fdiv [a, b] S) Q) : rI CDivW (fun i j => .int (i / j)) x y H Q := by
  cases a <;> first | exact g.elim | skip
  cases b <;> first | exact g.elim | skip
  rename_i i j
  rw [ra.int, rb.int]
  have g : GV N W μ H (if 0 < j ∧ (j < IR.B64 ∨ j = 1000000000000000000000000000000) then .ok (.int (i / j)) S else .bad) Q := g
  split at g
  · rename_i hc
    refine ⟨_, _, rfl, rfl, wide_div (b := 128) hc.1 ?_ (by decide) (by decide), GV.int R g⟩
    have e : IR.B64 = 18446744073709551616 := rfl
    rw [e] at hc
    have : (2 : Nat) ^ 128 = 340282366920938463463374607431768211456 := by decide
    rw [this]
    omega
  · exact g.elim
theorem o_mod (R : Rel N μ S H) (ra : RepV N μ H a x) (rb : RepV N μ H b y) (g : GV N W μ H (IR.evOp .mod [a, b] S) Q) : rI (fun _ j => 0 < j) (fun i j => .int (i % j)) x y H Q := by
  cases a <;> first | exact g.elim | skip
  cases b <;> first | exact g.elim | skip
  rename_i i j
  rw [ra.int, rb.int]
  have g : GV N W μ H (if 0 < j then .ok (.int (i % j)) S else .bad) Q := g
  split at g
  · rename_i hc
    exact ⟨_, _, rfl, rfl, hc, GV.int R g⟩
  · exact g.elim
theorem o_pow (R : Rel N μ S H) (ra : RepV N μ H a x) (rb : RepV N μ H b y) (g : GV N W μ H (IR.evOp .pow [a, b] S) Q) : rI CPow (fun i j => .int (i ^ j.toNat)) x y H Q := by
  cases a <;> first | exact g.elim | skip
  cases b <;> first | exact g.elim | skip
  rename_i i j
  rw [ra.int, rb.int]
  have g : GV N W μ H (if 0 ≤ j ∧ j ≤ 1000 ∧ i.natAbs < 1000 then .ok (.int (i ^ j.toNat)) S else .bad) Q := g
  split at g
  · rename_i hc
    exact ⟨_, _, rfl, rfl, ⟨hc.1, by omega, Nat.lt_of_lt_of_le hc.2.2 (by decide)⟩, GV.int R g⟩
  · exact g.elim
theorem o_neg (R : Rel N μ S H) (ra : RepV N μ H a x) (g : GV N W μ H (IR.evOp .neg [a] S) Q) : rU (fun i => .int (-i)) x H Q := by
  cases a <;> first | exact g.elim | skip
  rw [ra.int]
  exact ⟨_, rfl, GV.int R g⟩
/-! ### data -/
def pyD : IR.P → PyData
  | .non => .none
  | .bl b => .bool b
  | .int i => .int i
  | .str t => .str (sT t)
  | .lst l => .list (l.attach.map fun ⟨p, _⟩ => pyD p)
  | .tup l => .tuple (l.attach.map fun ⟨p, _⟩ => pyD p)
theorem pyD_lst (l : List IR.P) : pyD (.lst l) = .list (l.map pyD) := by simp [pyD]
theorem pyD_tup (l : List IR.P) : pyD (.tup l) = .tuple (l.map pyD) := by simp [pyD]
mutual
theorem eqv_py : ∀ p q : IR.P, PyData.eqv (pyD p) (pyD q) = IR.P.eqv p q
  | .non, q => by cases q <;> simp [pyD, PyData.eqv, IR.P.eqv]
  | .bl b, q => by cases q <;> simp [pyD, PyData.eqv, IR.P.eqv]
  | .int i, q => by cases q <;> simp [pyD, PyData.eqv, IR.P.eqv]
  | .str t, q => by
    cases q with
    | str u =>
      simp only [pyD, PyData.eqv, IR.P.eqv]
      by_cases e : t = u
      · subst e; simp
      · rw [show (t == u) = false from by simpa using e]
        exact beq_eq_false_iff_ne.mpr fun z => e (sT_inj z)
    | _ => simp [pyD, PyData.eqv, IR.P.eqv]
  | .lst l, q => by
    cases q with
    | lst m => rw [pyD_lst, pyD_lst, PyData.eqv, IR.P.eqv, eqvs_py l m]
    | _ => simp [pyD, PyData.eqv, IR.P.eqv]
  | .tup l, q => by
    cases q with
    | tup m => rw [pyD_tup, pyD_tup, PyData.eqv, IR.P.eqv, eqvs_py l m]
    | _ => simp [pyD, PyData.eqv, IR.P.eqv]
theorem eqvs_py : ∀ l m : List IR.P, PyData.eqvAll (l.map pyD) (m.map pyD) = IR.P.eqvs l m
  | [], [] => by simp [PyData.eqvAll, IR.P.eqvs]
  | [], _ :: _ => by simp [PyData.eqvAll, IR.P.eqvs]
  | _ :: _, [] => by simp [PyData.eqvAll, IR.P.eqvs]
  | p :: l, q :: m => by
    rw [List.map_cons, List.map_cons, PyData.eqvAll, IR.P.eqvs, eqv_py p q, eqvs_py l m]
end
end
end IRS

namespace IRS
open PySem L2
section
variable {N : Nm} {W : Fm} {μ : List Addr} {S : IR.Sto} {H : Hp} {Q : VK} {a b : IR.D} {x y : V}
theorem mapM_some {α β : Type} {f : α → Option β} : ∀ {l : List α} {r : List β}, l.mapM f = some r → l.length = r.length ∧ ∀ (i : Nat) (x : α), l[i]? = some x → ∃ y, r[i]? = some y ∧ f x = some y
  | [], r, h => by
    simp at h; subst h
    exact ⟨rfl, fun i x h => by simp at h⟩
  | a :: l, r, h => by
    rw [List.mapM_cons] at h
    cases e : f a with
    | none => rw [e] at h; simp at h
    | some b =>
      rw [e] at h
      simp only [Option.bind_eq_bind, Option.bind_some] at h
      cases e2 : l.mapM f with
      | none => rw [e2] at h; simp at h
      | some r' =>
        rw [e2] at h
        simp at h
        subst h
        obtain ⟨h1, h2⟩ := mapM_some e2
        refine ⟨by simp [h1], fun i x hx => ?_⟩
        cases i with
        | zero => simp at hx; subst hx; exact ⟨b, rfl, e⟩
        | succ i => simpa using h2 i x (by simpa using hx)
theorem lays_all : ∀ {ps : List IR.P}, (∀ p ∈ ps, (pyD p).canLay0 = true) → PyData.canLayAll0 (ps.map pyD) = true
  | [], _ => by simp [PyData.canLayAll0]
  | p :: ps, h => by
    rw [List.map_cons, PyData.canLayAll0, h p List.mem_cons_self, lays_all fun q hq => h q (List.mem_cons_of_mem _ hq)]
    rfl
theorem depth_all {n : Nat} : ∀ {ps : List IR.P}, (∀ p ∈ ps, (pyD p).depth ≤ n) → PyData.depthAll (ps.map pyD) ≤ n
  | [], _ => by simp [PyData.depthAll]
  | p :: ps, h => by
    rw [List.map_cons, PyData.depthAll]
    have h1 := h p List.mem_cons_self
    have h2 := depth_all (ps := ps) fun q hq => h q (List.mem_cons_of_mem _ hq)
    omega
theorem dp_ints {K : PySem.W.Frag} {H : Hp} : ∀ {l : List Int}, DpAll K H (l.map V.int) ((l.map IR.P.int).map pyD)
  | [] => .nil
  | i :: l => .cons (by simp only [pyD]; exact .int i) dp_ints
/-- a value's data -/
theorem data_of (R : Rel N μ S H) : ∀ (n : Nat) {d : IR.D} {v : V} {p : IR.P}, RepV N μ H d v → IR.toP S n d = some p → Dp N.K H v (pyD p) ∧ (pyD p).canLay0 = true ∧ (pyD p).depth ≤ n
  | 0, _, _, _, _, h => by simp [IR.toP] at h
  | n + 1, d, v, p, r, h => by
    have all : ∀ {l : List IR.D} {vs : List V} {ps : List IR.P}, Reps N μ H l vs → l.mapM (IR.toP S n) = some ps → DpAll N.K H vs (ps.map pyD) ∧ (∀ p ∈ ps, (pyD p).canLay0 = true) ∧ (∀ p ∈ ps, (pyD p).depth ≤ n) := by
      intro l
      induction l with
      | nil =>
        intro vs ps r h
        cases r
        simp at h; subst h
        exact ⟨.nil, by simp, by simp⟩
      | cons d l ih =>
        intro vs ps r h
        cases r with
        | cons rd rl =>
          rw [List.mapM_cons] at h
          cases e : IR.toP S n d with
          | none => rw [e] at h; simp at h
          | some q =>
            rw [e] at h
            simp only [Option.bind_eq_bind, Option.bind_some] at h
            cases e2 : l.mapM (IR.toP S n) with
            | none => rw [e2] at h; simp at h
            | some qs =>
              rw [e2] at h
              simp at h
              subst h
              obtain ⟨x1, x2, x3⟩ := data_of R n rd.v e
              obtain ⟨y1, y2, y3⟩ := ih rl e2
              refine ⟨.cons x1 y1, fun p hp => ?_, fun p hp => ?_⟩
              · rcases List.mem_cons.mp hp with rfl | hp
                · exact x2
                · exact y2 p hp
              · rcases List.mem_cons.mp hp with rfl | hp
                · exact x3
                · exact y3 p hp
    have lst : ∀ {l : List IR.D} {vs : List V} {a : Addr} {p : IR.P}, SqL N.K H a vs → Reps N μ H l vs → (l.mapM (IR.toP S n)).map IR.P.lst = some p → Dp N.K H (.ref a) (pyD p) ∧ (pyD p).canLay0 = true ∧ (pyD p).depth ≤ n + 1 := by
      intro l vs a p hs r h
      obtain ⟨ps, e, rfl⟩ := Option.map_eq_some_iff.mp h
      obtain ⟨h1, h2, h3⟩ := all r e
      rw [pyD_lst]
      exact ⟨.lst hs h1, by rw [PyData.canLay0]; exact lays_all h2, by rw [PyData.depth]; exact Nat.succ_le_succ (depth_all h3)⟩
    cases d with
    | non => simp [IR.toP] at h; subst h; rw [r.non]; exact ⟨by simp only [pyD]; exact .non, by simp [pyD, PyData.canLay0], by simp [pyD, PyData.depth]⟩
    | bl b => simp [IR.toP] at h; subst h; rw [r.bl]; exact ⟨by simp only [pyD]; exact .bl b, by simp [pyD, PyData.canLay0], by simp [pyD, PyData.depth]⟩
    | int i => simp [IR.toP] at h; subst h; rw [r.int]; exact ⟨by simp only [pyD]; exact .int i, by simp [pyD, PyData.canLay0], by simp [pyD, PyData.depth]⟩
    | str t =>
      simp only [IR.toP] at h
      split at h
      · rename_i hc
        cases h
        rw [r.str]
        refine ⟨by simp only [pyD]; exact .str _, ?_, by simp [pyD, PyData.depth]⟩
        simp only [pyD, PyData.canLay0]
        show (sT t).cps.all _ = true
        simp only [sT]
        rw [← Array.all_toList]
        simpa using hc
      · cases h
    | tup l =>
      obtain ⟨a, vs, rfl, e, rr⟩ := r.tup
      simp only [IR.toP] at h
      obtain ⟨ps, e2, rfl⟩ := Option.map_eq_some_iff.mp h
      obtain ⟨h1, h2, h3⟩ := all rr e2
      rw [pyD_tup]
      exact ⟨.tup (.of e) h1, by rw [PyData.canLay0]; exact lays_all h2, by rw [PyData.depth]; exact Nat.succ_le_succ (depth_all h3)⟩
    | tl l =>
      obtain ⟨a, vs, rfl, e, _, rr⟩ := r
      simp only [IR.toP] at h
      exact lst (.of e) rr h
    | ref k =>
      obtain ⟨a, rfl, ha⟩ := r.ref
      simp only [IR.toP] at h
      split at h
      · rename_i l e
        obtain ⟨vs, e1, rr⟩ := R.ob k _ a e ha
        exact lst (.of e1) rr h
      · cases h
    | fn k => simp [IR.toP] at h
    | scr l =>
      obtain ⟨a, rfl, ha⟩ := r.scr
      simp only [IR.toP] at h
      cases h
      rw [pyD_lst]
      refine ⟨.lst ha.sq dp_ints, ?_, ?_⟩
      · rw [PyData.canLay0]
        exact lays_all fun p hp => by obtain ⟨i, _, rfl⟩ := List.mem_map.mp hp; simp [pyD, PyData.canLay0]
      · rw [PyData.depth]
        refine Nat.succ_le_succ (depth_all fun p hp => ?_)
        obtain ⟨i, _, rfl⟩ := List.mem_map.mp hp
        simp [pyD, PyData.depth]
theorem shaped_of {p : IR.P} (h1 : (pyD p).canLay0 = true) (h2 : (pyD p).depth ≤ 20) : SeqAt.shaped (pyD p) = true := by
  unfold SeqAt.shaped
  rw [h1, decide_eq_true (by omega)]
  rfl
theorem o_eqD (R : Rel N μ S H) (ra : RepV N μ H a x) (rb : RepV N μ H b y) {r : Bool} (h : IR.eqD S a b = some r) : ∃ d e, Dp N.K H x d ∧ Dp N.K H y e ∧ SeqAt.shaped d = true ∧ SeqAt.shaped e = true ∧ PyData.eqv d e = r := by
  unfold IR.eqD at h
  split at h
  · rename_i p q e1 e2
    cases h
    obtain ⟨x1, x2, x3⟩ := data_of R 20 ra e1
    obtain ⟨y1, y2, y3⟩ := data_of R 20 rb e2
    exact ⟨_, _, x1, y1, shaped_of x2 x3, shaped_of y2 y3, eqv_py p q⟩
  · cases h
theorem o_eq (R : Rel N μ S H) (ra : RepV N μ H a x) (rb : RepV N μ H b y) (g : GV N W μ H (IR.evOp .eq [a, b] S) Q) : rEqD N.K x y H Q := by
  obtain ⟨r, hr, q⟩ := GV.bool1 (o := IR.eqD S a b) R g
  obtain ⟨d, e, h1, h2, h3, h4, h5⟩ := o_eqD R ra rb hr
  exact ⟨d, e, h1, h2, h3, h4, by rw [h5]; exact q⟩
theorem o_ne (R : Rel N μ S H) (ra : RepV N μ H a x) (rb : RepV N μ H b y) (g : GV N W μ H (IR.evOp .ne [a, b] S) Q) : rNeD N.K x y H Q := by
  obtain ⟨r, hr, q⟩ := GV.bool1 (o := (IR.eqD S a b).map (!·)) R g
  obtain ⟨r', hr', rfl⟩ := Option.map_eq_some_iff.mp hr
  obtain ⟨d, e, h1, h2, h3, h4, h5⟩ := o_eqD R ra rb hr'
  exact ⟨d, e, h1, h2, h3, h4, by rw [h5]; exact q⟩
/-! ### order -/
theorem ints_of : ∀ {l : List IR.D} {is : List Int} {vs : List V}, l.mapM IR.D.isInt = some is → Reps N μ H l vs → vs = is.map V.int
  | [], is, vs, h, r => by simp at h; subst h; cases r; rfl
  | d :: l, is, vs, h, r => by
    rw [List.mapM_cons] at h
    cases r with
    | cons rd rl =>
      cases d <;> first | (simp [IR.D.isInt] at h; done) | skip
      rename_i i
      simp only [IR.D.isInt, Option.bind_eq_bind, Option.bind_some] at h
      cases e2 : l.mapM IR.D.isInt with
      | none => rw [e2] at h; simp at h
      | some r' =>
        rw [e2] at h
        simp at h
        subst h
        rw [ints_of e2 rl]
        cases rd
        rfl
theorem lexLt_ints : ∀ is js : List Int, IR.P.lts (is.map .int) (js.map .int) = some (HT.lexLt is js)
  | [], [] => by simp [IR.P.lts, HT.lexLt]
  | [], _ :: _ => by simp [IR.P.lts, HT.lexLt]
  | _ :: _, [] => by simp [IR.P.lts, HT.lexLt]
  | i :: is, j :: js => by
    rw [List.map_cons, List.map_cons, IR.P.lts, HT.lexLt_cons]
    by_cases e : i = j
    · subst e
      simp [IR.P.eqv, lexLt_ints is js]
    · simp [IR.P.eqv, e, IR.P.lt]
def rLtX (K : PySem.W.Frag) : R2 := fun x y H Q => rI0 (fun i j => .bl (decide (i < j))) x y H Q ∨ rLtT K x y H Q
theorem op_ltX {X : Cx} (hu : X.A.units < cLine) : OpR X (compareOp .Lt) (rLtX X.K) := op_lt.or (op_ltT hu)
theorem o_lt (R : Rel N μ S H) (ra : RepV N μ H a x) (rb : RepV N μ H b y) (g : GV N W μ H (IR.evOp .lt [a, b] S) Q) : rLtX N.K x y H Q := by
  obtain ⟨r, hr, q⟩ := GV.bool1 (o := IR.ltD S a b) R g
  unfold IR.ltD at hr
  split at hr
  · cases hr
    rw [ra.int, rb.int]
    exact .inl ⟨_, _, rfl, rfl, q⟩
  · split at hr
    · rename_i is js h1 h2
      rw [lexLt_ints] at hr
      cases hr
      obtain ⟨p, vs, rfl, e1, r1⟩ := ra.tup
      obtain ⟨p2, us, rfl, e2, r2⟩ := rb.tup
      rw [ints_of h1 r1] at e1
      rw [ints_of h2 r2] at e2
      exact .inr ⟨p, p2, _, _, rfl, rfl, .of e1, .of e2, q⟩
    · cases hr
  · cases hr
theorem o_le (R : Rel N μ S H) (ra : RepV N μ H a x) (rb : RepV N μ H b y) (g : GV N W μ H (IR.evOp .le [a, b] S) Q) : rI0 (fun i j => .bl (decide (i ≤ j))) x y H Q := by
  cases a <;> first | exact g.elim | skip
  cases b <;> first | exact g.elim | skip
  rw [ra.int, rb.int]
  exact ⟨_, _, rfl, rfl, GV.bl R g⟩
theorem o_gt (R : Rel N μ S H) (ra : RepV N μ H a x) (rb : RepV N μ H b y) (g : GV N W μ H (IR.evOp .gt [a, b] S) Q) : rI0 (fun i j => .bl (decide (j < i))) x y H Q := by
  cases a <;> first | exact g.elim | skip
  cases b <;> first | exact g.elim | skip
  rw [ra.int, rb.int]
  exact ⟨_, _, rfl, rfl, GV.bl R g⟩
theorem o_ge (R : Rel N μ S H) (ra : RepV N μ H a x) (rb : RepV N μ H b y) (g : GV N W μ H (IR.evOp .ge [a, b] S) Q) : rI0 (fun i j => .bl (decide (j ≤ i))) x y H Q := by
  cases a <;> first | exact g.elim | skip
  cases b <;> first | exact g.elim | skip
  rw [ra.int, rb.int]
  exact ⟨_, _, rfl, rfl, GV.bl R g⟩
theorem o_isN (R : Rel N μ S H) (ra : RepV N μ H a x) (g : GV N W μ H (IR.evOp .isN [a] S) Q) : Q (.bl (decide (x = .non))) H := by
  have g := GV.bl R (show GV N W μ H (.ok (.bl _) S) Q from g)
  cases a with
  | non => rw [ra.non]; simpa using g
  | bl b => rw [ra.bl]; simpa using g
  | int b => rw [ra.int]; simpa using g
  | str b => rw [ra.str]; simpa using g
  | tup b => obtain ⟨_, _, rfl, _⟩ := ra.tup; simpa using g
  | ref b => obtain ⟨_, rfl, _⟩ := ra.ref; simpa using g
  | tl b => obtain ⟨_, _, rfl, _⟩ := ra; simpa using g
  | fn b => cases ra; simpa using g
  | scr b => obtain ⟨_, rfl, _⟩ := ra.scr; simpa using g
theorem o_notN (R : Rel N μ S H) (ra : RepV N μ H a x) (g : GV N W μ H (IR.evOp .notN [a] S) Q) : Q (.bl (!decide (x = .non))) H := by
  have g := GV.bl R (show GV N W μ H (.ok (.bl _) S) Q from g)
  cases a with
  | non => rw [ra.non]; simpa using g
  | bl b => rw [ra.bl]; simpa using g
  | int b => rw [ra.int]; simpa using g
  | str b => rw [ra.str]; simpa using g
  | tup b => obtain ⟨_, _, rfl, _⟩ := ra.tup; simpa using g
  | ref b => obtain ⟨_, rfl, _⟩ := ra.ref; simpa using g
  | tl b => obtain ⟨_, _, rfl, _⟩ := ra; simpa using g
  | fn b => cases ra; simpa using g
  | scr b => obtain ⟨_, rfl, _⟩ := ra.scr; simpa using g
end
end IRS

namespace IRS
open PySem L2
section
variable {N : Nm} {W : Fm} {μ μ' : List Addr} {S : IR.Sto} {H H' : Hp} {Q : VK} {a b : IR.D} {x y v : V}
/-! ### dicts -/
section
variable {κ κ' : Type} [DecidableEq κ] [DecidableEq κ'] {f : κ → κ'}
theorem KR.get (inj : ∀ p q, f p = f q → p = q) : ∀ {r : List (κ × IR.D)} {r' : List (κ' × V)} (k : κ), KR N μ H f r r' → (IR.dGet r k = none ∧ valV r' (f k) = none) ∨ ∃ d v, IR.dGet r k = some d ∧ valV r' (f k) = some v ∧ Rep N μ H d v
  | _, _, k, .nil => .inl ⟨rfl, rfl⟩
  | _, _, k, .cons (k := k') (d := d) (v := v) (r := r) (r' := r') h t => by
    by_cases e : k' = k
    · subst e
      exact .inr ⟨d, v, by simp [IR.dGet], valV_pos rfl, h⟩
    · rw [valV_neg (show ¬ f k' = f k from fun z => e (inj _ _ z))]
      simp only [IR.dGet, if_neg e]
      exact KR.get inj k t
theorem KR.none_of (inj : ∀ p q, f p = f q → p = q) {r : List (κ × IR.D)} {r' : List (κ' × V)} {k : κ} (h : KR N μ H f r r') (e : IR.dGet r k = none) : valV r' (f k) = none := by
  rcases h.get inj k with ⟨_, z⟩ | ⟨d, v, z, _⟩
  · exact z
  · rw [e] at z; cases z
theorem KR.some_of (inj : ∀ p q, f p = f q → p = q) {r : List (κ × IR.D)} {r' : List (κ' × V)} {k : κ} {d : IR.D} (h : KR N μ H f r r') (e : IR.dGet r k = some d) : ∃ v, valV r' (f k) = some v ∧ Rep N μ H d v := by
  rcases h.get inj k with ⟨z, _⟩ | ⟨d', v, z, z2, z3⟩
  · rw [e] at z; cases z
  · rw [e] at z; cases z; exact ⟨v, z2, z3⟩
theorem KR.isSome (inj : ∀ p q, f p = f q → p = q) {r : List (κ × IR.D)} {r' : List (κ' × V)} (k : κ) (h : KR N μ H f r r') : (valV r' (f k)).isSome = (IR.dGet r k).isSome := by
  rcases h.get inj k with ⟨z, z2⟩ | ⟨d', v, z, z2, z3⟩
  · rw [z, z2]; rfl
  · rw [z, z2]; rfl
theorem KR.snoc {r : List (κ × IR.D)} {r' : List (κ' × V)} {k : κ} {d : IR.D} (h : KR N μ H f r r') (q : Rep N μ H d v) : KR N μ H f (r ++ [(k, d)]) (r' ++ [(f k, v)]) := by
  induction h with
  | nil => exact .cons q .nil
  | cons a _ ih => exact .cons a ih
theorem any_some (k : κ) : ∀ r : List (κ × IR.D), (r.any fun p => decide (p.1 = k)) = (IR.dGet r k).isSome
  | [] => rfl
  | p :: r => by
    by_cases e : p.1 = k
    · simp [IR.dGet, e]
    · simp [IR.dGet, e, any_some k r]
theorem KR.put (inj : ∀ p q, f p = f q → p = q) {k : κ} {d : IR.D} (q : Rep N μ H d v) {r : List (κ × IR.D)} {r' : List (κ' × V)} (h : KR N μ H f r r') : KR N μ H f (IR.dPut r k d) (putK r' (f k) v) := by
  unfold IR.dPut putK
  rw [valV_any, h.isSome inj k]
  split
  · rename_i hs
    clear hs
    induction h with
    | nil => exact .nil
    | @cons k' d' v' r r' hd t ih =>
      simp only [List.map_cons]
      by_cases e : k' = k
      · subst e
        simp only [if_pos]
        exact .cons q ih
      · simp only [if_neg e, if_neg fun z => e (inj _ _ z)]
        exact .cons hd ih
  · exact h.snoc q
theorem KR.drop (inj : ∀ p q, f p = f q → p = q) {k : κ} {r : List (κ × IR.D)} {r' : List (κ' × V)} (h : KR N μ H f r r') : KR N μ H f (IR.dDrop r k) (dropK r' (f k)) := by
  unfold IR.dDrop dropK
  induction h with
  | nil => exact .nil
  | @cons k' d' v' r r' hd t ih =>
    by_cases e : k' = k
    · subst e
      simpa using ih
    · rw [List.filter_cons, List.filter_cons, if_pos (by simpa using e), if_pos (by simpa using fun z => e (inj _ _ z))]
      exact .cons hd ih
end
theorem kyK_inj' : ∀ p q : IR.Ky, kyK p = kyK q → p = q := fun _ _ h => kyK_inj h
theorem kyKs_inj' : ∀ p q : List IR.Ky, p.map kyK = q.map kyK → p = q := fun _ _ h => kyK_map_inj h
/-- a key -/
theorem ky_of {k : IR.Ky} (r : RepV N μ H a x) (h : a.ky = some k) : x = kV (kyK k) := by
  cases a <;> first | (simp [IR.D.ky] at h; done) | skip
  · simp [IR.D.ky] at h; subst h; rw [r.int]; rfl
  · simp [IR.D.ky] at h; subst h; rw [r.str]; rfl
theorem kys_vals : ∀ {l : List IR.D} {ks : List IR.Ky} {vs : List V}, l.mapM IR.D.ky = some ks → Reps N μ H l vs → vs = (ks.map kyK).map kV
  | [], ks, vs, h, r => by simp at h; subst h; cases r; rfl
  | d :: l, ks, vs, h, r => by
    rw [List.mapM_cons] at h
    cases r with
    | cons rd rl =>
      cases e : d.ky with
      | none => rw [e] at h; simp at h
      | some k =>
        rw [e] at h
        simp only [Option.bind_eq_bind, Option.bind_some] at h
        cases e2 : l.mapM IR.D.ky with
        | none => rw [e2] at h; simp at h
        | some r' =>
          rw [e2] at h
          simp at h
          subst h
          rw [kys_vals e2 rl, ky_of rd.v e]
          rfl
theorem kys_of {ks : List IR.Ky} (r : RepV N μ H a x) (h : a.kys = some ks) : ∃ p, x = .ref p ∧ H p = some (.tup ((ks.map kyK).map kV)) := by
  cases a <;> first | (simp [IR.D.kys] at h; done) | skip
  obtain ⟨p, vs, rfl, e, rr⟩ := r.tup
  rw [kys_vals (show _ = _ from h) rr] at e
  exact ⟨p, rfl, e⟩
/-- what the dict at n holds by a key -/
theorem rdK (R : Rel N μ S H) {n : Nat} {p : Addr} {lk : Bool} {kvs : List (IR.Ky × IR.D)} (h : S[n]? = some (.dK lk kvs)) (hp : μ[n]? = some p) : ∃ r, Rd H p (.dK r) ∧ KR N μ H kyK kvs r := by
  have z := R.ob n _ p h hp
  cases lk with
  | false => obtain ⟨r, e, q⟩ := z; exact ⟨r, .inl e, q⟩
  | true => obtain ⟨o, r, e, q⟩ := z; exact ⟨r, .inr ⟨o, e⟩, q⟩
theorem rdT (R : Rel N μ S H) {n : Nat} {p : Addr} {lk : Bool} {kvs : List (List IR.Ky × IR.D)} (h : S[n]? = some (.dT lk kvs)) (hp : μ[n]? = some p) : ∃ r, Rd H p (.dT r) ∧ KR N μ H (·.map kyK) kvs r := by
  have z := R.ob n _ p h hp
  cases lk with
  | false => obtain ⟨r, e, q⟩ := z; exact ⟨r, .inl e, q⟩
  | true => obtain ⟨o, r, e, q⟩ := z; exact ⟨r, .inr ⟨o, e⟩, q⟩
theorem DGet.rk {p : Addr} {r : List (Key × V)} {k : Key} (e : Rd H p (.dK r)) : DGet H p (kV k) (valV r k) := .inl ⟨r, k, e, rfl, rfl⟩
theorem DGet.rt {p q : Addr} {r : List (List Key × V)} {k : List Key} (e : Rd H p (.dT r)) (eb : H q = some (.tup (k.map kV))) : DGet H p (.ref q) (valV r k) := .inr ⟨r, k, q, e, rfl, eb, rfl⟩
/-! ### an item -/
def rIxX (K : PySem.W.Frag) : R2 := fun x y H Q => rIx K x y H Q ∨ ∃ a v, x = .ref a ∧ DGet H a y (some v) ∧ Q v H
theorem atD_atI {α : Type} (l : List α) (i : Int) : IR.atD l i = atI l i := rfl
theorem Reps.atI {l : List IR.D} {vs : List V} {i : Int} {d : IR.D} (r : Reps N μ H l vs) (h : IR.atD l i = some d) : ∃ v, L2.atI vs i = some v ∧ Rep N μ H d v := by
  unfold IR.atD at h
  obtain ⟨j, hj, hd⟩ := Option.bind_eq_some_iff.mp h
  obtain ⟨v, hv, q⟩ := r.get hd
  refine ⟨v, ?_, q⟩
  unfold L2.atI
  rw [← r.length]
  exact Option.bind_eq_some_iff.mpr ⟨j, hj, hv⟩
theorem o_ix (R : Rel N μ S H) (ra : RepV N μ H a x) (rb : RepV N μ H b y) (g : GV N W μ H (IR.evOp .ix [a, b] S) Q) : rIxX N.K x y H Q := by
  obtain ⟨d, hd, g⟩ := GV.val1 (o := IR.ixD S a b) g
  have fin : ∀ {v : V}, Rep N μ H d v → (∀ l, d ≠ .tl l) → Q v H := fun r n => g.here R r n
  have ntl : ∀ {v : V}, Rep N μ H d v → ∀ l, d ≠ .tl l := fun r l z => by subst z; cases r
  have lst : ∀ {l : List IR.D} {p : Addr} {vs : List V}, SqL N.K H p vs → Reps N μ H l vs → (b.isInt.bind fun j => IR.atD l j) = some d → rIxX N.K (.ref p) y H Q := fun {l p vs} hs r h => by
    obtain ⟨j, hj, h⟩ := Option.bind_eq_some_iff.mp h
    cases b <;> first | (simp [IR.D.isInt] at hj; done) | skip
    cases hj
    obtain ⟨v, hv, q⟩ := r.atI h
    rw [rb.int]
    exact .inl (.inl ⟨p, vs, _, v, rfl, rfl, hs, hv, fin q (ntl q)⟩)
  cases a with
  | str s =>
    simp only [IR.ixD] at hd
    split at hd
    · rename_i hl
      obtain ⟨j, hj, h⟩ := Option.bind_eq_some_iff.mp hd
      obtain ⟨c, hc, rfl⟩ := Option.map_eq_some_iff.mp h
      cases b <;> first | (simp [IR.D.isInt] at hj; done) | skip
      cases hj
      rw [ra.str, rb.int]
      exact .inl (.inr (.inr ⟨_, _, c, rfl, rfl, by rw [sT_len]; exact line_le hl, hc, fin (.str [c]) fun _ z => nomatch z⟩))
    · cases hd
  | ref n =>
    obtain ⟨p, rfl, hp⟩ := ra.ref
    simp only [IR.ixD] at hd
    split at hd
    · rename_i lk kvs e
      obtain ⟨k, hk, h⟩ := Option.bind_eq_some_iff.mp hd
      obtain ⟨r, e1, q⟩ := rdK R e hp
      obtain ⟨v, h1, h2⟩ := q.some_of kyK_inj' h
      rw [ky_of rb hk]
      exact .inr ⟨p, v, rfl, by rw [← h1]; exact DGet.rk e1, fin h2 (ntl h2)⟩
    · rename_i lk kvs e
      obtain ⟨k, hk, h⟩ := Option.bind_eq_some_iff.mp hd
      obtain ⟨r, e1, q⟩ := rdT R e hp
      obtain ⟨v, h1, h2⟩ := q.some_of kyKs_inj' h
      obtain ⟨p2, rfl, e2⟩ := kys_of rb hk
      exact .inr ⟨p, v, rfl, by rw [← h1]; exact DGet.rt e1 e2, fin h2 (ntl h2)⟩
    · rename_i l e
      obtain ⟨vs, e1, r⟩ := R.ob n _ p e hp
      exact lst (.of e1) r hd
    · cases hd
  | tl l =>
    obtain ⟨p, vs, rfl, e1, _, r⟩ := ra
    exact lst (.of e1) r hd
  | scr l =>
    obtain ⟨p, rfl, hp⟩ := ra.scr
    simp only [IR.ixD] at hd
    refine lst hp.sq Reps.ints ?_
    obtain ⟨j, hj, h⟩ := Option.bind_eq_some_iff.mp hd
    refine Option.bind_eq_some_iff.mpr ⟨j, hj, ?_⟩
    obtain ⟨i, hi, rfl⟩ := Option.map_eq_some_iff.mp h
    unfold IR.atD at hi ⊢
    rw [List.length_map]
    obtain ⟨k, hk, h2⟩ := Option.bind_eq_some_iff.mp hi
    exact Option.bind_eq_some_iff.mpr ⟨k, hk, by rw [List.getElem?_map, h2]; rfl⟩
  | tup l =>
    obtain ⟨p, vs, rfl, e1, r⟩ := ra.tup
    simp only [IR.ixD] at hd
    obtain ⟨j, hj, h⟩ := Option.bind_eq_some_iff.mp hd
    cases b <;> first | (simp [IR.D.isInt] at hj; done) | skip
    cases hj
    obtain ⟨v, hv, q⟩ := r.atI h
    rw [rb.int]
    exact .inl (.inr (.inl ⟨p, vs, _, v, rfl, rfl, .of e1, hv, fin q (ntl q)⟩))
  | _ => cases hd
end
end IRS

namespace IRS
open PySem PySem.Spec PyProof.Rows L2
theorem ix_dict {X : Cx} (hu : X.A.units + 1 < cLine) : IxR X (fun x y H Q => ∃ a v, x = .ref a ∧ DGet H a y (some v) ∧ Q v H) := by
  intro value slice pins s σ H x y v u Q I rx ry h hs
  obtain ⟨a, z, rfl, g, q⟩ := h
  obtain rfl : v = Value.ref a := rx
  have hT := dict_typeIs I g
  unfold subscriptTail
  refine wpAny_bind ?_
  rw [getitemInPython_of_ne hT.not_modules]
  refine wpAny_bind (wpAny_specialOf hT PySem.F.slot_dict_getitem.lookup ?_)
  have fin : wpAny (model X.prog X.w) X.A (subscripted slice false (.ref a) u) (fun r s₃ => wpAny (model X.prog X.w) X.A (letTemporaryGo value (.ref a) r >>= fun _ => pure r) (EP X pins σ Q) X.xe s₃) X.xe s := by
    rw [hs]
    refine wpAny_operating (d_getItem hu I g ry fun w' s3 I3 rw' => wpAny_bind (wpAny_letTemporaryGo (wpAny_pure ⟨z, H, I3, rw', q⟩)))
  first
    | exact wpAny_pure (wpAny_bind fin)
    | exact wpAny_bind (wpAny_pure (wpAny_bind fin))
    | exact wpAny_bind fin
theorem ix_X {X : Cx} (hu : X.A.units + 1 < cLine) : IxR X (rIxX X.K) := ix_seq.or (ix_dict hu)
def rInDict (neg : Bool) : R2 := fun y x H Q => ∃ a o, x = .ref a ∧ DGet H a y o ∧ Q (.bl (if neg then !o.isSome else o.isSome)) H
theorem op_in_dict {X : Cx} (hu : X.A.units + 1 < cLine) : OpR X (compareOp .In) (rInDict false) := by
  intro pins s σ H y x u v Q I ry rx h
  obtain ⟨a, o, rfl, g, q⟩ := h
  obtain rfl : v = Value.ref a := rx
  exact d_in hu I g ry fun s3 I3 => ⟨.bl o.isSome, H, I3, rfl, q⟩
theorem op_notIn_dict {X : Cx} (hu : X.A.units + 1 < cLine) : OpR X (compareOp .NotIn) (rInDict true) := by
  intro pins s σ H y x u v Q I ry rx h
  obtain ⟨a, o, rfl, g, q⟩ := h
  obtain rfl : v = Value.ref a := rx
  exact d_notIn hu I g ry fun s3 I3 => ⟨.bl (!o.isSome), H, I3, rfl, q⟩
def rInX (K : PySem.W.Frag) : R2 := fun x y H Q => ((rInDict false x y H Q ∨ (∃ (c : Nat) (z : Str), x = .str ⟨#[c]⟩ ∧ y = .str z ∧ Q (.bl (decide (c ∈ z.cps.toList))) H)) ∨ rInD K x y H Q) ∨ rIn K false x y H Q
theorem op_inX {X : Cx} (hu : X.A.units + 65 < cLine) : OpR X (compareOp .In) (rInX X.K) := (((op_in_dict (by omega)).or op_in_sign).or (op_inD hu)).or op_in_seq
def rNotInX (K : PySem.W.Frag) : R2 := fun x y H Q => ((rInDict true x y H Q ∨ (∃ (c : Nat) (z : Str), x = .str ⟨#[c]⟩ ∧ y = .str z ∧ Q (.bl (!decide (c ∈ z.cps.toList))) H)) ∨ rNotInD K x y H Q) ∨ rIn K true x y H Q
theorem op_notInX {X : Cx} (hu : X.A.units + 65 < cLine) : OpR X (compareOp .NotIn) (rNotInX X.K) := (((op_notIn_dict (by omega)).or op_notIn_sign).or (op_notInD hu)).or op_notIn_seq
def rSetX : V → V → V → Hp → (Hp → Prop) → Prop := fun o i v H Q => rSetL o i v H Q ∨ ∃ a H', o = .ref a ∧ DPut H a i v H' ∧ Q H'
theorem set_X {X : Cx} (hu : X.A.units + 1 < cLine) : PSet X rSetX := by
  intro pins s σ H o i v ov iv u Q I ro ri rv h
  rcases h with h | ⟨a, H', rfl, g, q⟩
  · exact set_list pins s σ H o i v ov iv u Q I ro ri rv h
  · obtain rfl : ov = Value.ref a := ro
    exact d_setItem hu I g ri rv fun s' I' => ⟨H', I', q⟩
def rSlX (K : PySem.W.Frag) : V → Option Int → Option Int → Hp → VK → Prop := fun x lo hi H Q => (rSlL K x lo hi H Q ∨ rSlA K x lo hi H Q) ∨ rSlS x lo hi H Q
theorem sl_X {X : Cx} : SlR X (rSlX X.K) := (sl_list.or sl_tupA).or sl_str
section
variable {N : Nm} {W : Fm} {μ μ' : List Addr} {S : IR.Sto} {H H' : Hp} {Q : VK} {a b : IR.D} {x y v : V}
/-! ### in -/
theorem data_all (R : Rel N μ S H) (n : Nat) : ∀ {l : List IR.D} {vs : List V} {ps : List IR.P}, Reps N μ H l vs → l.mapM (IR.toP S n) = some ps → DpAll N.K H vs (ps.map pyD) ∧ (∀ p ∈ ps, (pyD p).canLay0 = true) ∧ (∀ p ∈ ps, (pyD p).depth ≤ n)
  | [], vs, ps, r, h => by
    cases r
    simp at h; subst h
    exact ⟨.nil, by simp, by simp⟩
  | d :: l, _, ps, .cons rd rl, h => by
    rw [List.mapM_cons] at h
    cases e : IR.toP S n d with
    | none => rw [e] at h; simp at h
    | some q =>
      rw [e] at h
      simp only [Option.bind_eq_bind, Option.bind_some] at h
      cases e2 : l.mapM (IR.toP S n) with
      | none => rw [e2] at h; simp at h
      | some qs =>
        rw [e2] at h
        simp at h
        subst h
        obtain ⟨x1, x2, x3⟩ := data_of R n rd.v e
        obtain ⟨y1, y2, y3⟩ := data_all R n rl e2
        refine ⟨.cons x1 y1, fun p hp => ?_, fun p hp => ?_⟩
        · rcases List.mem_cons.mp hp with rfl | hp
          · exact x2
          · exact y2 p hp
        · rcases List.mem_cons.mp hp with rfl | hp
          · exact x3
          · exact y3 p hp
theorem any_list (R : Rel N μ S H) (ra : RepV N μ H a x) {l : List IR.D} {vs : List V} {p : Addr} {r : Bool} (hs : SqL N.K H p vs) (rl : Reps N μ H l vs) (h : IR.anyEq S a l = some r) :
    ∃ d ds, Dp N.K H x d ∧ Dp N.K H (.ref p) (.list ds) ∧ SeqAt.shaped d = true ∧ SeqAt.shaped (.list ds) = true ∧ (ds.any fun z => PyData.eqv z d) = r := by
  unfold IR.anyEq at h
  split at h
  · rename_i q ps h1 h2
    cases h
    obtain ⟨x1, x2, x3⟩ := data_of R 20 ra h1
    obtain ⟨y1, y2, y3⟩ := data_all R 19 rl h2
    refine ⟨pyD q, ps.map pyD, x1, .lst hs y1, shaped_of x2 x3, ?_, ?_⟩
    · rw [← pyD_lst]
      refine shaped_of (by rw [pyD_lst, PyData.canLay0]; exact lays_all y2) (by rw [pyD_lst, PyData.depth]; exact Nat.succ_le_succ (depth_all y3))
    · rw [List.any_map]
      exact congrArg (fun f => ps.any f) (funext fun p => eqv_py p q)
  · cases h
theorem flat_of {d : IR.D} {v : V} (r : Rep N μ H d v) (f : d.flat = true) : flatV v = true := by
  cases r <;> first | rfl | cases f
theorem eqV_of {d e : IR.D} {v w : V} {p q : IR.P} {n m : Nat} (r : Rep N μ H d v) (r' : Rep N μ H e w) (f : d.flat = true) (f' : e.flat = true) (h : IR.toP S (n + 1) d = some p) (h' : IR.toP S (m + 1) e = some q) : eqV v w = p.eqv q := by
  have ok : ∀ {t : IR.Txt} {k : Nat} {p : IR.P}, IR.toP S (k + 1) (.str t) = some p → p = .str t := fun {t k p} h => by
    simp only [IR.toP] at h
    split at h
    · exact (Option.some.inj h).symm
    · cases h
  cases r <;> first | cases f | skip
  all_goals cases r' <;> first | cases f' | skip
  all_goals first | (have e1 := ok h; subst e1) | (simp only [IR.toP, Option.some.injEq] at h; subst h)
  all_goals first | (have e1 := ok h'; subst e1) | (simp only [IR.toP, Option.some.injEq] at h'; subst h')
  all_goals first | (simp [eqV, IR.P.eqv]; done) | skip
  all_goals
    rename_i t u
    simp only [eqV, IR.P.eqv]
    by_cases e : t = u
    · subst e; simp
    · rw [show (t == u) = false from by simpa using e]
      exact beq_eq_false_iff_ne.mpr fun z => e (sT_inj z)
theorem any_flat {x : V} (R : Rel N μ S H) (ra : Rep N μ H a x) (fa : a.flat = true) : ∀ {l : List IR.D} {vs : List V} {r : Bool}, Reps N μ H l vs → l.all IR.D.flat = true → IR.anyEq S a l = some r → vs.all flatV = true ∧ inV x vs = r
  | [], _, r, .nil, _, h => by
    unfold IR.anyEq at h
    split at h
    · rename_i q ps h1 h2
      simp at h2; subst h2
      cases h
      exact ⟨rfl, rfl⟩
    · cases h
  | d :: l, _, r, .cons (v := v) rd rl, fl, h => by
    unfold IR.anyEq at h
    split at h
    · rename_i q ps h1 h2
      cases h
      rw [List.mapM_cons] at h2
      cases e : IR.toP S 19 d with
      | none => rw [e] at h2; simp at h2
      | some p =>
        rw [e] at h2
        simp only [Option.bind_eq_bind, Option.bind_some] at h2
        cases e2 : l.mapM (IR.toP S 19) with
        | none => rw [e2] at h2; simp at h2
        | some qs =>
          rw [e2] at h2
          simp at h2
          subst h2
          rw [List.all_cons, Bool.and_eq_true] at fl
          obtain ⟨z1, z2⟩ := any_flat (r := qs.any fun p => p.eqv q) R ra fa rl fl.2 (by unfold IR.anyEq; rw [h1, e2])
          refine ⟨by rw [List.all_cons, z1, flat_of rd fl.1]; rfl, ?_⟩
          have z3 := eqV_of rd ra fl.1 fa e h1
          unfold inV at z2 ⊢
          rw [List.any_cons, List.any_cons, z2, z3]
    · cases h
/-- x in c -/
theorem inD_of (R : Rel N μ S H) (ra : RepV N μ H a x) (rb : RepV N μ H b y) {r : Bool} (h : IR.inD S a b = some r) :
    (∃ p o, y = .ref p ∧ DGet H p x o ∧ o.isSome = r) ∨ (∃ (c : Nat) (z : Str), x = .str ⟨#[c]⟩ ∧ y = .str z ∧ decide (c ∈ z.cps.toList) = r) ∨
    (∃ d ds, Dp N.K H x d ∧ Dp N.K H y (.list ds) ∧ SeqAt.shaped d = true ∧ SeqAt.shaped (.list ds) = true ∧ (ds.any fun z => PyData.eqv z d) = r) ∨
    ∃ p xs, y = .ref p ∧ SqT N.K H p xs ∧ flatV x = true ∧ xs.all flatV = true ∧ inV x xs = r := by
  cases b with
  | str s =>
    simp only [IR.inD] at h
    split at h
    · rename_i k
      cases h
      rw [ra.str, rb.str]
      refine .inr (.inl ⟨k, sT s, rfl, rfl, ?_⟩)
      rw [sT_cps]
      simp
    · cases h
  | ref n =>
    obtain ⟨p, rfl, hp⟩ := rb.ref
    simp only [IR.inD] at h
    split at h
    · rename_i lk kvs e
      obtain ⟨k, hk, rfl⟩ := Option.map_eq_some_iff.mp h
      obtain ⟨r, e1, q⟩ := rdK R e hp
      rw [ky_of ra hk]
      exact .inl ⟨p, _, rfl, DGet.rk e1, q.isSome kyK_inj' k⟩
    · rename_i lk kvs e
      obtain ⟨k, hk, rfl⟩ := Option.map_eq_some_iff.mp h
      obtain ⟨r, e1, q⟩ := rdT R e hp
      obtain ⟨p2, rfl, e2⟩ := kys_of ra hk
      exact .inl ⟨p, _, rfl, DGet.rt e1 e2, q.isSome kyKs_inj' k⟩
    · rename_i l e
      obtain ⟨vs, e1, rr⟩ := R.ob n _ p e hp
      exact .inr (.inr (.inl (any_list R ra (.of e1) rr h)))
    · cases h
  | tl l =>
    obtain ⟨p, vs, rfl, e1, _, rr⟩ := rb
    exact .inr (.inr (.inl (any_list R ra (.of e1) rr h)))
  | scr l =>
    obtain ⟨p, rfl, hp⟩ := rb.scr
    exact .inr (.inr (.inl (any_list R ra hp.sq Reps.ints h)))
  | tup l =>
    obtain ⟨p, vs, rfl, e1, rr⟩ := rb.tup
    simp only [IR.inD] at h
    split at h
    · rename_i hf
      rw [Bool.and_eq_true] at hf
      have ra' : Rep N μ H a x := ra.rep fun l z => by subst z; cases hf.1
      obtain ⟨z1, z2⟩ := any_flat R ra' hf.1 rr hf.2 h
      exact .inr (.inr (.inr ⟨p, vs, rfl, .of e1, flat_of ra' hf.1, z1, z2⟩))
    · cases h
  | _ => cases h
theorem o_in (R : Rel N μ S H) (ra : RepV N μ H a x) (rb : RepV N μ H b y) (g : GV N W μ H (IR.evOp .isin [a, b] S) Q) : rInX N.K x y H Q := by
  obtain ⟨r, hr, q⟩ := GV.bool1 (o := IR.inD S a b) R g
  rcases inD_of R ra rb hr with ⟨p, o, rfl, h1, h2⟩ | ⟨c, z, rfl, rfl, h2⟩ | ⟨d, ds, h1, h2, h3, h4, h5⟩ | ⟨p, xs, rfl, h1, h2, h3, h4⟩
  · exact .inl (.inl (.inl ⟨p, o, rfl, h1, by rw [if_neg (by decide), h2]; exact q⟩))
  · exact .inl (.inl (.inr ⟨c, z, rfl, rfl, by rw [h2]; exact q⟩))
  · exact .inl (.inr ⟨d, ds, h1, h2, h3, h4, by rw [h5]; exact q⟩)
  · exact .inr ⟨p, xs, rfl, .inr h1, h2, h3, by rw [if_neg (by decide), h4]; exact q⟩
theorem o_notin (R : Rel N μ S H) (ra : RepV N μ H a x) (rb : RepV N μ H b y) (g : GV N W μ H (IR.evOp .notin [a, b] S) Q) : rNotInX N.K x y H Q := by
  obtain ⟨r', hr', q⟩ := GV.bool1 (o := (IR.inD S a b).map (!·)) R g
  obtain ⟨r, hr, rfl⟩ := Option.map_eq_some_iff.mp hr'
  rcases inD_of R ra rb hr with ⟨p, o, rfl, h1, h2⟩ | ⟨c, z, rfl, rfl, h2⟩ | ⟨d, ds, h1, h2, h3, h4, h5⟩ | ⟨p, xs, rfl, h1, h2, h3, h4⟩
  · exact .inl (.inl (.inl ⟨p, o, rfl, h1, by rw [if_pos rfl, h2]; exact q⟩))
  · exact .inl (.inl (.inr ⟨c, z, rfl, rfl, by rw [h2]; exact q⟩))
  · exact .inl (.inr ⟨d, ds, h1, h2, h3, h4, by rw [h5]; exact q⟩)
  · exact .inr ⟨p, xs, rfl, .inr h1, h2, h3, by rw [if_pos rfl, h4]; exact q⟩
/-! ### a slice -/
theorem sIx_eq (n d : Nat) (o : Option Int) : IR.sIx n d o = HT.sIx n d o := by
  cases o with
  | none => rfl
  | some i =>
    simp only [IR.sIx, HT.sIx]
    by_cases h : 0 ≤ i
    · rw [if_pos h, if_neg (by omega)]
    · rw [if_neg h, if_pos (by omega)]
theorem Reps.cut {l : List IR.D} {vs : List V} (r : Reps N μ H l vs) (lo hi : Option Int) : Reps N μ H (IR.cut l lo hi) (cutV vs lo hi) := by
  unfold IR.cut cutV
  rw [sIx_eq, sIx_eq, r.length]
  exact (r.drop _).take _
theorem o_sl (R : Rel N μ S H) (ra : RepV N μ H a x) {lo hi : Option Int} (g : GV N W μ H (IR.val1 (IR.slD S a lo hi) S) Q) : rSlX N.K x lo hi H Q := by
  obtain ⟨d, hd, g⟩ := GV.val1 g
  have lst : ∀ {l : List IR.D} {p : Addr} {vs : List V}, SqL N.K H p vs → Reps N μ H l vs → d = .tl (IR.cut l lo hi) → rSlX N.K (.ref p) lo hi H Q := fun {l p vs} hs r e => by
    subst e
    exact .inl (.inl ⟨p, vs, rfl, hs, GV.newL R g (r.cut lo hi)⟩)
  cases a with
  | str s =>
    simp only [IR.slD] at hd
    split at hd
    · rename_i hl
      cases hd
      rw [ra.str]
      refine .inr ⟨_, rfl, by rw [sT_len]; exact line_le hl, ?_⟩
      have g := GV.str R g
      have e : cutS (sT s) lo hi = sT (IR.cut s lo hi) := by
        unfold cutS IR.cut
        rw [sT_cps, sT_len, sIx_eq, sIx_eq]
        rfl
      rw [e]; exact g
    · cases hd
  | tup l =>
    obtain ⟨p, vs, rfl, e1, r⟩ := ra.tup
    simp only [IR.slD] at hd
    cases hd
    refine .inl (.inr ⟨p, vs, rfl, .of e1, fun z => ?_, fun _ => GV.newT R g (r.cut lo hi)⟩)
    have e : IR.cut l lo hi = l := by
      unfold IR.cut
      rw [sIx_eq, sIx_eq, r.length, z.1, z.2]
      rw [List.drop_zero, Nat.sub_zero, ← r.length, List.take_length]
    rw [e] at g
    exact g.here R (.tup e1 r) fun _ z => nomatch z
  | ref n =>
    obtain ⟨l', hl, e⟩ := Option.map_eq_some_iff.mp (show (IR.lstItems S (.ref n)).map (fun l => IR.D.tl (IR.cut l lo hi)) = some d from hd)
    obtain ⟨p, vs, rfl, h1, h2⟩ := lst_of R ra hl
    exact lst h1 h2 e.symm
  | tl l =>
    obtain ⟨l', hl, e⟩ := Option.map_eq_some_iff.mp (show (IR.lstItems S (.tl l)).map (fun l => IR.D.tl (IR.cut l lo hi)) = some d from hd)
    obtain ⟨p, vs, rfl, h1, h2⟩ := lst_of R ra hl
    exact lst h1 h2 e.symm
  | scr l =>
    obtain ⟨l', hl, e⟩ := Option.map_eq_some_iff.mp (show (IR.lstItems S (.scr l)).map (fun l => IR.D.tl (IR.cut l lo hi)) = some d from hd)
    obtain ⟨p, vs, rfl, h1, h2⟩ := lst_of R ra hl
    exact lst h1 h2 e.symm
  | non => cases hd
  | bl b => cases hd
  | int b => cases hd
  | fn b => cases hd
/-! ### a store at a place -/
theorem o_setIx (R : Rel N μ S H) {c : IR.D} {z : V} (rc : Rep N μ H c z) (ra : RepV N μ H a x) (rb : RepV N μ H b y) {K : Hp → Prop} (g : GG N W μ H (IR.setIxD c a b S) fun _ _ _ H' => K H') : rSetX x y z H K := by
  unfold IR.setIxD at g
  cases a with
  | ref n =>
    obtain ⟨p, rfl, hp⟩ := ra.ref
    simp only at g
    split at g
    · rename_i l e
      split at g
      · rename_i j hj
        obtain ⟨i, hi, hj⟩ := Option.bind_eq_some_iff.mp hj
        cases b <;> first | (simp [IR.D.isInt] at hi; done) | skip
        cases hi
        obtain ⟨vs, e1, r⟩ := R.ob n _ p e hp
        rw [rb.int]
        refine .inl ⟨p, vs, _, j, rfl, rfl, e1, by rw [← r.length]; exact hj, ?_⟩
        have ex : Ext μ H μ (upd H p (.lst (vs.set j z))) := Ext.write hp e1 (fun _ z => nomatch z) fun _ _ z => nomatch z
        exact g μ _ ex (R.write hp ⟨_, upd_same, (r.set j rc).mono ex.w⟩ ex.w)
      · exact g.elim
    · rename_i kvs e
      split at g
      · rename_i k hk
        split at g
        · rename_i hl
          obtain ⟨r, e1, q⟩ := R.ob n _ p e hp
          rw [ky_of rb hk]
          refine .inr ⟨p, _, rfl, DPut.k e1 (by rw [← q.length]; exact line_lt hl), ?_⟩
          have ex : Ext μ H μ (upd H p (.dK (putK r (kyK k) z))) := Ext.write hp e1 (fun _ z => nomatch z) fun _ _ z => nomatch z
          exact g μ _ ex (R.write hp ⟨_, upd_same, (q.put kyK_inj' rc).mono ex.w⟩ ex.w)
        · exact g.elim
      · exact g.elim
    · rename_i kvs e
      split at g
      · rename_i k hk
        split at g
        · rename_i hl
          obtain ⟨r, e1, q⟩ := R.ob n _ p e hp
          obtain ⟨p2, rfl, e2⟩ := kys_of rb hk
          refine .inr ⟨p, _, rfl, DPut.t e1 e2 (by rw [← q.length]; exact line_lt hl), ?_⟩
          have ex : Ext μ H μ (upd H p (.dT (putK r (k.map kyK) z))) := Ext.write hp e1 (fun _ z => nomatch z) fun _ _ z => nomatch z
          exact g μ _ ex (R.write hp ⟨_, upd_same, (q.put kyKs_inj' rc).mono ex.w⟩ ex.w)
        · exact g.elim
      · exact g.elim
    · exact g.elim
  | _ => exact g.elim
end
end IRS

namespace IRS
open PySem L2
section
variable {N : Nm} {W : Fm} {μ μ' : List Addr} {S : IR.Sto} {H H' : Hp} {Q : VK} {a b : IR.D} {x y v : V}
/-! ### built-ins of one argument -/
def rLenX (K : PySem.W.Frag) : List V → Hp → VK → Prop := fun xs H Q => (∃ x n, xs = [x] ∧ LenV K x H n ∧ Q (.int n) H) ∨ ∃ a kvs, xs = [V.ref a] ∧ Rd H a (.dK kvs) ∧ Q (.int kvs.length) H
theorem call_lenX {X : Cx} : CallR X (.builtin "len") (rLenX X.K) := by
  intro pins s σ H xs us Q I r h
  rcases h with h | ⟨a, kvs, rfl, e, q⟩
  · exact call_len pins s σ H xs us Q I r h
  · obtain ⟨u, rfl, ru⟩ := vals1 r
    obtain rfl : u = Value.ref a := ru
    exact d_len I e fun t s' I' => ⟨.int kvs.length, H, I', ⟨t, rfl⟩, q⟩
theorem o_len (R : Rel N μ S H) (ra : RepV N μ H a x) (g : GV N W μ H (IR.evOp .len [a] S) Q) : rLenX N.K [x] H Q := by
  obtain ⟨d, hd, g⟩ := GV.val1 (o := (IR.lenD S a).map fun n => IR.D.int n) g
  obtain ⟨n, hn, rfl⟩ := Option.map_eq_some_iff.mp hd
  have q := GV.int R g
  cases a with
  | str s =>
    simp only [IR.lenD] at hn
    split at hn
    · rename_i hl
      cases hn
      rw [ra.str]
      exact .inl ⟨_, s.length, rfl, ⟨by rw [sT_len]; exact line_le hl, (sT_len s).symm⟩, q⟩
    · cases hn
  | tup l =>
    simp only [IR.lenD] at hn
    cases hn
    obtain ⟨p, vs, rfl, e, r⟩ := ra.tup
    exact .inl ⟨_, l.length, rfl, .inr ⟨vs, .of e, r.length⟩, q⟩
  | tl l =>
    simp only [IR.lenD] at hn
    cases hn
    obtain ⟨p, vs, rfl, e, _, r⟩ := ra
    exact .inl ⟨_, l.length, rfl, .inl ⟨vs, .of e, r.length⟩, q⟩
  | scr l =>
    simp only [IR.lenD] at hn
    cases hn
    obtain ⟨p, rfl, e⟩ := ra.scr
    exact .inl ⟨_, l.length, rfl, .inl ⟨_, e.sq, by simp⟩, q⟩
  | ref k =>
    obtain ⟨p, rfl, hp⟩ := ra.ref
    simp only [IR.lenD] at hn
    split at hn
    · rename_i e
      cases hn
      obtain ⟨r, e1, z⟩ := rdK R e hp
      rw [z.length] at q
      exact .inr ⟨p, r, rfl, e1, q⟩
    · rename_i e
      cases hn
      obtain ⟨vs, e1, r⟩ := R.ob k _ p e hp
      exact .inl ⟨_, _, rfl, .inl ⟨vs, .of e1, r.length⟩, q⟩
    · cases hn
  | _ => cases hn
theorem o_sum (R : Rel N μ S H) (ra : RepV N μ H a x) (g : GV N W μ H (IR.evOp .sum [a] S) Q) : rSum N.K [x] H Q := by
  obtain ⟨d, hd, g⟩ := GV.val1 (o := (IR.lstItems S a).bind fun l => (l.mapM IR.D.isInt).map fun is => IR.D.int is.sum) g
  obtain ⟨l, hl, h⟩ := Option.bind_eq_some_iff.mp hd
  obtain ⟨is, hi, rfl⟩ := Option.map_eq_some_iff.mp h
  obtain ⟨p, vs, rfl, h1, h2⟩ := lst_of R ra hl
  rw [ints_of hi h2] at h1
  exact ⟨p, is, rfl, h1, GV.int R g⟩
theorem bls_of : ∀ {l : List IR.D} {is : List Bool} {vs : List V}, l.mapM IR.D.isBl = some is → Reps N μ H l vs → vs = is.map V.bl
  | [], is, vs, h, r => by simp at h; subst h; cases r; rfl
  | d :: l, is, vs, h, r => by
    rw [List.mapM_cons] at h
    cases r with
    | cons rd rl =>
      cases d <;> first | (simp [IR.D.isBl] at h; done) | skip
      rename_i i
      simp only [IR.D.isBl, Option.bind_eq_bind, Option.bind_some] at h
      cases e2 : l.mapM IR.D.isBl with
      | none => rw [e2] at h; simp at h
      | some r' =>
        rw [e2] at h
        simp at h
        subst h
        rw [bls_of e2 rl]
        cases rd
        rfl
theorem strs_of : ∀ {l : List IR.D} {is : List IR.Txt} {vs : List V}, l.mapM IR.D.isStr = some is → Reps N μ H l vs → vs = (is.map sT).map V.str
  | [], is, vs, h, r => by simp at h; subst h; cases r; rfl
  | d :: l, is, vs, h, r => by
    rw [List.mapM_cons] at h
    cases r with
    | cons rd rl =>
      cases d <;> first | (simp [IR.D.isStr] at h; done) | skip
      rename_i i
      simp only [IR.D.isStr, Option.bind_eq_bind, Option.bind_some] at h
      cases e2 : l.mapM IR.D.isStr with
      | none => rw [e2] at h; simp at h
      | some r' =>
        rw [e2] at h
        simp at h
        subst h
        rw [strs_of e2 rl]
        cases rd
        rfl
theorem o_all (R : Rel N μ S H) (ra : RepV N μ H a x) (g : GV N W μ H (IR.evOp .all [a] S) Q) : rAll N.K [x] H Q := by
  obtain ⟨d, hd, g⟩ := GV.val1 (o := (IR.lstItems S a).bind fun l => (l.mapM IR.D.isBl).map fun bs => IR.D.bl (bs.all id)) g
  obtain ⟨l, hl, h⟩ := Option.bind_eq_some_iff.mp hd
  obtain ⟨is, hi, rfl⟩ := Option.map_eq_some_iff.mp h
  obtain ⟨p, vs, rfl, h1, h2⟩ := lst_of R ra hl
  rw [bls_of hi h2] at h1
  exact ⟨p, is, rfl, h1, GV.bl R g⟩
theorem foldMin_of : ∀ {l : List Int} {m : Int}, IR.foldMin l = some m → ∀ k, k ∈ l → (∀ y, y ∈ l → k ≤ y) → k = m := by
  intro l m h k hk hle
  cases l with
  | nil => cases h
  | cons x r =>
    simp only [IR.foldMin, Option.some.injEq] at h
    have aux : ∀ (r : List Int) (x : Int), (r.foldl (fun a b => if b < a then b else a) x ∈ x :: r) ∧ ∀ y ∈ x :: r, r.foldl (fun a b => if b < a then b else a) x ≤ y := by
      intro r
      induction r with
      | nil => intro x; simp
      | cons c r ih =>
        intro x
        obtain ⟨h1, h2⟩ := ih (if c < x then c else x)
        refine ⟨?_, fun y hy => ?_⟩
        · rw [List.foldl_cons]
          rcases List.mem_cons.mp h1 with h1 | h1
          · rw [h1]
            split <;> simp
          · exact List.mem_cons_of_mem _ (List.mem_cons_of_mem _ h1)
        · rw [List.foldl_cons]
          have h3 := h2 _ List.mem_cons_self
          rcases List.mem_cons.mp hy with rfl | hy
          · refine Int.le_trans h3 ?_
            split <;> omega
          · rcases List.mem_cons.mp hy with rfl | hy
            · refine Int.le_trans h3 ?_
              split <;> omega
            · exact h2 _ (List.mem_cons_of_mem _ hy)
    obtain ⟨h1, h2⟩ := aux r x
    rw [h] at h1 h2
    exact Int.le_antisymm (hle m h1) (h2 k hk)
theorem foldMax_of : ∀ {l : List Int} {m : Int}, IR.foldMax l = some m → ∀ k, k ∈ l → (∀ y, y ∈ l → y ≤ k) → k = m := by
  intro l m h k hk hle
  cases l with
  | nil => cases h
  | cons x r =>
    simp only [IR.foldMax, Option.some.injEq] at h
    have aux : ∀ (r : List Int) (x : Int), (r.foldl (fun a b => if a < b then b else a) x ∈ x :: r) ∧ ∀ y ∈ x :: r, y ≤ r.foldl (fun a b => if a < b then b else a) x := by
      intro r
      induction r with
      | nil => intro x; simp
      | cons c r ih =>
        intro x
        obtain ⟨h1, h2⟩ := ih (if x < c then c else x)
        refine ⟨?_, fun y hy => ?_⟩
        · rw [List.foldl_cons]
          rcases List.mem_cons.mp h1 with h1 | h1
          · rw [h1]
            split <;> simp
          · exact List.mem_cons_of_mem _ (List.mem_cons_of_mem _ h1)
        · rw [List.foldl_cons]
          have h3 := h2 _ List.mem_cons_self
          rcases List.mem_cons.mp hy with rfl | hy
          · refine Int.le_trans ?_ h3
            split <;> omega
          · rcases List.mem_cons.mp hy with rfl | hy
            · refine Int.le_trans ?_ h3
              split <;> omega
            · exact h2 _ (List.mem_cons_of_mem _ hy)
    obtain ⟨h1, h2⟩ := aux r x
    rw [h] at h1 h2
    exact Int.le_antisymm (h2 k hk) (hle m h1)
theorem o_min1 (R : Rel N μ S H) (ra : RepV N μ H a x) (g : GV N W μ H (IR.evOp .min1 [a] S) Q) : rMin N.K [x] H Q := by
  obtain ⟨d, hd, g⟩ := GV.val1 (o := (IR.lstItems S a).bind fun l => (l.mapM IR.D.isInt).bind fun is => (IR.foldMin is).map .int) g
  obtain ⟨l, hl, h⟩ := Option.bind_eq_some_iff.mp hd
  obtain ⟨is, hi, h⟩ := Option.bind_eq_some_iff.mp h
  obtain ⟨m, hm, rfl⟩ := Option.map_eq_some_iff.mp h
  obtain ⟨p, vs, rfl, h1, h2⟩ := lst_of R ra hl
  rw [ints_of hi h2] at h1
  exact ⟨p, is, rfl, h1, by cases is with | nil => cases hm | cons _ _ => simp, fun k hk hle => by rw [foldMin_of hm k hk hle]; exact GV.int R g⟩
theorem o_max1 (R : Rel N μ S H) (ra : RepV N μ H a x) (g : GV N W μ H (IR.evOp .max1 [a] S) Q) : rMax N.K [x] H Q := by
  obtain ⟨d, hd, g⟩ := GV.val1 (o := (IR.lstItems S a).bind fun l => (l.mapM IR.D.isInt).bind fun is => (IR.foldMax is).map .int) g
  obtain ⟨l, hl, h⟩ := Option.bind_eq_some_iff.mp hd
  obtain ⟨is, hi, h⟩ := Option.bind_eq_some_iff.mp h
  obtain ⟨m, hm, rfl⟩ := Option.map_eq_some_iff.mp h
  obtain ⟨p, vs, rfl, h1, h2⟩ := lst_of R ra hl
  rw [ints_of hi h2] at h1
  exact ⟨p, is, rfl, h1, by cases is with | nil => cases hm | cons _ _ => simp, fun k hk hle => by rw [foldMax_of hm k hk hle]; exact GV.int R g⟩
theorem o_min2 (R : Rel N μ S H) (ra : RepV N μ H a x) (rb : RepV N μ H b y) (g : GV N W μ H (IR.evOp .min2 [a, b] S) Q) : ∃ i j, [x, y] = [V.int i, .int j] ∧ Q (.int (if j < i then j else i)) H := by
  cases a <;> first | exact g.elim | skip
  cases b <;> first | exact g.elim | skip
  rw [ra.int, rb.int]
  exact ⟨_, _, rfl, GV.int R g⟩
theorem o_max2 (R : Rel N μ S H) (ra : RepV N μ H a x) (rb : RepV N μ H b y) (g : GV N W μ H (IR.evOp .max2 [a, b] S) Q) : ∃ i j, [x, y] = [V.int i, .int j] ∧ Q (.int (if j > i then j else i)) H := by
  cases a <;> first | exact g.elim | skip
  cases b <;> first | exact g.elim | skip
  rw [ra.int, rb.int]
  exact ⟨_, _, rfl, GV.int R g⟩
theorem o_abs (R : Rel N μ S H) (ra : RepV N μ H a x) (g : GV N W μ H (IR.evOp .abs [a] S) Q) : ∃ i, [x] = [V.int i] ∧ Q (.int (if i < 0 then -i else i)) H := by
  cases a <;> first | exact g.elim | skip
  rw [ra.int]
  exact ⟨_, rfl, GV.int R g⟩
def rTupX (K : PySem.W.Frag) : List V → Hp → VK → Prop := fun xs H Q => ∃ p ys, xs = [.ref p] ∧ ((SqL K H p ys ∧ ∀ l, H l = none → Q (.ref l) (upd H l (.tup ys))) ∨ (SqT K H p ys ∧ Q (.ref p) H))
theorem o_tuple (R : Rel N μ S H) (ra : RepV N μ H a x) (g : GV N W μ H (IR.evOp .tuple [a] S) Q) : rTupX N.K [x] H Q := by
  have lst : ∀ {d : IR.D}, RepV N μ H d x → GV N W μ H (IR.val1 ((IR.lstItems S d).map .tup) S) Q → rTupX N.K [x] H Q := fun rd g => by
    obtain ⟨d, hd, g⟩ := GV.val1 g
    obtain ⟨l, hl, rfl⟩ := Option.map_eq_some_iff.mp hd
    obtain ⟨p, vs, rfl, h1, h2⟩ := lst_of R rd hl
    exact ⟨p, vs, rfl, .inl ⟨h1, GV.newT R g h2⟩⟩
  cases a with
  | tup l =>
    obtain ⟨p, vs, rfl, e1, r⟩ := ra.tup
    exact ⟨p, vs, rfl, .inr ⟨.of e1, GV.here R (show GV N W μ H (.ok (.tup l) S) Q from g) (.tup e1 r) fun _ z => nomatch z⟩⟩
  | _ => exact lst ra g
theorem o_list (R : Rel N μ S H) (ra : RepV N μ H a x) (g : GV N W μ H (IR.evOp .list [a] S) Q) : ∃ p ys, [x] = [V.ref p] ∧ (SqL N.K H p ys ∨ SqT N.K H p ys) ∧ ∀ l, H l = none → Q (.ref l) (upd H l (.lst ys)) := by
  obtain ⟨d, hd, g⟩ := GV.val1 (o := (IR.items S a).map .tl) g
  obtain ⟨l, hl, rfl⟩ := Option.map_eq_some_iff.mp hd
  obtain ⟨p, vs, rfl, h1, h2⟩ := seq_of R ra hl
  exact ⟨p, vs, rfl, h1, GV.newL R g h2⟩
theorem rg_reps {i j : Int} : Reps N μ H (IR.rg i j) (rgV i j) := by
  unfold IR.rg rgV
  refine Reps.of_get (by simp) fun k d v h1 h2 => ?_
  rw [List.getElem?_map] at h1 h2
  cases e : (List.range (j - i).toNat)[k]? with
  | none => rw [e] at h1; cases h1
  | some n => rw [e] at h1 h2; cases h1; cases h2; exact .int _
def rIntX : List V → Hp → VK → Prop := fun xs H Q => ((∃ i, xs = [.int i] ∧ Q (.int i) H) ∨ ∃ k, xs = [.bl k] ∧ Q (.int (if k then 1 else 0)) H) ∨ ∃ a n, xs = [.str a] ∧ PySem.intText? a = some n ∧ a.length ≤ 640 ∧ Q (.int n) H
theorem call_intX {X : Cx} : CallR X (.type "int") rIntX := call_int1.or call_int_str
def kName : Nat → String
  | 0 => "NoneType"
  | 1 => "bool"
  | 2 => "int"
  | 3 => "str"
  | 4 => "tuple"
  | _ => "list"
def tyName : IR.Ty → Option String
  | .int => some "int"
  | .bool => some "bool"
  | .str => some "str"
  | .tuple => some "tuple"
  | .list => some "list"
  | .exc _ => none
theorem kind_of (R : Rel N μ S H) (ra : RepV N μ H a x) {k : Nat} (h : IR.kindD S a = some k) : TyX N.K H x (.type (kName k)) ∧ k < 6 := by
  cases a with
  | non => cases h; rw [ra.non]; exact ⟨.base .non, by decide⟩
  | bl b => cases h; rw [ra.bl]; exact ⟨.base (.bl b), by decide⟩
  | int b => cases h; rw [ra.int]; exact ⟨.base (.int b), by decide⟩
  | str b => cases h; rw [ra.str]; exact ⟨.base (.str _), by decide⟩
  | tup l => cases h; obtain ⟨p, vs, rfl, e, _⟩ := ra.tup; exact ⟨.base (.tup e), by decide⟩
  | tl l => cases h; obtain ⟨p, vs, rfl, e, _⟩ := ra; exact ⟨.base (.lst e), by decide⟩
  | scr l =>
    cases h
    obtain ⟨p, rfl, e⟩ := ra.scr
    rcases e with ⟨o, e⟩ | ⟨o, its, n, e, c, _⟩
    · exact ⟨.base (.frz e), by decide⟩
    · exact ⟨.kList e c, by decide⟩
  | ref n =>
    obtain ⟨p, rfl, hp⟩ := ra.ref
    simp only [IR.kindD] at h
    split at h
    · rename_i l e
      cases h
      obtain ⟨vs, e1, _⟩ := R.ob n _ p e hp
      exact ⟨.base (.lst e1), by decide⟩
    · cases h
  | fn n => cases h
theorem kit_all : ∀ k, k < 6 → ∀ t ∈ [IR.Ty.int, .bool, .str, .tuple, .list], ∀ n, tyName t = some n → kitB (kName k) n = some (IR.tyIs k t) := by decide +kernel
theorem kit_one {K : PySem.W.Frag} {k : Nat} {t : IR.Ty} {n : String} (hk : k < 6) (hn : tyName t = some n) : PySem.W.kitOne K (.type (kName k)) (.type n) = some (IR.tyIs k t) := by
  refine kit_ty (kit_all k hk t ?_ n hn)
  cases t <;> first | (simp; done) | cases hn
theorem kit_many {K : PySem.W.Frag} {k : Nat} (hk : k < 6) : ∀ {ts : List IR.Ty} {ns : List String}, ts.mapM tyName = some ns → PySem.W.kitAny K (.type (kName k)) (ns.map Value.type) = some (ts.any (IR.tyIs k))
  | [], ns, h => by simp at h; subst h; exact kitAny_nil
  | t :: ts, ns, h => by
    rw [List.mapM_cons] at h
    cases e : tyName t with
    | none => rw [e] at h; simp at h
    | some n =>
      rw [e] at h
      simp only [Option.bind_eq_bind, Option.bind_some] at h
      cases e2 : ts.mapM tyName with
      | none => rw [e2] at h; simp at h
      | some ns' =>
        rw [e2] at h
        simp at h
        subst h
        refine kitAny_cons (kit_one hk e) (fun hb => ?_) fun hb => ?_
        · rw [kit_many hk e2, List.any_cons, hb]; rfl
        · rw [List.any_cons, hb]; rfl
theorem o_isi1 (R : Rel N μ S H) (ra : RepV N μ H a x) {t : IR.Ty} {n : String} (hn : tyName t = some n) (g : GV N W μ H (IR.evOp (.isi [t]) [a] S) Q) : rIsi N.K [x, .ty n] H Q := by
  obtain ⟨d, hd, g⟩ := GV.val1 (o := (IR.kindD S a).map fun k => IR.D.bl ([t].any (IR.tyIs k))) g
  obtain ⟨k, hk, rfl⟩ := Option.map_eq_some_iff.mp hd
  obtain ⟨h1, h2⟩ := kind_of R ra hk
  refine ⟨x, .ty n, _, _, _, rfl, .ty n, h1, kit_one h2 hn, ?_⟩
  have q := GV.bl R g
  simpa using q
theorem o_isiT (R : Rel N μ S H) (ra : RepV N μ H a x) {ts : List IR.Ty} {ns : List String} {p : Addr} (hn : ts.mapM tyName = some ns) (hp : H p = some (.tup (ns.map V.ty))) (g : GV N W μ H (IR.evOp (.isi ts) [a] S) Q) : rIsiT N.K [x, .ref p] H Q := by
  obtain ⟨d, hd, g⟩ := GV.val1 (o := (IR.kindD S a).map fun k => IR.D.bl (ts.any (IR.tyIs k))) g
  obtain ⟨k, hk, rfl⟩ := Option.map_eq_some_iff.mp hd
  obtain ⟨h1, h2⟩ := kind_of R ra hk
  refine ⟨x, p, _, _, ns.map Value.type, _, rfl, hp, ?_, h1, kit_many h2 hn, GV.bl R g⟩
  clear hn hp
  induction ns with
  | nil => exact .nil
  | cons n ns ih => exact .cons (.ty n) ih
/-! ### truth -/
def rTruX (K : PySem.W.Frag) : V → Hp → (Bool → Hp → Prop) → Prop := fun x H Q => ∃ k, TruV K x H k ∧ Q k H
theorem truth_of (R : Rel N μ S H) (ra : RepV N μ H a x) {t : Bool} {S' : IR.Sto} (g : IR.truth a S = .ok t S') : S' = S ∧ TruV N.K x H t := by
  have emp : ∀ {l : List IR.D} {vs : List V}, Reps N μ H l vs → (!l.isEmpty) = !vs.isEmpty := fun r => by cases r <;> rfl
  cases a with
  | non => rw [ra.non]; cases g; exact ⟨rfl, rfl⟩
  | bl b => rw [ra.bl]; cases g; exact ⟨rfl, rfl⟩
  | int b => rw [ra.int]; cases g; exact ⟨rfl, rfl⟩
  | str s =>
    rw [ra.str]
    simp only [IR.truth] at g
    split at g
    · rename_i hl
      cases g
      refine ⟨rfl, by rw [sT_len]; exact line_le hl, ?_⟩
      rw [sT_len]
      cases s with
      | nil => rfl
      | cons c s => simp; omega
    · cases g
  | tup l => obtain ⟨p, vs, rfl, e, r⟩ := ra.tup; cases g; exact ⟨rfl, .inr (.inl ⟨vs, .of e, emp r⟩)⟩
  | tl l => obtain ⟨p, vs, rfl, e, _, r⟩ := ra; cases g; exact ⟨rfl, .inl ⟨vs, .of e, emp r⟩⟩
  | scr l =>
    obtain ⟨p, rfl, e⟩ := ra.scr
    cases g
    refine ⟨rfl, .inl ⟨_, e.sq, ?_⟩⟩
    cases l <;> rfl
  | ref n =>
    obtain ⟨p, rfl, hp⟩ := ra.ref
    simp only [IR.truth] at g
    split at g
    · rename_i l e
      obtain ⟨vs, e1, r⟩ := R.ob n _ p e hp
      cases g
      exact ⟨rfl, .inl ⟨vs, .of e1, emp r⟩⟩
    · rename_i kvs e
      obtain ⟨r, e1, z⟩ := R.ob n _ p e hp
      cases g
      refine ⟨rfl, .inr (.inr ⟨r, e1, ?_⟩)⟩
      cases z <;> rfl
    · cases g
  | fn n => cases g
theorem truth_noexc {c : Nat} {fs : List (Nat × IR.D)} {S' : IR.Sto} : IR.truth a S ≠ .exc c fs S' := fun h => by
  unfold IR.truth at h
  repeat' split at h
  all_goals cases h
/-- a truth is asked: the state stays; the base may be an older one -/
theorem GG.truth {μ0 : List Addr} {H0 : Hp} (R : Rel N μ S H) (ra : RepV N μ H a x) {β : Type} {f : Bool → IR.M β} {L : β → IR.Sto → List Addr → Hp → Prop} (g : GG N W μ0 H0 (((IR.truth a).bind f) S) L) : ∃ t, TruV N.K x H t ∧ GG N W μ0 H0 (f t S) L := by
  have g : GG N W μ0 H0 ((IR.truth a S).bind f) L := g
  cases e : IR.truth a S with
  | bad => rw [e] at g; exact g.elim
  | exc c fs S' => exact (truth_noexc e).elim
  | ok t S' =>
    obtain ⟨rfl, h⟩ := truth_of R ra e
    rw [e] at g
    exact ⟨t, h, g⟩
/-! ### methods of lists -/
theorem o_append (R : Rel N μ S H) (ra : RepV N μ H a x) (rb : Rep N μ H b y) (g : GV N W μ H (IR.evOp .append [a, b] S) Q) : rAppend x [y] H Q := by
  cases a <;> first | exact g.elim | skip
  rename_i n
  obtain ⟨p, rfl, hp⟩ := ra.ref
  have g : GV N W μ H (match S[n]? with
    | some (.lst l) => if l.length < IR.LINE then .ok .non (S.set n (.lst (l ++ [b]))) else .bad
    | _ => .bad) Q := g
  split at g
  · rename_i l e
    split at g
    · rename_i hl
      obtain ⟨vs, e1, r⟩ := R.ob n _ p e hp
      refine ⟨p, vs, y, rfl, rfl, e1, by rw [← r.length]; exact line_lt hl, ?_⟩
      have ex : Ext μ H μ (upd H p (.lst (vs ++ [y]))) := Ext.write hp e1 (fun _ z => nomatch z) fun _ _ z => nomatch z
      exact g μ _ ex (R.write hp ⟨_, upd_same, (r.append (.cons rb .nil)).mono ex.w⟩ ex.w) .non (Rep.non) fun _ _ z => nomatch z
    · exact g.elim
  · exact g.elim
end
end IRS

namespace IRS
open PySem PySem.Spec PyProof.Rows L2
/-- the world of a proof -/
structure Wd where
  P : Program
  w : World
  N : Nm
  mg : Str → Option Value
  base : Heap
  g : IR.G
/-- the names of a def by slots, its scope -/
structure Ctx where
  N : List Str
  sc : Scope
  fs : Str → Bool
  /-- within an except suite -/
  hot : Bool := false
/-- room, whatever is handled -/
structure RoomB (k : Nat) (A : Around) : Prop where
  dp : A.depth + 3 * k + 5 < recursionLimit
  un : A.units + 16 * k + 200 < cLine
/-- a def's own frame -/
structure Fx (X : Cx) : Prop where
  ex : X.ex = []
  st : X.stack = X.env :: X.outer
  fr : X.env.frame = some X.env.locals
/-- where an expression stands -/
structure Cm (D : Wd) (X : Cx) (c : Ctx) (k : Nat) (F : Fm) : Prop where
  prog : X.prog = D.P
  w : X.w = D.w
  K : X.K = D.N.K
  mg : X.mg = D.mg
  base : X.base = D.base
  N : X.N = c.N
  nd : c.N.Nodup
  sc : X.env.scope = c.sc
  fs : X.fn = c.fs
  kd : X.env.scope.kind = .function
  calm0 : c.hot = false → X.calm = true ∧ X.A.handled = none
  room0 : RoomB k X.A
  tk : Takes X F.W
/-- a def's promise: the small language's answer -/
def FmE (E : XK) : Fm := ⟨fun _ => True, fun _ => true, fun cls dd _ H => E cls dd H, fun _ _ _ _ _ => trivial, fun _ _ _ _ => trivial⟩
def spOf (N : Nm) (m : List IR.D → IR.M IR.D) (np : Nat) : Sp := fun vs H Q E => vs.length = np ∧ ∃ μ S ds, Rel N μ S H ∧ Reps N μ H ds vs ∧ GV N (FmE E) μ H (m ds S) Q
/-- a def of the module: its name, its number, how many parameters -/
structure FnAt (D : Wd) (k : Nat) (m : List IR.D → IR.M IR.D) (i np : Nat) (f : Addr) (fd : FuncData) (ps : List Str) : Prop where
  fnA : D.N.fnA i = some f
  kp : PySem.W.keepIn D.N.K (.ref f) = true
  hn : ps.length = np
  bi : Binds D.N.K fd ps []
  ok : FnOk D.P D.w D.N.K D.mg D.base (L2.CX D.P D.w) k f fd ps (spOf D.N m np)
theorem PE.weak {X : Cx} {e : Expr} {t t' : TE} (h : PE X e t) (w : ∀ σ H Q, t' σ H Q → t σ H Q) : PE X e t' := ⟨fun pins s σ H Q I q => h.run pins s σ H Q I (w σ H Q q)⟩
theorem PT.weak {X : Cx} {e : Expr} {t t' : TT} (h : PT X e t) (w : ∀ σ H Q, t' σ H Q → t σ H Q) : PT X e t' := ⟨fun pins s σ H Q I q => h.run pins s σ H Q I (w σ H Q q)⟩
theorem PW.weak {X : Cx} {e : Expr} {t t' : TT} (h : PW X e t) (w : ∀ σ H Q, t' σ H Q → t σ H Q) : PW X e t' := ⟨fun wh pins s σ H Q I q => h.run wh pins s σ H Q I (w σ H Q q)⟩
theorem PA.weak {X : Cx} {es : List Expr} {t t' : TA} (h : PA X es t) (w : ∀ σ H Q, t' σ H Q → t σ H Q) : PA X es t' := ⟨fun pos pins s σ H Q I q => h.run pos pins s σ H Q I (w σ H Q q)⟩
theorem PS.weak {X : Cx} {e : Stmt} {t t' : TS} (h : PS X e t) (w : ∀ D σ H, t' D σ H → t D σ H) : PS X e t' := ⟨fun pins s σ H D I q => h.run pins s σ H D I (w D σ H q)⟩
theorem PSs.weak {X : Cx} {e : List Stmt} {t t' : TS} (h : PSs X e t) (w : ∀ D σ H, t' D σ H → t D σ H) : PSs X e t' := ⟨fun pins s σ H D I q => h.run pins s σ H D I (w D σ H q)⟩
theorem PE.or {X : Cx} {e : Expr} {t t' : TE} (h : PE X e t) (h' : PE X e t') : PE X e (fun σ H Q => t σ H Q ∨ t' σ H Q) := ⟨fun pins s σ H Q I q => q.elim (h.run pins s σ H Q I) (h'.run pins s σ H Q I)⟩
section
variable {D : Wd} {X : Cx} {c : Ctx} {k : Nat} {F : Fm} {pos : Pos} {a b e : Expr} {es : List Expr} {ma mb : IR.Env → IR.M IR.D}
theorem Cm.calm (C : Cm D X c k F) (hh : c.hot = false) : X.calm = true := (C.calm0 hh).1
theorem Cm.room (C : Cm D X c k F) (hh : c.hot = false) : Room k X.A := ⟨(C.calm0 hh).2, C.room0.dp, C.room0.un⟩
theorem Cm.hu (C : Cm D X c k F) : X.A.units + 65 < cLine := by
  have := C.room0.un
  omega
/-! ### names, constants -/
theorem s_var (C : Cm D X c k F) {i : Nat} {x : Str} (hN : c.N[i]? = some x) (hv : Vis c.sc x) (hd : (x == ("__debug__" : Str)) = false) (hcd : (x == ("__classdict__" : Str)) = false) : PE X (.Name x pos) (tE D.N F fun ρ => IR.getVar ρ i) := by
  refine PE.weak (pe_var (i := i) (by rw [C.N]; exact hN) (by rw [C.sc]; exact hv) hd hcd) fun σ H Q h => ?_
  obtain ⟨μ, S, ρ, _, R, hρ, g⟩ := h
  unfold IR.getVar at g
  simp only at g
  split at g
  · rename_i d e
    obtain ⟨v, h1, h2⟩ := hρ.2 i d e
    exact ⟨v, h1, g μ H (Ext.refl μ H) R v h2.v fun l _ z _ => by subst z; cases h2⟩
  · exact g.elim
theorem s_c {d : IR.D} {v : V} (h : PE X e (tC v)) (r : ∀ μ H, Rep D.N μ H d v) : PE X e (tE D.N F fun _ => IR.M.pure d) := by
  refine PE.weak h fun σ H Q q => ?_
  obtain ⟨μ, S, ρ, _, R, hρ, g⟩ := q
  have r0 := r μ H
  exact g μ H (Ext.refl μ H) R v r0.v fun l _ z _ => by subst z; cases r0
/-! ### two operands -/
theorem two {ρ : IR.Env} {f : IR.D → IR.D → IR.M IR.D} {μ : List Addr} {S : IR.Sto} {H : Hp} {σ : L2.St} {Q : VK} {R2 : V → V → Hp → Prop} (hI : F.I σ) (R : Rel D.N μ S H) (hρ : RSt D.N μ H ρ σ)
    (g : GV D.N F μ H (((ma ρ).bind fun x => (mb ρ).bind fun y => f x y) S) Q)
    (h : ∀ μ2 S2 H2 x y x' y', Rel D.N μ2 S2 H2 → RepV D.N μ2 H2 x x' → RepV D.N μ2 H2 y y' → GV D.N F μ2 H2 (f x y S2) Q → R2 x' y' H2) :
    tE D.N F ma σ H fun x' H1 => tE D.N F mb σ H1 fun y' H2 => R2 x' y' H2 := by
  refine ⟨μ, S, ρ, hI, R, hρ, ?_⟩
  have aux : ∀ {r : IR.Res IR.D} {f : IR.D → IR.M IR.D} {Kt : VK} {μ : List Addr} {H : Hp}, GV D.N F μ H (r.bind f) Q → (∀ μ1 S1 H1 d v, Ext μ H μ1 H1 → Rel D.N μ1 S1 H1 → RepV D.N μ1 H1 d v → GV D.N F μ1 H1 (f d S1) Q → Kt v H1) → GV D.N F μ H r Kt := by
    intro r f Kt μ H g k
    cases r with
    | exc c fs S => exact g
    | bad => exact g
    | ok d S => exact fun μ' H' e R v rv tm => k μ' S H' d v e R rv (GV.base e g)
  refine aux g fun μ1 S1 H1 x x' e1 R1 rx g1 => ?_
  refine ⟨μ1, S1, ρ, hI, R1, hρ.mono e1.w, aux g1 fun μ2 S2 H2 y y' e2 R2 ry g2 => ?_⟩
  exact h μ2 S2 H2 x y x' y' R2 (rx.mono e2) ry g2
theorem one {ρ : IR.Env} {f : IR.D → IR.M IR.D} {μ : List Addr} {S : IR.Sto} {H : Hp} {σ : L2.St} {Q : VK} {R1 : V → Hp → Prop} (hI : F.I σ) (R : Rel D.N μ S H) (hρ : RSt D.N μ H ρ σ)
    (g : GV D.N F μ H (((ma ρ).bind fun x => f x) S) Q)
    (h : ∀ μ2 S2 H2 x x', Rel D.N μ2 S2 H2 → RepV D.N μ2 H2 x x' → GV D.N F μ2 H2 (f x S2) Q → R1 x' H2) :
    tE D.N F ma σ H fun x' H1 => R1 x' H1 := by
  refine ⟨μ, S, ρ, hI, R, hρ, ?_⟩
  have g : GV D.N F μ H ((ma ρ S).bind f) Q := g
  cases e : ma ρ S with
  | exc c fs S => rw [e] at g; exact g
  | bad => rw [e] at g; exact g
  | ok d S1 => rw [e] at g; exact fun μ' H' e R v rv tm => h μ' S1 H' d v R rv (GV.base e g)
/-- the arguments of an operation of two -/
theorem evs2 {g : IR.G} {call : Nat → List IR.D → IR.M IR.D} {x y : IR.E} {ρ : IR.Env} {β : Type} {f : List IR.D → IR.M β} {S : IR.Sto} :
    ((IR.evs g call (.cons false x (.cons false y .nil)) ρ).bind f) S = (((IR.ev g call x ρ).bind fun a => (IR.ev g call y ρ).bind fun b => f [a, b]) S) := by
  simp only [IR.evs, IR.ownIf, if_neg (show ¬ (false = true) by decide), IR.M.bind_assoc, IR.M.pure_bind]
theorem evs1 {g : IR.G} {call : Nat → List IR.D → IR.M IR.D} {x : IR.E} {ρ : IR.Env} {β : Type} {f : List IR.D → IR.M β} {S : IR.Sto} :
    ((IR.evs g call (.cons false x .nil) ρ).bind f) S = (((IR.ev g call x ρ).bind fun a => f [a]) S) := by
  simp only [IR.evs, IR.ownIf, if_neg (show ¬ (false = true) by decide), IR.M.bind_assoc, IR.M.pure_bind]
variable {call : Nat → List IR.D → IR.M IR.D} {x y z : IR.E} {o : IR.Op}
abbrev tV (D : Wd) (F : Fm) (call : Nat → List IR.D → IR.M IR.D) (x : IR.E) : TE := tE D.N F (IR.ev D.g call x)
theorem s_op2 {op : Operator} {r : R2} (ho : OpR X (binaryOp op) r) (ha : PE X a (tV D F call x)) (hb : PE X b (tV D F call y))
    (h : ∀ {μ S H Q p q p' q'}, Rel D.N μ S H → RepV D.N μ H p p' → RepV D.N μ H q q' → GV D.N F μ H (IR.evOp o [p, q] S) Q → r p' q' H Q) :
    PE X (.BinOp a op b pos) (tV D F call (.op o (.cons false x (.cons false y .nil)))) := by
  refine PE.weak (pe_op ho ha hb) fun σ H Q q => ?_
  obtain ⟨μ, S, ρ, hI, R, hρ, g⟩ := q
  have g : GV D.N F μ H (((IR.evs D.g call (.cons false x (.cons false y .nil)) ρ).bind fun l => IR.evOp o l) S) Q := g
  rw [evs2] at g
  exact two (f := fun a b => IR.evOp o [a, b]) hI R hρ g fun μ2 S2 H2 p q p' q' R2 rp rq g2 => h R2 rp rq g2
theorem s_un {op : UnaryOp} {r : V → Hp → VK → Prop} (ho : UnR X (unaryOp op) r) (ha : PE X a (tV D F call x))
    (h : ∀ {μ S H Q p p'}, Rel D.N μ S H → RepV D.N μ H p p' → GV D.N F μ H (IR.evOp o [p] S) Q → r p' H Q) : PE X (.UnaryOp op a pos) (tV D F call (.op o (.cons false x .nil))) := by
  refine PE.weak (pe_un ho ha) fun σ H Q q => ?_
  obtain ⟨μ, S, ρ, hI, R, hρ, g⟩ := q
  have g : GV D.N F μ H (((IR.evs D.g call (.cons false x .nil) ρ).bind fun l => IR.evOp o l) S) Q := g
  rw [evs1] at g
  exact one (f := fun a => IR.evOp o [a]) hI R hρ g fun μ2 S2 H2 p p' R2 rp g2 => h R2 rp g2
theorem s_cmp2 {op : CmpOp} {r : R2} (ho : OpR X (compareOp op) r) (ha : PE X a (tV D F call x)) (hb : PE X b (tV D F call y)) (hm : behindInMarks op b = false)
    (h : ∀ {μ S H Q p q p' q'}, Rel D.N μ S H → RepV D.N μ H p p' → RepV D.N μ H q q' → GV D.N F μ H (IR.evOp o [p, q] S) Q → r p' q' H Q) :
    PE X (.Compare a [op] [b] pos) (tV D F call (.op o (.cons false x (.cons false y .nil)))) := by
  refine PE.weak (pe_cmpR ho ha hb hm) fun σ H Q q => ?_
  obtain ⟨μ, S, ρ, hI, R, hρ, g⟩ := q
  have g : GV D.N F μ H (((IR.evs D.g call (.cons false x (.cons false y .nil)) ρ).bind fun l => IR.evOp o l) S) Q := g
  rw [evs2] at g
  exact two (f := fun a b => IR.evOp o [a, b]) hI R hρ g fun μ2 S2 H2 p q p' q' R2 rp rq g2 => h R2 rp rq g2
theorem s_ix (C : Cm D X c k F) (ha : PE X a (tV D F call x)) (hb : PE X b (tV D F call y)) (hs : PlainIx b) : PE X (.Subscript a b pos) (tV D F call (.op .ix (.cons false x (.cons false y .nil)))) := by
  refine PE.weak (pe_ix (ix_X (by have := C.hu; omega)) ha hb hs) fun σ H Q q => ?_
  obtain ⟨μ, S, ρ, hI, R, hρ, g⟩ := q
  have g : GV D.N F μ H (((IR.evs D.g call (.cons false x (.cons false y .nil)) ρ).bind fun l => IR.evOp .ix l) S) Q := g
  rw [evs2] at g
  refine two (f := fun a b => IR.evOp .ix [a, b]) hI R hρ g fun μ2 S2 H2 p q p' q' R2 rp rq g2 => ?_
  rw [C.K]
  exact o_ix R2 rp rq g2
/-! ### tests -/
abbrev tB' (D : Wd) (F : Fm) (call : Nat → List IR.D → IR.M IR.D) (x : IR.E) : TT := tT D.N F fun ρ => (IR.ev D.g call x ρ).bind IR.truth
theorem s_truth (C : Cm D X c k F) (ha : PE X a (tV D F call x)) (he : ∀ whole, isTrue a X.env whole = (do let v ← whole; standAt a.pos; holding [v] (truthy v))) : PT X a (tB' D F call x) := by
  refine PT.weak (pt_truth ha he) fun σ H Q q => ?_
  obtain ⟨μ, S, ρ, hI, R, hρ, g⟩ := q
  refine ⟨μ, S, ρ, hI, R, hρ, ?_⟩
  have g : GG D.N F μ H ((IR.ev D.g call x ρ S).bind IR.truth) fun b _ _ H' => Q b H' := g
  refine GG.imp (GG.bind g) fun d S1 μ1 H1 e1 R1 g1 v rv _ => ?_
  have g1 : GG D.N F μ1 H1 (((IR.truth d).bind IR.M.pure) S1) fun b _ _ H' => Q b H' := by rw [IR.M.bind_pure]; exact g1
  obtain ⟨t, h1, h2⟩ := GG.truth R1 rv g1
  refine ⟨t, by rw [C.K]; exact h1, ?_⟩
  exact h2 μ1 H1 (Ext.refl _ _) R1
theorem evOp_cmp {o : IR.Op} {p q : IR.D} {S S' : IR.Sto} {d : IR.D} (ho : o = .lt ∨ o = .le ∨ o = .gt ∨ o = .ge ∨ o = .eq ∨ o = .ne ∨ o = .isin ∨ o = .notin) (h : IR.evOp o [p, q] S = .ok d S') : ∃ b, d = .bl b := by
  have b1 : ∀ {x : Option Bool}, IR.bool1 x S = .ok d S' → ∃ b, d = .bl b := fun {x} h => by
    cases x with
    | none => cases h
    | some b => cases h; exact ⟨b, rfl⟩
  rcases ho with rfl | rfl | rfl | rfl | rfl | rfl | rfl | rfl
  · exact b1 h
  · cases p <;> first | (cases h; done) | (cases q <;> first | (cases h; done) | (cases h; exact ⟨_, rfl⟩))
  · cases p <;> first | (cases h; done) | (cases q <;> first | (cases h; done) | (cases h; exact ⟨_, rfl⟩))
  · cases p <;> first | (cases h; done) | (cases q <;> first | (cases h; done) | (cases h; exact ⟨_, rfl⟩))
  · exact b1 h
  · exact b1 h
  · exact b1 h
  · exact b1 h
theorem s_cmpT {op : CmpOp} {r : R2} (C : Cm D X c k F) (ho : OpR X (compareOp op) r) (ha : PE X a (tV D F call x)) (hb : PE X b (tV D F call y)) (hm : behindInMarks op b = false)
    (hc : o = .lt ∨ o = .le ∨ o = .gt ∨ o = .ge ∨ o = .eq ∨ o = .ne ∨ o = .isin ∨ o = .notin)
    (h : ∀ {μ S H Q p q p' q'}, Rel D.N μ S H → RepV D.N μ H p p' → RepV D.N μ H q q' → GV D.N F μ H (IR.evOp o [p, q] S) Q → r p' q' H Q) :
    PT X (.Compare a [op] [b] pos) (tB' D F call (.op o (.cons false x (.cons false y .nil)))) := by
  refine PT.weak (pt_cmpR ho ha hb hm) fun σ H Q q => ?_
  obtain ⟨μ, S, ρ, hI, R, hρ, g⟩ := q
  have g : GG D.N F μ H ((((IR.evs D.g call (.cons false x (.cons false y .nil)) ρ).bind fun l => IR.evOp o l).bind IR.truth) S) fun b _ _ H' => Q b H' := g
  rw [IR.M.bind_assoc, evs2] at g
  refine two (f := fun a b => IR.evOp o [a, b]) (Q := fun v H => ∃ k, v = .bl k ∧ Q k H) hI R hρ ?_ fun μ2 S2 H2 p q p' q' R2 rp rq g2 => h R2 rp rq g2
  have e : (fun a => (IR.ev D.g call y ρ).bind fun b => (IR.evOp o [a, b]).bind IR.truth) = fun a => ((IR.ev D.g call y ρ).bind fun b => IR.evOp o [a, b]).bind IR.truth := by
    funext a; rw [IR.M.bind_assoc]
  rw [e, ← IR.M.bind_assoc] at g
  have g : GG D.N F μ H ((((IR.ev D.g call x ρ).bind fun a => (IR.ev D.g call y ρ).bind fun b => IR.evOp o [a, b]) S).bind IR.truth) fun b _ _ H' => Q b H' := g
  have bl : ∀ d S', ((IR.ev D.g call x ρ).bind fun a => (IR.ev D.g call y ρ).bind fun b => IR.evOp o [a, b]) S = .ok d S' → ∃ b, d = .bl b := fun d S' h => by
    simp only [IR.M.bind] at h
    cases e1 : IR.ev D.g call x ρ S with
    | bad => rw [e1] at h; cases h
    | exc c fs S => rw [e1] at h; cases h
    | ok p S1 =>
      rw [e1] at h
      have h : (IR.ev D.g call y ρ S1).bind (fun b => IR.evOp o [p, b]) = .ok d S' := h
      cases e2 : IR.ev D.g call y ρ S1 with
      | bad => rw [e2] at h; cases h
      | exc c fs S => rw [e2] at h; cases h
      | ok q S2 =>
        rw [e2] at h
        exact evOp_cmp hc h
  generalize hr : ((IR.ev D.g call x ρ).bind fun a => (IR.ev D.g call y ρ).bind fun b => IR.evOp o [a, b]) S = r at g bl
  cases r with
  | bad => exact g
  | exc c fs S => exact g
  | ok d S' =>
    obtain ⟨b, rfl⟩ := bl d S' rfl
    exact fun μ' H' e R v rv _ => ⟨b, rv.bl, g μ' H' e R⟩
theorem s_notV (C : Cm D X c k F) (ha : PE X a (tV D F call x)) : PE X (.UnaryOp .Not a pos) (tV D F call (.not x)) := by
  refine PE.weak (pe_notT ha) fun σ H Q q => ?_
  obtain ⟨μ, S, ρ, hI, R, hρ, g⟩ := q
  have g : GV D.N F μ H (((IR.ev D.g call x ρ).bind fun d => (IR.truth d).bind fun t => IR.M.pure (.bl (!t))) S) Q := g
  refine one (f := fun d => (IR.truth d).bind fun t => IR.M.pure (.bl (!t))) hI R hρ g fun μ2 S2 H2 p p' R2 rp g2 => ?_
  obtain ⟨t, h1, h2⟩ := GG.truth R2 rp g2
  exact ⟨t, by rw [C.K]; exact h1, GV.bl R2 h2⟩
theorem s_notT (ha : PT X a (tB' D F call x)) : PT X (.UnaryOp .Not a pos) (tB' D F call (.not x)) := by
  refine PT.weak (pt_not ha) fun σ H Q q => ?_
  obtain ⟨μ, S, ρ, hI, R, hρ, g⟩ := q
  refine ⟨μ, S, ρ, hI, R, hρ, ?_⟩
  have e : (IR.ev D.g call (.not x) ρ).bind IR.truth = ((IR.ev D.g call x ρ).bind IR.truth).bind fun t => IR.M.pure (!t) := by
    simp only [IR.ev, IR.M.bind_assoc, IR.M.pure_bind]
    rfl
  dsimp only at g
  rw [e] at g
  exact GG.imp (GG.bind g) fun t S1 μ1 H1 e1 R1 g1 => g1 μ1 H1 (Ext.refl _ _) R1
theorem s_andV (C : Cm D X c k F) {rest : List Expr} (ha : PE X a (tV D F call x)) (hb : PE X (.BoolOp .And (b :: rest) pos) (tV D F call y)) : PE X (.BoolOp .And (a :: b :: rest) pos) (tV D F call (.and x y)) := by
  refine PE.weak (pe_andT ha hb) fun σ H Q q => ?_
  obtain ⟨μ, S, ρ, hI, R, hρ, g⟩ := q
  have g : GV D.N F μ H ((IR.ev D.g call x ρ S).bind fun d => (IR.truth d).bind fun t => if t then IR.ev D.g call y ρ else IR.M.pure d) Q := g
  refine ⟨μ, S, ρ, hI, R, hρ, ?_⟩
  cases e : IR.ev D.g call x ρ S with
  | bad => rw [e] at g; exact g
  | exc c fs S => rw [e] at g; exact g
  | ok d S1 =>
    rw [e] at g
    refine fun μ1 H1 e1 R1 v rv tm => ?_
    obtain ⟨t, h1, h2⟩ := GG.truth R1 rv (show GV D.N F μ H (((IR.truth d).bind fun t => if t then IR.ev D.g call y ρ else IR.M.pure d) S1) Q from g)
    refine ⟨t, by rw [C.K]; exact h1, ?_⟩
    cases t with
    | true => exact ⟨μ1, S1, ρ, hI, R1, hρ.mono e1.w, GV.base e1 h2⟩
    | false => exact h2 μ1 H1 e1 R1 v rv tm
theorem s_orV (C : Cm D X c k F) {rest : List Expr} (ha : PE X a (tV D F call x)) (hb : PE X (.BoolOp .Or (b :: rest) pos) (tV D F call y)) : PE X (.BoolOp .Or (a :: b :: rest) pos) (tV D F call (.or x y)) := by
  refine PE.weak (pe_orT ha hb) fun σ H Q q => ?_
  obtain ⟨μ, S, ρ, hI, R, hρ, g⟩ := q
  have g : GV D.N F μ H ((IR.ev D.g call x ρ S).bind fun d => (IR.truth d).bind fun t => if t then IR.M.pure d else IR.ev D.g call y ρ) Q := g
  refine ⟨μ, S, ρ, hI, R, hρ, ?_⟩
  cases e : IR.ev D.g call x ρ S with
  | bad => rw [e] at g; exact g
  | exc c fs S => rw [e] at g; exact g
  | ok d S1 =>
    rw [e] at g
    refine fun μ1 H1 e1 R1 v rv tm => ?_
    obtain ⟨t, h1, h2⟩ := GG.truth R1 rv (show GV D.N F μ H (((IR.truth d).bind fun t => if t then IR.M.pure d else IR.ev D.g call y ρ) S1) Q from g)
    refine ⟨t, by rw [C.K]; exact h1, ?_⟩
    cases t with
    | false => exact ⟨μ1, S1, ρ, hI, R1, hρ.mono e1.w, GV.base e1 h2⟩
    | true => exact h2 μ1 H1 e1 R1 v rv tm
theorem s_andT {rest : List Expr} (ha : PT X a (tB' D F call x)) (hb : PW X (.BoolOp .And (b :: rest) pos) (tB' D F call y)) : PW X (.BoolOp .And (a :: b :: rest) pos) (tB' D F call (.and x y)) := by
  refine PW.weak (pw_and ha hb) fun σ H Q q => ?_
  obtain ⟨μ, S, ρ, hI, R, hρ, g⟩ := q
  refine ⟨μ, S, ρ, hI, R, hρ, ?_⟩
  dsimp only at g
  have e : (IR.ev D.g call (.and x y) ρ).bind IR.truth = ((IR.ev D.g call x ρ).bind IR.truth).bind fun t => if t then (IR.ev D.g call y ρ).bind IR.truth else IR.M.pure false := by
    simp only [IR.ev, IR.M.bind_assoc]
    congr 1
    funext d
    funext S
    simp only [IR.M.bind]
    cases e : IR.truth d S with
    | bad => rfl
    | exc c fs S' => rfl
    | ok t S' =>
      cases t with
      | true => rfl
      | false =>
        have e2 : S' = S := IR.truth_st e
        subst e2
        simp only [IR.Res.bind, IR.M.pure, if_neg (show ¬ (false = true) by decide)]
        exact e
  rw [e] at g
  refine GG.imp (GG.bind g) fun t S1 μ1 H1 e1 R1 g1 => ?_
  cases t with
  | true => exact ⟨μ1, S1, ρ, hI, R1, hρ.mono e1.w, g1⟩
  | false => exact g1 μ1 H1 (Ext.refl _ _) R1
theorem s_orT {rest : List Expr} (ha : PT X a (tB' D F call x)) (hb : PW X (.BoolOp .Or (b :: rest) pos) (tB' D F call y)) : PW X (.BoolOp .Or (a :: b :: rest) pos) (tB' D F call (.or x y)) := by
  refine PW.weak (pw_or ha hb) fun σ H Q q => ?_
  obtain ⟨μ, S, ρ, hI, R, hρ, g⟩ := q
  refine ⟨μ, S, ρ, hI, R, hρ, ?_⟩
  dsimp only at g
  have e : (IR.ev D.g call (.or x y) ρ).bind IR.truth = ((IR.ev D.g call x ρ).bind IR.truth).bind fun t => if t then IR.M.pure true else (IR.ev D.g call y ρ).bind IR.truth := by
    simp only [IR.ev, IR.M.bind_assoc]
    congr 1
    funext d
    funext S
    simp only [IR.M.bind]
    cases e : IR.truth d S with
    | bad => rfl
    | exc c fs S' => rfl
    | ok t S' =>
      cases t with
      | false => rfl
      | true =>
        have e2 : S' = S := IR.truth_st e
        subst e2
        simp only [IR.Res.bind, IR.M.pure, if_pos]
        exact e
  rw [e] at g
  refine GG.imp (GG.bind g) fun t S1 μ1 H1 e1 R1 g1 => ?_
  cases t with
  | false => exact ⟨μ1, S1, ρ, hI, R1, hρ.mono e1.w, g1⟩
  | true => exact g1 μ1 H1 (Ext.refl _ _) R1
theorem s_ife {cE : Expr} (hc : PT X cE (tB' D F call z)) (ha : PE X a (tV D F call x)) (hb : PE X b (tV D F call y)) : PE X (.IfExp cE a b pos) (tV D F call (.ife z x y)) := by
  refine PE.weak (pe_ifExp hc ha hb) fun σ H Q q => ?_
  obtain ⟨μ, S, ρ, hI, R, hρ, g⟩ := q
  refine ⟨μ, S, ρ, hI, R, hρ, ?_⟩
  have g : GV D.N F μ H ((((IR.ev D.g call z ρ).bind IR.truth).bind fun t => if t then IR.ev D.g call x ρ else IR.ev D.g call y ρ) S) Q := by
    rw [IR.M.bind_assoc]; exact g
  have g : GV D.N F μ H ((((IR.ev D.g call z ρ).bind IR.truth) S).bind fun t => if t then IR.ev D.g call x ρ else IR.ev D.g call y ρ) Q := g
  show GG D.N F μ H (((IR.ev D.g call z ρ).bind IR.truth) S) _
  cases e : ((IR.ev D.g call z ρ).bind IR.truth) S with
  | bad => rw [e] at g; exact g
  | exc c fs S => rw [e] at g; exact g
  | ok t S1 =>
    rw [e] at g
    refine fun μ1 H1 e1 R1 => ?_
    cases t with
    | true => exact ⟨μ1, S1, ρ, hI, R1, hρ.mono e1.w, GV.base e1 g⟩
    | false => exact ⟨μ1, S1, ρ, hI, R1, hρ.mono e1.w, GV.base e1 g⟩
/-! ### arguments -/
def esOwn : IR.Es → List Bool
  | .nil => []
  | .cons o _ r => o :: esOwn r
abbrev tAs (D : Wd) (F : Fm) (call : Nat → List IR.D → IR.M IR.D) (xs : IR.Es) : TA := tA D.N F (esOwn xs) (IR.evs D.g call xs)
theorem s_nil : PA X [] (tAs D F call .nil) := by
  refine PA.weak pa_nil fun σ H Q q => ?_
  obtain ⟨μ, S, ρ, hI, R, hρ, g⟩ := q
  exact g μ H (Ext.refl _ _) R [] .nil
theorem s_cons {own : Bool} {xs : IR.Es} (ha : PE X a (tV D F call x)) (hr : PA X es (tAs D F call xs)) (hs : starEach (a :: es) X.env = (false, eval a X.env) :: starEach es X.env) : PA X (a :: es) (tAs D F call (.cons own x xs)) := by
  refine PA.weak (pa_cons ha hr hs) fun σ H Q q => ?_
  obtain ⟨μ, S, ρ, hI, R, hρ, g⟩ := q
  refine ⟨μ, S, ρ, hI, R, hρ, ?_⟩
  have g : GG D.N F μ H (((IR.ev D.g call x ρ S).bind (IR.ownIf own)).bind fun x => (IR.evs D.g call xs ρ).bind fun l => IR.M.pure (x :: l)) fun ds _ μ' H' => ∀ vs, RepOs D.N μ' H' (own :: esOwn xs) ds vs → Q vs H' := by
    have e : IR.evs D.g call (.cons own x xs) ρ S = ((IR.ev D.g call x ρ S).bind (IR.ownIf own)).bind fun x => (IR.evs D.g call xs ρ).bind fun l => IR.M.pure (x :: l) := by
      simp only [IR.evs, IR.M.bind]
      cases IR.ev D.g call x ρ S <;> rfl
    rw [← e]; exact g
  refine GG.own g fun μ1 S1 H1 d v e1 R1 rd g1 => ?_
  refine ⟨μ1, S1, ρ, hI, R1, hρ.mono e1.w, ?_⟩
  refine GG.imp (GG.bind (show GG D.N F μ1 H1 ((IR.evs D.g call xs ρ S1).bind fun l => IR.M.pure (d :: l)) _ from g1)) fun ds S2 μ2 H2 e2 R2 g2 vs rs => ?_
  exact g2 μ2 H2 (Ext.refl _ _) R2 (v :: vs) (.cons (rd.mono e2) rs)
/-- a call of values -/
theorem argsG {xs : IR.Es} {f : List IR.D → IR.M IR.D} {ρ : IR.Env} {μ : List Addr} {S : IR.Sto} {H : Hp} {σ : L2.St} {Q : VK} {R1 : List V → Hp → Prop} (hI : F.I σ) (R : Rel D.N μ S H) (hρ : RSt D.N μ H ρ σ)
    (g : GV D.N F μ H (((IR.evs D.g call xs ρ).bind f) S) Q) (h : ∀ μ2 S2 H2 ds vs, Ext μ H μ2 H2 → Rel D.N μ2 S2 H2 → RepOs D.N μ2 H2 (esOwn xs) ds vs → GV D.N F μ2 H2 (f ds S2) Q → R1 vs H2) :
    tAs D F call xs σ H R1 := by
  refine ⟨μ, S, ρ, hI, R, hρ, ?_⟩
  have g : GV D.N F μ H ((IR.evs D.g call xs ρ S).bind f) Q := g
  cases e : IR.evs D.g call xs ρ S with
  | bad => rw [e] at g; exact g
  | exc c fs S => rw [e] at g; exact g
  | ok ds S1 => rw [e] at g; exact fun μ' H' e R vs rv => h μ' S1 H' ds vs e R rv (GV.base e g)
/-- a built-in function or class of one or two arguments -/
theorem s_b {r : List V → Hp → VK → Prop} {xs : IR.Es} (h : PE X e (tCB r (tAs D F call xs))) (ho : ∀ {μ S H Q ds vs}, Rel D.N μ S H → RepOs D.N μ H (esOwn xs) ds vs → GV D.N F μ H (IR.evOp o ds S) Q → r vs H Q) : PE X e (tV D F call (.op o xs)) := by
  refine PE.weak h fun σ H Q q => ?_
  obtain ⟨μ, S, ρ, hI, R, hρ, g⟩ := q
  exact argsG (f := fun l => IR.evOp o l) hI R hρ g fun μ2 S2 H2 ds vs _ R2 rs g2 => ho R2 rs g2
theorem s_tup {xs : IR.Es} {x1} (h : PA X es (tAs D F call xs)) (ho : ∀ o ∈ esOwn xs, o = true) (hl : (esOwn xs).length ≤ 1000) : PE X (.Tuple es x1 pos) (tV D F call (.op .tup xs)) := by
  refine PE.weak (pe_tup h) fun σ H Q q => ?_
  obtain ⟨μ, S, ρ, hI, R, hρ, g⟩ := q
  refine argsG (f := fun l => IR.evOp .tup l) hI R hρ g fun μ2 S2 H2 ds vs _ R2 rs g2 => ?_
  refine ⟨by rw [rs.length.2]; exact Nat.le_trans hl (by decide), GV.newT (W := F) R2 ?_ (rs.reps ho)⟩
  have e : IR.evOp .tup ds S2 = .ok (.tup ds) S2 := by
    unfold IR.evOp
    rfl
  rw [← e]; exact g2
theorem s_lst {xs : IR.Es} (h : PA X es (tAs D F call xs)) (ho : ∀ o ∈ esOwn xs, o = true) (hl : (esOwn xs).length ≤ 1000) : PE X (.List es pos) (tV D F call (.op .lst xs)) := by
  refine PE.weak (pe_lst h) fun σ H Q q => ?_
  obtain ⟨μ, S, ρ, hI, R, hρ, g⟩ := q
  refine argsG (f := fun l => IR.evOp .lst l) hI R hρ g fun μ2 S2 H2 ds vs _ R2 rs g2 => ?_
  refine ⟨by rw [rs.length.2]; exact Nat.le_trans hl (by decide), GV.newL (W := F) R2 ?_ (rs.reps ho)⟩
  have e : IR.evOp .lst ds S2 = .ok (.tl ds) S2 := by
    unfold IR.evOp
    rfl
  rw [← e]; exact g2
/-- a call of a def -/
theorem gv_call {μ : List Addr} {H : Hp} {r : IR.Res IR.D} {Q : VK} {σ : L2.St} (hI : F.I σ) (g : GV D.N F μ H r Q) : GV D.N (FmE (WE F.W σ)) μ H r Q := by
  cases r with
  | bad => exact g
  | ok d S => exact g
  | exc c fs S => exact fun μ' H' cls dd e R x nw _ _ => g μ' H' cls dd e R x nw σ hI
theorem s_call (C : Cm D X c k F) {f : Addr} {fd : FuncData} {ps : List Str} {i np : Nat} {n : Str} {p : Pos} {xs : IR.Es} (A : FnAt D k (call i) i np f fd ps) (hg : Gl X n) (hm : D.mg n = some (.ref f)) (ha : PA X (e :: es) (tAs D F call xs))
    (ho : ∀ o ∈ esOwn xs, o = true) (hl : (esOwn xs).length = np) (hdb : (n == ("__debug__" : Str)) = false) (he : starEach (e :: es) X.env = (false, eval e X.env) :: starEach es X.env) (hpl : (backTo pos (starEach es X.env)).any (·.1) = false) (hh : c.hot = false := by rfl) :
    PE X (.Call (.Name n p) (e :: es) [] pos) (tV D F call (.call i xs)) := by
  have ok : FnOk X.prog X.w X.K X.mg X.base (L2.CX X.prog X.w) k f fd ps (spOf D.N (call i) np) := by rw [C.prog, C.w, C.K, C.mg, C.base]; exact A.ok
  refine PE.weak (pe_callS ok (C.room hh) hg (by rw [C.mg]; exact hm) (by rw [C.K]; exact A.kp) (by rw [C.K]; exact A.bi) (fun σ => passAt C.tk σ) ha hdb he hpl) fun σ H Q q => ?_
  obtain ⟨μ, S, ρ, hI, R, hρ, g⟩ := q
  refine argsG (f := fun l => call i l) hI R hρ g fun μ2 S2 H2 ds vs _ R2 rs g2 => ?_
  exact ⟨by rw [rs.length.2]; exact hl, μ2, S2, ds, R2, rs.reps ho, gv_call hI g2⟩
end
end IRS

namespace IRS
open PySem PySem.Spec PyProof.Rows L2
/-- what is known of the defs and classes at a level -/
structure Kn (D : Wd) (k : Nat) (call : Nat → List IR.D → IR.M IR.D) (mname : List (Str × Nat)) : Prop where
  cls : ∀ c C, D.N.clA c = some C → Cls D.N.K C ∧ ∀ n ∈ D.N.fld, NoAttr D.N.K C n
  meth : ∀ c C cl m i n np, D.N.clA c = some C → D.g.cls c = some cl → cl.ms.lookup m = some i → mname[m]? = some (n, np) → ∃ f fd ps, Meth D.N.K C n f ∧ FnAt D k (call i) i np f fd ps
  sep : ∀ p ∈ mname, p.1 ∉ D.N.fld
  fnd : D.N.fld.Nodup
theorem Rel.fresh_of {N : Nm} {μ : List Addr} {S : IR.Sto} {H H1 : Hp} {p : Addr} (_ : Rel N μ S H) (h : H1 p = none) (R1 : Rel N μ S H1) : p ∉ μ := R1.fresh h
section
variable {D : Wd} {X : Cx} {c : Ctx} {k : Nat} {F : Fm} {pos : Pos} {a b e o : Expr} {es : List Expr} {ma mb : IR.Env → IR.M IR.D} {call : Nat → List IR.D → IR.M IR.D} {x y z : IR.E} {mname : List (Str × Nat)}
theorem one' {ρ : IR.Env} {β : Type} {f : IR.D → IR.M β} {L : β → IR.Sto → List Addr → Hp → Prop} {μ : List Addr} {S : IR.Sto} {H : Hp} {σ : L2.St} {R1 : V → Hp → Prop} (hI : F.I σ) (R : Rel D.N μ S H) (hρ : RSt D.N μ H ρ σ)
    (g : GG D.N F μ H (((ma ρ).bind fun x => f x) S) L)
    (h : ∀ μ2 S2 H2 x x', Ext μ H μ2 H2 → Rel D.N μ2 S2 H2 → RepV D.N μ2 H2 x x' → Tmp H x x' → GG D.N F μ H (f x S2) L → R1 x' H2) :
    tE D.N F ma σ H fun x' H1 => R1 x' H1 := by
  refine ⟨μ, S, ρ, hI, R, hρ, ?_⟩
  have g : GG D.N F μ H ((ma ρ S).bind f) L := g
  cases e : ma ρ S with
  | exc c fs S => rw [e] at g; exact g
  | bad => rw [e] at g; exact g
  | ok d S1 => rw [e] at g; exact fun μ' H' e R v rv tm => h μ' S1 H' d v e R rv tm g
/-! ### fields -/
theorem FR.get {N : Nm} {μ : List Addr} {H : Hp} (nd : N.fld.Nodup) : ∀ {r : List (Nat × IR.D)} {r' : List (Str × V)} {f : Nat} {n : Str}, FR N μ H r r' → N.fld[f]? = some n →
    (r.lookup f = none ∧ r'.lookup n = none) ∨ ∃ d v, r.lookup f = some d ∧ r'.lookup n = some v ∧ Rep N μ H d v
  | _, _, _, _, .nil, _ => .inl ⟨rfl, rfl⟩
  | _, _, f, n, .cons (k := k) (n := n') (d := d) (v := v) hk hd t, hf => by
    by_cases e : k = f
    · subst e
      rw [hf] at hk; cases hk
      refine .inr ⟨d, v, ?_, ?_, hd⟩ <;> simp [List.lookup]
    · have e2 : n' ≠ n := fun z => by
        subst z
        have l1 := (List.getElem?_eq_some_iff.mp hk)
        have l2 := (List.getElem?_eq_some_iff.mp hf)
        exact e ((List.getElem_inj nd).mp (l1.2.trans l2.2.symm))
      rcases FR.get nd t hf with ⟨h1, h2⟩ | ⟨d', v', h1, h2, h3⟩
      · refine .inl ⟨?_, ?_⟩
        · rw [List.lookup_cons, show (f == k) = false from by simpa using Ne.symm e]; exact h1
        · rw [List.lookup_cons, show (n == n') = false from by simpa using Ne.symm e2]; exact h2
      · refine .inr ⟨d', v', ?_, ?_, h3⟩
        · rw [List.lookup_cons, show (f == k) = false from by simpa using Ne.symm e]; exact h1
        · rw [List.lookup_cons, show (n == n') = false from by simpa using Ne.symm e2]; exact h2
theorem FR.no {N : Nm} {μ : List Addr} {H : Hp} {n : Str} (hn : n ∉ N.fld) : ∀ {r : List (Nat × IR.D)} {r' : List (Str × V)}, FR N μ H r r' → r'.lookup n = none
  | _, _, .nil => rfl
  | _, _, .cons (n := n') hk hd t => by
    rw [List.lookup_cons, show (n == n') = false from by simpa using fun z : n = n' => hn (by rw [z]; exact List.mem_of_getElem? hk)]
    exact FR.no hn t
theorem FR.put {N : Nm} {μ : List Addr} {H : Hp} (nd : N.fld.Nodup) {f : Nat} {n : Str} {d : IR.D} {v : V} (hf : N.fld[f]? = some n) (hd : Rep N μ H d v) : ∀ {r : List (Nat × IR.D)} {r' : List (Str × V)}, FR N μ H r r' → FR N μ H (IR.fPut r f d) (putF n v r')
  | _, _, .nil => .cons hf hd .nil
  | _, _, .cons (k := k) (n := n') (d := d') (v := v') (r := r) (r' := r') hk hd' t => by
    by_cases e : k = f
    · subst e
      rw [hf] at hk; cases hk
      have e1 : putF n v ((n, v') :: r') = (n, v) :: r' := by simp [putF]
      rw [e1]
      simp only [IR.fPut, if_pos]
      exact .cons hf hd t
    · have e2 : n' ≠ n := fun z => by
        subst z
        have l1 := (List.getElem?_eq_some_iff.mp hk)
        have l2 := (List.getElem?_eq_some_iff.mp hf)
        exact e ((List.getElem_inj nd).mp (l1.2.trans l2.2.symm))
      have e1 : putF n v ((n', v') :: r') = (n', v') :: putF n v r' := by simp [putF, e2]
      rw [e1]
      simp only [IR.fPut, if_neg e]
      exact .cons hk hd' (FR.put nd hf hd t)
theorem s_attr (C : Cm D X c k F) (Kk : Kn D k call mname) {f : Nat} {n : Str} (hf : D.N.fld[f]? = some n) (ha : PE X e (tV D F call x)) (hb : attributeBase e n X.env (eval e X.env) = eval e X.env) : PE X (.Attribute e n pos) (tV D F call (.op (.attr f) (.cons false x .nil))) := by
  refine PE.weak (pe_fld ha hb) fun σ H Q q => ?_
  obtain ⟨μ, S, ρ, hI, R, hρ, g⟩ := q
  have g : GV D.N F μ H (((IR.evs D.g call (.cons false x .nil) ρ).bind fun l => IR.evOp (.attr f) l) S) Q := g
  rw [evs1] at g
  refine one (f := fun a => IR.evOp (.attr f) [a]) hI R hρ g fun μ2 S2 H2 p p' R2 rp g2 => ?_
  cases p <;> first | exact g2.elim | skip
  rename_i r
  obtain ⟨a, rfl, hp⟩ := rp.ref
  have g2 : GV D.N F μ2 H2 (match S2[r]? with
    | some (.ins _ fs) => IR.val1 (fs.lookup f) S2
    | _ => .bad) Q := g2
  split at g2
  · rename_i cc fs e
    obtain ⟨Ca, dx, r', hc, e1, fr⟩ := R2.ob r _ a e hp
    obtain ⟨h1, h2⟩ := Kk.cls cc Ca hc
    obtain ⟨d, hd, g3⟩ := GV.val1 g2
    rcases fr.get Kk.fnd hf with ⟨z1, _⟩ | ⟨d', v, z1, z2, z3⟩
    · rw [hd] at z1; cases z1
    · rw [hd] at z1; cases z1
      refine ⟨a, Ca, dx, r', v, rfl, e1, by rw [C.K]; exact h1, by rw [C.K]; exact h2 n (List.mem_of_getElem? hf), z2, ?_⟩
      exact g3.here R2 z3 fun l z => by subst z; cases z3
  · exact g2.elim
/-! ### methods -/
theorem meth_eval {env : Env} {m : Str} {apos : Pos} {args : List Expr} (hbase : attributeBase o m env (eval o env) = eval o env) (hfew : methodCallForm args.length (backTo pos (starEach args env)) [] = true) (hline : (apos.endLine == pos.line) = true) :
    eval (.Call (.Attribute o m apos) args [] pos) env = (do
      let ov ← eval o env
      standAt apos.atName
      let (f, first) ← holding [ov] (getMethod ov m (do return (← importBound o env).getD true))
      callWith pos f first (backTo pos (starEach args env)) (backToKw pos (keywordEach [] env))) := by
  have hfew : methodCallForm (args.length + ([] : List Keyword).length) (backTo pos (starEach args env)) (backToKw pos (keywordEach [] env)) = true := hfew
  rw [arm_eval_Call, hbase]
  unfold methodCall
  rw [hfew]
  unfold calleeOf methodCallPos
  simp only [hline, Bool.not_true, Bool.false_or, if_true, pure_bind]
theorem s_meth (C : Cm D X c k F) (Kk : Kn D k call mname) {m np : Nat} {n : Str} {apos : Pos} {xs : IR.Es} (hm : mname[m]? = some (n, np)) (ho : PE X o (tV D F call x)) (ha : PA X es (tAs D F call xs)) (hown : ∀ o ∈ esOwn xs, o = true)
    (hbase : attributeBase o n X.env (eval o X.env) = eval o X.env) (hfew : methodCallForm es.length (backTo pos (starEach es X.env)) [] = true) (hline : (apos.endLine == pos.line) = true)
    (hnp : (esOwn xs).length + 1 = np)
    (hnil : es = [] → xs = .nil) (he : ∀ e r, es = e :: r → starEach (e :: r) X.env = (false, eval e X.env) :: starEach r X.env ∧ (backTo pos (starEach r X.env)).any (·.1) = false) (hh : c.hot = false := by rfl) :
    PE X (.Call (.Attribute o n apos) es [] pos) (tV D F call (.meth m x xs)) := by
  refine ⟨fun pins s σ H Q I q => ?_⟩
  obtain ⟨μ, S, ρ, hI, R, hρ, g⟩ := q
  refine PySem.W.methodCall_KW (thn (ho.run pins s σ H (fun v H1 => ∃ μ1 S1 d i, Rel D.N μ1 S1 H1 ∧ RSt D.N μ1 H1 ρ σ ∧ RepV D.N μ1 H1 d v ∧ IR.methOf D.g S1 m d = some i ∧ GV D.N F μ1 H1 (((IR.evs D.g call xs ρ).bind fun l => call i (d :: l)) S1) Q) I ?_) fun u s1 ⟨v, H1, I1, rv, μ1, S1, d, i, R1, hρ1, rd, hi, g1⟩ => ?_) (meth_eval hbase hfew hline)
  · refine one' (f := fun d => (IR.methM D.g m d).bind fun f => (IR.evs D.g call xs ρ).bind fun l => call f (d :: l)) hI R hρ g fun μ2 S2 H2 p p' e2 R2 rp _ g2 => ?_
    have g2 : GV D.N F μ H ((IR.methM D.g m p S2).bind fun f => (IR.evs D.g call xs ρ).bind fun l => call f (p :: l)) Q := g2
    unfold IR.methM at g2
    cases e : IR.methOf D.g S2 m p with
    | none => rw [e] at g2; exact g2.elim
    | some i => rw [e] at g2; exact ⟨μ2, S2, p, i, R2, hρ.mono e2.w, rp, e, GV.base e2 g2⟩
  · unfold IR.methOf at hi
    split at hi
    · rename_i r
      split at hi
      · rename_i cc fs e
        obtain ⟨cl, hcl, hml⟩ := Option.bind_eq_some_iff.mp hi
        obtain ⟨a, rfl, hp⟩ := rd.ref
        obtain ⟨Ca, dx, r', hc, e1, fr⟩ := R1.ob r _ a e hp
        obtain ⟨f, fd, ps, hM, A⟩ := Kk.meth cc Ca cl m i n np hc hcl hml hm
        obtain ⟨h1, _⟩ := Kk.cls cc Ca hc
        obtain rfl : u = Value.ref a := rv
        have ok : FnOk X.prog X.w X.K X.mg X.base (L2.CX X.prog X.w) k f fd ps (spOf D.N (call i) np) := by rw [C.prog, C.w, C.K, C.mg, C.base]; exact A.ok
        refine getmeth_ok I1 e1 (by rw [C.K]; exact h1) (by rw [C.K]; exact hM) (fr.no (Kk.sep _ (List.mem_of_getElem? hm))) ?_
        have kp : PySem.W.keepIn X.K (.ref f) = true := by rw [C.K]; exact hM.kp
        have bi : Binds X.K fd ps [] := by rw [C.K]; exact A.bi
        cases es with
        | nil =>
          have e3 := hnil rfl
          subst e3
          refine PySem.W.callWith_K0 (first := [.ref a]) I1.kIn kp ?_
          refine run_fnS (us := [.ref a]) (vs := [.ref a]) (E := WE F.W) ok (C.room hh) bi (passAt C.tk σ) I1 (.cons rfl .nil) ?_
          exact ⟨by rw [← hnp]; rfl, μ1, S1, [.ref r], R1, .cons (.ref hp) .nil, gv_call hI g1⟩
        | cons e r' =>
          obtain ⟨z1, z2⟩ := he e r' rfl
          have q : tAs D F call xs σ H1 fun vs H2 => spOf D.N (call i) np (.ref a :: vs) H2 Q (WE F.W σ) := argsG (f := fun l => call i (.ref r :: l)) hI R1 hρ1 g1 fun μ2 S2 H2 ds vs e2 R2 rs g2 =>
            ⟨by rw [List.length_cons, rs.length.2]; omega, μ2, S2, .ref r :: ds, R2, .cons (.ref (prefix_get e2.pre hp)) (rs.reps hown), gv_call hI g2⟩
          refine PySem.W.callWith_K (first := [.ref a]) (h₀ := X.base) I1.ok.mod.kin kp (thn (ha.run pos pins s1 σ H1 _ I1 q) fun us s2 ⟨vs, H2, I2, r2, q2⟩ => ⟨I2.kIn, ?_⟩) z1 z2
          exact run_fnS (us := .ref a :: us) (vs := .ref a :: vs) (E := WE F.W) ok (C.room hh) bi (passAt C.tk σ) I2 (.cons rfl r2) q2
      · cases hi
    · cases hi
/-! ### a new one of a class -/
theorem run_makeS {pins : List (Addr × Obj)} {σ : L2.St} {H : Hp} {s : Shared} {Q : VK} {us : List Value} {vs : List V} {CX : CXT} {k : Nat} {f Ca : Addr} {fd : FuncData} {ps : List Str} {sp : Sp} {E : XK} (M : Mk X.K Ca f) (F : FnOk X.prog X.w X.K X.mg X.base CX k f fd ps sp) (hr : Room (k + 1) X.A) (hb : Binds X.K fd ps [])
    (hx : PassesAt CX X σ E) (I : Inv X pins σ H s) (r : Vals vs us)
    (h : ∀ x dx, H x = none → H dx = none → dx ≠ x → sp (.ref x :: vs) (upd (upd H dx (.own x)) x (.ins Ca dx [])) (fun v H2 => v = .non ∧ Q (.ref x) H2) E) :
    wpAny (model X.prog X.w) X.A (PySem.call (.ref Ca) us) (EP X pins σ Q) X.xe s := by
  have hq := h (s.heap.objs.size + 1) s.heap.objs.size (I.hok.fresh (Nat.le_succ _)) (I.hok.fresh (Nat.le_refl _)) (Nat.ne_of_lt (Nat.lt_succ_self _))
  have I2 := Inv.made (C := Ca) I
  have r2 : Vals (V.ref (s.heap.objs.size + 1) :: vs) (Value.ref (s.heap.objs.size + 1) :: us) := .cons rfl r
  have hl : (Value.ref (s.heap.objs.size + 1) :: us ++ []).length = ps.length := by
    have e := r2.length
    rw [F.len _ _ _ _ hq] at e
    rw [List.append_nil]
    exact e.symm
  have hb2 := hb _ (Value.ref (s.heap.objs.size + 1) :: us) I2.kIn hl
  rw [List.append_nil] at hb2
  refine wpAny_call (make_map (f := f) I.kIn M.makes M.init (beq_iff_eq.mp M.fn) (codeAny_mono (F.run _ X.stack _ _ ⟨Value.ref (s.heap.objs.size + 1) :: us, []⟩ (Value.ref (s.heap.objs.size + 1) :: us) _ _ E (hr.make Ca us [])
    (I2.env0.make Ca us []) hb2 r2 hq) fun r s' hq' => ?_))
  cases r with
  | error e => exact hx pins _ _ e s' I2 hq'
  | ok fl =>
    cases fl with
    | ret u =>
      obtain ⟨v, H', I3, rv, ev, q3⟩ := I2.after hq'
      subst ev
      exact ⟨rv, ⟨V.ref (s.heap.objs.size + 1), H', I3, rfl, q3⟩⟩
    | next => exact False.elim hq'
    | brk => exact False.elim hq'
    | cont => exact False.elim hq'
theorem s_new (C : Cm D X c (k + 1) F) {cc : Nat} {cl : IR.Cl} {Ca f : Addr} {fd : FuncData} {ps : List Str} {np : Nat} {n : Str} {p : Pos} {xs : IR.Es} (hcl : D.g.cls cc = some cl) (hC : D.N.clA cc = some Ca) (M : Mk D.N.K Ca f) (A : FnAt D k (call cl.init) cl.init np f fd ps)
    (hg : Gl X n) (hm : D.mg n = some (.ref Ca)) (ha : PA X (e :: es) (tAs D F call xs)) (ho : ∀ o ∈ esOwn xs, o = true) (hl : (esOwn xs).length + 1 = np) (hdb : (n == ("__debug__" : Str)) = false)
    (he : starEach (e :: es) X.env = (false, eval e X.env) :: starEach es X.env) (hpl : (backTo pos (starEach es X.env)).any (·.1) = false) (hh : c.hot = false := by rfl) :
    PE X (.Call (.Name n p) (e :: es) [] pos) (tV D F call (.new cc xs)) := by
  have ok : FnOk X.prog X.w X.K X.mg X.base (L2.CX X.prog X.w) k f fd ps (spOf D.N (call cl.init) np) := by rw [C.prog, C.w, C.K, C.mg, C.base]; exact A.ok
  have M' : Mk X.K Ca f := by rw [C.K]; exact M
  have bi : Binds X.K fd ps [] := by rw [C.K]; exact A.bi
  refine ⟨fun pins s σ H Q I q => ?_⟩
  obtain ⟨μ, S, ρ, hI, R, hρ, g⟩ := q
  refine wpAny_Call_Name_kw (ld_glob I hg (by rw [C.mg]; exact hm) ?_ hdb)
  have q : tAs D F call xs σ H fun vs H1 => ∃ μ1 S1 ds, Rel D.N μ1 S1 H1 ∧ Reps D.N μ1 H1 ds vs ∧ vs.length + 1 = np ∧ GV D.N F μ1 H1 (IR.runNew D.g call cc ds S1) Q :=
    argsG (f := fun l => IR.runNew D.g call cc l) hI R hρ g fun μ2 S2 H2 ds vs e2 R2 rs g2 => ⟨μ2, S2, ds, R2, rs.reps ho, by rw [rs.length.2]; exact hl, g2⟩
  refine PySem.W.callWith_K (h₀ := X.base) I.ok.mod.kin M'.kp (thn (ha.run pos pins s σ H _ I q) fun us s1 ⟨vs, H1, I1, r, μ1, S1, ds, R1, rs, hlen, g1⟩ => ⟨I1.kIn, ?_⟩) he hpl
  refine run_makeS (E := WE F.W σ) M' ok (C.room hh) bi (passAt C.tk σ) I1 r fun xa dx hx hdx hne => ?_
  refine ⟨by rw [List.length_cons]; exact hlen, ?_⟩
  have e1 : Ext μ1 H1 μ1 (upd H1 dx (.own xa)) := Ext.laid hdx
  have hx2 : (upd H1 dx (.own xa)) xa = none := by rw [upd_ne (Ne.symm hne)]; exact hx
  have e2 : Ext μ1 H1 μ1 (upd (upd H1 dx (.own xa)) xa (.ins Ca dx [])) := e1.trans (Ext.laid hx2)
  have R2 : Rel D.N μ1 S1 (upd (upd H1 dx (.own xa)) xa (.ins Ca dx [])) := (R1.laid hdx).laid hx2
  have e3 : Ext μ1 H1 (μ1 ++ [xa]) (upd (upd H1 dx (.own xa)) xa (.ins Ca dx [])) := e2.add hx
  have R3 : Rel D.N (μ1 ++ [xa]) (S1 ++ [.ins cc []]) (upd (upd H1 dx (.own xa)) xa (.ins Ca dx [])) := R2.add (R2.fresh_of hx R1) ⟨Ca, dx, [], hC, upd_same, .nil⟩
  have hat : (μ1 ++ [xa])[S1.length]? = some xa := by rw [← R1.len]; simp
  refine ⟨_, _, .ref S1.length :: ds, R3, .cons (.ref hat) (rs.mono e3.w), ?_⟩
  unfold IR.runNew at g1
  rw [hcl] at g1
  have g2 : GV D.N F (μ1 ++ [xa]) (upd (upd H1 dx (.own xa)) xa (.ins Ca dx [])) ((call cl.init (.ref S1.length :: ds) (S1 ++ [.ins cc []])).bind fun r => match r with
    | .non => IR.M.pure (.ref S1.length)
    | _ => IR.M.bad) Q := GV.base e3 g1
  cases er : call cl.init (.ref S1.length :: ds) (S1 ++ [.ins cc []]) with
  | bad => rw [er] at g2; exact g2
  | exc c fs S => rw [er] at g2; exact fun μ' H' cls dd e R x nw _ _ => g2 μ' H' cls dd e R x nw σ hI
  | ok d S2 =>
    rw [er] at g2
    cases d <;> first | exact g2.elim | skip
    refine fun μ' H' e R v rv _ => ⟨rv.non, ?_⟩
    exact g2 μ' H' e R (.ref xa) (Rep.ref (prefix_get e.pre hat)) fun _ _ z => nomatch z
end
end IRS

namespace IRS
open PySem PySem.Spec PyProof.Rows L2 RZ RT
/-! ### what is walked -/
theorem pi_overX {X : Cx} {tg e : Expr} {te : TE} (he : PE X e te) : PI X tg e (fun σ H R => te σ H fun x H1 => (∃ a xs, x = .ref a ∧ SqL X.K H1 a xs ∧ R (Itl X.K a) H1) ∨ (∃ a xs, x = .ref a ∧ SqT X.K H1 a xs ∧ R (Itt X.K a) H1) ∨ ∃ z, x = .str z ∧ R (Its z) H1) := by
  refine ⟨fun pins s σ H R I h => ?_⟩
  refine thn (he.run pins s σ H _ I h) fun v s1 ⟨x, H1, I1, r1, q1⟩ => ?_
  rcases q1 with ⟨a, xs, rfl, hq, q⟩ | ⟨a, xs, rfl, hq, q⟩ | ⟨z, rfl, q⟩
  · cases r1
    obtain ⟨its, rv, p, hz⟩ := I1.list hq
    refine wpAny_pyIter_list p.isList ?_
    refine ⟨s1.heap.objs.size, [s1.heap.objs.size], _, _, H1, rfl, I1.kept (t' := s1.toks) fun b o e => Heap.get?_push_of_some _ e, turn_list a _, ⟨_, Heap.get?_push_size _ rfl, rfl, rfl⟩, fun b hb => ?_, q⟩
    have e : b = s1.heap.objs.size := by simpa using hb
    subst e
    exact I1.fpOk (Nat.le_refl _) (I1.hok.fresh (Nat.le_refl _))
  · cases r1
    obtain ⟨its, rv, p, hz⟩ := I1.tuple hq
    refine wpAny_pyIter_tuple (show s1.heap.IsTuple a its.toArray from p) ?_
    refine ⟨s1.heap.objs.size, [s1.heap.objs.size], _, _, H1, rfl, I1.kept (t' := s1.toks) fun b o e => Heap.get?_push_of_some _ e, turn_tuple a _, ⟨_, Heap.get?_push_size _ rfl, rfl, rfl⟩, fun b hb => ?_, q⟩
    have e : b = s1.heap.objs.size := by simpa using hb
    subst e
    exact I1.fpOk (Nat.le_refl _) (I1.hok.fresh (Nat.le_refl _))
  · obtain ⟨t, rfl⟩ := r1
    cases ha : z.cps.all (· < 128)
    · exact wpAny_pyIter_wide ha (pi_one (tk := s1.toks) I1 _ (turn_str _ z t "str_iterator" (.inr rfl)) ⟨_, Heap.get?_push_size _ rfl, rfl, rfl⟩ q)
    · exact wpAny_pyIter_ascii ha (pi_one (tk := s1.toks) I1 _ (turn_str _ z t "str_ascii_iterator" (.inl rfl)) ⟨_, Heap.get?_push_size _ rfl, rfl, rfl⟩ q)
/-- the turns of J are the items l, whatever comes -/
def Fol (N : Nm) (μ1 : List Addr) (H1 : Hp) (J : It) (l : List IR.D) : Prop := ∀ μ' S' H', Ext μ1 H1 μ' H' → Rel N μ' S' H' → ∀ (i : Nat),
  (∀ d, l[i]? = some d → J.go i H' ∧ ∀ x H'', J.yld i H' x H'' → Ext μ' H' μ' H'' ∧ Rel N μ' S' H'' ∧ Rep N μ' H'' d x) ∧ (l.length ≤ i → J.stop i H')
/-- the turns of J are the items of the list object n, as it stands -/
def FolR (N : Nm) (μ1 : List Addr) (H1 : Hp) (J : It) (en : Bool) (n : Nat) : Prop := ∀ μ' S' H' l, Ext μ1 H1 μ' H' → Rel N μ' S' H' → S'[n]? = some (.lst l) → ∀ (i : Nat),
  (∀ d, l[i]? = some d → J.go i H' ∧ ∀ x H'', J.yld i H' x H'' → Ext μ' H' μ' H'' ∧ Rel N μ' S' H'' ∧ Rep N μ' H'' (if en then .tup [.int i, d] else d) x) ∧ (l.length ≤ i → J.stop i H')
section
variable {N : Nm} {μ1 : List Addr} {H1 : Hp} {S1 : IR.Sto}
theorem here' {μ' : List Addr} {S' : IR.Sto} {H' H'' : Hp} (R : Rel N μ' S' H') (e : H'' = H') : Ext μ' H' μ' H'' ∧ Rel N μ' S' H'' := by subst e; exact ⟨Ext.refl _ _, R⟩
theorem fol_lst {l : List IR.D} {a : Addr} {vs : List V} (h : ∀ μ' S' H', Ext μ1 H1 μ' H' → Rel N μ' S' H' → SqL N.K H' a vs ∧ Reps N μ' H' l vs) : Fol N μ1 H1 (Itl N.K a) l := by
  intro μ' S' H' e R i
  obtain ⟨h1, h2⟩ := h μ' S' H' e R
  refine ⟨fun d hd => ?_, fun hi => ⟨vs, h1, by rw [← h2.length]; exact hi⟩⟩
  obtain ⟨v, hv, q⟩ := h2.get hd
  refine ⟨⟨vs, v, h1, hv⟩, fun x H'' y => ?_⟩
  obtain ⟨rfl, y⟩ := y
  have := y vs h1
  rw [hv] at this; cases this
  exact ⟨Ext.refl _ _, R, q⟩
theorem fol_tup {l : List IR.D} {a : Addr} {vs : List V} (h1 : H1 a = some (.tup vs)) (h2 : Reps N μ1 H1 l vs) : Fol N μ1 H1 (Itt N.K a) l := by
  intro μ' S' H' e R i
  have h1' : SqT N.K H' a vs := .of (e.tup _ _ h1)
  have h2' := h2.mono e.w
  refine ⟨fun d hd => ?_, fun hi => ⟨vs, h1', by rw [← h2'.length]; exact hi⟩⟩
  obtain ⟨v, hv, q⟩ := h2'.get hd
  refine ⟨⟨vs, v, h1', hv⟩, fun x H'' y => ?_⟩
  obtain ⟨rfl, y⟩ := y
  have := y vs h1'
  rw [hv] at this; cases this
  exact ⟨Ext.refl _ _, R, q⟩
theorem fol_str {t : IR.Txt} : Fol N μ1 H1 (Its (sT t)) (t.map fun c => .str [c]) := by
  intro μ' S' H' e R i
  refine ⟨fun d hd => ?_, fun hi => ?_⟩
  · rw [List.getElem?_map] at hd
    obtain ⟨c, hc, rfl⟩ := Option.map_eq_some_iff.mp hd
    have hl := (List.getElem?_eq_some_iff.mp hc).1
    refine ⟨by show i < (sT t).cps.size; simpa [sT] using hl, fun x H'' y => ?_⟩
    obtain ⟨rfl, c', h1, rfl⟩ := y
    have : (sT t).cps[i]? = t[i]? := by simp [sT]
    rw [this, hc] at h1; cases h1
    exact ⟨Ext.refl _ _, R, .str [c]⟩
  · show (sT t).cps.size ≤ i
    simpa [sT] using hi
theorem fol_rng {lo hi : Int} : Fol N μ1 H1 (Itr lo (hi - lo).toNat) (IR.rg lo hi) := by
  intro μ' S' H' e R i
  unfold IR.rg
  refine ⟨fun d hd => ?_, fun h => by show (hi - lo).toNat ≤ i; simp only [List.length_map, List.length_range] at h; exact h⟩
  rw [List.getElem?_map] at hd
  obtain ⟨k, hk, rfl⟩ := Option.map_eq_some_iff.mp hd
  obtain ⟨hl, hk⟩ := List.getElem?_eq_some_iff.mp hk
  rw [List.getElem_range] at hk
  subst hk
  refine ⟨by show i < (hi - lo).toNat; rw [List.length_range] at hl; exact hl, fun x H'' y => ?_⟩
  obtain ⟨rfl, rfl⟩ := y
  exact ⟨Ext.refl _ _, R, .int _⟩
theorem folR_lst {n : Nat} {a : Addr} (hn : μ1[n]? = some a) : FolR N μ1 H1 (Itl N.K a) false n := by
  intro μ' S' H' l e R hl i
  obtain ⟨vs, h1, h2⟩ := R.ob n _ a hl (prefix_get e.pre hn)
  have h1' : SqL N.K H' a vs := .of h1
  refine ⟨fun d hd => ?_, fun hi => ⟨vs, h1', by rw [← h2.length]; exact hi⟩⟩
  obtain ⟨v, hv, q⟩ := h2.get hd
  refine ⟨⟨vs, v, h1', hv⟩, fun x H'' y => ?_⟩
  obtain ⟨rfl, y⟩ := y
  have := y vs h1'
  rw [hv] at this; cases this
  exact ⟨Ext.refl _ _, R, by simpa using q⟩
theorem folR_enum {n : Nat} {a : Addr} (hn : μ1[n]? = some a) : FolR N μ1 H1 (Ite N.K a) true n := by
  intro μ' S' H' l e R hl i
  obtain ⟨vs, h1, h2⟩ := R.ob n _ a hl (prefix_get e.pre hn)
  have h1' : SqL N.K H' a vs := .of h1
  refine ⟨fun d hd => ?_, fun hi => ⟨vs, h1', by rw [← h2.length]; exact hi⟩⟩
  obtain ⟨v, hv, q⟩ := h2.get hd
  refine ⟨⟨vs, v, h1', hv⟩, fun x H'' y => ?_⟩
  obtain ⟨T, z, rfl, hT, rfl, y⟩ := y
  have := y vs h1'
  rw [hv] at this; cases this
  refine ⟨Ext.laid hT, R.laid hT, ?_⟩
  rw [if_pos rfl]
  exact .tup upd_same (.cons (.int _) (.cons (q.mono (Ext.laid hT).w) .nil))
theorem fol_enum {l : List IR.D} {a : Addr} {vs : List V} (h : ∀ μ' S' H', Ext μ1 H1 μ' H' → Rel N μ' S' H' → SqL N.K H' a vs ∧ Reps N μ' H' l vs) : Fol N μ1 H1 (Ite N.K a) (IR.numbered l) := by
  intro μ' S' H' e R i
  obtain ⟨h1, h2⟩ := h μ' S' H' e R
  have hlen : (IR.numbered l).length = l.length := by simp [IR.numbered]
  refine ⟨fun d hd => ?_, fun hi => ⟨vs, h1, by rw [← h2.length, ← hlen]; exact hi⟩⟩
  have hil : i < l.length := by rw [← hlen]; exact (List.getElem?_eq_some_iff.mp hd).1
  have hd' : d = .tup [.int i, l[i]] := by
    have e2 : (IR.numbered l)[i]? = some (.tup [.int i, l[i]]) := by
      simp [IR.numbered, List.getElem?_map, List.getElem?_zip_eq_some, hil]
    rw [e2] at hd; exact (Option.some.inj hd).symm
  subst hd'
  obtain ⟨v, hv, q⟩ := h2.get (List.getElem?_eq_getElem hil)
  refine ⟨⟨vs, v, h1, hv⟩, fun x H'' y => ?_⟩
  obtain ⟨T, z, rfl, hT, rfl, y⟩ := y
  have := y vs h1
  rw [hv] at this; cases this
  exact ⟨Ext.laid hT, R.laid hT, .tup upd_same (.cons (.int _) (.cons (q.mono (Ext.laid hT).w) .nil))⟩
theorem fol_zip {l m : List IR.D} {a b : Addr} {vs us : List V} {J : It} (hJ : J = Itz N.K a b ∨ J = ItzT N.K a b)
    (h : ∀ μ' S' H', Ext μ1 H1 μ' H' → Rel N μ' S' H' → ((J = Itz N.K a b ∧ SqL N.K H' a vs ∧ SqL N.K H' b us) ∨ (J = ItzT N.K a b ∧ SqT N.K H' a vs ∧ SqT N.K H' b us)) ∧ Reps N μ' H' l vs ∧ Reps N μ' H' m us) : Fol N μ1 H1 J ((l.zip m).map fun p => .tup [p.1, p.2]) := by
  intro μ' S' H' e R i
  obtain ⟨h1, h2, h3⟩ := h μ' S' H' e R
  have step : ∀ d, ((l.zip m).map fun p => IR.D.tup [p.1, p.2])[i]? = some d → ∃ d1 d2 v u, d = .tup [d1, d2] ∧ vs[i]? = some v ∧ us[i]? = some u ∧ Rep N μ' H' d1 v ∧ Rep N μ' H' d2 u := fun d hd => by
    rw [List.getElem?_map] at hd
    obtain ⟨⟨d1, d2⟩, hk, rfl⟩ := Option.map_eq_some_iff.mp hd
    obtain ⟨k1, k2⟩ := List.getElem?_zip_eq_some.mp hk
    obtain ⟨v, hv, q⟩ := h2.get k1
    obtain ⟨u, hu, q2⟩ := h3.get k2
    exact ⟨d1, d2, v, u, rfl, hv, hu, q, q2⟩
  have fin : l.length ≤ i ∨ m.length ≤ i → vs.length ≤ i ∨ us.length ≤ i := fun z => by rw [← h2.length, ← h3.length]; exact z
  have lz : ((l.zip m).map fun p => IR.D.tup [p.1, p.2]).length ≤ i → l.length ≤ i ∨ m.length ≤ i := fun z => by simp at z; omega
  rcases h1 with ⟨rfl, ha, hb⟩ | ⟨rfl, ha, hb⟩
  · refine ⟨fun d hd => ?_, fun hi => ⟨vs, us, ha, hb, fin (lz hi)⟩⟩
    obtain ⟨d1, d2, v, u, rfl, hv, hu, q, q2⟩ := step d hd
    refine ⟨⟨vs, us, v, u, ha, hb, hv, hu⟩, fun x H'' y => ?_⟩
    obtain ⟨T, z, z', rfl, hT, rfl, y1, y2⟩ := y
    have t1 := y1 vs ha
    have t2 := y2 us hb
    rw [hv] at t1; cases t1
    rw [hu] at t2; cases t2
    exact ⟨Ext.laid hT, R.laid hT, .tup upd_same (.cons (q.mono (Ext.laid hT).w) (.cons (q2.mono (Ext.laid hT).w) .nil))⟩
  · refine ⟨fun d hd => ?_, fun hi => ⟨vs, us, ha, hb, fin (lz hi)⟩⟩
    obtain ⟨d1, d2, v, u, rfl, hv, hu, q, q2⟩ := step d hd
    refine ⟨⟨vs, us, v, u, ha, hb, hv, hu⟩, fun x H'' y => ?_⟩
    obtain ⟨T, z, z', rfl, hT, rfl, y1, y2⟩ := y
    have t1 := y1 vs ha
    have t2 := y2 us hb
    rw [hv] at t1; cases t1
    rw [hu] at t2; cases t2
    exact ⟨Ext.laid hT, R.laid hT, .tup upd_same (.cons (q.mono (Ext.laid hT).w) (.cons (q2.mono (Ext.laid hT).w) .nil))⟩
theorem fol_rev {l : List IR.D} {a : Addr} {vs : List V} {J : It} (h : ∀ μ' S' H', Ext μ1 H1 μ' H' → Rel N μ' S' H' → ((J = Itv N.K a vs.length ∧ SqL N.K H' a vs) ∨ (J = ItvT N.K a vs.length ∧ SqT N.K H' a vs)) ∧ Reps N μ' H' l vs) : Fol N μ1 H1 J l.reverse := by
  intro μ' S' H' e R i
  obtain ⟨h1, h2⟩ := h μ' S' H' e R
  have hl := h2.length
  have step : ∀ d, l.reverse[i]? = some d → i < vs.length ∧ ∃ v, vs[vs.length - 1 - i]? = some v ∧ Rep N μ' H' d v := fun d hd => by
    have hi : i < l.length := by simpa using (List.getElem?_eq_some_iff.mp hd).1
    rw [List.getElem?_reverse hi] at hd
    obtain ⟨v, hv, q⟩ := h2.get hd
    exact ⟨by omega, v, by rw [← hl]; exact hv, q⟩
  rcases h1 with ⟨rfl, ha⟩ | ⟨rfl, ha⟩
  · refine ⟨fun d hd => ?_, fun hi => by show vs.length ≤ i; simp at hi; omega⟩
    obtain ⟨hi, v, hv, q⟩ := step d hd
    refine ⟨⟨hi, vs, v, ha, hv⟩, fun x H'' y => ?_⟩
    obtain ⟨rfl, y⟩ := y
    have := y vs ha
    rw [hv] at this; cases this
    exact ⟨Ext.refl _ _, R, q⟩
  · refine ⟨fun d hd => ?_, fun hi => by show vs.length ≤ i; simp at hi; omega⟩
    obtain ⟨hi, v, hv, q⟩ := step d hd
    refine ⟨⟨hi, vs, v, ha, hv⟩, fun x H'' y => ?_⟩
    obtain ⟨rfl, y⟩ := y
    have := y vs ha
    rw [hv] at this; cases this
    exact ⟨Ext.refl _ _, R, q⟩
end
/-- a source has come: it is walked so -/
def FolS (N : Nm) (μ1 : List Addr) (H1 : Hp) (J : It) : IR.Src → Prop
  | .st l => Fol N μ1 H1 J l
  | .rf en n => FolR N μ1 H1 J en n
  | .dk _ _ => False
section
variable {D : Wd} {X : Cx} {c : Ctx} {k : Nat} {F : Fm} {pos : Pos} {a b e o tg : Expr} {es : List Expr} {call : Nat → List IR.D → IR.M IR.D} {x y z : IR.E}
/-- the reading of what is walked -/
def tIt (D : Wd) (F : Fm) (m : IR.Env → IR.M IR.Src) : TI := fun σ H R => ∃ μ S ρ, F.I σ ∧ Rel D.N μ S H ∧ RSt D.N μ H ρ σ ∧ GG D.N F μ H (m ρ S) fun s S1 μ1 H1 => ∀ J, FolS D.N μ1 H1 J s → R J H1
theorem PI.weak {X : Cx} {tg e : Expr} {t t' : TI} (h : PI X tg e t) (w : ∀ σ H R, t' σ H R → t σ H R) : PI X tg e t' := ⟨fun pins s σ H R I q => h.run pins s σ H R I (w σ H R q)⟩
/-- what a list value stays -/
theorem lst_stays {μ1 : List Addr} {S1 : IR.Sto} {H1 : Hp} {l : List IR.D} {v : V} {N : Nm} (rv : RepV N μ1 H1 (.tl l) v ∨ ∃ ns, RepV N μ1 H1 (.scr ns) v ∧ l = ns.map .int) : ∃ a vs, v = .ref a ∧ ∀ μ' S' H', Ext μ1 H1 μ' H' → Rel N μ' S' H' → SqL N.K H' a vs ∧ Reps N μ' H' l vs := by
  rcases rv with rv | ⟨ns, rv, rfl⟩
  · obtain ⟨a, vs, rfl, h1, h2, r⟩ := rv
    exact ⟨a, vs, rfl, fun μ' S' H' e R => ⟨.of (e.keep _ _ h2 h1), r.mono e.w⟩⟩
  · obtain ⟨a, rfl, h⟩ := rv.scr
    exact ⟨a, _, rfl, fun μ' S' H' e R => ⟨(h.mono e.w).sq, Reps.ints⟩⟩
theorem s_over (C : Cm D X c k F) (he : PE X e (tV D F call x)) : PI X tg e (tIt D F (IR.evIt D.g call (.over x))) := by
  refine PI.weak (pi_overX he) fun σ H R q => ?_
  obtain ⟨μ, S, ρ, hI, Rl, hρ, g⟩ := q
  refine one' (f := fun d => IR.srcOf d) hI Rl hρ g fun μ1 S1 H1 d v e1 R1 rv _ g1 => ?_
  rw [C.K]
  have fin : ∀ {s : IR.Src} {J : It}, IR.srcOf d S1 = .ok s S1 → FolS D.N μ1 H1 J s → R J H1 := fun {s J} h f => by
    rw [h] at g1
    exact g1 μ1 H1 e1 R1 J f
  cases d with
  | tl l =>
    obtain ⟨a, vs, rfl, st⟩ := lst_stays (S1 := S1) (.inl rv)
    exact .inl ⟨a, vs, rfl, (st μ1 S1 H1 (Ext.refl _ _) R1).1, fin rfl (fol_lst st)⟩
  | scr l =>
    obtain ⟨a, vs, rfl, st⟩ := lst_stays (S1 := S1) (l := l.map .int) (.inr ⟨l, rv, rfl⟩)
    exact .inl ⟨a, vs, rfl, (st μ1 S1 H1 (Ext.refl _ _) R1).1, fin rfl (fol_lst st)⟩
  | tup l =>
    obtain ⟨a, vs, rfl, h1, r⟩ := rv.tup
    exact .inr (.inl ⟨a, vs, rfl, .of h1, fin rfl (fol_tup h1 r)⟩)
  | str t =>
    rw [rv.str]
    exact .inr (.inr ⟨_, rfl, fin rfl fol_str⟩)
  | ref n =>
    obtain ⟨a, rfl, ha⟩ := rv.ref
    cases h : S1[n]? with
    | none =>
      have e : IR.srcOf (.ref n) S1 = .bad := by simp [IR.srcOf, h]
      rw [e] at g1; exact g1.elim
    | some ob =>
      cases ob with
      | lst l =>
        obtain ⟨vs, h1, r⟩ := R1.ob n _ a h ha
        exact .inl ⟨a, vs, rfl, .of h1, fin (s := .rf false n) (by simp [IR.srcOf, h]) (folR_lst ha)⟩
      | ins c fs =>
        have e : IR.srcOf (.ref n) S1 = .bad := by simp [IR.srcOf, h]
        rw [e] at g1; exact g1.elim
      | exn c fs =>
        have e : IR.srcOf (.ref n) S1 = .bad := by simp [IR.srcOf, h]
        rw [e] at g1; exact g1.elim
      | dK lk kvs =>
        have e : IR.srcOf (.ref n) S1 = .bad := by simp [IR.srcOf, h]
        rw [e] at g1; exact g1.elim
      | dT lk kvs =>
        have e : IR.srcOf (.ref n) S1 = .bad := by simp [IR.srcOf, h]
        rw [e] at g1; exact g1.elim
  | non => exact g1.elim
  | bl b => exact g1.elim
  | int b => exact g1.elim
  | fn b => exact g1.elim
theorem rgOk_b {i j : Int} (h : IR.rgOk i j = true) : -(2 ^ 62) ≤ i ∧ i < 2 ^ 62 ∧ -(2 ^ 62) ≤ j ∧ j < 2 ^ 62 := by
  have h := of_decide_eq_true h
  simp only [IR.LINE] at h
  omega
theorem s_rg1 {p : Pos} (hg : Gl X "range") (hm : X.mg "range" = none) (ha : PA X [a] (tAs D F call (.cons false x .nil))) (hs : starEach [a] X.env = [(false, eval a X.env)]) : PI X tg (.Call (.Name "range" p) [a] [] pos) (tIt D F (IR.evIt D.g call (.rg1 x))) := by
  refine PI.weak (pi_range1 hg hm ha hs) fun σ H R q => ?_
  obtain ⟨μ, S, ρ, hI, Rl, hρ, g⟩ := q
  refine ⟨μ, S, ρ, hI, Rl, hρ, ?_⟩
  have e0 : IR.evs D.g call (.cons false x .nil) ρ S = (IR.ev D.g call x ρ S).bind fun a => IR.M.pure [a] := by
    have := evs1 (g := D.g) (call := call) (x := x) (ρ := ρ) (f := IR.M.pure) (S := S)
    rw [IR.M.bind_pure] at this
    exact this
  rw [e0]
  have g : GG D.N F μ H ((IR.ev D.g call x ρ S).bind fun x => match x with
    | .int n => if IR.rgOk 0 n then IR.M.pure (.st (IR.rg 0 n)) else IR.M.bad
    | _ => IR.M.bad) fun s S1 μ1 H1 => ∀ J, FolS D.N μ1 H1 J s → R J H1 := g
  cases e : IR.ev D.g call x ρ S with
  | bad => rw [e] at g; exact g
  | exc c fs S => rw [e] at g; exact g
  | ok d S1 =>
    rw [e] at g
    refine fun μ' H' e1 R1 vs rs => ?_
    cases d <;> first | exact g.elim | skip
    rename_i n
    have g : GG D.N F μ H ((if IR.rgOk 0 n then IR.M.pure (.st (IR.rg 0 n)) else IR.M.bad : IR.M IR.Src) S1) fun s S1 μ1 H1 => ∀ J, FolS D.N μ1 H1 J s → R J H1 := g
    split at g
    · rename_i h
      obtain ⟨_, _, h1, h2⟩ := rgOk_b h
      cases rs with
      | cons r1 rr =>
        cases rr
        cases r1.v.int
        refine ⟨n, rfl, h1, h2, g μ' H' e1 R1 _ ?_⟩
        have := fol_rng (N := D.N) (μ1 := μ') (H1 := H') (lo := 0) (hi := n)
        rw [Int.sub_zero] at this
        exact this
    · exact g.elim
theorem s_rg2 {p : Pos} (hg : Gl X "range") (hm : X.mg "range" = none) (ha : PA X [a, b] (tAs D F call (.cons false x (.cons false y .nil)))) (hs : starEach [a, b] X.env = [(false, eval a X.env), (false, eval b X.env)]) (hs2 : starEach [b] X.env = [(false, eval b X.env)]) : PI X tg (.Call (.Name "range" p) [a, b] [] pos) (tIt D F (IR.evIt D.g call (.rg2 x y))) := by
  refine PI.weak (pi_range2 hg hm ha hs hs2) fun σ H R q => ?_
  obtain ⟨μ, S, ρ, hI, Rl, hρ, g⟩ := q
  refine ⟨μ, S, ρ, hI, Rl, hρ, ?_⟩
  have e0 : IR.evs D.g call (.cons false x (.cons false y .nil)) ρ S = (IR.ev D.g call x ρ S).bind fun a => (IR.ev D.g call y ρ).bind fun b => IR.M.pure [a, b] := by
    have := evs2 (g := D.g) (call := call) (x := x) (y := y) (ρ := ρ) (f := IR.M.pure) (S := S)
    rw [IR.M.bind_pure] at this
    exact this
  rw [e0]
  have g : GG D.N F μ H ((IR.ev D.g call x ρ S).bind fun x => (IR.ev D.g call y ρ).bind fun y => match x, y with
    | .int i, .int j => if IR.rgOk i j then IR.M.pure (.st (IR.rg i j)) else IR.M.bad
    | _, _ => IR.M.bad) fun s S1 μ1 H1 => ∀ J, FolS D.N μ1 H1 J s → R J H1 := g
  cases e : IR.ev D.g call x ρ S with
  | bad => rw [e] at g; exact g
  | exc c fs S => rw [e] at g; exact g
  | ok d S1 =>
    rw [e] at g
    have g : GG D.N F μ H ((IR.ev D.g call y ρ S1).bind fun y => match d, y with
      | .int i, .int j => if IR.rgOk i j then IR.M.pure (.st (IR.rg i j)) else IR.M.bad
      | _, _ => IR.M.bad) fun s S1 μ1 H1 => ∀ J, FolS D.N μ1 H1 J s → R J H1 := g
    show GG D.N F μ H ((IR.ev D.g call y ρ S1).bind fun b => IR.M.pure [d, b]) _
    cases e2 : IR.ev D.g call y ρ S1 with
    | bad => rw [e2] at g; exact g
    | exc c fs S => rw [e2] at g; exact g
    | ok d2 S2 =>
      rw [e2] at g
      refine fun μ' H' e1 R1 vs rs => ?_
      cases d <;> first | exact g.elim | skip
      cases d2 <;> first | exact g.elim | skip
      rename_i i _ j
      have g : GG D.N F μ H ((if IR.rgOk i j then IR.M.pure (.st (IR.rg i j)) else IR.M.bad : IR.M IR.Src) S2) fun s S1 μ1 H1 => ∀ J, FolS D.N μ1 H1 J s → R J H1 := g
      split at g
      · rename_i h
        cases rs with
        | cons r1 rr =>
          cases rr with
          | cons r2 rr =>
            cases rr
            cases r1.v.int
            cases r2.v.int
            exact ⟨i, j, rfl, rgOk_b h, g μ' H' e1 R1 _ fol_rng⟩
      · exact g.elim
end
end IRS

namespace IRS
open PySem PySem.Spec PyProof.Rows L2
/-! ### statements -/
section
variable {N : Nm} {W : Fm} {μ μ1 : List Addr} {H H1 : Hp}
theorem KF.base' {D : Ends} {r : IR.Res IR.Flow} (e : Ext μ H μ1 H1) (g : GG N W μ1 H1 r (KF N W D H)) : GG N W μ1 H1 r (KF N W D H1) := by
  refine GG.imp g fun fl S' μ' H' x R k => ?_
  cases fl with
  | next ρ => exact k
  | brk ρ => exact k
  | cnt ρ => exact k
  | ret d =>
    refine fun v rv tm => k v rv fun l a h1 h2 => ?_
    subst h1; subst h2
    have hn := tm l a rfl rfl
    cases e0 : H a with
    | none => rfl
    | some o =>
      by_cases hm : a ∈ μ
      · obtain ⟨_, _, z, h3, h4, _⟩ := rv
        cases z
        exact absurd ((e.trans x).pre.subset hm) h4
      · rw [e.keep a o hm e0] at hn; cases hn
theorem KF.base {D : Ends} {r : IR.Res IR.Flow} (e : Ext μ H μ1 H1) (g : GG N W μ H r (KF N W D H)) : GG N W μ1 H1 r (KF N W D H1) := KF.base' e (GG.base e g)
theorem RSt.set {ρ : IR.Env} {σ : L2.St} {i : Nat} {d : IR.D} {v : V} (h : RSt N μ H ρ σ) (q : Rep N μ H d v) : RSt N μ H (ρ.set i (some d)) (σ.set i (some v)) := by
  refine ⟨by simp [h.1], fun j d' hd => ?_⟩
  rw [List.getElem?_set] at hd ⊢
  by_cases hij : i = j
  · subst hij
    rw [if_pos rfl] at hd ⊢
    split at hd
    · rename_i hl
      cases hd
      rw [if_pos (by rw [← h.1]; exact hl)]
      exact ⟨v, rfl, q⟩
    · cases hd
  · rw [if_neg hij] at hd ⊢
    exact h.2 j d' hd
end
section
variable {D : Wd} {X : Cx} {c : Ctx} {k : Nat} {F : Fm} {pos : Pos} {a b e o tg : Expr} {es : List Expr} {call : Nat → List IR.D → IR.M IR.D} {x y z : IR.E}
/-- a place to store to: what storing a value asks -/
structure TgOk (D : Wd) (X : Cx) (F : Fm) (tg : Expr) (t : IR.Tg) (g : TG) : Prop where
  pg : PG X tg g
  ok : ∀ {μ S H ρ σ d v Q}, F.I σ → Rel D.N μ S H → RSt D.N μ H ρ σ → Rep D.N μ H d v → GG D.N F μ H (IR.setTg t ρ d S) (fun ρ' _ μ' H' => ∀ σ', F.I σ' → RSt D.N μ' H' ρ' σ' → (∀ is, t = .tup is ∨ (∃ i, t = .var i ∧ is = [i]) → wipe σ' is = wipe σ is) → Q σ' H') → g v σ H Q
theorem wipe_set {σ : L2.St} {i : Nat} {v : Option V} : ∀ {is : List Nat}, i ∈ is → wipe (σ.set i v) is = wipe σ is
  | j :: is, h => by
    unfold wipe
    by_cases hi : i ∈ is
    · rw [wipe_set hi]
    · have e : i = j := (List.mem_cons.mp h).resolve_right hi
      subst e
      have aux : ∀ (is : List Nat) (σ : L2.St), i ∉ is → wipe (σ.set i v) is = (wipe σ is).set i v := fun is => by
        induction is with
        | nil => exact fun _ _ => rfl
        | cons k is ih =>
          intro σ hk
          have h1 : i ≠ k := fun z => hk (by rw [z]; exact List.mem_cons_self)
          have h2 : i ∉ is := fun z => hk (List.mem_cons_of_mem _ z)
          show (wipe (σ.set i v) is).set k none = ((wipe σ is).set k none).set i v
          rw [ih σ h2, List.set_comm _ _ h1]
      rw [aux is σ hi, List.set_set]
theorem t_var (C : Cm D X c k F) {i : Nat} {n : Str} (hN : c.N[i]? = some n) (hl : Loc c.sc n) (hf : c.fs n = true ∨ c.sc.names.lookup n = some .local) (ha : F.as i = true) : TgOk D X F (.Name n pos) (.var i) (gName i) where
  pg := pg_name (by rw [C.N]; exact C.nd) (by rw [C.N]; exact hN) (by rw [C.sc]; exact hl) (by rw [C.fs, C.sc]; exact hf)
  ok := fun {μ S H ρ σ d v Q} hI R hρ q g => by
    exact g μ H (Ext.refl _ _) R _ (F.put _ _ _ ha hI) (hρ.set q) fun is h => by
      rcases h with h | ⟨j, h, rfl⟩
      · cases h
      · cases h; exact wipe_set List.mem_cons_self
/-- several names -/
structure TgsOk (D : Wd) (X : Cx) (F : Fm) (tgs : List Expr) (is : List Nat) (g : TGs) : Prop where
  pg : PGs X tgs g
  ok : ∀ {σ H} {vs : List V} {Q : L2.St → Hp → Prop}, vs.length = is.length → Q ((is.zip vs).foldl (fun σ p => σ.set p.1 (some p.2)) σ) H → g vs σ H Q
  as : ∀ i ∈ is, F.as i = true
theorem t_nil : TgsOk D X F [] [] gNil := ⟨pgs_nil, fun {σ H vs Q} h q => by cases List.eq_nil_of_length_eq_zero h; exact ⟨rfl, q⟩, fun _ h => by cases h⟩
theorem t_cons (C : Cm D X c k F) {i : Nat} {n : Str} {is : List Nat} {gs : TGs} (hN : c.N[i]? = some n) (hl : Loc c.sc n) (hf : c.fs n = true ∨ c.sc.names.lookup n = some .local) (ha : F.as i = true) (r : TgsOk D X F es is gs)
    (hs : (assignEach (.Name n pos :: es) X.env).map (·.2) = assign (.Name n pos) X.env :: (assignEach es X.env).map (·.2)) : TgsOk D X F (.Name n pos :: es) (i :: is) (gCons (gName i) gs) where
  pg := pgs_cons (t_var (pos := pos) C hN hl hf ha).pg r.pg hs
  ok := fun {σ H vs Q} h q => by
    cases vs with
    | nil => cases h
    | cons v vs => exact ⟨v, vs, rfl, r.ok (Nat.succ.inj h) q⟩
  as := fun j hj => by
    rcases List.mem_cons.mp hj with e | e
    · rw [e]; exact ha
    · exact r.as j e
theorem setVars_ok {N : Nm} {μ : List Addr} {H : Hp} : ∀ {is : List Nat} {ds : List IR.D} {vs : List V} {ρ : IR.Env} {σ : L2.St}, Reps N μ H ds vs → RSt N μ H ρ σ → RSt N μ H (IR.setVars ρ is ds) ((is.zip vs).foldl (fun σ p => σ.set p.1 (some p.2)) σ)
  | [], _, _, _, _, _, h => by simpa [IR.setVars] using h
  | i :: is, _, _, _, _, .nil, h => by simpa [IR.setVars] using h
  | i :: is, _, _, _, _, .cons q r, h => by
    simp only [IR.setVars, List.zip_cons_cons, List.foldl_cons]
    exact setVars_ok r (h.set q)
theorem fold_I {F : Fm} : ∀ {is : List Nat} {vs : List V} {σ : L2.St}, (∀ i ∈ is, F.as i = true) → F.I σ → F.I ((is.zip vs).foldl (fun σ p => σ.set p.1 (some p.2)) σ)
  | [], _, _, _, h => h
  | _ :: _, [], _, _, h => h
  | i :: is, v :: vs, σ, ha, h => by
    simp only [List.zip_cons_cons, List.foldl_cons]
    exact fold_I (fun j hj => ha j (List.mem_cons_of_mem _ hj)) (F.put _ _ _ (ha i List.mem_cons_self) h)
theorem fold_wipe {js : List Nat} : ∀ {is : List Nat} {vs : List V} {σ : L2.St}, (∀ i ∈ is, i ∈ js) → wipe ((is.zip vs).foldl (fun σ p => σ.set p.1 (some p.2)) σ) js = wipe σ js
  | [], _, _, _ => rfl
  | _ :: _, [], _, _ => rfl
  | i :: is, v :: vs, σ, ha => by
    simp only [List.zip_cons_cons, List.foldl_cons]
    rw [fold_wipe fun j hj => ha j (List.mem_cons_of_mem _ hj), wipe_set (ha i List.mem_cons_self)]
/-- a target of some names takes a tuple or a list -/
def gSq (K : PySem.W.Frag) (n : Nat) (t : TGs) : TG := fun v σ H Q => gTup K n t v σ H Q ∨ gUnl K n t v σ H Q
theorem t_tup (C : Cm D X c k F) {is : List Nat} {gs : TGs} {kk : Nat} (r : TgsOk D X F es is gs) (hn : (assignEach es X.env).length = is.length) (hst : (assignEach es X.env).findIdx? (·.1) = none) (hh : c.hot = false := by rfl) : TgOk D X F (.Tuple es kk pos) (.tup is) (gSq D.N.K is.length gs) where
  pg := by
    rw [← C.K]
    refine ⟨fun pins s σ H v u Q I rv hw => hw.elim (fun hw => (pg_tup (C.calm hh) r.pg hn hst).run pins s σ H v u Q I rv hw) fun hw => (pg_unl (C.calm hh) r.pg hn hst).run pins s σ H v u Q I rv hw⟩
  ok := fun {μ S H ρ σ d v Q} hI R hρ q g => by
    cases q <;> first | exact g.elim | skip
    · rename_i p ds vs h1 rs
      have g : GG D.N F μ H ((if ds.length = is.length then IR.Res.ok (IR.setVars ρ is ds) S else .bad) : IR.Res IR.Env) _ := g
      split at g
      · rename_i hl
        refine .inl ⟨p, vs, rfl, .of h1, by rw [← rs.length]; exact hl, r.ok (by rw [← rs.length]; exact hl) ?_⟩
        exact g μ H (Ext.refl _ _) R _ (fold_I r.as hI) (setVars_ok rs hρ) fun js h => by
          rcases h with h | ⟨_, h, _⟩
          · cases h; exact fold_wipe fun i h => h
          · cases h
      · exact g.elim
    · rename_i n p hp
      have g : GG D.N F μ H ((match S[n]? with
        | some (.lst l) => if l.length = is.length then IR.Res.ok (IR.setVars ρ is l) S else .bad
        | _ => .bad) : IR.Res IR.Env) _ := g
      split at g
      · rename_i ds e
        split at g
        · rename_i hl
          obtain ⟨vs, h1, rs⟩ := R.ob n _ p e hp
          refine .inr ⟨p, vs, rfl, .of h1, by rw [← rs.length]; exact hl, r.ok (by rw [← rs.length]; exact hl) ?_⟩
          exact g μ H (Ext.refl _ _) R _ (fold_I r.as hI) (setVars_ok rs hρ) fun js h => by
            rcases h with h | ⟨_, h, _⟩
            · cases h; exact fold_wipe fun i h => h
            · cases h
        · exact g.elim
      · exact g.elim
abbrev tSt (D : Wd) (F : Fm) (call : Nat → List IR.D → IR.M IR.D) (s : IR.St) : TS := tS D.N F (IR.ex D.g call s)
abbrev tSs (D : Wd) (F : Fm) (call : Nat → List IR.D → IR.M IR.D) (s : IR.Ss) : TS := tS D.N F (IR.exs D.g call s)
theorem st_pass : PS X (.Pass pos) (tSt D F call .pass) := by
  refine PS.weak ps_pass fun E σ H q => ?_
  obtain ⟨μ, S, ρ, hI, R, hρ, g⟩ := q
  exact g μ H (Ext.refl _ _) R σ hI hρ
theorem st_brk : PS X (.Break pos) (tSt D F call .brk) := by
  refine PS.weak ps_break fun E σ H q => ?_
  obtain ⟨μ, S, ρ, hI, R, hρ, g⟩ := q
  exact g μ H (Ext.refl _ _) R σ hI hρ
theorem st_cnt : PS X (.Continue pos) (tSt D F call .cnt) := by
  refine PS.weak ps_continue fun E σ H q => ?_
  obtain ⟨μ, S, ρ, hI, R, hρ, g⟩ := q
  exact g μ H (Ext.refl _ _) R σ hI hρ
theorem st_expr (he : PE X e (tV D F call x)) (hs : swapsWith e none pos.line X.env = pure false) : PS X (.Expr e pos) (tSt D F call (.expr x)) := by
  refine PS.weak (ps_expr he hs) fun E σ H q => ?_
  obtain ⟨μ, S, ρ, hI, R, hρ, g⟩ := q
  refine one' (f := fun _ => IR.M.pure (IR.Flow.next ρ)) hI R hρ g fun μ1 S1 H1 d v e1 R1 _ _ g1 => ?_
  exact g1 μ1 H1 e1 R1 σ hI (hρ.mono e1.w)
theorem st_ret (he : PE X e (tV D F call x)) : PS X (.Return (some e) pos) (tSt D F call (.ret x)) := by
  refine PS.weak (ps_ret he) fun E σ H q => ?_
  obtain ⟨μ, S, ρ, hI, R, hρ, g⟩ := q
  refine one' (f := fun d => IR.M.pure (IR.Flow.ret d)) hI R hρ g fun μ1 S1 H1 d v e1 R1 rv tm g1 => ?_
  exact g1 μ1 H1 e1 R1 v rv tm
theorem st_if {cE : Expr} {p q : List Stmt} {p' q' : IR.Ss} (hc : PT X cE (tB' D F call x)) (ha : PSs X p (tSs D F call p')) (hb : PSs X q (tSs D F call q')) : PS X (.If cE p q pos) (tSt D F call (.ife x p' q')) := by
  refine PS.weak (ps_if hc ha hb) fun E σ H q => ?_
  obtain ⟨μ, S, ρ, hI, R, hρ, g⟩ := q
  refine ⟨μ, S, ρ, hI, R, hρ, ?_⟩
  have e : IR.ex D.g call (.ife x p' q') ρ = ((IR.ev D.g call x ρ).bind IR.truth).bind fun t => if t then IR.exs D.g call p' ρ else IR.exs D.g call q' ρ := by
    rw [IR.M.bind_assoc]; rfl
  rw [e] at g
  refine GG.imp (GG.bind g) fun t S1 μ1 H1 e1 R1 g1 => ?_
  cases t with
  | true => exact ⟨μ1, S1, ρ, hI, R1, hρ.mono e1.w, KF.base' e1 g1⟩
  | false => exact ⟨μ1, S1, ρ, hI, R1, hρ.mono e1.w, KF.base' e1 g1⟩
/-- reckon, own, store -/
theorem st_asg {t : IR.Tg} {gt : TG} (he : PE X e (tV D F call x)) (ht : TgOk D X F tg t gt) (hs : swapsWithSole [tg] e pos.line X.env = pure false) (hw : swappedStores [tg] e X.env = pure none) (h1 : (assignEach [tg] X.env).map (·.2) = [assign tg X.env]) :
    PS X (.Assign [tg] e pos) (tSt D F call (.asg t x)) := by
  refine PS.weak (ps_asg he ht.pg hs hw h1) fun E σ H q => ?_
  obtain ⟨μ, S, ρ, hI, R, hρ, g⟩ := q
  refine ⟨μ, S, ρ, hI, R, hρ, ?_⟩
  have g : GG D.N F μ H (((IR.ev D.g call x ρ S).bind (IR.ownIf true)).bind fun d => (IR.setTg t ρ d).bind fun ρ' => IR.M.pure (IR.Flow.next ρ')) (KF D.N F E H) := by
    have e : IR.ex D.g call (.asg t x) ρ S = ((IR.ev D.g call x ρ S).bind (IR.ownIf true)).bind fun d => (IR.setTg t ρ d).bind fun ρ' => IR.M.pure (IR.Flow.next ρ') := by
      simp only [IR.ex, IR.M.bind]
      cases IR.ev D.g call x ρ S <;> rfl
    rw [← e]; exact g
  refine GG.own g fun μ1 S1 H1 d v e1 R1 rd g1 => ?_
  refine ht.ok hI R1 (hρ.mono e1.w) rd ?_
  refine GG.imp (GG.bind (show GG D.N F μ1 H1 ((IR.setTg t ρ d S1).bind fun ρ' => IR.M.pure (IR.Flow.next ρ')) (KF D.N F E H) from g1)) fun ρ' S2 μ2 H2 e2 R2 g2 σ' hI' hρ' _ => ?_
  exact g2 μ2 H2 (Ext.refl _ _) R2 σ' hI' hρ'
theorem st_ss_nil : PSs X [] (tSs D F call .nil) := by
  refine PSs.weak pss_nil fun E σ H q => ?_
  obtain ⟨μ, S, ρ, hI, R, hρ, g⟩ := q
  exact g μ H (Ext.refl _ _) R σ hI hρ
theorem st_ss_cons {st : Stmt} {sts : List Stmt} {s : IR.St} {r : IR.Ss} (h1 : PS X st (tSt D F call s)) (h2 : PSs X sts (tSs D F call r)) : PSs X (st :: sts) (tSs D F call (.cons s r)) := by
  refine PSs.weak (pss_cons h1 h2) fun E σ H q => ?_
  obtain ⟨μ, S, ρ, hI, R, hρ, g⟩ := q
  refine ⟨μ, S, ρ, hI, R, hρ, ?_⟩
  have g : GG D.N F μ H ((IR.ex D.g call s ρ S).bind fun fl => match fl with
    | .next ρ' => IR.exs D.g call r ρ'
    | fl => IR.M.pure fl) (KF D.N F E H) := g
  refine GG.imp (GG.bind g) fun fl S1 μ1 H1 e1 R1 g1 => ?_
  cases fl with
  | next ρ' => exact fun σ' hI' hρ' => ⟨μ1, S1, ρ', hI', R1, hρ', KF.base' e1 g1⟩
  | ret d => exact g1 μ1 H1 (Ext.refl _ _) R1
  | brk ρ' => exact g1 μ1 H1 (Ext.refl _ _) R1
  | cnt ρ' => exact g1 μ1 H1 (Ext.refl _ _) R1
/-- o[i] = v -/
theorem st_setIx (C : Cm D X c k F) (hv : PE X e (tV D F call x)) (ho : PE X a (tV D F call y)) (hi : PE X b (tV D F call z)) {p2 : Pos}
    (ha : ∀ v, assign (.Subscript a b p2) X.env v = (do
      let ov ← holding [v] (eval a X.env)
      let iv ← holding [v, ov] (eval b X.env)
      standAt p2
      holding [v, ov, iv] (setItem ov iv v)
      release [v, ov, iv] [])) (hs : swapsWithSole [.Subscript a b p2] e pos.line X.env = pure false) (hw : swappedStores [.Subscript a b p2] e X.env = pure none) (h1 : (assignEach [.Subscript a b p2] X.env).map (·.2) = [assign (.Subscript a b p2) X.env]) :
    PS X (.Assign [.Subscript a b p2] e pos) (tSt D F call (.setIx y z x)) := by
  refine PS.weak (ps_asg hv (pg_sub ho hi (set_X (by have := C.hu; omega)) ha) hs hw h1) fun E σ H q => ?_
  obtain ⟨μ, S, ρ, hI, R, hρ, g⟩ := q
  refine ⟨μ, S, ρ, hI, R, hρ, ?_⟩
  have g : GG D.N F μ H (((IR.ev D.g call x ρ S).bind (IR.ownIf true)).bind fun d => (IR.ev D.g call y ρ).bind fun oo => (IR.ev D.g call z ρ).bind fun ii => (IR.setIxD d oo ii).bind fun _ => IR.M.pure (IR.Flow.next ρ)) (KF D.N F E H) := by
    have e : IR.ex D.g call (.setIx y z x) ρ S = ((IR.ev D.g call x ρ S).bind (IR.ownIf true)).bind fun d => (IR.ev D.g call y ρ).bind fun oo => (IR.ev D.g call z ρ).bind fun ii => (IR.setIxD d oo ii).bind fun _ => IR.M.pure (IR.Flow.next ρ) := by
      simp only [IR.ex, IR.M.bind]
      cases IR.ev D.g call x ρ S <;> rfl
    rw [← e]; exact g
  refine GG.own g fun μ1 S1 H1 d v e1 R1 rd g1 => ?_
  refine one' (f := fun oo => (IR.ev D.g call z ρ).bind fun ii => (IR.setIxD d oo ii).bind fun _ => IR.M.pure (IR.Flow.next ρ)) hI R1 (hρ.mono e1.w) g1 fun μ2 S2 H2 oo oo' e2 R2 ro _ g2 => ?_
  have g2 := GG.base e2 g2
  refine one' (f := fun ii => (IR.setIxD d oo ii).bind fun _ => IR.M.pure (IR.Flow.next ρ)) hI R2 ((hρ.mono e1.w).mono e2.w) g2 fun μ3 S3 H3 ii ii' e3 R3 ri _ g3 => ?_
  have g3 := GG.base e3 g3
  refine o_setIx R3 (RepO.mono (o := true) (e2.trans e3) rd) (ro.mono e3) ri ?_ (W := F)
  refine GG.imp (GG.bind (show GG D.N F μ3 H3 ((IR.setIxD d oo ii S3).bind fun _ => IR.M.pure (IR.Flow.next ρ)) (KF D.N F E H) from g3)) fun _ S4 μ4 H4 e4 R4 g4 => ?_
  exact g4 μ4 H4 (Ext.refl _ _) R4 σ hI ((((hρ.mono e1.w).mono e2.w).mono e3.w).mono e4.w)
/-- for -/
theorem st_for {t : IR.Tg} {gt : TG} {it : Expr} {m : IR.It} {body : List Stmt} {bd : IR.Ss} (hp : PassesOwn (model X.prog X.w) X.A X.env X.xe) (C : Cm D X c k F) (hi : PI X tg it (tIt D F (IR.evIt D.g call m))) (ht : TgOk D X F tg t gt) (hb : PSs X body (tSs D F call bd))
    (hs : ∀ v, foldedSetIterable it X.env v = pure v) (hh : c.hot = false := by rfl) : PS X (.For tg it body [] pos) (tSt D F call (.for_ m t bd)) := by
  refine PS.weak (ps_for hp (C.calm hh) hi ht.pg hb hs) fun E σ H q => ?_
  obtain ⟨μ, S, ρ, hI, R, hρ, g⟩ := q
  refine ⟨μ, S, ρ, hI, R, hρ, ?_⟩
  have g : GG D.N F μ H ((IR.evIt D.g call m ρ S).bind fun s => IR.forSrc (fun x ρ => (IR.setTg t ρ x).bind fun ρ' => IR.exs D.g call bd ρ') s ρ) (KF D.N F E H) := g
  refine GG.imp (GG.bind g) fun s S1 μ1 H1 e1 R1 g1 J hJ => ?_
  have g1 := KF.base' e1 g1
  have hρ1 := hρ.mono e1.w
  -- one turn
  have turn : ∀ {μ2 S2 H2 σ2 ρ2 d x H3} {rest : IR.Env → IR.M IR.Flow} {Nx : L2.St → Hp → Prop}, F.I σ2 → RSt D.N μ2 H2 ρ2 σ2 → Ext μ2 H2 μ2 H3 → Rel D.N μ2 S2 H3 → Rep D.N μ2 H3 d x →
      GG D.N F μ2 H2 ((((IR.setTg t ρ2 d).bind fun ρ' => IR.exs D.g call bd ρ').bind (fun fl => match fl with
        | .next ρ' => rest ρ'
        | .cnt ρ' => rest ρ'
        | .brk ρ' => IR.M.pure (.next ρ')
        | .ret d => IR.M.pure (.ret d))) S2) (KF D.N F E H2) →
      (∀ μ4 S4 H4 σ4 ρ4, F.I σ4 → Rel D.N μ4 S4 H4 → RSt D.N μ4 H4 ρ4 σ4 → Ext μ2 H2 μ4 H4 → GG D.N F μ4 H4 (rest ρ4 S4) (KF D.N F E H4) → Nx σ4 H4) →
      gt x σ2 H3 fun σ5 H5 => tSs D F call bd { E with nx := Nx, ct := Nx, bk := E.nx } σ5 H5 := by
    intro μ2 S2 H2 σ2 ρ2 d x H3 rest Nx hI2 hρ2 e3 R3 rd g2 hNx
    rw [IR.M.bind_assoc] at g2
    have g3 := KF.base e3 g2
    refine ht.ok hI2 R3 (hρ2.mono e3.w) rd ?_
    refine GG.imp (GG.bind (show GG D.N F μ2 H3 ((IR.setTg t ρ2 d S2).bind _) (KF D.N F E H3) from g3)) fun ρ5 S5 μ5 H5 e5 R5 g5 σ5 hI5 hρ5 _ => ?_
    have g5 := KF.base' e5 g5
    refine ⟨μ5, S5, ρ5, hI5, R5, hρ5, ?_⟩
    refine GG.imp (GG.bind (show GG D.N F μ5 H5 ((IR.exs D.g call bd ρ5 S5).bind _) (KF D.N F E H5) from g5)) fun fl S6 μ6 H6 e6 R6 g6 => ?_
    cases fl with
    | next ρ6 => exact fun σ6 hI6 hρ6 => hNx μ6 S6 H6 σ6 ρ6 hI6 R6 hρ6 ((e3.trans e5).trans e6) (KF.base' e6 g6)
    | cnt ρ6 => exact fun σ6 hI6 hρ6 => hNx μ6 S6 H6 σ6 ρ6 hI6 R6 hρ6 ((e3.trans e5).trans e6) (KF.base' e6 g6)
    | brk ρ6 => exact fun σ6 hI6 hρ6 => g6 μ6 H6 (Ext.refl _ _) R6 σ6 hI6 hρ6
    | ret d => exact g6 μ6 H6 (Ext.refl _ _) R6
  cases s with
  | dk _ _ => exact hJ.elim
  | st l =>
    refine ⟨fun i m σ H => m = l.length - i ∧ i ≤ l.length ∧ ∃ μ' S' ρ', F.I σ ∧ Rel D.N μ' S' H ∧ RSt D.N μ' H ρ' σ ∧ Ext μ1 H1 μ' H ∧ GG D.N F μ' H (IR.forSt (fun x ρ => (IR.setTg t ρ x).bind fun ρ' => IR.exs D.g call bd ρ') (l.drop i) ρ' S') (KF D.N F E H),
      ⟨_, rfl, Nat.zero_le _, μ1, S1, ρ, hI, R1, hρ1, Ext.refl _ _, g1⟩, ?_⟩
    rintro i m' σ2 H2 ⟨rfl, hi2, μ2, S2, ρ2, hI2, R2, hρ2, e2, g2⟩
    obtain ⟨go, stop⟩ := hJ μ2 S2 H2 e2 R2 i
    by_cases hlt : i < l.length
    · obtain ⟨h1, h2⟩ := go l[i] (List.getElem?_eq_getElem hlt)
      rw [List.drop_eq_getElem_cons hlt] at g2
      refine .inr ⟨h1, _, fun σ' H' w => ⟨l.length - (i + 1), by omega, w⟩, fun x H3 y => ?_⟩
      obtain ⟨e3, R3, rd⟩ := h2 x H3 y
      exact turn hI2 hρ2 e3 R3 rd g2 fun μ4 S4 H4 σ4 ρ4 hI4 R4 hρ4 e4 g4 => ⟨rfl, hlt, μ4, S4, ρ4, hI4, R4, hρ4, e2.trans e4, g4⟩
    · have e : i = l.length := by omega
      subst e
      rw [List.drop_length] at g2
      exact .inl ⟨stop (Nat.le_refl _), g2 μ2 H2 (Ext.refl _ _) R2 σ2 hI2 hρ2⟩
  | rf en n =>
    have hl : ∃ l, S1[n]? = some (.lst l) ∧ GG D.N F μ1 H1 (IR.forRf (fun x ρ => (IR.setTg t ρ x).bind fun ρ' => IR.exs D.g call bd ρ') en n l.length 0 ρ S1) (KF D.N F E H1) := by
      simp only [IR.forSrc] at g1
      split at g1
      · rename_i l e; exact ⟨l, e, g1⟩
      · exact g1.elim
    obtain ⟨l0, _, g1⟩ := hl
    refine ⟨fun i m σ H => ∃ μ' S' ρ', F.I σ ∧ Rel D.N μ' S' H ∧ RSt D.N μ' H ρ' σ ∧ Ext μ1 H1 μ' H ∧ GG D.N F μ' H (IR.forRf (fun x ρ => (IR.setTg t ρ x).bind fun ρ' => IR.exs D.g call bd ρ') en n m i ρ' S') (KF D.N F E H),
      ⟨_, μ1, S1, ρ, hI, R1, hρ1, Ext.refl _ _, g1⟩, ?_⟩
    rintro i m' σ2 H2 ⟨μ2, S2, ρ2, hI2, R2, hρ2, e2, g2⟩
    cases m' with
    | zero =>
      simp only [IR.forRf] at g2
      split at g2
      · rename_i l e
        obtain ⟨go, stop⟩ := hJ μ2 S2 H2 l e2 R2 e i
        split at g2
        · rename_i hle
          exact .inl ⟨stop hle, g2 μ2 H2 (Ext.refl _ _) R2 σ2 hI2 hρ2⟩
        · exact g2.elim
      · exact g2.elim
    | succ m' =>
      simp only [IR.forRf] at g2
      split at g2
      · rename_i l e
        obtain ⟨go, stop⟩ := hJ μ2 S2 H2 l e2 R2 e i
        split at g2
        · rename_i hn
          exact .inl ⟨stop (List.getElem?_eq_none_iff.mp hn), g2 μ2 H2 (Ext.refl _ _) R2 σ2 hI2 hρ2⟩
        · rename_i d hd
          obtain ⟨h1, h2⟩ := go d hd
          refine .inr ⟨h1, _, fun σ' H' w => ⟨m', Nat.lt_succ_self _, w⟩, fun x H3 y => ?_⟩
          obtain ⟨e3, R3, rd⟩ := h2 x H3 y
          exact turn hI2 hρ2 e3 R3 rd g2 fun μ4 S4 H4 σ4 ρ4 hI4 R4 hρ4 e4 g4 => ⟨μ4, S4, ρ4, hI4, R4, hρ4, e2.trans e4, g4⟩
      · exact g2.elim
end
end IRS

namespace IRS
open PySem PySem.Spec PyProof.Rows L2
/-! ### comprehensions -/
/-- no exception is wanted -/
def Fm0 : Fm := ⟨fun _ => True, fun _ => true, fun _ _ _ _ => False, fun _ _ _ _ _ => trivial, fun _ _ _ _ => trivial⟩
/-- the block of a comprehension -/
def Ctx.blk (c : Ctx) (scope : Scope) : Ctx := ⟨c.N, relS scope c.sc, fun x => scope.names.lookup x == some .cell, c.hot⟩
section
variable {D : Wd} {X : Cx} {c : Ctx} {k : Nat} {F : Fm} {pos : Pos} {a b e o tg elt iter : Expr} {es : List Expr} {call : Nat → List IR.D → IR.M IR.D} {x y z : IR.E} {scope : Scope}
theorem takes00 {X : Cx} : Takes X (fun _ _ _ _ => False) := fun _ _ x => by
  obtain ⟨_, _, _, _, _, _, _, _, _, _, _, _, _, _, _, _, z⟩ := x
  exact z.elim
theorem Cm.blk (C : Cm D X c k F) (hk : scope.kind = .function) {s : Shared} {H : Hp} {cl : List (Str × Addr)} {A : Addr} {fp : List Addr} : Cm D (X.blk s H scope (compEnvC scope cl A X.env) fp) (c.blk scope) k Fm0 where
  prog := C.prog
  w := C.w
  K := C.K
  mg := C.mg
  base := C.base
  N := C.N
  nd := C.nd
  sc := by
    have e : (compEnvC scope cl A X.env).scope = relS scope X.env.scope := rfl
    show (compEnvC scope cl A X.env).scope = relS scope c.sc
    rw [e, C.sc]
  fs := rfl
  kd := hk
  calm0 := C.calm0
  room0 := C.room0
  tk := takes00
end
def tgSlots : IR.Tg → List Nat
  | .var i => [i]
  | .tup is => is
def wipeE (ρ : IR.Env) : List Nat → IR.Env
  | [] => ρ
  | i :: is => (wipeE ρ is).set i none
theorem RSt.wipe {N : Nm} {μ : List Addr} {H : Hp} {ρ : IR.Env} {σ : L2.St} (h : RSt N μ H ρ σ) : ∀ is, RSt N μ H (wipeE ρ is) (L2.wipe σ is)
  | [] => h
  | i :: is => by
    have ih := RSt.wipe h is
    refine ⟨by simp [wipeE, L2.wipe, ih.1], fun j d hd => ?_⟩
    simp only [wipeE, L2.wipe, List.getElem?_set] at hd ⊢
    by_cases hij : i = j
    · subst hij
      rw [if_pos rfl] at hd
      split at hd <;> cases hd
    · rw [if_neg hij] at hd ⊢
      exact ih.2 j d hd
theorem setVars_none {j : Nat} : ∀ {is : List Nat} {ds : List IR.D} {ρ : IR.Env}, j ∈ is → ds.length = is.length → IR.setVars (ρ.set j none) is ds = IR.setVars ρ is ds
  | i :: is, [], _, _, h => by cases h
  | i :: is, d :: ds, ρ, hj, h => by
    simp only [IR.setVars]
    by_cases e : j = i
    · subst e; rw [List.set_set]
    · rw [List.set_comm _ _ e]
      exact setVars_none ((List.mem_cons.mp hj).resolve_left e) (Nat.succ.inj h)
theorem setTg_wipe {t : IR.Tg} {ρ : IR.Env} {d : IR.D} {S : IR.Sto} : IR.setTg t (wipeE ρ (tgSlots t)) d S = IR.setTg t ρ d S := by
  cases t with
  | var i => simp [IR.setTg, tgSlots, wipeE, List.set_set]
  | tup is =>
    have aux : ∀ (l : List IR.D), l.length = is.length → IR.setVars (wipeE ρ is) is l = IR.setVars ρ is l := fun l hl => by
      have aux : ∀ js : List Nat, (∀ j ∈ js, j ∈ is) → IR.setVars (wipeE ρ js) is l = IR.setVars ρ is l := fun js => by
        induction js with
        | nil => exact fun _ => rfl
        | cons j js ih => exact fun h => by rw [wipeE, setVars_none (h j List.mem_cons_self) hl, ih fun i hi => h i (List.mem_cons_of_mem _ hi)]
      exact aux is fun _ h => h
    cases d <;> try rfl
    · rename_i l
      simp only [IR.setTg, tgSlots]
      split
      · rename_i hl
        rw [aux l hl]
      · rfl
    · rename_i r
      simp only [IR.setTg, tgSlots]
      split
      · split
        · rename_i hl
          rw [aux _ hl]
        · rfl
      · rfl
section
variable {N : Nm} {μ μ1 : List Addr} {H H1 : Hp} {S : IR.Sto}
theorem Ext.updNew {p : Addr} {o : HO} (e : Ext μ H μ1 H1) (h : H p = none) : Ext μ H μ1 (upd H1 p o) :=
  ⟨e.pre, e.new, fun a u ha z => by rw [upd_ne (ne_of_none z h)]; exact e.keep a u ha z, fun a u z => by rw [upd_ne (ne_of_none z h)]; exact e.tup a u z, fun a u v z => by rw [upd_ne (ne_of_none z h)]; exact e.frz a u v z⟩
theorem WExt.side {p : Addr} {vs : List V} {o : HO} (h : H p = some (.lst vs)) : WExt μ H μ (upd H p o) :=
  ⟨List.prefix_refl _, fun a us z => by rw [upd_ne (fun e => by rw [e, h] at z; cases z)]; exact z, fun a q us z => by rw [upd_ne (fun e => by rw [e, h] at z; cases z)]; exact z, fun a q us z => by rw [upd_ne (fun e => by rw [e, h] at z; cases z)]; exact z⟩
theorem Rel.side {p : Addr} {vs : List V} {o : HO} (R : Rel N μ S H) (h : H p = some (.lst vs)) (hp : p ∉ μ) : Rel N μ S (upd H p o) :=
  ⟨R.len, R.nd, fun i q a h1 h2 => (R.ob i q a h1 h2).mono (WExt.side h) (upd_ne fun e => hp (e ▸ List.mem_of_getElem? h2))⟩
theorem WExt.refl : WExt μ1 H1 μ1 H1 := ⟨List.prefix_refl _, fun _ _ h => h, fun _ _ _ h => h, fun _ _ _ h => h⟩
theorem own_ok {y y' : IR.D} {S' : IR.Sto} {v : V} (h : IR.own y S = .ok y' S') (e : Ext μ H μ1 H1) (R : Rel N μ1 S H1) (r : RepV N μ1 H1 y v) (tm : Tmp H y v) :
    ∃ μ2, Ext μ H μ2 H1 ∧ Rel N μ2 S' H1 ∧ Rep N μ2 H1 y' v ∧ WExt μ1 H1 μ2 H1 ∧ ∀ a ∈ μ2, a ∈ μ1 ∨ H a = none := by
  by_cases hd : ∃ l, y = .tl l
  · obtain ⟨l, rfl⟩ := hd
    obtain ⟨a, vs, rfl, h1, h2, rr⟩ := r
    cases h
    refine ⟨μ1 ++ [a], e.add (tm l a rfl rfl), R.add h2 ⟨vs, h1, rr.mono .add⟩, .ref ?_, .add, fun b hb => ?_⟩
    · rw [← R.len]; simp
    · rcases List.mem_append.mp hb with z | z
      · exact .inl z
      · rw [List.mem_singleton.mp z]; exact .inr (tm l a rfl rfl)
  · have hn : ∀ l, y ≠ .tl l := fun l z => hd ⟨l, z⟩
    have e3 : IR.own y S = .ok y S := by
      cases y with
      | tl l => exact absurd rfl (hn l)
      | _ => rfl
    rw [e3] at h; cases h
    exact ⟨μ1, e, R, r.rep hn, WExt.refl, fun a ha => .inl ha⟩
end
/-- a turn of a comprehension -/
def lcF (g : IR.G) (call : Nat → List IR.D → IR.M IR.D) (t : IR.Tg) (mc : IR.Env → IR.M Bool) (z : IR.E) (ρ : IR.Env) : IR.D → IR.M (Option IR.D) := fun x => (IR.setTg t ρ x).bind fun ρ' => (mc ρ').bind fun b =>
  if b then (IR.ev g call z ρ').bind fun y => (IR.own y).bind fun y => IR.M.pure (some y) else IR.M.pure none
section
variable {D : Wd} {X : Cx} {c : Ctx} {k : Nat} {F : Fm} {pos : Pos} {a b e o tg elt iter : Expr} {es : List Expr} {call : Nat → List IR.D → IR.M IR.D} {x y z : IR.E} {scope : Scope}
theorem bind_ok {α β : Type} {r : IR.Res α} {f : α → IR.M β} {b : β} {S : IR.Sto} (h : r.bind f = .ok b S) : ∃ a S1, r = .ok a S1 ∧ f a S1 = .ok b S := by
  cases r with
  | ok a S1 => exact ⟨a, S1, rfl, h⟩
  | exc c fs S => cases h
  | bad => cases h
/-- the invariant of the walk: what is gathered so far -/
structure LcI (D : Wd) (μ1 : List Addr) (H1 : Hp) (Da : Addr) (S' : IR.Sto) (acc : List IR.D) (H : Hp) : Prop where
  ex : ∃ μ' vacc, Ext μ1 H1 μ' H ∧ Rel D.N μ' S' H ∧ H Da = some (.lst vacc) ∧ Da ∉ μ' ∧ Reps D.N μ' H acc vacc
theorem wipe_wipe {σ : L2.St} {is : List Nat} : wipe (wipe σ is) is = wipe σ is := by
  have set_wipe : ∀ (js : List Nat) (σ : L2.St) (i : Nat), i ∈ js → (wipe σ js).set i none = wipe σ js := fun js => by
    induction js with
    | nil => exact fun _ _ h => by cases h
    | cons j js ih =>
      intro σ i h
      show ((wipe σ js).set j none).set i none = (wipe σ js).set j none
      by_cases e : i = j
      · rw [e, List.set_set]
      · rw [List.set_comm _ _ (Ne.symm e), ih σ i ((List.mem_cons.mp h).resolve_left e)]
  have aux : ∀ js : List Nat, (∀ j ∈ js, j ∈ is) → wipe (wipe σ is) js = wipe σ is := fun js => by
    induction js with
    | nil => exact fun _ => rfl
    | cons j js ih =>
      intro h
      show (wipe (wipe σ is) js).set j none = _
      rw [ih fun i hi => h i (List.mem_cons_of_mem _ hi), set_wipe is σ j (h j List.mem_cons_self)]
  exact aux is fun _ h => h
/-- one turn -/
theorem lc_turn {t : IR.Tg} {gt : TG} {tt : TT} {mc : IR.Env → IR.M Bool} {μ1 μ2 : List Addr} {H1 H2 H3 : Hp} {S2 SF : IR.Sto} {Da : Addr} {acc lF : List IR.D} {vacc : List V} {σ : L2.St} {ρ : IR.Env} {d : IR.D} {v : V} {rest : List IR.D → IR.M (List IR.D)} {Nx : Hp → Prop}
    (ht : ∀ {μ S H ρ σ d v Q}, Rel D.N μ S H → RSt D.N μ H ρ σ → Rep D.N μ H d v → GG D.N Fm0 μ H (IR.setTg t ρ d S) (fun ρ' _ μ' H' => ∀ σ', RSt D.N μ' H' ρ' σ' → wipe σ' (tgSlots t) = wipe σ (tgSlots t) → Q σ' H') → gt v σ H Q)
    (hc : ∀ σ H Q, tT D.N Fm0 mc σ H Q → tt σ H Q) (hD : H1 Da = none) (e2 : Ext μ1 H1 μ2 H2) (hDa : H2 Da = some (.lst vacc)) (hn : Da ∉ μ2) (rs : Reps D.N μ2 H2 acc vacc) (hρ : RSt D.N μ1 H1 ρ σ)
    (e3 : Ext μ2 H2 μ2 H3) (R3 : Rel D.N μ2 S2 H3) (rd : Rep D.N μ2 H3 d v)
    (h : (lcF D.g call t mc z ρ d S2).bind (fun o => match o with
      | none => rest acc
      | some y => if acc.length < IR.LINE then rest (acc ++ [y]) else IR.M.bad) = .ok lF SF)
    (hNx : ∀ S' acc' H', LcI D μ1 H1 Da S' acc' H' → rest acc' S' = .ok lF SF → Nx H') :
    gt v (wipe σ (tgSlots t)) H3 fun σ2 H2 => wipe σ2 (tgSlots t) = wipe σ (tgSlots t) ∧ tt σ2 H2 fun b H3 =>
      if b = true then tV D Fm0 call z σ2 H3 fun y H4 => ∃ acc, H4 Da = some (.lst acc) ∧ acc.length < sizeLine ∧ Nx (upd H4 Da (.lst (acc ++ [y]))) else Nx H3 := by
  obtain ⟨o, S5, h1, h2⟩ := bind_ok h
  obtain ⟨ρ4, S4, h3, h4⟩ := bind_ok (r := IR.setTg t ρ d S2) h1
  have hDa3 := e3.keep _ _ hn hDa
  refine ht (ρ := wipeE ρ (tgSlots t)) R3 (((hρ.mono e2.w).mono e3.w).wipe _) rd ?_
  rw [setTg_wipe, h3]
  intro μ4 H4 e4 R4 σ4 hρ4 hw
  refine ⟨by rw [hw]; exact wipe_wipe, hc _ _ _ ⟨μ4, S4, ρ4, trivial, R4, hρ4, ?_⟩⟩
  obtain ⟨bb, S6, h5, h6⟩ := bind_ok (r := mc ρ4 S4) h4
  rw [h5]
  intro μ6 H6 e6 R6
  have hDa6 := (e4.trans e6).keep _ _ hn hDa3
  have nin : ∀ {μ7 H7}, Ext μ2 H3 μ7 H7 → Da ∉ μ7 := fun e z => (e.new _ z).elim hn fun q => by rw [hDa3] at q; cases q
  cases bb with
  | false =>
    rw [if_neg (by decide)] at h6
    cases h6
    show Nx H6
    exact hNx _ acc _ ⟨μ6, vacc, e2.trans (e3.trans (e4.trans e6)), R6, hDa6, nin (e4.trans e6), ((rs.mono e3.w).mono e4.w).mono e6.w⟩ h2
  | true =>
    rw [if_pos rfl] at h6
    show tV D Fm0 call z σ4 H6 fun y H4 => ∃ acc, H4 Da = some (.lst acc) ∧ acc.length < sizeLine ∧ Nx (upd H4 Da (.lst (acc ++ [y])))
    obtain ⟨yy, S7, h7, h8⟩ := bind_ok (r := IR.ev D.g call z ρ4 S6) h6
    obtain ⟨y', S8, h9, h10⟩ := bind_ok (r := IR.own yy S7) h8
    cases h10
    simp only at h2
    split at h2
    · rename_i hlt
      refine ⟨μ6, S6, ρ4, trivial, R6, hρ4.mono e6.w, ?_⟩
      rw [h7]
      intro μ7 H7 e7 R7 u ru tm
      have hDa7 := e7.keep _ _ (nin (e4.trans e6)) hDa6
      obtain ⟨μ8, e8, R8, r8, w8, m8⟩ := own_ok h9 e7 R7 ru tm
      have hn8 : Da ∉ μ8 := nin ((e4.trans e6).trans e8)
      have rs8 := (((rs.mono e3.w).mono e4.w).mono e6.w).mono e8.w
      refine ⟨vacc, hDa7, by rw [← rs.length]; exact Nat.lt_of_lt_of_le hlt (by decide), hNx _ _ _ ⟨μ8, vacc ++ [u], ((e2.trans (e3.trans (e4.trans e6))).trans e8).updNew hD, R8.side hDa7 hn8, upd_same, hn8, (rs8.append (.cons r8 .nil)).mono (WExt.side hDa7)⟩ h2⟩
    · cases h2
/-- the reading of a comprehension -/
theorem lc_core' {t : IR.Tg} {gt : TG} {tt : TT} {mc : IR.Env → IR.M Bool} {m : IR.Env → IR.M IR.Src} {σ : L2.St} {H : Hp} {Q : VK} {μ : List Addr} {S : IR.Sto} {ρ : IR.Env}
    (ht : ∀ {μ S H ρ σ d v Q}, Rel D.N μ S H → RSt D.N μ H ρ σ → Rep D.N μ H d v → GG D.N Fm0 μ H (IR.setTg t ρ d S) (fun ρ' _ μ' H' => ∀ σ', RSt D.N μ' H' ρ' σ' → wipe σ' (tgSlots t) = wipe σ (tgSlots t) → Q σ' H') → gt v σ H Q)
    (hc : ∀ σ H Q, tT D.N Fm0 mc σ H Q → tt σ H Q) (hI : F.I σ) (R : Rel D.N μ S H) (hρ : RSt D.N μ H ρ σ)
    (g : GV D.N F μ H (((m ρ).bind fun s => (IR.noExc (IR.lcSrc (lcF D.g call t mc z ρ) s)).bind fun l => IR.M.pure (.tl l)) S) Q) :
    tLc (tIt D F m) gt tt (tV D Fm0 call z) (tgSlots t) σ H Q := by
  refine ⟨μ, S, ρ, hI, R, hρ, ?_⟩
  have g : GV D.N F μ H ((m ρ S).bind fun s => (IR.noExc (IR.lcSrc (lcF D.g call t mc z ρ) s)).bind fun l => IR.M.pure (.tl l)) Q := g
  cases e : m ρ S with
  | bad => rw [e] at g; exact g
  | exc c fs S => rw [e] at g; exact g
  | ok s S1 =>
    rw [e] at g
    refine fun μ1 H1 e1 R1 J hJ Da hD => ?_
    have g1 : GV D.N F μ1 H1 ((IR.noExc (IR.lcSrc (lcF D.g call t mc z ρ) s) S1).bind fun l => IR.M.pure (.tl l)) Q := GV.base e1 g
    obtain ⟨lF, SF, hF, fin⟩ : ∃ lF SF, IR.lcSrc (lcF D.g call t mc z ρ) s S1 = .ok lF SF ∧ ∀ H', LcI D μ1 H1 Da SF lF H' → Q (.ref Da) H' := by
      cases er : IR.lcSrc (lcF D.g call t mc z ρ) s S1 with
      | bad => rw [show IR.noExc (IR.lcSrc (lcF D.g call t mc z ρ) s) S1 = .bad by unfold IR.noExc; rw [er]] at g1; exact g1.elim
      | exc c fs S => rw [show IR.noExc (IR.lcSrc (lcF D.g call t mc z ρ) s) S1 = .bad by unfold IR.noExc; rw [er]] at g1; exact g1.elim
      | ok lF SF =>
        rw [show IR.noExc (IR.lcSrc (lcF D.g call t mc z ρ) s) S1 = .ok lF SF by unfold IR.noExc; rw [er]] at g1
        refine ⟨lF, SF, rfl, fun H' ⟨μ', vacc, x1, x2, x3, x4, x5⟩ => ?_⟩
        exact g1 μ' H' x1 x2 (.ref Da) ⟨Da, vacc, rfl, x3, x4, x5⟩ fun l a _ z => by cases z; exact hD
    have i0 : LcI D μ1 H1 Da S1 [] (upd H1 Da (.lst [])) := ⟨μ1, [], Ext.laid hD, R1.laid hD, upd_same, R1.fresh hD, .nil⟩
    have hρ1 := hρ.mono e1.w
    cases s with
    | dk _ _ => exact hJ.elim
    | st l =>
      refine ⟨fun i m H => m = l.length - i ∧ i ≤ l.length ∧ ∃ S' acc, LcI D μ1 H1 Da S' acc H ∧ IR.lcSt (lcF D.g call t mc z ρ) (l.drop i) acc S' = .ok lF SF, ⟨_, rfl, Nat.zero_le _, S1, [], i0, hF⟩, ?_⟩
      rintro i m' H2 ⟨rfl, hi2, S2, acc, ⟨μ2, vacc, e2, R2, x3, x4, x5⟩, h2⟩
      obtain ⟨go, stop⟩ := hJ μ2 S2 H2 e2 R2 i
      by_cases hlt : i < l.length
      · obtain ⟨k1, k2⟩ := go l[i] (List.getElem?_eq_getElem hlt)
        rw [List.drop_eq_getElem_cons hlt] at h2
        refine .inr ⟨k1, _, fun H' w => ⟨l.length - (i + 1), by omega, w⟩, fun x H3 y => ?_⟩
        obtain ⟨e3, R3, rd⟩ := k2 x H3 y
        exact lc_turn (rest := fun acc => IR.lcSt (lcF D.g call t mc z ρ) (l.drop (i + 1)) acc) ht hc hD e2 x3 x4 x5 hρ1 e3 R3 rd h2 fun S' acc' H' q1 q2 => ⟨rfl, hlt, S', acc', q1, q2⟩
      · have e : i = l.length := by omega
        subst e
        rw [List.drop_length] at h2
        cases h2
        exact .inl ⟨stop (Nat.le_refl _), fin H2 ⟨μ2, vacc, e2, R2, x3, x4, x5⟩⟩
    | rf en n =>
      obtain ⟨l0, _, hF⟩ : ∃ l, S1[n]? = some (.lst l) ∧ IR.lcRf (lcF D.g call t mc z ρ) en n l.length 0 [] S1 = .ok lF SF := by
        simp only [IR.lcSrc] at hF
        split at hF
        · rename_i l e; exact ⟨l, e, hF⟩
        · cases hF
      refine ⟨fun i m H => ∃ S' acc, LcI D μ1 H1 Da S' acc H ∧ IR.lcRf (lcF D.g call t mc z ρ) en n m i acc S' = .ok lF SF, ⟨_, S1, [], i0, hF⟩, ?_⟩
      rintro i m' H2 ⟨S2, acc, ⟨μ2, vacc, e2, R2, x3, x4, x5⟩, h2⟩
      cases m' with
      | zero =>
        simp only [IR.lcRf] at h2
        split at h2
        · rename_i l e
          obtain ⟨go, stop⟩ := hJ μ2 S2 H2 l e2 R2 e i
          split at h2
          · rename_i hle
            cases h2
            exact .inl ⟨stop hle, fin H2 ⟨μ2, vacc, e2, R2, x3, x4, x5⟩⟩
          · cases h2
        · cases h2
      | succ m' =>
        simp only [IR.lcRf] at h2
        split at h2
        · rename_i l e
          obtain ⟨go, stop⟩ := hJ μ2 S2 H2 l e2 R2 e i
          split at h2
          · rename_i hn
            cases h2
            exact .inl ⟨stop (List.getElem?_eq_none_iff.mp hn), fin H2 ⟨μ2, vacc, e2, R2, x3, x4, x5⟩⟩
          · rename_i d hd
            obtain ⟨k1, k2⟩ := go d hd
            refine .inr ⟨k1, _, fun H' w => ⟨m', Nat.lt_succ_self _, w⟩, fun x H3 y => ?_⟩
            obtain ⟨e3, R3, rd⟩ := k2 x H3 y
            exact lc_turn (rest := fun acc => IR.lcRf (lcF D.g call t mc z ρ) en n m' (i + 1) acc) ht hc hD e2 x3 x4 x5 hρ1 e3 R3 rd h2 fun S' acc' H' q1 q2 => ⟨S', acc', q1, q2⟩
        · cases h2
theorem TgOk.ht {X' : Cx} {t : IR.Tg} {gt : TG} (h : TgOk D X' Fm0 tg t gt) : ∀ {μ S H ρ σ d v Q}, Rel D.N μ S H → RSt D.N μ H ρ σ → Rep D.N μ H d v → GG D.N Fm0 μ H (IR.setTg t ρ d S) (fun ρ' _ μ' H' => ∀ σ', RSt D.N μ' H' ρ' σ' → wipe σ' (tgSlots t) = wipe σ (tgSlots t) → Q σ' H') → gt v σ H Q :=
  fun {μ S H ρ σ d v Q} R hρ rd g => h.ok trivial R hρ rd (GG.imp g fun ρ' S' μ' H' _ _ k σ' _ hρ' hw => k σ' hρ' (hw _ (by cases t with | var i => exact .inr ⟨i, rfl, rfl⟩ | tup is => exact .inl rfl)))
/-- [elt for tg in iter] -/
theorem s_lc0 {t : IR.Tg} {gt : TG} {own : List (Str × Nat)} {it : IR.It} (C : Cm D X c k F) (hi : PI X tg iter (tIt D F (IR.evIt D.g call it))) (ok : BlkOk c.N c.sc scope own) (hw : own.map (·.2) = tgSlots t)
    (hg : ∀ (s : Shared) (H : Hp) (A : Addr) (cl : List (Str × Addr)) (fp : List Addr), TgOk D (X.blk s H scope (compEnvC scope cl A X.env) fp) Fm0 tg t gt)
    (he : ∀ (s : Shared) (H : Hp) (A : Addr) (cl : List (Str × Addr)) (fp : List Addr), PE (X.blk s H scope (compEnvC scope cl A X.env) fp) elt (tV D Fm0 call z)) (hs : ∀ x, foldedSetIterable iter X.env x = pure x) (hh : c.hot = false := by rfl) :
    PE X (.ListComp elt [⟨tg, iter, [], 0⟩] scope pos) (tV D F call (.lc it t none z)) := by
  refine ⟨fun pins s0 σ H Q I q => (pe_lc (C.calm hh) (by rw [C.N]; exact C.nd) hi (by rw [C.N, C.sc]; exact ok) (fun s H A cl fp => (hg s H A cl fp).pg) (fun s H A cl fp => pts_nil) he hs).run pins s0 σ H Q I ?_⟩
  obtain ⟨μ, S, ρ, hI, R, hρ, g⟩ := q
  rw [hw]
  exact lc_core' (mc := fun _ => IR.M.pure true) (hg s0 H 0 [] []).ht (fun σ H Q ⟨μ, S, ρ, _, R, hρ, g⟩ => g μ H (Ext.refl _ _) R) hI R hρ g
theorem s_lc1 {t : IR.Tg} {gt : TG} {own : List (Str × Nat)} {it : IR.It} {cE : Expr} (C : Cm D X c k F) (hi : PI X tg iter (tIt D F (IR.evIt D.g call it))) (ok : BlkOk c.N c.sc scope own) (hw : own.map (·.2) = tgSlots t)
    (hg : ∀ (s : Shared) (H : Hp) (A : Addr) (cl : List (Str × Addr)) (fp : List Addr), TgOk D (X.blk s H scope (compEnvC scope cl A X.env) fp) Fm0 tg t gt)
    (hc : ∀ (s : Shared) (H : Hp) (A : Addr) (cl : List (Str × Addr)) (fp : List Addr), PT (X.blk s H scope (compEnvC scope cl A X.env) fp) cE (tB' D Fm0 call y))
    (he : ∀ (s : Shared) (H : Hp) (A : Addr) (cl : List (Str × Addr)) (fp : List Addr), PE (X.blk s H scope (compEnvC scope cl A X.env) fp) elt (tV D Fm0 call z)) (hs : ∀ x, foldedSetIterable iter X.env x = pure x) (hh : c.hot = false := by rfl) :
    PE X (.ListComp elt [⟨tg, iter, [cE], 0⟩] scope pos) (tV D F call (.lc it t (some y) z)) := by
  refine ⟨fun pins s0 σ H Q I q => (pe_lc (C.calm hh) (by rw [C.N]; exact C.nd) hi (by rw [C.N, C.sc]; exact ok) (fun s H A cl fp => (hg s H A cl fp).pg) (fun s H A cl fp => pts_one (hc s H A cl fp)) he hs).run pins s0 σ H Q I ?_⟩
  obtain ⟨μ, S, ρ, hI, R, hρ, g⟩ := q
  rw [hw]
  refine lc_core' (mc := fun ρ => (IR.ev D.g call y ρ).bind IR.truth) (hg s0 H 0 [] []).ht (fun σ H Q h => h) hI R hρ ?_
  have e : (lcF D.g call t (fun ρ => (IR.ev D.g call y ρ).bind IR.truth) z ρ) = fun x => (IR.setTg t ρ x).bind fun ρ' => (IR.ev D.g call y ρ').bind fun c => (IR.truth c).bind fun b => if b then (IR.ev D.g call z ρ').bind fun y => (IR.own y).bind fun y => IR.M.pure (some y) else IR.M.pure none := by
    funext x
    simp only [lcF, IR.M.bind_assoc]
  rw [e]
  exact g
end
end IRS

namespace IRS
open PySem PySem.Spec PyProof.Rows L2
/-! ### each operation -/
section
variable {D : Wd} {X : Cx} {c : Ctx} {k : Nat} {F : Fm} {pos p : Pos} {a b e o tg elt iter : Expr} {es : List Expr} {call : Nat → List IR.D → IR.M IR.D} {x y z : IR.E} {n : Str} {o' : IR.Op}
theorem Cm.gl (C : Cm D X c k F) (h : c.sc.names.lookup n = some .globalImplicit) : Gl X n := by
  show X.env.scope.names.lookup n = _
  rw [C.sc]; exact h
theorem Cm.mgn (C : Cm D X c k F) {v : Option Value} (h : D.mg n = v) : X.mg n = v := by rw [C.mg]; exact h
def visB (sc : Scope) (x : Str) : Bool := match sc.names.lookup x with
  | some .local => true
  | some .cell => true
  | some .free => true
  | _ => false
theorem vis_of {sc : Scope} {x : Str} (h : visB sc x = true) : Vis sc x := by
  unfold visB at h
  split at h
  · exact .inl (by assumption)
  · exact .inr (.inl (by assumption))
  · exact .inr (.inr (by assumption))
  · cases h
def locB (sc : Scope) (x : Str) : Bool := match sc.names.lookup x with
  | some .local => true
  | some .cell => true
  | _ => false
theorem loc_of {sc : Scope} {x : Str} (h : locB sc x = true) : Loc sc x := by
  unfold locB at h
  split at h
  · exact .inl (by assumption)
  · exact .inr (by assumption)
  · cases h
def stoB (c : Ctx) (x : Str) : Bool := c.fs x || (match c.sc.names.lookup x with
  | some .local => true
  | _ => false)
theorem sto_of {c : Ctx} {x : Str} (h : stoB c x = true) : c.fs x = true ∨ c.sc.names.lookup x = some .local := by
  unfold stoB at h
  rcases Bool.or_eq_true_iff.mp h with h | h
  · exact .inl h
  · split at h
    · exact .inr (by assumption)
    · cases h
/-- a name -/
theorem e_var (C : Cm D X c k F) {i : Nat} (hN : c.N[i]? = some n) (hv : visB c.sc n = true) (hd : (n == ("__debug__" : Str)) = false := by rfl) (hcd : (n == ("__classdict__" : Str)) = false := by rfl) : PE X (.Name n pos) (tV D F call (.var i)) := s_var C hN (vis_of hv) hd hcd
theorem e_int {i : Int} {j} : PE X (.Constant (.int i) j pos) (tV D F call (.c (.int i))) := s_c pe_int fun _ _ => .int i
theorem e_bl {i : Bool} {j} : PE X (.Constant (.bool i) j pos) (tV D F call (.c (.bl i))) := s_c pe_bl fun _ _ => .bl i
theorem e_non {j} : PE X (.Constant .none j pos) (tV D F call (.c .non)) := s_c pe_non fun _ _ => .non
theorem e_str {t : IR.Txt} {j} (h : sT t = n) : PE X (.Constant (.str n) j pos) (tV D F call (.c (.str t))) := s_c pe_str fun _ _ => by rw [← h]; exact .str t
/-- a number of the module -/
theorem e_gint (C : Cm D X c k F) {i : Int} {tk : Tok} (hg : c.sc.names.lookup n = some .globalImplicit) (hm : D.mg n = some (.int i tk)) (hd : (n == ("__debug__" : Str)) = false := by rfl) : PE X (.Name n pos) (tV D F call (.c (.int i))) := s_c (pe_glob (v := .int i) (C.gl hg) (C.mgn hm) ⟨_, rfl⟩ hd) fun _ _ => .int i
theorem e_fn (C : Cm D X c k F) {i : Nat} {f : Addr} (hg : c.sc.names.lookup n = some .globalImplicit) (hm : D.mg n = some (.ref f)) (hf : D.N.fnA i = some f) (hd : (n == ("__debug__" : Str)) = false := by rfl) : PE X (.Name n pos) (tV D F call (.c (.fn i))) := s_c (pe_glob (v := .ref f) (C.gl hg) (C.mgn hm) rfl hd) fun _ _ => .fn hf
theorem e_add (C : Cm D X c k F) (ha : PE X a (tV D F call x)) (hb : PE X b (tV D F call y)) : PE X (.BinOp a .Add b pos) (tV D F call (.op .add (.cons false x (.cons false y .nil)))) := s_op2 op_addX ha hb fun R ra rb g => by rw [C.K]; exact o_add R ra rb g
theorem e_sub (C : Cm D X c k F) (ha : PE X a (tV D F call x)) (hb : PE X b (tV D F call y)) : PE X (.BinOp a .Sub b pos) (tV D F call (.op .sub (.cons false x (.cons false y .nil)))) := s_op2 op_sub ha hb fun R ra rb g => o_sub R ra rb g
theorem e_mul (C : Cm D X c k F) (ha : PE X a (tV D F call x)) (hb : PE X b (tV D F call y)) : PE X (.BinOp a .Mult b pos) (tV D F call (.op .mul (.cons false x (.cons false y .nil)))) := s_op2 op_mulX ha hb fun R ra rb g => o_mul R ra rb g
theorem e_fdiv (C : Cm D X c k F) (ha : PE X a (tV D F call x)) (hb : PE X b (tV D F call y)) : PE X (.BinOp a .FloorDiv b pos) (tV D F call (.op .fdiv (.cons false x (.cons false y .nil)))) := s_op2 op_fdivW ha hb fun R ra rb g => o_fdiv R ra rb g
theorem e_mod (C : Cm D X c k F) (ha : PE X a (tV D F call x)) (hb : PE X b (tV D F call y)) : PE X (.BinOp a .Mod b pos) (tV D F call (.op .mod (.cons false x (.cons false y .nil)))) := s_op2 op_mod ha hb fun R ra rb g => o_mod R ra rb g
theorem e_pow (C : Cm D X c k F) (ha : PE X a (tV D F call x)) (hb : PE X b (tV D F call y)) : PE X (.BinOp a .Pow b pos) (tV D F call (.op .pow (.cons false x (.cons false y .nil)))) := s_op2 op_pow ha hb fun R ra rb g => o_pow R ra rb g
theorem e_neg (C : Cm D X c k F) (ha : PE X a (tV D F call x)) : PE X (.UnaryOp .USub a pos) (tV D F call (.op .neg (.cons false x .nil))) := s_un un_neg ha fun R ra g => o_neg R ra g
theorem e_lt (C : Cm D X c k F) (ha : PE X a (tV D F call x)) (hb : PE X b (tV D F call y)) : PE X (.Compare a [.Lt] [b] pos) (tV D F call (.op .lt (.cons false x (.cons false y .nil)))) := s_cmp2 (op_ltX (by have := C.hu; omega)) ha hb (nomark _) fun R ra rb g => by rw [C.K]; exact o_lt R ra rb g
theorem e_le (C : Cm D X c k F) (ha : PE X a (tV D F call x)) (hb : PE X b (tV D F call y)) : PE X (.Compare a [.LtE] [b] pos) (tV D F call (.op .le (.cons false x (.cons false y .nil)))) := s_cmp2 op_le ha hb (nomark _) fun R ra rb g => o_le R ra rb g
theorem e_gt (C : Cm D X c k F) (ha : PE X a (tV D F call x)) (hb : PE X b (tV D F call y)) : PE X (.Compare a [.Gt] [b] pos) (tV D F call (.op .gt (.cons false x (.cons false y .nil)))) := s_cmp2 op_gt ha hb (nomark _) fun R ra rb g => o_gt R ra rb g
theorem e_ge (C : Cm D X c k F) (ha : PE X a (tV D F call x)) (hb : PE X b (tV D F call y)) : PE X (.Compare a [.GtE] [b] pos) (tV D F call (.op .ge (.cons false x (.cons false y .nil)))) := s_cmp2 op_ge ha hb (nomark _) fun R ra rb g => o_ge R ra rb g
theorem e_eq (C : Cm D X c k F) (ha : PE X a (tV D F call x)) (hb : PE X b (tV D F call y)) : PE X (.Compare a [.Eq] [b] pos) (tV D F call (.op .eq (.cons false x (.cons false y .nil)))) := s_cmp2 (op_eqD (by have := C.hu; omega)) ha hb (nomark _) fun R ra rb g => by rw [C.K]; exact o_eq R ra rb g
theorem e_ne (C : Cm D X c k F) (ha : PE X a (tV D F call x)) (hb : PE X b (tV D F call y)) : PE X (.Compare a [.NotEq] [b] pos) (tV D F call (.op .ne (.cons false x (.cons false y .nil)))) := s_cmp2 (op_neD (by have := C.hu; omega)) ha hb (nomark _) fun R ra rb g => by rw [C.K]; exact o_ne R ra rb g
theorem e_in (C : Cm D X c k F) (ha : PE X a (tV D F call x)) (hb : PE X b (tV D F call y)) (hm : behindInMarks .In b = false := by rfl) : PE X (.Compare a [.In] [b] pos) (tV D F call (.op .isin (.cons false x (.cons false y .nil)))) := s_cmp2 (op_inX C.hu) ha hb hm fun R ra rb g => by rw [C.K]; exact o_in R ra rb g
theorem e_notin (C : Cm D X c k F) (ha : PE X a (tV D F call x)) (hb : PE X b (tV D F call y)) (hm : behindInMarks .NotIn b = false := by rfl) : PE X (.Compare a [.NotIn] [b] pos) (tV D F call (.op .notin (.cons false x (.cons false y .nil)))) := s_cmp2 (op_notInX C.hu) ha hb hm fun R ra rb g => by rw [C.K]; exact o_notin R ra rb g
theorem t_lt (C : Cm D X c k F) (ha : PE X a (tV D F call x)) (hb : PE X b (tV D F call y)) : PT X (.Compare a [.Lt] [b] pos) (tB' D F call (.op .lt (.cons false x (.cons false y .nil)))) := s_cmpT C (op_ltX (by have := C.hu; omega)) ha hb (nomark _) (by simp) fun R ra rb g => by rw [C.K]; exact o_lt R ra rb g
theorem t_le (C : Cm D X c k F) (ha : PE X a (tV D F call x)) (hb : PE X b (tV D F call y)) : PT X (.Compare a [.LtE] [b] pos) (tB' D F call (.op .le (.cons false x (.cons false y .nil)))) := s_cmpT C op_le ha hb (nomark _) (by simp) fun R ra rb g => o_le R ra rb g
theorem t_gt (C : Cm D X c k F) (ha : PE X a (tV D F call x)) (hb : PE X b (tV D F call y)) : PT X (.Compare a [.Gt] [b] pos) (tB' D F call (.op .gt (.cons false x (.cons false y .nil)))) := s_cmpT C op_gt ha hb (nomark _) (by simp) fun R ra rb g => o_gt R ra rb g
theorem t_ge (C : Cm D X c k F) (ha : PE X a (tV D F call x)) (hb : PE X b (tV D F call y)) : PT X (.Compare a [.GtE] [b] pos) (tB' D F call (.op .ge (.cons false x (.cons false y .nil)))) := s_cmpT C op_ge ha hb (nomark _) (by simp) fun R ra rb g => o_ge R ra rb g
theorem t_eq (C : Cm D X c k F) (ha : PE X a (tV D F call x)) (hb : PE X b (tV D F call y)) : PT X (.Compare a [.Eq] [b] pos) (tB' D F call (.op .eq (.cons false x (.cons false y .nil)))) := s_cmpT C (op_eqD (by have := C.hu; omega)) ha hb (nomark _) (by simp) fun R ra rb g => by rw [C.K]; exact o_eq R ra rb g
theorem t_ne (C : Cm D X c k F) (ha : PE X a (tV D F call x)) (hb : PE X b (tV D F call y)) : PT X (.Compare a [.NotEq] [b] pos) (tB' D F call (.op .ne (.cons false x (.cons false y .nil)))) := s_cmpT C (op_neD (by have := C.hu; omega)) ha hb (nomark _) (by simp) fun R ra rb g => by rw [C.K]; exact o_ne R ra rb g
theorem t_in (C : Cm D X c k F) (ha : PE X a (tV D F call x)) (hb : PE X b (tV D F call y)) (hm : behindInMarks .In b = false := by rfl) : PT X (.Compare a [.In] [b] pos) (tB' D F call (.op .isin (.cons false x (.cons false y .nil)))) := s_cmpT C (op_inX C.hu) ha hb hm (by simp) fun R ra rb g => by rw [C.K]; exact o_in R ra rb g
theorem t_notin (C : Cm D X c k F) (ha : PE X a (tV D F call x)) (hb : PE X b (tV D F call y)) (hm : behindInMarks .NotIn b = false := by rfl) : PT X (.Compare a [.NotIn] [b] pos) (tB' D F call (.op .notin (.cons false x (.cons false y .nil)))) := s_cmpT C (op_notInX C.hu) ha hb hm (by simp) fun R ra rb g => by rw [C.K]; exact o_notin R ra rb g
/-- what is no test of its own kind is asked for its truth -/
theorem t_of (C : Cm D X c k F) (ha : PE X a (tV D F call x)) (he : ∀ whole, isTrue a X.env whole = (do let v ← whole; standAt a.pos; holding [v] (truthy v)) := by intro _; rfl) : PT X a (tB' D F call x) := s_truth C ha he
theorem w_and1 (h : PT X a (tB' D F call x)) : PW X (.BoolOp .And [a] pos) (tB' D F call x) := pw_and1 h
theorem w_or1 (h : PT X a (tB' D F call x)) : PW X (.BoolOp .Or [a] pos) (tB' D F call x) := pw_or1 h
theorem t_w {t : TT} (h : PW X a t) : PT X a t := ⟨fun pins s σ H Q I q => h.run _ pins s σ H Q I q⟩
theorem e_isN (ha : PE X a (tV D F call x)) {j} {p2 : Pos} : PE X (.Compare a [.Is] [.Constant .none j p2] pos) (tV D F call (.op .isN (.cons false x .nil))) := by
  refine PE.weak (pe_cmpR op_isN ha pe_non (nomark _)) fun σ H Q q => ?_
  obtain ⟨μ, S, ρ, hI, R, hρ, g⟩ := q
  have g : GV D.N F μ H (((IR.evs D.g call (.cons false x .nil) ρ).bind fun l => IR.evOp .isN l) S) Q := g
  rw [evs1] at g
  exact one (f := fun a => IR.evOp .isN [a]) hI R hρ g fun μ2 S2 H2 p p' R2 rp g2 => ⟨rfl, o_isN R2 rp g2⟩
theorem e_notN (ha : PE X a (tV D F call x)) {j} {p2 : Pos} : PE X (.Compare a [.IsNot] [.Constant .none j p2] pos) (tV D F call (.op .notN (.cons false x .nil))) := by
  refine PE.weak (pe_cmpR op_notN ha pe_non (nomark _)) fun σ H Q q => ?_
  obtain ⟨μ, S, ρ, hI, R, hρ, g⟩ := q
  have g : GV D.N F μ H (((IR.evs D.g call (.cons false x .nil) ρ).bind fun l => IR.evOp .notN l) S) Q := g
  rw [evs1] at g
  exact one (f := fun a => IR.evOp .notN [a]) hI R hρ g fun μ2 S2 H2 p p' R2 rp g2 => ⟨rfl, o_notN R2 rp g2⟩
/-- a value that is a truth, as a test -/
theorem t_cmp1 {op : CmpOp} {r : R2} {oo : IR.Op} (ho : OpR X (compareOp op) r) (ha : PE X a (tV D F call x)) {j} {p2 : Pos} (hm : behindInMarks op (.Constant .none j p2) = false) (hb : ∀ p S d S', IR.evOp oo [p] S = .ok d S' → ∃ b, d = .bl b)
    (h : ∀ {μ S H Q p p'}, Rel D.N μ S H → RepV D.N μ H p p' → GV D.N F μ H (IR.evOp oo [p] S) Q → r p' .non H Q) : PT X (.Compare a [op] [.Constant .none j p2] pos) (tB' D F call (.op oo (.cons false x .nil))) := by
  refine PT.weak (pt_cmpR ho ha pe_non hm) fun σ H Q q => ?_
  obtain ⟨μ, S, ρ, hI, R, hρ, g⟩ := q
  have g : GG D.N F μ H ((((IR.evs D.g call (.cons false x .nil) ρ).bind fun l => IR.evOp oo l).bind IR.truth) S) fun b _ _ H' => Q b H' := g
  rw [IR.M.bind_assoc, evs1] at g
  refine one' (f := fun a => (IR.evOp oo [a]).bind IR.truth) hI R hρ g fun μ2 S2 H2 p p' e2 R2 rp _ g2 => h R2 rp ?_
  have g2 := GG.base e2 g2
  have g2 : GG D.N F μ2 H2 ((IR.evOp oo [p] S2).bind IR.truth) fun b _ _ H' => Q b H' := g2
  cases er : IR.evOp oo [p] S2 with
  | bad => rw [er] at g2; exact g2
  | exc c fs S => rw [er] at g2; exact g2
  | ok d S3 =>
    obtain ⟨b, rfl⟩ := hb _ _ _ _ er
    rw [er] at g2
    exact fun μ' H' e R v rv _ => ⟨b, rv.bl, g2 μ' H' e R⟩
theorem t_isN (ha : PE X a (tV D F call x)) {j} {p2 : Pos} : PT X (.Compare a [.Is] [.Constant .none j p2] pos) (tB' D F call (.op .isN (.cons false x .nil))) :=
  t_cmp1 op_isN ha (nomark _) (fun p S d S' h => by cases h; exact ⟨_, rfl⟩) fun R rp g => ⟨rfl, o_isN R rp g⟩
theorem t_notN (ha : PE X a (tV D F call x)) {j} {p2 : Pos} : PT X (.Compare a [.IsNot] [.Constant .none j p2] pos) (tB' D F call (.op .notN (.cons false x .nil))) :=
  t_cmp1 op_notN ha (nomark _) (fun p S d S' h => by cases h; exact ⟨_, rfl⟩) fun R rp g => ⟨rfl, o_notN R rp g⟩
/-! ### built-in functions -/
abbrev A1 (e : Expr) (X : Cx) : Prop := starEach [e] X.env = (false, eval e X.env) :: starEach [] X.env
theorem s_b1 {r : List V → Hp → VK → Prop} (h : PE X e (tCB r (tAs D F call (.cons false x .nil)))) (ho : ∀ {μ S H Q d v}, Rel D.N μ S H → RepV D.N μ H d v → GV D.N F μ H (IR.evOp o' [d] S) Q → r [v] H Q) : PE X e (tV D F call (.op o' (.cons false x .nil))) :=
  s_b h fun R rs g => by
    cases rs with
    | cons r1 rr => cases rr; exact ho R r1.v g
theorem s_b2 {r : List V → Hp → VK → Prop} (h : PE X e (tCB r (tAs D F call (.cons false x (.cons false y .nil))))) (ho : ∀ {μ S H Q d v d2 v2}, Rel D.N μ S H → RepV D.N μ H d v → RepV D.N μ H d2 v2 → GV D.N F μ H (IR.evOp o' [d, d2] S) Q → r [v, v2] H Q) : PE X e (tV D F call (.op o' (.cons false x (.cons false y .nil)))) :=
  s_b h fun R rs g => by
    cases rs with
    | cons r1 rr =>
      cases rr with
      | cons r2 rr => cases rr; exact ho R r1.v r2.v g
theorem e_len (C : Cm D X c k F) (hg : c.sc.names.lookup ("len" : Str) = some .globalImplicit) (hm : D.mg "len" = none) (ha : PE X a (tV D F call x)) (hs : A1 a X) : PE X (.Call (.Name "len" p) [a] [] pos) (tV D F call (.op .len (.cons false x .nil))) :=
  s_b1 (pe_callB call_lenX (C.gl hg) (C.mgn hm) boot_len (s_cons ha s_nil hs) (he := hs)) fun R ra g => by rw [C.K]; exact o_len R ra g
theorem e_sum (C : Cm D X c k F) (hg : c.sc.names.lookup ("sum" : Str) = some .globalImplicit) (hm : D.mg "sum" = none) (ha : PE X a (tV D F call x)) (hs : A1 a X) (hh : c.hot = false := by rfl) : PE X (.Call (.Name "sum" p) [a] [] pos) (tV D F call (.op .sum (.cons false x .nil))) :=
  s_b1 (pe_callB (cr_sum (C.calm hh)) (C.gl hg) (C.mgn hm) boot_sum (s_cons ha s_nil hs) (he := hs)) fun R ra g => by rw [C.K]; exact o_sum R ra g
theorem e_all (C : Cm D X c k F) (hg : c.sc.names.lookup ("all" : Str) = some .globalImplicit) (hm : D.mg "all" = none) (ha : PE X a (tV D F call x)) (hs : A1 a X) (hh : c.hot = false := by rfl) : PE X (.Call (.Name "all" p) [a] [] pos) (tV D F call (.op .all (.cons false x .nil))) :=
  s_b1 (pe_callB (cr_all (C.calm hh)) (C.gl hg) (C.mgn hm) boot_all (s_cons ha s_nil hs) (he := hs)) fun R ra g => by rw [C.K]; exact o_all R ra g
theorem e_tuple (C : Cm D X c k F) (hg : c.sc.names.lookup ("tuple" : Str) = some .globalImplicit) (hm : D.mg "tuple" = none) (ha : PE X a (tV D F call x)) (hs : A1 a X) : PE X (.Call (.Name "tuple" p) [a] [] pos) (tV D F call (.op .tuple (.cons false x .nil))) :=
  s_b1 (pe_callTy call_tuple_of (C.gl hg) (C.mgn hm) boot_tuple (s_cons ha s_nil hs) (he := hs)) fun R ra g => by rw [C.K]; exact o_tuple R ra g
theorem e_list (C : Cm D X c k F) (hg : c.sc.names.lookup ("list" : Str) = some .globalImplicit) (hm : D.mg "list" = none) (ha : PE X a (tV D F call x)) (hs : A1 a X) : PE X (.Call (.Name "list" p) [a] [] pos) (tV D F call (.op .list (.cons false x .nil))) :=
  s_b1 (pe_callTy call_list_of (C.gl hg) (C.mgn hm) boot_list (s_cons ha s_nil hs) (he := hs)) fun R ra g => by rw [C.K]; exact o_list R ra g
theorem o_int {N : Nm} {W : Fm} {μ : List Addr} {H : Hp} {S : IR.Sto} {Q : VK} {d : IR.D} {v : V} (R : Rel N μ S H) (ra : RepV N μ H d v) (g : GV N W μ H (IR.evOp .int [d] S) Q) : rIntX [v] H Q := by
  cases d <;> first | exact g.elim | skip
  · rw [ra.bl]
    exact .inl (.inr ⟨_, rfl, GV.int R g⟩)
  · rw [ra.int]
    exact .inl (.inl ⟨_, rfl, GV.int R g⟩)
theorem e_intT (C : Cm D X c k F) (hg : c.sc.names.lookup ("int" : Str) = some .globalImplicit) (hm : D.mg "int" = none) (ha : PE X a (tV D F call x)) (hs : A1 a X) : PE X (.Call (.Name "int" p) [a] [] pos) (tV D F call (.op .int (.cons false x .nil))) :=
  s_b1 (pe_callTy call_intX (C.gl hg) (C.mgn hm) boot_int (s_cons ha s_nil hs) (he := hs)) fun R ra g => o_int R ra g
theorem e_min2 (C : Cm D X c k F) (hg : c.sc.names.lookup ("min" : Str) = some .globalImplicit) (hm : D.mg "min" = none) (ha : PE X a (tV D F call x)) (hb : PE X b (tV D F call y)) (hs : starEach [a, b] X.env = (false, eval a X.env) :: starEach [b] X.env) (hs2 : A1 b X) (hh : c.hot = false := by rfl) : PE X (.Call (.Name "min" p) [a, b] [] pos) (tV D F call (.op .min2 (.cons false x (.cons false y .nil)))) :=
  s_b2 (pe_callB (call_min2 (C.calm hh)) (C.gl hg) (C.mgn hm) boot_min (s_cons ha (s_cons hb s_nil hs2) hs) (he := hs) (hpl := by rw [hs2]; rfl)) fun R ra rb g => o_min2 R ra rb g
theorem e_max2 (C : Cm D X c k F) (hg : c.sc.names.lookup ("max" : Str) = some .globalImplicit) (hm : D.mg "max" = none) (ha : PE X a (tV D F call x)) (hb : PE X b (tV D F call y)) (hs : starEach [a, b] X.env = (false, eval a X.env) :: starEach [b] X.env) (hs2 : A1 b X) (hh : c.hot = false := by rfl) : PE X (.Call (.Name "max" p) [a, b] [] pos) (tV D F call (.op .max2 (.cons false x (.cons false y .nil)))) :=
  s_b2 (pe_callB (call_max2 (C.calm hh)) (C.gl hg) (C.mgn hm) boot_max (s_cons ha (s_cons hb s_nil hs2) hs) (he := hs) (hpl := by rw [hs2]; rfl)) fun R ra rb g => o_max2 R ra rb g
end
end IRS

namespace IRS
open PySem PySem.Spec PyProof.Rows L2
section
variable {D : Wd} {X : Cx} {c : Ctx} {k : Nat} {F : Fm} {pos p p2 : Pos} {a b e o tg elt iter : Expr} {es : List Expr} {call : Nat → List IR.D → IR.M IR.D} {x y z : IR.E} {n : Str} {o' : IR.Op}
/-! ### isinstance -/
theorem e_isi1 (C : Cm D X c k F) {T : Str} {m : String} {t : IR.Ty} (ht : tyName t = some m) (hv : bootBuiltins T = some (.type m)) (hg : c.sc.names.lookup ("isinstance" : Str) = some .globalImplicit) (hm : D.mg "isinstance" = none) (hgT : c.sc.names.lookup T = some .globalImplicit) (hmT : D.mg T = none)
    (ha : PE X a (tV D F call x)) (hs : starEach [a, .Name T p2] X.env = (false, eval a X.env) :: starEach [.Name T p2] X.env) (hnn : T ≠ "__name__") (hdb : (T == ("__debug__" : Str)) = false) :
    PE X (.Call (.Name "isinstance" p) [a, .Name T p2] [] pos) (tV D F call (.op (.isi [t]) (.cons false x .nil))) := by
  refine PE.weak (pe_callB call_isi (C.gl hg) (C.mgn hm) boot_isinstance (pa_cons ha (pa_cons (pe_bltn (v := .ty m) (C.gl hgT) (C.mgn hmT) hv rfl hnn hdb) pa_nil) hs) (he := hs)) fun σ H Q q => ?_
  obtain ⟨μ, S, ρ, hI, R, hρ, g⟩ := q
  have g : GV D.N F μ H (((IR.evs D.g call (.cons false x .nil) ρ).bind fun l => IR.evOp (.isi [t]) l) S) Q := g
  rw [evs1] at g
  refine one (f := fun a => IR.evOp (.isi [t]) [a]) hI R hρ g fun μ2 S2 H2 p p' R2 rp g2 => ?_
  rw [C.K]
  exact o_isi1 R2 rp ht g2
/-- the names of classes -/
def tTys (ms : List String) : TA := fun _ H Q => Q (ms.map V.ty) H
theorem pa_ty0 : PA X [] (tTys []) := pa_nil
theorem pa_ty1 (C : Cm D X c k F) {T : Str} {m : String} {ms : List String} (hv : bootBuiltins T = some (.type m)) (hgT : c.sc.names.lookup T = some .globalImplicit) (hmT : D.mg T = none) (hnn : T ≠ "__name__") (hdb : (T == ("__debug__" : Str)) = false) (hr : PA X es (tTys ms)) : PA X (.Name T p2 :: es) (tTys (m :: ms)) :=
  PA.weak (pa_cons (pe_bltn (v := .ty m) (C.gl hgT) (C.mgn hmT) hv rfl hnn hdb) hr) fun σ H Q q => q
theorem e_isiT (C : Cm D X c k F) {ms : List String} {ts : List IR.Ty} {j} (ht : ts.mapM tyName = some ms) (hg : c.sc.names.lookup ("isinstance" : Str) = some .globalImplicit) (hm : D.mg "isinstance" = none) (hts : PA X es (tTys ms))
    (ha : PE X a (tV D F call x)) (hs : starEach [a, .Tuple es j p2] X.env = (false, eval a X.env) :: starEach [.Tuple es j p2] X.env) (hl : ms.length ≤ 1000) :
    PE X (.Call (.Name "isinstance" p) [a, .Tuple es j p2] [] pos) (tV D F call (.op (.isi ts) (.cons false x .nil))) := by
  refine PE.weak (pe_callB call_isiT (C.gl hg) (C.mgn hm) boot_isinstance (pa_cons ha (pa_cons (pe_tup hts) pa_nil) hs) (he := hs)) fun σ H Q q => ?_
  obtain ⟨μ, S, ρ, hI, R, hρ, g⟩ := q
  have g : GV D.N F μ H (((IR.evs D.g call (.cons false x .nil) ρ).bind fun l => IR.evOp (.isi ts) l) S) Q := g
  rw [evs1] at g
  refine one (f := fun a => IR.evOp (.isi ts) [a]) hI R hρ g fun μ2 S2 H2 p p' R2 rp g2 => ?_
  refine ⟨by rw [List.length_map]; exact Nat.le_trans hl (by decide), fun q hq => ?_⟩
  rw [C.K]
  exact o_isiT (W := F) (R2.laid hq) (rp.mono (Ext.laid hq)) ht upd_same (GV.base (Ext.laid hq) g2)
/-! ### tuple(range(..)) -/
theorem rgOk_of {i j : Int} (h : j ≤ IR.LINE ∧ -IR.LINE ≤ j ∧ i ≤ IR.LINE ∧ -IR.LINE ≤ i) : RgOk i j := by
  simp only [IR.LINE] at h
  exact ⟨by omega, by omega, by omega, by omega, by omega⟩
theorem e_tupRg1 (C : Cm D X c k F) {p3 : Pos} (hg : c.sc.names.lookup ("tuple" : Str) = some .globalImplicit) (hm : D.mg "tuple" = none) (hg2 : c.sc.names.lookup ("range" : Str) = some .globalImplicit) (hm2 : D.mg "range" = none) (ha : PE X a (tV D F call x)) (hs : A1 a X) (hh : c.hot = false := by rfl) :
    PE X (.Call (.Name "tuple" p) [.Call (.Name "range" p2) [a] [] p3] [] pos) (tV D F call (.op .tupRg1 (.cons false x .nil))) := by
  refine PE.weak (pe_tupRg (C.calm hh) (C.gl hg) (C.mgn hm) (prg_1 (C.gl hg2) (C.mgn hm2) ha hs)) fun σ H Q q => ?_
  obtain ⟨μ, S, ρ, hI, R, hρ, g⟩ := q
  have g : GV D.N F μ H (((IR.evs D.g call (.cons false x .nil) ρ).bind fun l => IR.evOp .tupRg1 l) S) Q := g
  rw [evs1] at g
  refine one (f := fun a => IR.evOp .tupRg1 [a]) hI R hρ g fun μ2 S2 H2 p p' R2 rp g2 => ?_
  cases p <;> first | exact g2.elim | skip
  rename_i i
  rw [rp.int]
  have g2 : GV D.N F μ2 H2 (if i ≤ IR.LINE ∧ -IR.LINE ≤ i then .ok (.tup (IR.rg 0 i)) S2 else .bad) Q := g2
  split at g2
  · rename_i h
    exact ⟨i, rfl, rgOk_of ⟨h.1, h.2, by decide, by decide⟩, GV.newT R2 g2 rg_reps⟩
  · exact g2.elim
theorem e_lstRg1 (C : Cm D X c k F) {p3 : Pos} (hg : c.sc.names.lookup ("list" : Str) = some .globalImplicit) (hm : D.mg "list" = none) (hg2 : c.sc.names.lookup ("range" : Str) = some .globalImplicit) (hm2 : D.mg "range" = none) (ha : PE X a (tV D F call x)) (hs : A1 a X) (hh : c.hot = false := by rfl) :
    PE X (.Call (.Name "list" p) [.Call (.Name "range" p2) [a] [] p3] [] pos) (tV D F call (.op .lstRg1 (.cons false x .nil))) := by
  refine PE.weak (pe_listRg (C.calm hh) (C.gl hg) (C.mgn hm) (prg_1 (C.gl hg2) (C.mgn hm2) ha hs)) fun σ H Q q => ?_
  obtain ⟨μ, S, ρ, hI, R, hρ, g⟩ := q
  have g : GV D.N F μ H (((IR.evs D.g call (.cons false x .nil) ρ).bind fun l => IR.evOp .lstRg1 l) S) Q := g
  rw [evs1] at g
  refine one (f := fun a => IR.evOp .lstRg1 [a]) hI R hρ g fun μ2 S2 H2 p p' R2 rp g2 => ?_
  cases p <;> first | exact g2.elim | skip
  rename_i i
  rw [rp.int]
  have g2 : GV D.N F μ2 H2 (if i ≤ IR.LINE ∧ -IR.LINE ≤ i then .ok (.tl (IR.rg 0 i)) S2 else .bad) Q := g2
  split at g2
  · rename_i h
    exact ⟨i, rfl, rgOk_of ⟨h.1, h.2, by decide, by decide⟩, GV.newL R2 g2 rg_reps⟩
  · exact g2.elim
theorem e_tupRg2 (C : Cm D X c k F) {p3 : Pos} (hg : c.sc.names.lookup ("tuple" : Str) = some .globalImplicit) (hm : D.mg "tuple" = none) (hg2 : c.sc.names.lookup ("range" : Str) = some .globalImplicit) (hm2 : D.mg "range" = none) (ha : PE X a (tV D F call x)) (hb : PE X b (tV D F call y))
    (hs : starEach [a, b] X.env = (false, eval a X.env) :: starEach [b] X.env) (hs2 : A1 b X) (hh : c.hot = false := by rfl) :
    PE X (.Call (.Name "tuple" p) [.Call (.Name "range" p2) [a, b] [] p3] [] pos) (tV D F call (.op .tupRg2 (.cons false x (.cons false y .nil)))) := by
  refine PE.weak (pe_tupRg (C.calm hh) (C.gl hg) (C.mgn hm) (prg_2 (C.gl hg2) (C.mgn hm2) ha hb hs hs2 (hp := by rw [hs2]; rfl))) fun σ H Q q => ?_
  obtain ⟨μ, S, ρ, hI, R, hρ, g⟩ := q
  have g : GV D.N F μ H (((IR.evs D.g call (.cons false x (.cons false y .nil)) ρ).bind fun l => IR.evOp .tupRg2 l) S) Q := g
  rw [evs2] at g
  refine two (f := fun a b => IR.evOp .tupRg2 [a, b]) hI R hρ g fun μ2 S2 H2 p q p' q' R2 rp rq g2 => ?_
  cases p <;> first | exact g2.elim | skip
  cases q <;> first | exact g2.elim | skip
  rename_i i j
  rw [rp.int, rq.int]
  have g2 : GV D.N F μ2 H2 (if j ≤ IR.LINE ∧ -IR.LINE ≤ j ∧ i ≤ IR.LINE ∧ -IR.LINE ≤ i then .ok (.tup (IR.rg i j)) S2 else .bad) Q := g2
  split at g2
  · rename_i h
    exact ⟨i, j, rfl, rfl, rgOk_of h, GV.newT R2 g2 rg_reps⟩
  · exact g2.elim
/-! ### calls of defs by names of parameters -/
/-- how a call binds: the values in the written order -/
def permV (l : List Value) (q : List (Option Nat)) : List Value := q.map fun o => match o with
  | some k => l.getD k .none
  | none => .none
structure KwAt (D : Wd) (fd : FuncData) (ps ks : List Str) (n : Nat) (q : List (Option Nat)) : Prop where
  to : ∀ (s : Shared) (us ws : List Value), D.N.K.In s.heap → us.length = n → ws.length = ks.length → BindsTo s fd ⟨us, ks.zip ws⟩ (ps.zip (permV (us ++ ws) q))
theorem perm_ok {N : Nm} {μ : List Addr} {H : Hp} {ds : List IR.D} {vs : List V} {us : List Value} (rs : Reps N μ H ds vs) (rv : Vals vs us) {S S' : IR.Sto} : ∀ {q : List (Option Nat)} {ds' : List IR.D}, IR.permD ds q S = .ok ds' S' →
    S' = S ∧ ∃ vs', Reps N μ H ds' vs' ∧ Vals vs' (permV us q) := by
  intro q ds' h
  unfold IR.permD at h
  cases e : q.mapM (IR.pick ds) with
  | none => rw [e] at h; cases h
  | some l =>
    rw [e] at h
    cases h
    refine ⟨rfl, ?_⟩
    induction q generalizing ds' with
    | nil =>
      simp at e
      subst e
      exact ⟨[], .nil, .nil⟩
    | cons o q ih =>
      rw [List.mapM_cons] at e
      obtain ⟨d, hd, e⟩ := Option.bind_eq_some_iff.mp e
      obtain ⟨l, hl, e⟩ := Option.bind_eq_some_iff.mp e
      cases e
      obtain ⟨vs', r1, r2⟩ := ih hl
      cases o with
      | none => cases hd; exact ⟨.non :: vs', .cons .non r1, .cons rfl r2⟩
      | some k =>
        obtain ⟨v, hv, rr⟩ := rs.get hd
        obtain ⟨u, hu, ru⟩ := rv.get hv
        refine ⟨v :: vs', .cons rr r1, ?_⟩
        have e2 : permV us (some k :: q) = u :: permV us q := by simp [permV, List.getD, hu]
        rw [e2]
        exact .cons ru r2
abbrev tKs (D : Wd) (F : Fm) (call : Nat → List IR.D → IR.M IR.D) (xs : IR.Es) : TA := tAs D F call xs
theorem k_nil : PK X [] (tAs D F call .nil) := ⟨fun _ _ s σ H Q I h => wpAny_evalAll_nil (by
  obtain ⟨μ, S, ρ, hI, R, hρ, g⟩ := h
  exact ⟨[], H, I, .nil, g μ H (Ext.refl _ _) R [] .nil⟩)⟩
theorem k_cons {own : Bool} {xs : IR.Es} {kws : List Keyword} {nm : Option Str} {kpos : Pos} (ha : PE X a (tV D F call x)) (hr : PK X kws (tAs D F call xs)) : PK X (⟨nm, a, kpos⟩ :: kws) (tAs D F call (.cons own x xs)) := by
  refine ⟨fun pos pins s σ H Q I h => (pk_cons ha hr).run pos pins s σ H Q I ?_⟩
  obtain ⟨μ, S, ρ, hI, R, hρ, g⟩ := h
  refine ⟨μ, S, ρ, hI, R, hρ, ?_⟩
  have g : GG D.N F μ H (((IR.ev D.g call x ρ S).bind (IR.ownIf own)).bind fun x => (IR.evs D.g call xs ρ).bind fun l => IR.M.pure (x :: l)) fun ds _ μ' H' => ∀ vs, RepOs D.N μ' H' (own :: esOwn xs) ds vs → Q vs H' := by
    have e : IR.evs D.g call (.cons own x xs) ρ S = ((IR.ev D.g call x ρ S).bind (IR.ownIf own)).bind fun x => (IR.evs D.g call xs ρ).bind fun l => IR.M.pure (x :: l) := by
      simp only [IR.evs, IR.M.bind]
      cases IR.ev D.g call x ρ S <;> rfl
    rw [← e]; exact g
  refine GG.own g fun μ1 S1 H1 d v e1 R1 rd g1 => ?_
  refine ⟨μ1, S1, ρ, hI, R1, hρ.mono e1.w, ?_⟩
  refine GG.imp (GG.bind (show GG D.N F μ1 H1 ((IR.evs D.g call xs ρ S1).bind fun l => IR.M.pure (d :: l)) _ from g1)) fun ds S2 μ2 H2 e2 R2 g2 vs rs => ?_
  exact g2 μ2 H2 (Ext.refl _ _) R2 (v :: vs) (.cons (rd.mono e2) rs)
theorem FnAt.run_at {i np : Nat} {f : Addr} {fd : FuncData} {ps ks : List Str} {m : Nat} {q : List (Option Nat)} (A : FnAt D k (call i) i np f fd ps) (C : Cm D X c k F) (B : KwAt D fd ps ks m q) {pins : List (Addr × Obj)} {σ : L2.St} {H : Hp} {s : Shared} {Q : VK} {us ws : List Value} {vs : List V} {ds : List IR.D} {μ : List Addr} {S : IR.Sto}
    (I : Inv X pins σ H s) (hI : F.I σ) (R : Rel D.N μ S H) (rs : Reps D.N μ H ds vs) (rv : Vals vs (us ++ ws)) (hu : us.length = m) (hw : ws.length = ks.length) (hnp : q.length = np) (g : GV D.N F μ H (((IR.permD ds q).bind fun l => call i l) S) Q) (hh : c.hot = false := by rfl) :
    wpAny (model X.prog X.w) X.A (PySem.call (.ref f) us (ks.zip ws)) (EP X pins σ Q) X.xe s := by
  have ok : FnOk X.prog X.w X.K X.mg X.base (L2.CX X.prog X.w) k f fd ps (spOf D.N (call i) np) := by rw [C.prog, C.w, C.K, C.mg, C.base]; exact A.ok
  cases e : IR.permD ds q S with
  | bad => rw [show ((IR.permD ds q).bind fun l => call i l) S = (IR.permD ds q S).bind fun l => call i l from rfl, e] at g; exact g.elim
  | exc c fs S2 =>
    unfold IR.permD at e
    cases e3 : q.mapM (IR.pick ds) with
    | none => rw [e3] at e; cases e
    | some l => rw [e3] at e; cases e
  | ok ds' S2 =>
    rw [show ((IR.permD ds q).bind fun l => call i l) S = (IR.permD ds q S).bind fun l => call i l from rfl, e] at g
    obtain ⟨rfl, vs', r1, r2⟩ := perm_ok rs rv e
    have g : GV D.N F μ H (call i ds' S2) Q := g
    have hsp : spOf D.N (call i) np vs' H Q (WE F.W σ) := by
      refine ⟨?_, μ, S2, ds', R, r1, gv_call hI g⟩
      rw [r2.length]; simp [permV, hnp]
    have hps : (permV (us ++ ws) q).length = ps.length := by rw [← r2.length]; exact ok.len _ _ _ _ hsp
    refine wpAny_call (codeAny_mono (ok.run X.A X.stack s H ⟨us, ks.zip ws⟩ (permV (us ++ ws) q) vs' Q (WE F.W σ) (C.room hh) I.env0 (B.to s us ws (by rw [← C.K]; exact I.kIn) hu hw) r2 hsp) fun r s' hq => ?_)
    cases r with
    | error e => exact passAt C.tk σ pins H s e s' I hq
    | ok fl =>
      cases fl with
      | ret u => exact I.after hq
      | next => exact False.elim hq
      | brk => exact False.elim hq
      | cont => exact False.elim hq
/-- f(k = v, ..) -/
theorem e_callk (C : Cm D X c k F) {f : Addr} {fd : FuncData} {ps ks : List Str} {i np : Nat} {q : List (Option Nat)} {kws : List Keyword} {xs : IR.Es} (A : FnAt D k (call i) i np f fd ps) (B : KwAt D fd ps ks 0 q) (hg : c.sc.names.lookup n = some .globalImplicit) (hm : D.mg n = some (.ref f))
    (ha : PK X kws (tAs D F call xs)) (ho : ∀ o ∈ esOwn xs, o = true) (hl : (esOwn xs).length = ks.length) (hnp : q.length = np) (hks : (backToKw pos (keywordEach kws X.env)).filterMap (·.1) = ks) (hall : (backToKw pos (keywordEach kws X.env)).all (·.1.isSome) = true)
    (hpl : ((backTo pos (starEach [] X.env)).any (·.1) || (backToKw pos (keywordEach kws X.env)).any (·.1.isNone)) = false) (hdb : (n == ("__debug__" : Str)) = false) (hh : c.hot = false := by rfl) :
    PE X (.Call (.Name n p) [] kws pos) (tV D F call (.callp i q xs)) := by
  refine ⟨fun pins s σ H Q I h => ?_⟩
  refine wpAny_Call_Name_kw (ld_glob I (C.gl hg) (C.mgn hm) ?_ hdb)
  obtain ⟨μ, S, ρ, hI, R, hρ, g⟩ := h
  refine PySem.W.callWith_KW0 (h₀ := X.base) I.ok.mod.kin (by rw [C.K]; exact A.kp) hall (thn (ha.run pos pins s σ H (fun vs H1 => ∃ μ2 S2 ds, Rel D.N μ2 S2 H1 ∧ Reps D.N μ2 H1 ds vs ∧ vs.length = ks.length ∧ GV D.N F μ2 H1 (((IR.permD ds q).bind fun l => call i l) S2) Q) I ?_) fun ws s2 ⟨zs, H2, I2, rz, μ2, S2, ds, R2, rs, hlen, g2⟩ => ⟨I2.kIn, ?_⟩) hpl
  · exact argsG (f := fun l => (IR.permD l q).bind fun l => call i l) hI R hρ g fun μ2 S2 H2 ds vs _ R2 rs g2 => ⟨μ2, S2, ds, R2, rs.reps ho, by rw [rs.length.2]; exact hl, g2⟩
  · rw [hks]
    exact A.run_at C B (us := []) I2 hI R2 rs rz rfl (by rw [← rz.length]; exact hlen) hnp g2 (hh := hh)
end
/-- name = [..] on one line, the name a local -/
theorem st_lcG {D : Wd} {F : Fm} {call : Nat → List IR.D → IR.M IR.D} {i : Nat} {x : IR.E} {E : Ends} {σ : L2.St} {H : Hp} {μ : List Addr} {S : IR.Sto} {ρ : IR.Env} (hI : F.I σ) (R : Rel D.N μ S H) (hρ : RSt D.N μ H ρ σ) (ha : F.as i = true)
    (g : GG D.N F μ H (IR.ex D.g call (.asg (.var i) x) ρ S) (KF D.N F E H)) : GV D.N F μ H (IR.ev D.g call x ρ S) (fun v H1 => gName i v σ H1 E.nx) := by
  have g : GG D.N F μ H (((IR.ev D.g call x ρ S).bind (IR.ownIf true)).bind fun d => (IR.setTg (.var i) ρ d).bind fun ρ' => IR.M.pure (IR.Flow.next ρ')) (KF D.N F E H) := by
    have e : IR.ex D.g call (.asg (.var i) x) ρ S = ((IR.ev D.g call x ρ S).bind (IR.ownIf true)).bind fun d => (IR.setTg (.var i) ρ d).bind fun ρ' => IR.M.pure (IR.Flow.next ρ') := by
      simp only [IR.ex, IR.M.bind]
      cases IR.ev D.g call x ρ S <;> rfl
    rw [← e]; exact g
  refine GG.own g fun μ1 S1 H1 d v e1 R1 rd g1 => ?_
  exact g1 μ1 H1 (Ext.refl _ _) R1 _ (F.put _ _ _ ha hI) ((hρ.mono e1.w).set rd)
section
variable {D : Wd} {X : Cx} {c : Ctx} {k : Nat} {F : Fm} {pos p spos : Pos} {tg elt iter : Expr} {call : Nat → List IR.D → IR.M IR.D} {y z : IR.E} {n : Str} {scope : Scope}
theorem st_lc0 {i : Nat} {t : IR.Tg} {gt : TG} {own : List (Str × Nat)} {it : IR.It} (C : Cm D X c k F) (hN : c.N[i]? = some n) (hloc : c.sc.names.lookup n = some .local) (ha : F.as i = true) (hline : (p.line == pos.line) = true) (hno : scope.names.any (fun (m, k) => m == n && (k == .local || k == .cell)) = false)
    (hi : PI X tg iter (tIt D F (IR.evIt D.g call it))) (ok : BlkOk c.N c.sc scope own) (hw : own.map (·.2) = tgSlots t)
    (hg : ∀ (s : Shared) (H : Hp) (A : Addr) (cl : List (Str × Addr)) (fp : List Addr), TgOk D (X.blk s H scope (compEnvC scope cl A X.env) fp) Fm0 tg t gt)
    (he : ∀ (s : Shared) (H : Hp) (A : Addr) (cl : List (Str × Addr)) (fp : List Addr), PE (X.blk s H scope (compEnvC scope cl A X.env) fp) elt (tV D Fm0 call z)) (hs : ∀ x, foldedSetIterable iter X.env x = pure x) (hh : c.hot = false := by rfl) :
    PS X (.Assign [.Name n p] (.ListComp elt [⟨tg, iter, [], 0⟩] scope pos) spos) (tSt D F call (.asg (.var i) (.lc it t none z))) := by
  have hsw : swapsWith (.ListComp elt [⟨tg, iter, [], 0⟩] scope pos) (some (.Name n p)) spos.line X.env = pure true := by
    have hb : X.env.blockKind = .function := by unfold Env.blockKind; rw [C.kd]; rfl
    have hk : X.env.kindOf n = some .local := by show X.env.scope.names.lookup n = _; rw [C.sc]; exact hloc
    unfold swapsWith
    simp only [hb, hk, hno]
    have hline : (p.line == (Expr.ListComp elt [⟨tg, iter, [], 0⟩] scope pos).pos.line) = true := hline
    rw [hline]
    rfl
  refine ⟨fun pins s0 σ H E I q => (ps_setLc (C.calm hh) (by rw [C.N]; exact C.nd) (by rw [C.N]; exact hN) (by rw [C.sc]; exact hloc) hsw hi (by rw [C.N, C.sc]; exact ok) (fun s H A cl fp => (hg s H A cl fp).pg) (fun s H A cl fp => pts_nil) he hs).run pins s0 σ H E I ?_⟩
  obtain ⟨μ, S, ρ, hI, R, hρ, g⟩ := q
  rw [hw]
  exact lc_core' (mc := fun _ => IR.M.pure true) (hg s0 H 0 [] []).ht (fun σ H Q ⟨μ, S, ρ, _, R, hρ, g⟩ => g μ H (Ext.refl _ _) R) hI R hρ (st_lcG hI R hρ ha g)
theorem st_lc1 {i : Nat} {t : IR.Tg} {gt : TG} {own : List (Str × Nat)} {it : IR.It} {cE : Expr} (C : Cm D X c k F) (hN : c.N[i]? = some n) (hloc : c.sc.names.lookup n = some .local) (ha : F.as i = true) (hline : (p.line == pos.line) = true) (hno : scope.names.any (fun (m, k) => m == n && (k == .local || k == .cell)) = false)
    (hi : PI X tg iter (tIt D F (IR.evIt D.g call it))) (ok : BlkOk c.N c.sc scope own) (hw : own.map (·.2) = tgSlots t)
    (hg : ∀ (s : Shared) (H : Hp) (A : Addr) (cl : List (Str × Addr)) (fp : List Addr), TgOk D (X.blk s H scope (compEnvC scope cl A X.env) fp) Fm0 tg t gt)
    (hc : ∀ (s : Shared) (H : Hp) (A : Addr) (cl : List (Str × Addr)) (fp : List Addr), PT (X.blk s H scope (compEnvC scope cl A X.env) fp) cE (tB' D Fm0 call y))
    (he : ∀ (s : Shared) (H : Hp) (A : Addr) (cl : List (Str × Addr)) (fp : List Addr), PE (X.blk s H scope (compEnvC scope cl A X.env) fp) elt (tV D Fm0 call z)) (hs : ∀ x, foldedSetIterable iter X.env x = pure x) (hh : c.hot = false := by rfl) :
    PS X (.Assign [.Name n p] (.ListComp elt [⟨tg, iter, [cE], 0⟩] scope pos) spos) (tSt D F call (.asg (.var i) (.lc it t (some y) z))) := by
  have hsw : swapsWith (.ListComp elt [⟨tg, iter, [cE], 0⟩] scope pos) (some (.Name n p)) spos.line X.env = pure true := by
    have hb : X.env.blockKind = .function := by unfold Env.blockKind; rw [C.kd]; rfl
    have hk : X.env.kindOf n = some .local := by show X.env.scope.names.lookup n = _; rw [C.sc]; exact hloc
    unfold swapsWith
    simp only [hb, hk, hno]
    have hline : (p.line == (Expr.ListComp elt [⟨tg, iter, [cE], 0⟩] scope pos).pos.line) = true := hline
    rw [hline]
    rfl
  refine ⟨fun pins s0 σ H E I q => (ps_setLc (C.calm hh) (by rw [C.N]; exact C.nd) (by rw [C.N]; exact hN) (by rw [C.sc]; exact hloc) hsw hi (by rw [C.N, C.sc]; exact ok) (fun s H A cl fp => (hg s H A cl fp).pg) (fun s H A cl fp => pts_one (hc s H A cl fp)) he hs).run pins s0 σ H E I ?_⟩
  obtain ⟨μ, S, ρ, hI, R, hρ, g⟩ := q
  rw [hw]
  refine lc_core' (mc := fun ρ => (IR.ev D.g call y ρ).bind IR.truth) (hg s0 H 0 [] []).ht (fun σ H Q h => h) hI R hρ ?_
  have e : (lcF D.g call t (fun ρ => (IR.ev D.g call y ρ).bind IR.truth) z ρ) = fun x => (IR.setTg t ρ x).bind fun ρ' => (IR.ev D.g call y ρ').bind fun c => (IR.truth c).bind fun b => if b then (IR.ev D.g call z ρ').bind fun y => (IR.own y).bind fun y => IR.M.pure (some y) else IR.M.pure none := by
    funext x
    simp only [lcF, IR.M.bind_assoc]
  rw [e]
  exact st_lcG hI R hρ ha g
end
end IRS

namespace IRS
open PySem PySem.Spec PyProof.Rows L2
/-! ### defs -/
section
variable {D : Wd}
theorem FnAt.mono {j k i np : Nat} {m : List IR.D → IR.M IR.D} {f : Addr} {fd : FuncData} {ps : List Str} (A : FnAt D j m i np f fd ps) (h : j ≤ k) : FnAt D k m i np f fd ps := ⟨A.fnA, A.kp, A.hn, A.bi, A.ok.mono h⟩
theorem FnAt.up {n i np : Nat} {m : List IR.D → IR.M IR.D} {f : Addr} {fd : FuncData} {ps : List Str} (A : FnAt D (2 * n) m i np f fd ps) : FnAt D (2 * n + 1) m i np f fd ps := A.mono (by omega)
theorem at0 {i np : Nat} {f : Addr} {fd : FuncData} {ps : List Str} (ha : D.N.fnA i = some f) (kp : PySem.W.keepIn D.N.K (.ref f) = true) (hn : ps.length = np) (bi : Binds D.N.K fd ps []) : FnAt D (2 * 0) (IR.callD D.g 0 i) i np f fd ps :=
  ⟨ha, kp, hn, bi, ⟨fun vs H Q E h => h.1.trans hn.symm, fun A outer s H args us vs Q E _ _ _ _ ⟨_, μ, S, ds, _, _, g⟩ => by rw [IR.callD_z] at g; exact g.elim⟩⟩
theorem starts {N : Nm} {μ : List Addr} {H : Hp} {ds : List IR.D} {vs : List V} {Ns : List Str} (rs : Reps N μ H ds vs) : RSt N μ H (ds.map some ++ List.replicate (Ns.length - ds.length) none) (L2.start Ns vs) := by
  have hl := rs.length
  refine ⟨by simp [L2.start, hl], fun i d h => ?_⟩
  have hi : i < ds.length := by
    by_cases hi : i < ds.length
    · exact hi
    · rw [List.getElem?_append_right (by simpa using hi), List.getElem?_replicate] at h
      split at h <;> cases h
  rw [List.getElem?_append_left (by simpa using hi), List.getElem?_map, Option.map_eq_some_iff] at h
  obtain ⟨d', h1, h2⟩ := h
  cases h2
  obtain ⟨v, hv, q⟩ := rs.get h1
  refine ⟨v, ?_, q⟩
  unfold L2.start
  rw [List.getElem?_append_left (by simp; omega), List.getElem?_map, hv]
  rfl
theorem at1 {n i np : Nat} {x qual : Str} {params : Arguments} {body : List Stmt} {scope : Scope} {dvs : List V} {kws : List (Str × V)} {f : Addr} {fd : FuncData} {Ns ps : List Str} {fn : IR.Fn}
    (F : FunD D.N.K x qual params body scope dvs kws f fd) (S : FnScope Ns ps scope) (ha : D.N.fnA i = some f) (hn : ps.length = np) (bi : Binds D.N.K fd ps []) (hg : D.g.fns i = some fn) (hnp : fn.np = np) (hns : fn.ns = Ns.length)
    (hbody : ∀ {X : Cx} {F' : Fm}, Cm D X ⟨Ns, scope, fun _ => true, false⟩ (2 * n + 1) F' → PassesOwn (model X.prog X.w) X.A X.env X.xe → (∀ i, F'.as i = true) → Fx X → PSs X body (tSs D F' (IR.callD D.g n) fn.body)) :
    FnAt D (2 * (n + 1)) (IR.callD D.g (n + 1) i) i np f fd ps := by
  refine ⟨ha, F.kp, hn, bi, ?_⟩
  have e : 2 * (n + 1) = (2 * n + 1) + 1 := by omega
  rw [e]
  refine F.ok S (fun vs H Q E h => h.1.trans hn.symm) fun cdv A outer s H vs Q E hr ⟨hl, μ, S0, ds, R, rs, g⟩ => ⟨tSs D (FmE E) (IR.callD D.g n) fn.body, hbody (F' := FmE E) ⟨rfl, rfl, rfl, rfl, rfl, rfl, S.nd, rfl, rfl, S.kind, fun _ => ⟨rfl, hr.hd⟩, ⟨hr.dp, hr.un⟩, takes_of rfl rfl rfl rfl⟩ (passes_of rfl) (fun _ => rfl) ⟨rfl, rfl, rfl⟩, ?_⟩
  have hd : ds.length = np := by rw [rs.length]; exact hl
  refine ⟨μ, S0, ds.map some ++ List.replicate (fn.ns - fn.np) none, trivial, R, ?_, ?_⟩
  · rw [hns, hnp, ← hd]
    exact starts rs
  · have g : GV D.N (FmE E) μ H ((IR.exs D.g (IR.callD D.g n) fn.body (ds.map some ++ List.replicate (fn.ns - fn.np) none) S0).bind fun fl => match fl with
        | .next _ => IR.M.pure .non
        | .ret v => IR.M.pure v
        | _ => IR.M.bad) Q := by
      have e2 : IR.callD D.g (n + 1) i ds S0 = (IR.exs D.g (IR.callD D.g n) fn.body (ds.map some ++ List.replicate (fn.ns - fn.np) none) S0).bind fun fl => match fl with
        | .next _ => IR.M.pure .non
        | .ret v => IR.M.pure v
        | _ => IR.M.bad := by
        simp only [IR.callD_s, hg, hd.trans hnp.symm, if_true, IR.M.bind]
        try rfl
      rw [← e2]; exact g
    cases er : IR.exs D.g (IR.callD D.g n) fn.body (ds.map some ++ List.replicate (fn.ns - fn.np) none) S0 with
    | bad => rw [er] at g; exact g
    | exc c fs S => rw [er] at g; exact g
    | ok fl S1 =>
      rw [er] at g
      intro μ1 H1 e1 R1
      cases fl with
      | next ρ => exact fun σ' _ _ => g μ1 H1 e1 R1 .non Rep.non fun l _ z => nomatch z
      | brk ρ => exact g.elim
      | cnt ρ => exact g.elim
      | ret d => exact fun v rv tm => g μ1 H1 e1 R1 v rv tm
theorem sw_cell {X : Cx} {c : Ctx} {k : Nat} {F : Fm} {n : Str} {p : Pos} {e : Expr} {l : Nat} (C : Cm D X c k F) (h : (match c.sc.names.lookup n with | some .local => false | _ => true) = true) : swapsWithSole [.Name n p] e l X.env = pure false := by
  have hk : (X.env.kindOf n == some .local) = false := by
    show (X.env.scope.names.lookup n == some .local) = false
    rw [C.sc]
    split at h
    · cases h
    · rename_i hn
      exact beq_eq_false_iff_ne.mpr fun z => hn z
  show swapsWith e (some (.Name n p)) l X.env = pure false
  unfold swapsWith
  split
  · simp [hk]
  · rfl
theorem kwN {D : Wd} {x qual : Str} {params : Arguments} {body : List Stmt} {scope : Scope} {kws : List (Str × V)} {f : Addr} {fd : FuncData} {ps ks : List Str} {n : Nat} {q : List (Option Nat)} (F : FunD D.N.K x qual params body scope [] kws f fd)
    (h : ∀ (kV doc pm : Value) (an : Option Addr) (cdv ct : Value) (us ws : List Value), us.length = n → ws.length = ks.length → bindArgs (PySem.W.fnOf x qual params body scope .none kV doc pm an cdv ct) ⟨us, ks.zip ws⟩ = pure (ps.zip (permV (us ++ ws) q))) : KwAt D fd ps ks n q := by
  obtain ⟨oc, od, dV, kV, doc, pm, an, cdv, ct, osl, rfl, lk, hcd, hD, hK⟩ := F.ex
  rcases hD with ⟨_, rfl⟩ | ⟨e, _⟩
  · exact ⟨fun s us ws _ l1 l2 => .of_eq (h kV doc pm an cdv ct us ws l1 l2)⟩
  · exact absurd rfl e
theorem ownAll {l : List Bool} (h : l.all id = true) : ∀ o ∈ l, o = true := fun o ho => List.all_eq_true.mp h o ho
/-- the law's def: the script goes in, True comes out -/
theorem law_sp {np : Nat} {g0 : IR.G} {n i : Nat} {K : PySem.W.Frag} {N : Nm} (hK : N.K = K) {H : Hp} {a : Addr} {ns : List Int} (hO : Only H) (hS : SqL K H a (ns.map V.int)) (h : ∃ S, IR.callD g0 n i [.scr ns] [] = .ok (.bl true) S) :
    spOf N (IR.callD g0 n i) 1 [.ref a] H (fun v _ => v = .bl true) fun _ _ _ => False := by
  obtain ⟨S, h⟩ := h
  refine ⟨rfl, [], [], [.scr ns], ⟨rfl, .nil, fun i o a h => by simp at h⟩, .cons (.scr ?_) .nil, ?_⟩
  · rw [hK]
    rcases hS with hS | hS
    · rcases hS with hS | hS
      · rcases hO a with z | ⟨o, xs, z⟩ <;> (rw [z] at hS; cases hS)
      · exact .inl hS
    · exact .inr hS
  · rw [h]
    exact fun μ' H' e R v rv _ => rv.bl
end
/-- the end of the head, where what may be let out is told by the world -/
theorem walk_w {l : PySem.W.OpenLaw} {n k : Nat} {q : Program} {loose : List Str} {XP : (Str → Option Value) → Heap → Prop} {YP : World → Heap → Prop} {d : DefRec} {CXw : World → CXT} {x : Str}
    (hn : l.most = some n) (hn2 : n ≤ sizeLine) (hdf : d.params.defaults = []) (hr : Room k callerA)
    (FF : ∀ (w : World) (mg : Str → Option Value) (fa : Addr) (h : Heap), YP w h → h.Ns mainGlobals mg → mg d.name = some (.ref fa) → ∃ (K : PySem.W.Frag) (fd : FuncData) (sp : Sp), K.In h ∧ (∀ (s : Shared) (u : Value), BindsTo s fd ⟨[u], []⟩ [(x, u)]) ∧
      (∀ (H : Hp) (a : Addr) (ns : List Int), ns.length ≤ n → Only H → SqL K H a (ns.map V.int) → sp [.ref a] H (fun v _ => v = .bl true) fun _ _ _ => False) ∧ ∀ base : Heap, K.In base → base.Ns mainGlobals mg → FnOk l.prog w K mg base (CXw w) k fa fd [x] sp)
    (hCX : ∀ (w : World) (H : Hp) (s : Shared) (e : Value) (s' : Shared), CXw w [] H s (fun _ _ _ => False) e s' → False) : PySem.W.WalkO q loose XP YP l.row.toRowW d [] (fun f vs => PySem.call f vs) :=
  Att.attach_call hn hdf fun w _ s₁ mg _ fa _ _ _ _ a _ ns G Y _ _ _ hmg hobj hints hlen hg => (FF w mg fa _ Y G.T.g hmg).elim fun K z => z.elim fun fd z => z.elim fun sp z =>
    law_call z.1 G.T.g G.T.b G.T.builtins G.T.nolimit hg hobj hints (Nat.le_trans hlen hn2) hr z.2.2.2 z.2.1 (fun H hO hS => z.2.2.1 H a ns hlen hO hS) fun H e s' => hCX w H s₁ e s'
theorem cx_none {P : Program} (w : World) (H : Hp) (s : Shared) (e : Value) (s' : Shared) (h : L2.CX P w [] H s (fun _ _ _ => False) e s') : False := by
  obtain ⟨_, _, _, _, _, _, _, _, _, _, _, _, z⟩ := h
  exact z
theorem fd_one {K : PySem.W.Frag} {x x' q q' : Str} {p p' : Arguments} {b b' : List Stmt} {sc sc' : Scope} {d d' : List V} {k k' : List (Str × V)} {f : Addr} {fd fd' : FuncData} (F : FunD K x q p b sc d k f fd) (F' : FunD K x' q' p' b' sc' d' k' f fd') : fd = fd' := by
  obtain ⟨_, _, _, _, _, _, _, _, _, _, _, l1, _⟩ := F.ex
  obtain ⟨_, _, _, _, _, _, _, _, _, _, _, l2, _⟩ := F'.ex
  rw [l1] at l2
  cases l2
  rfl
end IRS

namespace IRS
open PySem PySem.Spec PyProof.Rows L2
section
variable {D : Wd} {X : Cx} {c : Ctx} {k : Nat} {F : Fm} {pos p p2 : Pos} {a b e o tg : Expr} {es : List Expr} {call : Nat → List IR.D → IR.M IR.D} {x y z : IR.E} {n : Str}
/-! ### chains -/
abbrev IsCmp (o : IR.Op) : Prop := o = .lt ∨ o = .le ∨ o = .gt ∨ o = .ge ∨ o = .eq ∨ o = .ne ∨ o = .isin ∨ o = .notin
abbrev OpOk (D : Wd) (F : Fm) (o : IR.Op) (r : R2) : Prop := ∀ {μ S H Q p q p' q'}, Rel D.N μ S H → RepV D.N μ H p p' → RepV D.N μ H q q' → GV D.N F μ H (IR.evOp o [p, q] S) Q → r p' q' H Q
theorem chainG {r r' : R2} {o1 o2 : IR.Op} (h1 : OpOk D F o1 r) (h2 : OpOk D F o2 r') (c1 : IsCmp o1) {σ : L2.St} {H : Hp} {Q : VK} {μ : List Addr} {S : IR.Sto} {ρ : IR.Env} (hI : F.I σ) (R : Rel D.N μ S H) (hρ : RSt D.N μ H ρ σ)
    (g : GV D.N F μ H (IR.ev D.g call (.chain o1 o2 x y z) ρ S) Q) : tChain r r' (tV D F call x) (tV D F call y) (tV D F call z) σ H Q := by
  refine one' (f := fun u => (IR.ev D.g call y ρ).bind fun v => (IR.evOp o1 [u, v]).bind fun r => match r with
    | .bl true => (IR.ev D.g call z ρ).bind fun w => IR.evOp o2 [v, w]
    | .bl false => IR.M.pure (.bl false)
    | _ => IR.M.bad) hI R hρ g fun μ1 S1 H1 u u' e1 R1 ru _ g1 => ?_
  refine one' (f := fun v => (IR.evOp o1 [u, v]).bind fun r => match r with
    | .bl true => (IR.ev D.g call z ρ).bind fun w => IR.evOp o2 [v, w]
    | .bl false => IR.M.pure (.bl false)
    | _ => IR.M.bad) hI R1 (hρ.mono e1.w) (GV.base e1 g1) fun μ2 S2 H2 v v' e2 R2 rv _ g2 => ?_
  have g2 := GV.base e2 g2
  refine h1 R2 (ru.mono e2) rv ?_
  have g3 : GV D.N F μ2 H2 ((IR.evOp o1 [u, v] S2).bind fun r => match r with
    | .bl true => (IR.ev D.g call z ρ).bind fun w => IR.evOp o2 [v, w]
    | .bl false => IR.M.pure (.bl false)
    | _ => IR.M.bad) Q := g2
  cases er : IR.evOp o1 [u, v] S2 with
  | bad => rw [er] at g3; exact g3
  | exc c fs S => rw [er] at g3; exact g3
  | ok d S3 =>
    obtain ⟨t, rfl⟩ := evOp_cmp c1 er
    rw [er] at g3
    refine fun μ3 H3 e3 R3 w rw' _ => ⟨t, rw'.bl, ?_⟩
    cases t with
    | true =>
      have g4 : GV D.N F μ2 H2 (((IR.ev D.g call z ρ).bind fun w => IR.evOp o2 [v, w]) S3) Q := g3
      show tV D F call z σ H3 fun w' H4 => r' v' w' H4 Q
      exact one' (f := fun w => IR.evOp o2 [v, w]) hI R3 (((hρ.mono e1.w).mono e2.w).mono e3.w) (GV.base e3 g4) fun μ4 S4 H4 w w' e4 R4 rw2 _ g5 => h2 R4 ((rv.mono e3).mono e4) rw2 (GV.base e4 g5)
    | false =>
      have g4 : GV D.N F μ2 H2 (.ok (.bl false) S3) Q := g3
      show Q (.bl false) H3
      exact GV.bl R3 (GV.base e3 g4)
theorem s_chain {op op' : CmpOp} {r r' : R2} {o1 o2 : IR.Op} (ho : OpR X (compareOp op) r) (ho' : OpR X (compareOp op') r') (h1 : OpOk D F o1 r) (h2 : OpOk D F o2 r') (c1 : IsCmp o1)
    (ha : PE X a (tV D F call x)) (hb : PE X b (tV D F call y)) (hc : PE X e (tV D F call z)) (hm : lastMarks [op, op'] [b, e] = false) : PE X (.Compare a [op, op'] [b, e] pos) (tV D F call (.chain o1 o2 x y z)) := by
  refine PE.weak (pe_chain ho ho' ha hb hc hm) fun σ H Q q => ?_
  obtain ⟨μ, S, ρ, hI, R, hρ, g⟩ := q
  exact chainG h1 h2 c1 hI R hρ g
theorem chain_bl {o1 o2 : IR.Op} (c2 : IsCmp o2) {ρ : IR.Env} {S S' : IR.Sto} {d : IR.D} (h : IR.ev D.g call (.chain o1 o2 x y z) ρ S = .ok d S') : ∃ b, d = .bl b := by
  obtain ⟨u, S1, k1, h⟩ := bind_ok (r := IR.ev D.g call x ρ S) h
  obtain ⟨v, S2, k2, h⟩ := bind_ok (r := IR.ev D.g call y ρ S1) h
  obtain ⟨r, S3, k3, h⟩ := bind_ok (r := IR.evOp o1 [u, v] S2) h
  cases r <;> try (cases h; done)
  rename_i t
  cases t with
  | false => cases h; exact ⟨_, rfl⟩
  | true =>
    obtain ⟨w, S4, k4, h⟩ := bind_ok (r := IR.ev D.g call z ρ S3) h
    exact evOp_cmp c2 h
theorem s_chainT {op op' : CmpOp} {r r' : R2} {o1 o2 : IR.Op} (ho : OpR X (compareOp op) r) (ho' : OpR X (compareOp op') r') (h1 : OpOk D F o1 r) (h2 : OpOk D F o2 r') (c1 : IsCmp o1) (c2 : IsCmp o2)
    (ha : PE X a (tV D F call x)) (hb : PE X b (tV D F call y)) (hc : PE X e (tV D F call z)) (hm : lastMarks [op, op'] [b, e] = false) : PT X (.Compare a [op, op'] [b, e] pos) (tB' D F call (.chain o1 o2 x y z)) := by
  refine PT.weak (pt_chain ho ho' ha hb hc hm) fun σ H Q q => ?_
  obtain ⟨μ, S, ρ, hI, R, hρ, g⟩ := q
  refine chainG h1 h2 c1 hI R hρ ?_
  have g : GG D.N F μ H ((IR.ev D.g call (.chain o1 o2 x y z) ρ S).bind IR.truth) fun b _ _ H' => Q b H' := g
  cases er : IR.ev D.g call (.chain o1 o2 x y z) ρ S with
  | bad => rw [er] at g; exact g
  | exc c fs S => rw [er] at g; exact g
  | ok d S' =>
    obtain ⟨t, rfl⟩ := chain_bl c2 er
    rw [er] at g
    exact fun μ' H' e R v rv _ => ⟨t, rv.bl, g μ' H' e R⟩
theorem e_cle2 (C : Cm D X c k F) (ha : PE X a (tV D F call x)) (hb : PE X b (tV D F call y)) (hc : PE X e (tV D F call z)) (hm : lastMarks [.LtE, .LtE] [b, e] = false) : PE X (.Compare a [.LtE, .LtE] [b, e] pos) (tV D F call (.chain .le .le x y z)) :=
  s_chain op_le op_le (fun R ra rb g => o_le R ra rb g) (fun R ra rb g => o_le R ra rb g) (.inr (.inl rfl)) ha hb hc hm
theorem t_cle2 (C : Cm D X c k F) (ha : PE X a (tV D F call x)) (hb : PE X b (tV D F call y)) (hc : PE X e (tV D F call z)) (hm : lastMarks [.LtE, .LtE] [b, e] = false) : PT X (.Compare a [.LtE, .LtE] [b, e] pos) (tB' D F call (.chain .le .le x y z)) :=
  s_chainT op_le op_le (fun R ra rb g => o_le R ra rb g) (fun R ra rb g => o_le R ra rb g) (.inr (.inl rfl)) (.inr (.inl rfl)) ha hb hc hm
theorem t_clt2 (C : Cm D X c k F) (ha : PE X a (tV D F call x)) (hb : PE X b (tV D F call y)) (hc : PE X e (tV D F call z)) (hm : lastMarks [.Lt, .Lt] [b, e] = false) : PT X (.Compare a [.Lt, .Lt] [b, e] pos) (tB' D F call (.chain .lt .lt x y z)) :=
  s_chainT (op_ltX (by have := C.hu; omega)) (op_ltX (by have := C.hu; omega)) (fun R ra rb g => by rw [C.K]; exact o_lt R ra rb g) (fun R ra rb g => by rw [C.K]; exact o_lt R ra rb g) (.inl rfl) (.inl rfl) ha hb hc hm
/-! ### parts of sequences -/
theorem wantI {α : Type} {d : IR.D} {S : IR.Sto} {f : Int → IR.M α} {μ : List Addr} {H : Hp} {L : α → IR.Sto → List Addr → Hp → Prop} (g : GG D.N F μ H (((IR.wantInt d).bind f) S) L) : ∃ i, d = .int i ∧ GG D.N F μ H (f i S) L := by
  cases d <;> first | exact ⟨_, rfl, g⟩ | exact g.elim
theorem slG {μ : List Addr} {H : Hp} {S : IR.Sto} {u : IR.D} {lo hi : Option Int} {Q : VK} (g : GV D.N F μ H (IR.slM u lo hi S) Q) : GV D.N F μ H (IR.val1 (IR.slD S u lo hi) S) Q := by
  unfold IR.slM at g
  unfold IR.val1
  cases e : IR.slD S u lo hi with
  | none => rw [e] at g; exact g
  | some d => rw [e] at g; exact g
theorem e_sl11 (C : Cm D X c k F) {lo hi : Expr} (ha : PE X a (tV D F call x)) (hl : PE X lo (tV D F call y)) (hh : PE X hi (tV D F call z)) : PE X (.Subscript a (.Slice (some lo) (some hi) none p2) pos) (tV D F call (.sl11 x y z)) := by
  refine PE.weak (pe_slice sl_X ha (po_some hl) (po_some hh)) fun σ H Q q => ?_
  obtain ⟨μ, S, ρ, hI, R, hρ, g⟩ := q
  refine one' (f := fun u => (IR.ev D.g call y ρ).bind fun l => (IR.wantInt l).bind fun i => (IR.ev D.g call z ρ).bind fun h => (IR.wantInt h).bind fun j => IR.slM u (some i) (some j)) hI R hρ g fun μ1 S1 H1 u u' e1 R1 ru _ g1 => ?_
  refine one' (f := fun l => (IR.wantInt l).bind fun i => (IR.ev D.g call z ρ).bind fun h => (IR.wantInt h).bind fun j => IR.slM u (some i) (some j)) hI R1 (hρ.mono e1.w) (GV.base e1 g1) fun μ2 S2 H2 v v' e2 R2 rv _ g2 => ?_
  obtain ⟨i, rfl, g3⟩ := wantI g2
  refine ⟨i, rv.int, ?_⟩
  refine one' (f := fun h => (IR.wantInt h).bind fun j => IR.slM u (some i) (some j)) hI R2 ((hρ.mono e1.w).mono e2.w) (GV.base e2 g3) fun μ3 S3 H3 w w' e3 R3 rw' _ g4 => ?_
  obtain ⟨j, rfl, g5⟩ := wantI g4
  refine ⟨j, rw'.int, ?_⟩
  rw [C.K]
  exact o_sl R3 ((ru.mono e2).mono e3) (slG (GV.base e3 g5))
theorem e_sl10 (C : Cm D X c k F) {lo : Expr} (ha : PE X a (tV D F call x)) (hl : PE X lo (tV D F call y)) : PE X (.Subscript a (.Slice (some lo) none none p2) pos) (tV D F call (.sl10 x y)) := by
  refine PE.weak (pe_slice sl_X ha (po_some hl) po_none) fun σ H Q q => ?_
  obtain ⟨μ, S, ρ, hI, R, hρ, g⟩ := q
  refine one' (f := fun u => (IR.ev D.g call y ρ).bind fun l => (IR.wantInt l).bind fun i => IR.slM u (some i) none) hI R hρ g fun μ1 S1 H1 u u' e1 R1 ru _ g1 => ?_
  refine one' (f := fun l => (IR.wantInt l).bind fun i => IR.slM u (some i) none) hI R1 (hρ.mono e1.w) (GV.base e1 g1) fun μ2 S2 H2 v v' e2 R2 rv _ g2 => ?_
  obtain ⟨i, rfl, g3⟩ := wantI g2
  refine ⟨i, rv.int, ?_⟩
  show rSlX X.K u' (some i) none H2 Q
  rw [C.K]
  exact o_sl R2 (ru.mono e2) (slG (GV.base e2 g3))
theorem e_sl01 (C : Cm D X c k F) {hi : Expr} (ha : PE X a (tV D F call x)) (hl : PE X hi (tV D F call y)) : PE X (.Subscript a (.Slice none (some hi) none p2) pos) (tV D F call (.sl01 x y)) := by
  refine PE.weak (pe_slice sl_X ha po_none (po_some hl)) fun σ H Q q => ?_
  obtain ⟨μ, S, ρ, hI, R, hρ, g⟩ := q
  refine one' (f := fun u => (IR.ev D.g call y ρ).bind fun l => (IR.wantInt l).bind fun i => IR.slM u none (some i)) hI R hρ g fun μ1 S1 H1 u u' e1 R1 ru _ g1 => ?_
  refine one' (f := fun l => (IR.wantInt l).bind fun i => IR.slM u none (some i)) hI R1 (hρ.mono e1.w) (GV.base e1 g1) fun μ2 S2 H2 v v' e2 R2 rv _ g2 => ?_
  obtain ⟨i, rfl, g3⟩ := wantI g2
  refine ⟨i, rv.int, ?_⟩
  rw [C.K]
  exact o_sl R2 (ru.mono e2) (slG (GV.base e2 g3))
theorem e_sl00 (C : Cm D X c k F) (ha : PE X a (tV D F call x)) : PE X (.Subscript a (.Slice none none none p2) pos) (tV D F call (.sl00 x)) := by
  refine PE.weak (pe_slice sl_X ha po_none po_none) fun σ H Q q => ?_
  obtain ⟨μ, S, ρ, hI, R, hρ, g⟩ := q
  refine one' (f := fun u => IR.slM u none none) hI R hρ g fun μ1 S1 H1 u u' e1 R1 ru _ g1 => ?_
  show rSlX X.K u' none none H1 Q
  rw [C.K]
  exact o_sl R1 ru (slG (GV.base e1 g1))
/-! ### a text of the module -/
theorem e_gstr (C : Cm D X c k F) {t : IR.Txt} {m : Str} {tk : Tok} (h : sT t = m) (hg : c.sc.names.lookup n = some .globalImplicit) (hm : D.mg n = some (.str m tk)) (hd : (n == ("__debug__" : Str)) = false := by rfl) : PE X (.Name n pos) (tV D F call (.c (.str t))) := s_c (pe_glob (v := .str m) (C.gl hg) (C.mgn hm) ⟨_, rfl⟩ hd) fun _ _ => by rw [← h]; exact .str t
end
end IRS

namespace IRS
open PySem PySem.Spec PyProof.Rows L2 TL
/-! ### numbers as texts -/
theorem natTxtAux_eq : ∀ (f n : Nat) (acc : List Nat), n < f → IR.natTxtAux f n acc = numL n ++ acc
  | 0, n, acc, h => by omega
  | f + 1, n, acc, h => by
    unfold IR.natTxtAux
    by_cases hn : n < 10
    · rw [if_pos hn, numL_lt hn]; rfl
    · rw [if_neg hn, natTxtAux_eq f (n / 10) _ (by omega), numL_step (n := n) (by omega), List.append_assoc]; rfl
theorem natTxt_eq (n : Nat) : IR.natTxt n = numL n := by
  rw [IR.natTxt, natTxtAux_eq _ _ _ (by omega), List.append_nil]
theorem nums (n : Nat) : (toString ((n : Nat) : Int)).toList.map Char.toNat = numL n := by
  have h := tl_num n
  rw [Str.ofString_eq_toList] at h
  exact h
theorem intTxt_eq (i : Int) : sT (IR.intTxt i) = Str.ofString (toString i) := by
  rw [Str.ofString_eq_toList]
  unfold sT
  congr 2
  cases i with
  | ofNat n =>
    have : ¬ (Int.ofNat n < 0) := Int.not_lt.mpr (Int.natCast_nonneg n)
    rw [IR.intTxt, if_neg this]
    show IR.natTxt n = _
    rw [natTxt_eq]
    exact (nums n).symm
  | negSucc m =>
    have : Int.negSucc m < 0 := by omega
    rw [IR.intTxt, if_pos this]
    show 45 :: IR.natTxt (m + 1) = _
    rw [natTxt_eq, ← nums (m + 1)]
    have e : toString (Int.negSucc m) = "-" ++ toString (((m + 1 : Nat) : Nat) : Int) := rfl
    rw [e]
    simp
section
variable {D : Wd} {X : Cx} {c : Ctx} {k : Nat} {F : Fm} {pos p p2 : Pos} {a b e o tg : Expr} {es : List Expr} {call : Nat → List IR.D → IR.M IR.D} {x y z : IR.E} {n : Str}
theorem o_str1 {N : Nm} {W : Fm} {μ : List Addr} {H : Hp} {S : IR.Sto} {Q : VK} {d : IR.D} {v : V} (R : Rel N μ S H) (ra : RepV N μ H d v) (g : GV N W μ H (IR.evOp .str [d] S) Q) : ∃ i, [v] = [V.int i] ∧ i.natAbs.log2 < 1920 ∧ Q (.str (toString i)) H := by
  cases d <;> first | exact g.elim | skip
  rename_i i
  rw [ra.int]
  have g : GV N W μ H (if i.natAbs < 10 ^ 100 then .ok (.str (IR.intTxt i)) S else .bad) Q := g
  split at g
  · rename_i h
    refine ⟨i, rfl, ?_, ?_⟩
    · have h2 : i.natAbs < 2 ^ 1919 := Nat.lt_of_lt_of_le h (by decide +kernel)
      by_cases h0 : i.natAbs = 0
      · rw [h0]; decide
      · have := (Nat.log2_lt h0).mpr h2
        omega
    · have q := GV.str R g
      rw [intTxt_eq] at q
      exact q
  · exact g.elim
theorem e_strI (C : Cm D X c k F) (hg : c.sc.names.lookup ("str" : Str) = some .globalImplicit) (hm : D.mg "str" = none) (ha : PE X a (tV D F call x)) (hs : A1 a X) : PE X (.Call (.Name "str" p) [a] [] pos) (tV D F call (.op .str (.cons false x .nil))) :=
  s_b1 (pe_callTy call_str_int (C.gl hg) (C.mgn hm) boot_str (s_cons ha s_nil hs) (he := hs)) fun R ra g => o_str1 R ra g
end
end IRS

namespace IRS
open PySem PySem.Spec PyProof.Rows L2
section
variable {D : Wd} {X : Cx} {c : Ctx} {k : Nat} {F : Fm} {pos p p2 : Pos} {a b e o tg : Expr} {es : List Expr} {call : Nat → List IR.D → IR.M IR.D} {x y z : IR.E} {n : Str} {mname : List (Str × Nat)}
/-! ### while -/
theorem st_whl {cE : Expr} {body : List Stmt} {bd : IR.Ss} (hp : PassesOwn (model X.prog X.w) X.A X.env X.xe) (hc : PT X cE (tB' D F call x)) (hb : PSs X body (tSs D F call bd)) : PS X (.While cE body [] pos) (tSt D F call (.whl x bd)) := by
  refine PS.weak (ps_while hp hc hb) fun E σ H q => ?_
  obtain ⟨μ, S, ρ, hI, R, hρ, g⟩ := q
  refine ⟨fun m σ' H' => ∃ μ' S' ρ', F.I σ' ∧ Rel D.N μ' S' H' ∧ RSt D.N μ' H' ρ' σ' ∧ GG D.N F μ' H' (IR.whlGo (fun ρ => (IR.ev D.g call x ρ).bind IR.truth) (fun ρ => IR.exs D.g call bd ρ) m ρ' S') (KF D.N F E H'), ⟨IR.WFUEL, μ, S, ρ, hI, R, hρ, g⟩, ?_⟩
  rintro m σ1 H1 ⟨μ1, S1, ρ1, hI1, R1, hρ1, g1⟩
  cases m with
  | zero => exact g1.elim
  | succ m =>
    refine ⟨μ1, S1, ρ1, hI1, R1, hρ1, ?_⟩
    have g1 : GG D.N F μ1 H1 ((((IR.ev D.g call x ρ1).bind IR.truth) S1).bind fun b => if b then (IR.exs D.g call bd ρ1).bind fun fl => match fl with
      | .next ρ' => IR.whlGo (fun ρ => (IR.ev D.g call x ρ).bind IR.truth) (fun ρ => IR.exs D.g call bd ρ) m ρ'
      | .cnt ρ' => IR.whlGo (fun ρ => (IR.ev D.g call x ρ).bind IR.truth) (fun ρ => IR.exs D.g call bd ρ) m ρ'
      | .brk ρ' => IR.M.pure (.next ρ')
      | .ret d => IR.M.pure (.ret d)
    else IR.M.pure (.next ρ1)) (KF D.N F E H1) := g1
    show GG D.N F μ1 H1 (((IR.ev D.g call x ρ1).bind IR.truth) S1) _
    refine GG.imp (GG.bind g1) fun t S2 μ2 H2 e2 R2 g2 => ?_
    have hρ2 := hρ1.mono e2.w
    have g2 := KF.base' e2 g2
    cases t with
    | false =>
      show E.nx σ1 H2
      exact g2 μ2 H2 (Ext.refl _ _) R2 σ1 hI1 hρ2
    | true =>
      refine ⟨_, fun σ' H' w => ⟨m, Nat.lt_succ_self _, w⟩, ?_⟩
      refine ⟨μ2, S2, ρ1, hI1, R2, hρ2, ?_⟩
      refine GG.imp (GG.bind (show GG D.N F μ2 H2 ((IR.exs D.g call bd ρ1 S2).bind _) (KF D.N F E H2) from g2)) fun fl S3 μ3 H3 e3 R3 g3 => ?_
      cases fl with
      | next ρ3 => exact fun σ3 hI3 hρ3 => ⟨μ3, S3, ρ3, hI3, R3, hρ3, KF.base' e3 g3⟩
      | cnt ρ3 => exact fun σ3 hI3 hρ3 => ⟨μ3, S3, ρ3, hI3, R3, hρ3, KF.base' e3 g3⟩
      | brk ρ3 => exact fun σ3 hI3 hρ3 => g3 μ3 H3 (Ext.refl _ _) R3 σ3 hI3 hρ3
      | ret d => exact g3 μ3 H3 (Ext.refl _ _) R3
theorem st_retN : PS X (.Return none pos) (tSt D F call (.ret (.c .non))) := by
  refine PS.weak ps_retN fun E σ H q => ?_
  obtain ⟨μ, S, ρ, hI, R, hρ, g⟩ := q
  exact g μ H (Ext.refl _ _) R .non Rep.non fun _ _ z => nomatch z
/-! ### fields stored -/
theorem st_fld (C : Cm D X c k F) (Kk : Kn D k call mname) {f : Nat} (hf : D.N.fld[f]? = some n) (ho : PE X o (tV D F call x)) (hv : PE X e (tV D F call y)) (hs : swapsWith e (some (.Attribute o n p2)) pos.line X.env = pure false) :
    PS X (.Assign [.Attribute o n p2] e pos) (tSt D F call (.setAttr x f y)) := by
  refine PS.weak (ps_fld ho hv hs) fun E σ H q => ?_
  obtain ⟨μ, S, ρ, hI, R, hρ, g⟩ := q
  refine ⟨μ, S, ρ, hI, R, hρ, ?_⟩
  have g : GG D.N F μ H (((IR.ev D.g call y ρ S).bind (IR.ownIf true)).bind fun d => (IR.ev D.g call x ρ).bind fun oo => (IR.setAttrD d oo f).bind fun _ => IR.M.pure (IR.Flow.next ρ)) (KF D.N F E H) := by
    have e : IR.ex D.g call (.setAttr x f y) ρ S = ((IR.ev D.g call y ρ S).bind (IR.ownIf true)).bind fun d => (IR.ev D.g call x ρ).bind fun oo => (IR.setAttrD d oo f).bind fun _ => IR.M.pure (IR.Flow.next ρ) := by
      simp only [IR.ex, IR.M.bind]
      cases IR.ev D.g call y ρ S <;> rfl
    rw [← e]; exact g
  refine GG.own g fun μ1 S1 H1 d v e1 R1 rd g1 => ?_
  refine one' (f := fun oo => (IR.setAttrD d oo f).bind fun _ => IR.M.pure (IR.Flow.next ρ)) hI R1 (hρ.mono e1.w) g1 fun μ2 S2 H2 oo oo' e2 R2 ro _ g2 => ?_
  have g2 := GG.base e2 g2
  obtain ⟨r, rfl⟩ : ∃ r, oo = .ref r := by cases oo <;> first | exact ⟨_, rfl⟩ | exact g2.elim
  obtain ⟨q, rfl, hq⟩ := ro.ref
  cases h : S2[r]? with
  | none =>
    have e3 : IR.setAttrD d (.ref r) f S2 = .bad := by simp [IR.setAttrD, h]
    rw [show ((IR.setAttrD d (.ref r) f).bind fun _ => IR.M.pure (IR.Flow.next ρ)) S2 = (IR.setAttrD d (.ref r) f S2).bind fun _ => IR.M.pure (IR.Flow.next ρ) from rfl, e3] at g2
    exact g2.elim
  | some ob =>
    cases ob with
    | lst l =>
      have e3 : IR.setAttrD d (.ref r) f S2 = .bad := by simp [IR.setAttrD, h]
      rw [show ((IR.setAttrD d (.ref r) f).bind fun _ => IR.M.pure (IR.Flow.next ρ)) S2 = (IR.setAttrD d (.ref r) f S2).bind fun _ => IR.M.pure (IR.Flow.next ρ) from rfl, e3] at g2
      exact g2.elim
    | dK l1 l2 =>
      have e3 : IR.setAttrD d (.ref r) f S2 = .bad := by simp [IR.setAttrD, h]
      rw [show ((IR.setAttrD d (.ref r) f).bind fun _ => IR.M.pure (IR.Flow.next ρ)) S2 = (IR.setAttrD d (.ref r) f S2).bind fun _ => IR.M.pure (IR.Flow.next ρ) from rfl, e3] at g2
      exact g2.elim
    | dT l1 l2 =>
      have e3 : IR.setAttrD d (.ref r) f S2 = .bad := by simp [IR.setAttrD, h]
      rw [show ((IR.setAttrD d (.ref r) f).bind fun _ => IR.M.pure (IR.Flow.next ρ)) S2 = (IR.setAttrD d (.ref r) f S2).bind fun _ => IR.M.pure (IR.Flow.next ρ) from rfl, e3] at g2
      exact g2.elim
    | exn l1 l2 =>
      have e3 : IR.setAttrD d (.ref r) f S2 = .bad := by simp [IR.setAttrD, h]
      rw [show ((IR.setAttrD d (.ref r) f).bind fun _ => IR.M.pure (IR.Flow.next ρ)) S2 = (IR.setAttrD d (.ref r) f S2).bind fun _ => IR.M.pure (IR.Flow.next ρ) from rfl, e3] at g2
      exact g2.elim
    | ins cc fs =>
      by_cases hl : fs.length < 900
      · have e3 : IR.setAttrD d (.ref r) f S2 = .ok () (S2.set r (.ins cc (IR.fPut fs f d))) := by simp [IR.setAttrD, h, hl]
        rw [show ((IR.setAttrD d (.ref r) f).bind fun _ => IR.M.pure (IR.Flow.next ρ)) S2 = (IR.setAttrD d (.ref r) f S2).bind fun _ => IR.M.pure (IR.Flow.next ρ) from rfl, e3] at g2
        obtain ⟨Ca, dx, r', hc, h1, fr⟩ := R2.ob r _ q h hq
        obtain ⟨k1, k2⟩ := Kk.cls cc Ca hc
        refine ⟨q, Ca, dx, r', rfl, h1, by rw [C.K]; exact k1, by rw [C.K]; exact k2 n (List.mem_of_getElem? hf), by rw [← fr.length]; omega, ?_⟩
        have ew : Ext μ2 H2 μ2 (upd H2 q (.ins Ca dx (putF n v r'))) := Ext.write hq h1 (fun _ z => nomatch z) (fun _ _ z => nomatch z)
        have fr2 : FR D.N μ2 (upd H2 q (.ins Ca dx (putF n v r'))) (IR.fPut fs f d) (putF n v r') := (FR.put Kk.fnd hf (RepO.mono (o := true) e2 rd) fr).mono ew.w
        exact g2 μ2 _ ew (R2.write hq ⟨Ca, dx, _, hc, upd_same, fr2⟩ ew.w) σ hI (((hρ.mono e1.w).mono e2.w).mono ew.w)
      · have e3 : IR.setAttrD d (.ref r) f S2 = .bad := by simp [IR.setAttrD, h, hl]
        rw [show ((IR.setAttrD d (.ref r) f).bind fun _ => IR.M.pure (IR.Flow.next ρ)) S2 = (IR.setAttrD d (.ref r) f S2).bind fun _ => IR.M.pure (IR.Flow.next ρ) from rfl, e3] at g2
        exact g2.elim
/-! ### methods of lists, dicts, texts -/
def kindT : Nat → String
  | 1 => "list"
  | 2 => "dict"
  | _ => "str"
theorem recv_ty {μ : List Addr} {S : IR.Sto} {H : Hp} {d : IR.D} {v : V} {N : Nm} {i : Nat} (R : Rel N μ S H) (r : RepV N μ H d v) (h : IR.recvK S d = some i) : tyV N.K (kindT i) v H := by
  cases d <;> simp only [IR.recvK] at h <;> try (cases h; done)
  · cases h; rw [r.str]; rfl
  · rename_i q
    obtain ⟨ad, rfl, hq⟩ := r.ref
    split at h
    · rename_i l e
      cases h
      obtain ⟨vs, h1, _⟩ := R.ob q _ ad e hq
      exact .inl ⟨rfl, vs, .of h1⟩
    · rename_i kvs e
      cases h
      obtain ⟨vs, h1, _⟩ := R.ob q _ ad e hq
      exact .inr (.inr (.inl ⟨rfl, .inl ⟨vs, h1⟩⟩))
    · rename_i kvs e
      cases h
      obtain ⟨vs, h1, _⟩ := R.ob q _ ad e hq
      exact .inr (.inr (.inl ⟨rfl, .inr ⟨vs, h1⟩⟩))
    · cases h
  · cases h
    obtain ⟨ad, vs, rfl, h1, _, _⟩ := r
    exact .inl ⟨rfl, vs, .of h1⟩
theorem s_bm {name : Str} {id : String} {kd : Nat} {r : V → List V → Hp → VK → Prop} {oo : IR.Op} {xs : IR.Es} {apos : Pos} (C : Cm D X c k F) (pa : PlainAttrs (kindT kd)) (slot : Slot (kindT kd) name id) (hty : typeOf (.builtin id) = pure (.type "method_descriptor")) (hm : MtR X id r) (hk : IR.bmKinds oo = [kd])
    (ho : PE X o (tV D F call x)) (ha : PA X (e :: es) (tAs D F call xs))
    (hr : ∀ {μ S H Q d v ds vs}, Rel D.N μ S H → RepV D.N μ H d v → RepOs D.N μ H (esOwn xs) ds vs → GV D.N F μ H (IR.evOp oo (d :: ds) S) Q → r v vs H Q)
    (hbase : attributeBase o name X.env (eval o X.env) = eval o X.env)
    (hfew : ((backTo pos (starEach (e :: es) X.env)).all (fun x => !x.1) && (backToKw pos (keywordEach [] X.env)).all (fun x => x.1.isSome) && decide ((e :: es).length + ([] : List Keyword).length + (if ([] : List Keyword).isEmpty then 0 else 1) < 30)) = true)
    (hline : (apos.endLine == pos.line) = true) (hs : starEach (e :: es) X.env = (false, eval e X.env) :: starEach es X.env) (hplain : (backTo pos (starEach es X.env)).any (·.1) = false) :
    PE X (.Call (.Attribute o name apos) (e :: es) [] pos) (tV D F call (.bm oo x xs)) := by
  refine PE.weak (pe_bm pa slot hty hm ho ha hbase hfew hline hs hplain) fun σ H Q q => ?_
  obtain ⟨μ, S, ρ, hI, R, hρ, g⟩ := q
  refine one' (f := fun d => (IR.recvOk oo d).bind fun _ => (IR.evs D.g call xs ρ).bind fun l => IR.evOp oo (d :: l)) hI R hρ g fun μ1 S1 H1 d v e1 R1 rd _ g1 => ?_
  have g1 : GV D.N F μ H ((IR.recvOk oo d S1).bind fun _ => (IR.evs D.g call xs ρ).bind fun l => IR.evOp oo (d :: l)) Q := g1
  unfold IR.recvOk at g1
  cases hd : IR.recvK S1 d with
  | none => rw [hd] at g1; exact g1.elim
  | some i =>
    rw [hd, hk] at g1
    by_cases hi : i = kd
    · subst hi
      simp only [List.contains_cons, beq_self_eq_true, Bool.true_or, if_true] at g1
      refine ⟨by rw [C.K]; exact recv_ty R1 rd hd, ?_⟩
      have g2 : GV D.N F μ1 H1 (((IR.evs D.g call xs ρ).bind fun l => IR.evOp oo (d :: l)) S1) Q := GV.base e1 g1
      exact argsG (f := fun l => IR.evOp oo (d :: l)) hI R1 (hρ.mono e1.w) g2 fun μ2 S2 H2 ds vs e2 R2 rs g3 => hr R2 (rd.mono e2) rs g3
    · have e3 : [kd].contains i = false := by simp [hi]
      have g1 : GV D.N F μ H ((if [kd].contains i = true then IR.Res.ok () S1 else IR.Res.bad : IR.Res Unit).bind fun _ => (IR.evs D.g call xs ρ).bind fun l => IR.evOp oo (d :: l)) Q := g1
      rw [e3] at g1
      exact g1.elim
theorem e_append (C : Cm D X c k F) {apos : Pos} (ho : PE X o (tV D F call x)) (ha : PE X e (tV D F call y)) (hs : A1 e X) (hbase : attributeBase o ("append" : Str) X.env (eval o X.env) = eval o X.env) (hline : (apos.endLine == pos.line) = true) :
    PE X (.Call (.Attribute o ("append" : Str) apos) [e] [] pos) (tV D F call (.bm .append x (.cons true y .nil))) :=
  s_bm C (kd := 1) PySem.F.plainAttrs_list PySem.F.slot_list_append PySem.F.type_list_append mt_append rfl ho (s_cons ha s_nil hs) (fun R rd rs g => by
    cases rs with
    | cons r1 rr => cases rr; exact o_append R rd r1 g) hbase (by rw [hs]; rfl) hline hs rfl
end
end IRS

namespace IRS
open PySem PySem.Spec PyProof.Rows L2
/-! ### set(list of ints), its members told -/
section
variable {P : Program} {w : World} {A : Around} {E : Value → Shared → Prop} {s : Shared}
/-- the empty set, just made -/
abbrev neu (w : World) : Obj := { cls := .type "set", dict := none, data := .set #[] 0 (.fresh 0 0 (!w.params.followText "set-order")) }
theorem set_of_list {l : Addr} {its : Array Value} (ns : List Int) {Q : Value → Shared → Prop} (calm : A.handled = none) (isL : s.heap.IsList l its) (hin : IntsAre its.toList ns) (few : ns.length + 1 < scanBound)
    (fin : ∀ (g : Heap) (tk c : Nat), SetR w g s.heap.objs.size (fun j => decide (j ∈ ns)) c → c ≤ ns.length → (∀ b o, s.heap.get? b = some o → g.get? b = some o) → Q (.ref s.heap.objs.size) { s with heap := g, toks := tk }) :
    wpAny (model P w) A (call (.type "set") [.ref l]) Q E s := by
  have size : its.size = ns.length := by rw [← Array.length_toList]; exact hin.length
  obtain ⟨m1, m2, mro⟩ := F.called_set.mro; have made := F.called_set.made; have sub0 := F.called_set.sub; have ty0 := F.called_set.notType; have mk0 := F.called_set.canCreate; have ok0 := F.typeCall_set_1 (.ref l)
  refine wpAny_call (codeAny_of_tree (show wpAny _ _ (callAny (.type "set") _) _ _ _ from wpAny_pure ⟨Code.quiet_builtin _ (by decide +kernel), codeAny_builtin F.entry_type_call ?_⟩)); rw [Around.under_plain (weight_type_call_type "set" [.ref l] []) rfl]
  repeat any_goals first | assumption | wp_step
  refine codeAny_mono (code_set_led1 (.ref l) (E := E) (Q₁ := fun ob s1 => ob = .ref s.heap.objs.size ∧ s1 = { s with heap := s.heap.push (neu w) }) ⟨rfl, rfl⟩) fun r s1 hr => ?_
  rcases r with er | fl
  · exact hr
  rcases fl with _ | _ | _ | _
  all_goals first | exact False.elim hr | skip
  obtain ⟨rfl, rfl⟩ := hr
  have at0 : (s.heap.push (neu w)).get? s.heap.objs.size = some (neu w) := Heap.get?_push_size _ rfl
  have isS : Shared.TypeIs { s with heap := s.heap.push (neu w) } (.ref s.heap.objs.size) "set" := ⟨_, at0, rfl⟩
  have in1 := F.called_set.init.lookup; have in2 := F.called_set.init.bind (.ref s.heap.objs.size)
  repeat any_goals first | assumption | wp_step
  -- how set.__init__ ends
  refine codeAny_mono (codeAny_call_builtin (R := wants (fun v z => v = .none ∧ ∃ g tk c, z = { s with heap := g, toks := tk } ∧ SetR w g s.heap.objs.size (fun j => decide (j ∈ ns)) c ∧ c ≤ ns.length ∧ ∀ b o, s.heap.get? b = some o → g.get? b = some o) E) F.called_set.init.plain F.entry_set_init (check_set_init_1 isS ?_)) fun r2 s2 z => ?_
  rotate_left
  · rcases r2 with er | fl
    · exact z
    rcases fl with _ | _ | _ | v2
    all_goals first | exact False.elim z | skip
    obtain ⟨rfl, g, tk, c, rfl, q1, q2, q3⟩ := z
    repeat any_goals first | assumption | wp_step
    exact fin _ _ _ q1 q2 q3
  · have isL1 : (s.heap.push (neu w)).IsList l its := isL.push _
    obtain ⟨⟨cl, dd, dt, sl⟩, gl, hcl, ml, hdt⟩ := isL
    dsimp only at hcl hdt
    subst hcl hdt
    have gl1 := Heap.get?_push_of_some (neu w) gl
    have sl1 := F.sub_list_set; have sl2 := F.sub_list_frozenset
    have nd : (Value.type "list" == Value.type "dict") = false := by decide
    have low : l < s.heap.objs.size := Heap.lt_size gl
    have size1 : (s.heap.push (neu w)).objs.size = s.heap.objs.size + 1 := Heap.size_push ..
    unfold Builtin.«set.__init__» noKeywords Builtin.Frozenset.updateFrom
    generalize eit : pyIter = it0
    wp_walk
    subst eit
    refine wpAny_pyIter_list isL1 (wpAny_bind (wpAny_runValue ?_))
    have step : ∀ (i : Nat) (v : Value), its[i]? = some v → ∃ k t, ns[i]? = some k ∧ v = .int k t := fun i v hv => by
      have hi : i < ns.length := size ▸ (Array.getElem?_eq_some_iff.mp hv).1
      obtain ⟨t, e⟩ := hin.int_at i v (by rw [Array.getElem?_toList]; exact hv)
      exact ⟨ns[i], t, List.getElem?_eq_getElem hi, by rw [e, List.getD_eq_getElem?_getD, List.getElem?_eq_getElem hi]; rfl⟩
    have far : l ≠ (s.heap.push (neu w)).objs.size := by rw [size1]; exact Nat.ne_of_lt (Nat.lt_succ_of_lt low)
    have out1 : s.heap.objs.size ∉ [(s.heap.push (neu w)).objs.size, l] := fun hm => by
      rcases List.mem_cons.mp hm with e | e
      · rw [size1] at e; exact Nat.ne_of_lt (Nat.lt_succ_self _) e
      · exact Nat.ne_of_gt low (List.mem_singleton.mp e)
    refine set_update_ints ((Walks.list (by simp [calm]) _ l far its).toS) s.heap.objs.size out1 ns size few step its.size 0 _ (by omega) (Nat.zero_le _) ⟨⟨_, Heap.get?_push_size _ rfl, rfl, rfl⟩, isL1.push _⟩ ⟨0, Nat.le_refl 0, setR_new_at (Heap.get?_push_of_some _ at0)⟩ ?_
    rintro ⟨g, gg, dr, tk, os⟩ c mv hc q
    have z1 : gg = s.gens := mv.gens; have z2 : dr = s.drawn := mv.drawn; have z3 : os = s.os := mv.os
    subst z1 z2 z3
    refine wpAny_pure (show wpAny _ _ (ret Value.none) _ _ _ from wpAny_pure ⟨rfl, g, tk, c, rfl, q, size ▸ hc, fun b o e => ?_⟩)
    have lb := Heap.lt_size e
    have out2 : b ∉ [s.heap.objs.size, (s.heap.push (neu w)).objs.size] := fun hm => by
      rcases List.mem_cons.mp hm with e | e
      · exact Nat.ne_of_lt lb e
      · exact Nat.ne_of_lt (Nat.lt_succ_of_lt lb) ((List.mem_singleton.mp e).trans size1)
    exact mv.heap b o out2 (Heap.get?_push_of_some _ (Heap.get?_push_of_some _ e))
theorem set_of_tuple {l : Addr} {its : Array Value} (ns : List Int) {Q : Value → Shared → Prop} (calm : A.handled = none) (isL : s.heap.IsTuple l its) (hin : IntsAre its.toList ns) (few : ns.length + 1 < scanBound)
    (fin : ∀ (g : Heap) (tk c : Nat), SetR w g s.heap.objs.size (fun j => decide (j ∈ ns)) c → c ≤ ns.length → (∀ b o, s.heap.get? b = some o → g.get? b = some o) → Q (.ref s.heap.objs.size) { s with heap := g, toks := tk }) :
    wpAny (model P w) A (call (.type "set") [.ref l]) Q E s := by
  have size : its.size = ns.length := by rw [← Array.length_toList]; exact hin.length
  obtain ⟨m1, m2, mro⟩ := F.called_set.mro; have made := F.called_set.made; have sub0 := F.called_set.sub; have ty0 := F.called_set.notType; have mk0 := F.called_set.canCreate; have ok0 := F.typeCall_set_1 (.ref l)
  refine wpAny_call (codeAny_of_tree (show wpAny _ _ (callAny (.type "set") _) _ _ _ from wpAny_pure ⟨Code.quiet_builtin _ (by decide +kernel), codeAny_builtin F.entry_type_call ?_⟩)); rw [Around.under_plain (weight_type_call_type "set" [.ref l] []) rfl]
  repeat any_goals first | assumption | wp_step
  refine codeAny_mono (code_set_led1 (.ref l) (E := E) (Q₁ := fun ob s1 => ob = .ref s.heap.objs.size ∧ s1 = { s with heap := s.heap.push (neu w) }) ⟨rfl, rfl⟩) fun r s1 hr => ?_
  rcases r with er | fl
  · exact hr
  rcases fl with _ | _ | _ | _
  all_goals first | exact False.elim hr | skip
  obtain ⟨rfl, rfl⟩ := hr
  have at0 : (s.heap.push (neu w)).get? s.heap.objs.size = some (neu w) := Heap.get?_push_size _ rfl
  have isS : Shared.TypeIs { s with heap := s.heap.push (neu w) } (.ref s.heap.objs.size) "set" := ⟨_, at0, rfl⟩
  have in1 := F.called_set.init.lookup; have in2 := F.called_set.init.bind (.ref s.heap.objs.size)
  repeat any_goals first | assumption | wp_step
  -- how set.__init__ ends
  refine codeAny_mono (codeAny_call_builtin (R := wants (fun v z => v = .none ∧ ∃ g tk c, z = { s with heap := g, toks := tk } ∧ SetR w g s.heap.objs.size (fun j => decide (j ∈ ns)) c ∧ c ≤ ns.length ∧ ∀ b o, s.heap.get? b = some o → g.get? b = some o) E) F.called_set.init.plain F.entry_set_init (check_set_init_1 isS ?_)) fun r2 s2 z => ?_
  rotate_left
  · rcases r2 with er | fl
    · exact z
    rcases fl with _ | _ | _ | v2
    all_goals first | exact False.elim z | skip
    obtain ⟨rfl, g, tk, c, rfl, q1, q2, q3⟩ := z
    repeat any_goals first | assumption | wp_step
    exact fin _ _ _ q1 q2 q3
  · have isL1 : (s.heap.push (neu w)).IsTuple l its := isL.push _
    obtain ⟨⟨cl, dd, dt, sl⟩, gl, hcl, ml, hdt⟩ := isL
    dsimp only at hcl hdt
    subst hcl hdt
    have gl1 := Heap.get?_push_of_some (neu w) gl
    have sl1 := F.sub_tuple_set; have sl2 := F.sub_tuple_frozenset
    have nd : (Value.type "tuple" == Value.type "dict") = false := by decide
    have low : l < s.heap.objs.size := Heap.lt_size gl
    have size1 : (s.heap.push (neu w)).objs.size = s.heap.objs.size + 1 := Heap.size_push ..
    unfold Builtin.«set.__init__» noKeywords Builtin.Frozenset.updateFrom
    generalize eit : pyIter = it0
    wp_walk
    subst eit
    refine wpAny_pyIter_tuple isL1 (wpAny_bind (wpAny_runValue ?_))
    have step : ∀ (i : Nat) (v : Value), its[i]? = some v → ∃ k t, ns[i]? = some k ∧ v = .int k t := fun i v hv => by
      have hi : i < ns.length := size ▸ (Array.getElem?_eq_some_iff.mp hv).1
      obtain ⟨t, e⟩ := hin.int_at i v (by rw [Array.getElem?_toList]; exact hv)
      exact ⟨ns[i], t, List.getElem?_eq_getElem hi, by rw [e, List.getD_eq_getElem?_getD, List.getElem?_eq_getElem hi]; rfl⟩
    have far : l ≠ (s.heap.push (neu w)).objs.size := by rw [size1]; exact Nat.ne_of_lt (Nat.lt_succ_of_lt low)
    have out1 : s.heap.objs.size ∉ [(s.heap.push (neu w)).objs.size, l] := fun hm => by
      rcases List.mem_cons.mp hm with e | e
      · rw [size1] at e; exact Nat.ne_of_lt (Nat.lt_succ_self _) e
      · exact Nat.ne_of_gt low (List.mem_singleton.mp e)
    refine set_update_ints ((Walks.tuple (by simp [calm]) _ l far its).toS) s.heap.objs.size out1 ns size few step its.size 0 _ (by omega) (Nat.zero_le _) ⟨⟨_, Heap.get?_push_size _ rfl, rfl, rfl⟩, isL1.push _⟩ ⟨0, Nat.le_refl 0, setR_new_at (Heap.get?_push_of_some _ at0)⟩ ?_
    rintro ⟨g, gg, dr, tk, os⟩ c mv hc q
    have z1 : gg = s.gens := mv.gens; have z2 : dr = s.drawn := mv.drawn; have z3 : os = s.os := mv.os
    subst z1 z2 z3
    refine wpAny_pure (show wpAny _ _ (ret Value.none) _ _ _ from wpAny_pure ⟨rfl, g, tk, c, rfl, q, size ▸ hc, fun b o e => ?_⟩)
    have lb := Heap.lt_size e
    have out2 : b ∉ [s.heap.objs.size, (s.heap.push (neu w)).objs.size] := fun hm => by
      rcases List.mem_cons.mp hm with e | e
      · exact Nat.ne_of_lt lb e
      · exact Nat.ne_of_lt (Nat.lt_succ_of_lt lb) ((List.mem_singleton.mp e).trans size1)
    exact mv.heap b o out2 (Heap.get?_push_of_some _ (Heap.get?_push_of_some _ e))
end
end IRS

namespace IRS
open PySem PySem.Spec PyProof.Rows L2
/-! ### sorted(set(list of ints)) -/
theorem insS_mem {x k : Int} : ∀ {l : List Int}, k ∈ IR.insS x l ↔ k = x ∨ k ∈ l
  | [] => by simp [IR.insS]
  | y :: r => by
    unfold IR.insS
    split
    · simp
    · split
      · rename_i h; subst h; simp
      · simp only [List.mem_cons, insS_mem (l := r)]
        constructor
        · rintro (h | h | h)
          · exact .inr (.inl h)
          · exact .inl h
          · exact .inr (.inr h)
        · rintro (h | h | h)
          · exact .inr (.inl h)
          · exact .inl h
          · exact .inr (.inr h)
theorem insS_rise {x : Int} : ∀ {l : List Int}, l.Pairwise (· < ·) → (IR.insS x l).Pairwise (· < ·)
  | [], _ => by simp [IR.insS]
  | y :: r, h => by
    have h' := List.pairwise_cons.mp h
    unfold IR.insS
    split
    · rename_i hx
      refine List.pairwise_cons.mpr ⟨fun z hz => ?_, h⟩
      rcases List.mem_cons.mp hz with e | e
      · rw [e]; exact hx
      · exact Int.lt_trans hx (h'.1 z e)
    · split
      · exact h
      · rename_i h1 h2
        refine List.pairwise_cons.mpr ⟨fun z hz => ?_, insS_rise h'.2⟩
        rcases insS_mem.mp hz with e | e
        · rw [e]; omega
        · exact h'.1 z e
theorem setOf_mem {k : Int} : ∀ {l : List Int}, k ∈ IR.setOf l ↔ k ∈ l
  | [] => by simp [IR.setOf]
  | x :: r => by rw [IR.setOf, insS_mem, setOf_mem (l := r), List.mem_cons]
theorem setOf_rise : ∀ {l : List Int}, (IR.setOf l).Pairwise (· < ·)
  | [] => .nil
  | x :: r => insS_rise setOf_rise
theorem rise_eq : ∀ {l m : List Int}, l.Pairwise (· < ·) → m.Pairwise (· < ·) → (∀ k, k ∈ l ↔ k ∈ m) → l = m
  | [], [], _, _, _ => rfl
  | [], y :: m, _, _, h => absurd ((h y).mpr List.mem_cons_self) (by simp)
  | x :: l, [], _, _, h => absurd ((h x).mp List.mem_cons_self) (by simp)
  | x :: l, y :: m, hl, hm, h => by
    have h1 := List.pairwise_cons.mp hl
    have h2 := List.pairwise_cons.mp hm
    have e : x = y := by
      rcases List.mem_cons.mp ((h x).mp List.mem_cons_self) with e | e
      · exact e
      · rcases List.mem_cons.mp ((h y).mpr List.mem_cons_self) with e2 | e2
        · exact e2.symm
        · have := h2.1 x e; have := h1.1 y e2; omega
    subst e
    rw [rise_eq h1.2 h2.2 fun k => ?_]
    constructor
    · intro hk
      rcases List.mem_cons.mp ((h k).mp (List.mem_cons_of_mem _ hk)) with e | e
      · have := h1.1 k hk; omega
      · exact e
    · intro hk
      rcases List.mem_cons.mp ((h k).mpr (List.mem_cons_of_mem _ hk)) with e | e
      · have := h2.1 k hk; omega
      · exact e
section
variable {D : Wd} {X : Cx} {c : Ctx} {k : Nat} {F : Fm} {pos p p2 p3 : Pos} {a : Expr} {call : Nat → List IR.D → IR.M IR.D} {x : IR.E}
theorem e_sortedSet (C : Cm D X c k F) (hg : c.sc.names.lookup ("sorted" : Str) = some .globalImplicit) (hm : D.mg "sorted" = none) (hg2 : c.sc.names.lookup ("set" : Str) = some .globalImplicit) (hm2 : D.mg "set" = none) (ha : PE X a (tV D F call x)) (hs : A1 a X) (hh : c.hot = false := by rfl) :
    PE X (.Call (.Name "sorted" p) [.Call (.Name "set" p2) [a] [] p3] [] pos) (tV D F call (.op .sortedSet (.cons false x .nil))) := by
  refine ⟨fun pins s σ H Q I q => ?_⟩
  obtain ⟨μ, S, ρ, hI, R, hρ, g⟩ := q
  have g : GV D.N F μ H (((IR.evs D.g call (.cons false x .nil) ρ).bind fun l => IR.evOp .sortedSet l) S) Q := g
  rw [evs1] at g
  have h : tV D F call x σ H fun v H1 => ∃ (l : Addr) (ns : List Int), v = .ref l ∧ (SqL X.K H1 l (ns.map V.int) ∨ SqT X.K H1 l (ns.map V.int)) ∧ ns.length < 64 ∧ ∀ q, H1 q = none → Q (.ref q) (upd H1 q (.lst ((IR.setOf ns).map V.int))) :=
    one (f := fun a => IR.evOp .sortedSet [a]) hI R hρ g fun μ2 S2 H2 d d' R2 rd g2 => by
      obtain ⟨r, hr, g3⟩ := GV.val1 g2
      obtain ⟨l, hl, hr⟩ := Option.bind_eq_some_iff.mp hr
      obtain ⟨is, his, hr⟩ := Option.bind_eq_some_iff.mp hr
      split at hr
      · rename_i h64
        cases hr
        obtain ⟨ad, vs, rfl, hq, rs⟩ := seq_of R2 rd hl
        have e := ints_of his rs
        subst e
        exact ⟨ad, is, rfl, by rw [C.K]; exact hq, h64, GV.newL R2 g3 Reps.ints⟩
      · cases hr
  refine Call_ (ld_blt I (C.gl hg) (C.mgn hm) boot_sorted ?_)
  refine callWith_builtin1 (args_cons ?_ rfl) rfl rfl
  refine Call_ (ld_blt I (C.gl hg2) (C.mgn hm2) boot_set ?_)
  refine callWith_type1 (args_cons (thn (ha.run pins s σ H _ I h) fun v s1 ⟨y, H1, I1, r1, q1⟩ => args_nil ?_) hs) hs rfl
  obtain ⟨l, ns, rfl, hq, h64, q1⟩ := q1
  cases r1
  have fin : ∀ (h' : Heap) (tk cc : Nat), SetR X.w h' s1.heap.objs.size (fun j => decide (j ∈ ns)) cc → cc ≤ ns.length → (∀ b o, s1.heap.get? b = some o → h'.get? b = some o) →
      wpAny (model X.prog X.w) X.A (PySem.call (.builtin "sorted") [.ref s1.heap.objs.size]) (EP X pins σ Q) X.xe { s1 with heap := h', toks := tk } := fun h' tk cc hS hc hk => by
    have I2 : Inv X pins σ H1 { s1 with heap := h', toks := tk } := I1.kept fun b o e => hk b o e
    refine sorted_set (s := { s1 with heap := h', toks := tk }) hS (I1.ok.hd (C.calm hh)) (by omega) fun s' q out c' ms keep ge oe hq2 hg3 hi hso hme hle => ?_
    have ems : ms = IR.setOf ns := rise_eq hso setOf_rise fun k => by rw [hme k, setOf_mem]; simp
    subst ems
    have hlen : ((IR.setOf ns).map V.int).length ≤ sizeLine := by rw [List.length_map, hle, sizeLine_eq]; omega
    have hn : H1 q = none := I2.hok.fresh hq2
    obtain ⟨g', gn, dr, tk', os⟩ := s'
    have z1 : gn = s1.gens := ge
    have z2 : os = s1.os := oe
    subst z1 z2
    have J : Inv X pins σ (upd H1 q (.lst ((IR.setOf ns).map V.int))) { ({ s1 with heap := h', toks := tk } : Shared) with heap := g', gens := s1.gens, drawn := dr, toks := tk' } :=
      I2.call (ch := []) (Un.laid keep hq2 hn) (I2.hok.laid keep hq2 ⟨hlen, out.toList, c', vals_of_ints hi, hg3⟩) I2.bare (fun _ z => nomatch z)
    exact ⟨.ref q, _, J, rfl, q1 q hn⟩

  rcases hq with hq | hq
  · obtain ⟨its, r, pl, hz⟩ := I1.list hq
    exact set_of_list ns (I1.ok.hd (C.calm hh)) pl.isList (intsAre_of r) (by unfold scanBound; omega) fun h' tk cc hS hc hk => args_nil (fin h' tk cc hS hc hk)
  · obtain ⟨its, r, pl, hz⟩ := I1.tuple hq
    exact set_of_tuple ns (I1.ok.hd (C.calm hh)) (show s1.heap.IsTuple l its.toArray from pl) (intsAre_of r) (by unfold scanBound; omega) fun h' tk cc hS hc hk => args_nil (fin h' tk cc hS hc hk)
end
end IRS

namespace IRS
open PySem PySem.Spec PyProof.Rows PySem.W L2 DT L2.DX
/-! sorted(d.items()), the keys whole numbers -/
section
variable {prog : Program} {w : World} {A : Around} {E : Value → Shared → Prop} {s : Shared}
/-- v is a pair of this number and u -/
def PairN (h : Heap) (v : Value) (n : Int) (u : Value) : Prop := ∃ (a : Addr) (t : Tok), v = .ref a ∧ IsTup h a #[.int n t, u]
def numOf : Option Value → Int
  | some (.int n _) => n
  | _ => 0
def keyD : Data → Int
  | .seq xs _ => numOf xs[0]?
  | _ => 0
/-- the first item of a pair, a number -/
def keyN (h : Heap) : Value → Int
  | .ref a => (match h.get? a with | some o => keyD o.data | none => 0)
  | _ => 0
theorem PairN.key {h : Heap} {v u : Value} {n : Int} (x : PairN h v n u) : keyN h v = n := by
  obtain ⟨a, t, rfl, ⟨o, ho, hc, k, hd⟩⟩ := x
  show (match h.get? a with | some o => keyD o.data | none => 0) = n
  rw [ho]
  show keyD o.data = n
  rw [hd]
  rfl
theorem firstsN {h : Heap} : ∀ vs : List Value, (∀ v ∈ vs, ∃ n u, PairN h v n u) → ∃ fs : List Value, KatTups h vs fs ∧ fs.length = vs.length ∧ ∀ f ∈ fs, ∃ n t, f = Value.int n t
  | [], _ => ⟨[], KatTups.nil, rfl, fun f hf => by simp at hf⟩
  | v :: vs, x => by
    obtain ⟨fs, k, hl, hi⟩ := firstsN vs fun u hu => x u (List.mem_cons_of_mem _ hu)
    obtain ⟨n, u, a, t, rfl, ⟨o, ho, hc, m, hd⟩⟩ := x v (List.mem_cons_self ..)
    refine ⟨.int n t :: fs, KatTups.cons ho hc hd rfl k, by rw [List.length_cons, List.length_cons, hl], fun f hf => ?_⟩
    rcases List.mem_cons.mp hf with rfl | hf
    · exact ⟨n, t, rfl⟩
    · exact hi f hf
theorem eqBool_self {v : Value} {Q : Bool → Shared → Prop} (h : Q true s) : wpAny (model prog w) A (eqBool v v) Q E s := by
  unfold eqBool
  refine wpAny_holding ?_
  rw [if_pos (beq_self_eq_true v)]
  exact wpAny_bind (wpAny_rule (wpAny_pure h))
theorem kind_n {vs : List Value} (h2 : 2 ≤ vs.length) (x : ∀ v ∈ vs, ∃ n u, PairN s.heap v n u) (one : ∀ v ∈ vs, ∀ u ∈ vs, keyN s.heap v = keyN s.heap u → v = u) (Q : SortKind → Shared → Prop)
    (h : ∀ κ, TS.Cmp prog w A s κ (pairsOf vs) (fun v => keyN s.heap v) → Q κ s) : wpAny (model prog w) A (keyKind' vs.toArray) Q E s := by
  obtain ⟨fs, k, hl, hi⟩ := firstsN vs x
  refine kat_kind (T := Value.type "int") k (by omega) (fun f hf => ?_) rfl (h _ ?_)
  · obtain ⟨n, t, rfl⟩ := hi f hf
    exact .now
  · intro p q hp hq Q' E' hQ
    rw [pairsOf_toList] at hp hq
    have mp := (mem_zip_self hp).2
    have mq := (mem_zip_self hq).2
    obtain ⟨n, u, pn⟩ := x _ mp
    obtain ⟨m, v, pm⟩ := x _ mq
    have on := one _ mp _ mq
    have hQ' : Q' (decide (n < m)) s := by
      have z : Q' (decide (keyN s.heap p.1 < keyN s.heap q.1)) s := hQ
      rw [pn.key, pm.key] at z
      exact z
    rw [pn.key, pm.key] at on
    obtain ⟨a, t, e1, ⟨o, ho, hc, k1, hd⟩⟩ := pn
    obtain ⟨a', t', e2, ⟨o', ho', hc', k2, hd'⟩⟩ := pm
    rw [e1, e2]
    rw [e1, e2] at on
    refine kat_lt ho hd ho' hd' ?_
    show KatLex prog w A _ (decide (2 < 2)) Q' [(Value.int n t, Value.int m t'), (u, v)] 0 s
    by_cases e : n = m
    · have eaa : Value.ref a = .ref a' := on e
      injection eaa with eaa
      subst eaa
      rw [ho] at ho'
      injection ho' with ho'
      subst ho'
      rw [hd] at hd'
      injection hd' with hd' _
      have hxs : [Value.int n t, u] = [Value.int m t', v] := by
        have := congrArg Array.toList hd'
        simpa using this
      have e4 : u = v := by simp at hxs; exact hxs.2
      subst e4
      have irr : decide (n < m) = false := by simp [e]
      rw [irr] at hQ'
      refine kat_cons (wpAny_eqBool_int ?_)
      have e5 : (n == m) = true := by simp [e]
      rw [e5]
      refine kat_yes (kat_cons (eqBool_self ?_))
      exact kat_yes (kat_nil hQ')
    · refine kat_cons (wpAny_eqBool_int ?_)
      have e5 : (n == m) = false := by simp [e]
      rw [e5]
      refine kat_no ?_
      exact TS.oneLt_ints _ hQ'
end
abbrev entN (e : Int × Addr) : Key × V := (Sum.inl e.1, V.ref e.2)
/-- keys are numbers, values objects -/
def rSortN : List V → Hp → VK → Prop := fun vs H Q => ∃ (p a : Addr) (ks : List (Int × Addr)), vs = [.ref p] ∧ H p = some (itemsO p a) ∧ H a = some (.dK (ks.map entN)) ∧ ks.length < 64 ∧
  ∀ (H' : Hp) (l : Addr) (ps : List (Addr × Int × Addr)), (∀ b o, H b = some o → H' b = some o) → H l = none → (ps.map (·.2)).Perm ks → (ks.map (·.1)).Nodup → (ps.map (·.2)).Pairwise (fun e f => e.1 ≤ f.1) → H' l = some (.lst (ps.map fun z => V.ref z.1)) →
    (∀ z ∈ ps, H' z.1 = some (.tup [.int z.2.1, .ref z.2.2])) → Q (.ref l) H'
theorem nodup_lift {α β : Type} {f : α → β} : ∀ {l : List α}, (l.map f).Nodup → ∀ x ∈ l, ∀ y ∈ l, f x = f y → x = y
  | [], _, x, hx, _, _, _ => by simp at hx
  | z :: r, h, x, hx, y, hy, e => by
    rw [List.map_cons, List.nodup_cons] at h
    rcases List.mem_cons.mp hx with h1 | h1
    · rcases List.mem_cons.mp hy with h2 | h2
      · rw [h1, h2]
      · exact absurd (List.mem_map.mpr ⟨y, h2, by rw [← e, h1]⟩) h.1
    · rcases List.mem_cons.mp hy with h2 | h2
      · exact absurd (List.mem_map.mpr ⟨x, h1, by rw [e, h2]⟩) h.1
      · exact nodup_lift h.2 x h1 y h2 e
theorem pairs_at {κ : Type} [DecidableEq κ] {P : Program} {w : World} {knd : KeyKind P w κ} : ∀ {es : List DictEntry} {vs : List (κ × Value)} {j : Nat} {en : DictEntry}, Pairs knd es vs → es[j]? = some en → ∃ kv, vs[j]? = some kv ∧ knd.is kv.1 en.key = true ∧ en.val = kv.2
  | _, _, j, _, .nil, h => by simp at h
  | _, _, 0, _, .cons (kv := kv) a b _, h => by
    simp only [List.getElem?_cons_zero] at h
    cases h
    exact ⟨kv, rfl, a, b⟩
  | _, _, j + 1, _, .cons _ _ r, h => by
    simp only [List.getElem?_cons_succ] at h ⊢
    exact pairs_at r h
theorem pairs_len {κ : Type} [DecidableEq κ] {P : Program} {w : World} {knd : KeyKind P w κ} : ∀ {es : List DictEntry} {vs : List (κ × Value)}, Pairs knd es vs → es.length = vs.length
  | _, _, .nil => rfl
  | _, _, .cons _ _ r => by simp [pairs_len r]
theorem kv_keys {κ : Type} : ∀ {l : List (κ × V)} {m : List (κ × Value)}, KV l m → m.map (·.1) = l.map (·.1)
  | _, _, .nil => rfl
  | _, _, .cons h t => by
    have ih := kv_keys t
    rw [List.map_cons, List.map_cons, ih, h.1]
theorem cr_sortN {X : Cx} (hc : X.calm = true) : CallR X (.builtin "sorted") rSortN := by
  intro pins s σ H xs us Q I r h
  obtain ⟨p, a, ks, rfl, hp, ha, h64, q⟩ := h
  obtain rfl := Vals.ref1 r
  have view : s.heap.IsItemsView p a := (show ObjOk X.prog X.w H s.heap p (itemsO p a) from I.hok p _ hp).1
  obtain ⟨z, hd, vs, rel, o, es, ep, ho, hx, hdat, hko, hes, hnd⟩ := dk_of I.hok ha
  have l1 : (ks.map entN).length = vs.length := Paired.length rel
  rw [List.length_map] at l1
  have l2 : es.size = vs.length := by
    have := pairs_len hes
    simpa using this
  have hh : X.A.handled = none := I.ok.hd hc
  have hnk : (ks.map (·.1)).Nodup := by
    rw [kv_keys rel, List.map_map] at hnd
    have e : ks.map ((·.1) ∘ entN) = (ks.map (·.1)).map Sum.inl := by rw [List.map_map]; rfl
    rw [e] at hnd
    exact List.Pairwise.of_map Sum.inl (fun a b h e => h (by rw [e])) hnd
  refine DT.sortedI (es := es) (ep := ep) hh view ⟨o, ho, hx, hdat⟩ (by rw [sizeLine_eq]; omega) fun h' tk as hk hlt hl hG => ?_
  have lak : as.length = ks.length := by omega
  have nd : as.Nodup := List.Pairwise.imp (fun h => Nat.ne_of_lt h) hG.rise
  have pr : ∀ (j : Nat) (b : Addr), as[j]? = some b → ∃ (e : Int × Addr) (t : Tok), ks[j]? = some e ∧ h'.get? b = some { cls := .type "tuple", data := .seq #[Value.int e.1 t, Value.ref e.2] } := by
    intro j b hj
    obtain ⟨en, he, hg⟩ := hG.pairs j b hj
    obtain ⟨kv, hkv, hi, hv⟩ := pairs_at hes (j := j) (en := en) (by simpa using he)
    obtain ⟨e0, he0, r1, r2⟩ := pget rel hkv
    rw [List.getElem?_map] at he0
    cases hkj : ks[j]? with
    | none => rw [hkj] at he0; exact nomatch (show (none : Option (Key × V)) = some e0 from he0)
    | some e =>
      rw [hkj] at he0
      have ee : entN e = e0 := Option.some.inj he0
      rw [← ee] at r1 r2
      have r2' : kv.2 = Value.ref e.2 := r2
      have hi' : keyIs kv.1 en.key = true := hi
      rw [← r1] at hi'
      obtain ⟨t, ht⟩ : ∃ t, en.key = Value.int e.1 t := by
        rcases keyIs_shape hi' with ⟨i, t, h1, h2⟩ | ⟨x, t, h1, h2⟩
        · injection h1 with h1
          exact ⟨t, by rw [h2, h1]⟩
        · exact nomatch h1
      exact ⟨e, t, rfl, by rw [hg, ht, hv, r2']⟩
  -- the heap of the sort
  have hob : (h'.push { cls := .type "list", data := .seq (as.map Value.ref).toArray }).get? h'.objs.size = some (seqObj "list" (as.map Value.ref).toArray 0) := Heap.get?_push_size _ rfl
  have kb : ∀ b o, s.heap.get? b = some o → (h'.push { cls := .type "list", data := .seq (as.map Value.ref).toArray }).get? b = some o := fun b o e => Heap.get?_push_of_some _ (hk b o e)
  have ne0 : ∀ b o, h'.get? b = some o → b ≠ h'.objs.size := fun b o e => Nat.ne_of_lt (Heap.lt_size e)
  generalize hh2 : h'.push { cls := .type "list", data := .seq (as.map Value.ref).toArray } = h2 at hob kb ⊢
  have ka : ∀ b o, h'.get? b = some o → h2.get? b = some o := fun b o e => by rw [← hh2]; exact Heap.get?_push_of_some _ e
  have pin : ∀ (j : Nat) (b : Addr), as[j]? = some b → ∃ e : Int × Addr, ks[j]? = some e ∧ PairN (TS.midHeap h2 h'.objs.size (as.map Value.ref)) (.ref b) e.1 (.ref e.2) := by
    intro j b hj
    obtain ⟨e, t, he, hg⟩ := pr j b hj
    exact ⟨e, he, b, t, rfl, _, TS.midHeap_old (ne0 _ _ hg) (ka _ _ hg), rfl, 0, rfl⟩
  have tx : ∀ (j : Nat) (b : Addr) (e : Int × Addr), as[j]? = some b → ks[j]? = some e → keyN (TS.midHeap h2 h'.objs.size (as.map Value.ref)) (.ref b) = e.1 := by
    intro j b e hj he
    obtain ⟨e', he', hp'⟩ := pin j b hj
    have ee : e' = e := Option.some.inj (he'.symm.trans he)
    rw [← ee]
    exact hp'.key
  have at_ : ∀ v ∈ as.map Value.ref, ∃ (j : Nat) (b : Addr) (e : Int × Addr), v = .ref b ∧ as[j]? = some b ∧ ks[j]? = some e := by
    intro v hv'
    obtain ⟨b, hb, rfl⟩ := List.mem_map.mp hv'
    obtain ⟨j, hj⟩ := List.mem_iff_getElem?.mp hb
    obtain ⟨e, _, he, _⟩ := pr j b hj
    exact ⟨j, b, e, rfl, hj, he⟩
  refine wpAny_call_entry PyProof.Rows.slot_list_sort ⟨_, hob, rfl⟩ PyProof.Rows.entry_list_sort
    (SK.plain_sort (s := { s with heap := h2, toks := tk }) (r := fun v => keyN (TS.midHeap h2 h'.objs.size (as.map Value.ref)) v) hob (by rw [List.length_map]; omega) (fun h2' Qk hQk => ?_) fun ps out o1 o2 o3 => ⟨.none, rfl, ?_⟩) (PyProof.Rows.args_list_sort _)
  · refine kind_n (s := { s with heap := TS.midHeap h2 h'.objs.size (as.map Value.ref), toks := tk }) h2' (fun v hv' => ?_) (fun v hv' u hu' e => ?_) Qk hQk
    · obtain ⟨j, b, e, rfl, hj, he⟩ := at_ v hv'
      obtain ⟨e', _, hp'⟩ := pin j b hj
      exact ⟨_, _, hp'⟩
    · obtain ⟨j, b, e1, rfl, hj, he⟩ := at_ v hv'
      obtain ⟨j2, b2, e2, rfl, hj2, he2⟩ := at_ u hu'
      have z : e1.1 = e2.1 := by
        have := e
        rw [show keyN _ (.ref b) = e1.1 from tx j b e1 hj he, show keyN _ (.ref b2) = e2.1 from tx j2 b2 e2 hj2 he2] at this
        exact this
      have k1 : (ks.map (·.1))[j]? = some e1.1 := by rw [List.getElem?_map, he]; rfl
      have k2 : (ks.map (·.1))[j2]? = some e1.1 := by rw [List.getElem?_map, he2]; simp [z]
      have ej : j = j2 := (List.getElem?_inj (List.getElem?_eq_some_iff.mp k1).1 hnk).mp (k1.trans k2.symm)
      subst ej
      rw [hj] at hj2
      cases hj2
      rfl
  · show EP X pins σ Q (.ref h'.objs.size) { s with heap := sortedHeap h2 h'.objs.size (as.map Value.ref) out, toks := tk }
    obtain ⟨zs, pz, ez⟩ := perm_lift (fun z : Addr × Int × Addr => (Value.ref z.1, Value.ref z.1)) o2 (as.zip ks) (zip_self Value.ref as ks lak)
    have idx : ∀ z ∈ zs, ∃ j : Nat, as[j]? = some z.1 ∧ ks[j]? = some z.2 := by
      intro z' hz'
      obtain ⟨j, hj⟩ := List.mem_iff_getElem?.mp (pz.mem_iff.mp hz')
      exact ⟨j, List.getElem?_zip_eq_some.mp hj⟩
    have hout : out.toList = zs.map fun z => Value.ref z.1 := by
      rw [o1, ← ez, List.map_map]
      all_goals rfl
    have hperm : (zs.map (·.2)).Perm ks := by
      have e := pz.map (·.2)
      have m2 : (as.zip ks).map (·.2) = ks := List.map_snd_zip (by rw [lak]; exact Nat.le_refl _)
      rw [m2] at e
      exact e
    have hsort : (zs.map (·.2)).Pairwise (fun e f => e.1 ≤ f.1) := by
      rw [← ez, List.pairwise_map] at o3
      rw [List.pairwise_map]
      refine List.Pairwise.imp_of_mem (fun {x y} hx hy h => ?_) o3
      obtain ⟨j, j1, j2⟩ := idx x hx
      obtain ⟨i, i1, i2⟩ := idx y hy
      have h' : keyN (TS.midHeap h2 h'.objs.size (as.map Value.ref)) (.ref x.1) ≤ keyN (TS.midHeap h2 h'.objs.size (as.map Value.ref)) (.ref y.1) := h
      rw [tx j _ _ j1 j2, tx i _ _ i1 i2] at h'
      exact h'
    have kF : ∀ b o, b ≠ h'.objs.size → h2.get? b = some o → (sortedHeap h2 h'.objs.size (as.map Value.ref) out).get? b = some o := fun b o hb e => (PyProof.Rows.sortedHeap_old hb (Heap.lt_size e)).trans e
    have kS : ∀ b o, s.heap.get? b = some o → (sortedHeap h2 h'.objs.size (as.map Value.ref) out).get? b = some o := fun b o e => kF b o (ne0 _ _ (hk b o e)) (kb b o e)
    obtain ⟨eF, heF⟩ := PyProof.Rows.sortedHeap_at (vs := as.map Value.ref) (out := out) hob
    have I1 : Inv X pins σ H { s with heap := sortedHeap h2 h'.objs.size (as.map Value.ref) out, toks := tk } := I.kept (t' := tk) kS
    have hn0 : H h'.objs.size = none := I.hok.fresh (Nat.le_of_lt hlt)
    have hlen : (zs.map fun z => V.ref z.1).length ≤ sizeLine := by
      have e := hperm.length_eq
      rw [List.length_map] at e
      rw [List.length_map, sizeLine_eq]
      omega
    have rv : Vals (zs.map fun z => V.ref z.1) out.toList := by
      rw [hout]
      exact vals_maps (fun z : Addr × Int × Addr => V.ref z.1) (fun z => Value.ref z.1) zs fun _ _ => rfl
    have I2 : Inv X pins σ (upd H h'.objs.size (.lst (zs.map fun z => V.ref z.1))) { s with heap := sortedHeap h2 h'.objs.size (as.map Value.ref) out, toks := tk } :=
      I1.take (h' := sortedHeap h2 h'.objs.size (as.map Value.ref) out) (t' := tk) (fun b ob _ e => e) (I.fpOk (Nat.le_of_lt hlt) hn0) ⟨hlen, out.toList, eF, rv, heF⟩
    obtain ⟨H2, I3, g, qt⟩ := takeT (P := fun b vs => ∃ (j : Nat) (e : Int × Addr), as[j]? = some b ∧ ks[j]? = some e ∧ vs = [.int e.1, .ref e.2]) I as _ I2 nd fun b hb => by
      obtain ⟨j, hj⟩ := List.mem_iff_getElem?.mp hb
      obtain ⟨e, t, he, hg⟩ := pr j b hj
      have hbl : s.heap.objs.size ≤ b := Nat.le_of_lt (hG.above b hb)
      refine ⟨hbl, ?_, [.int e.1, .ref e.2], ⟨j, e, hj, he, rfl⟩, fun H3 => ⟨(by rw [sizeLine_eq]; show 2 ≤ 16777216; omega), [Value.int e.1 t, Value.ref e.2], .cons ⟨t, rfl⟩ (.cons rfl .nil), ⟨_, kF _ _ (ne0 _ _ hg) (ka _ _ hg), rfl, 0, rfl⟩⟩⟩
      rw [upd_ne (ne0 _ _ hg)]
      exact I.hok.fresh hbl
    have gr : ∀ b o, H b = some o → H2 b = some o := fun b o e => g b o (by rw [upd_ne (ne_of_none e hn0)]; exact e)
    refine ⟨.ref h'.objs.size, H2, I3, rfl, q H2 h'.objs.size zs gr hn0 hperm hnk hsort (g _ _ upd_same) fun z' hz' => ?_⟩
    obtain ⟨i, i1, i2⟩ := idx z' hz'
    obtain ⟨vs, ⟨j, e, j1, j2, ev⟩, hH⟩ := qt z'.1 (List.mem_of_getElem? i1)
    have eij : i = j := (List.getElem?_inj (List.getElem?_eq_some_iff.mp i1).1 nd).mp (i1.trans j1.symm)
    subst eij
    have ee : e = z'.2 := Option.some.inj (j2.symm.trans i2)
    rw [ev, ee] at hH
    exact hH
end IRS

namespace IRS
open PySem PySem.Spec PyProof.Rows L2
/-! ### sorting -/
theorem insBy_perm {α : Type} {le : α → α → Bool} {x : α} : ∀ {l : List α}, (IR.insBy le x l).Perm (x :: l)
  | [] => .refl _
  | y :: r => by
    unfold IR.insBy
    split
    · exact .refl _
    · exact ((insBy_perm (l := r)).cons y).trans (.swap x y r)
theorem sortBy_perm {α : Type} {le : α → α → Bool} : ∀ {l : List α}, (IR.sortBy le l).Perm l
  | [] => .refl _
  | x :: r => insBy_perm.trans (sortBy_perm.cons x)
theorem insBy_sorted {α : Type} {le : α → α → Bool} (tot : ∀ a b, le a b = true ∨ le b a = true) (tr : ∀ a b c, le a b = true → le b c = true → le a c = true) {x : α} : ∀ {l : List α}, l.Pairwise (fun a b => le a b = true) → (IR.insBy le x l).Pairwise (fun a b => le a b = true)
  | [], _ => by simp [IR.insBy]
  | y :: r, h => by
    obtain ⟨h1, h2⟩ := List.pairwise_cons.mp h
    unfold IR.insBy
    split
    · rename_i hx
      refine List.pairwise_cons.mpr ⟨fun z hz => ?_, h⟩
      rcases List.mem_cons.mp hz with rfl | hz
      · exact hx
      · exact tr _ _ _ hx (h1 z hz)
    · rename_i hx
      refine List.pairwise_cons.mpr ⟨fun z hz => ?_, insBy_sorted tot tr h2⟩
      rcases List.mem_cons.mp (insBy_perm.mem_iff.mp hz) with rfl | hz
      · rcases tot z y with h | h
        · exact absurd h hx
        · exact h
      · exact h1 z hz
theorem sortBy_sorted {α : Type} {le : α → α → Bool} (tot : ∀ a b, le a b = true ∨ le b a = true) (tr : ∀ a b c, le a b = true → le b c = true → le a c = true) : ∀ {l : List α}, (IR.sortBy le l).Pairwise (fun a b => le a b = true)
  | [] => .nil
  | _ :: _ => insBy_sorted tot tr (sortBy_sorted tot tr)
theorem sortI_eq {l m : List Int} (p : m.Perm l) (s : m.Pairwise (· ≤ ·)) : m = IR.sortBy IR.leI l := by
  refine List.Perm.eq_of_pairwise (le := fun a b : Int => a ≤ b) (fun a b _ _ h1 h2 => Int.le_antisymm h1 h2) s ?_ (p.trans sortBy_perm.symm)
  refine (sortBy_sorted (le := IR.leI) (fun a b => ?_) fun a b c => ?_).imp fun {a b} h => of_decide_eq_true h
  · simp only [IR.leI, decide_eq_true_eq]; omega
  · simp only [IR.leI, decide_eq_true_eq]; omega
/-- a list of pairs by a first number: one only, where the numbers are unlike -/
theorem sortN_eq {β : Type} {l m : List (Int × β)} (p : m.Perm l) (nd : (l.map (·.1)).Nodup) (s : m.Pairwise (fun a b => a.1 ≤ b.1)) : m = IR.sortBy (fun p q => decide (p.1 ≤ q.1)) l := by
  refine List.Perm.eq_of_pairwise (le := fun a b : Int × β => a.1 ≤ b.1) (fun a b ha hb h1 h2 => ?_) s ?_ (p.trans sortBy_perm.symm)
  · exact nodup_lift nd a (p.mem_iff.mp ha) b (sortBy_perm.mem_iff.mp hb) (Int.le_antisymm h1 h2)
  · refine (sortBy_sorted (le := fun p q : Int × β => decide (p.1 ≤ q.1)) (fun a b => ?_) fun a b c => ?_).imp fun {a b} h => of_decide_eq_true h
    · simp only [decide_eq_true_eq]; omega
    · simp only [decide_eq_true_eq]; omega
theorem sortBy_map {α β : Type} {f : α → β} {le : α → α → Bool} {le' : β → β → Bool} (h : ∀ a b, le' (f a) (f b) = le a b) : ∀ {l : List α}, IR.sortBy le' (l.map f) = (IR.sortBy le l).map f
  | [] => rfl
  | x :: r => by
    have e : ∀ {l : List α}, IR.insBy le' (f x) (l.map f) = (IR.insBy le x l).map f := fun {l} => by
      induction l with
      | nil => rfl
      | cons y r ih =>
        simp only [IR.insBy, List.map_cons, h]
        split
        · rfl
        · rw [ih]; rfl
    show IR.insBy le' (f x) (IR.sortBy le' (r.map f)) = _
    rw [sortBy_map h, e]
    rfl
section
variable {N : Nm} {W : Fm} {μ : List Addr} {S : IR.Sto} {H : Hp} {Q : VK} {a b : IR.D} {x y : V}
theorem Rel.grown {H' : Hp} (R : Rel N μ S H) (k : ∀ b o, H b = some o → H' b = some o) : Rel N μ S H' :=
  ⟨R.len, R.nd, fun i o a h1 h2 => by
    obtain ⟨u, e, _⟩ := R.mem_some (List.mem_of_getElem? h2)
    exact (R.ob i o a h1 h2).mono ⟨List.prefix_refl _, fun _ _ z => k _ _ z, fun _ _ _ z => k _ _ z, fun _ _ _ z => k _ _ z⟩ (by rw [e]; exact k _ _ e)⟩
theorem Ext.grown {H' : Hp} (k : ∀ b o, H b = some o → H' b = some o) : Ext μ H μ H' := ⟨List.prefix_refl _, fun _ z => .inl z, fun _ _ _ z => k _ _ z, fun _ _ z => k _ _ z, fun _ _ _ z => k _ _ z⟩
/-- a new list with new things in it -/
theorem GV.grownL {H' : Hp} {ds : List IR.D} {vs : List V} {l : Addr} (R : Rel N μ S H) (g : GV N W μ H (.ok (.tl ds) S) Q) (k : ∀ b o, H b = some o → H' b = some o) (hl : H l = none) (e : H' l = some (.lst vs)) (r : Reps N μ H' ds vs) : Q (.ref l) H' :=
  g μ H' (Ext.grown k) (R.grown k) (.ref l) ⟨l, vs, rfl, e, R.fresh hl, r⟩ fun _ a _ h => by cases h; exact hl
/-! sorted(d.items()) -/
theorem itN_of : ∀ {kvs : List (IR.Ky × IR.D)} {l : List (Int × IR.D)} {r : List (Key × V)}, kvs.mapM IR.itN1 = some l → KR N μ H kyK kvs r → ∃ ks : List (Int × Addr), r = ks.map entN ∧ ks.map (·.1) = l.map (·.1) ∧ ks.length = l.length ∧ ∀ (i : Nat) (p : Int × IR.D) (q : Int × Addr), l[i]? = some p → ks[i]? = some q → Rep N μ H p.2 (.ref q.2) ∧ ∀ t, p.2 ≠ .tl t
  | [], _, _, h, .nil => by cases h; exact ⟨[], rfl, rfl, rfl, fun i p q h => by simp at h⟩
  | (k, d) :: kvs, l, _, h, .cons (v := v) (r' := r') hd t => by
    rw [List.mapM_cons] at h
    obtain ⟨p0, h1, h2⟩ := Option.bind_eq_some_iff.mp h
    obtain ⟨l0, h3, h4⟩ := Option.bind_eq_some_iff.mp h2
    cases h4
    obtain ⟨ks, e1, e2, e3, e4⟩ := itN_of h3 t
    have fin : ∀ {i : Int} {a : Addr}, kyK k = .inl i → v = .ref a → p0 = (i, d) → (∀ t, d ≠ .tl t) → ∃ ks : List (Int × Addr), ((kyK k, v) :: r') = ks.map entN ∧ ks.map (·.1) = (p0 :: l0).map (·.1) ∧ ks.length = (p0 :: l0).length ∧ ∀ (i : Nat) (p : Int × IR.D) (q : Int × Addr), (p0 :: l0)[i]? = some p → ks[i]? = some q → Rep N μ H p.2 (.ref q.2) ∧ ∀ t, p.2 ≠ .tl t := by
      rintro i a hk rfl rfl nt
      refine ⟨(i, a) :: ks, by rw [e1, hk]; rfl, by simp [e2], by simp [e3], fun j p q h5 h6 => ?_⟩
      cases j with
      | zero => simp at h5 h6; subst h5; subst h6; exact ⟨hd, nt⟩
      | succ j => exact e4 j p q (by simpa using h5) (by simpa using h6)
    cases k with
    | inr t => cases d <;> simp [IR.itN1] at h1
    | inl i =>
      cases d <;> simp [IR.itN1] at h1
      · cases hd with
        | tup ha hb => exact fin rfl rfl h1.symm fun t z => nomatch z
      · cases hd with
        | ref ha => exact fin rfl rfl h1.symm fun t z => nomatch z
theorem Reps.pairs {H' : Hp} {k : (Int × IR.D) → (Addr × Int × Addr) → Prop} : ∀ {l : List (Int × IR.D)} {ps : List (Addr × Int × Addr)}, l.length = ps.length → (∀ (i : Nat) (p : Int × IR.D) (z : Addr × Int × Addr), l[i]? = some p → ps[i]? = some z → p.1 = z.2.1 ∧ Rep N μ H' p.2 (.ref z.2.2) ∧ H' z.1 = some (.tup [.int z.2.1, .ref z.2.2])) →
    Reps N μ H' (l.map fun p => .tup [.int p.1, p.2]) (ps.map fun z => V.ref z.1)
  | [], [], _, _ => .nil
  | [], _ :: _, h, _ => by simp at h
  | _ :: _, [], h, _ => by simp at h
  | p :: l, z :: ps, h, f => by
    obtain ⟨e, r, t⟩ := f 0 p z rfl rfl
    exact .cons (.tup t (by rw [e]; exact .cons (.int _) (.cons r .nil))) (Reps.pairs (k := k) (by simpa using h) fun i p z h1 h2 => f (i + 1) p z (by simpa using h1) (by simpa using h2))
theorem sort_pairs {α β : Type} {l : List (Int × α)} {ks : List (Int × β)} (h : l.length = ks.length) (hk : ks.map (·.1) = l.map (·.1)) (nd : (ks.map (·.1)).Nodup) {m : List (Int × β)} (p : m.Perm ks) (s : m.Pairwise (fun a b => a.1 ≤ b.1)) :
    ∃ z : List (Int × α × β), z.map (fun q => (q.1, q.2.1)) = IR.sortBy (fun p q : Int × α => decide (p.1 ≤ q.1)) l ∧ z.map (fun q => (q.1, q.2.2)) = m ∧ ∀ q ∈ z, ∃ i : Nat, l[i]? = some (q.1, q.2.1) ∧ ks[i]? = some (q.1, q.2.2) := by
  have hat : ∀ (i : Nat) (p : Int × α) (q : Int × β), l[i]? = some p → ks[i]? = some q → p.1 = q.1 := fun i p q h1 h2 => by
    have a1 : (ks.map (·.1))[i]? = some q.1 := by rw [List.getElem?_map, h2]; rfl
    have a2 : (l.map (·.1))[i]? = some p.1 := by rw [List.getElem?_map, h1]; rfl
    rw [hk, a2] at a1
    exact Option.some.inj a1
  let c : List (Int × α × β) := (l.zip ks).map fun z => (z.1.1, z.1.2, z.2.2)
  have c1 : c.map (fun q => (q.1, q.2.1)) = l := by
    rw [List.map_map]
    have : ((fun q : Int × α × β => (q.1, q.2.1)) ∘ fun z : (Int × α) × (Int × β) => (z.1.1, z.1.2, z.2.2)) = Prod.fst := by funext z; rfl
    rw [this]
    exact List.map_fst_zip (by omega)
  have c2 : c.map (fun q => (q.1, q.2.2)) = ks := by
    refine List.ext_getElem? fun i => ?_
    rw [List.map_map, List.getElem?_map]
    cases e1 : l[i]? with
    | none =>
      have e2 : ks[i]? = none := by rw [List.getElem?_eq_none_iff] at e1 ⊢; omega
      have e3 : (l.zip ks)[i]? = none := by rw [List.getElem?_eq_none_iff] at e1 ⊢; rw [List.length_zip]; omega
      rw [e2, e3]; rfl
    | some p =>
      have hi := (List.getElem?_eq_some_iff.mp e1).1
      have e2 : ks[i]? = some ks[i] := List.getElem?_eq_getElem (by omega)
      have e3 : (l.zip ks)[i]? = some (p, ks[i]) := List.getElem?_zip_eq_some.mpr ⟨e1, e2⟩
      rw [e2, e3]
      show some (p.1, ks[i].2) = some ks[i]
      rw [hat i p _ e1 e2]
  refine ⟨IR.sortBy (fun p q => decide (p.1 ≤ q.1)) c, ?_, ?_, fun q hq => ?_⟩
  · rw [← sortBy_map (f := fun q : Int × α × β => (q.1, q.2.1)) (le' := fun p q : Int × α => decide (p.1 ≤ q.1)) (fun _ _ => rfl), c1]
  · rw [← sortBy_map (f := fun q : Int × α × β => (q.1, q.2.2)) (le' := fun p q : Int × β => decide (p.1 ≤ q.1)) (fun _ _ => rfl), c2]
    exact (sortN_eq p nd s).symm
  · obtain ⟨i, hi⟩ := List.mem_iff_getElem?.mp (sortBy_perm.mem_iff.mp hq)
    refine ⟨i, ?_, ?_⟩
    · rw [← c1, List.getElem?_map, hi]; rfl
    · rw [← c2, List.getElem?_map, hi]; rfl
theorem o_sortedItems (R : Rel N μ S H) (ra : RepV N μ H a x) (g : GV N W μ H (IR.evOp .sortedItems [a] S) Q) : ∃ (p : Addr) (r : List (Key × V)), x = .ref p ∧ H p = some (.dK r) ∧ ∀ v, H v = none → rSortN [.ref v] (upd H v (DX.itemsO v p)) Q := by
  cases a <;> first | exact g.elim | skip
  rename_i n
  obtain ⟨p, rfl, hp⟩ := ra.ref
  have g : GV N W μ H (match S[n]? with
    | some (.dK false kvs) => IR.val1 ((IR.srtN kvs).map .tl) S
    | _ => .bad) Q := g
  split at g
  · rename_i kvs e
    obtain ⟨r, e1, kr⟩ := R.ob n _ p e hp
    refine ⟨p, r, rfl, e1, fun v hv => ?_⟩
    obtain ⟨d, h1, g⟩ := GV.val1 g
    obtain ⟨l2, h2, rfl⟩ := Option.map_eq_some_iff.mp h1
    unfold IR.srtN at h2
    split at h2
    · rename_i h64
      obtain ⟨l, h3, rfl⟩ := Option.map_eq_some_iff.mp h2
      obtain ⟨ks, k1, k2, k3, k4⟩ := itN_of h3 kr
      have hl := mapM_some h3
      refine ⟨v, p, ks, rfl, upd_same, by rw [upd_ne (ne_of_none e1 hv), ← k1]; exact e1, by rw [k3, ← hl.1]; exact h64, fun H' q ps grow hq pm nd srt hl' hps => ?_⟩
      obtain ⟨z, z1, z2, z3⟩ := sort_pairs k3.symm k2 nd pm srt
      have grow' : ∀ b o, H b = some o → H' b = some o := fun b o h => grow b o (by rw [upd_ne (ne_of_none h hv)]; exact h)
      refine GV.grownL R g grow' ?_ hl' ?_
      · cases hh : H q with
        | none => rfl
        | some o => rw [upd_ne (ne_of_none hh hv)] at hq; rw [hq] at hh; cases hh
      · have hz : z.length = ps.length := by have := congrArg List.length z2; simpa using this
        have e5 : IR.sortBy IR.leN l = z.map fun q => (q.1, q.2.1) := z1.symm
        rw [e5]
        refine Reps.pairs (k := fun _ _ => True) (by simp [hz]) fun i p1 z5 h5 h6 => ?_
        rw [List.getElem?_map] at h5
        obtain ⟨q5, h7, rfl⟩ := Option.map_eq_some_iff.mp h5
        have h8 : (z.map fun q => (q.1, q.2.2))[i]? = some (q5.1, q5.2.2) := by rw [List.getElem?_map, h7]; rfl
        rw [z2, List.getElem?_map, h6] at h8
        have h9 : z5.2 = (q5.1, q5.2.2) := Option.some.inj h8
        obtain ⟨j, j1, j2⟩ := z3 q5 (List.mem_of_getElem? h7)
        have h10 := k4 j _ _ j1 j2
        refine ⟨by rw [h9], ?_, ?_⟩
        · rw [h9]
          exact (h10.1).mono (Ext.grown (μ := μ) grow').w
        · exact hps z5 (List.mem_of_getElem? h6)
    · cases h2
  · exact g.elim
end
end IRS

namespace IRS
open PySem PySem.Spec PyProof.Rows L2
/-! ### dict methods, by values -/
section
variable {X : Cx}
def rItemsK : V → List V → Hp → VK → Prop := fun x xs H Q => ∃ (a : Addr) (kvs : List (Key × V)), x = .ref a ∧ xs = [] ∧ H a = some (.dK kvs) ∧ ∀ p, H p = none → Q (.ref p) (upd H p (DX.itemsO p a))
theorem mt_itemsK : MtR X "dict.items" rItemsK := by
  intro pins s σ H x xs v us Q I rx rxs h
  obtain ⟨a, kvs, rfl, rfl, ha, q⟩ := h
  cases rx
  cases rxs
  obtain ⟨z, hd, vs, rel, o, es, ep, ho, hx, hdat, _⟩ := dk_of I.hok ha
  refine DT.callItems (es := es) (ep := ep) hd ⟨o, ho, hx, hdat⟩ ?_
  have hf : H s.heap.objs.size = none := I.hok.fresh (Nat.le_refl _)
  exact ⟨.ref s.heap.objs.size, upd H s.heap.objs.size (DX.itemsO s.heap.objs.size a), I.laid (t' := s.toks) (fun b u e => Heap.get?_push_of_some _ e) (Nat.le_refl _) (DX.itemsO_ok (Heap.get?_push_size _ rfl)), rfl, q _ hf⟩
def rGet1 : V → List V → Hp → VK → Prop := fun x xs H Q => ∃ a y o, x = .ref a ∧ xs = [y] ∧ DGet H a y o ∧ Q (o.getD .non) H
theorem mt_get1 (hu : X.A.units + 1 < cLine) : MtR X "dict.get" rGet1 := by
  intro pins s σ H x xs v us Q I rx rxs h
  obtain ⟨a, y, o, rfl, rfl, g, q⟩ := h
  cases rx
  obtain ⟨u, rfl, ry⟩ := vals1 rxs
  exact d_get1 hu I g ry fun w' s3 I3 rw' => ⟨_, H, I3, rw', q⟩
def rGet2 : V → List V → Hp → VK → Prop := fun x xs H Q => ∃ a y d o, x = .ref a ∧ xs = [y, d] ∧ DGet H a y o ∧ Q (o.getD d) H
theorem mt_get2 (hu : X.A.units + 1 < cLine) : MtR X "dict.get" rGet2 := by
  intro pins s σ H x xs v us Q I rx rxs h
  obtain ⟨a, y, d, o, rfl, rfl, g, q⟩ := h
  cases rx
  obtain ⟨u, u2, rfl, ry, rd⟩ := vals2 rxs
  exact d_get2 hu I g ry rd fun w' s3 I3 rw' => ⟨_, H, I3, rw', q⟩
def rPop1 : V → List V → Hp → VK → Prop := fun x xs H Q => ∃ a kvs k v, x = .ref a ∧ xs = [kV k] ∧ H a = some (.dK kvs) ∧ valV kvs k = some v ∧ Q v (upd H a (.dK (dropK kvs k)))
theorem mt_pop1 : MtR X "dict.pop" rPop1 := by
  intro pins s σ H x xs v us Q I rx rxs h
  obtain ⟨a, kvs, k, v1, rfl, rfl, ea, l, q⟩ := h
  cases rx
  obtain ⟨u, rfl, ry⟩ := vals1 rxs
  exact d_pop I ea ry l (.inl rfl) fun w' s3 I3 rw' => ⟨v1, _, I3, rw', q⟩
end
section
variable {N : Nm} {W : Fm} {μ : List Addr} {S : IR.Sto} {H : Hp} {Q : VK} {a b d : IR.D} {x y z : V}
theorem o_get1 (R : Rel N μ S H) (ra : RepV N μ H a x) (rb : RepV N μ H b y) (g : GV N W μ H (IR.evOp .get1 [a, b] S) Q) : rGet1 x [y] H Q := by
  cases a <;> first | exact g.elim | skip
  rename_i n
  obtain ⟨p, rfl, hp⟩ := ra.ref
  have g : GV N W μ H (match S[n]?, b.ky with
    | some (.dK _ kvs), some k => .ok ((IR.dGet kvs k).getD .non) S
    | _, _ => .bad) Q := g
  split at g
  · rename_i lk kvs k e ek
    obtain ⟨r, hr, kr⟩ := rdK R e hp
    have hy := ky_of rb ek
    subst hy
    refine ⟨p, _, _, rfl, rfl, DGet.rk hr, ?_⟩
    rcases kr.get kyK_inj' k with ⟨h1, h2⟩ | ⟨d, v, h1, h2, h3⟩
    · rw [h1] at g; rw [h2]
      exact g.here R .non fun _ z => nomatch z
    · rw [h1] at g; rw [h2]
      exact g μ H (Ext.refl _ _) R v h3.v fun l _ z _ => by
        have z' : d = .tl l := z
        subst z'; cases h3
  · exact g.elim
theorem o_get2 (R : Rel N μ S H) (ra : RepV N μ H a x) (rb : RepV N μ H b y) (rd : Rep N μ H d z) (g : GV N W μ H (IR.evOp .get2 [a, b, d] S) Q) : rGet2 x [y, z] H Q := by
  cases a <;> first | exact g.elim | skip
  rename_i n
  obtain ⟨p, rfl, hp⟩ := ra.ref
  have g : GV N W μ H (match S[n]?, b.ky with
    | some (.dK _ kvs), some k => .ok ((IR.dGet kvs k).getD d) S
    | _, _ => .bad) Q := g
  split at g
  · rename_i lk kvs k e ek
    obtain ⟨r, hr, kr⟩ := rdK R e hp
    have hy := ky_of rb ek
    subst hy
    refine ⟨p, _, _, _, rfl, rfl, DGet.rk hr, ?_⟩
    rcases kr.get kyK_inj' k with ⟨h1, h2⟩ | ⟨d1, v, h1, h2, h3⟩
    · rw [h1] at g; rw [h2]
      exact g μ H (Ext.refl _ _) R z rd.v fun l _ z _ => by
        have z' : d = .tl l := z
        subst z'; cases rd
    · rw [h1] at g; rw [h2]
      exact g μ H (Ext.refl _ _) R v h3.v fun l _ z _ => by
        have z' : d1 = .tl l := z
        subst z'; cases h3
  · exact g.elim
theorem o_pop1 (R : Rel N μ S H) (ra : RepV N μ H a x) (rb : RepV N μ H b y) (g : GV N W μ H (IR.evOp .pop1 [a, b] S) Q) : rPop1 x [y] H Q := by
  cases a <;> first | exact g.elim | skip
  rename_i n
  obtain ⟨p, rfl, hp⟩ := ra.ref
  have g : GV N W μ H (match S[n]?, b.ky with
    | some (.dK false kvs), some k => match IR.dGet kvs k with
      | some v => .ok v (S.set n (.dK false (IR.dDrop kvs k)))
      | none => .bad
    | _, _ => .bad) Q := g
  split at g
  · rename_i kvs k e ek
    obtain ⟨r, hr, kr⟩ := R.ob n _ p e hp
    have hy := ky_of rb ek
    subst hy
    split at g
    · rename_i v0 e0
      obtain ⟨v, h2, h3⟩ := kr.some_of kyK_inj' e0
      refine ⟨p, r, _, v, rfl, rfl, hr, h2, ?_⟩
      have ex : Ext μ H μ (upd H p (.dK (dropK r (kyK k)))) := Ext.write hp hr (fun _ z => nomatch z) fun _ _ z => nomatch z
      exact g μ _ ex (R.write hp ⟨_, upd_same, (kr.drop kyK_inj').mono ex.w⟩ ex.w) v (h3.mono ex.w).v fun l _ z _ => by subst z; cases h3
    · exact g.elim
  · exact g.elim
theorem o_newK (R : Rel N μ S H) (g : GV N W μ H (IR.evOp .newK [] S) Q) : ∀ p, H p = none → Q (.ref p) (upd H p (.dK [])) := fun p hp => by
  have e : Ext μ H (μ ++ [p]) (upd H p (.dK [])) := (Ext.laid hp).add hp
  refine g (μ ++ [p]) _ e ((R.laid hp).add (R.fresh hp) ⟨[], upd_same, .nil⟩) (.ref p) (Rep.ref ?_) fun _ _ z => nomatch z
  rw [← R.len]; simp
theorem o_newT (R : Rel N μ S H) (g : GV N W μ H (IR.evOp .newT [] S) Q) : ∀ p, H p = none → Q (.ref p) (upd H p (.dT [])) := fun p hp => by
  have e : Ext μ H (μ ++ [p]) (upd H p (.dT [])) := (Ext.laid hp).add hp
  refine g (μ ++ [p]) _ e ((R.laid hp).add (R.fresh hp) ⟨[], upd_same, .nil⟩) (.ref p) (Rep.ref ?_) fun _ _ z => nomatch z
  rw [← R.len]; simp
def rDictD : List V → Hp → VK → Prop := fun xs H Q => ∃ (a : Addr) (kvs : List (Key × V)), xs = [.ref a] ∧ Rd H a (.dK kvs) ∧ ∀ p, H p = none → Q (.ref p) (upd H p (.dK kvs))
theorem o_abs1 (R : Rel N μ S H) (ra : RepV N μ H a x) (g : GV N W μ H (IR.evOp .abs [a] S) Q) : ∃ i, [x] = [V.int i] ∧ Q (.int (if i < 0 then -i else i)) H := o_abs R ra g
/-! sorted -/
theorem leS_le {x y : IR.Txt} : IR.leS x y = true ↔ x ≤ y := by
  unfold IR.leS
  rw [Bool.not_eq_true', decide_eq_false_iff_not]
  exact Iff.rfl
theorem rising_pw : ∀ {l : List IR.Txt} {p : IR.Txt}, risingS (sT p) (l.map sT) = true → (p :: l).Pairwise (· ≤ ·)
  | [], p, _ => by simp
  | x :: r, p, h => by
    simp only [List.map_cons, risingS, Bool.and_eq_true, Bool.not_eq_true'] at h
    have h1 : p ≤ x := by
      have := h.1
      rw [PyProof.Rows.ltCps_eq, decide_eq_false_iff_not] at this
      exact this
    have ih := rising_pw (l := r) h.2
    refine List.pairwise_cons.mpr ⟨fun z hz => ?_, ih⟩
    rcases List.mem_cons.mp hz with rfl | hz
    · exact h1
    · exact List.le_trans h1 ((List.pairwise_cons.mp ih).1 z hz)
theorem sorted_pw : ∀ {l : List IR.Txt}, sortedS (l.map sT) = true → l.Pairwise (· ≤ ·)
  | [], _ => .nil
  | x :: r, h => rising_pw h
theorem perm_sT {l m : List IR.Txt} (p : (m.map sT).Perm (l.map sT)) : m.Perm l := by
  have := p.map (fun s : Str => s.cps.toList)
  simp only [List.map_map] at this
  have e : ((fun s : Str => s.cps.toList) ∘ sT) = id := by funext x; rfl
  rw [e, List.map_id, List.map_id] at this
  exact this
theorem sortS_eq {l m : List IR.Txt} (p : (m.map sT).Perm (l.map sT)) (s : sortedS (m.map sT) = true) : m = IR.sortBy IR.leS l := by
  refine List.Perm.eq_of_pairwise (le := fun a b : IR.Txt => a ≤ b) (fun a b _ _ h1 h2 => List.le_antisymm h1 h2) (sorted_pw s) ?_ ((perm_sT p).trans sortBy_perm.symm)
  refine (sortBy_sorted (le := IR.leS) (fun a b => ?_) fun a b c h1 h2 => ?_).imp fun {a b} h => leS_le.mp h
  · rcases List.le_total a b with h | h
    · exact .inl (leS_le.mpr h)
    · exact .inr (leS_le.mpr h)
  · exact leS_le.mpr (List.le_trans (leS_le.mp h1) (leS_le.mp h2))
theorem strs_back : ∀ (ys : List Str), ∃ m : List IR.Txt, ys = m.map sT
  | [] => ⟨[], rfl⟩
  | y :: r => by
    obtain ⟨m, e⟩ := strs_back r
    exact ⟨y.cps.toList :: m, by rw [List.map_cons, ← e]; cases y; rfl⟩
theorem Reps.strs : ∀ {l : List IR.Txt}, Reps N μ H (l.map IR.D.str) ((l.map sT).map V.str)
  | [] => .nil
  | _ :: _ => .cons (.str _) Reps.strs
/-- the pair that an object is -/
def pairOf (H : Hp) : V → Int × Int
  | .ref t => (match H t with | some (.tup [.int i, .int j]) => (i, j) | _ => (0, 0))
  | _ => (0, 0)
theorem prs_of : ∀ {l : List IR.D} {ps : List (Int × Int)} {vs : List V}, l.mapM IR.D.isPr = some ps → Reps N μ H l vs → vs.map (pairOf H) = ps ∧ ∀ v ∈ vs, ∃ t, v = V.ref t ∧ H t = some (.tup [.int (pairOf H v).1, .int (pairOf H v).2])
  | [], _, _, h, .nil => by cases h; exact ⟨rfl, fun v hv => by simp at hv⟩
  | d :: l, ps, _, h, .cons (v := v) hd t => by
    rw [List.mapM_cons] at h
    obtain ⟨p0, h1, h2⟩ := Option.bind_eq_some_iff.mp h
    obtain ⟨l0, h3, h4⟩ := Option.bind_eq_some_iff.mp h2
    cases h4
    obtain ⟨e1, e2⟩ := prs_of h3 t
    obtain ⟨i, j, rfl, rfl⟩ : ∃ i j, d = .tup [.int i, .int j] ∧ p0 = (i, j) := by
      unfold IR.D.isPr at h1
      split at h1
      · cases h1; exact ⟨_, _, rfl, rfl⟩
      · cases h1
    cases hd with
    | @tup aa _ _ ha hb =>
      cases hb with
      | cons r1 r2 =>
        cases r2 with
        | cons r2 r3 =>
          cases r1; cases r2; cases r3
          have e3 : pairOf H (.ref aa) = (i, j) := by simp only [pairOf, ha]
          refine ⟨by rw [List.map_cons, e1, e3], fun u hu => ?_⟩
          rcases List.mem_cons.mp hu with rfl | hu
          · exact ⟨_, rfl, by rw [e3]; exact ha⟩
          · exact e2 u hu
theorem Reps.prs {H' : Hp} : ∀ {vs : List V}, (∀ v ∈ vs, ∃ t, v = V.ref t ∧ H' t = some (.tup [.int (pairOf H v).1, .int (pairOf H v).2])) → Reps N μ H' ((vs.map (pairOf H)).map IR.prD) vs
  | [], _ => .nil
  | v :: vs, h => by
    obtain ⟨t, rfl, ht⟩ := h v (by simp)
    exact .cons (.tup ht (.cons (.int _) (.cons (.int _) .nil))) (Reps.prs fun u hu => h u (by simp [hu]))
def rSDS : List V → Hp → VK → Prop := fun xs H Q => ∃ (a : Addr) (kvs : List (Key × V)) (ks : List Str), xs = [.ref a] ∧ Rd H a (.dK kvs) ∧ kvs.map (·.1) = ks.map Sum.inr ∧ ks.length < 64 ∧
    ∀ ys p, ys.Perm ks → sortedS ys = true → H p = none → Q (.ref p) (upd H p (.lst (ys.map V.str)))
def rSDI : List V → Hp → VK → Prop := fun xs H Q => ∃ (a : Addr) (kvs : List (Key × V)) (ks : List Int), xs = [.ref a] ∧ Rd H a (.dK kvs) ∧ kvs.map (·.1) = ks.map Sum.inl ∧ ks.length < 64 ∧
    ∀ (ys : List Int) (p : Addr), ys.Perm ks → ys.Pairwise (· ≤ ·) → H p = none → Q (.ref p) (upd H p (.lst (ys.map V.int)))
def rSortX (K : PySem.W.Frag) : List V → Hp → VK → Prop := fun xs H Q => (rSortedI K xs H Q ∨ rSortedPO K xs H Q) ∨ rSortedS K xs H Q ∨ rSDI xs H Q ∨ rSDS xs H Q
theorem CallR.or {X : Cx} {f : Value} {r r' : List V → Hp → VK → Prop} (h : CallR X f r) (h' : CallR X f r') : CallR X f (fun xs H Q => r xs H Q ∨ r' xs H Q) := fun pins s σ H xs us Q I rv q => q.elim (h pins s σ H xs us Q I rv) (h' pins s σ H xs us Q I rv)
theorem call_sortX {X : Cx} (hc : X.calm = true) : CallR X (.builtin "sorted") (rSortX X.K) := (cr_sortedI.or cr_sortedPO).or (cr_sortedS.or ((call_sortedDI hc).or (call_sortedD hc)))
theorem keysI_of : ∀ {kvs : List (IR.Ky × IR.D)} {r : List (Key × V)} {is : List Int}, (kvs.map (·.1)).mapM IR.Ky.isI = some is → KR N μ H kyK kvs r → r.map (·.1) = is.map Sum.inl
  | [], _, _, h, .nil => by cases h; rfl
  | (k, d) :: kvs, _, _, h, .cons _ t => by
    rw [List.map_cons, List.mapM_cons] at h
    obtain ⟨p0, h1, h2⟩ := Option.bind_eq_some_iff.mp h
    obtain ⟨l0, h3, h4⟩ := Option.bind_eq_some_iff.mp h2
    cases h4
    rw [List.map_cons, keysI_of h3 t]
    cases k with
    | inl i => cases h1; rfl
    | inr t => cases h1
theorem keysS_of : ∀ {kvs : List (IR.Ky × IR.D)} {r : List (Key × V)} {ts : List IR.Txt}, (kvs.map (·.1)).mapM IR.Ky.isS = some ts → KR N μ H kyK kvs r → r.map (·.1) = (ts.map sT).map Sum.inr
  | [], _, _, h, .nil => by cases h; rfl
  | (k, d) :: kvs, _, _, h, .cons _ t => by
    rw [List.map_cons, List.mapM_cons] at h
    obtain ⟨p0, h1, h2⟩ := Option.bind_eq_some_iff.mp h
    obtain ⟨l0, h3, h4⟩ := Option.bind_eq_some_iff.mp h2
    cases h4
    rw [List.map_cons, keysS_of h3 t]
    cases k with
    | inl i => cases h1
    | inr t => cases h1; rfl
theorem srtL_of (R : Rel N μ S H) {l : List IR.D} {vs : List V} {p : Addr} (hs : SqL N.K H p vs) (rl : Reps N μ H l vs) (g : GV N W μ H (IR.val1 ((IR.srtL l).map .tl) S) Q) : rSortX N.K [.ref p] H Q := by
  obtain ⟨d, h1, g⟩ := GV.val1 g
  obtain ⟨l2, h2, rfl⟩ := Option.map_eq_some_iff.mp h1
  unfold IR.srtL at h2
  split at h2
  · rename_i is ei
    cases h2
    have ev := ints_of ei rl
    subst ev
    refine .inl (.inl ⟨p, is, rfl, hs, fun ns' q pm pw hq => ?_⟩)
    rw [sortI_eq pm pw]
    exact GV.newL R g Reps.ints q hq
  · split at h2
    · rename_i ps ei
      cases h2
      obtain ⟨e1, e2⟩ := prs_of ei rl
      refine .inl (.inr ⟨p, vs, pairOf H, rfl, hs, e2, fun ys q sr st hq => ?_⟩)
      have hm : ∀ v ∈ ys, ∃ t, v = V.ref t ∧ H t = some (.tup [.int (pairOf H v).1, .int (pairOf H v).2]) := fun v hv => e2 v (st.perm.mem_iff.mp hv)
      have e3 : ys.map (pairOf H) = IR.sortBy IR.leP ps := by
        rw [← e1]
        refine List.Perm.eq_of_pairwise (le := fun a b : Int × Int => a.1 < b.1 ∨ a.1 = b.1 ∧ a.2 ≤ b.2) (fun a b _ _ h1 h2 => ?_) ?_ ?_ ((st.perm.map _).trans sortBy_perm.symm)
        · ext <;> omega
        · rw [List.pairwise_map]
          refine List.Pairwise.imp (fun {x y} h => ?_) sr
          have := SrtO.lexB_no.mp h
          omega
        · refine (sortBy_sorted (le := IR.leP) (fun a b => ?_) fun a b c => ?_).imp fun {a b} h => of_decide_eq_true h
          · simp only [IR.leP, decide_eq_true_eq]; omega
          · simp only [IR.leP, decide_eq_true_eq]; omega
      have g2 : GV N W μ H (.ok (.tl ((ys.map (pairOf H)).map IR.prD)) S) Q := by rw [e3]; exact g
      refine GV.newL R g2 (Reps.prs hm) q hq
    · split at h2
      · rename_i ts et
        split at h2
        · rename_i h64
          cases h2
          have ev := strs_of et rl
          subst ev
          refine .inr (.inl ⟨p, ts.map sT, rfl, hs, by simpa using h64, fun ys q pm pw hq => ?_⟩)
          obtain ⟨m, rfl⟩ := strs_back ys
          rw [sortS_eq pm pw]
          exact GV.newL R g Reps.strs q hq
        · cases h2
      · cases h2
theorem o_sorted (R : Rel N μ S H) (ra : RepV N μ H a x) (g : GV N W μ H (IR.evOp .sorted [a] S) Q) : rSortX N.K [x] H Q := by
  have gen : ∀ {l : List IR.D}, IR.lstItems S a = some l → GV N W μ H (IR.val1 ((IR.srtL l).map .tl) S) Q → rSortX N.K [x] H Q := fun {l} h g => by
    obtain ⟨p, vs, rfl, hs, rl⟩ := lst_of R ra h
    exact srtL_of R hs rl g
  cases a <;> first | exact g.elim | skip
  · rename_i n
    obtain ⟨p, rfl, hp⟩ := ra.ref
    have g : GV N W μ H (match S[n]? with
      | some (.lst l) => IR.val1 ((IR.srtL l).map .tl) S
      | some (.dK _ kvs) => IR.val1 ((IR.srtK (kvs.map (·.1))).map .tl) S
      | _ => .bad) Q := g
    split at g
    · rename_i l e
      exact gen (by simp only [IR.lstItems, e]) g
    · rename_i lk kvs e
      obtain ⟨r, hr, kr⟩ := rdK R e hp
      obtain ⟨d, h1, g⟩ := GV.val1 g
      obtain ⟨l2, h2, rfl⟩ := Option.map_eq_some_iff.mp h1
      unfold IR.srtK at h2
      split at h2
      · rename_i h64
        split at h2
        · rename_i is ei
          cases h2
          have ek := keysI_of ei kr
          have hl := mapM_some ei
          refine .inr (.inr (.inl ⟨p, r, is, rfl, hr, ek, by rw [← hl.1]; exact h64, fun ys q pm pw hq => ?_⟩))
          rw [sortI_eq pm pw]
          exact GV.newL R g Reps.ints q hq
        · split at h2
          · rename_i ts et
            cases h2
            have ek := keysS_of et kr
            have hl := mapM_some et
            refine .inr (.inr (.inr ⟨p, r, ts.map sT, rfl, hr, ek, by rw [List.length_map, ← hl.1]; exact h64, fun ys q pm pw hq => ?_⟩))
            obtain ⟨m, rfl⟩ := strs_back ys
            rw [sortS_eq pm pw]
            exact GV.newL R g Reps.strs q hq
          · cases h2
      · cases h2
    · exact g.elim
  · rename_i l
    exact gen rfl g
  · rename_i l
    exact gen rfl g
end
end IRS

namespace IRS
open PySem PySem.Spec PyProof.Rows L2
section
variable {D : Wd} {X : Cx} {c : Ctx} {k : Nat} {F : Fm} {pos : Pos} {a b e o tg : Expr} {es : List Expr} {call : Nat → List IR.D → IR.M IR.D} {x y z : IR.E} {p apos cpos : Pos} {mname : List Str} {n : Str}
/-! ### dicts -/
theorem e_get1 (C : Cm D X c k F) (ho : PE X o (tV D F call x)) (ha : PE X e (tV D F call y)) (hs : A1 e X) (hbase : attributeBase o ("get" : Str) X.env (eval o X.env) = eval o X.env) (hline : (apos.endLine == pos.line) = true) :
    PE X (.Call (.Attribute o ("get" : Str) apos) [e] [] pos) (tV D F call (.bm .get1 x (.cons true y .nil))) :=
  s_bm C (kd := 2) PySem.F.plainAttrs_dict PySem.F.slot_dict_get PySem.F.type_dict_get (mt_get1 (by have := C.hu; omega)) rfl ho (s_cons ha s_nil hs) (fun R rd rs g => by
    cases rs with
    | cons r1 rr => cases rr; exact o_get1 R rd r1.v g) hbase (by rw [hs]; rfl) hline hs rfl
theorem e_get2 (C : Cm D X c k F) (ho : PE X o (tV D F call x)) (ha : PE X e (tV D F call y)) (hb : PE X b (tV D F call z)) (hs2 : A1 b X) (hs : starEach [e, b] X.env = (false, eval e X.env) :: starEach [b] X.env) (hbase : attributeBase o ("get" : Str) X.env (eval o X.env) = eval o X.env) (hline : (apos.endLine == pos.line) = true) :
    PE X (.Call (.Attribute o ("get" : Str) apos) [e, b] [] pos) (tV D F call (.bm .get2 x (.cons true y (.cons true z .nil)))) :=
  s_bm C (kd := 2) PySem.F.plainAttrs_dict PySem.F.slot_dict_get PySem.F.type_dict_get (mt_get2 (by have := C.hu; omega)) rfl ho (s_cons ha (s_cons hb s_nil hs2) hs) (fun R rd rs g => by
    cases rs with
    | cons r1 rr =>
      cases rr with
      | cons r2 rr => cases rr; exact o_get2 R rd r1.v r2 g) hbase (by rw [hs, hs2]; rfl) hline hs (by rw [hs2]; rfl)
theorem e_pop1 (C : Cm D X c k F) (ho : PE X o (tV D F call x)) (ha : PE X e (tV D F call y)) (hs : A1 e X) (hbase : attributeBase o ("pop" : Str) X.env (eval o X.env) = eval o X.env) (hline : (apos.endLine == pos.line) = true) :
    PE X (.Call (.Attribute o ("pop" : Str) apos) [e] [] pos) (tV D F call (.bm .pop1 x (.cons true y .nil))) :=
  s_bm C (kd := 2) PySem.F.plainAttrs_dict PySem.F.slot_dict_pop PySem.F.type_dict_pop mt_pop1 rfl ho (s_cons ha s_nil hs) (fun R rd rs g => by
    cases rs with
    | cons r1 rr => cases rr; exact o_pop1 R rd r1.v g) hbase (by rw [hs]; rfl) hline hs rfl
theorem evs0 {g : IR.G} {call : Nat → List IR.D → IR.M IR.D} {ρ : IR.Env} {β : Type} {f : List IR.D → IR.M β} {S : IR.Sto} : ((IR.evs g call .nil ρ).bind f) S = f [] S := by
  simp only [IR.evs, IR.M.pure_bind]
theorem e_newK : PE X (.Dict [] [] pos) (tV D F call (.op .newK .nil)) := by
  refine PE.weak pe_dnewK fun σ H Q q => ?_
  obtain ⟨μ, S, ρ, hI, R, hρ, g⟩ := q
  have g : GV D.N F μ H (((IR.evs D.g call .nil ρ).bind fun l => IR.evOp .newK l) S) Q := g
  rw [evs0] at g
  exact o_newK R g
theorem e_newT : PE X (.Dict [] [] pos) (tV D F call (.op .newT .nil)) := by
  refine PE.weak pe_dnewT fun σ H Q q => ?_
  obtain ⟨μ, S, ρ, hI, R, hρ, g⟩ := q
  have g : GV D.N F μ H (((IR.evs D.g call .nil ρ).bind fun l => IR.evOp .newT l) S) Q := g
  rw [evs0] at g
  exact o_newT R g
theorem o_dictD {N : Nm} {W : Fm} {μ : List Addr} {S : IR.Sto} {H : Hp} {Q : VK} {a : IR.D} {x : V} (R : Rel N μ S H) (ra : RepV N μ H a x) (g : GV N W μ H (IR.evOp .dict [a] S) Q) : rDictD [x] H Q := by
  cases a <;> first | exact g.elim | skip
  rename_i n
  obtain ⟨p, rfl, hp⟩ := ra.ref
  have g : GV N W μ H (match S[n]? with
    | some (.dK _ kvs) => .ok (.ref S.length) (S ++ [.dK false kvs])
    | _ => .bad) Q := g
  split at g
  · rename_i lk kvs e
    obtain ⟨r, hr, kr⟩ := rdK R e hp
    refine ⟨p, r, rfl, hr, fun q hq => ?_⟩
    have ex : Ext μ H (μ ++ [q]) (upd H q (.dK r)) := (Ext.laid hq).add hq
    refine g (μ ++ [q]) _ ex ((R.laid hq).add (R.fresh hq) ⟨r, upd_same, kr.mono ex.w⟩) (.ref q) (Rep.ref ?_) fun _ _ z => nomatch z
    rw [← R.len]; simp
  · exact g.elim
theorem e_sortedItems (C : Cm D X c k F) (hg : c.sc.names.lookup ("sorted" : Str) = some .globalImplicit) (hm : D.mg "sorted" = none) (ho : PE X o (tV D F call x)) (hbase : attributeBase o ("items" : Str) X.env (eval o X.env) = eval o X.env) (hline : (apos.endLine == cpos.line) = true)
    (hs : A1 (.Call (.Attribute o ("items" : Str) apos) [] [] cpos) X) (hh : c.hot = false := by rfl) : PE X (.Call (.Name "sorted" p) [.Call (.Attribute o ("items" : Str) apos) [] [] cpos] [] pos) (tV D F call (.op .sortedItems (.cons false x .nil))) := by
  refine PE.weak (pe_callB (cr_sortN (C.calm hh)) (C.gl hg) (C.mgn hm) PyProof.Rows.boot_sorted (pa_cons (pe_bm0 PySem.F.plainAttrs_dict PySem.F.slot_dict_items PySem.F.type_dict_items mt_itemsK ho hbase hline) pa_nil hs) (he := hs)) fun σ H Q q => ?_
  obtain ⟨μ, S, ρ, hI, R, hρ, g⟩ := q
  have g : GV D.N F μ H (((IR.evs D.g call (.cons false x .nil) ρ).bind fun l => IR.evOp .sortedItems l) S) Q := g
  rw [evs1] at g
  refine one (f := fun a => IR.evOp .sortedItems [a]) hI R hρ g fun μ2 S2 H2 p p' R2 rp g2 => ?_
  obtain ⟨pa, r, rfl, hr, h⟩ := o_sortedItems R2 rp g2
  refine ⟨.inr (.inr (.inl ⟨rfl, .inl ⟨r, by exact hr⟩⟩)), pa, r, rfl, rfl, hr, fun v hv => ?_⟩
  exact h v hv
theorem e_sorted (C : Cm D X c k F) (hg : c.sc.names.lookup ("sorted" : Str) = some .globalImplicit) (hm : D.mg "sorted" = none) (ha : PE X a (tV D F call x)) (hs : A1 a X) (hh : c.hot = false := by rfl) : PE X (.Call (.Name "sorted" p) [a] [] pos) (tV D F call (.op .sorted (.cons false x .nil))) :=
  s_b1 (pe_callB (call_sortX (C.calm hh)) (C.gl hg) (C.mgn hm) PyProof.Rows.boot_sorted (s_cons ha s_nil hs) (he := hs)) fun R ra g => by rw [C.K]; exact o_sorted R ra g
theorem e_min1 (C : Cm D X c k F) (hg : c.sc.names.lookup ("min" : Str) = some .globalImplicit) (hm : D.mg "min" = none) (ha : PE X a (tV D F call x)) (hs : A1 a X) (hh : c.hot = false := by rfl) : PE X (.Call (.Name "min" p) [a] [] pos) (tV D F call (.op .min1 (.cons false x .nil))) :=
  s_b1 (pe_callB (cr_min (C.calm hh)) (C.gl hg) (C.mgn hm) PyProof.Rows.boot_min (s_cons ha s_nil hs) (he := hs)) fun R ra g => by rw [C.K]; exact o_min1 R ra g
theorem e_max1 (C : Cm D X c k F) (hg : c.sc.names.lookup ("max" : Str) = some .globalImplicit) (hm : D.mg "max" = none) (ha : PE X a (tV D F call x)) (hs : A1 a X) (hh : c.hot = false := by rfl) : PE X (.Call (.Name "max" p) [a] [] pos) (tV D F call (.op .max1 (.cons false x .nil))) :=
  s_b1 (pe_callB (cr_max (C.calm hh)) (C.gl hg) (C.mgn hm) PyProof.Rows.boot_max (s_cons ha s_nil hs) (he := hs)) fun R ra g => by rw [C.K]; exact o_max1 R ra g
theorem e_abs (C : Cm D X c k F) (hg : c.sc.names.lookup ("abs" : Str) = some .globalImplicit) (hm : D.mg "abs" = none) (ha : PE X a (tV D F call x)) (hs : A1 a X) : PE X (.Call (.Name "abs" p) [a] [] pos) (tV D F call (.op .abs (.cons false x .nil))) :=
  s_b1 (pe_callB call_abs (C.gl hg) (C.mgn hm) PyProof.Rows.boot_abs (s_cons ha s_nil hs) (he := hs)) fun R ra g => o_abs R ra g
theorem e_dict (C : Cm D X c k F) (hg : c.sc.names.lookup ("dict" : Str) = some .globalImplicit) (hm : D.mg "dict" = none) (ha : PE X a (tV D F call x)) (hs : A1 a X) : PE X (.Call (.Name "dict" p) [a] [] pos) (tV D F call (.op .dict (.cons false x .nil))) :=
  s_b1 (pe_callTy call_dictD (C.gl hg) (C.mgn hm) PyProof.Rows.boot_dict (s_cons ha s_nil hs) (he := hs)) fun R ra g => o_dictD R ra g
/-! ### is True -/
theorem o_isT {N : Nm} {W : Fm} {μ : List Addr} {S : IR.Sto} {H : Hp} {Q : VK} {d : IR.D} {v : V} (r : RepV N μ H d v) (R : Rel N μ S H) (g : GV N W μ H (IR.evOp .isT [d] S) Q) : rIsB v (.bl true) H Q := by
  cases d <;> first | exact g.elim | skip
  rename_i b
  cases r.bl
  refine ⟨b, true, rfl, rfl, ?_⟩
  have e : decide (b = true) = b := by cases b <;> rfl
  rw [e]
  exact GV.bl R g
theorem o_notT {N : Nm} {W : Fm} {μ : List Addr} {S : IR.Sto} {H : Hp} {Q : VK} {d : IR.D} {v : V} (r : RepV N μ H d v) (R : Rel N μ S H) (g : GV N W μ H (IR.evOp .notT [d] S) Q) : rNotB v (.bl true) H Q := by
  cases d <;> first | exact g.elim | skip
  rename_i b
  cases r.bl
  refine ⟨b, true, rfl, rfl, ?_⟩
  have e : (!decide (b = true)) = !b := by cases b <;> rfl
  rw [e]
  exact GV.bl R g
theorem e_isT (ha : PE X a (tV D F call x)) {p2 : Pos} {j} : PE X (.Compare a [.Is] [.Constant (.bool true) j p2] pos) (tV D F call (.op .isT (.cons false x .nil))) := by
  refine PE.weak (pe_cmpR op_isBl ha pe_bl (nomark _)) fun σ H Q q => ?_
  obtain ⟨μ, S, ρ, hI, R, hρ, g⟩ := q
  have g : GV D.N F μ H (((IR.evs D.g call (.cons false x .nil) ρ).bind fun l => IR.evOp .isT l) S) Q := g
  rw [evs1] at g
  exact one (f := fun a => IR.evOp .isT [a]) hI R hρ g fun μ2 S2 H2 p p' R2 rp g2 => o_isT rp R2 g2
theorem e_notT (ha : PE X a (tV D F call x)) {p2 : Pos} {j} : PE X (.Compare a [.IsNot] [.Constant (.bool true) j p2] pos) (tV D F call (.op .notT (.cons false x .nil))) := by
  refine PE.weak (pe_cmpR op_notBl ha pe_bl (nomark _)) fun σ H Q q => ?_
  obtain ⟨μ, S, ρ, hI, R, hρ, g⟩ := q
  have g : GV D.N F μ H (((IR.evs D.g call (.cons false x .nil) ρ).bind fun l => IR.evOp .notT l) S) Q := g
  rw [evs1] at g
  exact one (f := fun a => IR.evOp .notT [a]) hI R hρ g fun μ2 S2 H2 p p' R2 rp g2 => o_notT rp R2 g2
/-! ### walks -/
theorem s_rev (C : Cm D X c k F) (hg : c.sc.names.lookup ("reversed" : Str) = some .globalImplicit) (hm : D.mg "reversed" = none) (he : PE X e (tV D F call x)) (hs : A1 e X) : PI X tg (.Call (.Name "reversed" p) [e] [] pos) (tIt D F (IR.evIt D.g call (.rev x))) := by
  refine PI.weak (RT.pi_revA (C.gl hg) (C.mgn hm) he hs) fun σ H R q => ?_
  obtain ⟨μ, S, ρ, hI, Rl, hρ, g⟩ := q
  refine one' (f := fun d => IR.srcRev d) hI Rl hρ g fun μ1 S1 H1 d v e1 R1 rv _ g1 => ?_
  rw [C.K]
  have fin : ∀ {s : IR.Src} {J : It}, IR.srcRev d S1 = .ok s S1 → FolS D.N μ1 H1 J s → R J H1 := fun {s J} h f => by
    rw [h] at g1
    exact g1 μ1 H1 e1 R1 J f
  cases d <;> first | exact g1.elim | skip
  · rename_i l
    obtain ⟨a, vs, rfl, h1, r⟩ := rv.tup
    exact ⟨a, vs, rfl, .inr ⟨.of h1, fin rfl (fol_rev fun μ' S' H' e R' => ⟨.inr ⟨rfl, .of (e.tup _ _ h1)⟩, r.mono e.w⟩)⟩⟩
  · rename_i l
    obtain ⟨a, vs, rfl, st⟩ := lst_stays (S1 := S1) (.inl rv)
    exact ⟨a, vs, rfl, .inl ⟨(st μ1 S1 H1 (Ext.refl _ _) R1).1, fin rfl (fol_rev fun μ' S' H' e R' => ⟨.inl ⟨rfl, (st μ' S' H' e R').1⟩, (st μ' S' H' e R').2⟩)⟩⟩
theorem s_enum (C : Cm D X c k F) {elts : List Expr} {kk : Nat} {tpos : Pos} (hg : c.sc.names.lookup ("enumerate" : Str) = some .globalImplicit) (hm : D.mg "enumerate" = none) (he : PE X e (tV D F call x)) (hs : A1 e X) : PI X (.Tuple elts kk tpos) (.Call (.Name "enumerate" p) [e] [] pos) (tIt D F (IR.evIt D.g call (.enum x))) := by
  refine PI.weak (pi_enum (C.gl hg) (C.mgn hm) (s_cons (own := false) he s_nil hs) hs) fun σ H R q => ?_
  obtain ⟨μ, S, ρ, hI, Rl, hρ, g⟩ := q
  refine ⟨μ, S, ρ, hI, Rl, hρ, ?_⟩
  have e0 : IR.evs D.g call (.cons false x .nil) ρ S = (IR.ev D.g call x ρ S).bind fun a => IR.M.pure [a] := by
    have := evs1 (g := D.g) (call := call) (x := x) (ρ := ρ) (f := IR.M.pure) (S := S)
    rw [IR.M.bind_pure] at this
    exact this
  rw [e0]
  have g : GG D.N F μ H ((IR.ev D.g call x ρ S).bind IR.srcEnum) fun s S1 μ1 H1 => ∀ J, FolS D.N μ1 H1 J s → R J H1 := g
  cases er : IR.ev D.g call x ρ S with
  | bad => rw [er] at g; exact g
  | exc c fs S => rw [er] at g; exact g
  | ok d S1 =>
    rw [er] at g
    refine fun μ1 H1 e1 R1 vs rs => ?_
    cases rs with
    | cons r1 rr =>
      cases rr
      have rv := r1.v
      rw [C.K]
      have g : GG D.N F μ H (IR.srcEnum d S1) fun s S1 μ1 H1 => ∀ J, FolS D.N μ1 H1 J s → R J H1 := g
      cases d <;> first | exact g.elim | skip
      · rename_i n _
        obtain ⟨a, rfl, ha⟩ := rv.ref
        have g : GG D.N F μ H (match S1[n]? with | some (IR.MO.lst _) => (IR.Res.ok (IR.Src.rf true n) S1 : IR.Res IR.Src) | _ => IR.Res.bad) fun s S1 μ1 H1 => ∀ J, FolS D.N μ1 H1 J s → R J H1 := g
        split at g
        · rename_i l h
          obtain ⟨vs, h1, r⟩ := R1.ob n _ a h ha
          exact ⟨a, vs, rfl, .of h1, g μ1 H1 e1 R1 _ (folR_enum ha)⟩
        · exact g.elim
      · rename_i l _
        obtain ⟨a, vs, rfl, st⟩ := lst_stays (S1 := S1) (.inl rv)
        exact ⟨a, vs, rfl, (st μ1 S1 H1 (Ext.refl _ _) R1).1, g μ1 H1 e1 R1 _ (fol_enum st)⟩
theorem s_zip (C : Cm D X c k F) {elts : List Expr} {kk : Nat} {tpos : Pos} (hg : c.sc.names.lookup ("zip" : Str) = some .globalImplicit) (hm : D.mg "zip" = none) (ha : PE X a (tV D F call x)) (hb : PE X b (tV D F call y)) (hs2 : A1 b X) (hs : starEach [a, b] X.env = (false, eval a X.env) :: starEach [b] X.env) :
    PI X (.Tuple elts kk tpos) (.Call (.Name "zip" p) [a, b] [] pos) (tIt D F (IR.evIt D.g call (.zip x y))) := by
  refine PI.weak (RZ.pi_zipA (C.gl hg) (C.mgn hm) (s_cons (own := false) ha (s_cons (own := false) hb s_nil hs2) hs) hs (by rw [hs2]; rfl)) fun σ H R q => ?_
  obtain ⟨μ, S, ρ, hI, Rl, hρ, g⟩ := q
  refine ⟨μ, S, ρ, hI, Rl, hρ, ?_⟩
  have e0 : IR.evs D.g call (.cons false x (.cons false y .nil)) ρ S = (IR.ev D.g call x ρ S).bind fun a => (IR.ev D.g call y ρ).bind fun b => IR.M.pure [a, b] := by
    have := evs2 (g := D.g) (call := call) (x := x) (y := y) (ρ := ρ) (f := IR.M.pure) (S := S)
    rw [IR.M.bind_pure] at this
    exact this
  rw [e0]
  have g : GG D.N F μ H ((IR.ev D.g call x ρ S).bind fun d1 => (IR.ev D.g call y ρ).bind fun d2 => IR.srcZip d1 d2) fun s S1 μ1 H1 => ∀ J, FolS D.N μ1 H1 J s → R J H1 := g
  cases er : IR.ev D.g call x ρ S with
  | bad => rw [er] at g; exact g
  | exc c fs S => rw [er] at g; exact g
  | ok d1 S1 =>
    rw [er] at g
    have g : GG D.N F μ H ((IR.ev D.g call y ρ S1).bind fun d2 => IR.srcZip d1 d2) fun s S1 μ1 H1 => ∀ J, FolS D.N μ1 H1 J s → R J H1 := g
    show GG D.N F μ H ((IR.ev D.g call y ρ S1).bind fun b => IR.M.pure [d1, b]) _
    cases er2 : IR.ev D.g call y ρ S1 with
    | bad => rw [er2] at g; exact g
    | exc c fs S => rw [er2] at g; exact g
    | ok d2 S2 =>
      rw [er2] at g
      refine fun μ1 H1 e1 R1 vs rs => ?_
      cases rs with
      | cons r1 rr =>
        cases rr with
        | cons r2 rr =>
          cases rr
          have rv1 := r1.v
          have rv2 := r2.v
          rw [C.K]
          have g : GG D.N F μ H (IR.srcZip d1 d2 S2) fun s S1 μ1 H1 => ∀ J, FolS D.N μ1 H1 J s → R J H1 := g
          unfold IR.srcZip at g
          split at g
          · rename_i l m
            obtain ⟨a, vs, rfl, h1, q1⟩ := rv1.tup
            obtain ⟨b, us, rfl, h2, q2⟩ := rv2.tup
            exact ⟨a, b, vs, us, rfl, .inr ⟨.of h1, .of h2, g μ1 H1 e1 R1 _ (fol_zip (.inr rfl) fun μ' S' H' e R' => ⟨.inr ⟨rfl, .of (e.tup _ _ h1), .of (e.tup _ _ h2)⟩, q1.mono e.w, q2.mono e.w⟩)⟩⟩
          · rename_i l m
            obtain ⟨a, vs, rfl, s1⟩ := lst_stays (S1 := S2) (.inl rv1)
            obtain ⟨b, us, rfl, s2⟩ := lst_stays (S1 := S2) (.inl rv2)
            exact ⟨a, b, vs, us, rfl, .inl ⟨(s1 μ1 S2 H1 (Ext.refl _ _) R1).1, (s2 μ1 S2 H1 (Ext.refl _ _) R1).1, g μ1 H1 e1 R1 _ (fol_zip (.inl rfl) fun μ' S' H' e R' => ⟨.inl ⟨rfl, (s1 μ' S' H' e R').1, (s2 μ' S' H' e R').1⟩, (s1 μ' S' H' e R').2, (s2 μ' S' H' e R').2⟩)⟩⟩
          · exact g.elim
/-! ### raise, where it isn't reached -/
def esPlain : IR.Es → Bool
  | .nil => true
  | .cons _ (.c _) r => esPlain r
  | .cons _ (.var _) r => esPlain r
  | .cons _ _ _ => false
theorem ownIf_ok (o : Bool) (d : IR.D) (S : IR.Sto) : ∃ d' S', IR.ownIf o d S = .ok d' S' := by
  cases o with
  | false => exact ⟨_, _, rfl⟩
  | true => cases d <;> exact ⟨_, _, rfl⟩
theorem plain_noexc {g : IR.G} {ρ : IR.Env} : ∀ {xs : IR.Es} {S S' : IR.Sto} {c : Nat} {fs : List (Nat × IR.D)}, esPlain xs = true → IR.evs g call xs ρ S ≠ .exc c fs S'
  | .nil, _, _, _, _, _ => fun h => by cases h
  | .cons o e r, S, S', c, fs, hp => fun h => by
    have key : esPlain r = true → (IR.ev g call e ρ S = .bad ∨ ∃ d, IR.ev g call e ρ S = .ok d S) → False := fun hr he => by
      simp only [IR.evs, IR.M.bind] at h
      rcases he with he | ⟨d, he⟩
      · rw [he] at h; cases h
      · rw [he] at h
        obtain ⟨d', S1, ho⟩ := ownIf_ok o d S
        have h : (IR.ownIf o d S).bind (fun x s => (IR.evs g call r ρ s).bind fun l => IR.M.pure (x :: l)) = .exc c fs S' := h
        rw [ho] at h
        have h : (IR.evs g call r ρ S1).bind (fun l => IR.M.pure (d' :: l)) = .exc c fs S' := h
        cases e2 : IR.evs g call r ρ S1 with
        | ok l S2 => rw [e2] at h; cases h
        | bad => rw [e2] at h; cases h
        | exc c2 fs2 S2 => exact plain_noexc hr e2
    cases e <;> simp only [esPlain] at hp <;> first | (cases hp; done) | skip
    · exact key hp (.inr ⟨_, rfl⟩)
    · rename_i i
      refine key hp ?_
      simp only [IR.ev, IR.getVar]
      split
      · exact .inr ⟨_, rfl⟩
      · exact .inl rfl
theorem st_raiseBad {st : Stmt} {cc : Nat} {xs : IR.Es} (hx : D.g.xfs.lookup cc = none) (hp : esPlain xs = true) : PS X st (tSt D F call (.raise cc xs)) := by
  refine PS.weak ps_never fun E σ H q => ?_
  obtain ⟨μ, S, ρ, hI, R, hρ, g⟩ := q
  have g : GG D.N F μ H ((IR.evs D.g call xs ρ S).bind fun l => fun S => match D.g.xfs.lookup cc with
    | some fs => .exc cc (fs.zip l) S
    | none => .bad) (KF D.N F E H) := g
  cases e : IR.evs D.g call xs ρ S with
  | bad => rw [e] at g; exact g
  | exc c fs S => exact (plain_noexc hp e).elim
  | ok l S1 =>
    rw [e] at g
    have g : GG D.N F μ H (match D.g.xfs.lookup cc with
      | some fs => .exc cc (fs.zip l) S1
      | none => .bad) (KF D.N F E H) := g
    rw [hx] at g
    exact g
end
end IRS

namespace IRS
open PySem PySem.Spec PyProof.Rows L2
section
variable {D : Wd} {X : Cx} {c : Ctx} {k : Nat} {F : Fm} {pos : Pos} {a b e o tg : Expr} {es : List Expr} {call : Nat → List IR.D → IR.M IR.D} {x y z : IR.E} {p apos cpos tpos : Pos} {mname : List (Str × Nat)} {n : Str}
theorem look_mem {α : Type} {m : Nat} {x : α} : ∀ {l : List (Nat × α)}, l.lookup m = some x → (m, x) ∈ l
  | [], h => by cases h
  | (k, y) :: r, h => by
    rw [List.lookup_cons] at h
    by_cases e : m = k
    · subst e
      simp at h
      simp [h]
    · rw [show (m == k) = false by simpa using e] at h
      exact List.mem_cons_of_mem _ (look_mem h)
theorem setAttr_at {S : IR.Sto} {r f cc : Nat} {fs : List (Nat × IR.D)} {d : IR.D} (h : S[r]? = some (.ins cc fs)) (hl : fs.length < 900) : IR.setAttrD d (.ref r) f S = .ok () (S.set r (.ins cc (IR.fPut fs f d))) := by simp [IR.setAttrD, h, hl]
theorem setAttr_bad {S : IR.Sto} {r f : Nat} {d : IR.D} (h : ∀ cc fs, S[r]? = some (.ins cc fs) → ¬ fs.length < 900) : IR.setAttrD d (.ref r) f S = .bad := by
  unfold IR.setAttrD
  dsimp only
  split
  · rename_i cc fs e
    rw [if_neg (h _ _ e)]
  · rfl
theorem st_aug (C : Cm D X c k F) (Kk : Kn D k call mname) {f : Nat} {j : Int} (hf : D.N.fld[f]? = some n) (ho : PE X o (tV D F call x)) (hv : PE X e (tC (.int j))) :
    PS X (.AugAssign (.Attribute o n tpos) .Add e pos) (tSt D F call (.augAttr x f (.c (.int j)))) := by
  refine PS.weak (ps_fldaug ho hv in_add) fun E σ H q => ?_
  obtain ⟨μ, S, ρ, hI, R, hρ, g⟩ := q
  have g : GG D.N F μ H (((IR.ev D.g call x ρ).bind fun oo => (IR.getAttrD oo f).bind fun a => (IR.M.pure (IR.D.int j)).bind fun xx => match a, xx with
    | .int i, .int j => (IR.setAttrD (.int (i + j)) oo f).bind fun _ => IR.M.pure (.next ρ)
    | _, _ => IR.M.bad) S) (KF D.N F E H) := g
  refine one' hI R hρ g fun μ1 S1 H1 oo oo' e1 R1 ro _ g1 => ?_
  obtain ⟨r, rfl⟩ : ∃ r, oo = .ref r := by cases oo <;> first | exact ⟨_, rfl⟩ | exact g1.elim
  obtain ⟨q, rfl, hq⟩ := ro.ref
  cases h : S1[r]? with
  | none =>
    have e3 : IR.getAttrD (.ref r) f S1 = .bad := by simp [IR.getAttrD, h]
    have g1 : GG D.N F μ H ((IR.getAttrD (.ref r) f S1).bind _) (KF D.N F E H) := g1
    rw [e3] at g1; exact g1.elim
  | some ob =>
    cases ob with
    | lst l =>
      have e3 : IR.getAttrD (.ref r) f S1 = .bad := by simp [IR.getAttrD, h]
      have g1 : GG D.N F μ H ((IR.getAttrD (.ref r) f S1).bind _) (KF D.N F E H) := g1
      rw [e3] at g1; exact g1.elim
    | dK l1 l2 =>
      have e3 : IR.getAttrD (.ref r) f S1 = .bad := by simp [IR.getAttrD, h]
      have g1 : GG D.N F μ H ((IR.getAttrD (.ref r) f S1).bind _) (KF D.N F E H) := g1
      rw [e3] at g1; exact g1.elim
    | dT l1 l2 =>
      have e3 : IR.getAttrD (.ref r) f S1 = .bad := by simp [IR.getAttrD, h]
      have g1 : GG D.N F μ H ((IR.getAttrD (.ref r) f S1).bind _) (KF D.N F E H) := g1
      rw [e3] at g1; exact g1.elim
    | exn l1 l2 =>
      have e3 : IR.getAttrD (.ref r) f S1 = .bad := by simp [IR.getAttrD, h]
      have g1 : GG D.N F μ H ((IR.getAttrD (.ref r) f S1).bind _) (KF D.N F E H) := g1
      rw [e3] at g1; exact g1.elim
    | ins cc fs =>
      obtain ⟨Ca, dx, r', hc, h1, fr⟩ := R1.ob r _ q h hq
      obtain ⟨k1, k2⟩ := Kk.cls cc Ca hc
      rcases fr.get Kk.fnd hf with ⟨h2, h3⟩ | ⟨d, v, h2, h3, h4⟩
      · have e3 : IR.getAttrD (.ref r) f S1 = .bad := by simp [IR.getAttrD, h, h2, IR.val1]
        have g1 : GG D.N F μ H ((IR.getAttrD (.ref r) f S1).bind _) (KF D.N F E H) := g1
        rw [e3] at g1; exact g1.elim
      · have e3 : IR.getAttrD (.ref r) f S1 = .ok d S1 := by simp [IR.getAttrD, h, h2, IR.val1]
        have g1 : GG D.N F μ H ((IR.getAttrD (.ref r) f S1).bind fun a => (IR.M.pure (IR.D.int j)).bind fun xx => match a, xx with
          | .int i, .int j => (IR.setAttrD (.int (i + j)) (.ref r) f).bind fun _ => IR.M.pure (.next ρ)
          | _, _ => IR.M.bad) (KF D.N F E H) := g1
        rw [e3] at g1
        refine ⟨q, Ca, dx, r', v, rfl, h1, by rw [C.K]; exact k1, by rw [C.K]; exact k2 n (List.mem_of_getElem? hf), h3, ?_⟩
        have g2 : GG D.N F μ1 H1 ((match (generalizing := false) d, IR.D.int j with
          | .int i, .int j => (IR.setAttrD (.int (i + j)) (.ref r) f).bind fun _ => IR.M.pure (.next ρ)
          | _, _ => IR.M.bad : IR.M IR.Flow) S1) (KF D.N F E H) := GG.base e1 g1
        cases d <;> first | exact g2.elim | skip
        rename_i i
        cases h4
        refine ⟨i, j, rfl, rfl, ?_⟩
        have g3 : GG D.N F μ1 H1 ((IR.setAttrD (.int (i + j)) (.ref r) f S1).bind fun _ => IR.M.pure (.next ρ)) (KF D.N F E H) := g2
        by_cases hl : fs.length < 900
        · rw [setAttr_at h hl] at g3
          refine ⟨dx, r', h1, by rw [← fr.length]; omega, ?_⟩
          have ew : Ext μ1 H1 μ1 (upd H1 q (.ins Ca dx (putF n (V.int (i + j)) r'))) := Ext.write hq h1 (fun _ z => nomatch z) (fun _ _ z => nomatch z)
          have fr2 : FR D.N μ1 (upd H1 q (.ins Ca dx (putF n (V.int (i + j)) r'))) (IR.fPut fs f (.int (i + j))) (putF n (V.int (i + j)) r') := (FR.put Kk.fnd hf (.int _) fr).mono ew.w
          exact g3 μ1 _ ew (R1.write hq ⟨Ca, dx, _, hc, upd_same, fr2⟩ ew.w) σ hI ((hρ.mono e1.w).mono ew.w)
        · rw [setAttr_bad (fun cc fs z => by rw [h] at z; cases z; exact hl)] at g3; exact g3.elim
end
end IRS

namespace IRS
open PySem PySem.Spec PyProof.Rows L2
theorem pairsK_of {N : Nm} {μ : List Addr} {H : Hp} : ∀ {l : List IR.D} {kvs : List (IR.Ky × IR.D)} {vs : List V}, IR.pairsK l = some kvs → Reps N μ H l vs → ∃ (ps : List Addr) (kvs' : List (Key × V)), vs = ps.map V.ref ∧ Paired (fun p kv => SqT N.K H p [kV kv.1, kv.2]) ps kvs' ∧ KR N μ H kyK kvs kvs'
  | [], kvs, vs, e, r => by
    cases e
    cases r
    exact ⟨[], [], rfl, .nil, .nil⟩
  | d :: l, kvs, vs, e, r => by
    cases r with
    | @cons _ _ v vs h t =>
    unfold IR.pairsK at e
    split at e
    · rename_i heq; cases heq
    · rename_i k w r' heq
      obtain ⟨rfl, rfl⟩ := List.cons.inj heq
      split at e
      · rename_i k' l' e1 e2
        cases e
        obtain ⟨ps, kvs', rfl, h1, h2⟩ := pairsK_of e2 t
        cases h with
        | tup g1 g2 =>
        cases g2 with
        | cons a1 b1 =>
        cases b1 with
        | cons a2 b2 =>
        cases b2
        have ek := ky_of a1.v e1
        subst ek
        exact ⟨_ :: ps, (kyK k', _) :: kvs', rfl, .cons (.of g1) h1, .cons a2 h2⟩
      · cases e
    · cases e
theorem KR.merge {N : Nm} {μ : List Addr} {H : Hp} : ∀ {m : List (IR.Ky × IR.D)} {m' : List (Key × V)} {r : List (IR.Ky × IR.D)} {r' : List (Key × V)}, KR N μ H kyK m m' → KR N μ H kyK r r' → KR N μ H kyK (m.foldl (fun acc p => IR.dPut acc p.1 p.2) r) (mergeK r' m')
  | _, _, _, _, .nil, h => h
  | _, _, _, _, .cons (r := m) (r' := m') q t, h => KR.merge (m := m) (m' := m') t (h.put kyK_inj' q)
def rDictP (K : PySem.W.Frag) : List V → Hp → VK → Prop := fun xs H Q => ∃ (a : Addr) (ps : List Addr) (kvs : List (Key × V)), xs = [.ref a] ∧ SqL K H a (ps.map V.ref) ∧ Paired (fun p kv => SqT K H p [kV kv.1, kv.2]) ps kvs ∧ ∀ p, H p = none → Q (.ref p) (upd H p (.dK (mergeK [] kvs)))
theorem o_dictP {N : Nm} {W : Fm} {μ : List Addr} {S : IR.Sto} {H : Hp} {Q : VK} {a : IR.D} {x : V} (R : Rel N μ S H) (ra : RepV N μ H a x) (g : GV N W μ H (IR.evOp .dictP [a] S) Q) : rDictP N.K [x] H Q := by
  cases a <;> first | exact g.elim | skip
  rename_i l
  obtain ⟨p, vs, rfl, h1, h2⟩ := lst_of (S := S) (l := l) R ra rfl
  have g : GV N W μ H (match IR.pairsK l with
    | some kvs => .ok (.ref S.length) (S ++ [.dK false (kvs.foldl (fun acc p => IR.dPut acc p.1 p.2) [])])
    | none => .bad) Q := g
  split at g
  · rename_i kvs e
    obtain ⟨ps, kvs', rfl, hp, kr⟩ := pairsK_of e h2
    refine ⟨p, ps, kvs', rfl, h1, hp, fun q hq => ?_⟩
    have ex : Ext μ H (μ ++ [q]) (upd H q (.dK (mergeK [] kvs'))) := (Ext.laid hq).add hq
    refine g (μ ++ [q]) _ ex ((R.laid hq).add (R.fresh hq) ⟨_, upd_same, (KR.merge kr .nil).mono ex.w⟩) (.ref q) (Rep.ref ?_) fun _ _ z => nomatch z
    rw [← R.len]; simp
  · exact g.elim
section
variable {D : Wd} {X : Cx} {c : Ctx} {k : Nat} {F : Fm} {pos : Pos} {a b e o tg : Expr} {es : List Expr} {call : Nat → List IR.D → IR.M IR.D} {x y z : IR.E} {p apos cpos tpos : Pos} {mname : List (Str × Nat)} {n : Str}
theorem e_dictP (C : Cm D X c k F) (hg : c.sc.names.lookup ("dict" : Str) = some .globalImplicit) (hm : D.mg "dict" = none) (ha : PE X a (tV D F call x)) (hs : A1 a X) (hh : c.hot = false := by rfl) : PE X (.Call (.Name "dict" p) [a] [] pos) (tV D F call (.op .dictP (.cons false x .nil))) :=
  s_b1 (pe_callTy (call_dictP (C.calm hh)) (C.gl hg) (C.mgn hm) PyProof.Rows.boot_dict (s_cons ha s_nil hs) (he := hs)) fun R ra g => by rw [C.K]; exact o_dictP R ra g
end
end IRS

namespace HT
open PySem PySem.Spec PyProof.Rows
section
variable {prog : Program} {w : World} {A : Around} {E : Value → Shared → Prop} {s : Shared}
theorem adjust_rev (n : Nat) : Builtin.Slice.sliceAdjust none none (-1) (n : Int) = ((n : Int) - 1, -1) := by
  unfold Builtin.Slice.sliceAdjust
  simp
theorem places_rev (n : Nat) : Builtin.Slice.slicePlaces ((n : Int) - 1) (-1) (-1) = n := by
  unfold Builtin.Slice.slicePlaces
  simp
  try omega
theorem sliceApplied_rev {sl : Addr} {vs : Value} {n : Nat} {Q : Int × Int × Nat → Shared → Prop} (hs : s.heap.IsSliceOf sl .none .none vs) (ps : IsPart vs (some (-1)))
    (h : Q ((n : Int) - 1, -1, n) s) : wpAny (model prog w) A (Builtin.Slice.sliceApplied (.ref sl) (pure (n : Int))) Q E s := by
  obtain ⟨os, hos, hcs, hds⟩ := id hs
  unfold Builtin.Slice.sliceApplied Builtin.Slice.sliceFields
  refine wpAny_bind (wpAny_bind (wpAny_field hos hds (x := .none) rfl (wpAny_bind (wpAny_field hos hds (x := .none) rfl (wpAny_bind (wpAny_field hos hds (x := vs) rfl (wpAny_pure ?_)))))))
  refine wpAny_bind (slicePart_ ps ?_)
  show wpAny _ _ (if ((-1 : Int) == 0) = true then _ else _) _ _ s
  rw [if_neg (by decide)]
  refine wpAny_bind (slicePart_none (wpAny_bind (slicePart_none (wpAny_bind (wpAny_pure ?_)))))
  show wpAny _ _ (match Builtin.Slice.sliceAdjust none none (-1) (n : Int) with | (lo, hi) => pure (lo, (-1 : Int), Builtin.Slice.slicePlaces lo hi (-1))) _ _ s
  rw [adjust_rev n]
  show wpAny _ _ (pure ((n : Int) - 1, (-1 : Int), Builtin.Slice.slicePlaces ((n : Int) - 1) (-1) (-1))) _ _ s
  rw [places_rev]
  exact wpAny_pure h
theorem fm_congr {α β : Type} {f g : α → Option β} : ∀ {l : List α}, (∀ x ∈ l, f x = g x) → l.filterMap f = l.filterMap g
  | [], _ => rfl
  | x :: r, h => by
    rw [List.filterMap_cons, List.filterMap_cons, h x (by simp), fm_congr fun y hy => h y (by simp [hy])]
theorem pick_rev (xs : Array Value) : ((List.range xs.size).filterMap fun (m : Nat) => xs[((xs.size : Int) - 1 + (m : Int) * (-1)).toNat]?).toArray = xs.toList.reverse.toArray := by
  congr 1
  have e : (List.range xs.size).filterMap (fun (m : Nat) => xs[((xs.size : Int) - 1 + (m : Int) * (-1)).toNat]?) = ((List.range xs.size).map fun k => xs.size - 1 - k).filterMap (xs[·]?) := by
    rw [List.filterMap_map]
    refine fm_congr fun m hm => ?_
    have := List.mem_range.mp hm
    show xs[((xs.size : Int) - 1 + (m : Int) * (-1)).toNat]? = xs[xs.size - 1 - m]?
    rw [show ((xs.size : Int) - 1 + (m : Int) * (-1)).toNat = xs.size - 1 - m by omega]
  rw [e, PySem.W.krv_range, List.filterMap_reverse, PySem.W.krv_all]
theorem getItem_tuple_rev {t sl : Addr} {items : Array Value} {vs : Value} {Q : Value → Shared → Prop} (ht : IsTup s.heap t items) (hs : s.heap.IsSliceOf sl .none .none vs) (ps : IsPart vs (some (-1)))
    (h : Q (.ref s.heap.objs.size) { s with heap := s.heap.push { cls := .type "tuple", data := .seq items.toList.reverse.toArray } })
    (hsz : items.size ≤ sizeLine) : wpAny (model prog w) A (getItem (.ref t) (.ref sl)) Q E s := by
  have htake : sizeOk (.seq items.toList.reverse.toArray) := by
    show items.toList.reverse.toArray.size ≤ sizeLine
    rw [List.size_toArray, List.length_reverse, Array.length_toList]
    exact hsz
  obtain ⟨os, hos, hcs, hds⟩ := id hs
  have hTs : s.TypeIs (.ref sl) "slice" := ⟨os, hos, hcs⟩
  unfold getItem
  try with_reducible refine wpAny_holding ?_
  first | refine wpAny_bind (wpAny_pure ?_) | skip
  refine wpAny_bind (wpAny_sequenceKey ht.typeIs (by decide) ?_)
  refine wpAny_bind (wpAny_callSpecial?_slot (name := Str.ofString "__getitem__") ht.typeIs PyProof.Rows.slot_tuple_getitem
    (wpAny_call_entry PyProof.Rows.slot_tuple_getitem ht.typeIs entry_tuple_getitem ?_ (args_tuple_getitem _ _)))
  show wpAny _ _ (Builtin.Tuple.tupleItemsOf (.ref t) >>= _) _ _ s
  refine wpAny_bind (tupleItemsOf_ ht ?_)
  refine wpAny_bind (wpAny_typeOf hTs ?_)
  rw [if_pos (by decide)]
  refine wpAny_bind (sliceApplied_rev hs ps ?_)
  have hno : ¬ ((((items.size : Int) - 1 == 0) && (-1 : Int) == 1 && items.size == items.size) = true) := by
    intro q
    rw [Bool.and_eq_true, Bool.and_eq_true] at q
    exact absurd q.1.2 (by decide)
  show wpAny _ _ (if (((items.size : Int) - 1 == 0) && (-1 : Int) == 1 && items.size == items.size) = true then _ else _) _ _ s
  rw [if_neg hno, pick_rev]
  first
    | exact wpAny_bind (m := Builtin.Tuple.tupleExact _) (wpAny_newObj_type (wpAny_pure ⟨_, rfl, wpAny_pure h⟩) htake)
    | exact wpAny_bind (m := Builtin.Tuple.tupleExact _) (wpAny_newObj_type (wpAny_bind (wpAny_pure (wpAny_pure ⟨_, rfl, wpAny_pure h⟩))) htake)
    | exact wpAny_bind (wpAny_bind (m := Builtin.Tuple.tupleExact _) (wpAny_newObj_type (wpAny_pure (wpAny_pure ⟨_, rfl, wpAny_pure h⟩)) htake))
    | exact wpAny_bind (wpAny_bind (m := Builtin.Tuple.tupleExact _) (wpAny_newObj_type (wpAny_pure ⟨_, rfl, wpAny_pure h⟩) htake))
end
end HT
namespace IRS
open PySem PySem.Spec PyProof.Rows L2
/-- xs[::-1] of a list or a tuple -/
def tRevX (K : PySem.W.Frag) (te : TE) : TE := fun σ H Q => te σ H fun x H1 => (∃ a xs, x = .ref a ∧ SqL K H1 a xs ∧ ∀ p, H1 p = none → Q (.ref p) (upd H1 p (.lst xs.reverse))) ∨ (∃ a xs, x = .ref a ∧ SqT K H1 a xs ∧ ∀ p, H1 p = none → Q (.ref p) (upd H1 p (.tup xs.reverse)))
theorem pe_revX {X : Cx} {e : Expr} {te : TE} {k : Nat} {p1 p2 p3 pos : Pos} (he : PE X e te) : PE X (.Subscript e (.Slice none none (some (.UnaryOp .USub (.Constant (.int 1) k p1) p2)) p3) pos) (tRevX X.K te) := by
  refine ⟨fun pins s σ H Q I h => ?_⟩
  refine Subscript_ (thn (he.run pins s σ H _ I h) fun v s1 ⟨x, H1, I1, r1, q1⟩ => ?_)
  have hst : PO X (some (.UnaryOp .USub (.Constant (.int 1) k p1) p2)) (tPart (tUn (rU fun i => .int (-i)) (tC (.int 1)))) := po_some (pe_un un_neg pe_int)
  refine wpAny_Slice (thn (po_none.run pins s1 σ H1 (fun o H2 => o = none ∧ H2 = H1) I1 ⟨rfl, rfl⟩) fun vl s2 ⟨l, H2, I2, pl, el, e2⟩ => ?_)
  subst el e2
  refine thn (po_none.run pins s2 σ H2 (fun o H3 => o = none ∧ H3 = H2) I2 ⟨rfl, rfl⟩) fun vu s3 ⟨u, H3, I3, pu, eu, e3⟩ => ?_
  subst eu e3
  refine thn (hst.run pins s3 σ H3 (fun o H4 => o = some (-1) ∧ H4 = H3) I3 ⟨1, rfl, -1, rfl, rfl, rfl⟩) fun vs s4 ⟨o, H4, I4, ps, eo, e4⟩ => ?_
  subst eo e4
  have I5 : Inv X pins σ H4 { s4 with heap := s4.heap.push { cls := .type "slice", data := .fields #[vl, vu, vs] } } := I4.kept (t' := s4.toks) fun b ob q => Heap.get?_push_of_some _ q
  rcases q1 with ⟨a, xs, ex, hx, q⟩ | ⟨a, xs, ex, hx, q⟩
  · subst ex
    cases r1
    obtain ⟨its, r, ht, hz⟩ := I5.list hx
    have hlen := r.length
    show wpAny (model X.prog X.w) X.A (subscriptTail e (.Slice none none (some (.UnaryOp .USub (.Constant (.int 1) k p1) p2)) p3) (.ref a) (.ref s4.heap.objs.size)) (EP X pins σ Q) X.xe { s4 with heap := s4.heap.push { cls := .type "slice", data := .fields #[vl, vu, vs] } }
    refine tail_any (ops := [.ref a, .ref s4.heap.objs.size]) ht.isList.typeIs (PySem.slot_list_getitem.lookup) ?_ (by with_unfolding_all rfl)
    refine wpAny_getItem_list_slice ht.isList (Heap.IsSliceOf.new _ vl vu vs) pl pu ps (by decide) ?_ (by rw [List.size_toArray]; omega)
    rw [PySem.W.krv_pick]
    refine ⟨.ref _, _, I5.laid (t' := s4.toks) (o := .lst xs.reverse) (fun b ob q => Heap.get?_push_of_some _ q) (Nat.le_refl _) ?_, rfl, q _ (I5.hok.fresh (Nat.le_refl _))⟩
    exact ⟨by rw [List.length_reverse]; exact hz, _, 0, r.reverse, Heap.get?_push_size _ rfl⟩
  · subst ex
    cases r1
    obtain ⟨its, r, ht, hz⟩ := I5.tuple hx
    have hlen := r.length
    cases pl
    cases pu
    show wpAny (model X.prog X.w) X.A (subscriptTail e (.Slice none none (some (.UnaryOp .USub (.Constant (.int 1) k p1) p2)) p3) (.ref a) (.ref s4.heap.objs.size)) (EP X pins σ Q) X.xe { s4 with heap := s4.heap.push { cls := .type "slice", data := .fields #[.none, .none, vs] } }
    refine tail_any (ops := [.ref a, .ref s4.heap.objs.size]) ht.typeIs (PyProof.Rows.slot_tuple_getitem.lookup) ?_ (by with_unfolding_all rfl)
    refine HT.getItem_tuple_rev ht (Heap.IsSliceOf.new _ .none .none vs) ps ?_ (by rw [List.size_toArray]; omega)
    refine ⟨.ref _, _, I5.laid (t' := s4.toks) (o := .tup xs.reverse) (fun b ob q => Heap.get?_push_of_some _ q) (Nat.le_refl _) ?_, rfl, q _ (I5.hok.fresh (Nat.le_refl _))⟩
    exact ⟨by rw [List.length_reverse]; exact hz, _, r.reverse, IsTup.new _ _⟩

section
variable {D : Wd} {X : Cx} {c : Ctx} {k : Nat} {F : Fm} {pos : Pos} {a b e o tg : Expr} {es : List Expr} {call : Nat → List IR.D → IR.M IR.D} {x y z : IR.E} {p apos cpos tpos p1 p2 p3 : Pos} {mname : List (Str × Nat)} {n : Str}
theorem Reps.snoc' {N : Nm} {μ : List Addr} {H : Hp} {d : IR.D} {v : V} (h : Rep N μ H d v) : ∀ {l : List IR.D} {vs : List V}, Reps N μ H l vs → Reps N μ H (l ++ [d]) (vs ++ [v])
  | _, _, .nil => .cons h .nil
  | _, _, .cons a t => .cons a (Reps.snoc' h t)
theorem Reps.rev' {N : Nm} {μ : List Addr} {H : Hp} : ∀ {l : List IR.D} {vs : List V}, Reps N μ H l vs → Reps N μ H l.reverse vs.reverse
  | _, _, .nil => .nil
  | _, _, .cons h t => by
    rw [List.reverse_cons, List.reverse_cons]
    exact Reps.snoc' h (Reps.rev' t)
theorem revS_at {S : IR.Sto} {d : IR.D} (h : ∀ l, d ≠ .tup l) : IR.evOp .revS [d] S = IR.val1 ((IR.lstItems S d).map fun l => .tl l.reverse) S := by
  cases d <;> first | rfl | exact absurd rfl (h _)
theorem e_revS {kk : Nat} (C : Cm D X c k F) (ha : PE X e (tV D F call x)) :
    PE X (.Subscript e (.Slice none none (some (.UnaryOp .USub (.Constant (.int 1) kk p1) p2)) p3) pos) (tV D F call (.op .revS (.cons false x .nil))) := by
  refine PE.weak (pe_revX ha) fun σ H Q q => ?_
  obtain ⟨μ, S, ρ, hI, R, hρ, g⟩ := q
  have g : GV D.N F μ H (((IR.evs D.g call (.cons false x .nil) ρ).bind fun l => IR.evOp .revS l) S) Q := g
  rw [evs1] at g
  rw [C.K]
  refine one (f := fun a => IR.evOp .revS [a]) hI R hρ g fun μ2 S2 H2 d d' R2 rd g2 => ?_
  have lst : ∀ {l : List IR.D}, IR.lstItems S2 d = some l → GV D.N F μ2 H2 (IR.val1 ((IR.lstItems S2 d).map fun l => .tl l.reverse) S2) Q → (∃ a xs, d' = .ref a ∧ SqL D.N.K H2 a xs ∧ ∀ p, H2 p = none → Q (.ref p) (upd H2 p (.lst xs.reverse))) := fun {l} hl g2 => by
    obtain ⟨r, hr, g3⟩ := GV.val1 g2
    rw [hl] at hr
    cases hr
    obtain ⟨ad, vs, rfl, hq, rs⟩ := lst_of R2 rd hl
    exact ⟨ad, vs, rfl, hq, GV.newL R2 g3 rs.rev'⟩
  by_cases ht : ∃ l, d = .tup l
  · obtain ⟨l, rfl⟩ := ht
    obtain ⟨ad, vs, rfl, e1, r⟩ := rd.tup
    exact .inr ⟨ad, vs, rfl, .of e1, GV.newT R2 g2 r.rev'⟩
  · rw [revS_at fun l e => ht ⟨l, e⟩] at g2
    obtain ⟨r, hr, _⟩ := GV.val1 g2
    obtain ⟨l, hl, _⟩ := Option.map_eq_some_iff.mp hr
    exact .inl (lst hl g2)
end
end IRS

namespace IRS
open PySem PySem.Spec PyProof.Rows L2
section
variable {D : Wd} {X : Cx} {c : Ctx} {k : Nat} {F : Fm} {pos : Pos} {a b e o tg : Expr} {es : List Expr} {call : Nat → List IR.D → IR.M IR.D} {x y z : IR.E} {p apos cpos tpos : Pos} {mname : List (Str × Nat)} {n : Str}
/-- x is True, as a test -/
theorem t_cmpT {op : CmpOp} {r : R2} {oo : IR.Op} (ho : OpR X (compareOp op) r) (ha : PE X a (tV D F call x)) {j} {p2 : Pos} (hm : behindInMarks op (.Constant (.bool true) j p2) = false) (hb : ∀ p S d S', IR.evOp oo [p] S = .ok d S' → ∃ b, d = .bl b)
    (h : ∀ {μ S H Q p p'}, Rel D.N μ S H → RepV D.N μ H p p' → GV D.N F μ H (IR.evOp oo [p] S) Q → r p' (.bl true) H Q) : PT X (.Compare a [op] [.Constant (.bool true) j p2] pos) (tB' D F call (.op oo (.cons false x .nil))) := by
  refine PT.weak (pt_cmpR ho ha pe_bl hm) fun σ H Q q => ?_
  obtain ⟨μ, S, ρ, hI, R, hρ, g⟩ := q
  have g : GG D.N F μ H ((((IR.evs D.g call (.cons false x .nil) ρ).bind fun l => IR.evOp oo l).bind IR.truth) S) fun b _ _ H' => Q b H' := g
  rw [IR.M.bind_assoc, evs1] at g
  refine one' (f := fun a => (IR.evOp oo [a]).bind IR.truth) hI R hρ g fun μ2 S2 H2 p p' e2 R2 rp _ g2 => h R2 rp ?_
  have g2 := GG.base e2 g2
  have g2 : GG D.N F μ2 H2 ((IR.evOp oo [p] S2).bind IR.truth) fun b _ _ H' => Q b H' := g2
  cases er : IR.evOp oo [p] S2 with
  | bad => rw [er] at g2; exact g2
  | exc c fs S => rw [er] at g2; exact g2
  | ok d S3 =>
    obtain ⟨b, rfl⟩ := hb _ _ _ _ er
    rw [er] at g2
    exact fun μ' H' e R v rv _ => ⟨b, rv.bl, g2 μ' H' e R⟩
theorem t_isT (ha : PE X a (tV D F call x)) {j} {p2 : Pos} : PT X (.Compare a [.Is] [.Constant (.bool true) j p2] pos) (tB' D F call (.op .isT (.cons false x .nil))) :=
  t_cmpT op_isBl ha (nomark _) (fun p S d S' h => by cases p <;> first | (cases h; exact ⟨_, rfl⟩) | cases h) fun R rp g => o_isT rp R g
theorem t_notT (ha : PE X a (tV D F call x)) {j} {p2 : Pos} : PT X (.Compare a [.IsNot] [.Constant (.bool true) j p2] pos) (tB' D F call (.op .notT (.cons false x .nil))) :=
  t_cmpT op_notBl ha (nomark _) (fun p S d S' h => by cases p <;> first | (cases h; exact ⟨_, rfl⟩) | cases h) fun R rp g => o_notT rp R g
end
end IRS

namespace IRS
open PySem PySem.Spec PyProof.Rows L2
/-! ### texts joined, a sign's place in a text -/
theorem joinL_T (s : IR.Txt) : ∀ ts : List IR.Txt, TL.joinL s ts = IR.joinT s ts
  | [] => rfl
  | [_] => rfl
  | x :: y :: r => by
    show x ++ (s ++ TL.joinL s (y :: r)) = x ++ s ++ IR.joinT s (y :: r)
    rw [joinL_T s (y :: r), List.append_assoc]
theorem sT_join (s : IR.Txt) (ts : List IR.Txt) : Txt.join (sT s) (ts.map sT) = sT (IR.joinT s ts) := by
  rw [TL.join_eq]
  refine TL.ext_tl ?_
  rw [TL.tl_join]
  have e : (ts.map sT).map TL.tl = ts := by
    rw [List.map_map]
    exact (List.map_congr_left (g := id) fun x _ => rfl).trans (List.map_id _)
  rw [e]
  exact joinL_T s ts
theorem joinT_len (s : IR.Txt) : ∀ ts : List IR.Txt, (ts.map List.length).sum + ts.length * s.length ≤ (IR.joinT s ts).length + s.length
  | [] => by simp [IR.joinT]
  | [x] => by simp [IR.joinT]
  | x :: y :: r => by
    have ih := joinT_len s (y :: r)
    simp only [IR.joinT, List.map_cons, List.sum_cons, List.length_cons, List.length_append, Nat.add_mul, Nat.one_mul] at ih ⊢
    omega
def rJoin (K : PySem.W.Frag) : V → List V → Hp → VK → Prop := fun x xs H Q => ∃ a p, ∃ ys : List Str, x = .str a ∧ xs = [.ref p] ∧ (SqL K H p (ys.map V.str) ∨ SqT K H p (ys.map V.str)) ∧
    (ys.map (·.length)).sum + ys.length * a.length ≤ 16777216 ∧ Q (.str (Txt.join a ys)) H
section
variable {N : Nm} {W : Fm} {μ : List Addr} {S : IR.Sto} {H : Hp} {Q : VK} {a b d : IR.D} {x y z : V}
theorem o_join (R : Rel N μ S H) (ra : RepV N μ H a x) (rb : RepV N μ H b y) (g : GV N W μ H (IR.evOp .join [a, b] S) Q) : rJoin N.K x [y] H Q := by
  cases a <;> first | exact g.elim | skip
  rename_i s
  have ea := ra.str
  subst ea
  have g : GV N W μ H (IR.val1 ((IR.lstItems S b).bind fun l => (l.mapM IR.D.isStr).bind fun ts => if s.length ≤ 1000 ∧ (IR.joinT s ts).length ≤ IR.LINE then some (.str (IR.joinT s ts)) else none) S) Q := g
  obtain ⟨d, e, g⟩ := g.val1
  obtain ⟨l, e1, e⟩ := Option.bind_eq_some_iff.mp e
  obtain ⟨ts, e2, e⟩ := Option.bind_eq_some_iff.mp e
  split at e
  · rename_i hl
    cases e
    obtain ⟨p, vs, rfl, h1, h2⟩ := lst_of R rb e1
    have h3 := strs_of e2 h2
    subst h3
    refine ⟨sT s, p, ts.map sT, rfl, rfl, .inl h1, ?_, ?_⟩
    · have z := joinT_len s ts
      have e3 : ((ts.map sT).map fun x => x.length) = ts.map List.length := by
        rw [List.map_map]
        exact List.map_congr_left fun x _ => sT_len x
      rw [e3, List.length_map, sT_len]
      have := hl.1; have := hl.2
      simp only [IR.LINE] at *
      omega
    · rw [sT_join]
      exact g.str R
  · cases e
def rIndexS : V → List V → Hp → VK → Prop := fun x xs H Q => ∃ (a : Str) (c i : Nat), x = .str a ∧ xs = [.str ⟨#[c]⟩] ∧ a.cps.toList[i]? = some c ∧ (∀ k, k < i → a.cps.toList[k]? ≠ some c) ∧ Q (.int (i : Nat)) H
end
theorem mt_indexS {X : Cx} : MtR X "str.index" rIndexS := by
  intro pins s σ H x xs v us Q I rx rs h
  obtain ⟨a, c, i, rfl, rfl, h1, h2, q⟩ := h
  obtain ⟨t, rfl⟩ := rx
  cases rs with
  | cons r1 rs =>
    cases rs
    obtain ⟨u, rfl⟩ := r1
    have atI : ∀ k, PySem.StrLaws.At a ⟨#[c]⟩ a.length k ↔ a.cps.toList[k]? = some c := fun k => PySem.StrLaws.subAt_one a c k
    rcases PySem.StrLaws.occ_head a ⟨#[c]⟩ 1 (Nat.le_refl _) with ⟨_, hn⟩ | ⟨j, r, e, hj, hk⟩
    · exact absurd ((atI i).mpr h1) (hn i)
    · have ej : j = i := by
        rcases Nat.lt_trichotomy j i with l | l | l
        · exact absurd ((atI j).mp hj) (h2 j l)
        · exact l
        · exact absurd ((atI i).mpr h1) (hk i l)
      subst ej
      exact PySem.SC.index e ⟨.int (j : Nat), H, I.tok _, ⟨_, rfl⟩, q⟩
theorem findIdx_at {c : Nat} : ∀ {s : List Nat} {n : Nat}, s.findIdx? (· == c) = some n → s[n]? = some c ∧ ∀ k, k < n → s[k]? ≠ some c
  | [], n, h => by simp at h
  | x :: r, n, h => by
    rw [List.findIdx?_cons] at h
    by_cases e : (x == c) = true
    · rw [if_pos e] at h
      cases h
      exact ⟨by simpa using e, fun k hk => by omega⟩
    · rw [if_neg e] at h
      obtain ⟨m, hm, rfl⟩ := Option.map_eq_some_iff.mp h
      obtain ⟨h1, h2⟩ := findIdx_at hm
      refine ⟨by simpa using h1, fun k hk => ?_⟩
      cases k with
      | zero => intro z; simp at z; exact e (by simpa using z)
      | succ k => simpa using h2 k (by omega)
section
variable {N : Nm} {W : Fm} {μ : List Addr} {S : IR.Sto} {H : Hp} {Q : VK} {a b d : IR.D} {x y z : V}
theorem o_indexS {s : IR.Txt} (R : Rel N μ S H) (ra : RepV N μ H (.str s) x) (rb : RepV N μ H b y) (g : GV N W μ H (IR.evOp .indexS [.str s, b] S) Q) : rIndexS x [y] H Q := by
  have ea := ra.str
  subst ea
  have key : ∀ c, b = .str [c] → rIndexS (.str (sT s)) [y] H Q := fun c e => by
    subst e
    have eb := rb.str
    subst eb
    have g : GV N W μ H (IR.val1 ((s.findIdx? (· == c)).map fun (n : Nat) => IR.D.int (n : Int)) S) Q := g
    obtain ⟨d, e, g⟩ := g.val1
    obtain ⟨n, hn, rfl⟩ := Option.map_eq_some_iff.mp e
    obtain ⟨h1, h2⟩ := findIdx_at hn
    exact ⟨sT s, c, n, rfl, rfl, h1, h2, g.int R⟩
  cases b with
  | str t =>
    match t, key with
    | [c], key => exact key c rfl
    | [], _ => exact g.elim
    | _ :: _ :: _, _ => exact g.elim
  | _ => exact g.elim
end
/-! ### displays of dicts -/
/-- the pairs of a display, as told by the small language -/
structure PD (D : Wd) (X : Cx) (F : Fm) (call : Nat → List IR.D → IR.M IR.D) (pos : Pos) (keys : List (Option Expr)) (values : List Expr) (ks : List IR.Txt) (xs : IR.Es) (trs : List (TE × TE)) : Prop where
  run : PPs X pos keys values trs
  own : ∀ o ∈ esOwn xs, o = true
  len : (esOwn xs).length = ks.length ∧ keys.length = ks.length ∧ values.length = ks.length
  say : ∀ σ H (Q : List (V × V) → Hp → Prop), tAs D F call xs σ H (fun vs H2 => Q ((ks.map fun t => V.str (sT t)).zip vs) H2) → tPairs trs σ H Q
  all : keys.all (·.isSome) = true
section
variable {D : Wd} {X : Cx} {c : Ctx} {k : Nat} {F : Fm} {pos : Pos} {a b e o tg : Expr} {es : List Expr} {call : Nat → List IR.D → IR.M IR.D} {x y z : IR.E} {p apos cpos tpos : Pos} {mname : List (Str × Nat)} {n : Str}
theorem pd_nil : PD D X F call pos [] [] [] .nil [] where
  run := pps_nil
  own := fun _ h => nomatch h
  len := ⟨rfl, rfl, rfl⟩
  say := fun σ H Q q => by
    obtain ⟨μ, S, ρ, hI, R, hρ, g⟩ := q
    exact g μ H (Ext.refl _ _) R [] .nil
  all := rfl
theorem pd_cons {keys : List (Option Expr)} {values : List Expr} {t : IR.Txt} {ks : List IR.Txt} {xs : IR.Es} {trs : List (TE × TE)} {j} {kp : Pos} (hk : sT t = n) (hv : PE X e (tV D F call x)) (r : PD D X F call pos keys values ks xs trs) :
    PD D X F call pos (some (.Constant (.str n) j kp) :: keys) (e :: values) (t :: ks) (.cons true x xs) ((tC (.str n), tV D F call x) :: trs) := by
  refine ⟨pps_cons pe_str hv r.run, fun o ho => (List.mem_cons.mp ho).elim id (r.own o), ⟨?_, ?_, ?_⟩, fun σ H Q q => ?_, ?_⟩
  · show (esOwn xs).length + 1 = _; rw [r.len.1]; rfl
  · simp [r.len.2.1]
  · simp [r.len.2.2]
  · obtain ⟨μ, S, ρ, hI, R, hρ, g⟩ := q
    show tV D F call x σ H fun y H2 => tPairs trs σ H2 fun ps H3 => Q ((V.str n, y) :: ps) H3
    refine ⟨μ, S, ρ, hI, R, hρ, ?_⟩
    have g : GG D.N F μ H (((IR.ev D.g call x ρ S).bind (IR.ownIf true)).bind fun x => (IR.evs D.g call xs ρ).bind fun l => IR.M.pure (x :: l)) fun ds _ μ' H' => ∀ vs, RepOs D.N μ' H' (true :: esOwn xs) ds vs → Q (((t :: ks).map fun t => V.str (sT t)).zip vs) H' := by
      have e : IR.evs D.g call (.cons true x xs) ρ S = ((IR.ev D.g call x ρ S).bind (IR.ownIf true)).bind fun x => (IR.evs D.g call xs ρ).bind fun l => IR.M.pure (x :: l) := by
        simp only [IR.evs, IR.M.bind]
        cases IR.ev D.g call x ρ S <;> rfl
      rw [← e]; exact g
    refine GG.own g fun μ1 S1 H1 d v e1 R1 rd g1 => ?_
    refine r.say σ H1 _ ⟨μ1, S1, ρ, hI, R1, hρ.mono e1.w, ?_⟩
    refine GG.imp (GG.bind (show GG D.N F μ1 H1 ((IR.evs D.g call xs ρ S1).bind fun l => IR.M.pure (d :: l)) _ from g1)) fun ds S2 μ2 H2 e2 R2 g2 vs rs => ?_
    have q := g2 μ2 H2 (Ext.refl _ _) R2 (v :: vs) (.cons (rd.mono e2) rs)
    rw [List.map_cons, List.zip_cons_cons, hk] at q
    exact q
  · simp [r.all]
theorem merge_new : ∀ {m acc : List (Key × V)}, ((acc ++ m).map (·.1)).Nodup → mergeK acc m = acc ++ m
  | [], acc, _ => by simp [mergeK]
  | p :: m, acc, h => by
    have hp : putK acc p.1 p.2 = acc ++ [p] := by
      unfold putK
      rw [if_neg]
      intro z
      obtain ⟨q, hq, e⟩ := List.any_eq_true.mp z
      rw [List.map_append, List.nodup_append] at h
      exact h.2.2 q.1 (List.mem_map.mpr ⟨q, hq, rfl⟩) p.1 (List.mem_map.mpr ⟨p, List.mem_cons_self, rfl⟩) (by simpa using e)
    show mergeK (putK acc p.1 p.2) m = _
    rw [hp, merge_new (by simpa using h)]
    simp
theorem kr_disp {N : Nm} {μ : List Addr} {H : Hp} : ∀ {ks : List IR.Txt} {ds : List IR.D} {vs : List V}, Reps N μ H ds vs → KR N μ H kyK ((ks.zip ds).map fun p => (.inr p.1, p.2)) ((ks.zip vs).map fun p => (Sum.inr (sT p.1), p.2))
  | [], _, _, _ => .nil
  | _ :: _, _, _, .nil => .nil
  | t :: ks, _, _, .cons a r => .cons (f := kyK) (k := .inr t) a (kr_disp r)
theorem e_disp {keys : List (Option Expr)} {values : List Expr} {ks : List IR.Txt} {xs : IR.Es} {trs : List (TE × TE)} (h : PD D X F call pos keys values ks xs trs) (hn : ks.Nodup) (h0 : ks ≠ []) (h15 : ks.length ≤ 15) :
    PE X (.Dict keys values pos) (tV D F call (.op (.disp ks) xs)) := by
  refine PE.weak (pe_disp h.run h.all (h.len.2.1.trans h.len.2.2.symm) (fun z => h0 (List.eq_nil_of_length_eq_zero (by rw [← h.len.2.1, z]; rfl))) (by rw [h.len.2.1]; exact h15)) fun σ H Q q p hp => ?_
  obtain ⟨μ, S, ρ, hI, R, hρ, g⟩ := q
  have e0 : Ext μ H μ (upd H p (.dK [])) := Ext.laid hp
  refine h.say σ _ _ ⟨μ, S, ρ, hI, R.laid hp, hρ.mono e0.w, ?_⟩
  have g : GV D.N F μ H ((IR.evs D.g call xs ρ S).bind fun l => IR.evOp (.disp ks) l) Q := g
  cases er : IR.evs D.g call xs ρ S with
  | bad => rw [er] at g; exact g.elim
  | exc c fs S2 =>
    rw [er] at g
    have g : GG D.N F μ H (.exc c fs S2 : IR.Res IR.D) (fun _ _ _ _ => True) := g
    exact GG.base e0 g
  | ok ds S2 =>
  rw [er] at g
  have g : GV D.N F μ H (IR.evOp (.disp ks) ds S2) Q := g
  intro μ2 H2 e2 R2 vs rs
  have hp2 : p ∉ μ := R.fresh hp
  have ep : H2 p = some (.dK []) := e2.keep _ _ hp2 upd_same
  have np : p ∉ μ2 := fun z => by
    rcases e2.new _ z with z | z
    · exact hp2 z
    · rw [upd_same] at z; cases z
  refine ⟨ep, (ks.zip vs).map fun q => (Sum.inr (sT q.1), q.2), ?_, ?_, ?_⟩
  · rw [List.map_map]
    have : ∀ (l : List IR.Txt) (vs : List V), (l.map fun t => V.str (sT t)).zip vs = (l.zip vs).map fun q => (V.str (sT q.1), q.2) := fun l vs => by
      rw [List.zip_map_left]; rfl
    rw [this]; rfl
  · simp only [List.length_map, List.length_zip]; omega
  · have rs' := rs.reps h.own
    have hk : mergeK [] ((ks.zip vs).map fun q => ((Sum.inr (sT q.1) : Key), q.2)) = (ks.zip vs).map fun q => (Sum.inr (sT q.1), q.2) := by
      have := merge_new (acc := []) (m := (ks.zip vs).map fun q => ((Sum.inr (sT q.1) : Key), q.2)) ?_
      · simpa using this
      · rw [List.nil_append, List.map_map]
        have e3 : ((ks.zip vs).map ((fun x => x.1) ∘ fun q : IR.Txt × V => ((Sum.inr (sT q.1) : Key), q.2))) = (ks.zip vs).map fun q => (Sum.inr (sT q.1) : Key) := rfl
        rw [e3]
        have hl : ks.length = vs.length := by rw [← h.len.1, rs.length.2]
        have e4 : (ks.zip vs).map (fun q => (Sum.inr (sT q.1) : Key)) = ks.map fun t => Sum.inr (sT t) := by
          rw [← List.map_fst_zip (l₁ := ks) (l₂ := vs) (by omega), List.map_map]
          rw [List.map_fst_zip (by omega)]
          rfl
        rw [e4]
        exact List.Pairwise.map (fun t => (Sum.inr (sT t) : Key)) (fun a b hab e => hab (sT_inj (by simpa using e))) hn
    rw [hk]
    have ne : ∀ a o, H a = some o → a ≠ p := fun a o z => ne_of_none z hp
    have up : ∀ a o, H a = some o → (upd H p (.dK [])) a = some o := fun a o z => by rw [upd_ne (ne a o z)]; exact z
    have ex : Ext μ H (μ2 ++ [p]) (upd H2 p (.dK ((ks.zip vs).map fun q => (Sum.inr (sT q.1), q.2)))) := by
      refine ⟨e2.pre.trans (List.prefix_append _ _), fun a ha => ?_, fun a o ha z => ?_, fun a o z => ?_, fun a o u z => ?_⟩
      · rcases List.mem_append.mp ha with ha | ha
        · rcases e2.new a ha with z | z
          · exact .inl z
          · by_cases ea : a = p
            · subst ea; exact .inr hp
            · rw [upd_ne ea] at z; exact .inr z
        · rw [List.mem_singleton.mp ha]; exact .inr hp
      · rw [upd_ne (ne _ _ z)]; exact e2.keep _ _ ha (up _ _ z)
      · rw [upd_ne (ne _ _ z)]; exact e2.tup _ _ (up _ _ z)
      · rw [upd_ne (ne _ _ z)]; exact e2.frz _ _ _ (up _ _ z)
    have w2 : WExt μ2 H2 μ2 (upd H2 p (.dK ((ks.zip vs).map fun q => (Sum.inr (sT q.1), q.2)))) :=
      ⟨List.prefix_refl _, fun a us z => by rw [upd_ne (fun e => by rw [e, ep] at z; cases z)]; exact z, fun a q us z => by rw [upd_ne (fun e => by rw [e, ep] at z; cases z)]; exact z, fun a q us z => by rw [upd_ne (fun e => by rw [e, ep] at z; cases z)]; exact z⟩
    have R3 : Rel D.N μ2 S2 (upd H2 p (.dK ((ks.zip vs).map fun q => (Sum.inr (sT q.1), q.2)))) :=
      ⟨R2.len, R2.nd, fun i q a h1 h2 => (R2.ob i q a h1 h2).mono w2 (upd_ne fun z => by rw [← z] at np; exact np (List.mem_of_getElem? h2))⟩
    refine g (μ2 ++ [p]) _ ex (R3.add np ⟨_, upd_same, ((kr_disp rs').mono w2).mono .add⟩) (.ref p) (Rep.ref ?_) fun _ _ z => nomatch z
    rw [← R2.len]; simp
end
end IRS

namespace IRS
open PySem PySem.Spec PyProof.Rows L2
section
variable {D : Wd} {X : Cx} {c : Ctx} {k : Nat} {F : Fm} {pos : Pos} {a b e o tg : Expr} {es : List Expr} {call : Nat → List IR.D → IR.M IR.D} {x y z : IR.E} {p apos cpos tpos : Pos} {mname : List (Str × Nat)} {n : Str}
theorem e_join (C : Cm D X c k F) (ho : PE X o (tV D F call x)) (ha : PE X e (tV D F call y)) (hs : A1 e X) (hbase : attributeBase o ("join" : Str) X.env (eval o X.env) = eval o X.env) (hline : (apos.endLine == pos.line) = true) :
    PE X (.Call (.Attribute o ("join" : Str) apos) [e] [] pos) (tV D F call (.bm .join x (.cons false y .nil))) :=
  s_bm C (kd := 3) (r := rJoin X.K) PySem.F.plainAttrs_str PySem.F.slot_str_join PySem.F.type_str_join mt_join rfl ho (s_cons ha s_nil hs) (fun R rd rs g => by
    cases rs with
    | cons r1 rr => cases rr; rw [C.K]; exact o_join R rd r1 g) hbase (by rw [hs]; rfl) hline hs rfl
theorem e_indexS (C : Cm D X c k F) (ho : PE X o (tV D F call x)) (ha : PE X e (tV D F call y)) (hs : A1 e X) (hbase : attributeBase o ("index" : Str) X.env (eval o X.env) = eval o X.env) (hline : (apos.endLine == pos.line) = true) :
    PE X (.Call (.Attribute o ("index" : Str) apos) [e] [] pos) (tV D F call (.bm .indexS x (.cons false y .nil))) :=
  s_bm C (kd := 3) (r := rIndexS) PySem.F.plainAttrs_str PySem.F.slot_str_index PySem.F.type_str_index mt_indexS rfl ho (s_cons ha s_nil hs) (fun {μ S H Q d v ds vs} R rd rs g => by
    cases rs with
    | cons r1 rr =>
      cases rr
      cases d with
      | str s => exact o_indexS R rd r1 g
      | _ => exact g.elim) hbase (by rw [hs]; rfl) hline hs rfl
/-! ### a def out of a list, called -/
/-- every def that may be a value -/
def FnsAt (D : Wd) (k : Nat) (call : Nat → List IR.D → IR.M IR.D) : Prop := ∀ i f, D.N.fnA i = some f → ∃ np fd ps, FnAt D k (call i) i np f fd ps ∧ ∀ l S, l.length ≠ np → call i l S = .bad
theorem call_sub {func e : Expr} {args : List Expr} {q : Pos} (env : Env) : eval (.Call (.Subscript func e q) args [] pos) env = (do callWith pos (← eval (.Subscript func e q) env) [] (backTo pos (starEach args env)) (backToKw pos (keywordEach [] env))) := rfl
theorem e_callv {q : Pos} {xs : IR.Es} (C : Cm D X c k F) (A : FnsAt D k call) (hf : PE X (.Subscript a b q) (tV D F call x)) (ha : PA X (e :: es) (tAs D F call xs)) (ho : ∀ o ∈ esOwn xs, o = true)
    (he : starEach (e :: es) X.env = (false, eval e X.env) :: starEach es X.env) (hpl : (backTo pos (starEach es X.env)).any (·.1) = false) (hh : c.hot = false := by rfl) :
    PE X (.Call (.Subscript a b q) (e :: es) [] pos) (tV D F call (.callv x xs)) := by
  refine ⟨fun pins s σ H Q I h => ?_⟩
  rw [call_sub]
  obtain ⟨μ, S, ρ, hI, R, hρ, g⟩ := h
  refine wpAny_bind (thn (hf.run pins s σ H (fun v H1 => ∃ f i μ1 S1, v = .ref f ∧ D.N.fnA i = some f ∧ Ext μ H μ1 H1 ∧ Rel D.N μ1 S1 H1 ∧ GV D.N F μ1 H1 (((IR.evs D.g call xs ρ).bind fun l => call i l) S1) Q) I ?_) fun u s1 ⟨v, H1, I1, r1, f, i, μ1, S1, ev, hfn, e1, R1, g1⟩ => ?_)
  · refine one' (f := fun d => match d with | .fn i => (IR.evs D.g call xs ρ).bind fun l => call i l | _ => IR.M.bad) hI R hρ g fun μ1 S1 H1 d v e1 R1 rd _ g1 => ?_
    cases d with
    | fn i =>
      cases rd with
      | fn hfn => exact ⟨_, i, μ1, S1, rfl, hfn, e1, R1, GV.base e1 g1⟩
    | _ => exact g1.elim
  · subst ev
    cases r1
    obtain ⟨np, fd, ps, Af, hbad⟩ := A i f hfn
    have ok : FnOk X.prog X.w X.K X.mg X.base (L2.CX X.prog X.w) k f fd ps (spOf D.N (call i) np) := by rw [C.prog, C.w, C.K, C.mg, C.base]; exact Af.ok
    refine PySem.W.callWith_K (h₀ := X.base) I1.ok.mod.kin (by rw [C.K]; exact Af.kp) (thn (ha.run pos pins s1 σ H1 (fun vs H2 => spOf D.N (call i) np vs H2 Q (WE F.W σ)) I1 ?_) fun us s2 ⟨vs, H2, I2, r, q⟩ => ⟨I2.kIn, run_fnS ok (C.room hh) (by rw [C.K]; exact Af.bi) (passAt C.tk σ) I2 r q⟩) he hpl
    refine argsG (f := fun l => call i l) hI R1 (hρ.mono e1.w) g1 fun μ2 S2 H2 ds vs _ R2 rs g2 => ?_
    by_cases hl : ds.length = np
    · exact ⟨by rw [rs.length.2, ← rs.length.1]; exact hl, μ2, S2, ds, R2, rs.reps ho, gv_call hI g2⟩
    · rw [hbad ds S2 hl] at g2; exact g2.elim
/-- a def that is a value, and how many it takes -/
theorem callD_len {g : IR.G} {n i : Nat} {l : List IR.D} {S : IR.Sto} {d : IR.Fn} (h : g.fns i = some d) (hl : l.length ≠ d.np) : IR.callD g n i l S = .bad := by
  cases n with
  | zero => rw [IR.callD_z]; rfl
  | succ n => simp only [IR.callD_s, h, if_neg hl]; rfl
end
end IRS

namespace IRS
open PySem PySem.Spec PyProof.Rows L2
/-! ### expressions that only read -/
inductive Rd' : IR.E → Prop
  | var (i : Nat) : Rd' (.var i)
  | c (d : IR.D) : Rd' (.c d)
  | ix {a b : IR.E} : Rd' a → Rd' b → Rd' (.op .ix (.cons false a (.cons false b .nil)))
  | attr {f : Nat} {a : IR.E} : Rd' a → Rd' (.op (.attr f) (.cons false a .nil))
  | neg {a : IR.E} : Rd' a → Rd' (.op .neg (.cons false a .nil))
/-- the same but for locks -/
def Lkd (S S' : IR.Sto) : Prop := ∀ m : Nat, (S'[m]? : Option IR.MO) = S[m]? ∨ (∃ (l l' : Bool) (kvs : List (IR.Ky × IR.D)), S[m]? = some (IR.MO.dK l kvs) ∧ S'[m]? = some (IR.MO.dK l' kvs)) ∨ ∃ (l l' : Bool) (kvs : List (List IR.Ky × IR.D)), S[m]? = some (IR.MO.dT l kvs) ∧ S'[m]? = some (IR.MO.dT l' kvs)
theorem Lkd.refl {S : IR.Sto} : Lkd S S := fun _ => .inl rfl
theorem Lkd.dK {S : IR.Sto} {r : Nat} {l l' : Bool} {kvs : List (IR.Ky × IR.D)} (h : S[r]? = some (.dK l kvs)) : Lkd S (S.set r (.dK l' kvs)) := fun m => by
  by_cases e : r = m
  · subst e
    exact .inr (.inl ⟨l, l', kvs, h, List.getElem?_set_self (List.getElem?_eq_some_iff.mp h).1⟩)
  · exact .inl (List.getElem?_set_ne e)
theorem Lkd.dT {S : IR.Sto} {r : Nat} {l l' : Bool} {kvs : List (List IR.Ky × IR.D)} (h : S[r]? = some (.dT l kvs)) : Lkd S (S.set r (.dT l' kvs)) := fun m => by
  by_cases e : r = m
  · subst e
    exact .inr (.inr ⟨l, l', kvs, h, List.getElem?_set_self (List.getElem?_eq_some_iff.mp h).1⟩)
  · exact .inl (List.getElem?_set_ne e)
theorem Lkd.ixD {S S' : IR.Sto} (h : Lkd S S') (a i : IR.D) : IR.ixD S' a i = IR.ixD S a i := by
  cases a with
  | ref m =>
    rcases h m with e | ⟨l, l', kvs, e1, e2⟩ | ⟨l, l', kvs, e1, e2⟩
    · simp only [IR.ixD, e]
    · simp only [IR.ixD, e1, e2]
    · simp only [IR.ixD, e1, e2]
  | _ => rfl
theorem ix_at {a i : IR.D} {S : IR.Sto} : IR.evOp .ix [a, i] S = IR.val1 (IR.ixD S a i) S := rfl
section
variable {g : IR.G} {call : Nat → List IR.D → IR.M IR.D}
theorem rd_ev {x : IR.E} (h : Rd' x) {ρ : IR.Env} {S S' : IR.Sto} (L : Lkd S S') : (∃ d, IR.ev g call x ρ S = .ok d S ∧ IR.ev g call x ρ S' = .ok d S') ∨ IR.ev g call x ρ S = .bad := by
  induction h with
  | var i =>
    simp only [IR.ev, IR.getVar]
    split
    · exact .inl ⟨_, rfl, rfl⟩
    · exact .inr rfl
  | c d => exact .inl ⟨d, by simp only [IR.ev]; rfl, by simp only [IR.ev]; rfl⟩
  | @ix a b _ _ iha ihb =>
    have e : ∀ T, IR.ev g call (.op .ix (.cons false a (.cons false b .nil))) ρ T = ((IR.ev g call a ρ T).bind fun p => (IR.ev g call b ρ).bind fun q => IR.evOp .ix [p, q]) := fun T => by
      simp only [IR.ev]
      exact evs2
    rw [e S, e S']
    rcases iha with ⟨d, h1, h2⟩ | h1
    · rw [h1, h2]
      show (∃ d_1, ((IR.ev g call b ρ S).bind fun q => IR.evOp .ix [d, q]) = .ok d_1 S ∧ ((IR.ev g call b ρ S').bind fun q => IR.evOp .ix [d, q]) = .ok d_1 S') ∨ ((IR.ev g call b ρ S).bind fun q => IR.evOp .ix [d, q]) = .bad
      rcases ihb with ⟨i, h3, h4⟩ | h3
      · rw [h3, h4]
        show (∃ d_1, IR.evOp .ix [d, i] S = .ok d_1 S ∧ IR.evOp .ix [d, i] S' = .ok d_1 S') ∨ IR.evOp .ix [d, i] S = .bad
        rw [ix_at, ix_at, L.ixD]
        cases IR.ixD S d i with
        | none => exact .inr rfl
        | some y => exact .inl ⟨y, rfl, rfl⟩
      · rw [h3]; exact .inr rfl
    · rw [h1]; exact .inr rfl
  | @attr f a _ iha =>
    have e : ∀ T, IR.ev g call (.op (.attr f) (.cons false a .nil)) ρ T = ((IR.ev g call a ρ T).bind fun p => IR.evOp (.attr f) [p]) := fun T => by
      simp only [IR.ev]
      exact evs1
    rw [e S, e S']
    rcases iha with ⟨d, h1, h2⟩ | h1
    · rw [h1, h2]
      show (∃ d_1, IR.evOp (.attr f) [d] S = .ok d_1 S ∧ IR.evOp (.attr f) [d] S' = .ok d_1 S') ∨ IR.evOp (.attr f) [d] S = .bad
      cases d with
      | ref m =>
        have key : ∀ T, IR.evOp (.attr f) [.ref m] T = match T[m]? with
          | some (.ins _ fs) => IR.val1 (fs.lookup f) T
          | _ => .bad := fun T => rfl
        rw [key, key]
        rcases L m with e | ⟨l, l', kvs, e1, e2⟩ | ⟨l, l', kvs, e1, e2⟩
        · rw [e]
          split
          · rename_i fs _
            cases fs.lookup f with
            | none => exact .inr rfl
            | some y => exact .inl ⟨y, rfl, rfl⟩
          · exact .inr rfl
        · rw [e1]; exact .inr rfl
        · rw [e1]; exact .inr rfl
      | _ => exact .inr rfl
    · rw [h1]; exact .inr rfl
  | @neg a _ iha =>
    have e : ∀ T, IR.ev g call (.op .neg (.cons false a .nil)) ρ T = ((IR.ev g call a ρ T).bind fun p => IR.evOp .neg [p]) := fun T => by
      simp only [IR.ev]
      exact evs1
    rw [e S, e S']
    rcases iha with ⟨d, h1, h2⟩ | h1
    · rw [h1, h2]
      show (∃ d_1, IR.evOp .neg [d] S = .ok d_1 S ∧ IR.evOp .neg [d] S' = .ok d_1 S') ∨ IR.evOp .neg [d] S = .bad
      cases d with
      | int i => exact .inl ⟨_, rfl, rfl⟩
      | _ => exact .inr rfl
    · rw [h1]; exact .inr rfl
end
/-! ### the turns of a dict -/
section
variable {N : Nm} {μ1 : List Addr} {H1 : Hp} {S1 : IR.Sto}
theorem KR.at_ {κ κ' : Type} {f : κ → κ'} : ∀ {r : List (κ × IR.D)} {r' : List (κ' × V)} {i : Nat} {k : κ} {d : IR.D}, KR N μ1 H1 f r r' → r[i]? = some (k, d) → ∃ v, r'[i]? = some (f k, v) ∧ Rep N μ1 H1 d v
  | _, _, i, k, d, .nil, h => by simp at h
  | _, _, 0, k, d, .cons a _, h => by simp at h; obtain ⟨rfl, rfl⟩ := h; exact ⟨_, rfl, a⟩
  | _, _, i + 1, k, d, .cons _ r, h => by simpa using KR.at_ (i := i) r (by simpa using h)
theorem rep_ky (k : IR.Ky) : Rep N μ1 H1 k.d (kV (kyK k)) := by
  cases k with
  | inl i => exact .int i
  | inr t => exact .str t
theorem reps_kys : ∀ ks : List IR.Ky, Reps N μ1 H1 (ks.map IR.Ky.d) ((ks.map kyK).map kV)
  | [] => .nil
  | k :: ks => .cons (rep_ky k) (reps_kys ks)
variable {a : Addr} {o : Obj}
theorem fol_items {kvs : List (IR.Ky × IR.D)} {r : List (Key × V)} (h1 : H1 a = some (.frz o (.dK r))) (h2 : KR N μ1 H1 kyK kvs r) : Fol N μ1 H1 (Iti a o r) (kvs.map fun p => if false then p.2 else .tup [p.1.d, p.2]) := by
  intro μ' S' H' e R i
  have h1' := e.frz _ _ _ h1
  refine ⟨fun d hd => ?_, fun hi => ⟨h1', by rw [← h2.length]; simpa using hi⟩⟩
  rw [List.getElem?_map] at hd
  obtain ⟨⟨k, dv⟩, hk, rfl⟩ := Option.map_eq_some_iff.mp hd
  obtain ⟨v, hv, q⟩ := h2.at_ hk
  refine ⟨⟨h1', (List.getElem?_eq_some_iff.mp hv).1⟩, fun x H'' y => ?_⟩
  obtain ⟨T, k', v', e1, rfl, hT, rfl⟩ := y
  rw [hv] at e1; cases e1
  refine ⟨Ext.laid hT, R.laid hT, ?_⟩
  exact .tup upd_same (.cons (rep_ky k) (.cons ((q.mono e.w).mono (Ext.laid hT).w) .nil))
theorem fol_vals {kvs : List (IR.Ky × IR.D)} {r : List (Key × V)} (h1 : H1 a = some (.frz o (.dK r))) (h2 : KR N μ1 H1 kyK kvs r) : Fol N μ1 H1 (Itd a o r) (kvs.map fun p => if true then p.2 else .tup [p.1.d, p.2]) := by
  intro μ' S' H' e R i
  have h1' := e.frz _ _ _ h1
  refine ⟨fun d hd => ?_, fun hi => ⟨h1', by rw [← h2.length]; simpa using hi⟩⟩
  rw [List.getElem?_map] at hd
  obtain ⟨⟨k, dv⟩, hk, rfl⟩ := Option.map_eq_some_iff.mp hd
  obtain ⟨v, hv, q⟩ := h2.at_ hk
  refine ⟨⟨h1', (List.getElem?_eq_some_iff.mp hv).1⟩, fun x H'' y => ?_⟩
  obtain ⟨rfl, k', e1⟩ := y
  rw [hv] at e1; cases e1
  exact ⟨Ext.refl _ _, R, q.mono e.w⟩
theorem fol_keysT {kvs : List (List IR.Ky × IR.D)} {r : List (List Key × V)} (h1 : H1 a = some (.frz o (.dT r))) (h2 : KR N μ1 H1 (·.map kyK) kvs r) : Fol N μ1 H1 (Itkt a o r) (kvs.map fun p => .tup (p.1.map IR.Ky.d)) := by
  intro μ' S' H' e R i
  have h1' := e.frz _ _ _ h1
  refine ⟨fun d hd => ?_, fun hi => ⟨h1', by rw [← h2.length]; simpa using hi⟩⟩
  rw [List.getElem?_map] at hd
  obtain ⟨⟨k, dv⟩, hk, rfl⟩ := Option.map_eq_some_iff.mp hd
  obtain ⟨v, hv, q⟩ := h2.at_ hk
  refine ⟨⟨h1', (List.getElem?_eq_some_iff.mp hv).1⟩, fun x H'' y => ?_⟩
  obtain ⟨rfl, k', v', t, e1, rfl, ht⟩ := y
  rw [hv] at e1; cases e1
  exact ⟨Ext.refl _ _, R, .tup ht (reps_kys k)⟩
end
/-! ### locks -/
section
variable {N : Nm} {W : Fm} {μ μ2 : List Addr} {S S2 : IR.Sto} {H H2 : Hp} {p : Addr} {od : Obj} {u : HO} {n : Nat}
theorem w_unl (h : H2 p = some (.frz od u)) (hu : (∀ xs, u ≠ .lst xs) ∧ ∀ r, u ≠ .xd r) : WExt μ2 H2 μ2 (upd H2 p u) :=
  ⟨List.prefix_refl _, fun a us z => by rw [upd_ne (fun e => by rw [e, h] at z; cases z)]; exact z,
   fun a q us z => by rw [upd_ne (fun e => by rw [e, h] at z; cases z; exact hu.1 _ rfl)]; exact z,
   fun a q us z => by rw [upd_ne (fun e => by rw [e, h] at z; cases z; exact hu.2 _ rfl)]; exact z⟩
theorem e_unl (h0 : H p = some u) (hp : p ∈ μ) (hu : (∀ vs, u ≠ .tup vs) ∧ ∀ o w, u ≠ .frz o w) (e : Ext μ (upd H p (.frz od u)) μ2 H2) : Ext μ H μ2 (upd H2 p u) := by
  have ne : ∀ a o, H a = some o → a ≠ p → (upd H p (.frz od u)) a = some o := fun a o z n => by rw [upd_ne n]; exact z
  refine ⟨e.pre, fun a ha => ?_, fun a o ha z => ?_, fun a o z => ?_, fun a o w z => ?_⟩
  · rcases e.new a ha with z | z
    · exact .inl z
    · by_cases ea : a = p
      · exact .inl (ea ▸ hp)
      · rw [upd_ne ea] at z; exact .inr z
  · have n : a ≠ p := fun x => ha (x ▸ hp)
    rw [upd_ne n]; exact e.keep _ _ ha (ne _ _ z n)
  · have n : a ≠ p := fun x => by rw [x, h0] at z; exact hu.1 _ (Option.some.inj z)
    rw [upd_ne n]; exact e.tup _ _ (ne _ _ z n)
  · have n : a ≠ p := fun x => by rw [x, h0] at z; exact hu.2 _ _ (Option.some.inj z)
    rw [upd_ne n]; exact e.frz _ _ _ (ne _ _ z n)
theorem r_unl (R : Rel N μ2 S2 H2) {q : IR.MO} (hn : μ2[n]? = some p) (h : H2 p = some (.frz od u)) (hu : (∀ xs, u ≠ .lst xs) ∧ ∀ r, u ≠ .xd r) (hq : ObAt N μ2 (upd H2 p u) p q) : Rel N μ2 (S2.set n q) (upd H2 p u) := R.write hn hq (w_unl h hu)
theorem v_unl {d : IR.D} {v : V} (hp : p ∈ μ2) (w : WExt μ2 H2 μ2 (upd H2 p u)) (r : RepV N μ2 H2 d v) : RepV N μ2 (upd H2 p u) d v := by
  cases d with
  | tl l =>
    obtain ⟨a, vs, e, h1, h2, h3⟩ := r
    exact ⟨a, vs, e, by rw [upd_ne (fun z => by rw [z] at h2; exact h2 hp)]; exact h1, h2, h3.mono w⟩
  | _ => exact Rep.mono w r
/-- what unlocking gives -/
theorem unl {α : Type} {fl : α} {K : α → IR.Sto → List Addr → Hp → Prop} (h0 : H p = some u) (hp : μ[n]? = some p) (hd : (∃ r, u = .dK r) ∨ ∃ r, u = .dT r) (e : Ext μ (upd H p (.frz od u)) μ2 H2) (R : Rel N μ2 S2 H2)
    (g : GG N W μ H ((IR.unlock n S2).bind fun _ => IR.M.pure fl) K) : H2 p = some (.frz od u) ∧ WExt μ2 H2 μ2 (upd H2 p u) ∧ p ∈ μ2 ∧ ∃ S3, K fl S3 μ2 (upd H2 p u) := by
  have h2 := e.frz p od u upd_same
  have hn := prefix_get e.pre hp
  have hm := List.mem_of_getElem? hp
  have hu1 : (∀ xs, u ≠ .lst xs) ∧ ∀ r, u ≠ .xd r := by rcases hd with ⟨r, rfl⟩ | ⟨r, rfl⟩ <;> exact And.intro (fun _ z => by cases z) (fun _ z => by cases z)
  have hu2 : (∀ vs, u ≠ .tup vs) ∧ ∀ o w, u ≠ .frz o w := by rcases hd with ⟨r, rfl⟩ | ⟨r, rfl⟩ <;> exact And.intro (fun _ z => by cases z) (fun _ _ z => by cases z)
  have w := w_unl (μ2 := μ2) h2 hu1
  refine ⟨h2, w, List.mem_of_getElem? hn, ?_⟩
  have ex := e_unl h0 hm hu2 e
  cases hs : S2[n]? with
  | none => rw [show IR.unlock n S2 = .bad by simp [IR.unlock, hs]] at g; exact g.elim
  | some q =>
    have ob := R.ob n q p hs hn
    cases q with
    | dK lk kvs =>
      cases lk with
      | false => rw [show IR.unlock n S2 = .bad by simp [IR.unlock, hs]] at g; exact g.elim
      | true =>
        rw [show IR.unlock n S2 = .ok () (S2.set n (.dK false kvs)) by simp [IR.unlock, hs]] at g
        obtain ⟨o', r', z, kr⟩ := ob
        rw [h2] at z; cases z
        exact ⟨_, g μ2 _ ex (r_unl R hn h2 hu1 ⟨r', upd_same, kr.mono w⟩)⟩
    | dT lk kvs =>
      cases lk with
      | false => rw [show IR.unlock n S2 = .bad by simp [IR.unlock, hs]] at g; exact g.elim
      | true =>
        rw [show IR.unlock n S2 = .ok () (S2.set n (.dT false kvs)) by simp [IR.unlock, hs]] at g
        obtain ⟨o', r', z, kr⟩ := ob
        rw [h2] at z; cases z
        exact ⟨_, g μ2 _ ex (r_unl R hn h2 hu1 ⟨r', upd_same, kr.mono w⟩)⟩
    | _ => rw [show IR.unlock n S2 = .bad by simp [IR.unlock, hs]] at g; exact g.elim
end
end IRS

namespace IRS
open PySem PySem.Spec PyProof.Rows L2
section
variable {D : Wd} {X : Cx} {c : Ctx} {k : Nat} {F : Fm} {pos : Pos} {a b e o tg elt iter : Expr} {es : List Expr} {call : Nat → List IR.D → IR.M IR.D} {x y z : IR.E} {scope : Scope} {p apos cpos tpos : Pos} {mname : List (Str × Nat)} {n : Str}
theorem PS.or {X : Cx} {st : Stmt} {t t' : TS} (h : PS X st t) (h' : PS X st t') : PS X st (fun E σ H => t E σ H ∨ t' E σ H) := ⟨fun pins s σ H E I q => q.elim (h.run pins s σ H E I) (h'.run pins s σ H E I)⟩
/-- the turns of a for over items told ahead -/
theorem for_st {t : IR.Tg} {gt : TG} {bd : IR.Ss} (ht : TgOk D X F tg t gt) {l : List IR.D} {J : It} {μ1 : List Addr} {S1 : IR.Sto} {H1 : Hp} {ρ : IR.Env} {σ : L2.St} {E : Ends} (hI : F.I σ) (R1 : Rel D.N μ1 S1 H1) (hρ1 : RSt D.N μ1 H1 ρ σ) (hJ : Fol D.N μ1 H1 J l)
    (g1 : GG D.N F μ1 H1 (IR.forSt (fun x ρ => (IR.setTg t ρ x).bind fun ρ' => IR.exs D.g call bd ρ') l ρ S1) (KF D.N F E H1)) :
    ∃ W : Nat → Nat → L2.St → Hp → Prop, (∃ m, W 0 m σ H1) ∧ ∀ i m σ H, W i m σ H →
      (J.stop i H ∧ E.nx σ H) ∨ (J.go i H ∧ ∃ Nx : L2.St → Hp → Prop, (∀ σ' H', Nx σ' H' → ∃ m', m' < m ∧ W (i + 1) m' σ' H') ∧ ∀ x H', J.yld i H x H' → gt x σ H' fun σ2 H2 => tSs D F call bd { E with nx := Nx, ct := Nx, bk := E.nx } σ2 H2) := by
  have turn : ∀ {μ2 S2 H2 σ2 ρ2 d x H3} {rest : IR.Env → IR.M IR.Flow} {Nx : L2.St → Hp → Prop}, F.I σ2 → RSt D.N μ2 H2 ρ2 σ2 → Ext μ2 H2 μ2 H3 → Rel D.N μ2 S2 H3 → Rep D.N μ2 H3 d x →
      GG D.N F μ2 H2 ((((IR.setTg t ρ2 d).bind fun ρ' => IR.exs D.g call bd ρ').bind (fun fl => match fl with
        | .next ρ' => rest ρ'
        | .cnt ρ' => rest ρ'
        | .brk ρ' => IR.M.pure (.next ρ')
        | .ret d => IR.M.pure (.ret d))) S2) (KF D.N F E H2) →
      (∀ μ4 S4 H4 σ4 ρ4, F.I σ4 → Rel D.N μ4 S4 H4 → RSt D.N μ4 H4 ρ4 σ4 → Ext μ2 H2 μ4 H4 → GG D.N F μ4 H4 (rest ρ4 S4) (KF D.N F E H4) → Nx σ4 H4) →
      gt x σ2 H3 fun σ5 H5 => tSs D F call bd { E with nx := Nx, ct := Nx, bk := E.nx } σ5 H5 := by
    intro μ2 S2 H2 σ2 ρ2 d x H3 rest Nx hI2 hρ2 e3 R3 rd g2 hNx
    rw [IR.M.bind_assoc] at g2
    have g3 := KF.base e3 g2
    refine ht.ok hI2 R3 (hρ2.mono e3.w) rd ?_
    refine GG.imp (GG.bind (show GG D.N F μ2 H3 ((IR.setTg t ρ2 d S2).bind _) (KF D.N F E H3) from g3)) fun ρ5 S5 μ5 H5 e5 R5 g5 σ5 hI5 hρ5 _ => ?_
    have g5 := KF.base' e5 g5
    refine ⟨μ5, S5, ρ5, hI5, R5, hρ5, ?_⟩
    refine GG.imp (GG.bind (show GG D.N F μ5 H5 ((IR.exs D.g call bd ρ5 S5).bind _) (KF D.N F E H5) from g5)) fun fl S6 μ6 H6 e6 R6 g6 => ?_
    cases fl with
    | next ρ6 => exact fun σ6 hI6 hρ6 => hNx μ6 S6 H6 σ6 ρ6 hI6 R6 hρ6 ((e3.trans e5).trans e6) (KF.base' e6 g6)
    | cnt ρ6 => exact fun σ6 hI6 hρ6 => hNx μ6 S6 H6 σ6 ρ6 hI6 R6 hρ6 ((e3.trans e5).trans e6) (KF.base' e6 g6)
    | brk ρ6 => exact fun σ6 hI6 hρ6 => g6 μ6 H6 (Ext.refl _ _) R6 σ6 hI6 hρ6
    | ret d => exact g6 μ6 H6 (Ext.refl _ _) R6
  refine ⟨fun i m σ H => m = l.length - i ∧ i ≤ l.length ∧ ∃ μ' S' ρ', F.I σ ∧ Rel D.N μ' S' H ∧ RSt D.N μ' H ρ' σ ∧ Ext μ1 H1 μ' H ∧ GG D.N F μ' H (IR.forSt (fun x ρ => (IR.setTg t ρ x).bind fun ρ' => IR.exs D.g call bd ρ') (l.drop i) ρ' S') (KF D.N F E H),
    ⟨_, rfl, Nat.zero_le _, μ1, S1, ρ, hI, R1, hρ1, Ext.refl _ _, g1⟩, ?_⟩
  rintro i m' σ2 H2 ⟨rfl, hi2, μ2, S2, ρ2, hI2, R2, hρ2, e2, g2⟩
  obtain ⟨go, stop⟩ := hJ μ2 S2 H2 e2 R2 i
  by_cases hlt : i < l.length
  · obtain ⟨h1, h2⟩ := go l[i] (List.getElem?_eq_getElem hlt)
    rw [List.drop_eq_getElem_cons hlt] at g2
    refine .inr ⟨h1, _, fun σ' H' w => ⟨l.length - (i + 1), by omega, w⟩, fun x H3 y => ?_⟩
    obtain ⟨e3, R3, rd⟩ := h2 x H3 y
    exact turn hI2 hρ2 e3 R3 rd g2 fun μ4 S4 H4 σ4 ρ4 hI4 R4 hρ4 e4 g4 => ⟨rfl, hlt, μ4, S4, ρ4, hI4, R4, hρ4, e2.trans e4, g4⟩
  · have e : i = l.length := by omega
    subst e
    rw [List.drop_length] at g2
    exact .inl ⟨stop (Nat.le_refl _), g2 μ2 H2 (Ext.refl _ _) R2 σ2 hI2 hρ2⟩
/-- the ends of a locked walk -/
abbrev lkE (p : Addr) (od : Obj) (u : HO) (E : Ends) : Ends := ⟨fun σ' H' => H' p = some (.frz od u) ∧ E.nx σ' (upd H' p u), fun v H' => H' p = some (.frz od u) ∧ E.rt v (upd H' p u), fun σ' H' => H' p = some (.frz od u) ∧ E.bk σ' (upd H' p u), fun σ' H' => H' p = some (.frz od u) ∧ E.ct σ' (upd H' p u)⟩
/-- a walk under a lock, told by the walk and the unlocking -/
theorem gg_lock {E : Ends} {μ μ1 : List Addr} {H H1 : Hp} {pa : Addr} {od : Obj} {u : HO} {r : Nat} {m : IR.M IR.Flow} {T : IR.Sto} (h0 : H pa = some u) (hp : μ[r]? = some pa) (hd : (∃ r, u = .dK r) ∨ ∃ r, u = .dT r) (e1 : Ext μ (upd H pa (.frz od u)) μ1 H1)
    (g : GG D.N F μ H ((IR.noExc m T).bind fun fl => (IR.unlock r).bind fun _ => IR.M.pure fl) (KF D.N F E H)) : GG D.N F μ1 H1 (m T) (KF D.N F (lkE pa od u E) H1) := by
  unfold IR.noExc at g
  cases em : m T with
  | bad => rw [em] at g; exact g.elim
  | exc c fs S => rw [em] at g; exact g.elim
  | ok fl S2 =>
    rw [em] at g
    intro μ2 H2 e2 R2
    have g : GG D.N F μ H ((IR.unlock r S2).bind fun _ => IR.M.pure fl) (KF D.N F E H) := g
    obtain ⟨h2, w, hm, S3, kk⟩ := unl h0 hp hd (e1.trans e2) R2 g
    cases fl with
    | next ρ' => exact fun σ' hI hρ => ⟨h2, kk σ' hI (hρ.mono w)⟩
    | brk ρ' => exact fun σ' hI hρ => ⟨h2, kk σ' hI (hρ.mono w)⟩
    | cnt ρ' => exact fun σ' hI hρ => ⟨h2, kk σ' hI (hρ.mono w)⟩
    | ret d =>
      intro v rv tm
      refine ⟨h2, kk v (v_unl hm w rv) fun l a ed ev => ?_⟩
      have hn := tm l a ed ev
      subst ed; subst ev
      obtain ⟨_, _, z, h3, h4, _⟩ := rv
      cases z
      have hpm := List.mem_of_getElem? hp
      have e12 := e1.trans e2
      cases ea : H a with
      | none => rfl
      | some o =>
        exfalso
        have nm : a ∉ μ := fun z => h4 (e12.pre.subset z)
        have na : a ≠ pa := fun z => nm (z ▸ hpm)
        have : (upd H pa (.frz od u)) a = some o := by rw [upd_ne na]; exact ea
        rw [e1.keep _ _ nm this] at hn
        cases hn
/-- a kind of walk over a dict: how the small language begins it, how the model does -/
abbrev PPt := V → Hp → (It → Prop) → Prop
abbrev tiP (te : TE) (PP : PPt) : TI := fun σ H R => te σ H fun x H1 => PP x H1 fun J => R J H1
structure KD (N : Nm) (src : IR.D → IR.M IR.Src) (PP : PPt) : Prop where
  only : ∀ d S, (∃ r, d = .ref r) ∨ src d S = .bad
  go : ∀ {μ S H r}, Rel N μ S H → src (.ref r) S = .bad ∨
    (∃ u pa l q1, μ[r]? = some pa ∧ H pa = some u ∧ Mut (some u) ∧ ((∃ r, u = .dK r) ∨ ∃ r, u = .dT r) ∧ src (.ref r) S = .ok (.dk r l) (S.set r q1) ∧ Lkd S (S.set r q1) ∧
      ∀ od, WExt μ H μ (upd H pa (.frz od u)) → ObAt N μ (upd H pa (.frz od u)) pa q1 ∧ ∀ μ1 H1, Ext μ (upd H pa (.frz od u)) μ1 H1 → ∃ J, Fol N μ1 H1 J l ∧ ∀ r : It → Prop, r J → PP (.ref pa) H1 r) ∨
    ∃ pa l, μ[r]? = some pa ∧ src (.ref r) S = .ok (.st l) S ∧ ∀ μ1 H1, Ext μ H μ1 H1 → ∃ J, Fol N μ1 H1 J l ∧ ∀ r : It → Prop, r J → PP (.ref pa) H1 r
def ppI : PPt := fun x H1 r => ∃ d o kvs, x = .ref d ∧ H1 d = some (.frz o (.dK kvs)) ∧ r (Iti d o kvs)
def ppV : PPt := fun x H1 r => ∃ d o kvs, x = .ref d ∧ H1 d = some (.frz o (.dK kvs)) ∧ r (Itd d o kvs)
def ppK : PPt := fun x H1 r => ∃ d o, x = .ref d ∧ ((∃ kvs, H1 d = some (.frz o (.dK kvs)) ∧ r (Itk d o kvs)) ∨ ∃ kvs, H1 d = some (.frz o (.dT kvs)) ∧ r (Itkt d o kvs))
theorem kd_items {N : Nm} : KD N (IR.srcItems false) ppI where
  only := fun d S => by cases d <;> first | exact .inl ⟨_, rfl⟩ | exact .inr rfl
  go := fun {μ S H r} R => by
    cases hr : S[r]? with
    | none => exact .inl (by simp [IR.srcItems, hr])
    | some ob =>
      cases ob with
      | dK lk kvs =>
        cases lk with
        | false =>
          obtain ⟨pa, hpa, r', h1, kr⟩ := R.at hr
          refine .inr (.inl ⟨.dK r', pa, (kvs.map fun p => if false then p.2 else .tup [p.1.d, p.2]), .dK true kvs, hpa, h1, trivial, .inl ⟨_, rfl⟩, by unfold IR.srcItems; dsimp only; rw [hr], Lkd.dK hr, fun od w => ⟨⟨od, r', upd_same, kr.mono w⟩, fun μ1 H1 e1 => ?_⟩⟩)
          have hf := e1.frz _ _ _ (upd_same (H := H) (a := pa) (o := .frz od (.dK r')))
          exact ⟨_, fol_items hf ((kr.mono w).mono e1.w), fun r hr => ⟨_, _, _, rfl, hf, hr⟩⟩
        | true =>
          obtain ⟨pa, hpa, od, r', h1, kr⟩ := R.at hr
          exact .inr (.inr ⟨pa, (kvs.map fun p => if false then p.2 else .tup [p.1.d, p.2]), hpa, by unfold IR.srcItems; dsimp only; rw [hr], fun μ1 H1 e1 => ⟨_, fol_items (e1.frz _ _ _ h1) (kr.mono e1.w), fun r hr => ⟨_, _, _, rfl, e1.frz _ _ _ h1, hr⟩⟩⟩)
      | _ => exact .inl (by simp [IR.srcItems, hr])
theorem kd_vals {N : Nm} : KD N (IR.srcItems true) ppV where
  only := fun d S => by cases d <;> first | exact .inl ⟨_, rfl⟩ | exact .inr rfl
  go := fun {μ S H r} R => by
    cases hr : S[r]? with
    | none => exact .inl (by simp [IR.srcItems, hr])
    | some ob =>
      cases ob with
      | dK lk kvs =>
        cases lk with
        | false =>
          obtain ⟨pa, hpa, r', h1, kr⟩ := R.at hr
          refine .inr (.inl ⟨.dK r', pa, (kvs.map fun p => if true then p.2 else .tup [p.1.d, p.2]), .dK true kvs, hpa, h1, trivial, .inl ⟨_, rfl⟩, by unfold IR.srcItems; dsimp only; rw [hr], Lkd.dK hr, fun od w => ⟨⟨od, r', upd_same, kr.mono w⟩, fun μ1 H1 e1 => ?_⟩⟩)
          have hf := e1.frz _ _ _ (upd_same (H := H) (a := pa) (o := .frz od (.dK r')))
          exact ⟨_, fol_vals hf ((kr.mono w).mono e1.w), fun r hr => ⟨_, _, _, rfl, hf, hr⟩⟩
        | true =>
          obtain ⟨pa, hpa, od, r', h1, kr⟩ := R.at hr
          exact .inr (.inr ⟨pa, (kvs.map fun p => if true then p.2 else .tup [p.1.d, p.2]), hpa, by unfold IR.srcItems; dsimp only; rw [hr], fun μ1 H1 e1 => ⟨_, fol_vals (e1.frz _ _ _ h1) (kr.mono e1.w), fun r hr => ⟨_, _, _, rfl, e1.frz _ _ _ h1, hr⟩⟩⟩)
      | _ => exact .inl (by simp [IR.srcItems, hr])
theorem kd_keysT {N : Nm} : KD N IR.srcKeysT ppK where
  only := fun d S => by cases d <;> first | exact .inl ⟨_, rfl⟩ | exact .inr rfl
  go := fun {μ S H r} R => by
    cases hr : S[r]? with
    | none => exact .inl (by simp [IR.srcKeysT, hr])
    | some ob =>
      cases ob with
      | dT lk kvs =>
        cases lk with
        | false =>
          obtain ⟨pa, hpa, r', h1, kr⟩ := R.at hr
          refine .inr (.inl ⟨.dT r', pa, (kvs.map fun p => .tup (p.1.map IR.Ky.d)), .dT true kvs, hpa, h1, trivial, .inr ⟨_, rfl⟩, by unfold IR.srcKeysT; dsimp only; rw [hr], Lkd.dT hr, fun od w => ⟨⟨od, r', upd_same, kr.mono w⟩, fun μ1 H1 e1 => ?_⟩⟩)
          have hf := e1.frz _ _ _ (upd_same (H := H) (a := pa) (o := .frz od (.dT r')))
          exact ⟨_, fol_keysT hf ((kr.mono w).mono e1.w), fun r hr => ⟨_, _, rfl, .inr ⟨_, hf, hr⟩⟩⟩
        | true =>
          obtain ⟨pa, hpa, od, r', h1, kr⟩ := R.at hr
          exact .inr (.inr ⟨pa, (kvs.map fun p => .tup (p.1.map IR.Ky.d)), hpa, by unfold IR.srcKeysT; dsimp only; rw [hr], fun μ1 H1 e1 => ⟨_, fol_keysT (e1.frz _ _ _ h1) (kr.mono e1.w), fun r hr => ⟨_, _, rfl, .inr ⟨_, e1.frz _ _ _ h1, hr⟩⟩⟩⟩)
      | _ => exact .inl (by simp [IR.srcKeysT, hr])
theorem st_walkD {t : IR.Tg} {gt : TG} {it : Expr} {body : List Stmt} {bd : IR.Ss} {src : IR.D → IR.M IR.Src} {PP : PPt} {IT : IR.E → IR.It} (K : KD D.N src PP) (hIT : ∀ ρ, IR.evIt D.g call (IT x) ρ = (IR.ev D.g call x ρ).bind src) (hx : Rd' x) (P : PI X tg it (tiP (tV D F call x) PP))
    (hp : PassesOwn (model X.prog X.w) X.A X.env X.xe) (C : Cm D X c k F) (ht : TgOk D X F tg t gt) (hb : PSs X body (tSs D F call bd)) (hs : ∀ v, foldedSetIterable it X.env v = pure v) (hh : c.hot = false := by rfl) :
    PS X (.For tg it body [] pos) (tSt D F call (.for_ (IT x) t bd)) := by
  have Q := ps_for hp (C.calm hh) P ht.pg hb hs (pos := pos)
  refine PS.weak (PS.or (ps_lock Q) Q) fun E σ H q => ?_
  obtain ⟨μ, S, ρ, hI, R, hρ, g⟩ := q
  have g : GG D.N F μ H (((IR.evIt D.g call (IT x)) ρ S).bind fun s => IR.forSrc (fun x ρ => (IR.setTg t ρ x).bind fun ρ' => IR.exs D.g call bd ρ') s ρ) (KF D.N F E H) := g
  rw [hIT ρ] at g
  have g : GG D.N F μ H (((IR.ev D.g call x ρ S).bind src).bind fun s => IR.forSrc (fun x ρ => (IR.setTg t ρ x).bind fun ρ' => IR.exs D.g call bd ρ') s ρ) (KF D.N F E H) := g
  rcases rd_ev (g := D.g) (call := call) hx (ρ := ρ) (Lkd.refl (S := S)) with ⟨d, ed, _⟩ | eb
  · rw [ed] at g
    have g : GG D.N F μ H ((src d S).bind fun s => IR.forSrc (fun x ρ => (IR.setTg t ρ x).bind fun ρ' => IR.exs D.g call bd ρ') s ρ) (KF D.N F E H) := g
    rcases K.only d S with ⟨r, rfl⟩ | e
    · rcases K.go (r := r) R with e | ⟨u, pa, l, q1, hpa, h1, mu, hd, es, lk, kk⟩ | ⟨pa, l, hpa, es, kk⟩
      · rw [e] at g; exact g.elim
      · rw [es] at g
        refine .inl ⟨pa, u, h1, mu, fun od => ?_⟩
        have ew : Ext μ H μ (upd H pa (.frz od u)) := Ext.write hpa h1 (by rcases hd with ⟨r, rfl⟩ | ⟨r, rfl⟩ <;> exact fun _ z => nomatch z) (by rcases hd with ⟨r, rfl⟩ | ⟨r, rfl⟩ <;> exact fun _ _ z => nomatch z)
        obtain ⟨ho, kk⟩ := kk od ew.w
        have Rl := R.write (q := q1) hpa ho ew.w
        refine ⟨μ, S.set r q1, ρ, hI, Rl, hρ.mono ew.w, ?_⟩
        obtain ⟨_, ed1, ed2⟩ | eb := rd_ev (g := D.g) (call := call) hx (ρ := ρ) lk
        · rw [ed] at ed1; cases ed1
          rw [ed2]
          intro μ1 H1 e1 R1 v rv _
          obtain ⟨a, rfl, ha⟩ := rv.ref
          rw [prefix_get e1.pre hpa] at ha; cases ha
          obtain ⟨J, fJ, pj⟩ := kk μ1 H1 e1
          exact pj _ (for_st (E := lkE pa od u E) ht hI R1 ((hρ.mono ew.w).mono e1.w) fJ (gg_lock h1 hpa hd e1 g))
        · rw [ed] at eb; cases eb
      · rw [es] at g
        refine .inr ⟨μ, S, ρ, hI, R, hρ, ?_⟩
        rw [ed]
        intro μ1 H1 e1 R1 v rv _
        obtain ⟨a, rfl, ha⟩ := rv.ref
        rw [prefix_get e1.pre hpa] at ha; cases ha
        obtain ⟨J, fJ, pj⟩ := kk μ1 H1 e1
        exact pj _ (for_st ht hI R1 (hρ.mono e1.w) fJ (KF.base e1 g))
    · rw [e] at g; exact g.elim
  · rw [eb] at g; exact g.elim
/-! ### comprehensions over dicts -/
theorem lc_st {t : IR.Tg} {gt : TG} {tt : TT} {mc : IR.Env → IR.M Bool} {σ : L2.St} {Q : VK} {μ1 : List Addr} {S1 SF : IR.Sto} {H1 : Hp} {ρ : IR.Env} {l lF : List IR.D} {J : It} {Da : Addr}
    (ht : ∀ {μ S H ρ σ d v Q}, Rel D.N μ S H → RSt D.N μ H ρ σ → Rep D.N μ H d v → GG D.N Fm0 μ H (IR.setTg t ρ d S) (fun ρ' _ μ' H' => ∀ σ', RSt D.N μ' H' ρ' σ' → wipe σ' (tgSlots t) = wipe σ (tgSlots t) → Q σ' H') → gt v σ H Q)
    (hc : ∀ σ H Q, tT D.N Fm0 mc σ H Q → tt σ H Q) (R1 : Rel D.N μ1 S1 H1) (hρ1 : RSt D.N μ1 H1 ρ σ) (hJ : Fol D.N μ1 H1 J l) (hD : H1 Da = none) (hF : IR.lcSt (lcF D.g call t mc z ρ) l [] S1 = .ok lF SF)
    (fin : ∀ H', LcI D μ1 H1 Da SF lF H' → Q (.ref Da) H') :
    ∃ W : Nat → Nat → Hp → Prop, (∃ m, W 0 m (upd H1 Da (.lst []))) ∧ ∀ i m H, W i m H →
      (J.stop i H ∧ Q (.ref Da) H) ∨ (J.go i H ∧ ∃ Nx : Hp → Prop, (∀ H', Nx H' → ∃ m', m' < m ∧ W (i + 1) m' H') ∧ ∀ x H', J.yld i H x H' → gt x (wipe σ (tgSlots t)) H' fun σ2 H2 => wipe σ2 (tgSlots t) = wipe σ (tgSlots t) ∧ tt σ2 H2 fun b H3 =>
        if b = true then tV D Fm0 call z σ2 H3 fun y H4 => ∃ acc, H4 Da = some (.lst acc) ∧ acc.length < sizeLine ∧ Nx (upd H4 Da (.lst (acc ++ [y]))) else Nx H3) := by
  have i0 : LcI D μ1 H1 Da S1 [] (upd H1 Da (.lst [])) := ⟨μ1, [], Ext.laid hD, R1.laid hD, upd_same, R1.fresh hD, .nil⟩
  refine ⟨fun i m H => m = l.length - i ∧ i ≤ l.length ∧ ∃ S' acc, LcI D μ1 H1 Da S' acc H ∧ IR.lcSt (lcF D.g call t mc z ρ) (l.drop i) acc S' = .ok lF SF, ⟨_, rfl, Nat.zero_le _, S1, [], i0, hF⟩, ?_⟩
  rintro i m' H2 ⟨rfl, hi2, S2, acc, ⟨μ2, vacc, e2, R2, x3, x4, x5⟩, h2⟩
  obtain ⟨go, stop⟩ := hJ μ2 S2 H2 e2 R2 i
  by_cases hlt : i < l.length
  · obtain ⟨k1, k2⟩ := go l[i] (List.getElem?_eq_getElem hlt)
    rw [List.drop_eq_getElem_cons hlt] at h2
    refine .inr ⟨k1, _, fun H' w => ⟨l.length - (i + 1), by omega, w⟩, fun x H3 y => ?_⟩
    obtain ⟨e3, R3, rd⟩ := k2 x H3 y
    exact lc_turn (rest := fun acc => IR.lcSt (lcF D.g call t mc z ρ) (l.drop (i + 1)) acc) ht hc hD e2 x3 x4 x5 hρ1 e3 R3 rd h2 fun S' acc' H' q1 q2 => ⟨rfl, hlt, S', acc', q1, q2⟩
  · have e : i = l.length := by omega
    subst e
    rw [List.drop_length] at h2
    cases h2
    exact .inl ⟨stop (Nat.le_refl _), fin H2 ⟨μ2, vacc, e2, R2, x3, x4, x5⟩⟩
theorem lc_D {t : IR.Tg} {gt : TG} {tt : TT} {mc : IR.Env → IR.M Bool} {σ : L2.St} {H : Hp} {Q : VK} {μ : List Addr} {S : IR.Sto} {ρ : IR.Env} {src : IR.D → IR.M IR.Src} {PP : PPt} (K : KD D.N src PP) (hx : Rd' x)
    (ht : ∀ {μ S H ρ σ d v Q}, Rel D.N μ S H → RSt D.N μ H ρ σ → Rep D.N μ H d v → GG D.N Fm0 μ H (IR.setTg t ρ d S) (fun ρ' _ μ' H' => ∀ σ', RSt D.N μ' H' ρ' σ' → wipe σ' (tgSlots t) = wipe σ (tgSlots t) → Q σ' H') → gt v σ H Q)
    (hc : ∀ σ H Q, tT D.N Fm0 mc σ H Q → tt σ H Q) (hI : F.I σ) (R : Rel D.N μ S H) (hρ : RSt D.N μ H ρ σ)
    (g : GV D.N F μ H ((((IR.ev D.g call x ρ).bind src).bind fun s => (IR.noExc (IR.lcSrc (lcF D.g call t mc z ρ) s)).bind fun l => IR.M.pure (.tl l)) S) Q) :
    tLockE (tLc (tiP (tV D F call x) PP) gt tt (tV D Fm0 call z) (tgSlots t)) σ H Q ∨ tLc (tiP (tV D F call x) PP) gt tt (tV D Fm0 call z) (tgSlots t) σ H Q := by
  have g : GV D.N F μ H (((IR.ev D.g call x ρ S).bind src).bind fun s => (IR.noExc (IR.lcSrc (lcF D.g call t mc z ρ) s)).bind fun l => IR.M.pure (.tl l)) Q := g
  rcases rd_ev (g := D.g) (call := call) hx (ρ := ρ) (Lkd.refl (S := S)) with ⟨d, ed, _⟩ | eb
  · rw [ed] at g
    have g : GV D.N F μ H ((src d S).bind fun s => (IR.noExc (IR.lcSrc (lcF D.g call t mc z ρ) s)).bind fun l => IR.M.pure (.tl l)) Q := g
    rcases K.only d S with ⟨r, rfl⟩ | e
    · rcases K.go (r := r) R with e | ⟨u, pa, l, q1, hpa, h1, mu, hd, es, lk, kk⟩ | ⟨pa, l, hpa, es, kk⟩
      · rw [e] at g; exact g.elim
      · rw [es] at g
        have g : GV D.N F μ H ((IR.noExc ((IR.lcSt (lcF D.g call t mc z ρ) l []).bind fun r' => (IR.unlock r).bind fun _ => IR.M.pure r') (S.set r q1)).bind fun l => IR.M.pure (.tl l)) Q := g
        obtain ⟨lF, SF, hF, g2⟩ : ∃ lF SF, IR.lcSt (lcF D.g call t mc z ρ) l [] (S.set r q1) = .ok lF SF ∧ GG D.N F μ H ((IR.unlock r SF).bind fun _ => IR.M.pure lF) (fun l _ μ' H' => ∀ v, RepV D.N μ' H' (.tl l) v → Tmp H (.tl l) v → Q v H') := by
          unfold IR.noExc at g
          cases er : IR.lcSt (lcF D.g call t mc z ρ) l [] (S.set r q1) with
          | bad => rw [show ((IR.lcSt (lcF D.g call t mc z ρ) l []).bind fun r' => (IR.unlock r).bind fun _ => IR.M.pure r') (S.set r q1) = .bad by show (IR.lcSt (lcF D.g call t mc z ρ) l [] (S.set r q1)).bind _ = _; rw [er]; rfl] at g; exact g.elim
          | exc c fs S2 => rw [show ((IR.lcSt (lcF D.g call t mc z ρ) l []).bind fun r' => (IR.unlock r).bind fun _ => IR.M.pure r') (S.set r q1) = .exc c fs S2 by show (IR.lcSt (lcF D.g call t mc z ρ) l [] (S.set r q1)).bind _ = _; rw [er]; rfl] at g; exact g.elim
          | ok lF SF =>
            refine ⟨lF, SF, rfl, ?_⟩
            rw [show ((IR.lcSt (lcF D.g call t mc z ρ) l []).bind fun r' => (IR.unlock r).bind fun _ => IR.M.pure r') (S.set r q1) = (IR.unlock r SF).bind fun _ => IR.M.pure lF by show (IR.lcSt (lcF D.g call t mc z ρ) l [] (S.set r q1)).bind _ = _; rw [er]; rfl] at g
            cases eu : IR.unlock r SF with
            | bad => rw [eu] at g; exact g.elim
            | exc c fs S3 => rw [eu] at g; exact g.elim
            | ok a S3 => rw [eu] at g; exact g
        refine .inl ⟨pa, u, h1, mu, fun od => ?_⟩
        have ew : Ext μ H μ (upd H pa (.frz od u)) := Ext.write hpa h1 (by rcases hd with ⟨r, rfl⟩ | ⟨r, rfl⟩ <;> exact fun _ z => nomatch z) (by rcases hd with ⟨r, rfl⟩ | ⟨r, rfl⟩ <;> exact fun _ _ z => nomatch z)
        obtain ⟨ho, kk⟩ := kk od ew.w
        have Rl := R.write (q := q1) hpa ho ew.w
        refine ⟨μ, S.set r q1, ρ, hI, Rl, hρ.mono ew.w, ?_⟩
        obtain ⟨_, ed1, ed2⟩ | eb := rd_ev (g := D.g) (call := call) hx (ρ := ρ) lk
        · rw [ed] at ed1; cases ed1
          rw [ed2]
          intro μ1 H1 e1 R1 v rv _
          obtain ⟨a, rfl, ha⟩ := rv.ref
          rw [prefix_get e1.pre hpa] at ha; cases ha
          obtain ⟨J, fJ, pj⟩ := kk μ1 H1 e1
          refine pj _ fun Da hD => lc_st (Q := fun v H' => H' pa = some (.frz od u) ∧ Q v (upd H' pa u)) ht hc R1 ((hρ.mono ew.w).mono e1.w) fJ hD hF fun H' lc => ?_
          obtain ⟨μ', vacc, x1, x2, x3, x4, x5⟩ := lc
          obtain ⟨h2, w, hm, S3, kq⟩ := unl h1 hpa hd (e1.trans x1) x2 g2
          refine ⟨h2, kq (.ref Da) (v_unl hm w ⟨Da, vacc, rfl, x3, x4, x5⟩) fun l' a _ z => ?_⟩
          cases z
          cases ea : H Da with
          | none => rfl
          | some o =>
            exfalso
            have nm : Da ∉ μ := fun z => x4 ((e1.trans x1).pre.subset z)
            have na : Da ≠ pa := fun z => nm (by rw [z]; exact List.mem_of_getElem? hpa)
            have : (upd H pa (.frz od u)) Da = some o := by rw [upd_ne na]; exact ea
            rw [e1.keep _ _ nm this] at hD
            cases hD
        · rw [ed] at eb; cases eb
      · rw [es] at g
        refine .inr ⟨μ, S, ρ, hI, R, hρ, ?_⟩
        rw [ed]
        intro μ1 H1 e1 R1 v rv _
        obtain ⟨a, rfl, ha⟩ := rv.ref
        rw [prefix_get e1.pre hpa] at ha; cases ha
        obtain ⟨J, fJ, pj⟩ := kk μ1 H1 e1
        have g1 : GV D.N F μ1 H1 ((IR.noExc (IR.lcSt (lcF D.g call t mc z ρ) l []) S).bind fun l => IR.M.pure (.tl l)) Q := GV.base e1 g
        refine pj _ fun Da hD => ?_
        unfold IR.noExc at g1
        cases er : IR.lcSt (lcF D.g call t mc z ρ) l [] S with
        | bad => rw [er] at g1; exact g1.elim
        | exc c fs S => rw [er] at g1; exact g1.elim
        | ok lF SF =>
          rw [er] at g1
          refine lc_st ht hc R1 (hρ.mono e1.w) fJ hD er fun H' lc => ?_
          obtain ⟨μ', vacc, x1, x2, x3, x4, x5⟩ := lc
          exact g1 μ' H' x1 x2 (.ref Da) ⟨Da, vacc, rfl, x3, x4, x5⟩ fun l a _ z => by cases z; exact hD
    · rw [e] at g; exact g.elim
  · rw [eb] at g; exact g.elim
theorem s_lcD0 {t : IR.Tg} {gt : TG} {own : List (Str × Nat)} {src : IR.D → IR.M IR.Src} {PP : PPt} {IT : IR.E → IR.It} (C : Cm D X c k F) (K : KD D.N src PP) (hIT : ∀ ρ, IR.evIt D.g call (IT x) ρ = (IR.ev D.g call x ρ).bind src) (hx : Rd' x) (P : PI X tg iter (tiP (tV D F call x) PP)) (ok : BlkOk c.N c.sc scope own) (hw : own.map (·.2) = tgSlots t)
    (hg : ∀ (s : Shared) (H : Hp) (A : Addr) (cl : List (Str × Addr)) (fp : List Addr), TgOk D (X.blk s H scope (compEnvC scope cl A X.env) fp) Fm0 tg t gt)
    (he : ∀ (s : Shared) (H : Hp) (A : Addr) (cl : List (Str × Addr)) (fp : List Addr), PE (X.blk s H scope (compEnvC scope cl A X.env) fp) elt (tV D Fm0 call z)) (hs : ∀ x, foldedSetIterable iter X.env x = pure x) (hh : c.hot = false := by rfl) :
    PE X (.ListComp elt [⟨tg, iter, [], 0⟩] scope pos) (tV D F call (.lc (IT x) t none z)) := by
  have Q := pe_lc (C.calm hh) (by rw [C.N]; exact C.nd) P (by rw [C.N, C.sc]; exact ok) (fun s H A cl fp => (hg s H A cl fp).pg) (fun s H A cl fp => pts_nil) he hs (pos := pos)
  refine ⟨fun pins s0 σ H R I q => (PE.or (pe_lock Q) Q).run pins s0 σ H R I ?_⟩
  obtain ⟨μ, S, ρ, hI, Rl, hρ, g⟩ := q
  rw [hw]
  refine lc_D (mc := fun _ => IR.M.pure true) K hx (hg s0 H 0 [] []).ht (fun σ H Q ⟨μ, S, ρ, _, R, hρ, g⟩ => g μ H (Ext.refl _ _) R) hI Rl hρ ?_
  rw [← hIT ρ]
  exact g
theorem s_lcD1 {t : IR.Tg} {gt : TG} {own : List (Str × Nat)} {src : IR.D → IR.M IR.Src} {PP : PPt} {IT : IR.E → IR.It} {cE : Expr} (C : Cm D X c k F) (K : KD D.N src PP) (hIT : ∀ ρ, IR.evIt D.g call (IT x) ρ = (IR.ev D.g call x ρ).bind src) (hx : Rd' x) (P : PI X tg iter (tiP (tV D F call x) PP)) (ok : BlkOk c.N c.sc scope own) (hw : own.map (·.2) = tgSlots t)
    (hg : ∀ (s : Shared) (H : Hp) (A : Addr) (cl : List (Str × Addr)) (fp : List Addr), TgOk D (X.blk s H scope (compEnvC scope cl A X.env) fp) Fm0 tg t gt)
    (hc : ∀ (s : Shared) (H : Hp) (A : Addr) (cl : List (Str × Addr)) (fp : List Addr), PT (X.blk s H scope (compEnvC scope cl A X.env) fp) cE (tB' D Fm0 call y))
    (he : ∀ (s : Shared) (H : Hp) (A : Addr) (cl : List (Str × Addr)) (fp : List Addr), PE (X.blk s H scope (compEnvC scope cl A X.env) fp) elt (tV D Fm0 call z)) (hs : ∀ x, foldedSetIterable iter X.env x = pure x) (hh : c.hot = false := by rfl) :
    PE X (.ListComp elt [⟨tg, iter, [cE], 0⟩] scope pos) (tV D F call (.lc (IT x) t (some y) z)) := by
  have Q := pe_lc (C.calm hh) (by rw [C.N]; exact C.nd) P (by rw [C.N, C.sc]; exact ok) (fun s H A cl fp => (hg s H A cl fp).pg) (fun s H A cl fp => pts_one (hc s H A cl fp)) he hs (pos := pos)
  refine ⟨fun pins s0 σ H R I q => (PE.or (pe_lock Q) Q).run pins s0 σ H R I ?_⟩
  obtain ⟨μ, S, ρ, hI, Rl, hρ, g⟩ := q
  rw [hw]
  refine lc_D (mc := fun ρ => (IR.ev D.g call y ρ).bind IR.truth) K hx (hg s0 H 0 [] []).ht (fun σ H Q h => h) hI Rl hρ ?_
  have e : (lcF D.g call t (fun ρ => (IR.ev D.g call y ρ).bind IR.truth) z ρ) = fun x => (IR.setTg t ρ x).bind fun ρ' => (IR.ev D.g call y ρ').bind fun c => (IR.truth c).bind fun b => if b then (IR.ev D.g call z ρ').bind fun y => (IR.own y).bind fun y => IR.M.pure (some y) else IR.M.pure none := by
    funext x
    simp only [lcF, IR.M.bind_assoc]
  rw [e, ← hIT ρ]
  exact g
theorem it_items {g : IR.G} {ρ : IR.Env} : IR.evIt g call (.items x) ρ = (IR.ev g call x ρ).bind (IR.srcItems false) := by simp only [IR.evIt]
theorem it_vals {g : IR.G} {ρ : IR.Env} : IR.evIt g call (.vals x) ρ = (IR.ev g call x ρ).bind (IR.srcItems true) := by simp only [IR.evIt]
theorem it_keysT {g : IR.G} {ρ : IR.Env} : IR.evIt g call (.keysT x) ρ = (IR.ev g call x ρ).bind IR.srcKeysT := by simp only [IR.evIt]
end
end IRS

namespace IRS
open PySem PySem.Spec PyProof.Rows L2
/-! ### an exception that was caught, kept as a thing that is known -/
/-- .. its dict nobody writes to -/
def frzd (H : Hp) : Option (Addr × List (Str × V)) → Obj → Hp
  | none, _ => H
  | some (d, r), o => upd H d (.frz o (.xd r))
section
variable {X : Cx} {pins : List (Addr × Obj)} {σ : L2.St} {H : Hp} {s : Shared} {a : Addr} {oe : Obj}
theorem isO_ok {P : Program} {w : World} {H : Hp} {h : Heap} (ha : h.get? a = some oe) : ObjOk P w H h a (isO a oe) :=
  show h.get? a = some oe ∧ (∃ o, h.get? a = some o) ∧ ∀ h1 h2 : Heap, h1.get? a = some oe → (∀ o, h1.get? a = some o → h2.get? a = some o) → h2.get? a = some oe from
    ⟨ha, ⟨oe, ha⟩, fun h1 h2 e k => k oe e⟩
theorem inv_adopt {vs : Array Value} (I : Inv X pins σ H s) (ha : s.heap.get? a = some oe) (hd : oe.data = .fields vs) (na : H a = none) (nL : a ≠ X.env.locals) (nb : X.s_0.heap.get? a = none) (np : ∀ p ∈ X.pn ++ pins, p.1 ≠ a) : Inv X pins σ (upd H a (isO a oe)) s where
  ok := I.ok
  os := I.os
  bare := I.bare
  base := {
    keep := I.base.keep
    slot := I.base.slot
    free := fun b o e n x => by
      have : b ≠ a := fun z => by subst z; rw [nb] at e; cases e
      rw [upd_ne this]; exact I.base.free b o e n x
    there := I.base.there
    tups := fun b xs q => by
      have := I.base.tups b xs q
      rw [upd_ne (ne_of_none this na)]; exact this
    frzs := fun b o u q => by
      have := I.base.frzs b o u q
      rw [upd_ne (ne_of_none this na)]; exact this
    tbls := fun b ps q => by
      obtain ⟨m, this⟩ := I.base.tbls b ps q
      exact ⟨m, by rw [upd_ne (ne_of_none this na)]; exact this⟩ }
  loc := I.loc
  cell := I.cell
  free := by rw [upd_ne (Ne.symm nL)]; exact I.free
  freeC := fun x c e => by
    have : c ≠ a := fun z => by
      subst z
      obtain ⟨v, o, ho, hv⟩ := I.cell x c e
      rw [ha] at ho
      cases ho
      rw [hd] at hv
      cases hv
    rw [upd_ne this]; exact I.freeC x c e
  pin := fun p hp => by
    obtain ⟨e1, e2, e3, e4, e5⟩ := I.pin p hp
    exact ⟨e1, by rw [upd_ne (np p hp)]; exact e2, e3, e4, e5⟩
  hok := fun b u e => by
    by_cases hb : b = a
    · subst hb; rw [upd_same] at e; cases e; exact isO_ok ha
    · rw [upd_ne hb] at e
      exact (I.hok b u e).stay (fun c v _ q => q) (fun c q => by rw [upd_ne (ne_of_none q na)]; exact q) fun c xs q => by rw [upd_ne (ne_of_none q na)]; exact q
  len := I.len
/-- .. the dict frozen -/
theorem inv_frz {d : Addr} {r : List (Str × V)} (I : Inv X pins σ H s) (hd : H d = some (.xd r)) : ∃ o, Inv X pins σ (upd H d (.frz o (.xd r))) s := by
  have x := I.hok d _ hd
  obtain ⟨o, ho⟩ : ∃ o, s.heap.get? d = some o := by
    obtain ⟨mA, hn, _⟩ := id x
    obtain ⟨o, _, _, ho, _⟩ := hn
    exact ⟨o, ho⟩
  have neN : ∀ b, H b = none → b ≠ d := fun b e z => by rw [z, hd] at e; cases e
  have neU : ∀ b u, H b = some u → u ≠ .xd r → b ≠ d := fun b u e h z => by rw [z, hd] at e; cases e; exact h rfl
  refine ⟨o, I.ok, I.os, I.bare, ⟨I.base.keep, I.base.slot, fun b o e n hx => ?_, I.base.there, fun b xs e => ?_, fun b o x e => ?_, fun b ps e => ?_⟩, I.loc, I.cell, ?_, fun x c e => ?_, fun p hp => ?_, fun b u e => ?_, I.len⟩
  · rw [upd_ne (neN b (I.base.free b o e n hx))]; exact I.base.free b o e n hx
  · have q := I.base.tups b xs e
    rw [upd_ne (neU b _ q (fun z => nomatch z))]; exact q
  · have q := I.base.frzs b o x e
    rw [upd_ne (neU b _ q (fun z => nomatch z))]; exact q
  · obtain ⟨m, q⟩ := I.base.tbls b ps e
    exact ⟨m, by rw [upd_ne (neU b _ q (fun z => nomatch z))]; exact q⟩
  · rw [upd_ne (neN _ I.free)]; exact I.free
  · rw [upd_ne (neN c (I.freeC x c e))]; exact I.freeC x c e
  · obtain ⟨e, n, r⟩ := I.pin p hp
    exact ⟨e, by rw [upd_ne (neN _ n)]; exact n, r⟩
  · by_cases hb : b = d
    · rw [hb, upd_same] at e
      cases e
      rw [hb]
      exact ⟨ho, x.stay (fun c v _ q => q) (fun c q => by rw [upd_ne (neU c _ q (fun z => nomatch z))]; exact q) fun c xs q => by rw [upd_ne (neU c _ q (fun z => nomatch z))]; exact q⟩
    · rw [upd_ne hb] at e
      exact (I.hok b u e).stay (fun c v _ q => q) (fun c q => by rw [upd_ne (neU c _ q (fun z => nomatch z))]; exact q) fun c xs q => by rw [upd_ne (neU c _ q (fun z => nomatch z))]; exact q
theorem inv_frzd {z : Option (Addr × List (Str × V))} (I : Inv X pins σ H s) (hz : ∀ p, z = some p → H p.1 = some (.xd p.2)) : ∃ o, Inv X pins σ (frzd H z o) s := by
  cases z with
  | none => exact ⟨oe0, I⟩
  | some p => exact inv_frz I (hz p rfl)
where
  oe0 : Obj := { cls := .none, data := .fields #[] }
theorem inv_suiteX (I : Inv X pins σ H s) : Inv (X.suite a (X.pn ++ pins)) [] σ H s :=
  ⟨I.ok.suite _ _, I.os, I.bare, I.base, I.loc, I.cell, I.free, I.freeC, fun p hp => I.pin p (by rw [List.append_nil] at hp; exact hp), I.hok, I.len⟩
theorem inv_unsuiteX {pn' : List (Addr × Obj)} (I : Inv (X.suite a (X.pn ++ pins)) pn' σ H s) (ok : X.Ok) : Inv X pins σ H s :=
  ⟨ok, I.os, I.bare, I.base, I.loc, I.cell, I.free, I.freeC, fun p hp => I.pin p (List.mem_append_left _ hp), I.hok, I.len⟩
/-- what the clause 'except x as n' wishes of an exception of the body: slot i is n's; the exception is a thing that is known -/
def wAsX (K : PySem.W.Frag) (c : Value) (i : Nat) (ts : TS) (Wout : WX) (D : Ends) : WX := fun cls d σ H =>
  ∃ b, PySem.W.exmOne K cls c = some b ∧ (b = true → ∃ z : Option (Addr × List (Str × V)), (∀ p, z = some p → H p.1 = some (.xd p.2)) ∧ ∀ a oe o, H a = none → Zc cls d oe → (∃ vs, oe.data = .fields vs) → ts { nx := fun σ' H' => D.nx (σ'.set i none) H', rt := D.rt, bk := fun σ' H' => D.bk (σ'.set i none) H', ct := fun σ' H' => D.ct (σ'.set i none) H' } (σ.set i (some (.ref a))) (frzd (upd H a (isO a oe)) z o)) ∧
    (b = false → Wout cls d σ H)
end
section
variable {X : Cx} {x n : Str} {c : Value} {i : Nat} {body suite : List Stmt} {b₀ : Stmt} {np pos pos' : Pos} {tb : WX → TS} {ts : TS} {Wout : WX}
theorem ps_try_asX (hex : X.ex = []) (hs : X.stack = X.env :: X.outer) (hf : X.env.frame = some X.env.locals) (hN : X.N.Nodup) (hi : X.N[i]? = some n) (hln : X.env.kindOf n = some .local) (hc : Names X x c) (tk : Takes X Wout)
    (hb : ∀ (W : WX) (pn : List (Addr × Obj)) (xe : Value → Shared → Prop), Takes (X.tr pn xe) W → PassesOwn (model X.prog X.w) X.A X.env xe → PSs (X.tr pn xe) body (tb W))
    (hsu : ∀ (a : Addr) (pn : List (Addr × Obj)), PSs (X.suite a pn) (b₀ :: suite) ts) :
    PS X (.Try body [.ExceptHandler (some (.Name x np)) (some n) (b₀ :: suite) pos'] [] [] pos) (fun D σ H => tb (wAsX X.K c i ts Wout D) D σ H) := by
  refine ⟨fun pins s σ H D I h => ?_⟩
  have ok := I.ok
  have hfr : X.A.frames = some (X.env :: X.outer) := by rw [ok.frames, hs]
  have hloc : Loc X.env.scope n := .inl hln
  refine wpAny_Try_except ?_
  refine wpAny_mono ((hb (wAsX X.K c i ts Wout D) (X.pn ++ pins) (fun e s₁ => wpAny (model X.prog X.w) X.A (noteFrame e X.env) (fun _ s₂ => wpAny (model X.prog X.w) X.A (setFlight e none) (fun _ s₃ =>
    wpAny (model X.prog X.w) X.A (handleBy e X.env [.ExceptHandler (some (.Name x np)) (some n) (b₀ :: suite) pos']) (SP X pins D) X.xe s₃) X.xe s₂) X.xe s₁) (fun u s' xx => ?_) PassesOwn.looking).run [] s σ H D (I.toTry _) h) (fun f s1 hsp => ?_) (fun e s1 he => he)
  · -- the catch
    obtain ⟨a, B, sI, pins', σ', H', cls, d, rfl, J', nb, up, sky, na, os, ag, b, hb1, hyes, hno⟩ := xx
    have J : Inv X pins σ' H' sI := J'.ofTry ok
    have sky' : Sky B (X.env :: X.outer) a (Zc cls d) X.env.locals s'.heap := by rw [← hs]; exact sky
    show wpAny _ X.A (noteFrame (.ref a) X.env) _ _ _
    refine Sky.land Zc.steady hfr hf sky' fun h3 fl3 up3 => ?_
    have J3 : Inv X pins σ' H' { s' with heap := h3 } := J.landed nb fl3.1 (up.trans up3) os ag
    obtain ⟨oe3, vs3, he3, hz3, hd3⟩ := fl3.there
    have notFr : ∀ {h : Heap} {o : Obj} {vs : Array Value}, h.FunFrames B (X.env :: X.outer) → h.get? a = some o → o.data = .fields vs → a ∉ frs (X.env :: X.outer) := fun {h o vs} ff e dd hm => by
      obtain ⟨_, o', e', hnf⟩ := ff.mem hm
      rw [e] at e'; cases e'
      exact hnf _ dd
    have nfr := notFr fl3.2.2.1 he3 hd3
    have nL : a ≠ X.env.locals := fun z => nfr (List.mem_filterMap.mpr ⟨X.env, List.mem_cons_self, by rw [hf, z]⟩)
    have nF : a ∉ X.fs := fun hm => by
      obtain ⟨e, he, q⟩ := List.mem_filterMap.mp hm
      exact nfr (List.mem_filterMap.mpr ⟨e, List.mem_cons_of_mem _ he, q⟩)
    have S3 := J3.suite he3 hd3 na nL nF
    refine wpAny_handleBy_cons (codeAny_handlers_test ?_) (by intro q; cases q)
    have LT : PySem.W.Looks (model X.prog X.w) h3 (typeOf (.ref a)) cls := fun A Q E s k q => wpAny_typeOf_ref (k _ _ he3) (by rw [hz3.1]; exact q)
    have LM := PySem.W.exm_one (M := model X.prog X.w) (J3.kIn) LT hb1
    have test : ∀ {Q : Value → Shared → Prop} {E : Value → Shared → Prop}, Q c { s' with heap := h3 } → wpAny (model X.prog X.w) (X.A.mark (some (.ref a))) (eval (.Name x np) X.env) Q E { s' with heap := h3 } := fun {Q E} q => by
      obtain ⟨hg, hdbg, hm | ⟨hm, hv, hnn⟩⟩ := hc
      · exact ld_glob (X := X.suite a ((a, oe3) :: (X.pn ++ pins))) S3 hg hm q hdbg
      · exact ld_blt (X := X.suite a ((a, oe3) :: (X.pn ++ pins))) S3 hg hm hv q hnn hdbg
    refine test (LM.here ?_)
    cases b with
    | true =>
      refine codeAny_handlers_suite_as ?_
      refine HandSPX.lands_againZ fl3 fun h4 fl4 up4 => ?_
      have J4 : Inv X pins σ' H' { s' with heap := h4 } := J.landed nb fl4.1 ((up.trans up3).trans up4) os ag
      obtain ⟨oe4, vs4, he4, hz4, hd4⟩ := fl4.there
      have sIn : sI.heap.get? a = none := by
        cases e : sI.heap.get? a with
        | none => rfl
        | some o =>
          have := nb a o e (by show a ∉ frs X.stack; rw [hs]; exact nfr)
          rw [fl4.2.1] at this; cases this
      have nb0 : X.s_0.heap.get? a = none := by
        cases e : X.s_0.heap.get? a with
        | none => rfl
        | some o =>
          obtain ⟨o', e'⟩ := J.base.there a o e (by rw [hex]; exact List.not_mem_nil)
          rw [sIn] at e'; cases e'
      have np : ∀ p ∈ X.pn ++ pins, p.1 ≠ a := fun p hp z => by
        have := (J.pin p hp).1
        rw [z, sIn] at this
        cases this
      obtain ⟨z, hz, hts⟩ := hyes rfl
      obtain ⟨o, S4'⟩ := inv_frzd (z := z) (inv_adopt J4 he4 hd4 na nL nb0 np) fun p hp => by
        have e := hz p hp
        rw [upd_ne (ne_of_none e na)]; exact e
      have S4 := inv_suiteX (a := a) S4'
      refine store_ok (X := X.suite a (X.pn ++ pins)) (v := .ref a) S4 hN hi hloc rfl (fun s5 S5 => ?_) (.inr hln)
      refine wpAny_mono ((hsu a (X.pn ++ pins)).run [] s5 _ _ _ S5 (hts a oe4 o na hz4 ⟨_, hd4⟩)) (fun f s6 hsp => ?_) (fun _ _ z => False.elim z)
      have end_ : ∀ {σ6 : L2.St} {H6 : Hp} {Q : Shared → Prop}, Inv (X.suite a (X.pn ++ pins)) [] σ6 H6 s6 → (∀ s7, Inv X pins (σ6.set i none) H6 s7 → Q s7) →
          wpAny (model X.prog X.w) X.A (do bindName X.env n .none; unbindBehindTheSuite X.env n pos') (fun _ s7 => Q s7) X.xe s6 := fun {σ6 H6 Q} S6 hq => gone_ok (inv_unsuiteX S6 ok) hN hi hln hq
      cases f with
      | next =>
        obtain ⟨σ6, H6, S6, q6⟩ := hsp
        exact end_ S6 fun s7 J7 => ⟨_, _, J7, q6⟩
      | brk =>
        obtain ⟨σ6, H6, S6, q6⟩ := hsp
        exact end_ S6 fun s7 J7 => ⟨_, _, J7, q6⟩
      | cont =>
        obtain ⟨σ6, H6, S6, q6⟩ := hsp
        exact end_ S6 fun s7 J7 => ⟨_, _, J7, q6⟩
      | ret u =>
        obtain ⟨v6, σ6, H6, S6, r6, q6⟩ := hsp
        exact end_ S6 fun s7 J7 => ⟨_, _, _, J7, r6, q6⟩
    | false =>
      show wpAny _ X.A (handleBy (.ref a) X.env []) _ _ _
      refine wpAny_handleBy_nil ?_
      obtain ⟨k1, k2, k3, oe, vs, T, oT, ts', he, hz, hd, h1, hr⟩ := id fl3
      unfold PySem.passOn
      refine wpAny_bind (wpAny_field he hd h1 ?_)
      rw [if_neg (show ¬ ((Value.ref T == Value.none) = true) from by simp)]
      have fin : wpAny (model X.prog X.w) X.A (setFlight (.ref a) X.env.frame) (fun _ s4 => wpAny (model X.prog X.w) X.A (throw (.ref a) : Sem Flow) (SP X pins D) X.xe s4) X.xe { s' with heap := h3 } := by
        rw [hf]
        refine HandSPX.setFlight_upZ fl3 fun h4 hh4 up4 => wpAny_throw (tk _ _ ?_)
        exact ⟨a, B, sI, pins, σ', H', cls, d, rfl, J, nb, (up.trans up3).trans up4, .inr (.inr (by rw [hs]; exact hh4)), na, os, ag, hno rfl⟩
      first
        | exact wpAny_bind (wpAny_pure (wpAny_bind fin))
        | exact wpAny_bind fin
  · cases f with
    | next =>
      obtain ⟨σ', H', J', q⟩ := hsp
      exact wpAny_execs_nil ⟨σ', H', J'.ofTry ok, q⟩
    | brk =>
      obtain ⟨σ', H', J', q⟩ := hsp
      exact ⟨σ', H', J'.ofTry ok, q⟩
    | cont =>
      obtain ⟨σ', H', J', q⟩ := hsp
      exact ⟨σ', H', J'.ofTry ok, q⟩
    | ret u =>
      obtain ⟨v, σ', H', J', r, q⟩ := hsp
      exact ⟨v, σ', H', J'.ofTry ok, r, q⟩
end
end IRS

namespace IRS
open PySem PySem.Spec PyProof.Rows L2
/-! ### isinstance of a known exception, with a dict or without one -/
section
open PySem.W PySem.Calls
variable {prog : Program} {w : World} {A : Around} {E : Value → Shared → Prop} {s : Shared} {K : Frag} {x D : Addr} {ox : Obj} {od : Option Obj}
theorem findObj_dataO {C : Addr} {name : Str} {a g : Value} (hc : (clsIn K C).isSome = true) (ha : findIn K (.ref C) name = some (some a)) (hg : specialIn K a "__get__" = some (some g)) (ht : takesIn K a = some true) : findObj K C od name = some (.bind g a) := by
  obtain ⟨cd, hc⟩ := Option.isSome_iff_exists.mp hc
  unfold findObj
  rw [hc, Option.bind_some, ha, Option.bind_some]
  simp [hg, ht]
theorem kin_classO {Q : Option Value → Shared → Prop} (hga : findIn K (.ref D) "__getattribute__" = some (some (.builtin "BaseException.__getattribute__"))) (hgt : findIn K (.ref D) "__getattr__" = some none) (hsub : subIn K (.ref D) (.type "BaseException") = some true)
    (hdct : hasDictIn K D = true) (ha : findIn K (.ref D) "__class__" = some (some (.builtin "object.__class__")))
    (hn : specialIn K (.builtin "object.__class__") "__get__" = some (some (.builtin "getset_descriptor.__get__"))) (htk : takesIn K (.builtin "object.__class__") = some true) (hm : mroIn K D (.type "object") = some true)
    (X : K.In s.heap) (I : PySem.W.InstAt s.heap x ox D od) (h : Q (some (.ref D)) { s with toks := s.toks + 1 }) : wpAny (model prog w) A (getAttr? (.ref x) "__class__") Q E s := by
  have hf : findObj K D od "__class__" = some (.bind (.builtin "getset_descriptor.__get__") (.builtin "object.__class__")) := findObj_dataO (by obtain ⟨cd, hc, _⟩ := PySem.W.any_some hdct; rw [hc]; rfl) ha hn htk
  obtain ⟨hp, g, d, t, os⟩ := s
  have L0 := I.type (M := model prog w)
  have L1 := looks_findIn (M := model prog w) X hga
  have L2 := looks_findIn (M := model prog w) X hgt
  have L3 := looks_find (M := model prog w) X I hf
  have sub : Looks (model prog w) hp (isInstance (.ref x) (.type "BaseException")) true := L0.andThen (looks_subIn X hsub)
  have hx0 : (false && onTheHeap (Value.builtin "BaseException.__getattribute__")) = false := rfl
  have hx2 : (Value.builtin "BaseException.__getattribute__" == Value.builtin "object.__getattribute__") = false := by decide +kernel
  have hx1 : (onTheHeap (Value.ref D) && Value.builtin "BaseException.__getattribute__" == Value.builtin "object.__getattribute__") = false := by rw [hx2]; rfl
  unfold getAttr? getAttrBy? getAttrBy
  refine wpAny_bind (wpAny_mkText (wpAny_bind (wpAny_attempt (wpAny_holding (wpAny_bind (L0.at (wpAny_bind (L1.at ?_))))))))
  show wpAny _ _ (if (onTheHeap (Value.ref D) && Value.builtin "BaseException.__getattribute__" == Value.builtin "object.__getattribute__") = true then _ else _) _ _ _
  rw [hx1, if_neg Bool.false_ne_true]
  unfold getAttrByItsOwn hookBefore
  refine wpAny_bind ?_
  rw [if_pos (show onTheHeap (Value.ref D) = true from rfl)]
  refine L2.at ?_
  refine wpAny_bind (wpAny_attempt (wpAny_holding ?_))
  unfold callGetattribute
  rw [hx0, if_neg Bool.false_ne_true]
  unfold boundAndCalled
  rw [PySem.F.excAttr_ValueError.ga.bind (.ref x)]
  refine wpAny_bind (wpAny_pure ?_)
  show wpAny _ _ (call (.builtin "BaseException.__getattribute__") [.ref x, .str "__class__" t]) _ _ _
  refine wpAny_call (codeAny_call_builtin PySem.F.excAttr_ValueError.ga.plain PySem.F.entry_bexc_ga ?_)
  refine @check_slot (model prog w) _ _ ⟨hp, g, d, t + 1, os⟩ "BaseException.__getattribute__" "BaseException" "__getattribute__" (.ref x) [.str "__class__" t] [] _ (by decide +kernel) (by decide +kernel) sub (PySem.F.args_bexc_ga (.ref x) (.str "__class__" t)) ?_
  unfold Builtin.«object.__getattribute__»
  refine wpAny_bind (wpAny_of_eq (a := ((Value.ref x : Value), [Value.str "__class__" t])) (by first | rfl | (simp only [slotArgs]; rfl)) ?_)
  refine wpAny_bind (wpAny_pure (wpAny_bind (L0.at (wpAny_bind (L3.at ?_)))))
  show wpAny _ _ (holding [Value.builtin "object.__class__"] (call (.builtin "getset_descriptor.__get__") [.builtin "object.__class__", .ref x, .ref D]) >>= ret) _ _ _
  refine wpAny_bind (wpAny_holding (wpAny_call (class_get (s := ⟨hp, g, d, t + 1, os⟩) (ox := ox) (od := od) X I hm ?_)))
  refine wpAny_pure ?_
  show wpAny _ _ (handedOut (.ref D)) _ _ _
  rw [handedOut_of (v := .ref D) rfl]
  first
    | exact wpAny_pure (wpAny_pure h)
    | exact wpAny_pure h
    | exact wpAny_pure (wpAny_bind (wpAny_pure (wpAny_pure h)))
theorem kitx_O (C : ExcC K D) : KitX K (.ref x) (.ref D) (fun h => PySem.W.InstAt h x ox D od) where
  ty := fun _ _ _ I => I.type
  it := fun _ _ X _ => by
    obtain ⟨cdD, hcD, _⟩ := PySem.W.any_some C.hd
    unfold clsIn at hcD
    split at hcD
    · rename_i c' d' cd' sl' ho
      intro A' Q' E' s' k q
      unfold isType loadHead
      exact wpAny_bind (wpAny_loadPart (k _ _ (X _ _ ho)) (wpAny_pure q))
    · cases hcD
  ne := fun h tp dd its n sl X htp => by
    obtain ⟨cdD, hcD, _⟩ := PySem.W.any_some C.hd
    refine Bool.eq_false_iff.mpr fun q => ?_
    have e : D = tp := Value.ref.inj (beq_iff_eq.mp q)
    subst e
    unfold clsIn at hcD
    split at hcD
    · rename_i c' d' cd' sl' ho
      have z := (X _ _ ho).symm.trans htp
      cases z
    · cases hcD
  ca := fun X I k => kin_classO C.hg C.hk C.hs C.hd C.ha C.hn C.ht C.hm X I k
end
/-- the dict of an exception stands -/
def DcOk (H : Hp) (oe : Obj) : Prop := oe.dict = none ∨ ∃ d o u, oe.dict = some d ∧ H d = some (.frz o u)
theorem inst_O {X : Cx} {pins : List (Addr × Obj)} {σ : L2.St} {H : Hp} {s : Shared} {a D : Addr} {oe : Obj} (I : Inv X pins σ H s) (hH : H a = some (isO a oe)) (hc : oe.cls = .ref D) (hf : ∃ vs, oe.data = .fields vs) (hd : DcOk H oe) : ∃ od, PySem.W.InstAt s.heap a oe D od := by
  have hget : s.heap.get? a = some oe := (I.hok a _ hH).1
  obtain ⟨vs, hv⟩ := hf
  obtain ⟨oc, od, oda, osl⟩ := oe
  dsimp only at hc hv
  subst hc hv
  rcases hd with hd | ⟨d, o, u, hd, hu⟩
  · dsimp only at hd
    subst hd
    exact ⟨none, hget, rfl, rfl, trivial⟩
  · dsimp only at hd
    subst hd
    exact ⟨some o, hget, rfl, rfl, (I.hok d _ hu).1⟩
/-- isinstance(e, c), e an exception that is known -/
def rIsO1 (K : PySem.W.Frag) : List V → Hp → VK → Prop := fun xs H Q => ∃ (a D : Addr) (oe : Obj) (c : V) (cv : Value) (b : Bool), xs = [.ref a, c] ∧ H a = some (isO a oe) ∧ ExcC K D ∧ oe.cls = .ref D ∧ (∃ vs, oe.data = .fields vs) ∧ DcOk H oe ∧ ClsV c cv ∧ PySem.W.kitOne K (.ref D) cv = some b ∧ Q (.bl b) H
theorem call_isO1 {X : Cx} : CallR X (.builtin "isinstance") (rIsO1 X.K) := by
  intro pins s σ H xs us Q I r h
  obtain ⟨a, D, oe, c, cv, b, rfl, hH, C, hz, hf, hd, hcv, e, q⟩ := h
  obtain ⟨u1, u2, rfl, r1, r2⟩ := vals2 r
  cases (show u1 = Value.ref a from r1)
  have ec := hcv.eq r2
  subst ec
  obtain ⟨od, J⟩ := inst_O I hH hz hf hd
  exact PySem.W.kia_one (kitx_O C) I.kIn J e (fun z => nomatch z) fun tk => ⟨.bl b, H, I.kept (t' := tk) fun _ _ z => z, rfl, q⟩
/-- isinstance(e, (c1, c2, ..)) -/
def rIsOn (K : PySem.W.Frag) : List V → Hp → VK → Prop := fun xs H Q => ∃ (a D tp : Addr) (oe : Obj) (cs : List V) (us : List Value) (b : Bool), xs = [.ref a, .ref tp] ∧ H tp = some (.tup cs) ∧ Paired ClsV cs us ∧ H a = some (isO a oe) ∧ ExcC K D ∧ oe.cls = .ref D ∧ (∃ vs, oe.data = .fields vs) ∧ DcOk H oe ∧ PySem.W.kitAny K (.ref D) us = some b ∧ Q (.bl b) H
theorem call_isOn {X : Cx} : CallR X (.builtin "isinstance") (rIsOn X.K) := by
  intro pins s σ H xs us Q I r h
  obtain ⟨a, D, tp, oe, cs, ws, b, rfl, hT, k, hH, C, hz, hf, hd, e, q⟩ := h
  obtain ⟨u1, u2, rfl, r1, r2⟩ := vals2 r
  cases (show u2 = Value.ref tp from r2)
  cases (show u1 = Value.ref a from r1)
  obtain ⟨od, J⟩ := inst_O I hH hz hf hd
  obtain ⟨_, its, rv, o, h1, h2, n, h3⟩ := (show ObjOk X.prog X.w H s.heap tp (.tup cs) from I.hok tp _ hT)
  have e3 := ClsV.all k rv
  subst e3
  obtain ⟨oc, od, dt, sl⟩ := o
  simp only at h2 h3
  subst h2 h3
  exact PySem.W.kia_tup (kitx_O C) I.kIn J h1 e (fun z => nomatch z) fun tk => ⟨.bl b, H, I.tok tk, rfl, q⟩
/-! ### the classes of exceptions -/
/-- a class as isinstance and except see it, by its number: 9 is ValueError -/
def xvV (K : PySem.W.Frag) (l : List (Nat × Str)) (c : Nat) : Option V := if c = 9 then some (.ty "ValueError") else (l.lookup c).map fun x => .ref (He.ga K x)
def xvW (K : PySem.W.Frag) (l : List (Nat × Str)) (c : Nat) : Option Value := if c = 9 then some (.type "ValueError") else (l.lookup c).map fun x => .ref (He.ga K x)
def eqE (a : Option (Option Value)) (b : String) : Bool := decide (a = some (some (.builtin b)))
def excB (K : PySem.W.Frag) (D : Addr) : Bool := eqE (PySem.W.findIn K (.ref D) "__getattribute__") "BaseException.__getattribute__" && (decide (PySem.W.findIn K (.ref D) "__getattr__" = some none) && (decide (PySem.W.subIn K (.ref D) (.type "BaseException") = some true) && (PySem.W.hasDictIn K D &&
  (eqE (PySem.W.findIn K (.ref D) "__class__") "object.__class__" && (eqE (PySem.W.specialIn K (.builtin "object.__class__") "__get__") "getset_descriptor.__get__" && (decide (PySem.W.takesIn K (.builtin "object.__class__") = some true) && decide (PySem.W.mroIn K D (.type "object") = some true)))))))
theorem excB_ok {K : PySem.W.Frag} {D : Addr} (h : excB K D = true) : ExcC K D := by
  unfold excB eqE at h
  simp only [Bool.and_eq_true, decide_eq_true_eq] at h
  obtain ⟨h1, h2, h3, h4, h5, h6, h7, h8⟩ := h
  exact ⟨h1, h2, h3, h4, h5, h6, h7, h8⟩
/-- what is asked of the written part -/
def xB (K : PySem.W.Frag) (l : List (Nat × Str)) : Bool := l.all fun p => decide (p.1 ≠ 9) && (decide (PySem.W.nsIn K mainGlobals p.2 = some (some (.ref (He.ga K p.2)))) && (excB K (He.ga K p.2) &&
  (decide (PySem.W.kitOne K (.ref (He.ga K p.2)) (.type "ValueError") = some true) && (decide (PySem.W.exmOne K (.ref (He.ga K p.2)) (.type "ValueError") = some true) &&
  l.all fun q => decide (PySem.W.exmOne K (.ref (He.ga K p.2)) (.ref (He.ga K q.2)) = some (IR.subX p.1 q.1)) && decide (PySem.W.kitOne K (.ref (He.ga K p.2)) (.ref (He.ga K q.2)) = some (IR.subX p.1 q.1))))))
structure XAll (D : Wd) (l : List (Nat × Str)) : Prop where
  clX : ∀ c, D.N.clX c = (l.lookup c).map (He.ga D.N.K)
  nm : ∀ c x, l.lookup c = some x → D.mg x = some (.ref (He.ga D.N.K x))
  ok : ∀ c x, l.lookup c = some x → ExcC D.N.K (He.ga D.N.K x)
  kit : ∀ c x y u, l.lookup c = some x → xvW D.N.K l y = some u → PySem.W.kitOne D.N.K (.ref (He.ga D.N.K x)) u = some (IR.subX c y)
  exm : ∀ c x y u, l.lookup c = some x → xvW D.N.K l y = some u → PySem.W.exmOne D.N.K (.ref (He.ga D.N.K x)) u = some (IR.subX c y)
theorem lookup_mem' {α β : Type} [BEq α] [LawfulBEq α] {l : List (α × β)} {c : α} {x : β} (h : l.lookup c = some x) : (c, x) ∈ l := by
  induction l with
  | nil => cases h
  | cons p r ih =>
    obtain ⟨a, b⟩ := p
    by_cases e : c = a
    · subst e
      simp only [List.lookup, beq_self_eq_true] at h
      cases h
      exact List.mem_cons_self
    · simp only [List.lookup, beq_eq_false_iff_ne.mpr e] at h
      exact List.mem_cons_of_mem _ (ih h)
theorem xall {D : Wd} {l : List (Nat × Str)} {h : Heap} (X : D.N.K.In h) (G : h.Ns mainGlobals D.mg) (hx : ∀ c, D.N.clX c = (l.lookup c).map (He.ga D.N.K)) (hB : xB D.N.K l = true) : XAll D l := by
  have key : ∀ c x, l.lookup c = some x → _ := fun c x e => List.all_eq_true.mp hB (c, x) (lookup_mem' e)
  simp only [Bool.and_eq_true, decide_eq_true_eq, List.all_eq_true] at key
  refine ⟨hx, fun c x e => PySem.W.mg_of X G (key c x e).2.1, fun c x e => excB_ok (key c x e).2.2.1, fun c x y u e eu => ?_, fun c x y u e eu => ?_⟩
  · unfold xvW at eu
    split at eu
    · rename_i h9
      cases eu
      rw [h9, (key c x e).2.2.2.1]
      simp [IR.subX]
    · obtain ⟨z, hz, rfl⟩ := Option.map_eq_some_iff.mp eu
      exact ((key c x e).2.2.2.2.2 _ (lookup_mem' hz)).2
  · unfold xvW at eu
    split at eu
    · rename_i h9
      cases eu
      rw [h9, (key c x e).2.2.2.2.1]
      simp [IR.subX]
    · obtain ⟨z, hz, rfl⟩ := Option.map_eq_some_iff.mp eu
      exact ((key c x e).2.2.2.2.2 _ (lookup_mem' hz)).1
/-! ### the head's hook, with one thing more asked of the written part -/
def obsE (n : Nat) (fa : List He.Fa) (fn : List He.DefD) (ex : PySem.W.Frag → Bool) (g : Addr → Option Obj) : He.AlD × Bool := (He.obsDG n fa fn g, ex (He.frG g (He.asD g n)))
def hookE (n : Nat) (fa : List He.Fa) (fn : List He.DefD) (ex : PySem.W.Frag → Bool) : PySem.W.Hook where
  α := He.AlD × Bool
  obs := fun s => obsE n fa fn ex s.heap.get?
  val := fun _ => (He.valD fn, true)
  says := fun _ h => ∃ K : PySem.W.Frag, K.In h ∧ He.SaysD fa fn K ∧ ex K = true
  of := fun _ _ e => ⟨_, He.frG_in, congrArg Prod.fst e, congrArg Prod.snd e⟩
  keeps := fun _ _ _ ⟨K, hK, c⟩ k => ⟨K, PySem.W.Frag.In.keeps hK k, c⟩
theorem obsE_eq {n : Nat} {fa : List He.Fa} {fn : List He.DefD} {ex : PySem.W.Frag → Bool} {g : Addr → Option Obj} {s : Shared} (h : ∀ a, g a = s.heap.get? a) : obsE n fa fn ex g = (hookE n fa fn ex).obs s := by
  have e : g = s.heap.get? := funext h
  rw [e] <;> rfl
/-- a class without own __init__: it may be raised so -/
structure RaOk (K : PySem.W.Frag) (x : Str) : Prop where
  ex : PySem.W.excIn K (He.ga K x) He.veBase "ValueError.__new__" = true
  kp : PySem.W.keepIn K (.ref (He.ga K x)) = true
  sb : PySem.W.subIn K (.ref (He.ga K x)) (.type "BaseException") = some true
  ty : PySem.W.typeIn K (.ref (He.ga K x)) = some (.type "type")
/-! ### rules -/
section
variable {D : Wd} {X : Cx} {c : Ctx} {k : Nat} {F : Fm} {pos : Pos} {a b e o tg : Expr} {es : List Expr} {call : Nat → List IR.D → IR.M IR.D} {x y z : IR.E} {p apos cpos tpos p2 p3 : Pos} {n : Str} {l : List (Nat × Str)}
theorem Rep.exn {N : Nm} {μ : List Addr} {H : Hp} {S : IR.Sto} {r c : Nat} {fs : List (Nat × IR.D)} {v : V} (R : Rel N μ S H) (rv : RepV N μ H (.ref r) v) (h : S[r]? = some (.exn c fs)) :
    ∃ a C oe, v = .ref a ∧ H a = some (isO a oe) ∧ N.clX c = some C ∧ oe.cls = .ref C ∧ (∃ vs, oe.data = .fields vs) ∧ DcOk H oe := by
  obtain ⟨a, rfl, ha⟩ := rv.ref
  obtain ⟨C, oe, h1, h2, h3, h4, h5⟩ := R.ob r _ a h ha
  exact ⟨a, C, oe, rfl, h2, h1, h3, h4, h5.imp (fun z => z.2) fun ⟨dd, o, r, e1, e2, _⟩ => ⟨dd, o, _, e1, e2⟩⟩
theorem isx_at {cs : List Nat} {r : Nat} {S : IR.Sto} : IR.evOp (.isx cs) [.ref r] S = match S[r]? with
    | some (.exn c _) => .ok (.bl (cs.any (IR.subX c))) S
    | _ => .bad := rfl
theorem isx_bad {cs : List Nat} {d : IR.D} {S : IR.Sto} {N : Nm} {W : Fm} {μ : List Addr} {H : Hp} {Q : VK} (g : GV N W μ H (IR.evOp (.isx cs) [d] S) Q) : ∃ r c fs, d = .ref r ∧ S[r]? = some (.exn c fs) ∧ GV N W μ H (.ok (.bl (cs.any (IR.subX c))) S) Q := by
  cases d <;> first | exact g.elim | skip
  rename_i r
  rw [isx_at] at g
  cases h : S[r]? with
  | none => rw [h] at g; exact g.elim
  | some o =>
    rw [h] at g
    cases o with
    | exn c fs => exact ⟨r, c, fs, rfl, h, g⟩
    | lst l => exact g.elim
    | dK q l => exact g.elim
    | dT q l => exact g.elim
    | ins q l => exact g.elim
/-- the name of a class -/
structure XNm (D : Wd) (X : Cx) (l : List (Nat × Str)) (y : Nat) (e : Expr) (v : V) (u : Value) : Prop where
  pe : PE X e (tC v)
  cv : ClsV v u
  at_ : xvW D.N.K l y = some u
theorem xnm (C : Cm D X c k F) (A : XAll D l) {y : Nat} {xn : Str} (hg : c.sc.names.lookup xn = some .globalImplicit) (hy : l.lookup y = some xn) (h9 : y ≠ 9 := by decide) (hdb : (xn == ("__debug__" : Str)) = false := by rfl) : XNm D X l y (.Name xn p) (.ref (He.ga D.N.K xn)) (.ref (He.ga D.N.K xn)) :=
  ⟨pe_glob (C.gl hg) (by rw [C.mg]; exact A.nm _ _ hy) rfl hdb, .own _, by unfold xvW; rw [if_neg h9, hy]; rfl⟩
theorem xnv (C : Cm D X c k F) (hg : c.sc.names.lookup ("ValueError" : Str) = some .globalImplicit) (hm : D.mg "ValueError" = none) : XNm D X l 9 (.Name "ValueError" p) (.ty "ValueError") (.type "ValueError") :=
  ⟨pe_bltn (v := .ty "ValueError") (C.gl hg) (C.mgn hm) (by rfl) rfl (by decide) (by rfl), .ty _, rfl⟩
/-- isinstance(e, C) -/
theorem e_isx1 (C : Cm D X c k F) (A : XAll D l) {y : Nat} {ce : Expr} {v : V} {u : Value} (hc : XNm D X l y ce v u) (hg : c.sc.names.lookup ("isinstance" : Str) = some .globalImplicit) (hm : D.mg "isinstance" = none)
    (ha : PE X a (tV D F call x)) (hs : starEach [a, ce] X.env = (false, eval a X.env) :: starEach [ce] X.env) (hs2 : starEach [ce] X.env = (false, eval ce X.env) :: starEach [] X.env) (hpl : (backTo pos (starEach [ce] X.env)).any (·.1) = false := by rfl) :
    PE X (.Call (.Name "isinstance" p) [a, ce] [] pos) (tV D F call (.op (.isx [y]) (.cons false x .nil))) := by
  refine PE.weak (pe_callB call_isO1 (C.gl hg) (C.mgn hm) boot_isinstance (pa_cons ha (pa_cons hc.pe pa_nil hs2) hs) (he := hs) (hpl := hpl)) fun σ H Q q => ?_
  obtain ⟨μ, S, ρ, hI, R, hρ, g⟩ := q
  have g : GV D.N F μ H (((IR.evs D.g call (.cons false x .nil) ρ).bind fun l => IR.evOp (.isx [y]) l) S) Q := g
  rw [evs1] at g
  refine one (f := fun a => IR.evOp (.isx [y]) [a]) hI R hρ g fun μ2 S2 H2 d v' R2 rd g2 => ?_
  obtain ⟨r, cc, fs, rfl, hS, g2⟩ := isx_bad g2
  obtain ⟨a', C', oe, rfl, h2, h1, h3, h4, h5⟩ := Rep.exn R2 rd hS
  rw [A.clX] at h1
  obtain ⟨xc, hxc, rfl⟩ := Option.map_eq_some_iff.mp h1
  rw [C.K]
  refine ⟨a', _, oe, v, u, _, rfl, h2, A.ok _ _ hxc, h3, h4, h5, hc.cv, A.kit _ _ _ _ hxc hc.at_, ?_⟩
  have := GV.bl R2 g2
  simpa using this
/-- the names of classes -/
structure XNms (D : Wd) (X : Cx) (l : List (Nat × Str)) (ys : List Nat) (es : List Expr) (vs : List V) (us : List Value) : Prop where
  pa : PA X es (fun _ H Q => Q vs H)
  cv : Paired ClsV vs us
  at_ : ys.mapM (xvW D.N.K l) = some us
  len : vs.length = ys.length
theorem xn0 : XNms D X l [] [] [] [] := ⟨pa_nil, .nil, rfl, rfl⟩
theorem xn1 {y : Nat} {ys : List Nat} {v : V} {vs : List V} {u : Value} {us : List Value} (h : XNm D X l y e v u) (r : XNms D X l ys es vs us) (hs : starEach (e :: es) X.env = (false, eval e X.env) :: starEach es X.env) : XNms D X l (y :: ys) (e :: es) (v :: vs) (u :: us) :=
  ⟨PA.weak (pa_cons h.pe r.pa hs) fun σ H Q q => q, .cons h.cv r.cv, by rw [List.mapM_cons, h.at_, r.at_]; rfl, by simp [r.len]⟩
theorem kit_any {cc : Nat} {xc : Str} (A : XAll D l) (hxc : l.lookup cc = some xc) : ∀ {ys : List Nat} {us : List Value}, ys.mapM (xvW D.N.K l) = some us → PySem.W.kitAny D.N.K (.ref (He.ga D.N.K xc)) us = some (ys.any (IR.subX cc))
  | [], us, h => by cases h; rfl
  | y :: ys, us, h => by
    rw [List.mapM_cons] at h
    cases e1 : xvW D.N.K l y with
    | none => rw [e1] at h; cases h
    | some u =>
      cases e2 : ys.mapM (xvW D.N.K l) with
      | none => rw [e1, e2] at h; cases h
      | some us' =>
        rw [e1, e2] at h
        cases h
        have ih := kit_any A hxc e2
        have q := A.kit _ _ _ _ hxc e1
        have e : (y :: ys).any (IR.subX cc) = (IR.subX cc y || ys.any (IR.subX cc)) := rfl
        unfold PySem.W.kitAny
        rw [q, e]
        cases IR.subX cc y with
        | true => rfl
        | false => exact ih
theorem e_isxT (C : Cm D X c k F) (A : XAll D l) {ys : List Nat} {j} {vs : List V} {us : List Value} (hc : XNms D X l ys es vs us) (hg : c.sc.names.lookup ("isinstance" : Str) = some .globalImplicit) (hm : D.mg "isinstance" = none)
    (ha : PE X a (tV D F call x)) (hs : starEach [a, .Tuple es j p2] X.env = (false, eval a X.env) :: starEach [.Tuple es j p2] X.env) (hl : ys.length ≤ 1000) :
    PE X (.Call (.Name "isinstance" p) [a, .Tuple es j p2] [] pos) (tV D F call (.op (.isx ys) (.cons false x .nil))) := by
  refine PE.weak (pe_callB call_isOn (C.gl hg) (C.mgn hm) boot_isinstance (pa_cons ha (pa_cons (pe_tup hc.pa) pa_nil) hs) (he := hs)) fun σ H Q q => ?_
  obtain ⟨μ, S, ρ, hI, R, hρ, g⟩ := q
  have g : GV D.N F μ H (((IR.evs D.g call (.cons false x .nil) ρ).bind fun l => IR.evOp (.isx ys) l) S) Q := g
  rw [evs1] at g
  refine one (f := fun a => IR.evOp (.isx ys) [a]) hI R hρ g fun μ2 S2 H2 d v' R2 rd g2 => ?_
  refine ⟨by rw [hc.len]; exact Nat.le_trans hl (by decide), fun q hq => ?_⟩
  obtain ⟨r, cc, fs, rfl, hS, g2⟩ := isx_bad g2
  have R3 := R2.laid (o := .tup vs) hq
  obtain ⟨a', C', oe, rfl, h2, h1, h3, h4, h5⟩ := Rep.exn R3 (rd.mono (Ext.laid hq)) hS
  rw [A.clX] at h1
  obtain ⟨xc, hxc, rfl⟩ := Option.map_eq_some_iff.mp h1
  rw [C.K]
  exact ⟨a', _, q, oe, vs, us, _, rfl, upd_same, hc.cv, h2, A.ok _ _ hxc, h3, h4, h5, kit_any A hxc hc.at_, GV.bl R3 (GV.base (Ext.laid hq) g2)⟩
/-- raise C(e) -/
theorem st_raise (C : Cm D X c k F) (A : XAll D l) {y : Nat} {xn : Str} (hy : l.lookup y = some xn) (ra : RaOk D.N.K xn) (hfs : D.g.xfs.lookup y = some []) (hg : c.sc.names.lookup xn = some .globalImplicit)
    (ha : PA X [e] (tAs D F call (.cons true x .nil))) (hdb : (xn == ("__debug__" : Str)) = false := by rfl) (he : starEach [e] X.env = (false, eval e X.env) :: starEach [] X.env := by rfl) (hpl : (backTo p2 (starEach [] X.env)).any (·.1) = false := by rfl) (hh : c.hot = false := by rfl) :
    PS X (.Raise (some (.Call (.Name xn p) [e] [] p2)) none pos) (tSt D F call (.raise y (.cons true x .nil))) := by
  refine PS.weak (ps_raise (C.calm hh) C.tk (pmk_ownA (C := He.ga D.N.K xn) PySem.F.excBase_ValueError (by rw [C.K]; exact ra.ex) (by rw [C.mg]; exact A.nm _ _ hy) (by rw [C.K]; exact ra.kp) (raises_own (by rw [C.K]; exact ra.sb) (by rw [C.K]; exact ra.ty)) (C.gl hg) ha hdb he hpl)) fun E σ H q => ?_
  obtain ⟨μ, S, ρ, hI, R, hρ, g⟩ := q
  refine ⟨μ, S, ρ, hI, R, hρ, ?_⟩
  have g : GG D.N F μ H ((IR.evs D.g call (.cons true x .nil) ρ S).bind fun l => fun S => match D.g.xfs.lookup y with
    | some fs => .exc y (fs.zip l) S
    | none => .bad) (KF D.N F E H) := g
  cases er : IR.evs D.g call (.cons true x .nil) ρ S with
  | bad => rw [er] at g; exact g
  | exc cc fs S1 => rw [er] at g; exact g
  | ok ds S1 =>
    rw [er] at g
    have g : GG D.N F μ H ((match D.g.xfs.lookup y with
      | some fs => .exc y (fs.zip ds) S1
      | none => .bad) : IR.Res IR.Flow) (KF D.N F E H) := g
    rw [hfs] at g
    refine fun μ' H' e1 R1 vs rs => ⟨by rw [rs.length.2]; show 1 ≤ sizeLine; decide, ?_⟩
    exact g μ' H' (.ref (He.ga D.N.K xn)) none e1 R1 ⟨_, by rw [A.clX, hy]; rfl, rfl, .inl ⟨rfl, rfl⟩⟩ (fun d z => nomatch z) σ hI
/-! ### try -/
/-- where one stands in a try's body; in its suite -/
def Fb (F : Fm) (ws : List Nat) (σ0 : L2.St) (W : WX) : Fm where
  I := fun σ => F.I σ ∧ wipe σ ws = wipe σ0 ws
  as := fun j => F.as j && ws.contains j
  W := W
  put := fun σ i v h hI => by
    rw [Bool.and_eq_true] at h
    exact ⟨F.put σ i v h.1 hI.1, by rw [wipe_set (by simpa using h.2)]; exact hI.2⟩
  del := fun σ i h hI => by
    rw [Bool.and_eq_true] at h
    exact ⟨F.del σ i h.1 hI.1, by rw [wipe_set (by simpa using h.2)]; exact hI.2⟩
def Fs (F : Fm) (i : Nat) : Fm where
  I := fun σ => F.I (σ.set i none)
  as := F.as
  W := fun _ _ _ _ => False
  put := fun σ j v h hI => by
    by_cases e : j = i
    · subst e; rw [List.set_set]; exact hI
    · rw [List.set_comm _ _ e]; exact F.put _ j v h hI
  del := fun σ j h hI => by
    by_cases e : j = i
    · subst e; rw [List.set_set]; exact hI
    · rw [List.set_comm _ _ e]; exact F.del _ j h hI
def Ctx.heat (c : Ctx) : Ctx := ⟨c.N, c.sc, c.fs, true⟩
theorem Cm.tr (C : Cm D X c k F) {pn : List (Addr × Obj)} {xe : Value → Shared → Prop} {F' : Fm} (tk : Takes (X.tr pn xe) F'.W) : Cm D (X.tr pn xe) c k F' :=
  ⟨C.prog, C.w, C.K, C.mg, C.base, C.N, C.nd, C.sc, C.fs, C.kd, C.calm0, C.room0, tk⟩
theorem Cm.suite (C : Cm D X c k F) {pn : List (Addr × Obj)} {a : Addr} {F' : Fm} (tk : Takes (X.suite a pn) F'.W) : Cm D (X.suite a pn) c.heat k F' :=
  ⟨C.prog, C.w, C.K, C.mg, C.base, C.N, C.nd, C.sc, C.fs, C.kd, (fun z => nomatch (show true = false from z)), ⟨C.room0.dp, C.room0.un⟩, tk⟩
theorem wipeV_get {j : Nat} {d : IR.D} : ∀ {ws : List Nat} {ρ : IR.Env}, (IR.wipeV ρ ws)[j]? = some (some d) → j ∉ ws ∧ ρ[j]? = some (some d)
  | [], ρ, h => ⟨List.not_mem_nil, h⟩
  | i :: ws, ρ, h => by
    obtain ⟨h1, h2⟩ := wipeV_get (ws := ws) (ρ := ρ.set i none) h
    rw [List.getElem?_set] at h2
    split at h2
    · split at h2 <;> cases h2
    · rename_i hne
      exact ⟨fun hm => (List.mem_cons.mp hm).elim (fun e => hne e.symm) h1, h2⟩
theorem wipeV_len : ∀ {ws : List Nat} {ρ : IR.Env}, (IR.wipeV ρ ws).length = ρ.length
  | [], ρ => rfl
  | i :: ws, ρ => by
    have := wipeV_len (ws := ws) (ρ := ρ.set i none)
    rw [List.length_set] at this
    exact this
theorem wipe_get {j : Nat} {σ : L2.St} : ∀ {ws : List Nat}, j ∉ ws → (wipe σ ws)[j]? = σ[j]?
  | [], _ => rfl
  | i :: ws, h => by
    have h1 : i ≠ j := fun e => h (e ▸ List.mem_cons_self)
    have h2 : j ∉ ws := fun e => h (List.mem_cons_of_mem _ e)
    show ((wipe σ ws).set i none)[j]? = _
    rw [List.getElem?_set_ne h1, wipe_get h2]
theorem wipe_len {σ : L2.St} : ∀ {ws : List Nat}, (wipe σ ws).length = σ.length
  | [] => rfl
  | i :: ws => by
    show ((wipe σ ws).set i none).length = _
    rw [List.length_set, wipe_len]
theorem RSt.wiped {N : Nm} {μ : List Addr} {H : Hp} {ρ : IR.Env} {σ σ' : L2.St} {ws : List Nat} (h : RSt N μ H ρ σ) (e : L2.wipe σ' ws = L2.wipe σ ws) : RSt N μ H (IR.wipeV ρ ws) σ' := by
  refine ⟨by rw [wipeV_len, h.1, ← wipe_len (ws := ws), ← e, wipe_len], fun j d hd => ?_⟩
  obtain ⟨h1, h2⟩ := wipeV_get hd
  rw [← wipe_get h1, e, wipe_get h1]
  exact h.2 j d h2
theorem RSt.gone {N : Nm} {μ : List Addr} {H : Hp} {ρ : IR.Env} {σ : L2.St} {i : Nat} (h : RSt N μ H ρ σ) : RSt N μ H (ρ.set i none) (σ.set i none) := by
  refine ⟨by simp [h.1], fun j d hd => ?_⟩
  rw [List.getElem?_set] at hd ⊢
  split at hd
  · split at hd <;> cases hd
  · rename_i hne
    rw [if_neg hne]
    exact h.2 j d hd
theorem WExt.trans' {μ μ1 μ2 : List Addr} {H H1 H2 : Hp} (a : WExt μ H μ1 H1) (b : WExt μ1 H1 μ2 H2) : WExt μ H μ2 H2 := ⟨a.pre.trans b.pre, fun x vs e => b.tup _ _ (a.tup _ _ e), fun x o u e => b.frz _ _ _ (a.frz _ _ _ e), fun x o u e => b.frx _ _ _ (a.frx _ _ _ e)⟩
theorem w_frzd {N : Nm} {μ : List Addr} {H : Hp} {d : Addr} {r : List (Str × V)} {o : Obj} (hd : H d = some (.xd r)) : WExt μ H μ (upd H d (.frz o (.xd r))) :=
  ⟨List.prefix_refl _, fun a us z => by rw [upd_ne (fun e => by rw [e, hd] at z; cases z)]; exact z, fun a q us z => by rw [upd_ne (fun e => by rw [e, hd] at z; cases z)]; exact z, fun a q us z => by rw [upd_ne (fun e => by rw [e, hd] at z; cases z)]; exact z⟩
theorem Rel.frzd {N : Nm} {μ : List Addr} {S : IR.Sto} {H : Hp} {d : Addr} {r : List (Str × V)} {o : Obj} (R : Rel N μ S H) (hd : H d = some (.xd r)) (hm : d ∉ μ) : Rel N μ S (upd H d (.frz o (.xd r))) :=
  ⟨R.len, R.nd, fun i q a h1 h2 => (R.ob i q a h1 h2).mono (w_frzd (N := N) hd) (upd_ne fun e => hm (e ▸ List.mem_of_getElem? h2))⟩
theorem st_try {y i : Nat} {xn n : Str} {bd sd : IR.Ss} {ws : List Nat} {body suite : List Stmt} {b₀ : Stmt} {np pos' : Pos} (C : Cm D X c k F) (hx : Fx X) (A : XAll D l) (hN : c.N[i]? = some n) (hln : c.sc.names.lookup n = some .local)
    (hy : l.lookup y = some xn) (hg : c.sc.names.lookup xn = some .globalImplicit) (has : ∀ j, F.as j = true)
    (hb : ∀ (pn : List (Addr × Obj)) (xe : Value → Shared → Prop) (F' : Fm), Cm D (X.tr pn xe) c k F' → Fx (X.tr pn xe) → PassesOwn (model X.prog X.w) X.A X.env xe → (∀ j, ws.contains j = true → F'.as j = true) → PSs (X.tr pn xe) body (tSs D F' call bd))
    (hs : ∀ (a : Addr) (pn : List (Addr × Obj)) (F' : Fm), Cm D (X.suite a pn) c.heat k F' → (∀ j, F'.as j = true) → PSs (X.suite a pn) (b₀ :: suite) (tSs D F' call sd)) (h9 : y ≠ 9 := by decide) (hdb : (xn == ("__debug__" : Str)) = false := by rfl) :
    PS X (.Try body [.ExceptHandler (some (.Name xn np)) (some n) (b₀ :: suite) pos'] [] [] pos) (tSt D F call (.try_ bd ws y i sd)) := by
  have hv : xvW D.N.K l y = some (.ref (He.ga D.N.K xn)) := by unfold xvW; rw [if_neg h9, hy]; rfl
  have P := ps_try_asX (x := xn) (n := n) (c := .ref (He.ga D.N.K xn)) (i := i) (body := body) (suite := suite) (b₀ := b₀) (np := np) (pos := pos) (pos' := pos') (tb := fun W E σ H => tS D.N (Fb F ws σ W) (IR.exs D.g call bd) E σ H) (ts := tSs D (Fs F i) call sd) (Wout := F.W)
    hx.ex hx.st hx.fr (by rw [C.N]; exact C.nd) (by rw [C.N]; exact hN) (by show X.env.scope.names.lookup n = _; rw [C.sc]; exact hln) ⟨C.gl hg, hdb, .inl (by rw [C.mg]; exact A.nm _ _ hy)⟩ C.tk
    (fun W pn xe tk' hp' => ⟨fun pins s σ H E I h => (hb pn xe (Fb F ws σ W) (C.tr tk') ⟨hx.ex, hx.st, hx.fr⟩ hp' (fun j hj => by show (F.as j && ws.contains j) = true; rw [has j, hj]; rfl)).run pins s σ H E I h⟩)
    (fun a pn => hs a pn (Fs F i) (C.suite takes00) has)
  refine PS.weak P fun E σ H q => ?_
  obtain ⟨μ, S, ρ, hI, R, hρ, g⟩ := q
  refine ⟨μ, S, ρ, ⟨hI, rfl⟩, R, hρ, ?_⟩
  have g : GG D.N F μ H (IR.caught y i ws ρ (IR.exs D.g call bd ρ) (fun ρ => IR.exs D.g call sd ρ) S) (KF D.N F E H) := g
  unfold IR.caught at g
  cases er : IR.exs D.g call bd ρ S with
  | bad => rw [er] at g; exact g
  | ok fl S1 =>
    rw [er] at g
    intro μ' H' e R'
    have g := g μ' H' e R'
    cases fl with
    | next ρ' => exact fun σ' hI' => g σ' hI'.1
    | brk ρ' => exact fun σ' hI' => g σ' hI'.1
    | cnt ρ' => exact fun σ' hI' => g σ' hI'.1
    | ret d => exact g
  | exc c' fs S1 =>
    rw [er] at g
    dsimp only at g
    intro μ' H' cls dd e R' rx nw σ' hI'
    obtain ⟨C', hC', rfl, rfs⟩ := id rx
    have hC2 := hC'
    rw [A.clX] at hC'
    obtain ⟨xc, hxc, rfl⟩ := Option.map_eq_some_iff.mp hC'
    show wAsX X.K _ i _ F.W E _ dd σ' H'
    refine ⟨IR.subX c' y, by rw [C.K]; exact A.exm _ _ _ _ hxc hv, fun hb1 => ?_, fun hb0 => ?_⟩
    · rw [if_pos hb1] at g
      have frA : ∀ {p : Addr}, H' p = none → H p = none := fun {p} hp => none_of fun o z => by
        by_cases hm : p ∈ μ
        · obtain ⟨u, e1, _⟩ := R'.mem_some (e.pre.subset hm)
          rw [hp] at e1; cases e1
        · have := e.keep p o hm z
          rw [hp] at this; cases this
      have hdn : ∀ {d : Addr}, dd = some d → d ∉ μ' := fun {d} hd => rx.fresh R' hd
      have fin : ∀ (a : Addr) (oe : Obj) (Hn : Hp), H' a = none → Zc (.ref (He.ga D.N.K xc)) dd oe → (∃ vs, oe.data = .fields vs) → Ext μ H (μ' ++ [a]) Hn → WExt μ' H' (μ' ++ [a]) Hn → Rel D.N (μ' ++ [a]) (S1 ++ [.exn c' fs]) Hn →
          tSs D (Fs F i) call sd { nx := fun σ' H' => E.nx (σ'.set i none) H', rt := E.rt, bk := fun σ' H' => E.bk (σ'.set i none) H', ct := fun σ' H' => E.ct (σ'.set i none) H' } (σ'.set i (some (.ref a))) Hn := by
        intro a oe Hn na hz hd e2 w2 R2
        have hat : (μ' ++ [a])[S1.length]? = some a := by rw [← R'.len]; simp
        refine ⟨μ' ++ [a], S1 ++ [.exn c' fs], (IR.wipeV ρ ws).set i (some (.ref S1.length)), ?_, R2, (((hρ.mono e.w).wiped hI'.2).mono w2).set (.ref hat), ?_⟩
        · show F.I ((σ'.set i (some (.ref a))).set i none)
          rw [List.set_set]
          exact F.del _ _ (has i) hI'.1
        · have g2 := KF.base e2 g
          have g2 : GG D.N F (μ' ++ [a]) Hn ((IR.noExc (IR.exs D.g call sd ((IR.wipeV ρ ws).set i (some (.ref S1.length)))) (S1 ++ [.exn c' fs])).bind fun fl => IR.M.pure (fl.gone i)) (KF D.N F E Hn) := g2
          unfold IR.noExc at g2
          cases es : IR.exs D.g call sd ((IR.wipeV ρ ws).set i (some (.ref S1.length))) (S1 ++ [.exn c' fs]) with
          | bad => rw [es] at g2; exact g2
          | exc c2 f2 S2 => rw [es] at g2; exact g2.elim
          | ok fl S2 =>
            rw [es] at g2
            intro μ6 H6 e6 R6
            have k := g2 μ6 H6 e6 R6
            cases fl with
            | next ρ6 => exact fun σ6 h6 r6 => k (σ6.set i none) h6 r6.gone
            | brk ρ6 => exact fun σ6 h6 r6 => k (σ6.set i none) h6 r6.gone
            | cnt ρ6 => exact fun σ6 h6 r6 => k (σ6.set i none) h6 r6.gone
            | ret d => exact k
      rcases rfs with ⟨rfl, rfl⟩ | ⟨d, r, rfl, hxd, fr⟩
      · refine ⟨none, (fun p z => nomatch z), fun a oe o na hz hd => fin a oe _ na hz hd ((e.updNew (frA na)).add (frA na)) ?_ ?_⟩
        · exact (Ext.laid na).w.trans' .add
        · exact (R'.laid na).add (R'.fresh na) ⟨_, oe, hC2, upd_same, hz.1, hd, .inl ⟨rfl, hz.2⟩⟩
      · refine ⟨some (d, r), fun p z => by cases z; exact hxd, fun a oe o na hz hd => ?_⟩
        have hd2 : (upd H' a (isO a oe)) d = some (.xd r) := by rw [upd_ne (ne_of_none hxd na)]; exact hxd
        have w2 : WExt μ' H' μ' (upd (upd H' a (isO a oe)) d (.frz o (.xd r))) := (Ext.laid na).w.trans' (w_frzd (N := D.N) hd2)
        refine fin a oe _ na hz hd (((e.updNew (frA na)).updNew (nw d rfl)).add (frA na)) (w2.trans' .add) ?_
        refine ((R'.laid na).frzd hd2 (hdn rfl)).add (R'.fresh na) ⟨_, oe, hC2, ?_, hz.1, hd, .inr ⟨d, o, r, hz.2, upd_same, (fr.mono w2).mono .add⟩⟩
        rw [upd_ne (Ne.symm (ne_of_none hxd na))]
        exact upd_same
    · rw [if_neg (by rw [hb0]; decide)] at g
      exact g μ' H' _ dd e R' rx nw σ' hI'.1
end
end IRS

namespace IR
/-- it answers, and so -/
def Res.wp {α : Type} (r : Res α) (Q : α → Sto → Prop) : Prop := match r with
  | .ok a S' => Q a S'
  | _ => False
def wp {α : Type} (m : M α) (S : Sto) (Q : α → Sto → Prop) : Prop := (m S).wp Q
section
variable {α β : Type} {S : Sto} {Q Q' : α → Sto → Prop}
theorem wp_mono {m : M α} (h : wp m S Q) (k : ∀ a S', Q a S' → Q' a S') : wp m S Q' := by
  unfold wp at h ⊢
  cases e : m S with
  | ok a S' => rw [e] at h; exact k _ _ h
  | exc c fs S' => rw [e] at h; exact h
  | bad => rw [e] at h; exact h
theorem wp_ok {m : M α} (h : wp m S Q) : ∃ a S', m S = .ok a S' ∧ Q a S' := by
  unfold wp at h
  cases e : m S with
  | ok a S' => rw [e] at h; exact ⟨_, _, rfl, h⟩
  | exc c fs S' => rw [e] at h; exact h.elim
  | bad => rw [e] at h; exact h.elim
@[simp] theorem wp_pure {a : α} : wp (M.pure a) S Q ↔ Q a S := Iff.rfl
theorem wp_bind' {m : M α} {f : α → M β} {Q : β → Sto → Prop} : wp (m.bind f) S Q ↔ wp m S fun a S' => wp (f a) S' Q := by
  unfold wp M.bind Res.bind
  cases m S <;> rfl
@[simp] theorem wp_bind {m : M α} {f : α → M β} {Q : β → Sto → Prop} : wp (M.bind m f) S Q ↔ wp m S fun a S' => wp (f a) S' Q := wp_bind'
@[simp] theorem wp_bad : wp (M.bad : M α) S Q ↔ False := Iff.rfl
@[simp] theorem wp_okf {a : α} {S' : Sto} : wp (fun _ => .ok a S') S Q ↔ Q a S' := Iff.rfl
theorem wp_fun {m : M α} {r : Res α} (h : m S = r) : wp m S Q ↔ r.wp Q := by unfold wp; rw [h]
@[simp] theorem wp_ite {c : Prop} [Decidable c] {m n : M α} : wp (if c then m else n) S Q ↔ if c then wp m S Q else wp n S Q := by split <;> rfl
@[simp] theorem wp_getVar {ρ : Env} {i : Nat} {Q : D → Sto → Prop} : wp (getVar ρ i) S Q ↔ ∃ d, ρ[i]? = some (some d) ∧ Q d S := by
  unfold wp getVar
  cases ρ[i]? with
  | none => simp [Res.wp]
  | some o => cases o <;> simp [Res.wp]
/-! ### operations -/
variable {P : D → Sto → Prop}
@[simp] theorem wp_val1 {o : Option D} : wp (val1 o) S P ↔ ∃ d, o = some d ∧ P d S := by
  cases o <;> simp [wp, val1, Res.wp]
@[simp] theorem wp_bool1 {o : Option Bool} : wp (bool1 o) S P ↔ ∃ b, o = some b ∧ P (.bl b) S := by
  cases o <;> simp [wp, bool1, Res.wp]
@[simp] theorem o_addI {i j : Int} : wp (evOp .add [.int i, .int j]) S P ↔ P (.int (i + j)) S := Iff.rfl
@[simp] theorem o_subI {i j : Int} : wp (evOp .sub [.int i, .int j]) S P ↔ P (.int (i - j)) S := Iff.rfl
@[simp] theorem o_mulI' {i j : Int} : wp (evOp .mul [.int i, .int j]) S P ↔ ((-B64 < i ∧ i < B64) ∨ (-B64 < j ∧ j < B64)) ∧ P (.int (i * j)) S := by
  show wp (val1 (if (-B64 < i ∧ i < B64) ∨ (-B64 < j ∧ j < B64) then some (.int (i * j)) else none)) S P ↔ _
  by_cases h : (-B64 < i ∧ i < B64) ∨ (-B64 < j ∧ j < B64) <;> simp [h]
@[simp] theorem o_fdivI {i j : Int} : wp (evOp .fdiv [.int i, .int j]) S P ↔ (0 < j ∧ (j < B64 ∨ j = 1000000000000000000000000000000)) ∧ P (.int (i / j)) S := by
  show wp (fun S => if 0 < j ∧ (j < B64 ∨ j = 1000000000000000000000000000000) then .ok (.int (i / j)) S else .bad) S P ↔ _
  by_cases h : 0 < j ∧ (j < B64 ∨ j = 1000000000000000000000000000000) <;> simp [wp, h, Res.wp]
@[simp] theorem o_modI {i j : Int} : wp (evOp .mod [.int i, .int j]) S P ↔ 0 < j ∧ P (.int (i % j)) S := by
  show wp (fun S => if 0 < j then .ok (.int (i % j)) S else .bad) S P ↔ _
  by_cases h : 0 < j <;> simp [wp, h, Res.wp]
@[simp] theorem o_powI {i j : Int} : wp (evOp .pow [.int i, .int j]) S P ↔ (0 ≤ j ∧ j ≤ 1000 ∧ i.natAbs < 1000) ∧ P (.int (i ^ j.toNat)) S := by
  show wp (fun S => if 0 ≤ j ∧ j ≤ 1000 ∧ i.natAbs < 1000 then .ok (.int (i ^ j.toNat)) S else .bad) S P ↔ _
  by_cases h : 0 ≤ j ∧ j ≤ 1000 ∧ i.natAbs < 1000 <;> simp [wp, h, Res.wp]
@[simp] theorem o_negI {i : Int} : wp (evOp .neg [.int i]) S P ↔ P (.int (-i)) S := Iff.rfl
@[simp] theorem o_ltI {i j : Int} : wp (evOp .lt [.int i, .int j]) S P ↔ P (.bl (decide (i < j))) S := Iff.rfl
@[simp] theorem o_leI {i j : Int} : wp (evOp .le [.int i, .int j]) S P ↔ P (.bl (decide (i ≤ j))) S := Iff.rfl
@[simp] theorem o_gtI {i j : Int} : wp (evOp .gt [.int i, .int j]) S P ↔ P (.bl (decide (j < i))) S := Iff.rfl
@[simp] theorem o_geI {i j : Int} : wp (evOp .ge [.int i, .int j]) S P ↔ P (.bl (decide (j ≤ i))) S := Iff.rfl
theorem wp_as {m m' : M α} (h : m S = m' S) : wp m S Q ↔ wp m' S Q := by unfold wp; rw [h]
@[simp] theorem o_eq {a b : D} : wp (evOp .eq [a, b]) S P ↔ ∃ t, eqD S a b = some t ∧ P (.bl t) S := (wp_as (show evOp .eq [a, b] S = bool1 (eqD S a b) S from rfl)).trans wp_bool1
theorem wp_boolN {o : Option Bool} : wp (bool1 (o.map (!·))) S P ↔ ∃ t, o = some t ∧ P (.bl (!t)) S := by cases o with | none => simp | some b => cases b <;> simp
@[simp] theorem o_ne {a b : D} : wp (evOp .ne [a, b]) S P ↔ ∃ t, eqD S a b = some t ∧ P (.bl (!t)) S := (wp_as (show evOp .ne [a, b] S = bool1 ((eqD S a b).map (!·)) S from rfl)).trans wp_boolN
@[simp] theorem o_in {a b : D} : wp (evOp .isin [a, b]) S P ↔ ∃ t, inD S a b = some t ∧ P (.bl t) S := (wp_as (show evOp .isin [a, b] S = bool1 (inD S a b) S from rfl)).trans wp_bool1
@[simp] theorem o_notin {a b : D} : wp (evOp .notin [a, b]) S P ↔ ∃ t, inD S a b = some t ∧ P (.bl (!t)) S := (wp_as (show evOp .notin [a, b] S = bool1 ((inD S a b).map (!·)) S from rfl)).trans wp_boolN
@[simp] theorem o_isN {a : D} : wp (evOp .isN [a]) S P ↔ P (.bl (match a with | .non => true | _ => false)) S := Iff.rfl
@[simp] theorem o_notN {a : D} : wp (evOp .notN [a]) S P ↔ P (.bl (match a with | .non => false | _ => true)) S := Iff.rfl
@[simp] theorem o_ix {a b : D} : wp (evOp .ix [a, b]) S P ↔ ∃ d, ixD S a b = some d ∧ P d S := by exact wp_val1 (o := ixD S a b)
@[simp] theorem o_tup {l : List D} : wp (evOp .tup l) S P ↔ P (.tup l) S := by
  rw [wp_fun (show evOp .tup l S = .ok (.tup l) S by unfold evOp; rfl)]; rfl
@[simp] theorem o_lst {l : List D} : wp (evOp .lst l) S P ↔ P (.tl l) S := by
  rw [wp_fun (show evOp .lst l S = .ok (.tl l) S by unfold evOp; rfl)]; rfl
@[simp] theorem o_len {a : D} : wp (evOp .len [a]) S P ↔ ∃ n, lenD S a = some n ∧ P (.int n) S := by
  show wp (val1 ((lenD S a).map fun n => .int n)) S P ↔ _
  cases lenD S a <;> simp
@[simp] theorem o_sum {a : D} : wp (evOp .sum [a]) S P ↔ ∃ l is, lstItems S a = some l ∧ l.mapM D.isInt = some is ∧ P (.int is.sum) S := by
  show wp (val1 ((lstItems S a).bind fun l => (l.mapM D.isInt).map fun is => .int is.sum)) S P ↔ _
  rw [wp_val1]
  constructor
  · rintro ⟨d, h, q⟩
    obtain ⟨l, h1, h2⟩ := Option.bind_eq_some_iff.mp h
    obtain ⟨is, h3, rfl⟩ := Option.map_eq_some_iff.mp h2
    exact ⟨l, is, h1, h3, q⟩
  · rintro ⟨l, is, h1, h2, q⟩
    exact ⟨_, by rw [h1]; simp [h2], q⟩
@[simp] theorem o_max2 {i j : Int} : wp (evOp .max2 [.int i, .int j]) S P ↔ P (.int (if j > i then j else i)) S := Iff.rfl
@[simp] theorem o_min2 {i j : Int} : wp (evOp .min2 [.int i, .int j]) S P ↔ P (.int (if j < i then j else i)) S := Iff.rfl
@[simp] theorem o_tupleL {l : List D} : wp (evOp .tuple [.tl l]) S P ↔ P (.tup l) S := Iff.rfl
@[simp] theorem o_tupleT {l : List D} : wp (evOp .tuple [.tup l]) S P ↔ P (.tup l) S := Iff.rfl
@[simp] theorem o_tupleR {n : Nat} : wp (evOp .tuple [.ref n]) S P ↔ ∃ l, S[n]? = some (.lst l) ∧ P (.tup l) S := by
  refine (wp_as (show evOp .tuple [.ref n] S = val1 ((lstItems S (.ref n)).map .tup) S from rfl)).trans ?_
  rw [wp_val1]
  simp only [lstItems]
  cases h : S[n]? with
  | none => simp
  | some o => cases o <;> simp
@[simp] theorem o_intI {i : Int} : wp (evOp .int [.int i]) S P ↔ P (.int i) S := Iff.rfl
@[simp] theorem o_intB {b : Bool} : wp (evOp .int [.bl b]) S P ↔ P (.int (if b then 1 else 0)) S := Iff.rfl
theorem o_tupRg1 {n : Int} (h : n ≤ LINE ∧ -LINE ≤ n) : wp (evOp .tupRg1 [.int n]) S P ↔ P (.tup (rg 0 n)) S := by
  rw [wp_fun (r := .ok (.tup (rg 0 n)) S) (by show (if _ then _ else _) = _; rw [if_pos h])]; rfl
@[simp] theorem o_isi {ts : List Ty} {a : D} : wp (evOp (.isi ts) [a]) S P ↔ ∃ k, kindD S a = some k ∧ P (.bl (ts.any (tyIs k))) S := by
  show wp (val1 ((kindD S a).map fun k => .bl (ts.any (tyIs k)))) S P ↔ _
  cases kindD S a <;> simp
theorem wp_as' {m m' : M α} (h : m S = m' S) (k : wp m' S Q) : wp m S Q := (wp_as h).mpr k
/-! ### truth -/
variable {T : Bool → Sto → Prop}
@[simp] theorem truth_bl {b : Bool} : wp (truth (.bl b)) S T ↔ T b S := Iff.rfl
@[simp] theorem truth_non : wp (truth .non) S T ↔ T false S := Iff.rfl
@[simp] theorem truth_int {i : Int} : wp (truth (.int i)) S T ↔ T (i != 0) S := Iff.rfl
/-! ### owning, storing -/
theorem own_nt {d : D} (h : ∀ l, d ≠ .tl l) : own d = M.pure d := by
  funext S
  cases d with
  | tl l => exact absurd rfl (h l)
  | _ => rfl
@[simp] theorem own_int {i : Int} : own (.int i) = M.pure (.int i) := rfl
@[simp] theorem own_bl {i : Bool} : own (.bl i) = M.pure (.bl i) := rfl
@[simp] theorem own_non : own .non = M.pure .non := rfl
@[simp] theorem own_str {i : Txt} : own (.str i) = M.pure (.str i) := rfl
@[simp] theorem own_tup {i : List D} : own (.tup i) = M.pure (.tup i) := rfl
@[simp] theorem own_ref {i : Nat} : own (.ref i) = M.pure (.ref i) := rfl
@[simp] theorem own_fn {i : Nat} : own (.fn i) = M.pure (.fn i) := rfl
@[simp] theorem own_scr {i : List Int} : own (.scr i) = M.pure (.scr i) := rfl
@[simp] theorem wp_own {l : List D} : wp (own (.tl l)) S P ↔ P (.ref S.length) (S ++ [.lst l]) := Iff.rfl
@[simp] theorem ownIf_f {d : D} : ownIf false d = M.pure d := rfl
@[simp] theorem ownIf_t {d : D} : ownIf true d = own d := rfl
@[simp] theorem wp_setVar {i : Nat} {ρ : Env} {d : D} {Q : Env → Sto → Prop} : wp (setTg (.var i) ρ d) S Q ↔ Q (ρ.set i (some d)) S := Iff.rfl
@[simp] theorem wp_setIx {r : Nat} {i : Int} {d : D} {Q : Unit → Sto → Prop} : wp (setIxD d (.ref r) (.int i)) S Q ↔ (∃ l j, S[r]? = some (.lst l) ∧ ixOf l.length i = some j ∧ Q () (S.set r (.lst (l.set j d)))) ∨ (∃ kvs, S[r]? = some (.dK false kvs) ∧ kvs.length < LINE ∧ Q () (S.set r (.dK false (dPut kvs (.inl i) d)))) := by
  cases h : S[r]? with
  | none => simp [wp, setIxD, h, Res.wp]
  | some o =>
    cases o with
    | lst l =>
      cases hj : ixOf l.length i with
      | none => simp [wp, setIxD, h, D.isInt, hj, Res.wp]
      | some j => simp [wp, setIxD, h, D.isInt, hj, Res.wp]
    | dK lk kvs =>
      cases lk with
      | true => simp [wp, setIxD, h, Res.wp]
      | false =>
        by_cases hl : kvs.length < LINE
        · simp [wp, setIxD, h, D.ky, hl, Res.wp]
        · simp [wp, setIxD, h, D.ky, hl, Res.wp]
    | dT lk kvs => cases lk <;> simp [wp, setIxD, h, D.kys, Res.wp]
    | ins c fs => simp [wp, setIxD, h, Res.wp]
    | exn c fs => simp [wp, setIxD, h, Res.wp]
theorem ixD_ref {r : Nat} {l : List D} {i : Int} (h : S[r]? = some (.lst l)) : ixD S (.ref r) (.int i) = atD l i := by
  simp only [ixD, h]
  rfl
theorem get_set {r : Nat} (h : r < S.length) (o : MO) : (S.set r o)[r]? = some o := by rw [List.getElem?_set_self h]
theorem ixD_set {r : Nat} (h : r < S.length) (l : List D) (i : Int) : ixD (S.set r (.lst l)) (.ref r) (.int i) = atD l i := ixD_ref (get_set h _)
@[simp] theorem ixD_tup {l : List D} {i : Int} : ixD S (.tup l) (.int i) = atD l i := rfl
@[simp] theorem ixD_scr {l : List Int} {i : Int} : ixD S (.scr l) (.int i) = (atD l i).map .int := rfl
@[simp] theorem ixD_tl {l : List D} {i : Int} : ixD S (.tl l) (.int i) = atD l i := rfl
theorem atD_lt {α : Type} {l : List α} {i : Int} (h0 : 0 ≤ i) (h1 : i < l.length) : ∃ d, atD l i = some d ∧ l[i.toNat]? = some d := by
  have h2 : i.toNat < l.length := by omega
  refine ⟨l[i.toNat], ?_, List.getElem?_eq_getElem h2⟩
  unfold atD ixOf
  rw [if_pos h0, if_pos h1]
  exact List.getElem?_eq_getElem h2
@[simp] theorem at0 {α : Type} {x : α} {r : List α} : atD (x :: r) 0 = some x := by simp [atD, ixOf]
@[simp] theorem at1 {α : Type} {x y : α} {r : List α} : atD (x :: y :: r) 1 = some y := by
  have h : (1 : Int) < ((x :: y :: r).length : Nat) := by simp only [List.length_cons]; omega
  simp only [atD, ixOf, h]
  rfl
@[simp] theorem at2 {α : Type} {x y z : α} {r : List α} : atD (x :: y :: z :: r) 2 = some z := by
  have h : (2 : Int) < ((x :: y :: z :: r).length : Nat) := by simp only [List.length_cons]; omega
  simp only [atD, ixOf, h]
  rfl
@[simp] theorem at3 {α : Type} {x y z u : α} {r : List α} : atD (x :: y :: z :: u :: r) 3 = some u := by
  have h : (3 : Int) < ((x :: y :: z :: u :: r).length : Nat) := by simp only [List.length_cons]; omega
  simp only [atD, ixOf, h]
  rfl
@[simp] theorem ixOf0 {n : Nat} : ixOf (n + 1) 0 = some 0 := by simp [ixOf]
@[simp] theorem ixOf2 {n : Nat} : ixOf (n + 3) 2 = some 2 := by
  have h : (2 : Int) < ((n + 3 : Nat) : Int) := by omega
  simp only [ixOf, h]; rfl
/-! ### walks -/
theorem wp_forSt {f : D → Env → M Flow} {Q : Flow → Sto → Prop} (Inv : List D → Env → Sto → Prop) : ∀ {l pre : List D} {ρ : Env} {S : Sto}, Inv pre ρ S → (∀ pre x post ρ S, Inv pre ρ S → pre ++ x :: post = l' → wp (f x ρ) S fun fl S' => match fl with
    | .next ρ' => Inv (pre ++ [x]) ρ' S'
    | .cnt ρ' => Inv (pre ++ [x]) ρ' S'
    | .brk ρ' => Q (.next ρ') S'
    | .ret d => Q (.ret d) S') → pre ++ l = l' → (∀ ρ S, Inv l' ρ S → Q (.next ρ) S) → wp (forSt f l ρ) S Q
  | [], pre, ρ, S, h, _, e, fin => by
    rw [List.append_nil] at e
    subst e
    exact fin ρ S h
  | x :: r, pre, ρ, S, h, step, e, fin => by
    rw [forSt, wp_bind]
    refine wp_mono (step pre x r ρ S h e) fun fl S' q => ?_
    have e' : (pre ++ [x]) ++ r = l' := by rw [List.append_assoc]; exact e
    cases fl with
    | next ρ' => exact wp_forSt Inv q step e' fin
    | cnt ρ' => exact wp_forSt Inv q step e' fin
    | brk ρ' => exact q
    | ret d => exact q
theorem wp_for {f : D → Env → M Flow} {Q : Flow → Sto → Prop} {l : List D} {ρ : Env} (Inv : List D → Env → Sto → Prop) (h0 : Inv [] ρ S) (step : ∀ pre x post ρ S, Inv pre ρ S → pre ++ x :: post = l → wp (f x ρ) S fun fl S' => match fl with
    | .next ρ' => Inv (pre ++ [x]) ρ' S'
    | .cnt ρ' => Inv (pre ++ [x]) ρ' S'
    | .brk ρ' => Q (.next ρ') S'
    | .ret d => Q (.ret d) S') (fin : ∀ ρ S, Inv l ρ S → Q (.next ρ) S) : wp (forSt f l ρ) S Q := wp_forSt Inv h0 step rfl fin
@[simp] theorem wp_noExc {m : M α} : wp (noExc m) S Q ↔ wp m S Q := by
  unfold wp noExc
  cases m S <;> rfl
theorem wp_lcSt {f : D → M (Option D)} {Q : List D → Sto → Prop} (Inv : List D → List D → Sto → Prop) : ∀ {l pre acc : List D} {S : Sto}, Inv pre acc S → (∀ pre x post acc S, Inv pre acc S → pre ++ x :: post = l' → acc.length < LINE ∧ wp (f x) S fun o S' => match o with
    | none => Inv (pre ++ [x]) acc S'
    | some y => Inv (pre ++ [x]) (acc ++ [y]) S') → pre ++ l = l' → (∀ acc S, Inv l' acc S → Q acc S) → wp (lcSt f l acc) S Q
  | [], pre, acc, S, h, _, e, fin => by
    rw [List.append_nil] at e
    subst e
    exact fin acc S h
  | x :: r, pre, acc, S, h, step, e, fin => by
    rw [lcSt, wp_bind]
    obtain ⟨h1, h2⟩ := step pre x r acc S h e
    refine wp_mono h2 fun o S' q => ?_
    have e' : (pre ++ [x]) ++ r = l' := by rw [List.append_assoc]; exact e
    cases o with
    | none => exact wp_lcSt Inv q step e' fin
    | some y =>
      show wp (if acc.length < LINE then _ else _) _ _
      rw [if_pos h1]
      exact wp_lcSt Inv q step e' fin
theorem wp_lc {f : D → M (Option D)} {Q : List D → Sto → Prop} {l : List D} (Inv : List D → List D → Sto → Prop) (h0 : Inv [] [] S) (step : ∀ pre x post acc S, Inv pre acc S → pre ++ x :: post = l → acc.length < LINE ∧ wp (f x) S fun o S' => match o with
    | none => Inv (pre ++ [x]) acc S'
    | some y => Inv (pre ++ [x]) (acc ++ [y]) S') (fin : ∀ acc S, Inv l acc S → Q acc S) : wp (lcSt f l []) S Q := wp_lcSt Inv h0 step rfl fin
theorem get_app {r : Nat} {o : MO} (h : S[r]? = some o) (T : Sto) : (S ++ T)[r]? = some o := by
  rw [List.getElem?_append_left (List.getElem?_eq_some_iff.mp h).1]; exact h
@[simp] theorem get_new {o : MO} : (S ++ [o])[S.length]? = some o := by simp
theorem toP_int {n : Nat} {i : Int} : toP S (n + 1) (.int i) = some (.int i) := by rw [toP.eq_def]
theorem toP_ints {n : Nat} : ∀ {l : List Int}, (l.map D.int).mapM (toP S (n + 1)) = some (l.map IR.P.int)
  | [] => rfl
  | i :: r => by rw [List.map_cons, List.mapM_cons, toP_ints (l := r), toP_int]; rfl
theorem toP_ref {n r : Nat} {l : List D} (h : S[r]? = some (.lst l)) : toP S (n + 1) (.ref r) = (l.mapM (toP S n)).map .lst := by rw [toP.eq_def]; simp only [h]
theorem toP_tl {n : Nat} {l : List D} : toP S (n + 1) (.tl l) = (l.mapM (toP S n)).map .lst := by rw [toP.eq_def]
theorem isInts : ∀ {l : List Int}, (l.map D.int).mapM D.isInt = some l
  | [] => rfl
  | i :: r => by simp [List.mapM_cons, isInts (l := r), D.isInt]
@[simp] theorem eqD_int {i j : Int} : eqD S (.int i) (.int j) = some (i == j) := by
  rw [eqD, toP_int (n := 19), toP_int (n := 19)]
  simp [P.eqv]
theorem toP_bl {n : Nat} {i : Bool} : toP S (n + 1) (.bl i) = some (.bl i) := by rw [toP.eq_def]
@[simp] theorem eqD_bl {i j : Bool} : eqD S (.bl i) (.bl j) = some (i == j) := by
  rw [eqD, toP_bl (n := 19), toP_bl (n := 19)]
  simp [P.eqv]
theorem eqD_emp {r : Nat} {l : List Int} (h : S[r]? = some (.lst (l.map .int))) : eqD S (.ref r) (.tl []) = some l.isEmpty := by
  rw [eqD, toP_ref (n := 19) h, toP_ints (n := 18), toP_tl (n := 19)]
  cases l <;> simp [P.eqv, P.eqvs]
@[simp] theorem len_scr {l : List Int} : lenD S (.scr l) = some l.length := rfl
@[simp] theorem len_tup {l : List D} : lenD S (.tup l) = some l.length := rfl
@[simp] theorem len_tl {l : List D} : lenD S (.tl l) = some l.length := rfl
@[simp] theorem lst_tl {l : List D} : lstItems S (.tl l) = some l := rfl
@[simp] theorem lst_scr {l : List Int} : lstItems S (.scr l) = some (l.map .int) := rfl
@[simp] theorem wp_srcT {l : List D} {Q : Src → Sto → Prop} : wp (srcOf (.tup l)) S Q ↔ Q (.st l) S := Iff.rfl
@[simp] theorem wp_srcL {l : List D} {Q : Src → Sto → Prop} : wp (srcOf (.tl l)) S Q ↔ Q (.st l) S := Iff.rfl
@[simp] theorem wp_srcS {l : Txt} {Q : Src → Sto → Prop} : wp (srcOf (.str l)) S Q ↔ Q (.st (l.map fun c => .str [c])) S := Iff.rfl
@[simp] theorem inD_chr {c : Nat} {s : Txt} : inD S (.str [c]) (.str s) = some (s.contains c) := rfl
@[simp] theorem lcSrc_st {f : D → M (Option D)} {l : List D} : lcSrc f (.st l) = lcSt f l [] := rfl
@[simp] theorem forSrc_st {f : D → Env → M Flow} {l : List D} {ρ : Env} : forSrc f (.st l) ρ = forSt f l ρ := rfl
theorem rg_nat {n : Nat} : rg 0 (n : Int) = (List.range n).map fun (i : Nat) => D.int i := by simp [rg]
theorem split_at {α : Type} {pre post l : List α} {x : α} (h : pre ++ x :: post = l) : l[pre.length]? = some x ∧ pre.length < l.length := by
  subst h; simp
theorem rg_at {pre post : List D} {x : D} {n : Int} (h : pre ++ x :: post = rg 0 n) : x = .int pre.length ∧ (pre.length : Int) < n := by
  obtain ⟨h1, h2⟩ := split_at h
  have hl : pre.length < n.toNat := by simpa [rg] using h2
  refine ⟨?_, by omega⟩
  have e : (rg 0 n)[pre.length]? = some (.int pre.length) := by simp [rg, hl]
  rw [e] at h1
  exact (Option.some.inj h1).symm
@[simp] theorem kind_int {i : Int} : kindD S (.int i) = some 2 := rfl
@[simp] theorem pick_some {l : List D} {k : Nat} : pick l (some k) = l[k]? := rfl
@[simp] theorem pick_none {l : List D} : pick l none = some .non := rfl
@[simp] theorem wp_permD {l : List D} {p : List (Option Nat)} {Q : List D → Sto → Prop} : wp (permD l p) S Q ↔ ∃ r, p.mapM (pick l) = some r ∧ Q r S := by
  unfold permD
  cases p.mapM (pick l) <;> simp [M.of]
/-! ### lists as objects, walked by place -/
theorem wp_forRf {f : D → Env → M Flow} {en : Bool} {r : Nat} {l : List D} {Q : Flow → Sto → Prop} (Inv : Nat → Env → Sto → Prop) (stay : ∀ i ρ S, Inv i ρ S → S[r]? = some (.lst l))
    (step : ∀ i d ρ S, Inv i ρ S → l[i]? = some d → wp (f (if en then .tup [.int i, d] else d) ρ) S fun fl S' => match fl with
      | .next ρ' => Inv (i + 1) ρ' S'
      | .cnt ρ' => Inv (i + 1) ρ' S'
      | .brk ρ' => Q (.next ρ') S'
      | .ret d => Q (.ret d) S') (fin : ∀ ρ S, Inv l.length ρ S → Q (.next ρ) S) : ∀ (k i : Nat) (ρ : Env) (S : Sto), l.length - i = k → i ≤ l.length → Inv i ρ S → wp (forRf f en r k i ρ) S Q
  | 0, i, ρ, S, hk, hi, h => by
    have e : i = l.length := by omega
    subst e
    refine wp_as' (m' := M.pure (.next ρ)) ?_ (fin ρ S h)
    simp only [forRf, stay _ _ _ h, Nat.le_refl, if_true]
    rfl
  | k + 1, i, ρ, S, hk, hi, h => by
    have hl : i < l.length := by omega
    refine wp_as' (m' := (f (if en then .tup [.int i, l[i]] else l[i]) ρ).bind fun fl => match fl with
        | .next ρ' => forRf f en r k (i + 1) ρ'
        | .cnt ρ' => forRf f en r k (i + 1) ρ'
        | .brk ρ' => M.pure (.next ρ')
        | .ret d => M.pure (.ret d)) ?_ ?_
    · simp only [forRf, stay _ _ _ h, List.getElem?_eq_getElem hl]
      try rfl
    · rw [wp_bind]
      refine wp_mono (step i l[i] ρ S h (List.getElem?_eq_getElem hl)) fun fl S' q => ?_
      cases fl with
      | next ρ' => exact wp_forRf Inv stay step fin k (i + 1) ρ' S' (by omega) hl q
      | cnt ρ' => exact wp_forRf Inv stay step fin k (i + 1) ρ' S' (by omega) hl q
      | brk ρ' => exact q
      | ret d => exact q
theorem wp_forR {f : D → Env → M Flow} {en : Bool} {r : Nat} {l : List D} {ρ : Env} {Q : Flow → Sto → Prop} (Inv : Nat → Env → Sto → Prop) (h0 : Inv 0 ρ S) (stay : ∀ i ρ S, Inv i ρ S → S[r]? = some (.lst l))
    (step : ∀ i d ρ S, Inv i ρ S → l[i]? = some d → wp (f (if en then .tup [.int i, d] else d) ρ) S fun fl S' => match fl with
      | .next ρ' => Inv (i + 1) ρ' S'
      | .cnt ρ' => Inv (i + 1) ρ' S'
      | .brk ρ' => Q (.next ρ') S'
      | .ret d => Q (.ret d) S') (fin : ∀ ρ S, Inv l.length ρ S → Q (.next ρ) S) : wp (forSrc f (.rf en r) ρ) S Q := by
  refine wp_as' (m' := forRf f en r l.length 0 ρ) ?_ (wp_forRf Inv stay step fin _ 0 ρ S (by omega) (Nat.zero_le _) h0)
  simp only [forSrc, stay _ _ _ h0]
@[simp] theorem wp_srcR {r : Nat} {Q : Src → Sto → Prop} : wp (srcOf (.ref r)) S Q ↔ (∃ l, S[r]? = some (.lst l)) ∧ Q (.rf false r) S := by
  cases h : S[r]? with
  | none => rw [wp_fun (r := .bad) (by simp only [srcOf, h])]; simp [Res.wp]
  | some o =>
    cases o with
    | lst l => rw [wp_fun (r := .ok (.rf false r) S) (by simp only [srcOf, h])]; simp [Res.wp]
    | dK a b => rw [wp_fun (r := .bad) (by simp only [srcOf, h])]; simp [Res.wp]
    | dT a b => rw [wp_fun (r := .bad) (by simp only [srcOf, h])]; simp [Res.wp]
    | ins a b => rw [wp_fun (r := .bad) (by simp only [srcOf, h])]; simp [Res.wp]
    | exn a b => rw [wp_fun (r := .bad) (by simp only [srcOf, h])]; simp [Res.wp]
@[simp] theorem o_addRL {r : Nat} {m : List D} : wp (evOp .add [.ref r, .tl m]) S P ↔ ∃ l, S[r]? = some (.lst l) ∧ l.length + m.length ≤ LINE ∧ P (.tl (l ++ m)) S := by
  refine (wp_as (show evOp .add [.ref r, .tl m] S = val1 (addD S (.ref r) (.tl m)) S from rfl)).trans ?_
  rw [wp_val1]
  cases h : S[r]? with
  | none => simp [addD, ownItems, h]
  | some o =>
    cases o with
    | lst l =>
      by_cases hl : l.length + m.length ≤ LINE
      · simp [addD, ownItems, h, hl]
      · simp [addD, ownItems, h, hl]
    | dK a b => simp [addD, ownItems, h]
    | dT a b => simp [addD, ownItems, h]
    | ins a b => simp [addD, ownItems, h]
    | exn a b => simp [addD, ownItems, h]
@[simp] theorem o_sortedSet {l : List D} : wp (evOp .sortedSet [.tl l]) S P ↔ ∃ is, l.mapM D.isInt = some is ∧ is.length < 64 ∧ P (.tl ((setOf is).map .int)) S := by
  refine (wp_as (show evOp .sortedSet [.tl l] S = val1 ((lstItems S (.tl l)).bind fun l => (l.mapM D.isInt).bind fun is => if is.length < 64 then some (.tl ((setOf is).map .int)) else none) S from rfl)).trans ?_
  rw [wp_val1]
  simp only [lst_tl, Option.bind_some]
  cases l.mapM D.isInt with
  | none => simp
  | some is => by_cases h : is.length < 64 <;> simp [h]
@[simp] theorem o_listT {l : List D} : wp (evOp .list [.tup l]) S P ↔ P (.tl l) S := Iff.rfl
@[simp] theorem o_listL {l : List D} : wp (evOp .list [.tl l]) S P ↔ P (.tl l) S := Iff.rfl
theorem lenD_ref {r : Nat} {l : List D} (h : S[r]? = some (.lst l)) : lenD S (.ref r) = some l.length := by simp only [lenD, h]
@[simp] theorem o_addTT {x y : List D} : wp (evOp .add [.tup x, .tup y]) S P ↔ x.length + y.length ≤ LINE ∧ P (.tup (x ++ y)) S := by
  refine (wp_as (show evOp .add [.tup x, .tup y] S = val1 (addD S (.tup x) (.tup y)) S from rfl)).trans ?_
  rw [wp_val1]
  by_cases h : x.length + y.length ≤ LINE <;> simp [addD, h]
@[simp] theorem o_addSS {x y : Txt} : wp (evOp .add [.str x, .str y]) S P ↔ x.length + y.length ≤ LINE ∧ P (.str (x ++ y)) S := by
  refine (wp_as (show evOp .add [.str x, .str y] S = val1 (addD S (.str x) (.str y)) S from rfl)).trans ?_
  rw [wp_val1]
  by_cases h : x.length + y.length ≤ LINE <;> simp [addD, h]
theorem cut_len {α : Type} {l : List α} {a b : Option Int} : (cut l a b).length ≤ l.length := by simp [cut]; omega
theorem cut_mem {α : Type} {l : List α} {a b : Option Int} {x : α} (h : x ∈ cut l a b) : x ∈ l := List.mem_of_mem_drop (List.mem_of_mem_take h)
@[simp] theorem wp_wantInt {S : Sto} {i : Int} {P : Int → Sto → Prop} : wp (wantInt (.int i)) S P ↔ P i S := Iff.rfl
@[simp] theorem wp_slT {S : Sto} {l : List D} {a b : Option Int} {P : D → Sto → Prop} : wp (slM (.tup l) a b) S P ↔ P (.tup (cut l a b)) S := Iff.rfl
@[simp] theorem o_all {a : D} : wp (evOp .all [a]) S P ↔ ∃ l bs, lstItems S a = some l ∧ l.mapM D.isBl = some bs ∧ P (.bl (bs.all id)) S := by
  show wp (val1 ((lstItems S a).bind fun l => (l.mapM D.isBl).map fun bs => .bl (bs.all id))) S P ↔ _
  rw [wp_val1]
  constructor
  · rintro ⟨d, h, q⟩
    obtain ⟨l, h1, h2⟩ := Option.bind_eq_some_iff.mp h
    obtain ⟨is, h3, rfl⟩ := Option.map_eq_some_iff.mp h2
    exact ⟨l, is, h1, h3, q⟩
  · rintro ⟨l, is, h1, h2, q⟩
    exact ⟨_, by rw [h1]; simp [h2], q⟩
/-- a call -/
theorem wp_call {g : G} {n f : Nat} {as : List D} {d : Fn} (hf : g.fns f = some d) (hn : as.length = d.np) (h : wp (exs g (callD g n) d.body (as.map some ++ List.replicate (d.ns - d.np) none)) S fun fl S' => match fl with
    | .next _ => P .non S'
    | .ret v => P v S'
    | _ => False) : wp (callD g (n + 1) f as) S P := by
  simp only [callD_s, hf, hn, if_true]
  rw [wp_bind]
  refine wp_mono h fun fl S' q => ?_
  cases fl with
  | next ρ => exact q
  | ret v => exact q
  | brk ρ => exact q.elim
  | cnt ρ => exact q.elim
end
end IR

namespace IR
section
variable {α β : Type} {S : Sto} {Q : Unit → Sto → Prop} {P : D → Sto → Prop} {r : Nat}
@[simp] theorem wp_setTup {is : List Nat} {l : List D} {ρ : Env} {Q : Env → Sto → Prop} : wp (setTg (.tup is) ρ (.tup l)) S Q ↔ l.length = is.length ∧ Q (setVars ρ is l) S := by
  by_cases h : l.length = is.length
  · rw [wp_fun (r := .ok (setVars ρ is l) S) (by simp [setTg, h])]; simp [h, Res.wp]
  · rw [wp_fun (r := .bad) (by simp [setTg, h])]; simp [h, Res.wp]
@[simp] theorem setVars_c {ρ : Env} {i : Nat} {is : List Nat} {d : D} {ds : List D} : setVars ρ (i :: is) (d :: ds) = setVars (ρ.set i (some d)) is ds := rfl
@[simp] theorem setVars_n {ρ : Env} : setVars ρ [] [] = ρ := rfl
theorem wp_recvL {o : Op} {l : List D} (h : S[r]? = some (.lst l)) : wp (recvOk o (.ref r)) S Q ↔ (bmKinds o).contains 1 = true ∧ Q () S := by
  unfold wp recvOk
  simp only [recvK, h]
  split <;> simp_all [Res.wp]
theorem wp_recvK {o : Op} {l : List (Ky × D)} (h : S[r]? = some (.dK false l)) : wp (recvOk o (.ref r)) S Q ↔ (bmKinds o).contains 2 = true ∧ Q () S := by
  unfold wp recvOk
  simp only [recvK, h]
  split <;> simp_all [Res.wp]
@[simp] theorem wp_recvS {o : Op} {t : Txt} : wp (recvOk o (.str t)) S Q ↔ (bmKinds o).contains 3 = true ∧ Q () S := by
  unfold wp recvOk
  simp only [recvK]
  split <;> simp_all [Res.wp]
@[simp] theorem wp_recvT {o : Op} {l : List D} : wp (recvOk o (.tl l)) S Q ↔ (bmKinds o).contains 1 = true ∧ Q () S := by
  unfold wp recvOk
  simp only [recvK]
  split <;> simp_all [Res.wp]
@[simp] theorem bk_append : (bmKinds .append).contains 1 = true := rfl
@[simp] theorem bk_extend : (bmKinds .extend).contains 1 = true := rfl
@[simp] theorem bk_insert : (bmKinds .insert).contains 1 = true := rfl
@[simp] theorem bk_count : (bmKinds .count).contains 1 = true := rfl
@[simp] theorem bk_pop1 : (bmKinds .pop1).contains 2 = true := rfl
@[simp] theorem bk_pop2 : (bmKinds .pop2).contains 2 = true := rfl
@[simp] theorem bk_get1 : (bmKinds .get1).contains 2 = true := rfl
@[simp] theorem bk_get2 : (bmKinds .get2).contains 2 = true := rfl
@[simp] theorem bk_join : (bmKinds .join).contains 3 = true := rfl
@[simp] theorem bk_split : (bmKinds .split).contains 3 = true := rfl
@[simp] theorem bk_index : (bmKinds .index).contains 1 = true := rfl
@[simp] theorem bk_indexS : (bmKinds .indexS).contains 3 = true := rfl
@[simp] theorem bk_index3 : (bmKinds .index).contains 3 = true := rfl
theorem o_append {l : List D} {d : D} (h : S[r]? = some (.lst l)) : wp (evOp .append [.ref r, d]) S P ↔ l.length < LINE ∧ P .non (S.set r (.lst (l ++ [d]))) := by
  rw [wp_fun (r := if l.length < LINE then .ok .non (S.set r (.lst (l ++ [d]))) else .bad) (by show (match S[r]? with | some (.lst l) => _ | _ => _) = _; rw [h])]
  by_cases hl : l.length < LINE <;> simp [hl, Res.wp]
theorem o_attr {f c : Nat} {fs : List (Nat × D)} (h : S[r]? = some (.ins c fs)) : wp (evOp (.attr f) [.ref r]) S P ↔ ∃ d, fs.lookup f = some d ∧ P d S := by
  rw [wp_as (m' := val1 (fs.lookup f)) (by show (match S[r]? with | some (.ins _ fs) => val1 (fs.lookup f) S | _ => _) = _; rw [h]), wp_val1]
theorem wp_methM {g : G} {m c : Nat} {fs : List (Nat × D)} {Q : Nat → Sto → Prop} (h : S[r]? = some (.ins c fs)) : wp (methM g m (.ref r)) S Q ↔ ∃ i, ((g.cls c).bind fun cl => cl.ms.lookup m) = some i ∧ Q i S := by
  unfold wp methM methOf
  simp only [h]
  cases (g.cls c).bind fun cl => cl.ms.lookup m <;> simp [Res.wp]
theorem wp_getAttr {f c : Nat} {fs : List (Nat × D)} (h : S[r]? = some (.ins c fs)) : wp (getAttrD (.ref r) f) S P ↔ ∃ d, fs.lookup f = some d ∧ P d S := by
  rw [wp_as (m' := val1 (fs.lookup f)) (by simp only [getAttrD, h]), wp_val1]
theorem wp_setAttr {f c : Nat} {d : D} {fs : List (Nat × D)} (h : S[r]? = some (.ins c fs)) : wp (setAttrD d (.ref r) f) S Q ↔ fs.length < 900 ∧ Q () (S.set r (.ins c (fPut fs f d))) := by
  rw [wp_fun (r := if fs.length < 900 then .ok () (S.set r (.ins c (fPut fs f d))) else .bad) (by simp only [setAttrD, h])]
  by_cases hl : fs.length < 900 <;> simp [hl, Res.wp]
@[simp] theorem o_newK : wp (evOp .newK []) S P ↔ P (.ref S.length) (S ++ [.dK false []]) := Iff.rfl
@[simp] theorem o_newT : wp (evOp .newT []) S P ↔ P (.ref S.length) (S ++ [.dT false []]) := Iff.rfl
theorem o_get1 {lk : Bool} {kvs : List (Ky × D)} {i : Int} (h : S[r]? = some (.dK lk kvs)) : wp (evOp .get1 [.ref r, .int i]) S P ↔ P ((dGet kvs (.inl i)).getD .non) S := by
  rw [wp_fun (r := .ok ((dGet kvs (.inl i)).getD .non) S) (by show (match S[r]?, (D.int i).ky with | some (.dK _ kvs), some k => _ | _, _ => _) = _; rw [h]; rfl)]
  rfl
theorem o_pop1 {kvs : List (Ky × D)} {i : Int} {v : D} (h : S[r]? = some (.dK false kvs)) (hv : dGet kvs (.inl i) = some v) : wp (evOp .pop1 [.ref r, .int i]) S P ↔ P v (S.set r (.dK false (dDrop kvs (.inl i)))) := by
  rw [wp_fun (r := .ok v (S.set r (.dK false (dDrop kvs (.inl i))))) (by
    show (match S[r]?, (D.int i).ky with
    | some (.dK false kvs), some k => match dGet kvs k with
      | some v => Res.ok v (S.set r (.dK false (dDrop kvs k)))
      | none => .bad
    | _, _ => .bad) = _
    rw [h]
    show (match dGet kvs (.inl i) with
      | some v => Res.ok v (S.set r (.dK false (dDrop kvs (.inl i))))
      | none => .bad) = _
    rw [hv])]
  rfl
theorem o_dict {lk : Bool} {kvs : List (Ky × D)} (h : S[r]? = some (.dK lk kvs)) : wp (evOp .dict [.ref r]) S P ↔ P (.ref S.length) (S ++ [.dK false kvs]) := by
  rw [wp_fun (r := .ok (.ref S.length) (S ++ [.dK false kvs])) (by show (match S[r]? with | some (.dK _ kvs) => _ | _ => _) = _; rw [h])]
  rfl
theorem wp_setK {kvs : List (Ky × D)} {i : Int} {d : D} (h : S[r]? = some (.dK false kvs)) : wp (setIxD d (.ref r) (.int i)) S Q ↔ kvs.length < LINE ∧ Q () (S.set r (.dK false (dPut kvs (.inl i) d))) := by
  rw [wp_setIx]
  simp [h]
theorem inD_dK {lk : Bool} {kvs : List (Ky × D)} {i : Int} (h : S[r]? = some (.dK lk kvs)) : inD S (.int i) (.ref r) = some (dGet kvs (.inl i)).isSome := by
  simp only [inD, h]; rfl
theorem ixD_dK {lk : Bool} {kvs : List (Ky × D)} {i : Int} (h : S[r]? = some (.dK lk kvs)) : ixD S (.ref r) (.int i) = dGet kvs (.inl i) := by
  simp only [ixD, h]; rfl
theorem lenD_dK {lk : Bool} {kvs : List (Ky × D)} (h : S[r]? = some (.dK lk kvs)) : lenD S (.ref r) = some kvs.length := by simp only [lenD, h]
theorem o_sortedItems {kvs : List (Ky × D)} (h : S[r]? = some (.dK false kvs)) : wp (evOp .sortedItems [.ref r]) S P ↔ ∃ l, srtN kvs = some l ∧ P (.tl l) S := by
  rw [wp_as (m' := val1 ((srtN kvs).map .tl)) (by show (match S[r]? with | some (.dK false kvs) => val1 ((srtN kvs).map .tl) S | _ => _) = _; rw [h]), wp_val1]
  cases srtN kvs <;> simp
theorem o_sortedK {lk : Bool} {kvs : List (Ky × D)} (h : S[r]? = some (.dK lk kvs)) : wp (evOp .sorted [.ref r]) S P ↔ ∃ l, srtK (kvs.map Prod.fst) = some l ∧ P (.tl l) S := by
  rw [wp_as (m' := val1 ((srtK (kvs.map Prod.fst)).map .tl)) (by
    show (match S[r]? with
      | some (.lst l) => val1 ((srtL l).map .tl) S
      | some (.dK _ kvs) => val1 ((srtK (kvs.map (fun (p : Ky × D) => p.1))).map .tl) S
      | _ => Res.bad) = _
    rw [h]), wp_val1]
  cases srtK (kvs.map Prod.fst) <;> simp
@[simp] theorem o_sortedT {l : List D} : wp (evOp .sorted [.tl l]) S P ↔ ∃ m, srtL l = some m ∧ P (.tl m) S := by
  refine (wp_as (show evOp .sorted [.tl l] S = val1 ((srtL l).map .tl) S from rfl)).trans ?_
  rw [wp_val1]
  cases srtL l <;> simp
@[simp] theorem wp_slS {l : List Int} {a b : Option Int} : wp (slM (.scr l) a b) S P ↔ P (.tl (cut (l.map .int) a b)) S := Iff.rfl
@[simp] theorem wp_slL {l : List D} {a b : Option Int} : wp (slM (.tl l) a b) S P ↔ P (.tl (cut l a b)) S := Iff.rfl
theorem wp_slR {l : List D} {a b : Option Int} (h : S[r]? = some (.lst l)) : wp (slM (.ref r) a b) S P ↔ P (.tl (cut l a b)) S := by
  rw [wp_fun (r := .ok (.tl (cut l a b)) S) (by simp only [slM, slD, lstItems, h]; rfl)]; rfl
@[simp] theorem wp_revT {l : List D} {Q : Src → Sto → Prop} : wp (srcRev (.tup l)) S Q ↔ Q (.st l.reverse) S := Iff.rfl
@[simp] theorem wp_zipT {l m : List D} {Q : Src → Sto → Prop} : wp (srcZip (.tup l) (.tup m)) S Q ↔ Q (.st ((l.zip m).map fun p => .tup [p.1, p.2])) S := Iff.rfl
@[simp] theorem wp_enumT {l : List D} {Q : Src → Sto → Prop} : wp (srcEnum (.tl l)) S Q ↔ Q (.st (numbered l)) S := Iff.rfl
theorem wp_enumR {l : List D} {Q : Src → Sto → Prop} (h : S[r]? = some (.lst l)) : wp (srcEnum (.ref r)) S Q ↔ Q (.rf true r) S := by
  rw [wp_fun (r := .ok (.rf true r) S) (by simp only [srcEnum, h])]; rfl
theorem wp_runNew {g : G} {call : Nat → List D → M D} {c : Nat} {cl : Cl} {as : List D} (h : g.cls c = some cl) : wp (runNew g call c as) S P ↔ wp (call cl.init (.ref S.length :: as)) (S ++ [.ins c []]) fun d S' => d = .non ∧ P (.ref S.length) S' := by
  rw [wp_as (m' := fun S => ((call cl.init (.ref S.length :: as)).bind fun r => match r with | .non => M.pure (.ref S.length) | _ => M.bad) (S ++ [.ins c []])) (by first | (simp only [runNew, h]; done) | (simp only [runNew, h]; rfl))]
  show wp ((call cl.init (.ref S.length :: as)).bind fun r => match r with | .non => M.pure (.ref S.length) | _ => M.bad) (S ++ [.ins c []]) P ↔ _
  rw [wp_bind]
  constructor
  · intro z
    refine wp_mono z fun d S' q => ?_
    cases d <;> first | exact ⟨rfl, q⟩ | exact q.elim
  · intro z
    refine wp_mono z fun d S' q => ?_
    obtain ⟨rfl, q⟩ := q
    exact q
/-- a comprehension that changes nothing -/
theorem wp_lcP {f : D → M (Option D)} (o : D → Option D) {Q : List D → Sto → Prop} {l : List D} (hl : l.length ≤ LINE) (step : ∀ x ∈ l, ∀ Q' : Option D → Sto → Prop, Q' (o x) S → wp (f x) S Q') (q : Q (l.filterMap o) S) : wp (lcSt f l []) S Q := by
  refine wp_lc (fun pre acc S' => S' = S ∧ acc = pre.filterMap o) ⟨rfl, rfl⟩ ?_ ?_
  · rintro pre x post acc S' ⟨rfl, rfl⟩ e
    have hp := (split_at e).2
    refine ⟨Nat.lt_of_le_of_lt (List.length_filterMap_le _ _) (Nat.lt_of_lt_of_le hp hl), ?_⟩
    refine step x (by rw [← e]; simp) _ ?_
    cases h : o x with
    | none => exact ⟨rfl, by simp [h]⟩
    | some y => exact ⟨rfl, by simp [h]⟩
  · rintro acc S' ⟨rfl, rfl⟩
    exact q
/-- .. each of which gives something -/
theorem wp_lcM {f : D → M (Option D)} (o : D → D) {Q : List D → Sto → Prop} {l : List D} (hl : l.length ≤ LINE) (step : ∀ x ∈ l, ∀ Q' : Option D → Sto → Prop, Q' (some (o x)) S → wp (f x) S Q') (q : Q (l.map o) S) : wp (lcSt f l []) S Q := by
  refine wp_lcP (fun x => some (o x)) hl step ?_
  have : (l.filterMap fun x => some (o x)) = l.map o := by induction l <;> simp_all
  rw [this]; exact q
end
end IR

namespace IR
def tx_4c5afb : Txt := [110, 111, 32, 114, 111, 119, 32, 115, 116, 97, 110, 100, 115, 32, 98, 121, 32, 116, 104, 105, 115, 32, 110, 117, 109, 98, 101, 114]
def tx_751a72 : Txt := [97, 32, 109, 111, 109, 101, 110, 116, 32, 116, 104, 97, 116, 32, 104, 97, 115, 32, 110, 111, 116, 32, 99, 111, 109, 101]
def tx_84374e : Txt := [109, 97, 114, 107, 115]
def tx_8cd892 : Txt := [115, 116, 111, 114, 101]
def tx_8de2f4 : Txt := [110, 111, 32, 115, 117, 99, 104, 32, 108, 105, 115, 116]
def tx_99c6ed : Txt := [110, 111, 116, 101, 115, 32, 116, 104, 97, 116, 32, 97, 114, 101, 32, 102, 111, 114, 103, 111, 116, 116, 101, 110]
def tx_a2aacb : Txt := [100, 105, 103, 105, 116, 115]
def tx_b1bc24 : Txt := [110, 117, 109, 98, 101, 114]
def tx_b2fdab : Txt := [114, 101, 97, 100, 121]
def tx_c3fcd3 : Txt := [97, 98, 99, 100, 101, 102, 103, 104, 105, 106, 107, 108, 109, 110, 111, 112, 113, 114, 115, 116, 117, 118, 119, 120, 121, 122]
def tx_d05b6e : Txt := [102, 105, 101, 108, 100, 115]
def tx_d1fe44 : Txt := [98, 101, 103, 117, 110]
def tx_e6dbca : Txt := [108, 105, 115, 116, 115]
def tx_ee5c35 : Txt := [110, 117, 109, 98, 101, 114, 115]
def tx_f14b51 : Txt := [111, 108, 100, 101, 115, 116]
def tx_f7bc5f : Txt := [97, 32, 110, 97, 109, 101, 32, 116, 104, 97, 116, 32, 97, 32, 108, 105, 115, 116, 32, 104, 97, 115]
def fn98 : Fn := ⟨1, 1, (.cons (.whl (.c (.bl true)) (.cons .pass .nil)) .nil)⟩  -- _wall
def fn33 : Fn := ⟨2, 3, (.cons (.ret (.op .sum (.cons false (.lc (.over (.var 1)) (.var 2) none (.op .ix (.cons false (.var 0) (.cons false (.var 2) .nil)))) .nil))) .nil)⟩  -- key_of
def fn42 : Fn := ⟨2, 3, (.cons (.ret (.op .len (.cons false (.lc (.over (.var 0)) (.var 2) (some (.op .le (.cons false (.var 2) (.cons false (.var 1) .nil)))) (.var 2)) .nil))) .nil)⟩  -- part_of
def fn178 : Fn := ⟨3, 4, (.cons (.asg (.var 3) (.op .ix (.cons false (.op (.attr 11) (.cons false (.var 1) .nil)) (.cons false (.var 2) .nil)))) (.cons (.ret (.and (.op .notN (.cons false (.var 3) .nil)) (.op .ge (.cons false (.var 3) (.cons false (.meth 6 (.var 0) .nil) .nil))))) .nil))⟩  -- stands
def fn133 : Fn := ⟨6, 7, (.cons (.setAttr (.var 0) 7 (.var 1)) (.cons (.setAttr (.var 0) 8 (.var 2)) (.cons (.setAttr (.var 0) 9 (.var 3)) (.cons (.setAttr (.var 0) 10 (.var 4)) (.cons (.setAttr (.var 0) 11 (.op .mul (.cons false (.op .lst (.cons true (.var 5) .nil)) (.cons false (.op .add (.cons false (.op .len (.cons false (.var 4) .nil)) (.cons false (.c (.int 1)) .nil))) .nil)))) (.cons (.setAttr (.var 0) 12 (.lc (.over (.op (.attr 11) (.cons false (.var 0) .nil))) (.var 6) none (.op .newT .nil))) (.cons (.setAttr (.var 0) 13 (.op .neg (.cons false (.c (.int 1)) .nil))) (.cons (.setAttr (.var 0) 14 (.c .non)) (.cons (.setAttr (.var 0) 15 (.c (.bl false))) (.cons (.setAttr (.var 0) 16 (.c (.bl false))) .nil))))))))))⟩  -- LagList.__init__
def fn171 : Fn := ⟨2, 2, (.cons (.ife (.op .notin (.cons false (.var 1) (.cons false (.op (.attr 5) (.cons false (.var 0) .nil)) .nil))) (.cons (.raise 14 (.cons true (.c (.str tx_8de2f4)) .nil)) .nil) .nil) (.cons (.ret (.op .ix (.cons false (.op (.attr 5) (.cons false (.var 0) .nil)) (.cons false (.var 1) .nil)))) .nil))⟩  -- list_of
def fn165 : Fn := ⟨4, 4, (.cons (.ife (.op .isin (.cons false (.var 1) (.cons false (.op (.attr 5) (.cons false (.var 0) .nil)) .nil))) (.cons (.raise 15 (.cons true (.c (.str tx_f7bc5f)) .nil)) .nil) .nil) (.cons (.augAttr (.var 0) 6 (.c (.int 1))) (.cons (.ife (.op .isN (.cons false (.var 3) .nil)) (.cons (.asg (.var 3) (.op .tup .nil)) .nil) .nil) (.cons (.setIx (.op (.attr 5) (.cons false (.var 0) .nil)) (.var 1) (.new 1 (.cons true (.var 1) (.cons true (.op (.attr 6) (.cons false (.var 0) .nil)) (.cons true (.var 2) (.cons true (.var 3) (.cons true (.meth 5 (.var 0) .nil) .nil))))))) (.cons (.ret (.op (.attr 6) (.cons false (.var 0) .nil))) .nil)))))⟩  -- begin_list
def fn169 : Fn := ⟨2, 2, (.cons (.ret (.op (.attr 15) (.cons false (.call 171 (.cons true (.var 0) (.cons true (.var 1) .nil))) .nil))) .nil)⟩  -- is_ready
def fn173 : Fn := ⟨2, 6, (.cons (.asg (.var 2) (.call 171 (.cons true (.var 0) (.cons true (.var 1) .nil)))) (.cons (.asg (.var 3) (.op .lst .nil)) (.cons (.for_ (.enum (.op (.attr 11) (.cons false (.var 2) .nil))) (.tup [4, 5]) (.cons (.ife (.not (.call 178 (.cons true (.var 0) (.cons true (.var 2) (.cons true (.var 4) .nil))))) (.cons (.asg (.var 5) (.c .non)) .nil) .nil) (.cons (.expr (.bm .append (.var 3) (.cons true (.var 5) .nil))) .nil))) (.cons (.ret (.op .tuple (.cons false (.var 3) .nil))) .nil))))⟩  -- marks
def fn249 : Fn := ⟨3, 9, (.cons (.asg (.var 3) (.lc (.rg1 (.op .add (.cons false (.op .len (.cons false (.var 2) .nil)) (.cons false (.c (.int 1)) .nil)))) (.var 4) none (.op .lst .nil))) (.cons (.for_ (.over (.meth 4 (.var 0) .nil)) (.tup [5, 6]) (.cons (.asg (.var 7) (.call 33 (.cons true (.var 6) (.cons true (.var 1) .nil)))) (.cons (.expr (.bm .append (.op .ix (.cons false (.var 3) (.cons false (.call 42 (.cons true (.var 2) (.cons true (.var 7) .nil))) .nil))) (.cons true (.op .tup (.cons true (.var 7) (.cons true (.var 5) .nil))) .nil))) .nil))) (.cons (.ret (.op .tuple (.cons false (.lc (.over (.var 3)) (.var 8) none (.op .tuple (.cons false (.op .sorted (.cons false (.var 8) .nil)) .nil))) .nil))) .nil)))⟩  -- made_at_once
def fn71 : Fn := ⟨2, 2, (.cons (.setAttr (.var 0) 0 (.var 1)) (.cons (.setAttr (.var 0) 1 (.op .newK .nil)) (.cons (.setAttr (.var 0) 2 (.op .lst .nil)) (.cons (.setAttr (.var 0) 3 (.c (.int 0))) (.cons (.setAttr (.var 0) 4 (.c (.int 0))) (.cons (.setAttr (.var 0) 5 (.op .newK .nil)) (.cons (.setAttr (.var 0) 6 (.c (.int 0))) .nil)))))))⟩  -- Store.__init__
def fn75 : Fn := ⟨3, 3, (.cons (.augAttr (.var 0) 3 (.c (.int 1))) (.cons (.expr (.bm .append (.op (.attr 2) (.cons false (.var 0) .nil)) (.cons true (.op .tup (.cons true (.op (.attr 3) (.cons false (.var 0) .nil)) (.cons true (.var 1) (.cons true (.bm .get1 (.op (.attr 1) (.cons false (.var 0) .nil)) (.cons true (.var 1) .nil)) (.cons true (.var 2) .nil))))) .nil))) (.cons (.ret (.op (.attr 3) (.cons false (.var 0) .nil))) .nil)))⟩  -- Store.noted
def fn79 : Fn := ⟨3, 4, (.cons (.asg (.var 3) (.meth 0 (.var 0) (.cons true (.var 1) (.cons true (.var 2) .nil)))) (.cons (.setIx (.op (.attr 1) (.cons false (.var 0) .nil)) (.var 1) (.var 2)) (.cons (.ret (.var 3)) .nil)))⟩  -- Store.put
def fn73 : Fn := ⟨2, 3, (.cons (.ife (.op .notin (.cons false (.var 1) (.cons false (.op (.attr 1) (.cons false (.var 0) .nil)) .nil))) (.cons (.raise 11 (.cons true (.c (.str tx_4c5afb)) .nil)) .nil) .nil) (.cons (.asg (.var 2) (.meth 0 (.var 0) (.cons true (.var 1) (.cons true (.c .non) .nil)))) (.cons (.expr (.bm .pop1 (.op (.attr 1) (.cons false (.var 0) .nil)) (.cons true (.var 1) .nil))) (.cons (.ret (.var 2)) .nil))))⟩  -- Store.drop
def fn104 : Fn := ⟨2, 2, (.cons (.expr (.call 98 (.cons true (.c (.int 0)) .nil))) .nil)⟩  -- Store.row_at
def fn81 : Fn := ⟨1, 1, (.cons (.ret (.op .tuple (.cons false (.op .sortedItems (.cons false (.op (.attr 1) (.cons false (.var 0) .nil)) .nil)) .nil))) .nil)⟩  -- Store.rows
def fn77 : Fn := ⟨1, 1, (.cons (.ret (.op (.attr 3) (.cons false (.var 0) .nil))) .nil)⟩  -- Store.now
def fn78 : Fn := ⟨1, 1, (.cons (.ret (.op (.attr 4) (.cons false (.var 0) .nil))) .nil)⟩  -- Store.oldest
def fn76 : Fn := ⟨3, 3, (.cons (.ife (.or (.op .gt (.cons false (.var 2) (.cons false (.op (.attr 3) (.cons false (.var 0) .nil)) .nil))) (.op .gt (.cons false (.var 1) (.cons false (.var 2) .nil)))) (.cons (.raise 12 (.cons true (.c (.str tx_751a72)) .nil)) .nil) .nil) (.cons (.ife (.op .lt (.cons false (.var 1) (.cons false (.op (.attr 4) (.cons false (.var 0) .nil)) .nil))) (.cons (.raise 13 (.cons true (.c (.str tx_99c6ed)) .nil)) .nil) .nil) (.cons (.ret (.op .tuple (.cons false (.sl11 (.op (.attr 2) (.cons false (.var 0) .nil)) (.op .sub (.cons false (.var 1) (.cons false (.op (.attr 4) (.cons false (.var 0) .nil)) .nil))) (.op .sub (.cons false (.var 2) (.cons false (.op (.attr 4) (.cons false (.var 0) .nil)) .nil)))) .nil))) .nil)))⟩  -- Store.notes
def fn134 : Fn := ⟨2, 2, (.cons (.expr (.call 98 (.cons true (.c (.int 1)) .nil))) .nil)⟩  -- Store.ask_moment
def fn136 : Fn := ⟨2, 2, (.cons (.expr (.call 98 (.cons true (.c (.int 2)) .nil))) .nil)⟩  -- Store.rows_at
def fn135 : Fn := ⟨2, 2, (.cons (.expr (.call 98 (.cons true (.c (.int 3)) .nil))) .nil)⟩  -- Store.forget
def fn139 : Fn := ⟨2, 2, (.cons (.ife (.op .lt (.cons false (.var 1) (.cons false (.op .len (.cons false (.var 0) .nil)) .nil))) (.cons (.ret (.op .ix (.cons false (.var 0) (.cons false (.var 1) .nil)))) .nil) .nil) (.cons (.ret (.c (.int 0))) .nil))⟩  -- _law_cell_at
def fn141 : Fn := ⟨1, 1, (.cons (.ret (.op (.disp [tx_a2aacb, [116, 117, 114, 110], [115, 101, 101, 100]]) (.cons true (.op .ix (.cons false (.op .lst (.cons true (.c (.int 0)) (.cons true (.var 0) .nil))) (.cons false (.op .int (.cons false (.op .ge (.cons false (.var 0) (.cons false (.op .pow (.cons false (.c (.int 10)) (.cons false (.c (.int 18)) .nil))) .nil))) .nil)) .nil))) (.cons true (.c (.int 0)) (.cons true (.op .mod (.cons false (.var 0) (.cons false (.c (.int 2147483647)) .nil))) .nil))))) .nil)⟩  -- _law_deck
def fn142 : Fn := ⟨2, 4, (.cons (.ife (.op .gt (.cons false (.op .ix (.cons false (.var 0) (.cons false (.c (.str tx_a2aacb)) .nil))) (.cons false (.c (.int 0)) .nil))) (.cons (.asg (.var 2) (.op .mod (.cons false (.op .ix (.cons false (.var 0) (.cons false (.c (.str tx_a2aacb)) .nil))) (.cons false (.var 1) .nil)))) (.cons (.setIx (.var 0) (.c (.str tx_a2aacb)) (.op .fdiv (.cons false (.op .ix (.cons false (.var 0) (.cons false (.c (.str tx_a2aacb)) .nil))) (.cons false (.var 1) .nil)))) (.cons (.ret (.var 2)) .nil))) .nil) (.cons (.setIx (.var 0) (.c (.str [116, 117, 114, 110])) (.op .add (.cons false (.op .ix (.cons false (.var 0) (.cons false (.c (.str [116, 117, 114, 110])) .nil))) (.cons false (.c (.int 1)) .nil)))) (.cons (.asg (.var 3) (.op .mod (.cons false (.op .mul (.cons false (.op .add (.cons false (.op .ix (.cons false (.var 0) (.cons false (.c (.str [115, 101, 101, 100])) .nil))) (.cons false (.op .mul (.cons false (.op .mul (.cons false (.c (.int 7919)) (.cons false (.op .ix (.cons false (.var 0) (.cons false (.c (.str [116, 117, 114, 110])) .nil))) .nil))) (.cons false (.op .ix (.cons false (.var 0) (.cons false (.c (.str [116, 117, 114, 110])) .nil))) .nil))) .nil))) (.cons false (.c (.int 48271)) .nil))) (.cons false (.c (.int 2147483647)) .nil)))) (.cons (.asg (.var 3) (.op .mod (.cons false (.op .add (.cons false (.op .add (.cons false (.op .mul (.cons false (.var 3) (.cons false (.var 3) .nil))) (.cons false (.op .mul (.cons false (.c (.int 69621)) (.cons false (.var 3) .nil))) .nil))) (.cons false (.c (.int 7)) .nil))) (.cons false (.c (.int 2147483629)) .nil)))) (.cons (.ret (.op .mod (.cons false (.op .fdiv (.cons false (.op .mod (.cons false (.op .mul (.cons false (.var 3) (.cons false (.c (.int 1442695040888963407)) .nil))) (.cons false (.c (.int 2305843009213693951)) .nil))) (.cons false (.c (.int 64)) .nil))) (.cons false (.var 1) .nil)))) .nil)))))⟩  -- _law_draw
def fn146 : Fn := ⟨2, 8, (.cons (.asg (.var 2) (.c (.str tx_c3fcd3))) (.cons (.asg (.var 3) (.op .lst .nil)) (.cons (.for_ (.rg1 (.var 1)) (.var 4) (.cons (.asg (.var 5) (.bm .join (.c (.str [])) (.cons false (.lc (.rg1 (.op .add (.cons false (.c (.int 1)) (.cons false (.call 142 (.cons true (.var 0) (.cons true (.c (.int 8)) .nil))) .nil)))) (.var 6) none (.op .ix (.cons false (.var 2) (.cons false (.call 142 (.cons true (.var 0) (.cons true (.c (.int 26)) .nil))) .nil)))) .nil))) (.cons (.ife (.and (.op .ne (.cons false (.var 3) (.cons false (.op .lst .nil) .nil))) (.op .eq (.cons false (.call 142 (.cons true (.var 0) (.cons true (.c (.int 2)) .nil))) (.cons false (.c (.int 1)) .nil)))) (.cons (.asg (.var 7) (.call 142 (.cons true (.var 0) (.cons true (.op .len (.cons false (.op .ix (.cons false (.var 3) (.cons false (.op .neg (.cons false (.c (.int 1)) .nil)) .nil))) .nil)) .nil)))) (.cons (.asg (.var 5) (.op .add (.cons false (.op .add (.cons false (.sl01 (.op .ix (.cons false (.var 3) (.cons false (.op .neg (.cons false (.c (.int 1)) .nil)) .nil))) (.var 7)) (.cons false (.op .ix (.cons false (.var 5) (.cons false (.c (.int 0)) .nil))) .nil))) (.cons false (.sl10 (.op .ix (.cons false (.var 3) (.cons false (.op .neg (.cons false (.c (.int 1)) .nil)) .nil))) (.op .add (.cons false (.var 7) (.cons false (.c (.int 1)) .nil)))) .nil)))) .nil)) .nil) (.cons (.whl (.op .isin (.cons false (.var 5) (.cons false (.var 3) .nil))) (.cons (.asg (.var 5) (.op .add (.cons false (.op .ix (.cons false (.var 2) (.cons false (.op .mod (.cons false (.op .add (.cons false (.bm .indexS (.var 2) (.cons false (.op .ix (.cons false (.var 5) (.cons false (.c (.int 0)) .nil))) .nil)) (.cons false (.c (.int 1)) .nil))) (.cons false (.c (.int 26)) .nil))) .nil))) (.cons false (.sl10 (.var 5) (.c (.int 1))) .nil)))) .nil)) (.cons (.expr (.bm .append (.var 3) (.cons true (.var 5) .nil))) .nil))))) (.cons (.ret (.var 3)) .nil))))⟩  -- _law_names
def fn147 : Fn := ⟨2, 3, (.cons (.asg (.var 2) (.call 142 (.cons true (.var 0) (.cons true (.c (.int 8)) .nil)))) (.cons (.ife (.op .lt (.cons false (.var 2) (.cons false (.c (.int 6)) .nil))) (.cons (.ret (.op .sub (.cons false (.call 142 (.cons true (.var 0) (.cons true (.c (.int 9)) .nil))) (.cons false (.c (.int 4)) .nil)))) .nil) .nil) (.cons (.ife (.op .eq (.cons false (.var 2) (.cons false (.c (.int 6)) .nil))) (.cons (.ret (.op .ix (.cons false (.op .lst (.cons true (.var 1) (.cons true (.op .sub (.cons false (.c (.int 0)) (.cons false (.var 1) .nil))) (.cons true (.op .sub (.cons false (.var 1) (.cons false (.c (.int 1)) .nil))) (.cons true (.op .sub (.cons false (.c (.int 1)) (.cons false (.var 1) .nil))) .nil))))) (.cons false (.call 142 (.cons true (.var 0) (.cons true (.c (.int 4)) .nil))) .nil)))) .nil) .nil) (.cons (.ret (.op .sub (.cons false (.call 142 (.cons true (.var 0) (.cons true (.op .add (.cons false (.op .mul (.cons false (.c (.int 2)) (.cons false (.var 1) .nil))) (.cons false (.c (.int 1)) .nil))) .nil))) (.cons false (.var 1) .nil)))) .nil))))⟩  -- _law_near
def fn155 : Fn := ⟨2, 4, (.cons (.asg (.var 2) (.op .add (.cons false (.c (.int 1)) (.cons false (.call 142 (.cons true (.var 0) (.cons true (.op .ix (.cons false (.op .lst (.cons true (.c (.int 1)) (.cons true (.c (.int 3)) (.cons true (.c (.int 7)) (.cons true (.c (.int 15)) .nil))))) (.cons false (.op .sub (.cons false (.var 1) (.cons false (.c (.int 1)) .nil))) .nil))) .nil))) .nil)))) (.cons (.ret (.op .tuple (.cons false (.lc (.rg1 (.var 1)) (.var 3) (some (.op .eq (.cons false (.op .mod (.cons false (.op .fdiv (.cons false (.var 2) (.cons false (.op .ix (.cons false (.op .lst (.cons true (.c (.int 1)) (.cons true (.c (.int 2)) (.cons true (.c (.int 4)) (.cons true (.c (.int 8)) .nil))))) (.cons false (.var 3) .nil))) .nil))) (.cons false (.c (.int 2)) .nil))) (.cons false (.c (.int 1)) .nil)))) (.var 3)) .nil))) .nil))⟩  -- _law_rule
def fn140 : Fn := ⟨1, 4, (.cons (.asg (.var 1) (.op .ix (.cons false (.op .lst (.cons true (.call 142 (.cons true (.var 0) (.cons true (.c (.int 4)) .nil))) (.cons true (.c (.int 5)) .nil))) (.cons false (.op .int (.cons false (.op .eq (.cons false (.call 142 (.cons true (.var 0) (.cons true (.c (.int 8)) .nil))) (.cons false (.c (.int 3)) .nil))) .nil)) .nil)))) (.cons (.asg (.var 2) (.lc (.rg1 (.var 1)) (.var 3) none (.call 147 (.cons true (.var 0) (.cons true (.op .pow (.cons false (.c (.int 10)) (.cons false (.c (.int 10)) .nil))) .nil))))) (.cons (.ret (.op .tuple (.cons false (.op .sortedSet (.cons false (.var 2) .nil)) .nil))) .nil)))⟩  -- _law_cuts
def fn145 : Fn := ⟨2, 3, (.cons (.ret (.op .sum (.cons false (.lc (.over (.var 1)) (.var 2) none (.op .ix (.cons false (.var 0) (.cons false (.var 2) .nil)))) .nil))) .nil)⟩  -- _law_key
def fn150 : Fn := ⟨2, 3, (.cons (.ret (.op .len (.cons false (.lc (.over (.var 0)) (.var 2) (some (.op .ge (.cons false (.var 1) (.cons false (.var 2) .nil)))) (.var 2)) .nil))) .nil)⟩  -- _law_part
def fn148 : Fn := ⟨2, 3, (.cons (.ret (.op .tuple (.cons false (.lc (.rg1 (.var 1)) (.var 2) none (.call 147 (.cons true (.var 0) (.cons true (.op .pow (.cons false (.c (.int 10)) (.cons false (.c (.int 9)) .nil))) .nil)))) .nil))) .nil)⟩  -- _law_new_row
def fn162 : Fn := ⟨1, 5, (.cons (.asg (.var 1) (.op .add (.cons false (.c (.int 1)) (.cons false (.call 142 (.cons true (.var 0) (.cons true (.c (.int 4)) .nil))) .nil)))) (.cons (.asg (.var 2) (.op .lst (.cons true (.c (.int 0)) (.cons true (.c (.int 999999)) (.cons true (.c (.int 7)) (.cons true (.c (.int 6)) (.cons true (.c (.int 999998)) (.cons true (.c (.int 500)) .nil)))))))) (.cons (.for_ (.rg1 (.op .add (.cons false (.op .mul (.cons false (.call 142 (.cons true (.var 0) (.cons true (.c (.int 3)) .nil))) (.cons false (.c (.int 2)) .nil))) (.cons false (.op .mul (.cons false (.c (.int 50)) (.cons false (.op .int (.cons false (.op .eq (.cons false (.call 142 (.cons true (.var 0) (.cons true (.c (.int 8)) .nil))) (.cons false (.c (.int 5)) .nil))) .nil)) .nil))) .nil)))) (.var 3) (.cons (.expr (.bm .append (.var 2) (.cons true (.op .add (.cons false (.op .add (.cons false (.c (.int 10)) (.cons false (.op .mul (.cons false (.var 3) (.cons false (.var 3) .nil))) .nil))) (.cons false (.op .mul (.cons false (.c (.int 2)) (.cons false (.var 3) .nil))) .nil))) .nil))) .nil)) (.cons (.asg (.var 4) (.op (.disp [tx_8cd892, tx_d05b6e, [112, 97, 115, 116], tx_f14b51, tx_e6dbca, tx_d1fe44]) (.cons true (.new 0 (.cons true (.var 1) .nil)) (.cons true (.var 1) (.cons true (.op .lst (.cons true (.op .newK .nil) .nil)) (.cons true (.c (.int 0)) (.cons true (.op .newK .nil) (.cons true (.c (.int 0)) .nil)))))))) (.cons (.setIx (.var 4) (.c (.str tx_ee5c35)) (.sl10 (.var 2) (.call 142 (.cons true (.var 0) (.cons true (.c (.int 4)) .nil))))) (.cons (.ret (.var 4)) .nil))))))⟩  -- _law_world
def fn149 : Fn := ⟨1, 1, (.cons (.ret (.op .sub (.cons false (.op .len (.cons false (.op .ix (.cons false (.var 0) (.cons false (.c (.str [112, 97, 115, 116])) .nil))) .nil)) (.cons false (.c (.int 1)) .nil)))) .nil)⟩  -- _law_now
def fn152 : Fn := ⟨2, 5, (.cons (.asg (.var 2) (.op .ix (.cons false (.op .ix (.cons false (.var 1) (.cons false (.c (.str tx_ee5c35)) .nil))) (.cons false (.call 142 (.cons true (.var 0) (.cons true (.op .len (.cons false (.op .ix (.cons false (.var 1) (.cons false (.c (.str tx_ee5c35)) .nil))) .nil)) .nil))) .nil)))) (.cons (.asg (.var 3) (.call 148 (.cons true (.var 0) (.cons true (.op .ix (.cons false (.var 1) (.cons false (.c (.str tx_d05b6e)) .nil))) .nil)))) (.cons (.asg (.var 4) (.op .dict (.cons false (.op .ix (.cons false (.op .ix (.cons false (.var 1) (.cons false (.c (.str [112, 97, 115, 116])) .nil))) (.cons false (.op .neg (.cons false (.c (.int 1)) .nil)) .nil))) .nil))) (.cons (.setIx (.var 4) (.var 2) (.var 3)) (.cons (.expr (.bm .append (.op .ix (.cons false (.var 1) (.cons false (.c (.str [112, 97, 115, 116])) .nil))) (.cons true (.var 4) .nil))) (.cons (.ret (.op .eq (.cons false (.meth 1 (.op .ix (.cons false (.var 1) (.cons false (.c (.str tx_8cd892)) .nil))) (.cons true (.var 2) (.cons true (.var 3) .nil))) (.cons false (.call 149 (.cons true (.var 1) .nil)) .nil)))) .nil))))))⟩  -- _law_put
def fn143 : Fn := ⟨2, 5, (.cons (.asg (.var 2) (.op .sorted (.cons false (.op .ix (.cons false (.op .ix (.cons false (.var 1) (.cons false (.c (.str [112, 97, 115, 116])) .nil))) (.cons false (.op .neg (.cons false (.c (.int 1)) .nil)) .nil))) .nil))) (.cons (.ife (.op .eq (.cons false (.var 2) (.cons false (.op .lst .nil) .nil))) (.cons (.ret (.call 152 (.cons true (.var 0) (.cons true (.var 1) .nil)))) .nil) .nil) (.cons (.asg (.var 3) (.op .ix (.cons false (.var 2) (.cons false (.call 142 (.cons true (.var 0) (.cons true (.op .len (.cons false (.var 2) .nil)) .nil))) .nil)))) (.cons (.asg (.var 4) (.op .dict (.cons false (.op .ix (.cons false (.op .ix (.cons false (.var 1) (.cons false (.c (.str [112, 97, 115, 116])) .nil))) (.cons false (.op .neg (.cons false (.c (.int 1)) .nil)) .nil))) .nil))) (.cons (.expr (.bm .pop1 (.var 4) (.cons true (.var 3) .nil))) (.cons (.expr (.bm .append (.op .ix (.cons false (.var 1) (.cons false (.c (.str [112, 97, 115, 116])) .nil))) (.cons true (.var 4) .nil))) (.cons (.ret (.op .eq (.cons false (.meth 2 (.op .ix (.cons false (.var 1) (.cons false (.c (.str tx_8cd892)) .nil))) (.cons true (.var 3) .nil)) (.cons false (.call 149 (.cons true (.var 1) .nil)) .nil)))) .nil)))))))⟩  -- _law_drop
def fn163 : Fn := ⟨3, 4, (.cons (.for_ (.rg1 (.op .min2 (.cons false (.var 2) (.cons false (.op .sub (.cons false (.c (.int 199)) (.cons false (.call 149 (.cons true (.var 1) .nil)) .nil))) .nil)))) (.var 3) (.cons (.ife (.not (.callv (.op .ix (.cons false (.op .lst (.cons true (.c (.fn 152)) (.cons true (.c (.fn 152)) (.cons true (.c (.fn 143)) .nil)))) (.cons false (.call 142 (.cons true (.var 0) (.cons true (.c (.int 3)) .nil))) .nil))) (.cons true (.var 0) (.cons true (.var 1) .nil)))) (.cons (.ret (.c (.bl false))) .nil) .nil) .nil)) (.cons (.ret (.c (.bl true))) .nil))⟩  -- _law_writes
def fn138 : Fn := ⟨3, 6, (.cons (.asg (.var 3) (.call 155 (.cons true (.var 0) (.cons true (.op .ix (.cons false (.var 1) (.cons false (.c (.str tx_d05b6e)) .nil))) .nil)))) (.cons (.asg (.var 4) (.call 140 (.cons true (.var 0) .nil))) (.cons (.setIx (.var 1) (.c (.str tx_d1fe44)) (.op .add (.cons false (.op .ix (.cons false (.var 1) (.cons false (.c (.str tx_d1fe44)) .nil))) (.cons false (.c (.int 1)) .nil)))) (.cons (.asg (.var 5) (.op (.disp [[110, 97, 109, 101], tx_b1bc24, [114, 117, 108, 101], [99, 117, 116, 115], [116, 111], [97, 116], tx_b2fdab]) (.cons true (.var 2) (.cons true (.op .ix (.cons false (.var 1) (.cons false (.c (.str tx_d1fe44)) .nil))) (.cons true (.var 3) (.cons true (.var 4) (.cons true (.op .neg (.cons false (.c (.int 1)) .nil)) (.cons true (.c .non) (.cons true (.c (.bl false)) .nil))))))))) (.cons (.setIx (.var 5) (.c (.str tx_84374e)) (.op .mul (.cons false (.op .lst (.cons true (.call 149 (.cons true (.var 1) .nil)) .nil)) (.cons false (.op .add (.cons false (.op .len (.cons false (.var 4) .nil)) (.cons false (.c (.int 1)) .nil))) .nil)))) (.cons (.setIx (.op .ix (.cons false (.var 1) (.cons false (.c (.str tx_e6dbca)) .nil))) (.var 2) (.var 5)) (.cons (.ret (.op .eq (.cons false (.call 165 (.cons true (.op .ix (.cons false (.var 1) (.cons false (.c (.str tx_8cd892)) .nil))) (.cons true (.var 2) (.cons true (.var 3) (.cons true (.var 4) .nil))))) (.cons false (.op .ix (.cons false (.var 5) (.cons false (.c (.str tx_b1bc24)) .nil))) .nil)))) .nil)))))))⟩  -- _law_begin
def fn144 : Fn := ⟨4, 8, (.cons (.asg (.var 4) (.op .lst .nil)) (.cons (.for_ (.items (.op .ix (.cons false (.op .ix (.cons false (.var 0) (.cons false (.c (.str [112, 97, 115, 116])) .nil))) (.cons false (.var 3) .nil)))) (.tup [5, 6]) (.cons (.asg (.var 7) (.call 145 (.cons true (.var 6) (.cons true (.op .ix (.cons false (.var 1) (.cons false (.c (.str [114, 117, 108, 101])) .nil))) .nil)))) (.cons (.ife (.op .eq (.cons false (.call 150 (.cons true (.op .ix (.cons false (.var 1) (.cons false (.c (.str [99, 117, 116, 115])) .nil))) (.cons true (.var 7) .nil))) (.cons false (.var 2) .nil))) (.cons (.expr (.bm .append (.var 4) (.cons true (.op .tup (.cons true (.var 7) (.cons true (.var 5) .nil))) .nil))) .nil) .nil) .nil))) (.cons (.ret (.op .tuple (.cons false (.op .sorted (.cons false (.var 4) .nil)) .nil))) .nil)))⟩  -- _law_entries
def fn157 : Fn := ⟨3, 3, (.cons (.ret (.and (.op .notN (.cons false (.op .ix (.cons false (.op .ix (.cons false (.var 1) (.cons false (.c (.str tx_84374e)) .nil))) (.cons false (.var 2) .nil))) .nil)) (.op .ge (.cons false (.op .ix (.cons false (.op .ix (.cons false (.var 1) (.cons false (.c (.str tx_84374e)) .nil))) (.cons false (.var 2) .nil))) (.cons false (.op .ix (.cons false (.var 0) (.cons false (.c (.str tx_f14b51)) .nil))) .nil))))) .nil)⟩  -- _law_stands
def fn151 : Fn := ⟨1, 1, (.cons (.ret (.op .lstRg1 (.cons false (.op .len (.cons false (.op .ix (.cons false (.var 0) (.cons false (.c (.str tx_84374e)) .nil))) .nil)) .nil))) .nil)⟩  -- _law_parts
def fn156 : Fn := ⟨2, 4, (.cons (.ife (.op .notN (.cons false (.op .ix (.cons false (.var 1) (.cons false (.c (.str [97, 116])) .nil))) .nil)) (.cons (.asg (.var 2) (.lc (.over (.call 151 (.cons true (.var 1) .nil))) (.var 3) (some (.or (.not (.call 157 (.cons true (.var 0) (.cons true (.var 1) (.cons true (.var 3) .nil))))) (.op .lt (.cons false (.op .ix (.cons false (.op .ix (.cons false (.var 1) (.cons false (.c (.str tx_84374e)) .nil))) (.cons false (.var 3) .nil))) (.cons false (.op .ix (.cons false (.var 1) (.cons false (.c (.str [97, 116])) .nil))) .nil))))) (.var 3))) (.cons (.setIx (.var 1) (.c (.str tx_b2fdab)) (.or (.op .ix (.cons false (.var 1) (.cons false (.c (.str tx_b2fdab)) .nil))) (.op .eq (.cons false (.var 2) (.cons false (.op .lst .nil) .nil))))) .nil)) .nil) .nil)⟩  -- _law_settled
def fn160 : Fn := ⟨4, 5, (.cons (.asg (.var 4) (.op .ix (.cons false (.op .ix (.cons false (.var 1) (.cons false (.c (.str tx_84374e)) .nil))) (.cons false (.var 2) .nil)))) (.cons (.ife (.or (.not (.call 157 (.cons true (.var 0) (.cons true (.var 1) (.cons true (.var 2) .nil))))) (.op .ge (.cons false (.var 4) (.cons false (.var 3) .nil)))) (.cons (.ret (.c (.int 0))) .nil) .nil) (.cons (.setIx (.op .ix (.cons false (.var 1) (.cons false (.c (.str tx_84374e)) .nil))) (.var 2) (.var 3)) (.cons (.ret (.op .sub (.cons false (.var 3) (.cons false (.var 4) .nil)))) .nil))))⟩  -- _law_took
def fn159 : Fn := ⟨2, 3, (.cons (.ret (.op .tuple (.cons false (.lc (.over (.call 151 (.cons true (.var 1) .nil))) (.var 2) none (.ife (.call 157 (.cons true (.var 0) (.cons true (.var 1) (.cons true (.var 2) .nil)))) (.op .ix (.cons false (.op .ix (.cons false (.var 1) (.cons false (.c (.str tx_84374e)) .nil))) (.cons false (.var 2) .nil))) (.c .non))) .nil))) .nil)⟩  -- _law_told_marks
def fn137 : Fn := ⟨1, 5, (.cons (.asg (.var 1) (.op .ix (.cons false (.var 0) (.cons false (.c (.str tx_8cd892)) .nil)))) (.cons (.for_ (.items (.op .ix (.cons false (.var 0) (.cons false (.c (.str tx_e6dbca)) .nil)))) (.tup [2, 3]) (.cons (.asg (.var 4) (.call 159 (.cons true (.var 0) (.cons true (.var 3) .nil)))) (.cons (.ife (.or (.op .ne (.cons false (.call 173 (.cons true (.var 1) (.cons true (.var 2) .nil))) (.cons false (.var 4) .nil))) (.op .ne (.cons false (.call 169 (.cons true (.var 1) (.cons true (.var 2) .nil))) (.cons false (.op .ix (.cons false (.var 3) (.cons false (.c (.str tx_b2fdab)) .nil))) .nil)))) (.cons (.ret (.c (.bl false))) .nil) .nil) .nil))) (.cons (.ret (.and (.op .eq (.cons false (.meth 5 (.var 1) .nil) (.cons false (.call 149 (.cons true (.var 0) .nil)) .nil))) (.op .eq (.cons false (.meth 6 (.var 1) .nil) (.cons false (.op .ix (.cons false (.var 0) (.cons false (.c (.str tx_f14b51)) .nil))) .nil))))) .nil)))⟩  -- _law_alike
def fn246 : Fn := ⟨1, 5, (.cons (.ife (.not (.op (.isi [.tuple]) (.cons false (.var 0) .nil))) (.cons (.ret (.c (.bl false))) .nil) .nil) (.cons (.for_ (.over (.var 0)) (.var 1) (.cons (.ife (.or (.not (.op (.isi [.tuple]) (.cons false (.var 1) .nil))) (.op .ne (.cons false (.lc (.over (.var 1)) (.var 2) (some (.not (.op (.isi [.tuple]) (.cons false (.var 2) .nil)))) (.var 2)) (.cons false (.op .lst .nil) .nil)))) (.cons (.ret (.c (.bl false))) .nil) .nil) (.cons (.asg (.var 3) (.op .add (.cons false (.lc (.over (.var 1)) (.var 2) none (.op .ix (.cons false (.var 2) (.cons false (.c (.int 0)) .nil)))) (.cons false (.lc (.over (.var 1)) (.var 2) none (.op .ix (.cons false (.var 2) (.cons false (.c (.int 1)) .nil)))) .nil)))) (.cons (.ife (.op .ne (.cons false (.lc (.over (.var 3)) (.var 4) (some (.or (.op (.isi [.bool]) (.cons false (.var 4) .nil)) (.not (.op (.isi [.int]) (.cons false (.var 4) .nil))))) (.var 4)) (.cons false (.op .lst .nil) .nil))) (.cons (.ret (.c (.bl false))) .nil) .nil) .nil)))) (.cons (.ret (.c (.bl true))) .nil)))⟩  -- _law_plain
def fn245 : Fn := ⟨3, 5, (.cons (.asg (.var 3) (.op (.disp [[114, 117, 108, 101], [99, 117, 116, 115]]) (.cons true (.var 1) (.cons true (.var 2) .nil)))) (.cons (.ret (.op .tuple (.cons false (.lc (.rg1 (.op .add (.cons false (.op .len (.cons false (.var 2) .nil)) (.cons false (.c (.int 1)) .nil)))) (.var 4) none (.call 144 (.cons true (.var 0) (.cons true (.var 3) (.cons true (.var 4) (.cons true (.call 149 (.cons true (.var 0) .nil)) .nil)))))) .nil))) .nil))⟩  -- _law_due
def fn247 : Fn := ⟨1, 9, (.cons (.asg (.var 1) (.call 162 (.cons true (.var 0) .nil))) (.cons (.asg (.var 2) (.op .lst .nil)) (.cons (.for_ (.rg1 (.op .add (.cons false (.c (.int 1)) (.cons false (.call 142 (.cons true (.var 0) (.cons true (.c (.int 6)) .nil))) .nil)))) (.var 3) (.cons (.ife (.not (.call 163 (.cons true (.var 0) (.cons true (.var 1) (.cons true (.call 142 (.cons true (.var 0) (.cons true (.op .ix (.cons false (.op .lst (.cons true (.c (.int 8)) (.cons true (.c (.int 31)) .nil))) (.cons false (.op .int (.cons false (.op .eq (.cons false (.call 142 (.cons true (.var 0) (.cons true (.c (.int 4)) .nil))) (.cons false (.c (.int 3)) .nil))) .nil)) .nil))) .nil))) .nil))))) (.cons (.ret (.c (.bl false))) .nil) .nil) (.cons (.asg (.var 4) (.call 155 (.cons true (.var 0) (.cons true (.op .ix (.cons false (.var 1) (.cons false (.c (.str tx_d05b6e)) .nil))) .nil)))) (.cons (.asg (.var 5) (.call 140 (.cons true (.var 0) .nil))) (.cons (.expr (.bm .append (.var 2) (.cons true (.op .tup (.cons true (.var 4) (.cons true (.var 5) .nil))) .nil))) (.cons (.ife (.and (.op .lt (.cons false (.var 3) (.cons false (.c (.int 3)) .nil))) (.not (.call 138 (.cons true (.var 0) (.cons true (.var 1) (.cons true (.op .ix (.cons false (.op .lst (.cons true (.c (.str [97])) (.cons true (.c (.str [98, 98])) (.cons true (.c (.str [99, 99, 99])) .nil)))) (.cons false (.var 3) .nil))) .nil)))))) (.cons (.ret (.c (.bl false))) .nil) .nil) (.cons (.for_ (.over (.var 2)) (.tup [6, 7]) (.cons (.asg (.var 8) (.callp 249 [some 0, some 1, some 2] (.cons true (.op .ix (.cons false (.var 1) (.cons false (.c (.str tx_8cd892)) .nil))) (.cons true (.var 6) (.cons true (.var 7) .nil))))) (.cons (.ife (.or (.op .ne (.cons false (.var 8) (.cons false (.call 245 (.cons true (.var 1) (.cons true (.var 6) (.cons true (.var 7) .nil)))) .nil))) (.not (.call 246 (.cons true (.var 8) .nil)))) (.cons (.ret (.c (.bl false))) .nil) .nil) .nil))) .nil))))))) (.cons (.ret (.call 137 (.cons true (.var 1) .nil))) .nil))))⟩  -- _law_right
def fn248 : Fn := ⟨1, 2, (.cons (.for_ (.over (.op .add (.cons false (.op .lst (.cons true (.call 139 (.cons true (.var 0) (.cons true (.c (.int 0)) .nil))) .nil)) (.cons false (.sl11 (.var 0) (.c (.int 1)) (.c (.int 4))) .nil)))) (.var 1) (.cons (.ife (.not (.call 247 (.cons true (.call 141 (.cons true (.var 1) .nil)) .nil))) (.cons (.ret (.c (.bl false))) .nil) .nil) .nil)) (.cons (.ret (.c (.bl true))) .nil))⟩  -- law
def g0 : G where
  fns := fun i => match i with
    | 98 => some fn98
    | 33 => some fn33
    | 42 => some fn42
    | 178 => some fn178
    | 133 => some fn133
    | 171 => some fn171
    | 165 => some fn165
    | 169 => some fn169
    | 173 => some fn173
    | 249 => some fn249
    | 71 => some fn71
    | 75 => some fn75
    | 79 => some fn79
    | 73 => some fn73
    | 104 => some fn104
    | 81 => some fn81
    | 77 => some fn77
    | 78 => some fn78
    | 76 => some fn76
    | 134 => some fn134
    | 136 => some fn136
    | 135 => some fn135
    | 139 => some fn139
    | 141 => some fn141
    | 142 => some fn142
    | 146 => some fn146
    | 147 => some fn147
    | 155 => some fn155
    | 140 => some fn140
    | 145 => some fn145
    | 150 => some fn150
    | 148 => some fn148
    | 162 => some fn162
    | 149 => some fn149
    | 152 => some fn152
    | 143 => some fn143
    | 163 => some fn163
    | 138 => some fn138
    | 144 => some fn144
    | 157 => some fn157
    | 151 => some fn151
    | 156 => some fn156
    | 160 => some fn160
    | 159 => some fn159
    | 137 => some fn137
    | 246 => some fn246
    | 245 => some fn245
    | 247 => some fn247
    | 248 => some fn248
    | _ => none
  cls := fun i => match i with
    | 0 => some ⟨71, [(0, 75), (1, 79), (2, 73), (3, 104), (4, 81), (5, 77), (6, 78), (7, 76), (8, 134), (9, 136), (10, 135)]⟩
    | 1 => some ⟨133, []⟩
    | _ => none
  xfs := []
def LAW : Nat := 248
end IR
namespace IR
section
variable {S : Sto} {P : D → Sto → Prop} {r : Nat}
@[simp] theorem o_isT {b : Bool} : wp (evOp .isT [.bl b]) S P ↔ P (.bl b) S := Iff.rfl
@[simp] theorem o_notT {b : Bool} : wp (evOp .notT [.bl b]) S P ↔ P (.bl (!b)) S := Iff.rfl
@[simp] theorem o_isF {b : Bool} : wp (evOp .isF [.bl b]) S P ↔ P (.bl (!b)) S := Iff.rfl
@[simp] theorem o_notF {b : Bool} : wp (evOp .notF [.bl b]) S P ↔ P (.bl b) S := Iff.rfl
@[simp] theorem o_revT {l : List D} : wp (evOp .revS [.tup l]) S P ↔ P (.tup l.reverse) S := Iff.rfl
end
theorem wp_lcRf {S : Sto} {f : D → M (Option D)} {r : Nat} {l : List D} {Q : List D → Sto → Prop} (o : D → Option D) (h : S[r]? = some (.lst l)) (hl : l.length ≤ LINE) (step : ∀ x ∈ l, ∀ Q' : Option D → Sto → Prop, Q' (o x) S → wp (f x) S Q') (q : Q (l.filterMap o) S) :
    ∀ (k i : Nat), l.length - i = k → i ≤ l.length → wp (lcRf f false r k i ((l.take i).filterMap o)) S Q
  | 0, i, hk, hi => by
    have e : i = l.length := by omega
    subst e
    refine wp_as' (m' := M.pure ((l.take l.length).filterMap o)) ?_ ?_
    · simp only [lcRf, h, Nat.le_refl, if_true]
      rfl
    · rw [List.take_length]; exact q
  | k + 1, i, hk, hi => by
    have hlt : i < l.length := by omega
    refine wp_as' (m' := (f l[i]).bind fun y => match y with
        | none => lcRf f false r k (i + 1) ((l.take i).filterMap o)
        | some y => if ((l.take i).filterMap o).length < LINE then lcRf f false r k (i + 1) (((l.take i).filterMap o) ++ [y]) else M.bad) ?_ ?_
    · simp only [lcRf, h, List.getElem?_eq_getElem hlt]
      rfl
    · rw [wp_bind]
      have ht : l.take (i + 1) = l.take i ++ [l[i]] := List.take_succ_eq_append_getElem hlt
      refine step l[i] (List.getElem_mem _) _ ?_
      have ih := wp_lcRf o h hl step q k (i + 1) (by omega) hlt
      rw [ht, List.filterMap_append] at ih
      cases ho : o l[i] with
      | none => simpa [ho] using ih
      | some y =>
        have hb : ((l.take i).filterMap o).length < LINE := Nat.lt_of_le_of_lt (List.length_filterMap_le _ _) (by rw [List.length_take]; omega)
        show wp (if ((l.take i).filterMap o).length < LINE then lcRf f false r k (i + 1) (((l.take i).filterMap o) ++ [y]) else M.bad) S Q
        rw [if_pos hb]
        simpa [ho] using ih
theorem wp_lcR {S : Sto} {f : D → M (Option D)} {r : Nat} {l : List D} {Q : List D → Sto → Prop} (o : D → Option D) (h : S[r]? = some (.lst l)) (hl : l.length ≤ LINE) (step : ∀ x ∈ l, ∀ Q' : Option D → Sto → Prop, Q' (o x) S → wp (f x) S Q') (q : Q (l.filterMap o) S) : wp (lcSrc f (.rf false r)) S Q := by
  refine wp_as' (m' := lcRf f false r l.length 0 []) ?_ (wp_lcRf o h hl step q _ 0 (by omega) (Nat.zero_le _))
  simp only [lcSrc, h]
/-- a comprehension over a list object that stays -/
theorem wp_lcRfI {f : D → M (Option D)} {en : Bool} {r : Nat} {l : List D} {Q : List D → Sto → Prop} (Inv : Nat → List D → Sto → Prop) (stay : ∀ i acc S, Inv i acc S → S[r]? = some (.lst l))
    (step : ∀ i d acc S, Inv i acc S → l[i]? = some d → acc.length < LINE ∧ wp (f (if en then .tup [.int i, d] else d)) S fun o S' => match o with
      | none => Inv (i + 1) acc S'
      | some y => Inv (i + 1) (acc ++ [y]) S') (fin : ∀ acc S, Inv l.length acc S → Q acc S) : ∀ (k i : Nat) (acc : List D) (S : Sto), l.length - i = k → i ≤ l.length → Inv i acc S → wp (lcRf f en r k i acc) S Q
  | 0, i, acc, S, hk, hi, h => by
    have e : i = l.length := by omega
    subst e
    refine wp_as' (m' := M.pure acc) ?_ (fin acc S h)
    simp only [lcRf, stay _ _ _ h, Nat.le_refl, if_true]
    rfl
  | k + 1, i, acc, S, hk, hi, h => by
    have hl : i < l.length := by omega
    obtain ⟨hL, hs⟩ := step i l[i] acc S h (List.getElem?_eq_getElem hl)
    refine wp_as' (m' := (f (if en then .tup [.int i, l[i]] else l[i])).bind fun o => match o with
        | none => lcRf f en r k (i + 1) acc
        | some y => if acc.length < LINE then lcRf f en r k (i + 1) (acc ++ [y]) else M.bad) ?_ ?_
    · simp only [lcRf, stay _ _ _ h, List.getElem?_eq_getElem hl]
      try rfl
    · rw [wp_bind]
      refine wp_mono hs fun o S' q => ?_
      cases o with
      | none => exact wp_lcRfI Inv stay step fin k (i + 1) acc S' (by omega) hl q
      | some y =>
        show wp (if acc.length < LINE then lcRf f en r k (i + 1) (acc ++ [y]) else M.bad) S' Q
        rw [if_pos hL]
        exact wp_lcRfI Inv stay step fin k (i + 1) (acc ++ [y]) S' (by omega) hl q
theorem wp_lcRI {S : Sto} {f : D → M (Option D)} {en : Bool} {r : Nat} {l : List D} {Q : List D → Sto → Prop} (Inv : Nat → List D → Sto → Prop) (h0 : Inv 0 [] S) (stay : ∀ i acc S, Inv i acc S → S[r]? = some (.lst l))
    (step : ∀ i d acc S, Inv i acc S → l[i]? = some d → acc.length < LINE ∧ wp (f (if en then .tup [.int i, d] else d)) S fun o S' => match o with
      | none => Inv (i + 1) acc S'
      | some y => Inv (i + 1) (acc ++ [y]) S') (fin : ∀ acc S, Inv l.length acc S → Q acc S) : wp (lcSrc f (.rf en r)) S Q := by
  refine wp_as' (m' := lcRf f en r l.length 0 []) ?_ (wp_lcRfI Inv stay step fin _ 0 [] S (by omega) (Nat.zero_le _) h0)
  simp only [lcSrc, stay _ _ _ h0]

theorem wp_lcRM {S : Sto} {f : D → M (Option D)} {r : Nat} {l : List D} {Q : List D → Sto → Prop} (o : D → D) (h : S[r]? = some (.lst l)) (hl : l.length ≤ LINE) (step : ∀ x ∈ l, ∀ Q' : Option D → Sto → Prop, Q' (some (o x)) S → wp (f x) S Q') (q : Q (l.map o) S) : wp (lcSrc f (.rf false r)) S Q := by
  refine wp_lcR (fun x => some (o x)) h hl step ?_
  have : (l.filterMap fun x => some (o x)) = l.map o := by induction l <;> simp_all
  rw [this]; exact q
theorem wp_lcRE {S : Sto} {f : D → M (Option D)} {r : Nat} {l : List D} {Q : List D → Sto → Prop} (h : S[r]? = some (.lst l)) (hl : l.length ≤ LINE) (step : ∀ x ∈ l, ∀ Q' : Option D → Sto → Prop, Q' none S → wp (f x) S Q') (q : Q [] S) : wp (lcSrc f (.rf false r)) S Q := by
  refine wp_lcR (fun x => none) h hl step ?_
  have : (l.filterMap fun _ => (none : Option D)) = [] := by induction l <;> simp_all
  rw [this]; exact q
end IR

namespace IR
/-- a deck: three numbers in a list -/
def Well (S : Sto) (w : Nat) : Prop := ∃ a b c : Int, S[w]? = some (.lst [.int a, .int b, .int c])
/-- what stands stays, but for the places in W -/
def FrW (W : Nat → Prop) (S S' : Sto) : Prop := S.length ≤ S'.length ∧ ∀ (r : Nat) (o : MO), ¬ W r → S[r]? = some o → S'[r]? = some o
/-- all of W are decks -/
def Dk (W : Nat → Prop) (S : Sto) : Prop := ∀ w, W w → Well S w
section
variable {W : Nat → Prop} {S T U : Sto}
theorem FrW.refl : FrW W S S := ⟨Nat.le_refl _, fun _ _ _ h => h⟩
theorem FrW.trans (a : FrW W S T) (b : FrW W T U) : FrW W S U := ⟨Nat.le_trans a.1 b.1, fun r o h e => b.2 r o h (a.2 r o h e)⟩
theorem FrW.app (T : Sto) : FrW W S (S ++ T) := ⟨by simp, fun r o _ h => get_app h T⟩
theorem FrW.new (f : FrW W S T) (o : MO) : FrW W S (T ++ [o]) := f.trans (.app _)
theorem FrW.set {w : Nat} {o : MO} (h : W w) : FrW W S (S.set w o) := ⟨by simp, fun r o' hr e => by rw [List.getElem?_set_ne (fun z => by subst z; exact hr h)]; exact e⟩
theorem Well.app {w : Nat} (h : Well S w) (T : Sto) : Well (S ++ T) w := let ⟨a, b, c, e⟩ := h; ⟨a, b, c, get_app e T⟩
theorem Well.lt {w : Nat} (h : Well S w) : w < S.length := let ⟨_, _, _, e⟩ := h; (List.getElem?_eq_some_iff.mp e).1
theorem Dk.app (h : Dk W S) (T : Sto) : Dk W (S ++ T) := fun w hw => (h w hw).app T
theorem Dk.fresh (h : Dk W S) : ¬ W S.length := fun hw => Nat.lt_irrefl _ (h _ hw).lt
theorem Dk.ne (h : Dk W S) {r : Nat} (hr : S.length ≤ r) : ¬ W r := fun hw => by have := (h _ hw).lt; omega
theorem Dk.set {r : Nat} {o : MO} (h : Dk W S) (hr : ¬ W r) : Dk W (S.set r o) := fun w hw => by
  obtain ⟨a, b, c, e⟩ := h w hw
  exact ⟨a, b, c, by rw [List.getElem?_set_ne (fun z => by subst z; exact hr hw)]; exact e⟩
theorem Dk.setW {w : Nat} {a b c : Int} (h : Dk W S) : Dk W (S.set w (.lst [.int a, .int b, .int c])) := fun v hv => by
  by_cases e : v = w
  · subst e
    exact ⟨a, b, c, by rw [List.getElem?_set_self (h v hv).lt]⟩
  · obtain ⟨a', b', c', e'⟩ := h v hv
    exact ⟨a', b', c', by rw [List.getElem?_set_ne (Ne.symm e)]; exact e'⟩
end
/-- a draw -/
def Fits (row : List Int) : Prop := ∀ x ∈ row, -1000000000 ≤ x ∧ x ≤ 1000000000
structure Deed where
  way : Int
  num : Int
  row : List Int
def encD (d : Deed) : D := .tup [.int d.way, .int d.num, .tup (d.row.map .int)]
structure Good (m : Int) (d : Deed) : Prop where
  w0 : 0 ≤ d.way
  w1 : d.way < 4
  n0 : 0 ≤ d.num
  n1 : d.num ≤ 999999
  rl : d.row.length = m.toNat
  rf : Fits d.row
def DI (W : Nat → Prop) (S : Sto) (rd : Nat) (m : Int) (dk : List D) (i : Nat) (ρ : Env) (S' : Sto) : Prop := ∃ (r : Nat) (l : List Deed) (x3 x4 x5 : Option D), ρ = [some (.ref rd), some (.int m), some (.ref r), x3, x4, x5] ∧ ¬ W r ∧ S.length ≤ r ∧ S'[r]? = some (.lst (l.map encD)) ∧ (∀ d ∈ l, Good m d) ∧ (l.length ≤ 3 * i ∧ i ≤ l.length) ∧ Dk W S' ∧ FrW (fun x => W x ∨ x = r) S S' ∧ S'[rd]? = some (.lst dk)
def DJ (W : Nat → Prop) (S : Sto) (rd w : Nat) (m : Int) (dk : List D) (i r : Nat) (x4 : Option D) (pre : List D) (ρ : Env) (S' : Sto) : Prop := ∃ (l : List Deed) (x4 x5 : Option D), ρ = [some (.ref rd), some (.int m), some (.ref r), some (.ref w), x4, x5] ∧ S'[r]? = some (.lst (l.map encD)) ∧ (∀ d ∈ l, Good m d) ∧ (l.length ≤ 3 * i + pre.length ∧ i + pre.length ≤ l.length) ∧ Dk W S' ∧ FrW (fun x => W x ∨ x = r) S S' ∧ S'[rd]? = some (.lst dk)
end IR

namespace IR
/-! ### rows by number, in plain words -/
abbrev Row := List Int
abbrev Tab := List (Int × Row)
def encR (r : Row) : D := .tup (r.map .int)
def encO : Option Row → D
  | none => .non
  | some r => encR r
def encK (R : Tab) : List (Ky × D) := R.map fun p => (.inl p.1, encR p.2)
def rGet (R : Tab) (n : Int) : Option Row := R.lookup n
def rPut (R : Tab) (n : Int) (r : Row) : Tab := if (rGet R n).isSome then R.map (fun p => if p.1 = n then (p.1, r) else p) else R ++ [(n, r)]
def rDrop (R : Tab) (n : Int) : Tab := R.filter fun p => decide (p.1 ≠ n)
theorem encK_get : ∀ {R : Tab} {n : Int}, dGet (encK R) (.inl n) = (rGet R n).map encR
  | [], _ => rfl
  | p :: r, n => by
    have ih := encK_get (R := r) (n := n)
    unfold encK rGet at ih ⊢
    rw [List.map_cons, List.lookup_cons]
    unfold dGet
    by_cases e : p.1 = n
    · subst e; simp
    · have e2 : (n == p.1) = false := by simpa using Ne.symm e
      simp [e, e2]; exact ih
theorem encK_put {R : Tab} {n : Int} {r : Row} : dPut (encK R) (.inl n) (encR r) = encK (rPut R n r) := by
  unfold dPut rPut
  rw [encK_get, Option.isSome_map]
  split
  · unfold encK
    rw [List.map_map, List.map_map]
    refine List.map_congr_left fun p _ => ?_
    by_cases e : p.1 = n <;> simp [e]
  · unfold encK
    simp
theorem encK_drop {R : Tab} {n : Int} : dDrop (encK R) (.inl n) = encK (rDrop R n) := by
  unfold dDrop rDrop encK
  rw [List.filter_map]
  congr 1
  refine List.filter_congr fun p _ => ?_
  simp
theorem encK_len {R : Tab} : (encK R).length = R.length := by simp [encK]
theorem rPut_len {R : Tab} {n : Int} {r : Row} : (rPut R n r).length ≤ R.length + 1 := by
  unfold rPut; split <;> simp
theorem rDrop_len {R : Tab} {n : Int} : (rDrop R n).length ≤ R.length := List.length_filter_le _ _
/-- the numbers, each once -/
def Once (R : Tab) : Prop := (R.map (·.1)).Nodup
theorem rGet_mem {R : Tab} {n : Int} : (rGet R n).isSome = true ↔ n ∈ R.map (·.1) := by
  induction R with
  | nil => simp [rGet]
  | cons p r ih =>
    unfold rGet at ih ⊢
    rw [List.lookup_cons]
    by_cases e : p.1 = n
    · subst e; simp
    · have e2 : (n == p.1) = false := by simpa using Ne.symm e
      simp only [e2, List.map_cons, List.mem_cons]
      rw [ih]
      constructor
      · exact .inr
      · rintro (h | h)
        · exact absurd h.symm e
        · exact h
theorem Once.put {R : Tab} {n : Int} {r : Row} (h : Once R) : Once (rPut R n r) := by
  unfold Once rPut
  split
  · have : (R.map fun p => if p.1 = n then (p.1, r) else p).map (·.1) = R.map (·.1) := by
      rw [List.map_map]
      refine List.map_congr_left fun p _ => ?_
      by_cases e : p.1 = n <;> simp [e]
    rw [this]; exact h
  · rename_i e
    rw [rGet_mem] at e
    rw [List.map_append]
    refine List.nodup_append.mpr ⟨h, by simp, ?_⟩
    intro a ha b hb
    simp at hb
    subst hb
    intro z
    subst z
    exact e ha
theorem Once.drop {R : Tab} {n : Int} (h : Once R) : Once (rDrop R n) := by
  unfold Once rDrop
  exact h.sublist (List.Sublist.map _ List.filter_sublist)
theorem once_get {R : Tab} (h : Once R) {p : Int × Row} (hp : p ∈ R) : rGet R p.1 = some p.2 := by
  induction R with
  | nil => simp at hp
  | cons q r ih =>
    unfold Once at h ih
    rw [List.map_cons, List.nodup_cons] at h
    unfold rGet at ih ⊢
    rw [List.lookup_cons]
    rcases List.mem_cons.mp hp with rfl | hp
    · simp
    · have e : p.1 ≠ q.1 := fun z => h.1 (by rw [← z]; exact List.mem_map.mpr ⟨p, hp, rfl⟩)
      have e2 : (p.1 == q.1) = false := by simpa using e
      simp only [e2]
      exact ih h.2 hp
/-- the rows, numbers rising -/
def srt (R : Tab) : Tab := sortBy (fun p q => decide (p.1 ≤ q.1)) R
theorem insBy_mem {α : Type} {le : α → α → Bool} {x y : α} : ∀ {l : List α}, y ∈ insBy le x l ↔ y = x ∨ y ∈ l
  | [] => by simp [insBy]
  | z :: r => by
    unfold insBy
    split
    · simp
    · simp only [List.mem_cons, insBy_mem (l := r)]
      constructor
      · rintro (h | h | h) <;> simp [h]
      · rintro (h | h | h) <;> simp [h]
theorem sortBy_mem {α : Type} {le : α → α → Bool} {y : α} : ∀ {l : List α}, y ∈ sortBy le l ↔ y ∈ l
  | [] => by simp [sortBy]
  | z :: r => by
    unfold sortBy
    rw [insBy_mem, sortBy_mem (l := r), List.mem_cons]
theorem insBy_len {α : Type} {le : α → α → Bool} {x : α} : ∀ {l : List α}, (insBy le x l).length = l.length + 1
  | [] => rfl
  | z :: r => by
    unfold insBy
    split
    · rfl
    · simp [insBy_len (l := r)]
theorem sortBy_len {α : Type} {le : α → α → Bool} : ∀ {l : List α}, (sortBy le l).length = l.length
  | [] => rfl
  | z :: r => by
    unfold sortBy
    rw [insBy_len, sortBy_len, List.length_cons]
theorem sortBy_mapC {α β : Type} {f : α → β} {le : α → α → Bool} {le' : β → β → Bool} (h : ∀ a b, le' (f a) (f b) = le a b) : ∀ {l : List α}, sortBy le' (l.map f) = (sortBy le l).map f
  | [] => rfl
  | x :: r => by
    have e : ∀ {l : List α}, insBy le' (f x) (l.map f) = (insBy le x l).map f := fun {l} => by
      induction l with
      | nil => rfl
      | cons y r ih =>
        simp only [insBy, List.map_cons, h]
        split
        · rfl
        · rw [ih]; rfl
    show insBy le' (f x) (sortBy le' (r.map f)) = _
    rw [sortBy_mapC h, e]
    rfl
theorem mapM_map {α β γ : Type} {f : β → Option γ} {g : α → β} {h : α → γ} (e : ∀ x, f (g x) = some (h x)) : ∀ {l : List α}, (l.map g).mapM f = some (l.map h)
  | [] => rfl
  | x :: r => by rw [List.map_cons, List.mapM_cons, e, mapM_map e]; rfl
def encE (p : Int × Row) : D := .tup [.int p.1, encR p.2]
theorem srtN_enc {R : Tab} (h : R.length < 64) : srtN (encK R) = some ((srt R).map encE) := by
  unfold srtN
  rw [encK_len, if_pos h]
  have e : (encK R).mapM itN1 = some (R.map fun p => (p.1, encR p.2)) := by
    unfold encK
    exact mapM_map (f := itN1) (g := fun p : Int × Row => ((.inl p.1, encR p.2) : Ky × D)) (h := fun p : Int × Row => (p.1, encR p.2)) (fun p => rfl)
  rw [e]
  show some ((sortBy leN (R.map fun p => (p.1, encR p.2))).map fun p => D.tup [.int p.1, p.2]) = some _
  rw [sortBy_mapC (f := fun p : Int × Row => (p.1, encR p.2)) (le := fun p q => decide (p.1 ≤ q.1)) (fun _ _ => rfl), List.map_map]
  rfl
theorem srtK_enc {R : Tab} (h : R.length < 64) : srtK ((encK R).map Prod.fst) = some ((srt R).map fun p => .int p.1) := by
  unfold srtK
  rw [List.length_map, encK_len, if_pos h]
  have e : ((encK R).map Prod.fst).mapM Ky.isI = some (R.map (·.1)) := by
    unfold encK
    rw [List.map_map]
    exact mapM_map (f := Ky.isI) (g := (Prod.fst ∘ fun p : Int × Row => ((.inl p.1, encR p.2) : Ky × D))) (h := fun p : Int × Row => p.1) (fun p => rfl)
  rw [e]
  show some ((sortBy leI (R.map (·.1))).map D.int) = some _
  rw [sortBy_mapC (f := fun p : Int × Row => p.1) (le := fun p q => decide (p.1 ≤ q.1)) (fun _ _ => rfl), List.map_map]
  rfl
end IR

namespace IR
structure Note where
  at_ : Int
  num : Int
  before : Option Row
  after : Option Row
def encN (n : Note) : D := .tup [.int n.at_, .int n.num, encO n.before, encO n.after]
def stIns (F : Int) (rt nr lt : Nat) (now old begun : Int) : MO := .ins 0 [(0, .int F), (1, .ref rt), (2, .ref nr), (3, .int now), (4, .int old), (5, .ref lt), (6, .int begun)]
structure StoreAt (S : Sto) (s : Nat) (F : Int) (rt nr lt : Nat) (R : Tab) (ns : List Note) (now old begun : Int) : Prop where
  ins : S[s]? = some (stIns F rt nr lt now old begun)
  rows : S[rt]? = some (.dK false (encK R))
  notes : S[nr]? = some (.lst (ns.map encN))
def own3 (s rt nr : Nat) : Nat → Prop := fun x => x = s ∨ x = rt ∨ x = nr
theorem own_encO {o : Option Row} : own (encO o) = M.pure (encO o) := by cases o <;> rfl
theorem own_encR {o : Row} : own (encR o) = M.pure (encR o) := rfl
section
variable {S : Sto} {s rt nr lt : Nat} {F now old begun : Int} {R : Tab} {ns : List Note} {n : Nat} {Q : D → Sto → Prop}
theorem StoreAt.ne (h : StoreAt S s F rt nr lt R ns now old begun) : s ≠ rt ∧ s ≠ nr ∧ rt ≠ nr ∧ s < S.length ∧ rt < S.length ∧ nr < S.length := by
  refine ⟨fun z => ?_, fun z => ?_, fun z => ?_, (List.getElem?_eq_some_iff.mp h.ins).1, (List.getElem?_eq_some_iff.mp h.rows).1, (List.getElem?_eq_some_iff.mp h.notes).1⟩
  · subst z; have := h.ins.symm.trans h.rows; simp [stIns] at this
  · subst z; have := h.ins.symm.trans h.notes; simp [stIns] at this
  · subst z; have := h.rows.symm.trans h.notes; simp at this
theorem StoreAt.keep {W : Nat → Prop} {S' : Sto} (f : FrW W S S') (h : StoreAt S s F rt nr lt R ns now old begun) (h1 : ¬ W s) (h2 : ¬ W rt) (h3 : ¬ W nr) : StoreAt S' s F rt nr lt R ns now old begun := ⟨f.2 _ _ h1 h.ins, f.2 _ _ h2 h.rows, f.2 _ _ h3 h.notes⟩
theorem Dk.keep {W V : Nat → Prop} {S' : Sto} (h : Dk W S) (f : FrW V S S') (d : ∀ w, W w → ¬ V w) : Dk W S' := fun w hw => by
  obtain ⟨a, b, c, e⟩ := h w hw
  exact ⟨a, b, c, f.2 _ _ (d w hw) e⟩
theorem noted_ok (h : StoreAt S s F rt nr lt R ns now old begun) (hl : ns.length < 1000) {num : Int} {a : Option Row} (q : ∀ S', StoreAt S' s F rt nr lt R (ns ++ [⟨now + 1, num, rGet R num, a⟩]) (now + 1) old begun → FrW (own3 s rt nr) S S' → Q (.int (now + 1)) S') : wp (callD g0 (n + 1) 75 [.ref s, .int num, encO a]) S Q := by
  obtain ⟨n1, n2, n3, l1, l2, l3⟩ := h.ne
  have hi := h.ins
  unfold stIns at hi
  refine wp_call (d := fn75) rfl rfl ?_
  show wp (exs g0 (callD g0 _) fn75.body [some (.ref s), some (.int num), some (encO a)]) _ _
  simp only [fn75, exs, ex, ev, evs, evIt, wp_bind, wp_getVar, wp_pure, ownIf_f, ownIf_t]
  try simp [-Bool.exists_bool, -List.contains_eq_mem, List.lookup, fPut, wp_getAttr hi, wp_setAttr hi]
  have e1 : (S.set s (.ins 0 [(0, .int F), (1, .ref rt), (2, .ref nr), (3, .int (now + 1)), (4, .int old), (5, .ref lt), (6, .int begun)]))[s]? = some (stIns F rt nr lt (now + 1) old begun) := by rw [List.getElem?_set_self l1]; rfl
  generalize hS1 : S.set s (.ins 0 [(0, .int F), (1, .ref rt), (2, .ref nr), (3, .int (now + 1)), (4, .int old), (5, .ref lt), (6, .int begun)]) = S1 at e1 ⊢
  have e2 : S1[rt]? = some (.dK false (encK R)) := by rw [← hS1, List.getElem?_set_ne n1]; exact h.rows
  have e3 : S1[nr]? = some (.lst (ns.map encN)) := by rw [← hS1, List.getElem?_set_ne n2]; exact h.notes
  have e1' := e1
  unfold stIns at e1'
  have l1' : S1.length = S.length := by rw [← hS1]; simp
  have eo : own (((rGet R num).map encR).getD .non) = M.pure (((rGet R num).map encR).getD .non) := by cases rGet R num <;> rfl
  have en : (((rGet R num).map encR).getD .non) = encO (rGet R num) := by cases rGet R num <;> rfl
  try simp [-Bool.exists_bool, -List.contains_eq_mem, List.lookup, fPut, o_attr e1', wp_recvL e3, wp_recvK e2, o_get1 e2, encK_get, o_append e3, eo, own_encO]
  have l3' : nr < S1.length := by omega
  have e4 : (S1.set nr (.lst (ns.map encN ++ [.tup [.int (now + 1), .int num, ((rGet R num).map encR).getD .non, encO a]])))[s]? = some (stIns F rt nr lt (now + 1) old begun) := by rw [List.getElem?_set_ne (Ne.symm n2)]; exact e1
  have e4' := e4
  unfold stIns at e4'
  try simp [-Bool.exists_bool, -List.contains_eq_mem, List.lookup, fPut, o_attr e4']
  refine ⟨by simp [LINE]; omega, q _ ⟨e4, ?_, ?_⟩ ?_⟩
  · rw [List.getElem?_set_ne (Ne.symm n3)]; exact e2
  · rw [List.getElem?_set_self l3', List.map_append, en]; rfl
  · rw [← hS1]
    exact (FrW.set (.inl rfl)).trans (.set (.inr (.inr rfl)))
theorem put_ok (h : StoreAt S s F rt nr lt R ns now old begun) (hl : ns.length < 1000) (hR : R.length < 1000) {num : Int} {row : Row} (q : ∀ S', StoreAt S' s F rt nr lt (rPut R num row) (ns ++ [⟨now + 1, num, rGet R num, some row⟩]) (now + 1) old begun → FrW (own3 s rt nr) S S' → Q (.int (now + 1)) S') : wp (callD g0 (n + 2) 79 [.ref s, .int num, encR row]) S Q := by
  have hi := h.ins
  unfold stIns at hi
  refine wp_call (d := fn79) rfl rfl ?_
  show wp (exs g0 (callD g0 _) fn79.body [some (.ref s), some (.int num), some (encR row), none]) _ _
  simp only [fn79, exs, ex, ev, evs, evIt, wp_bind, wp_getVar, wp_pure, ownIf_f, ownIf_t]
  try simp [-Bool.exists_bool, -List.contains_eq_mem, List.lookup, fPut, wp_methM hi, own_encR]
  refine ⟨75, rfl, ?_⟩
  refine noted_ok (a := some row) h hl fun S1 h1 f1 => ?_
  have hi1 := h1.ins
  unfold stIns at hi1
  obtain ⟨n1, n2, n3, l1, l2, l3⟩ := h1.ne
  try simp [-Bool.exists_bool, -List.contains_eq_mem, List.lookup, fPut, own_encR, o_attr hi1, wp_setK h1.rows, encK_put, encK_len]
  refine ⟨by simp [LINE]; omega, q _ ⟨?_, ?_, ?_⟩ ?_⟩
  · rw [List.getElem?_set_ne (Ne.symm n1)]; exact h1.ins
  · rw [List.getElem?_set_self l2]
  · rw [List.getElem?_set_ne n3]; exact h1.notes
  · exact f1.trans (.set (.inr (.inl rfl)))
theorem drop_ok (h : StoreAt S s F rt nr lt R ns now old begun) (hl : ns.length < 1000) {num : Int} {row : Row} (hg : rGet R num = some row) (q : ∀ S', StoreAt S' s F rt nr lt (rDrop R num) (ns ++ [⟨now + 1, num, rGet R num, none⟩]) (now + 1) old begun → FrW (own3 s rt nr) S S' → Q (.int (now + 1)) S') : wp (callD g0 (n + 2) 73 [.ref s, .int num]) S Q := by
  have hi := h.ins
  unfold stIns at hi
  refine wp_call (d := fn73) rfl rfl ?_
  show wp (exs g0 (callD g0 _) fn73.body [some (.ref s), some (.int num), none]) _ _
  simp only [fn73, exs, ex, ev, evs, evIt, wp_bind, wp_getVar, wp_pure, ownIf_f, ownIf_t]
  try simp [-Bool.exists_bool, -List.contains_eq_mem, List.lookup, fPut, wp_methM hi, o_attr hi, inD_dK h.rows, encK_get, hg]
  refine ⟨75, rfl, ?_⟩
  refine noted_ok (a := none) h hl fun S1 h1 f1 => ?_
  have hi1 := h1.ins
  unfold stIns at hi1
  obtain ⟨n1, n2, n3, l1, l2, l3⟩ := h1.ne
  have hg1 : dGet (encK R) (.inl num) = some (encR row) := by rw [encK_get, hg]; rfl
  try simp [-Bool.exists_bool, -List.contains_eq_mem, List.lookup, fPut, o_attr hi1, wp_recvK h1.rows, o_pop1 h1.rows hg1, encK_drop]
  refine q _ ⟨?_, ?_, ?_⟩ ?_
  · rw [List.getElem?_set_ne (Ne.symm n1)]; exact h1.ins
  · rw [List.getElem?_set_self l2]
  · rw [List.getElem?_set_ne n3]; exact h1.notes
  · exact f1.trans (.set (.inr (.inl rfl)))
theorem notes_ok (h : StoreAt S s F rt nr lt R ns now old begun) {a b : Int} (h1 : b ≤ now) (h2 : a ≤ b) (h3 : old ≤ a) (q : Q (.tup (((ns.drop (a - old).toNat).take (b - a).toNat).map encN)) S) (hn : (ns.length : Int) = now - old) : wp (callD g0 (n + 1) 76 [.ref s, .int a, .int b]) S Q := by
  have hi := h.ins
  unfold stIns at hi
  refine wp_call (d := fn76) rfl rfl ?_
  show wp (exs g0 (callD g0 _) fn76.body [some (.ref s), some (.int a), some (.int b)]) _ _
  simp only [fn76, exs, ex, ev, evs, evIt, wp_bind, wp_getVar, wp_pure, ownIf_f, ownIf_t]
  try simp [-Bool.exists_bool, -List.contains_eq_mem, List.lookup, fPut, o_attr hi, Int.not_lt.mpr h1, Int.not_lt.mpr h2, Int.not_lt.mpr h3, wp_slR h.notes]
  have e : cut (ns.map encN) (some (a - old)) (some (b - old)) = ((ns.drop (a - old).toNat).take (b - a).toNat).map encN := by
    unfold cut
    have e1 : sIx (ns.map encN).length 0 (some (a - old)) = (a - old).toNat := by simp only [sIx, if_pos (show 0 ≤ a - old by omega), List.length_map]; omega
    have e2 : sIx (ns.map encN).length (ns.map encN).length (some (b - old)) = (b - old).toNat := by simp only [sIx, if_pos (show 0 ≤ b - old by omega), List.length_map]; omega
    rw [e1, e2, List.map_take, List.map_drop]
    congr 1
    omega
  rw [e]
  exact q
theorem getA {o : MO} {T : Sto} {r : Nat} (h : r < S.length) : (S.set r o ++ T)[r]? = some o := by rw [List.getElem?_append_left (by simpa using h), List.getElem?_set_self h]
theorem setA {o o' : MO} {T : Sto} {r : Nat} (h : r < S.length) : (S.set r o ++ T).set r o' = S.set r o' ++ T := by
  rw [List.set_append_left _ _ (by simpa using h), List.set_set]
theorem init_ok {r : Nat} (hr : S[r]? = some (.ins 0 [])) (q : ∀ S', StoreAt S' r F S.length (S.length + 1) (S.length + 2) [] [] 0 0 0 → FrW (fun x => x = r) S S' → S'.length = S.length + 3 → Q .non S') : wp (callD g0 (n + 1) 71 [.ref r, .int F]) S Q := by
  have l1 := (List.getElem?_eq_some_iff.mp hr).1
  refine wp_call (d := fn71) rfl rfl ?_
  show wp (exs g0 (callD g0 _) fn71.body [some (.ref r), some (.int F)]) _ _
  simp only [fn71, exs, ex, ev, evs, evIt, wp_bind, wp_getVar, wp_pure, ownIf_f, ownIf_t]
  have w : ∀ {fs : List (Nat × D)} {T : Sto} {f : Nat} {d : D} {Q : Unit → Sto → Prop}, fs.length < 100 → Q () (S.set r (.ins 0 (fPut fs f d)) ++ T) → wp (setAttrD d (.ref r) f) (S.set r (.ins 0 fs) ++ T) Q := fun {fs T f d Q} hf hq => (wp_setAttr (getA l1)).mpr ⟨by omega, by rw [setA l1]; exact hq⟩
  try simp [-Bool.exists_bool, -List.contains_eq_mem, List.lookup, fPut, wp_setAttr hr]
  refine w (by simp) ?_
  try simp [-Bool.exists_bool, -List.contains_eq_mem, List.lookup, fPut]
  refine w (by simp) ?_
  try simp [-Bool.exists_bool, -List.contains_eq_mem, List.lookup, fPut]
  refine w (by simp) ?_
  try simp [-Bool.exists_bool, -List.contains_eq_mem, List.lookup, fPut]
  refine w (by simp) ?_
  try simp [-Bool.exists_bool, -List.contains_eq_mem, List.lookup, fPut]
  refine w (by simp) ?_
  try simp [-Bool.exists_bool, -List.contains_eq_mem, List.lookup, fPut]
  refine w (by simp) ?_
  try simp [-Bool.exists_bool, -List.contains_eq_mem, List.lookup, fPut]
  refine q _ ⟨getA l1, ?_, ?_⟩ ⟨by simp, fun x o hx e => ?_⟩ (by simp)
  · rw [List.getElem?_append_right (by simp)]; simp [encK]
  · rw [List.getElem?_append_right (by simp)]; simp
  · have hx' : r ≠ x := fun z => hx z.symm
    refine get_app ?_ _
    rw [List.getElem?_set_ne hx']; exact e
end
/-! ### the law's own hands -/
section
variable {S : Sto} {n : Nat} {Q : D → Sto → Prop} {R : Tab}
/-- told data: numbers, None, tuples of these -/
inductive Dt : Nat → D → Prop
  | int {k : Nat} (i : Int) : Dt (k + 1) (.int i)
  | non {k : Nat} : Dt (k + 1) .non
  | tup {k : Nat} (l : List D) (hl : l.length ≤ LINE) (h : ∀ d ∈ l, Dt k d) : Dt (k + 1) (.tup l)
theorem Dt.own {k : Nat} {d : D} (h : Dt k d) : IR.own d = M.pure d := by cases h <;> rfl
@[simp] theorem eqD_non : eqD S .non .non = some true := by
  rw [eqD, toP.eq_def]; simp [P.eqv]
@[simp] theorem kind_tup {l : List D} : kindD S (.tup l) = some 4 := rfl
@[simp] theorem kind_non : kindD S .non = some 0 := rfl
end
section
variable {S : Sto} {n : Nat} {Q : D → Sto → Prop} {R : Tab} {m : Int}
/-- the rows fit -/
def FitsT (m : Int) (R : Tab) : Prop := ∀ p ∈ R, p.2.length = m.toNat ∧ Fits p.2
theorem FitsT.put {k : Int} {r : Row} (h : FitsT m R) (h1 : r.length = m.toNat) (h2 : Fits r) : FitsT m (rPut R k r) := by
  intro p hp
  unfold rPut at hp
  split at hp
  · obtain ⟨x, hx, rfl⟩ := List.mem_map.mp hp
    split
    · exact ⟨h1, h2⟩
    · exact h x hx
  · rcases List.mem_append.mp hp with hp | hp
    · exact h p hp
    · rw [List.mem_singleton] at hp; subst hp; exact ⟨h1, h2⟩
theorem FitsT.drop {k : Int} (h : FitsT m R) : FitsT m (rDrop R k) := fun p hp => h p (List.mem_filter.mp hp).1
theorem rGet_in {k : Int} {r : Row} (h : rGet R k = some r) : (k, r) ∈ R := by
  induction R with
  | nil => simp [rGet] at h
  | cons p t ih =>
    unfold rGet at ih h
    rw [List.lookup_cons] at h
    by_cases e : p.1 = k
    · subst e
      simp at h
      subst h
      simp
    · have e2 : (k == p.1) = false := by simpa using Ne.symm e
      simp only [e2] at h
      exact List.mem_cons_of_mem _ (ih h)
/-- numbers of rows -/
def NumsT (R : Tab) : Prop := ∀ p ∈ R, 0 ≤ p.1 ∧ p.1 ≤ 999999
/-- what is written: a drop of a row that stands, or a row; a new one only where there are fewer than 59 -/
structure Wants (m : Int) (R : Tab) (k : Int) (o : Option Row) : Prop where
  n0 : 0 ≤ k
  n1 : k ≤ 999999
  dr : o = none → (rGet R k).isSome = true
  fit : ∀ r, o = some r → r.length = m.toNat ∧ Fits r
  few : (rGet R k).isSome = true ∨ R.length ≤ 58
/-- the rows behind a write -/
def rWrite (R : Tab) (k : Int) : Option Row → Tab
  | none => rDrop R k
  | some r => rPut R k r
theorem Wants.len {k : Int} {o : Option Row} (w : Wants m R k o) (h : R.length ≤ 59) : (rWrite R k o).length ≤ 59 := by
  cases o with
  | none => exact Nat.le_trans rDrop_len h
  | some r =>
    show (rPut R k r).length ≤ 59
    unfold rPut
    rcases w.few with e | e
    · rw [if_pos e]; simpa using h
    · split
      · simpa using h
      · simp; omega
theorem Wants.fits {k : Int} {o : Option Row} (w : Wants m R k o) (h : FitsT m R) : FitsT m (rWrite R k o) := by
  cases o with
  | none => exact h.drop
  | some r => exact h.put (w.fit r rfl).1 (w.fit r rfl).2
theorem Wants.nums {k : Int} {o : Option Row} (w : Wants m R k o) (h : NumsT R) : NumsT (rWrite R k o) := by
  intro p hp
  cases o with
  | none => exact h p (List.mem_filter.mp hp).1
  | some r =>
    have hp : p ∈ rPut R k r := hp
    unfold rPut at hp
    split at hp
    · obtain ⟨x, hx, rfl⟩ := List.mem_map.mp hp
      split
      · exact h x hx
      · exact h x hx
    · rcases List.mem_append.mp hp with hp | hp
      · exact h p hp
      · rw [List.mem_singleton] at hp; subst hp; exact ⟨w.n0, w.n1⟩
theorem Wants.once {k : Int} {o : Option Row} (_ : Wants m R k o) (h : Once R) : Once (rWrite R k o) := by
  cases o with
  | none => exact h.drop
  | some r => exact h.put
end
end IR

namespace IR
section
variable {R T : Tab} {k n : Int} {r : Row}
theorem rGet_cons {p : Int × Row} {t : Tab} : rGet (p :: t) n = if n = p.1 then some p.2 else rGet t n := by
  unfold rGet
  rw [List.lookup_cons]
  by_cases e : n = p.1
  · subst e; simp
  · have e2 : (n == p.1) = false := by simpa using e
    rw [e2, if_neg e]
theorem rGet_nil : rGet [] n = none := rfl
theorem rGet_map : ∀ {R : Tab}, (rGet (R.map fun p => if p.1 = k then (p.1, r) else p) n) = if n = k then (if (rGet R k).isSome then some r else none) else rGet R n
  | [] => by simp [rGet_nil]
  | p :: t => by
    rw [List.map_cons, rGet_cons, rGet_map, rGet_cons, rGet_cons]
    by_cases e : p.1 = k
    · by_cases e2 : n = k
      · simp [e, e2]
      · simp [e, e2]
    · by_cases e2 : n = k
      · subst e2
        simp [e, Ne.symm e]
      · simp [e, e2]
theorem rGet_app : ∀ {R : Tab}, rGet (R ++ [(k, r)]) n = match rGet R n with | some x => some x | none => if n = k then some r else none
  | [] => by rw [List.nil_append, rGet_cons, rGet_nil]
  | p :: t => by
    rw [List.cons_append, rGet_cons, rGet_app, rGet_cons]
    by_cases e : n = p.1 <;> simp [e]
theorem rGet_put : rGet (rPut R k r) n = if n = k then some r else rGet R n := by
  unfold rPut
  split
  · rename_i h
    rw [rGet_map, if_pos h]
  · rename_i h
    rw [rGet_app]
    by_cases e : n = k
    · subst e
      have : rGet R n = none := by simpa using h
      simp [this]
    · cases rGet R n <;> simp [e]
theorem rGet_drop : rGet (rDrop R k) n = if n = k then none else rGet R n := by
  unfold rDrop
  induction R with
  | nil => simp [rGet_nil]
  | cons p t ih =>
    by_cases e : p.1 = k
    · rw [List.filter_cons_of_neg (by simp [e]), ih, rGet_cons]
      by_cases e2 : n = k
      · simp [e2]
      · simp [e2, e]
    · rw [List.filter_cons_of_pos (by simp [e]), rGet_cons, ih, rGet_cons]
      by_cases e2 : n = k
      · subst e2
        simp [Ne.symm e]
      · simp [e2]
/-- the same rows, in whichever order -/
def Same (R T : Tab) : Prop := ∀ n, rGet R n = rGet T n
theorem once_in (h : Once R) {p : Int × Row} : p ∈ R ↔ rGet R p.1 = some p.2 := ⟨once_get h, fun e => rGet_in e⟩
theorem Same.perm (h : Same R T) (a : Once R) (b : Once T) : R.Perm T := by
  have nd : ∀ {R : Tab}, Once R → R.Nodup := fun h => List.Pairwise.of_map (fun p : Int × Row => p.1) (fun a b h e => h (by rw [e])) h
  refine (List.perm_ext_iff_of_nodup (nd a) (nd b)).mpr fun p => ?_
  rw [once_in a, once_in b, h]
theorem insBy_perm' {α : Type} {le : α → α → Bool} {x : α} : ∀ {l : List α}, (insBy le x l).Perm (x :: l)
  | [] => .refl _
  | y :: r => by
    unfold insBy
    split
    · exact .refl _
    · exact ((insBy_perm' (l := r)).cons y).trans (.swap x y r)
theorem sortBy_perm' {α : Type} {le : α → α → Bool} : ∀ {l : List α}, (sortBy le l).Perm l
  | [] => .refl _
  | x :: r => insBy_perm'.trans (sortBy_perm'.cons x)
theorem insBy_sorted' {α : Type} {le : α → α → Bool} (tot : ∀ a b, le a b = true ∨ le b a = true) (tr : ∀ a b c, le a b = true → le b c = true → le a c = true) {x : α} : ∀ {l : List α}, l.Pairwise (fun a b => le a b = true) → (insBy le x l).Pairwise (fun a b => le a b = true)
  | [], _ => by simp [insBy]
  | y :: r, h => by
    obtain ⟨h1, h2⟩ := List.pairwise_cons.mp h
    unfold insBy
    split
    · rename_i hx
      refine List.pairwise_cons.mpr ⟨fun z hz => ?_, h⟩
      rcases List.mem_cons.mp hz with rfl | hz
      · exact hx
      · exact tr _ _ _ hx (h1 z hz)
    · rename_i hx
      refine List.pairwise_cons.mpr ⟨fun z hz => ?_, insBy_sorted' tot tr h2⟩
      rcases List.mem_cons.mp (insBy_perm'.mem_iff.mp hz) with rfl | hz
      · rcases tot z y with h | h
        · exact absurd h hx
        · exact h
      · exact h1 z hz
theorem sortBy_sorted' {α : Type} {le : α → α → Bool} (tot : ∀ a b, le a b = true ∨ le b a = true) (tr : ∀ a b c, le a b = true → le b c = true → le a c = true) : ∀ {l : List α}, (sortBy le l).Pairwise (fun a b => le a b = true)
  | [] => .nil
  | _ :: _ => insBy_sorted' tot tr (sortBy_sorted' tot tr)
theorem srt_sorted : (srt R).Pairwise (fun a b => a.1 ≤ b.1) :=
  (sortBy_sorted' (le := fun p q : Int × Row => decide (p.1 ≤ q.1)) (fun a b => by simp only [decide_eq_true_eq]; omega) (fun a b c => by simp only [decide_eq_true_eq]; omega)).imp fun h => of_decide_eq_true h
theorem once_inj (a : Once R) {p q : Int × Row} (hp : p ∈ R) (hq : q ∈ R) (e : p.1 = q.1) : p = q := by
  have h1 := once_get a hp
  have h2 := once_get a hq
  rw [e, h2] at h1
  exact Prod.ext e (Option.some.inj h1).symm
theorem Same.srt (h : Same R T) (a : Once R) (b : Once T) : IR.srt R = IR.srt T :=
  List.Perm.eq_of_pairwise (le := fun a b : Int × Row => a.1 ≤ b.1) (fun p q hp hq h1 h2 => once_inj b ((h.perm a b).mem_iff.mp (sortBy_mem.mp hp)) (sortBy_mem.mp hq) (Int.le_antisymm h1 h2)) srt_sorted srt_sorted
    ((sortBy_perm'.trans (h.perm a b)).trans sortBy_perm'.symm)
end
/-- the rows told -/
def encT (R : Tab) : D := .tup ((srt R).map encE)
section
variable {S : Sto} {s rt nr lt : Nat} {F now old begun : Int} {R : Tab} {ns : List Note} {n : Nat} {Q : D → Sto → Prop}
theorem rows_ok (h : StoreAt S s F rt nr lt R ns now old begun) (hl : R.length < 64) (q : Q (encT R) S) : wp (callD g0 (n + 1) 81 [.ref s]) S Q := by
  have hi := h.ins
  unfold stIns at hi
  refine wp_call (d := fn81) rfl rfl ?_
  show wp (exs g0 (callD g0 _) fn81.body [some (.ref s)]) _ _
  simp only [fn81, exs, ex, ev, evs, evIt, wp_bind, wp_getVar, wp_pure, ownIf_f, ownIf_t]
  try simp [-Bool.exists_bool, -List.contains_eq_mem, List.lookup, fPut, o_attr hi, o_sortedItems h.rows, srtN_enc hl]
  exact q
theorem now_ok (h : StoreAt S s F rt nr lt R ns now old begun) (q : Q (.int now) S) : wp (callD g0 (n + 1) 77 [.ref s]) S Q := by
  have hi := h.ins
  unfold stIns at hi
  refine wp_call (d := fn77) rfl rfl ?_
  show wp (exs g0 (callD g0 _) fn77.body [some (.ref s)]) _ _
  simp only [fn77, exs, ex, ev, evs, evIt, wp_bind, wp_getVar, wp_pure, ownIf_f, ownIf_t]
  try simp [-Bool.exists_bool, -List.contains_eq_mem, List.lookup, fPut, o_attr hi]
  exact q
theorem oldest_ok (h : StoreAt S s F rt nr lt R ns now old begun) (q : Q (.int old) S) : wp (callD g0 (n + 1) 78 [.ref s]) S Q := by
  have hi := h.ins
  unfold stIns at hi
  refine wp_call (d := fn78) rfl rfl ?_
  show wp (exs g0 (callD g0 _) fn78.body [some (.ref s)]) _ _
  simp only [fn78, exs, ex, ev, evs, evIt, wp_bind, wp_getVar, wp_pure, ownIf_f, ownIf_t]
  try simp [-Bool.exists_bool, -List.contains_eq_mem, List.lookup, fPut, o_attr hi]
  exact q
end
end IR

namespace IR
/-! ### objects by their roles -/
/-- nothing that stands is changed -/
def Sub (S S' : Sto) : Prop := ∀ (a : Nat) (x : MO), S[a]? = some x → S'[a]? = some x
theorem Sub.refl {S : Sto} : Sub S S := fun _ _ h => h
theorem Sub.trans {S T U : Sto} (a : Sub S T) (b : Sub T U) : Sub S U := fun r x h => b r x (a r x h)
theorem Sub.app {S T : Sto} : Sub S (S ++ T) := fun _ _ h => get_app h T
theorem Sub.new {S T : Sto} (h : Sub S T) (o : MO) : Sub S (T ++ [o]) := h.trans .app
theorem lt_of_getL {α : Type} {l : List α} {i : Nat} {x : α} (h : l[i]? = some x) : i < l.length := (List.getElem?_eq_some_iff.mp h).1
theorem lt_of_get {S : Sto} {a : Nat} {x : MO} (h : S[a]? = some x) : a < S.length := (List.getElem?_eq_some_iff.mp h).1
theorem Sub.len {S T : Sto} (h : Sub S T) : S.length ≤ T.length := by
  rcases Nat.eq_zero_or_pos S.length with e | e
  · omega
  · have := lt_of_get (h (S.length - 1) _ (List.getElem?_eq_getElem (by omega)))
    omega
theorem Sub.setN {S T : Sto} (h : Sub S T) {a : Nat} {x : MO} (ha : S.length ≤ a) : Sub S (T.set a x) := fun r y e => by
  rw [List.getElem?_set_ne (by have := lt_of_get e; omega)]
  exact h r y e
section
variable {ρ : Type} {S S' S'' : Sto} {L L' L'' : ρ → Nat} {o o' o'' : ρ → Option MO} {fx : ρ → Bool}
structure Holds (S : Sto) (L : ρ → Nat) (o : ρ → Option MO) : Prop where
  at_ : ∀ r x, o r = some x → S[L r]? = some x
  inj : ∀ r r', (o r).isSome = true → (o r').isSome = true → L r = L r' → r = r'
/-- no object of these stands there -/
def Out (L : ρ → Nat) (o : ρ → Option MO) (a : Nat) : Prop := ∀ r, (o r).isSome = true → L r ≠ a
theorem Holds.sub (h : Holds S L o) (s : Sub S S') : Holds S' L o := ⟨fun r x e => s _ _ (h.at_ r x e), h.inj⟩
theorem Holds.lt (h : Holds S L o) {r : ρ} (e : (o r).isSome = true) : L r < S.length := by
  obtain ⟨x, hx⟩ := Option.isSome_iff_exists.mp e
  exact lt_of_get (h.at_ r x hx)
theorem Holds.fresh (h : Holds S L o) {a : Nat} (ha : S.length ≤ a) : Out L o a := fun r e => by have := h.lt e; omega
/-- one object is written -/
theorem Holds.set (h : Holds S L o) [DecidableEq ρ] {r : ρ} {x : MO} (e : (o r).isSome = true) (k : ∀ r', o' r' = if r' = r then some x else o r') : Holds (S.set (L r) x) L o' := by
  have hs : ∀ r', (o' r').isSome = true → (o r').isSome = true := fun r' h' => by
    rw [k] at h'
    by_cases z : r' = r
    · rw [z]; exact e
    · rw [if_neg z] at h'; exact h'
  refine ⟨fun r' y hy => ?_, fun a b ha hb => h.inj a b (hs a ha) (hs b hb)⟩
  rw [k] at hy
  by_cases z : r' = r
  · rw [if_pos z] at hy
    cases hy
    rw [z, List.getElem?_set_self (h.lt e)]
  · rw [if_neg z] at hy
    rw [List.getElem?_set_ne fun q => z (h.inj r' r (by rw [hy]; rfl) e q.symm)]
    exact h.at_ r' y hy
/-- one more object, or one in the stead of an older one -/
theorem Holds.add (h : Holds S L o) [DecidableEq ρ] {r : ρ} {x : MO} (k : ∀ r', o' r' = if r' = r then some x else o r') (l : ∀ r', r' ≠ r → (o r').isSome = true → L' r' = L r') (lr : L' r = S.length) : Holds (S ++ [x]) L' o' := by
  have hs : ∀ r', r' ≠ r → (o' r').isSome = true → (o r').isSome = true := fun r' z h' => by rw [k, if_neg z] at h'; exact h'
  refine ⟨fun r' y hy => ?_, fun a b ha hb e => ?_⟩
  · rw [k] at hy
    by_cases z : r' = r
    · rw [if_pos z] at hy; cases hy
      rw [z, lr]; exact get_new
    · rw [if_neg z] at hy
      rw [l r' z (by rw [hy]; rfl)]
      exact get_app (h.at_ r' y hy) _
  · by_cases za : a = r
    · by_cases zb : b = r
      · rw [za, zb]
      · have := h.lt (hs b zb hb)
        rw [za, lr, l b zb (hs b zb hb)] at e
        omega
    · by_cases zb : b = r
      · have := h.lt (hs a za ha)
        rw [zb, lr, l a za (hs a za ha)] at e
        omega
      · rw [l a za (hs a za ha), l b zb (hs b zb hb)] at e
        exact h.inj a b (hs a za ha) (hs b zb hb) e
/-- what a deed does to the rest -/
structure Step (fx : ρ → Bool) (S : Sto) (L : ρ → Nat) (o : ρ → Option MO) (S' : Sto) (L' : ρ → Nat) (o' : ρ → Option MO) : Prop where
  len : S.length ≤ S'.length
  fix : ∀ r, fx r = true → (o r).isSome = true → L' r = L r
  new : ∀ r, (o' r).isSome = true → ((o r).isSome = true ∧ L' r = L r) ∨ S.length ≤ L' r
  out : ∀ a x, Out L o a → S[a]? = some x → S'[a]? = some x
theorem Step.ofSub (h : Sub S S') : Step fx S L o S' L o := ⟨h.len, fun _ _ _ => rfl, fun _ e => .inl ⟨e, rfl⟩, fun a x _ e => h a x e⟩
theorem Step.outs (t : Step fx S L o S' L' o') {a : Nat} (h : Out L o a) (ha : a < S.length) : Out L' o' a := fun r e => by
  rcases t.new r e with ⟨h1, h2⟩ | h1
  · rw [h2]; exact h r h1
  · omega
theorem Step.trans (a : Step fx S L o S' L' o') (b : Step fx S' L' o' S'' L'' o'') (lv : ∀ r, fx r = true → (o r).isSome = true → (o' r).isSome = true) : Step fx S L o S'' L'' o'' :=
  ⟨Nat.le_trans a.len b.len, fun r f e => (b.fix r f (lv r f e)).trans (a.fix r f e), fun r e => by
    rcases b.new r e with ⟨h1, h2⟩ | h1
    · rcases a.new r h1 with ⟨h3, h4⟩ | h3
      · exact .inl ⟨h3, h2.trans h4⟩
      · exact .inr (by omega)
    · exact .inr (Nat.le_trans a.len h1), fun x y h e => b.out x y (a.outs h (lt_of_get e)) (a.out x y h e)⟩
theorem Step.set {r : ρ} {x : MO} (e : (o r).isSome = true) (lv : ∀ r, (o' r).isSome = true → (o r).isSome = true) : Step fx S L o (S.set (L r) x) L o' :=
  ⟨by simp, fun _ _ _ => rfl, fun r h => .inl ⟨lv r h, rfl⟩, fun a y h q => by rw [List.getElem?_set_ne (h r e)]; exact q⟩
theorem Step.add [DecidableEq ρ] {r : ρ} {x : MO} (l : ∀ r', r' ≠ r → L' r' = L r') (lr : L' r = S.length) (f : fx r = false ∨ (o r).isSome = false) (lv : ∀ r', r' ≠ r → (o' r').isSome = true → (o r').isSome = true) : Step fx S L o (S ++ [x]) L' o' :=
  ⟨by simp, fun r' h1 h2 => by
    by_cases z : r' = r
    · subst z
      rcases f with f | f
      · rw [h1] at f; cases f
      · rw [h2] at f; cases f
    · exact l r' z, fun r' h => by
    by_cases z : r' = r
    · rw [z, lr]; exact .inr (Nat.le_refl _)
    · exact .inl ⟨lv r' z h, l r' z⟩, fun a y h q => get_app q _⟩
end
end IR

namespace IR
/-! ### a store with its lists, in plain words -/
abbrev Ent := Int × Int
structure LL where
  name : Txt
  num : Int
  rule : List Int
  cuts : List Int
  marks : List (Option Int)
  ents : List (List Ent)
  to : Int
  at_ : Option Int
  ready : Bool
  unlike : Bool
structure PS where
  F : Int
  R : Tab
  ns : List Note
  now : Int
  old : Int
  ls : List LL
  tab : List (Txt × Nat)
  begun : Int
inductive PR where
  | st | rt | nr | lt | ll (j : Nat) | mk (j : Nat) | en (j : Nat) | ent (j p : Nat)
  deriving DecidableEq
def encM : Option Int → D
  | none => .non
  | some i => .int i
theorem own_encM {o : Option Int} : own (encM o) = M.pure (encM o) := by cases o <;> rfl
def encEnt (e : List Ent) : List (List Ky × D) := e.map fun p => ([.inl p.1, .inl p.2], .bl true)
def encTab (L : PR → Nat) (t : List (Txt × Nat)) : List (Ky × D) := t.map fun p => (.inr p.1, .ref (L (.ll p.2)))
def llFs (mk en : Nat) (l : LL) : List (Nat × D) := [(7, .str l.name), (8, .int l.num), (9, .tup (l.rule.map .int)), (10, .tup (l.cuts.map .int)), (11, .ref mk), (12, .ref en), (13, .int l.to), (14, encM l.at_), (15, .bl l.ready), (16, .bl l.unlike)]
def encEn (L : PR → Nat) (j : Nat) (n : Nat) : List D := (List.range n).map fun p => .ref (L (.ent j p))
def pobj (L : PR → Nat) (P : PS) : PR → Option MO
  | .st => some (stIns P.F (L .rt) (L .nr) (L .lt) P.now P.old P.begun)
  | .rt => some (.dK false (encK P.R))
  | .nr => some (.lst (P.ns.map encN))
  | .lt => some (.dK false (encTab L P.tab))
  | .ll j => (P.ls[j]?).map fun l => .ins 1 (llFs (L (.mk j)) (L (.en j)) l)
  | .mk j => (P.ls[j]?).map fun l => .lst (l.marks.map encM)
  | .en j => (P.ls[j]?).map fun l => .lst (encEn L j l.ents.length)
  | .ent j p => (P.ls[j]?).bind fun l => (l.ents[p]?).map fun e => .dT false (encEnt e)
def PR.fx : PR → Bool
  | .ent _ _ => false
  | .nr => false
  | _ => true
abbrev Rep (S : Sto) (L : PR → Nat) (P : PS) : Prop := Holds S L (pobj L P)
abbrev PStep (S : Sto) (L : PR → Nat) (P : PS) (S' : Sto) (L' : PR → Nat) (P' : PS) : Prop := Step PR.fx S L (pobj L P) S' L' (pobj L' P')
section
variable {S S' : Sto} {L L' : PR → Nat} {P P' : PS} {n : Nat} {Q : D → Sto → Prop}
theorem Rep.store (h : Rep S L P) : StoreAt S (L .st) P.F (L .rt) (L .nr) (L .lt) P.R P.ns P.now P.old P.begun := ⟨h.at_ .st _ rfl, h.at_ .rt _ rfl, h.at_ .nr _ rfl⟩
/-- the store's own three objects are changed -/
theorem Rep.stored (h : Rep S L P) (e : P' = { P with R := P'.R, ns := P'.ns, now := P'.now }) (t : StoreAt S' (L .st) P.F (L .rt) (L .nr) (L .lt) P'.R P'.ns P'.now P.old P.begun) (f : FrW (own3 (L .st) (L .rt) (L .nr)) S S') : Rep S' L P' ∧ PStep S L P S' L P' := by
  have ne : ∀ r, (pobj L P r).isSome = true → r ≠ .st → r ≠ .rt → r ≠ .nr → ¬ own3 (L .st) (L .rt) (L .nr) (L r) := fun r hr h1 h2 h3 z => by
    rcases z with z | z | z
    · exact h1 (h.inj _ _ hr rfl z)
    · exact h2 (h.inj _ _ hr rfl z)
    · exact h3 (h.inj _ _ hr rfl z)
  have lv : ∀ r, (pobj L P' r).isSome = true → (pobj L P r).isSome = true := fun r hr => by
    rw [e] at hr
    cases r <;> first | rfl | exact hr
  refine ⟨⟨fun r x hx => ?_, fun a b ha hb => h.inj a b (lv a ha) (lv b hb)⟩, ⟨f.1, fun _ _ _ => rfl, fun r hr => .inl ⟨lv r hr, rfl⟩, fun a x ha hx => f.2 a x (fun z => ?_) hx⟩⟩
  · have hs := lv r (by rw [hx]; rfl)
    cases r with
    | st =>
      cases hx
      rw [t.ins, e]
    | rt => cases hx; exact t.rows
    | nr => cases hx; exact t.notes
    | _ =>
      rw [e] at hx
      exact f.2 _ _ (ne _ hs (by simp) (by simp) (by simp)) (h.at_ _ x hx)
  · rcases z with z | z | z
    · exact ha .st rfl z.symm
    · exact ha .rt rfl z.symm
    · exact ha .nr rfl z.symm
def PS.put (P : PS) (k : Int) (r : Row) : PS := { P with R := rPut P.R k r, ns := P.ns ++ [⟨P.now + 1, k, rGet P.R k, some r⟩], now := P.now + 1 }
def PS.drop (P : PS) (k : Int) : PS := { P with R := rDrop P.R k, ns := P.ns ++ [⟨P.now + 1, k, rGet P.R k, none⟩], now := P.now + 1 }
theorem Rep.put (h : Rep S L P) (hl : P.ns.length < 1000) (hR : P.R.length < 1000) {k : Int} {row : Row} (q : ∀ S', Rep S' L (P.put k row) → PStep S L P S' L (P.put k row) → Q (.int (P.now + 1)) S') : wp (callD g0 (n + 2) 79 [.ref (L .st), .int k, encR row]) S Q :=
  put_ok h.store hl hR fun S' t f => by
    obtain ⟨h1, h2⟩ := h.stored (P' := P.put k row) rfl t f
    exact q S' h1 h2
theorem Rep.drop (h : Rep S L P) (hl : P.ns.length < 1000) {k : Int} {row : Row} (hg : rGet P.R k = some row) (q : ∀ S', Rep S' L (P.drop k) → PStep S L P S' L (P.drop k) → Q (.int (P.now + 1)) S') : wp (callD g0 (n + 2) 73 [.ref (L .st), .int k]) S Q :=
  drop_ok h.store hl hg fun S' t f => by
    obtain ⟨h1, h2⟩ := h.stored (P' := P.drop k) rfl t f
    exact q S' h1 h2
theorem Rep.now (h : Rep S L P) (q : Q (.int P.now) S) : wp (callD g0 (n + 1) 77 [.ref (L .st)]) S Q := now_ok h.store q
theorem Rep.oldest (h : Rep S L P) (q : Q (.int P.old) S) : wp (callD g0 (n + 1) 78 [.ref (L .st)]) S Q := oldest_ok h.store q
theorem Rep.rows (h : Rep S L P) (hl : P.R.length < 64) (q : Q (encT P.R) S) : wp (callD g0 (n + 1) 81 [.ref (L .st)]) S Q := rows_ok h.store hl q
end
/-! ### lists asked -/
section
variable {S S' : Sto} {L L' : PR → Nat} {P P' : PS} {n j : Nat} {l : LL} {nm : Txt} {Q : D → Sto → Prop}
theorem dGet_tab {L : PR → Nat} : ∀ {t : List (Txt × Nat)}, dGet (encTab L t) (.inr nm) = (t.lookup nm).map fun j => .ref (L (.ll j))
  | [] => rfl
  | p :: t => by
    have ih := dGet_tab (L := L) (t := t)
    unfold encTab at ih ⊢
    rw [List.map_cons, List.lookup_cons]
    unfold dGet
    by_cases e : p.1 = nm
    · subst e; simp
    · have e2 : (nm == p.1) = false := by simpa using Ne.symm e
      simp [e, e2]; exact ih
theorem inD_dKs {S : Sto} {r : Nat} {lk : Bool} {kvs : List (Ky × D)} {i : Txt} (h : S[r]? = some (.dK lk kvs)) : inD S (.str i) (.ref r) = some (dGet kvs (.inr i)).isSome := by
  simp only [inD, h]; rfl
theorem ixD_dKs {S : Sto} {r : Nat} {lk : Bool} {kvs : List (Ky × D)} {i : Txt} (h : S[r]? = some (.dK lk kvs)) : ixD S (.ref r) (.str i) = dGet kvs (.inr i) := by
  simp only [ixD, h]; rfl
theorem Rep.ll (h : Rep S L P) (hj : P.ls[j]? = some l) : S[L (.ll j)]? = some (.ins 1 [(7, .str l.name), (8, .int l.num), (9, .tup (l.rule.map .int)), (10, .tup (l.cuts.map .int)), (11, .ref (L (.mk j))), (12, .ref (L (.en j))), (13, .int l.to), (14, encM l.at_), (15, .bl l.ready), (16, .bl l.unlike)]) := h.at_ (.ll j) _ (by simp [pobj, hj, llFs])
theorem Rep.mk (h : Rep S L P) (hj : P.ls[j]? = some l) : S[L (.mk j)]? = some (.lst (l.marks.map encM)) := h.at_ (.mk j) _ (by simp [pobj, hj])
theorem Rep.en (h : Rep S L P) (hj : P.ls[j]? = some l) : S[L (.en j)]? = some (.lst (encEn L j l.ents.length)) := h.at_ (.en j) _ (by simp [pobj, hj])
theorem Rep.ent (h : Rep S L P) (hj : P.ls[j]? = some l) {p : Nat} {e : List Ent} (hp : l.ents[p]? = some e) : S[L (.ent j p)]? = some (.dT false (encEnt e)) := h.at_ (.ent j p) _ (by simp [pobj, hj, hp])
theorem Rep.st (h : Rep S L P) : S[L .st]? = some (.ins 0 [(0, .int P.F), (1, .ref (L .rt)), (2, .ref (L .nr)), (3, .int P.now), (4, .int P.old), (5, .ref (L .lt)), (6, .int P.begun)]) := h.at_ .st _ rfl
theorem Rep.lt_ (h : Rep S L P) : S[L .lt]? = some (.dK false (encTab L P.tab)) := h.at_ .lt _ rfl
theorem Rep.list_of (h : Rep S L P) (ht : P.tab.lookup nm = some j) (q : Q (.ref (L (.ll j))) S) : wp (callD g0 (n + 1) 171 [.ref (L .st), .str nm]) S Q := by
  have e1 : inD S (.str nm) (.ref (L .lt)) = some true := by rw [inD_dKs h.lt_, dGet_tab, ht]; rfl
  have e2 : ixD S (.ref (L .lt)) (.str nm) = some (.ref (L (.ll j))) := by rw [ixD_dKs h.lt_, dGet_tab, ht]; rfl
  refine wp_call (d := fn171) rfl rfl ?_
  show wp (exs g0 (callD g0 _) fn171.body [some (.ref (L .st)), some (.str nm)]) _ _
  simp only [fn171, exs, ex, ev, evs, evIt, wp_bind, wp_getVar, wp_pure, ownIf_f, ownIf_t]
  try simp [-Bool.exists_bool, -List.contains_eq_mem, List.lookup, fPut, o_attr h.st, e1, e2]
  exact q
/-- the mark of a part that stands -/
def PS.tells (P : PS) (m : Option Int) : Option Int := m.filter fun i => decide (P.old ≤ i)
theorem Rep.stands (h : Rep S L P) (hj : P.ls[j]? = some l) {p : Nat} {m : Option Int} (hp : l.marks[p]? = some m) (q : Q (.bl (P.tells m).isSome) S) : wp (callD g0 (n + 2) 178 [.ref (L .st), .ref (L (.ll j)), .int p]) S Q := by
  have e1 : ixD S (.ref (L (.mk j))) (.int p) = some (encM m) := by
    rw [ixD_ref (h.mk hj)]
    obtain ⟨d, h1, h2⟩ := atD_lt (l := l.marks.map encM) (i := (p : Int)) (by omega) (by have := lt_of_getL hp; simp; omega)
    rw [h1]
    simp [hp] at h2
    rw [h2]
  refine wp_call (d := fn178) rfl rfl ?_
  show wp (exs g0 (callD g0 _) fn178.body [some (.ref (L .st)), some (.ref (L (.ll j))), some (.int p), none]) _ _
  simp only [fn178, exs, ex, ev, evs, evIt, wp_bind, wp_getVar, wp_pure, ownIf_f, ownIf_t]
  try simp [-Bool.exists_bool, -List.contains_eq_mem, List.lookup, fPut, o_attr (h.ll hj), e1]
  cases m with
  | none =>
    try simp [-Bool.exists_bool, -List.contains_eq_mem, List.lookup, fPut, encM]
    exact q
  | some i =>
    try simp [-Bool.exists_bool, -List.contains_eq_mem, List.lookup, fPut, encM, wp_methM h.st]
    refine ⟨78, rfl, h.oldest ?_⟩
    try simp [-Bool.exists_bool, -List.contains_eq_mem, List.lookup, fPut]
    have : (P.tells (some i)).isSome = decide (P.old ≤ i) := by unfold PS.tells; by_cases e : P.old ≤ i <;> simp [Option.filter, e]
    rw [this] at q
    exact q
end
end IR

namespace IR
/-! ### keys, parts -/
def cnt (l : List Int) (k : Int) : Int := ((l.filter fun c => decide (c ≤ k)).length : Nat)
theorem cnt_cons {l : List Int} {c k : Int} : cnt (c :: l) k = (if c ≤ k then 1 else 0) + cnt l k := by
  unfold cnt
  by_cases h : c ≤ k
  · simp [h]; omega
  · simp [h]
theorem cnt_snoc {l : List Int} {c k : Int} : cnt (l ++ [c]) k = cnt l k + (if c ≤ k then 1 else 0) := by
  unfold cnt
  rw [List.filter_append, List.length_append]
  by_cases h : c ≤ k <;> simp [h]
theorem cnt_nn {l : List Int} {k : Int} : 0 ≤ cnt l k := by unfold cnt; omega
theorem cnt_le {l : List Int} {k : Int} : cnt l k ≤ l.length := by
  unfold cnt
  have := List.length_filter_le (fun c => decide (c ≤ k)) l
  omega
section
variable {S : Sto}
theorem any_ints {x : Int} {l : List Int} : anyEq S (.int x) (l.map D.int) = some (decide (x ∈ l)) := by
  unfold anyEq
  rw [toP_int (n := 19), toP_ints (n := 18)]
  show some _ = _
  congr 1
  induction l with
  | nil => simp
  | cons y r ih =>
    rw [List.map_cons, List.any_cons, ih]
    by_cases h : x = y
    · subst h; simp [P.eqv]
    · have h' : ¬ y = x := Ne.symm h
      simp [P.eqv, h, h']
theorem flat_ints {l : List Int} : (l.map D.int).all D.flat = true := by
  induction l with
  | nil => rfl
  | cons x r ih => rw [List.map_cons, List.all_cons, ih]; rfl
theorem inD_tupI {x : Int} {l : List Int} : inD S (.int x) (.tup (l.map D.int)) = some (decide (x ∈ l)) := by
  show (if ((D.int x).flat && (l.map D.int).all D.flat) = true then anyEq S (.int x) (l.map D.int) else none) = _
  rw [flat_ints]
  exact any_ints
theorem eqD_tupI {l m : List Int} : eqD S (.tup (l.map D.int)) (.tup (m.map D.int)) = some (l == m) := by
  have e : ∀ l : List Int, toP S 20 (.tup (l.map D.int)) = some (.tup (l.map IR.P.int)) := fun l => by
    rw [toP.eq_def]; simp only [toP_ints (n := 18), Option.map_some]
  unfold eqD
  rw [e, e]
  show some _ = _
  congr 1
  show P.eqvs _ _ = _
  induction l generalizing m with
  | nil => cases m <;> simp [P.eqvs]
  | cons x r ih =>
    cases m with
    | nil => simp [P.eqvs]
    | cons y t => simp only [List.map_cons, P.eqvs, ih (m := t)]; simp [P.eqv]
theorem eqD_tlI {l m : List Int} : eqD S (.tl (l.map D.int)) (.tl (m.map D.int)) = some (l == m) := by
  unfold eqD
  rw [toP_tl (n := 19), toP_tl (n := 19), toP_ints (n := 18), toP_ints (n := 18)]
  show some _ = _
  congr 1
  show P.eqvs _ _ = _
  induction l generalizing m with
  | nil => cases m <;> simp [P.eqvs]
  | cons x r ih =>
    cases m with
    | nil => simp [P.eqvs]
    | cons y t => simp only [List.map_cons, P.eqvs, ih (m := t)]; simp [P.eqv]
end
def key (row rule : List Int) : Int := (rule.map fun i => row.getD i.toNat 0).sum
def InRow (row rule : List Int) : Prop := ∀ i ∈ rule, 0 ≤ i ∧ i < (row.length : Int)
theorem key_ok {n : Nat} {S : Sto} {row rule : List Int} {Q : D → Sto → Prop} (hm : rule.length ≤ 1000) (hb : ∀ i ∈ rule, 0 ≤ i ∧ i < (row.length : Int)) (q : Q (.int (key row rule)) S) : wp (callD g0 (n + 1) 33 [.tup (row.map .int), .tup (rule.map .int)]) S Q := by
  refine wp_call (d := fn33) rfl rfl ?_
  show wp (exs g0 (callD g0 n) fn33.body [some (.tup (row.map .int)), some (.tup (rule.map .int)), none]) S _
  simp only [fn33, exs, ex, ev, evs, evIt, wp_bind, wp_getVar, wp_pure, ownIf_f, ownIf_t]
  simp
  refine wp_lc (fun pre acc S' => S' = S ∧ acc = (rule.map fun i => D.int (row.getD i.toNat 0)).take pre.length) ⟨rfl, rfl⟩ ?_ ?_
  · rintro pre x post acc S1 ⟨rfl, rfl⟩ e
    obtain ⟨hx, hp⟩ := split_at e
    rw [List.length_map] at hp
    rw [List.getElem?_map, List.getElem?_eq_getElem hp] at hx
    cases hx
    refine ⟨by simp [LINE]; omega, ?_⟩
    obtain ⟨h1, h2⟩ := hb _ (List.getElem_mem hp)
    obtain ⟨d, hd, hd2⟩ := atD_lt (l := row.map D.int) h1 (by simpa using h2)
    rw [List.getElem?_map, List.getElem?_eq_getElem (by omega)] at hd2
    cases hd2
    have : rule[pre.length].toNat < row.length := by omega
    simp [hd]
    rw [List.take_succ]
    simp [List.getElem?_eq_getElem hp, List.getElem?_eq_getElem this]
  · rintro acc S1 ⟨rfl, rfl⟩
    rw [List.length_map, List.take_of_length_le (by simp)]
    have e : (rule.map fun i => D.int (row.getD i.toNat 0)) = (rule.map fun i => row.getD i.toNat 0).map D.int := by rw [List.map_map]; rfl
    rw [e]
    exact ⟨_, isInts, q⟩
section
variable {S : Sto} {n w : Nat} {Q : D → Sto → Prop} {l : List Int} {lo hi : Option Int} {k : Int}
theorem ints_at {l : List Int} {pre post : List D} {x : D} (e : pre ++ x :: post = l.map D.int) : ∃ c, x = .int c ∧ l.take (pre.length + 1) = l.take pre.length ++ [c] ∧ c ∈ l := by
  obtain ⟨hx, hp⟩ := split_at e
  rw [List.length_map] at hp
  rw [List.getElem?_map, List.getElem?_eq_getElem hp] at hx
  cases hx
  exact ⟨_, rfl, List.take_succ_eq_append_getElem hp, List.getElem_mem _⟩
theorem part_ok (hl : l.length < 1000) (q : Q (.int (cnt l k)) S) : wp (callD g0 (n + 1) 42 [.tup (l.map .int), .int k]) S Q := by
  refine wp_call (d := fn42) rfl rfl ?_
  show wp (exs g0 (callD g0 _) fn42.body [some (.tup (l.map .int)), some (.int k), none]) _ _
  simp only [fn42, exs, ex, ev, evs, evIt, wp_bind, wp_getVar, wp_pure, ownIf_f, ownIf_t]
  try simp [-Bool.exists_bool, -List.contains_eq_mem, List.lookup, fPut]
  refine wp_lc (fun pre acc S' => S' = S ∧ (acc.length : Int) = cnt (l.take pre.length) k ∧ acc.length ≤ pre.length) ⟨rfl, rfl, Nat.le_refl _⟩ ?_ ?_
  · rintro pre x post acc S1 ⟨rfl, h1, h2⟩ e
    have hp := (split_at e).2
    rw [List.length_map] at hp
    obtain ⟨c, rfl, ht, _⟩ := ints_at e
    refine ⟨by simp [LINE]; omega, ?_⟩
    by_cases hc : c ≤ k <;> simp [hc, ht, cnt_snoc] <;> omega
  · rintro acc S1 ⟨rfl, h1, h2⟩
    rw [List.length_map, List.take_length] at h1
    try simp [-Bool.exists_bool, -List.contains_eq_mem, List.lookup, fPut, h1]
    exact q
end
theorem sum_perm {l m : List Int} (h : l.Perm m) : l.sum = m.sum := by
  induction h with
  | nil => rfl
  | cons x _ ih => simp [ih]
  | swap x y l => simp; omega
  | trans _ _ a b => rw [a, b]
end IR

namespace IR
/-! ### a list begun -/
section
variable {T U S : Sto} {Q : Unit → Sto → Prop} {P : D → Sto → Prop}
theorem at_mid {x : MO} : (T ++ x :: U)[T.length]? = some x := by simp
theorem set_mid {x y : MO} : (T ++ x :: U).set T.length y = T ++ y :: U := by simp
theorem wp_setAttrM {c f : Nat} {fs : List (Nat × D)} {d : D} : wp (setAttrD d (.ref T.length) f) (T ++ .ins c fs :: U) Q ↔ fs.length < 900 ∧ Q () (T ++ .ins c (fPut fs f d) :: U) := by
  rw [wp_setAttr at_mid, set_mid]
theorem o_attrM {c f : Nat} {fs : List (Nat × D)} : wp (evOp (.attr f) [.ref T.length]) (T ++ .ins c fs :: U) P ↔ ∃ d, fs.lookup f = some d ∧ P d (T ++ .ins c fs :: U) := o_attr at_mid
theorem o_mulL {l : List D} {j : Int} : wp (evOp .mul [.tl l, .int j]) S P ↔ (j ≤ LINE ∧ -LINE ≤ j ∧ l.length * j.toNat ≤ LINE) ∧ P (.tl (List.replicate j.toNat l).flatten) S := by
  refine (wp_as (show evOp .mul [.tl l, .int j] S = val1 (mulD S (.tl l) (.int j)) S from rfl)).trans ?_
  rw [wp_val1]
  by_cases h : j ≤ LINE ∧ -LINE ≤ j ∧ l.length * j.toNat ≤ LINE
  · simp only [mulD, ownItems, h]; simp
  · simp only [mulD, ownItems, if_neg h]
    constructor
    · rintro ⟨d, h1, _⟩; cases h1
    · rintro ⟨h1, _⟩; exact absurd h1 h
end
theorem flat_rep {α : Type} {x : α} : ∀ n : Nat, (List.replicate n [x]).flatten = List.replicate n x
  | 0 => rfl
  | n + 1 => by rw [List.replicate_succ, List.flatten_cons, flat_rep n]; rfl
def LL.new (nm : Txt) (num : Int) (rule cuts : List Int) (m : Int) : LL := ⟨nm, num, rule, cuts, List.replicate (cuts.length + 1) (some m), List.replicate (cuts.length + 1) [], -1, none, false, false⟩
theorem ll_init {T : Sto} {n : Nat} {nm : Txt} {num m : Int} {rule cuts : List Int} {Q : D → Sto → Prop} (hc : cuts.length ≤ 1000)
    (q : Q .non (T ++ .ins 1 (llFs (T.length + 1) (T.length + 2 + (cuts.length + 1)) (.new nm num rule cuts m)) :: (.lst (List.replicate (cuts.length + 1) (.int m)) :: (List.replicate (cuts.length + 1) (MO.dT false []) ++ [.lst ((List.range (cuts.length + 1)).map fun (i : Nat) => .ref (T.length + 2 + i))])))) :
    wp (callD g0 (n + 1) 133 [.ref T.length, .str nm, .int num, .tup (rule.map .int), .tup (cuts.map .int), .int m]) (T ++ [.ins 1 []]) Q := by
  refine wp_call (d := fn133) rfl rfl ?_
  show wp (exs g0 (callD g0 _) fn133.body [some (.ref T.length), some (.str nm), some (.int num), some (.tup (rule.map .int)), some (.tup (cuts.map .int)), some (.int m), none]) _ _
  simp only [fn133, exs, ex, ev, evs, evIt, wp_bind, wp_getVar, wp_pure, ownIf_f, ownIf_t]
  try simp [-Bool.exists_bool, -List.contains_eq_mem, List.lookup, fPut, wp_setAttrM, o_attrM, o_mulL]
  refine ⟨by simp [LINE]; omega, ?_⟩
  generalize hN : cuts.length + 1 = N at *
  have hNl : N ≤ 1001 := by omega
  try simp [-Bool.exists_bool, -List.contains_eq_mem, List.lookup, fPut, wp_setAttrM, o_attrM]
  generalize hfs : [(7, D.str nm), (8, D.int num), (9, D.tup (rule.map .int)), (10, D.tup (cuts.map .int)), (11, D.ref (T.length + 1))] = fs at *
  have hm : (T ++ [MO.ins 1 fs, MO.lst (List.replicate N (.int m))])[T.length + 1]? = some (.lst (List.replicate N (.int m))) := by simp
  refine wp_lcRI (l := List.replicate N (.int m)) (fun i acc S' => S' = T ++ MO.ins 1 fs :: MO.lst (List.replicate N (.int m)) :: List.replicate i (MO.dT false []) ∧ acc = (List.range i).map fun (i : Nat) => D.ref (T.length + 2 + i)) ⟨rfl, rfl⟩ ?_ ?_ ?_
  · rintro i acc S' ⟨rfl, rfl⟩
    simp
  · rintro i d acc S' ⟨rfl, rfl⟩ hd
    have hi := lt_of_getL hd
    rw [List.length_replicate] at hi
    refine ⟨by simp [LINE]; omega, ?_⟩
    try simp [-Bool.exists_bool, -List.contains_eq_mem, List.lookup, fPut]
    refine ⟨?_, ?_⟩
    · rw [List.replicate_succ']
    · rw [List.range_succ, List.map_append]
      simp
      omega
  · rintro acc S' ⟨rfl, rfl⟩
    rw [List.length_replicate]
    try simp [-Bool.exists_bool, -List.contains_eq_mem, List.lookup, fPut]
    rw [← hfs]
    try simp [-Bool.exists_bool, -List.contains_eq_mem, List.lookup, fPut, wp_setAttrM]
    have e : T.length + (N + 1 + 1) = T.length + 2 + N := by omega
    rw [e]
    have e2 : (LL.new nm num rule cuts m) = ⟨nm, num, rule, cuts, List.replicate N (some m), List.replicate N [], -1, none, false, false⟩ := by rw [← hN]; rfl
    rw [e2] at q
    simpa [llFs, encM] using q
end IR

namespace IR
theorem wp_setKs {S : Sto} {r : Nat} {kvs : List (Ky × D)} {i : Txt} {d : D} {Q : Unit → Sto → Prop} (h : S[r]? = some (.dK false kvs)) : wp (setIxD d (.ref r) (.str i)) S Q ↔ kvs.length < LINE ∧ Q () (S.set r (.dK false (dPut kvs (.inr i) d))) := by
  rw [wp_fun (r := if kvs.length < LINE then .ok () (S.set r (.dK false (dPut kvs (.inr i) d))) else .bad) (by simp only [setIxD, h, D.ky])]
  by_cases hl : kvs.length < LINE <;> simp [hl, Res.wp]
def PS.begin (P : PS) (nm : Txt) (rule cuts : List Int) : PS := { P with ls := P.ls ++ [.new nm (P.begun + 1) rule cuts P.now], tab := P.tab ++ [(nm, P.ls.length)], begun := P.begun + 1 }
/-- where the new list's objects stand -/
def Lb (L : PR → Nat) (J a N : Nat) : PR → Nat
  | .ll j => if j = J then a else L (.ll j)
  | .mk j => if j = J then a + 1 else L (.mk j)
  | .en j => if j = J then a + 2 + N else L (.en j)
  | .ent j p => if j = J then a + 2 + p else L (.ent j p)
  | r => L r
theorem getJ {α : Type} {l : List α} {x : α} {j : Nat} : (l ++ [x])[j]? = if j = l.length then some x else l[j]? := by
  by_cases h : j = l.length
  · subst h; simp
  · rw [if_neg h]
    by_cases h2 : j < l.length
    · rw [List.getElem?_append_left h2]
    · rw [List.getElem?_eq_none (by simp; omega), List.getElem?_eq_none (by omega)]
section
variable {S S' : Sto} {L L' : PR → Nat} {P P' : PS} {n j : Nat} {l : LL} {nm : Txt} {Q : D → Sto → Prop}
theorem Rep.begun (h : Rep S L P) {rule cuts : List Int} (hf : P.tab.lookup nm = none) (ht : ∀ p ∈ P.tab, p.2 < P.ls.length) :
    Rep (((S.set (L .st) (stIns P.F (L .rt) (L .nr) (L .lt) P.now P.old (P.begun + 1))) ++ (MO.ins 1 (llFs (S.length + 1) (S.length + 2 + (cuts.length + 1)) (.new nm (P.begun + 1) rule cuts P.now)) :: (MO.lst (List.replicate (cuts.length + 1) (.int P.now)) :: (List.replicate (cuts.length + 1) (MO.dT false []) ++ [MO.lst ((List.range (cuts.length + 1)).map fun (i : Nat) => .ref (S.length + 2 + i))])))).set (L .lt) (.dK false (dPut (encTab L P.tab) (.inr nm) (.ref S.length)))) (Lb L P.ls.length S.length (cuts.length + 1)) (P.begin nm rule cuts)
    ∧ PStep S L P (((S.set (L .st) (stIns P.F (L .rt) (L .nr) (L .lt) P.now P.old (P.begun + 1))) ++ (MO.ins 1 (llFs (S.length + 1) (S.length + 2 + (cuts.length + 1)) (.new nm (P.begun + 1) rule cuts P.now)) :: (MO.lst (List.replicate (cuts.length + 1) (.int P.now)) :: (List.replicate (cuts.length + 1) (MO.dT false []) ++ [MO.lst ((List.range (cuts.length + 1)).map fun (i : Nat) => .ref (S.length + 2 + i))])))).set (L .lt) (.dK false (dPut (encTab L P.tab) (.inr nm) (.ref S.length)))) (Lb L P.ls.length S.length (cuts.length + 1)) (P.begin nm rule cuts) := by
  generalize hN : cuts.length + 1 = N
  generalize hJ : P.ls.length = J at ht ⊢
  generalize hnl : LL.new nm (P.begun + 1) rule cuts P.now = nl
  have hnm : nl.marks = List.replicate N (some P.now) := by rw [← hnl, ← hN]; rfl
  have hne : nl.ents = List.replicate N [] := by rw [← hnl, ← hN]; rfl
  have hP : P.begin nm rule cuts = { P with ls := P.ls ++ [nl], tab := P.tab ++ [(nm, J)], begun := P.begun + 1 } := by unfold PS.begin; rw [hJ, hnl]
  rw [hP]
  generalize hst : stIns P.F (L .rt) (L .nr) (L .lt) P.now P.old (P.begun + 1) = stx
  have htx : dPut (encTab L P.tab) (.inr nm) (.ref S.length) = encTab (Lb L J S.length N) (P.tab ++ [(nm, J)]) := by
    unfold dPut
    rw [dGet_tab, hf]
    unfold encTab
    rw [List.map_append]
    have e1 : P.tab.map (fun p => ((.inr p.1, .ref (Lb L J S.length N (.ll p.2))) : Ky × D)) = P.tab.map fun p => (.inr p.1, .ref (L (.ll p.2))) := by
      refine List.map_congr_left fun p hp => ?_
      have := ht p hp
      simp only [Lb, if_neg (show p.2 ≠ J by omega)]
    rw [e1]
    simp [Lb]
  rw [htx]
  generalize hltx : MO.dK false (encTab (Lb L J S.length N) (P.tab ++ [(nm, J)])) = ltx
  generalize hins : MO.ins 1 (llFs (S.length + 1) (S.length + 2 + N) nl) = x0
  generalize hx1 : MO.lst (List.replicate N (.int P.now)) = x1
  generalize hx2 : MO.lst ((List.range N).map fun (i : Nat) => .ref (S.length + 2 + i)) = x2
  have i0 := h.lt (r := .st) rfl
  have i1 := h.lt (r := .lt) rfl
  have ne : L .st ≠ L .lt := fun z => by have := h.inj .st .lt rfl rfl z; cases this
  -- what stands
  have old : ∀ (r : PR) (x : MO), r ≠ .st → r ≠ .lt → pobj L P r = some x → ((S.set (L .st) stx ++ (x0 :: (x1 :: (List.replicate N (MO.dT false []) ++ [x2])))).set (L .lt) ltx)[L r]? = some x := fun r x h1 h2 e => by
    have hr := h.at_ r x e
    have hl := lt_of_get hr
    rw [List.getElem?_set_ne (fun z => h2 (h.inj _ _ (by rw [e]; rfl) rfl z.symm)), List.getElem?_append_left (by simpa using hl), List.getElem?_set_ne (fun z => h1 (h.inj _ _ (by rw [e]; rfl) rfl z.symm))]
    exact hr
  have news : ∀ (i : Nat) (x : MO), (x0 :: (x1 :: (List.replicate N (MO.dT false []) ++ [x2])))[i]? = some x → ((S.set (L .st) stx ++ (x0 :: (x1 :: (List.replicate N (MO.dT false []) ++ [x2])))).set (L .lt) ltx)[S.length + i]? = some x := fun i x e => by
    rw [List.getElem?_set_ne (by omega), List.getElem?_append_right (by simp)]
    simpa using e
  have sm : ∀ (j : Nat), j ≠ J → ((P.ls ++ [nl])[j]?) = P.ls[j]? := fun j hj => by rw [getJ, if_neg (by omega)]
  have sJ : (P.ls ++ [nl])[J]? = some nl := by rw [getJ, if_pos hJ.symm]
  have lJ : P.ls[J]? = none := List.getElem?_eq_none (by omega)
  -- which roles are live
  have lv : ∀ r, (pobj (Lb L J S.length N) { P with ls := P.ls ++ [nl], tab := P.tab ++ [(nm, J)], begun := P.begun + 1 } r).isSome = true → ((pobj L P r).isSome = true ∧ Lb L J S.length N r = L r) ∨ (S.length ≤ Lb L J S.length N r ∧ (r = .ll J ∨ r = .mk J ∨ r = .en J ∨ ∃ p, p < N ∧ r = .ent J p)) := fun r hr => by
    cases r with
    | ll j =>
      by_cases e : j = J
      · subst e; exact .inr ⟨by simp [Lb], .inl rfl⟩
      · refine .inl ⟨?_, by simp [Lb, e]⟩
        simpa [pobj, sm j e] using hr
    | mk j =>
      by_cases e : j = J
      · subst e; exact .inr ⟨by simp [Lb], .inr (.inl rfl)⟩
      · refine .inl ⟨?_, by simp [Lb, e]⟩
        simpa [pobj, sm j e] using hr
    | en j =>
      by_cases e : j = J
      · subst e; exact .inr ⟨by simp [Lb]; omega, .inr (.inr (.inl rfl))⟩
      · refine .inl ⟨?_, by simp [Lb, e]⟩
        simpa [pobj, sm j e] using hr
    | ent j p =>
      by_cases e : j = J
      · subst e
        refine .inr ⟨by simp [Lb]; omega, .inr (.inr (.inr ⟨p, ?_, rfl⟩))⟩
        simp only [pobj, sJ, Option.bind_some, hne] at hr
        by_cases hp : p < N
        · exact hp
        · rw [List.getElem?_eq_none (by simp; omega)] at hr; cases hr
      · refine .inl ⟨?_, by simp [Lb, e]⟩
        simpa [pobj, sm j e] using hr
    | st => exact .inl ⟨rfl, rfl⟩
    | rt => exact .inl ⟨rfl, rfl⟩
    | nr => exact .inl ⟨rfl, rfl⟩
    | lt => exact .inl ⟨rfl, rfl⟩
  refine ⟨⟨fun r x hx => ?_, fun a b ha hb e => ?_⟩, ⟨by simp, fun r f hr => ?_, fun r hr => ?_, fun a x ho hx => ?_⟩⟩
  · cases r with
    | st =>
      cases hx
      show (_ : Sto)[L .st]? = _
      rw [List.getElem?_set_ne (Ne.symm ne), List.getElem?_append_left (by simpa using i0), List.getElem?_set_self i0, ← hst]
      rfl
    | lt =>
      cases hx
      show (_ : Sto)[L .lt]? = _
      rw [List.getElem?_set_self (by simp; omega), ← hltx]
    | rt => cases hx; exact old .rt _ (by simp) (by simp) rfl
    | nr => cases hx; exact old .nr _ (by simp) (by simp) rfl
    | ll j =>
      by_cases e : j = J
      · subst e
        simp only [pobj, sJ, Option.map_some, Option.some.injEq] at hx
        simp only [Lb, if_pos]
        subst hx
        refine news 0 _ ?_
        rw [← hins]; simp [Lb]
      · simp only [Lb, if_neg e]
        refine old (.ll j) x (by simp) (by simp) ?_
        rw [← hx]
        simp [pobj, sm j e, Lb, e]
    | mk j =>
      by_cases e : j = J
      · subst e
        simp only [pobj, sJ, Option.map_some, Option.some.injEq] at hx
        simp only [Lb, if_pos]
        subst hx
        refine news 1 _ ?_
        rw [← hx1, hnm]; simp [encM]
      · simp only [Lb, if_neg e]
        refine old (.mk j) x (by simp) (by simp) ?_
        rw [← hx]
        simp [pobj, sm j e]
    | en j =>
      by_cases e : j = J
      · subst e
        simp only [pobj, sJ, Option.map_some, Option.some.injEq] at hx
        simp only [Lb, if_pos]
        subst hx
        rw [show S.length + 2 + N = S.length + (2 + N) by omega]
        refine news (2 + N) _ ?_
        rw [← hx2, hne]
        rw [show 2 + N = N + 1 + 1 by omega, List.getElem?_cons_succ, List.getElem?_cons_succ, List.getElem?_append_right (by simp)]
        simp [encEn, Lb]
      · simp only [Lb, if_neg e]
        refine old (.en j) x (by simp) (by simp) ?_
        rw [← hx]
        simp [pobj, sm j e, encEn, Lb, e]
    | ent j p =>
      by_cases e : j = J
      · subst e
        simp only [pobj, sJ, Option.bind_some, hne] at hx
        simp only [Lb, if_pos]
        by_cases hp : p < N
        · rw [List.getElem?_replicate, if_pos hp] at hx
          cases hx
          rw [show S.length + 2 + p = S.length + (2 + p) by omega]
          refine news (2 + p) _ ?_
          rw [show 2 + p = p + 1 + 1 by omega, List.getElem?_cons_succ, List.getElem?_cons_succ, List.getElem?_append_left (by simpa using hp), List.getElem?_replicate, if_pos hp]
          rfl
        · rw [List.getElem?_eq_none (by simp; omega)] at hx; cases hx
      · simp only [Lb, if_neg e]
        refine old (.ent j p) x (by simp) (by simp) ?_
        rw [← hx]
        simp [pobj, sm j e]
  · rcases lv a ha with ⟨a1, a2⟩ | ⟨a1, a2⟩ <;> rcases lv b hb with ⟨b1, b2⟩ | ⟨b1, b2⟩
    · rw [a2, b2] at e; exact h.inj _ _ a1 b1 e
    · have := h.lt a1; rw [a2] at e; omega
    · have := h.lt b1; rw [b2] at e; omega
    · rcases a2 with rfl | rfl | rfl | ⟨p, hp, rfl⟩ <;> rcases b2 with rfl | rfl | rfl | ⟨q, hq, rfl⟩ <;> simp only [Lb, if_pos] at e <;> first | rfl | (have : p = q := by omega); subst this; rfl | omega
  · cases r with
    | ll j => simp only [Lb]; rw [if_neg]; intro z; subst z; simp [pobj, lJ] at hr
    | mk j => simp only [Lb]; rw [if_neg]; intro z; subst z; simp [pobj, lJ] at hr
    | en j => simp only [Lb]; rw [if_neg]; intro z; subst z; simp [pobj, lJ] at hr
    | ent j p => cases f
    | nr => cases f
    | _ => rfl
  · rcases lv r hr with ⟨h1, h2⟩ | ⟨h1, _⟩
    · exact .inl ⟨h1, h2⟩
    · exact .inr h1
  · have hl := lt_of_get hx
    rw [List.getElem?_set_ne (ho .lt rfl), List.getElem?_append_left (by simpa using hl), List.getElem?_set_ne (ho .st rfl)]
    exact hx
theorem Rep.begin_list (h : Rep S L P) {rule cuts : List Int} (hc : cuts.length ≤ 1000) (hf : P.tab.lookup nm = none) (ht : ∀ p ∈ P.tab, p.2 < P.ls.length) (hl : P.tab.length < 1000)
    (q : ∀ S', Rep S' (Lb L P.ls.length S.length (cuts.length + 1)) (P.begin nm rule cuts) → PStep S L P S' (Lb L P.ls.length S.length (cuts.length + 1)) (P.begin nm rule cuts) → Q (.int (P.begun + 1)) S') : wp (callD g0 (n + 2) 165 [.ref (L .st), .str nm, .tup (rule.map .int), .tup (cuts.map .int)]) S Q := by
  obtain ⟨r1, r2⟩ := h.begun (rule := rule) (cuts := cuts) hf ht
  have e1 : inD S (.str nm) (.ref (L .lt)) = some false := by rw [inD_dKs h.lt_, dGet_tab, hf]; rfl
  have i0 := h.lt (r := .st) rfl
  have i1 := h.lt (r := .lt) rfl
  have ne : L .st ≠ L .lt := fun z => by have := h.inj .st .lt rfl rfl z; cases this
  refine wp_call (d := fn165) rfl rfl ?_
  show wp (exs g0 (callD g0 _) fn165.body [some (.ref (L .st)), some (.str nm), some (.tup (rule.map .int)), some (.tup (cuts.map .int))]) _ _
  simp only [fn165, exs, ex, ev, evs, evIt, wp_bind, wp_getVar, wp_pure, ownIf_f, ownIf_t]
  try simp [-Bool.exists_bool, -List.contains_eq_mem, List.lookup, fPut, o_attr h.st, e1, wp_getAttr h.st, wp_setAttr h.st]
  generalize hS1 : S.set (L .st) (MO.ins 0 [(0, D.int P.F), (1, D.ref (L .rt)), (2, D.ref (L .nr)), (3, D.int P.now), (4, D.int P.old), (5, D.ref (L .lt)), (6, D.int (P.begun + 1))]) = S1
  have hst : S1[L .st]? = some (.ins 0 [(0, D.int P.F), (1, D.ref (L .rt)), (2, D.ref (L .nr)), (3, D.int P.now), (4, D.int P.old), (5, D.ref (L .lt)), (6, D.int (P.begun + 1))]) := by rw [← hS1, List.getElem?_set_self i0]
  have hl1 : S1.length = S.length := by rw [← hS1]; simp
  try simp [-Bool.exists_bool, -List.contains_eq_mem, List.lookup, fPut, o_attr hst, wp_methM hst]
  refine ⟨77, rfl, now_ok (R := P.R) (ns := P.ns) (rt := L .rt) (nr := L .nr) (lt := L .lt) (F := P.F) (old := P.old) (begun := P.begun + 1) ⟨hst, ?_, ?_⟩ ?_⟩
  · rw [← hS1, List.getElem?_set_ne (fun z => by have := h.inj .st .rt rfl rfl z; cases this)]; exact h.at_ .rt _ rfl
  · rw [← hS1, List.getElem?_set_ne (fun z => by have := h.inj .st .nr rfl rfl z; cases this)]; exact h.at_ .nr _ rfl
  try simp [-Bool.exists_bool, -List.contains_eq_mem, List.lookup, fPut]
  rw [wp_runNew (cl := ⟨133, _⟩) rfl]
  refine ll_init hc ?_
  rw [hl1]
  generalize hU : (MO.ins 1 (llFs (S.length + 1) (S.length + 2 + (cuts.length + 1)) (LL.new nm (P.begun + 1) rule cuts P.now)) :: MO.lst (List.replicate (cuts.length + 1) (D.int P.now)) :: (List.replicate (cuts.length + 1) (MO.dT false []) ++ [MO.lst ((List.range (cuts.length + 1)).map fun (i : Nat) => D.ref (S.length + 2 + i))])) = U at r1 r2 ⊢
  have hst2 := get_app hst U
  have hlt2 : (S1 ++ U)[L .lt]? = some (.dK false (encTab L P.tab)) := by rw [← hS1]; refine get_app ?_ _; rw [List.getElem?_set_ne ne]; exact h.lt_
  try simp [-Bool.exists_bool, -List.contains_eq_mem, List.lookup, fPut, o_attr hst2, wp_setKs hlt2]
  refine ⟨by simp [encTab, LINE]; omega, ?_⟩
  have hst3 : ((S1 ++ U).set (L .lt) (MO.dK false (dPut (encTab L P.tab) (.inr nm) (D.ref S.length))))[L .st]? = (S1 ++ U)[L .st]? := List.getElem?_set_ne (Ne.symm ne)
  rw [hst2] at hst3
  rw [show S.set (L .st) (stIns P.F (L .rt) (L .nr) (L .lt) P.now P.old (P.begun + 1)) = S1 from hS1] at r1 r2
  try simp [-Bool.exists_bool, -List.contains_eq_mem, List.lookup, fPut, o_attr hst3]
  exact q _ r1 r2
end
end IR

namespace IR
section
variable {S S' : Sto} {L L' : PR → Nat} {P P' : PS} {n j : Nat} {l : LL} {nm : Txt} {Q : D → Sto → Prop}
theorem Rep.is_ready (h : Rep S L P) (ht : P.tab.lookup nm = some j) (hj : P.ls[j]? = some l) (q : Q (.bl l.ready) S) : wp (callD g0 (n + 2) 169 [.ref (L .st), .str nm]) S Q := by
  refine wp_call (d := fn169) rfl rfl ?_
  show wp (exs g0 (callD g0 _) fn169.body [some (.ref (L .st)), some (.str nm)]) _ _
  simp only [fn169, exs, ex, ev, evs, evIt, wp_bind, wp_getVar, wp_pure, ownIf_f, ownIf_t]
  try simp [-Bool.exists_bool, -List.contains_eq_mem, List.lookup, fPut]
  refine h.list_of ht ?_
  try simp [-Bool.exists_bool, -List.contains_eq_mem, List.lookup, fPut, o_attr (h.ll hj)]
  exact q
theorem Sub.rep (s : Sub S S') (h : Rep S L P) : Rep S' L P := Holds.sub h s
/-- the marks told -/
def PS.told (P : PS) (l : LL) : List (Option Int) := l.marks.map P.tells
theorem Rep.marks (h : Rep S L P) (ht : P.tab.lookup nm = some j) (hj : P.ls[j]? = some l) (hm : l.marks.length ≤ 1000) (q : ∀ S', Sub S S' → Q (.tup ((P.told l).map encM)) S') : wp (callD g0 (n + 3) 173 [.ref (L .st), .str nm]) S Q := by
  refine wp_call (d := fn173) rfl rfl ?_
  show wp (exs g0 (callD g0 _) fn173.body [some (.ref (L .st)), some (.str nm), none, none, none, none]) _ _
  simp only [fn173, exs, ex, ev, evs, evIt, wp_bind, wp_getVar, wp_pure, ownIf_f, ownIf_t]
  try simp [-Bool.exists_bool, -List.contains_eq_mem, List.lookup, fPut]
  refine h.list_of ht ?_
  try simp [-Bool.exists_bool, -List.contains_eq_mem, List.lookup, fPut]
  have h1 := (Sub.app (T := [MO.lst []])).rep h
  have g1 : (S ++ [MO.lst []])[S.length]? = some (.lst []) := get_new
  have s1 : Sub S (S ++ [MO.lst []]) := .app
  try simp [-Bool.exists_bool, -List.contains_eq_mem, List.lookup, fPut, o_attr (h1.ll hj), wp_enumR (h1.mk hj)]
  refine wp_forR (l := l.marks.map encM) (fun i ρ S' => ∃ x4 x5, ρ = [some (.ref (L .st)), some (.str nm), some (.ref (L (.ll j))), some (.ref S.length), x4, x5] ∧ S'[S.length]? = some (.lst ((l.marks.take i).map (fun m => encM (P.tells m)))) ∧ Sub S S') ⟨_, _, rfl, g1, s1⟩ ?_ ?_ ?_
  · rintro i ρ S' ⟨x4, x5, rfl, g, s⟩
    exact (s.rep h).mk hj
  · rintro i d ρ S2 ⟨x4, x5, rfl, g, s⟩ hd
    have h2 := s.rep h
    rw [List.getElem?_map] at hd
    obtain ⟨m, hm1, rfl⟩ := Option.map_eq_some_iff.mp hd
    have hi := lt_of_getL hm1
    have hL := lt_of_get g
    try simp [-Bool.exists_bool, -List.contains_eq_mem, List.lookup, fPut, own_encM]
    refine h2.stands hj hm1 ?_
    have fin : ∀ d : D, d = encM (P.tells m) → ((l.marks.take i).map (fun m => encM (P.tells m))) ++ [d] = (l.marks.take (i + 1)).map (fun m => encM (P.tells m)) := fun d e => by
      rw [List.take_succ, hm1, e]; simp
    have ff : ∀ d : D, d = encM (P.tells m) → (S2.set S.length (.lst ((l.marks.take i).map (fun m => encM (P.tells m)) ++ [d])))[S.length]? = some (.lst ((l.marks.take (i + 1)).map (fun m => encM (P.tells m)))) ∧ Sub S (S2.set S.length (.lst ((l.marks.take i).map (fun m => encM (P.tells m)) ++ [d]))) := fun d e => ⟨by rw [List.getElem?_set_self hL, fin d e], s.setN (Nat.le_refl _)⟩
    cases ht2 : P.tells m with
    | none =>
      try simp [-Bool.exists_bool, -List.contains_eq_mem, List.lookup, fPut, wp_recvL g, o_append g]
      refine ⟨by simp [LINE]; omega, ?_⟩
      exact ⟨by rw [List.getElem?_set_self hL, ← List.map_take, fin .non (by rw [ht2]; rfl), List.map_take], s.setN (Nat.le_refl _)⟩
    | some k =>
      have em : encM m = encM (P.tells m) := by
        unfold PS.tells at ht2 ⊢
        cases m with
        | none => cases ht2
        | some i => obtain ⟨a, b⟩ := Option.filter_eq_some_iff.mp ht2; rw [ht2, a]
      try simp [-Bool.exists_bool, -List.contains_eq_mem, List.lookup, fPut, wp_recvL g, o_append g, own_encM]
      refine ⟨by simp [LINE]; omega, ?_⟩
      exact ⟨by rw [List.getElem?_set_self hL, ← List.map_take, fin (encM m) em, List.map_take], s.setN (Nat.le_refl _)⟩
  · rintro ρ S2 ⟨x4, x5, rfl, g, s⟩
    rw [List.length_map, List.take_length] at g
    try simp [-Bool.exists_bool, -List.contains_eq_mem, List.lookup, fPut, g]
    have := q S2 s
    unfold PS.told at this
    rw [List.map_map] at this
    exact this
/-! ### entries made of rows -/
def entOf (rule cuts : List Int) (p : Nat) (q : Int × Row) : Option Ent := if cnt cuts (key q.2 rule) = p then some (key q.2 rule, q.1) else none
def entsOf (rule cuts : List Int) (p : Nat) (R : Tab) : List Ent := R.filterMap (entOf rule cuts p)
def partDue (rule cuts : List Int) (R : Tab) (p : Nat) : List Ent := sortBy leP (entsOf rule cuts p R)
def encPart (e : List Ent) : D := .tup (e.map prD)
def madeDue (rule cuts : List Int) (R : Tab) : D := .tup ((List.range (cuts.length + 1)).map fun p => encPart (partDue rule cuts R p))
theorem leP_tot (a b : Ent) : leP a b = true ∨ leP b a = true := by
  unfold leP; simp only [decide_eq_true_eq]; omega
theorem leP_tr (a b c : Ent) (h1 : leP a b = true) (h2 : leP b c = true) : leP a c = true := by
  unfold leP at *; simp only [decide_eq_true_eq] at *; omega
theorem leP_anti (a b : Ent) (h1 : leP a b = true) (h2 : leP b a = true) : a = b := by
  unfold leP at *; simp only [decide_eq_true_eq] at *
  apply Prod.ext <;> omega
theorem sortP_perm {l m : List Ent} (h : l.Perm m) : sortBy leP l = sortBy leP m :=
  List.Perm.eq_of_pairwise (le := fun a b : Ent => leP a b = true) (fun a b _ _ h1 h2 => leP_anti a b h1 h2) (sortBy_sorted' leP_tot leP_tr) (sortBy_sorted' leP_tot leP_tr) ((sortBy_perm'.trans h).trans sortBy_perm'.symm)
theorem partDue_perm {R T : Tab} {rule cuts : List Int} {p : Nat} (h : R.Perm T) : partDue rule cuts R p = partDue rule cuts T p := sortP_perm (h.filterMap _)
theorem srtPr {e : List Ent} : srtL (e.map prD) = some ((sortBy leP e).map prD) := by
  cases e with
  | nil => rfl
  | cons p r =>
    unfold srtL
    have e1 : ((p :: r).map prD).mapM D.isInt = none := by rw [List.map_cons, List.mapM_cons]; rfl
    have e2 : ((p :: r).map prD).mapM D.isPr = some (p :: r) := by
      have := mapM_map (f := D.isPr) (g := prD) (h := fun p : Int × Int => p) (fun p => rfl) (l := p :: r)
      rw [this]; simp
    rw [e1, e2]
theorem cnt_nat {l : List Int} {k : Int} : ∃ p : Nat, cnt l k = p ∧ p < l.length + 1 := by
  have h1 := cnt_nn (l := l) (k := k)
  have h2 := cnt_le (l := l) (k := k)
  exact ⟨(cnt l k).toNat, by omega, by omega⟩
/-- rows that fit -/
def FitsF (F : Int) (R : Tab) : Prop := ∀ p ∈ R, (p.2.length : Int) = F
def RuleF (F : Int) (rule : List Int) : Prop := rule.length ≤ 1000 ∧ ∀ i ∈ rule, 0 ≤ i ∧ i < F
theorem RuleF.inrow {F : Int} {rule : List Int} {row : List Int} (h : RuleF F rule) (e : (row.length : Int) = F) : InRow row rule := fun i hi => by have := h.2 i hi; omega
/-- lists laid one by one -/
def stk (es : List (List Ent)) : List MO := es.map fun e => .lst (e.map prD)
theorem entsOf_snoc {rule cuts : List Int} {p : Nat} {R : Tab} {q : Int × Row} : entsOf rule cuts p (R ++ [q]) = if cnt cuts (key q.2 rule) = p then entsOf rule cuts p R ++ [(key q.2 rule, q.1)] else entsOf rule cuts p R := by
  unfold entsOf
  rw [List.filterMap_append]
  unfold entOf
  by_cases e : cnt cuts (key q.2 rule) = p <;> simp [e]
theorem entsOf_len {rule cuts : List Int} {p : Nat} {R : Tab} : (entsOf rule cuts p R).length ≤ R.length := List.length_filterMap_le _ _
theorem of_map {α : Type} {f : α → D} {l : List α} {pre post : List D} {x : D} (e : pre ++ x :: post = l.map f) : (∃ a, l[pre.length]? = some a ∧ x = f a) ∧ pre.length < l.length := by
  obtain ⟨h1, h2⟩ := split_at e
  rw [List.getElem?_map] at h1
  obtain ⟨a, ha, rfl⟩ := Option.map_eq_some_iff.mp h1
  exact ⟨⟨a, ha, rfl⟩, by simpa using h2⟩
theorem o_sortedR {S : Sto} {P : D → Sto → Prop} {r : Nat} {l : List D} (h : S[r]? = some (.lst l)) : wp (evOp .sorted [.ref r]) S P ↔ ∃ m, srtL l = some m ∧ P (.tl m) S := by
  rw [wp_as (m' := val1 ((srtL l).map .tl)) (by
    show (match S[r]? with
      | some (.lst l) => val1 ((srtL l).map .tl) S
      | some (.dK _ kvs) => val1 ((srtK (kvs.map (fun (p : Ky × D) => p.1))).map .tl) S
      | _ => Res.bad) = _
    rw [h]), wp_val1]
  cases srtL l <;> simp
theorem stk_get {A : List (List Ent)} {B : List MO} {S : Sto} {p : Nat} {e : List Ent} (h : A[p]? = some e) : (S ++ (stk A ++ B))[S.length + p]? = some (.lst (e.map prD)) := by
  rw [List.getElem?_append_right (by omega), Nat.add_sub_cancel_left, List.getElem?_append_left (by simpa [stk] using lt_of_getL h)]
  simp [stk, h]
theorem stk_set {A : List (List Ent)} {B : List MO} {S : Sto} {p : Nat} {e : List Ent} (h : p < A.length) : (S ++ (stk A ++ B)).set (S.length + p) (.lst (e.map prD)) = S ++ (stk (A.set p e) ++ B) := by
  rw [List.set_append_right _ _ (by omega), Nat.add_sub_cancel_left, List.set_append_left _ _ (by simpa [stk] using h)]
  unfold stk
  rw [← List.map_set]
theorem stk_set' {A : List (List Ent)} {B : List MO} {p : Nat} {e : List Ent} (h : p < A.length) : (stk A ++ B).set p (.lst (e.map prD)) = stk (A.set p e) ++ B := by
  rw [List.set_append_left _ _ (by simpa [stk] using h)]
  unfold stk
  rw [← List.map_set]
theorem range_set {α : Type} {N p : Nat} {f g : Nat → α} {x : α} (h : ∀ i, i < N → g i = if i = p then x else f i) : ((List.range N).map f).set p x = (List.range N).map g := by
  apply List.ext_getElem?
  intro i
  rw [List.getElem?_set, List.getElem?_map, List.getElem?_map]
  by_cases hi : i < N
  · rw [List.getElem?_range hi, Option.map_some, Option.map_some, h i hi]
    by_cases e : p = i
    · subst e; simp [hi]
    · simp [e, Ne.symm e]
  · rw [List.getElem?_eq_none (by simp; omega)]
    simp
    omega
theorem Rep.made (h : Rep S L P) {rule cuts : List Int} (hc : cuts.length < 1000) (hR : P.R.length < 64) (hf : FitsF P.F P.R) (hr : RuleF P.F rule) (q : ∀ S', Sub S S' → Q (madeDue rule cuts P.R) S') : wp (callD g0 (n + 2) 249 [.ref (L .st), .tup (rule.map .int), .tup (cuts.map .int)]) S Q := by
  refine wp_call (d := fn249) rfl rfl ?_
  show wp (exs g0 (callD g0 _) fn249.body [some (.ref (L .st)), some (.tup (rule.map .int)), some (.tup (cuts.map .int)), none, none, none, none, none, none]) _ _
  simp only [fn249, exs, ex, ev, evs, evIt, wp_bind, wp_getVar, wp_pure, ownIf_f, ownIf_t]
  try simp [-Bool.exists_bool, -List.contains_eq_mem, List.lookup, fPut]
  refine ⟨by simp [rgOk, LINE]; omega, ?_⟩
  have ers : rg 0 ((cuts.length : Int) + 1) = (List.range (cuts.length + 1)).map fun (i : Nat) => D.int i := by
    have := rg_nat (n := cuts.length + 1)
    simpa using this
  generalize hN : cuts.length + 1 = N at ers
  rw [ers]
  refine wp_lc (fun pre acc S' => S' = S ++ List.replicate pre.length (MO.lst []) ∧ acc = (List.range pre.length).map fun (i : Nat) => D.ref (S.length + i)) ⟨by simp, rfl⟩ ?_ ?_
  · rintro pre x post acc S1 ⟨rfl, rfl⟩ e
    have hp := (split_at e).2
    rw [List.length_map, List.length_range] at hp
    refine ⟨by simp [LINE]; omega, ?_⟩
    try simp [-Bool.exists_bool, -List.contains_eq_mem, List.lookup, fPut]
    refine ⟨by rw [List.replicate_succ'], by rw [List.range_succ]; simp⟩
  · rintro acc S1 ⟨rfl, rfl⟩
    rw [List.length_map, List.length_range]
    try simp [-Bool.exists_bool, -List.contains_eq_mem, List.lookup, fPut]
    generalize hrefs : ((List.range N).map fun (i : Nat) => D.ref (S.length + i)) = refs
    have s0 : Sub S (S ++ (List.replicate N (MO.lst []) ++ [MO.lst refs])) := .app
    have h0 := s0.rep h
    try simp [-Bool.exists_bool, -List.contains_eq_mem, List.lookup, fPut, wp_methM h0.st]
    refine ⟨81, rfl, h0.rows hR ?_⟩
    unfold encT
    try simp [-Bool.exists_bool, -List.contains_eq_mem, List.lookup, fPut]
    have sl : (srt P.R).length = P.R.length := by simp [srt, sortBy_len]
    refine wp_for (fun pre ρ S' => (∃ x5 x6 x7 x8, ρ = [some (.ref (L .st)), some (.tup (rule.map .int)), some (.tup (cuts.map .int)), some (.ref (S.length + N)), x5, x6, x7, x8, none] ) ∧ S' = S ++ (stk ((List.range N).map fun p => entsOf rule cuts p ((srt P.R).take pre.length)) ++ [MO.lst refs])) ?_ ?_ ?_
    · refine ⟨⟨_, _, _, _, rfl⟩, ?_⟩
      congr 2
      unfold stk
      rw [List.map_map]
      simp [entsOf, Function.comp_def, List.map_const']
    · rintro pre x post ρ S1 ⟨⟨x5, x6, x7, x8, rfl⟩, rfl⟩ e
      obtain ⟨⟨a, ha, rfl⟩, hp⟩ := of_map e
      have hm : a ∈ P.R := sortBy_mem.mp (List.mem_of_getElem? ha)
      obtain ⟨p, hp1, hp2⟩ := cnt_nat (l := cuts) (k := key a.2 rule)
      rw [hN] at hp2
      have hrf : (S ++ (stk ((List.range N).map fun p => entsOf rule cuts p ((srt P.R).take pre.length)) ++ [MO.lst refs]))[S.length + N]? = some (.lst refs) := by
        rw [List.getElem?_append_right (by omega), Nat.add_sub_cancel_left, List.getElem?_append_right (by simp [stk])]
        simp [stk]
      have hat : atD refs (p : Int) = some (.ref (S.length + p)) := by
        obtain ⟨d, h1, h2⟩ := atD_lt (l := refs) (i := (p : Int)) (by omega) (by rw [← hrefs]; simp; omega)
        rw [h1]
        rw [← hrefs] at h2
        simp [List.getElem?_range hp2] at h2
        rw [h2]
      have hg := stk_get (S := S) (B := [MO.lst refs]) (A := (List.range N).map fun p => entsOf rule cuts p ((srt P.R).take pre.length)) (p := p) (e := entsOf rule cuts p ((srt P.R).take pre.length)) (by simp [List.getElem?_range hp2])
      try simp [-Bool.exists_bool, -List.contains_eq_mem, List.lookup, fPut, encE, encR]
      refine key_ok hr.1 (hr.inrow (hf a hm)) ?_
      try simp [-Bool.exists_bool, -List.contains_eq_mem, List.lookup, fPut]
      refine part_ok hc ?_
      rw [hp1]
      try simp [-Bool.exists_bool, -List.contains_eq_mem, List.lookup, fPut, ixD_ref hrf, hat, wp_recvL hg, o_append hg]
      have el := entsOf_len (rule := rule) (cuts := cuts) (p := p) (R := (srt P.R).take pre.length)
      refine ⟨by simp at el; simp [LINE]; omega, ?_⟩
      have e1 : (entsOf rule cuts p ((srt P.R).take pre.length)).map prD ++ [D.tup [.int (key a.2 rule), .int a.1]] = (entsOf rule cuts p ((srt P.R).take pre.length) ++ [(key a.2 rule, a.1)]).map prD := by rw [List.map_append]; rfl
      rw [e1, stk_set' (by simpa using hp2), List.take_succ, ha]
      congr 2
      refine range_set fun i hi => ?_
      rw [show (some a).toList = [a] from rfl, entsOf_snoc, hp1]
      by_cases ei : i = p
      · subst ei; simp
      · rw [if_neg (by omega), if_neg ei]
    · rintro ρ S1 ⟨⟨x5, x6, x7, x8, rfl⟩, rfl⟩
      rw [List.length_map, List.take_length]
      have hrf : (S ++ (stk ((List.range N).map fun p => entsOf rule cuts p (srt P.R)) ++ [MO.lst refs]))[S.length + N]? = some (.lst refs) := by
        rw [List.getElem?_append_right (by omega), Nat.add_sub_cancel_left, List.getElem?_append_right (by simp [stk])]
        simp [stk]
      try simp [-Bool.exists_bool, -List.contains_eq_mem, List.lookup, fPut, hrf]
      refine wp_lcRM (fun d => match d with | .ref r => encPart (partDue rule cuts P.R (r - S.length)) | _ => .non) hrf (by rw [← hrefs]; simp [LINE]; omega) (fun x hx Q' q' => ?_) ?_
      · rw [← hrefs] at hx
        obtain ⟨p, hp, rfl⟩ := List.mem_map.mp hx
        have hp := List.mem_range.mp hp
        have hg := stk_get (S := S) (B := [MO.lst refs]) (A := (List.range N).map fun p => entsOf rule cuts p (srt P.R)) (p := p) (e := entsOf rule cuts p (srt P.R)) (by simp [List.getElem?_range hp])
        try simp [-Bool.exists_bool, -List.contains_eq_mem, List.lookup, fPut, o_sortedR hg, srtPr]
        simp only [Nat.add_sub_cancel_left] at q'
        rw [partDue_perm (sortBy_perm' (le := fun p q : Int × Row => decide (p.1 ≤ q.1)) (l := P.R)).symm] at q'
        exact q'
      · rw [← hrefs, List.map_map]
        have e1 : ((fun d => match d with | .ref r => encPart (partDue rule cuts P.R (r - S.length)) | _ => .non) ∘ fun (i : Nat) => D.ref (S.length + i)) = fun p => encPart (partDue rule cuts P.R p) := by
          funext p
          simp
        rw [e1, ← hN]
        exact q _ .app
end
end IR

namespace IR
/-! ### data that hold no objects -/
inductive Da : Nat → D → Prop
  | non {k : Nat} : Da (k + 1) .non
  | bl {k : Nat} (b : Bool) : Da (k + 1) (.bl b)
  | int {k : Nat} (i : Int) : Da (k + 1) (.int i)
  | str {k : Nat} (s : Txt) (h : s.all (fun c => decide (c < 1114112)) = true) : Da (k + 1) (.str s)
  | tup {k : Nat} (l : List D) (h : ∀ d ∈ l, Da k d) : Da (k + 1) (.tup l)
mutual
theorem P.eqv_refl : ∀ p : P, p.eqv p = true
  | .non => rfl
  | .bl b => by simp [P.eqv]
  | .int i => by simp [P.eqv]
  | .str s => by simp [P.eqv]
  | .lst l => by simp only [P.eqv]; exact P.eqvs_refl l
  | .tup l => by simp only [P.eqv]; exact P.eqvs_refl l
theorem P.eqvs_refl : ∀ l : List P, P.eqvs l l = true
  | [] => rfl
  | p :: r => by simp only [P.eqvs, P.eqv_refl p, P.eqvs_refl r]; rfl
end
theorem mapM_some {α β : Type} {f : α → Option β} : ∀ {l : List α}, (∀ x ∈ l, ∃ y, f x = some y) → ∃ m, l.mapM f = some m
  | [], _ => ⟨[], rfl⟩
  | x :: r, h => by
    obtain ⟨y, hy⟩ := h x (by simp)
    obtain ⟨m, hm⟩ := mapM_some (f := f) (l := r) fun z hz => h z (by simp [hz])
    exact ⟨y :: m, by rw [List.mapM_cons, hy, hm]; rfl⟩
theorem mapM_len {α β : Type} {f : α → Option β} : ∀ {l : List α} {m : List β}, l.mapM f = some m → m.length = l.length
  | [], m, h => by cases h; rfl
  | x :: r, m, h => by
    rw [List.mapM_cons] at h
    obtain ⟨y, _, h2⟩ := Option.bind_eq_some_iff.mp h
    obtain ⟨t, h3, h4⟩ := Option.bind_eq_some_iff.mp h2
    cases h4
    simp [mapM_len h3]
theorem Da.toP {S : Sto} : ∀ {k n : Nat} {d : D}, Da k d → k ≤ n → ∃ p, IR.toP S n d = some p
  | k, 0, d, h, hn => by cases h <;> omega
  | k, n + 1, d, h, hn => by
    cases h with
    | non => exact ⟨.non, by rw [toP.eq_def]⟩
    | bl b => exact ⟨.bl b, by rw [toP.eq_def]⟩
    | int i => exact ⟨.int i, by rw [toP.eq_def]⟩
    | str s h => exact ⟨.str s, by rw [toP.eq_def]; simp only [h, if_true]⟩
    | tup l h =>
      obtain ⟨m, hm⟩ := mapM_some (f := IR.toP S n) (l := l) fun x hx => Da.toP (h x hx) (by omega)
      exact ⟨.tup m, by rw [toP.eq_def]; simp only [hm, Option.map_some]⟩
theorem Da.eq {S : Sto} {k : Nat} {d : D} (h : Da k d) (hk : k ≤ 20) : eqD S d d = some true := by
  obtain ⟨p, hp⟩ := h.toP (S := S) hk
  unfold eqD
  rw [hp]
  show some _ = _
  rw [P.eqv_refl]
theorem Da.own {k : Nat} {d : D} (h : Da k d) : IR.own d = M.pure d := by cases h <;> rfl
/-- .. of a list with the empty one -/
theorem eqD_tlE {S : Sto} {k : Nat} {l : List D} (h : ∀ d ∈ l, Da k d) (hk : k ≤ 19) : eqD S (.tl l) (.tl []) = some l.isEmpty := by
  obtain ⟨m, hm⟩ := mapM_some (f := IR.toP S 19) (l := l) fun x hx => Da.toP (h x hx) hk
  have hl := mapM_len hm
  unfold eqD
  rw [toP_tl (n := 19), toP_tl (n := 19), hm]
  cases l with
  | nil => cases hm; rfl
  | cons a b => cases m with
    | nil => simp at hl
    | cons p q => rfl
theorem da_row {r : Row} {k : Nat} : Da (k + 2) (encR r) := .tup _ fun d hd => by
  obtain ⟨i, _, rfl⟩ := List.mem_map.mp hd
  exact .int i
theorem da_E {p : Int × Row} {k : Nat} : Da (k + 3) (encE p) := .tup _ fun d hd => by
  simp only [List.mem_cons, List.not_mem_nil, or_false] at hd
  rcases hd with rfl | rfl
  · exact .int _
  · exact da_row
theorem da_pr {p : Ent} {k : Nat} : Da (k + 2) (prD p) := .tup _ fun d hd => by
  simp only [List.mem_cons, List.not_mem_nil, or_false] at hd
  rcases hd with rfl | rfl <;> exact .int _
theorem da_part {e : List Ent} {k : Nat} : Da (k + 3) (encPart e) := .tup _ fun d hd => by
  obtain ⟨p, _, rfl⟩ := List.mem_map.mp hd
  exact da_pr
theorem da_made {rule cuts : List Int} {R : Tab} {k : Nat} : Da (k + 4) (madeDue rule cuts R) := .tup _ fun d hd => by
  obtain ⟨p, _, rfl⟩ := List.mem_map.mp hd
  exact da_part
theorem da_marks {l : List (Option Int)} {k : Nat} : Da (k + 2) (.tup (l.map encM)) := .tup _ fun d hd => by
  obtain ⟨p, _, rfl⟩ := List.mem_map.mp hd
  cases p
  · exact .non
  · exact .int _
/-! ### one list changed -/
def PS.upd (P : PS) (j : Nat) (l : LL) : PS := { P with ls := P.ls.set j l }
section
variable {S S' S'' : Sto} {L L' L'' : PR → Nat} {P P' P'' : PS} {n j : Nat} {l l' : LL} {nm : Txt} {Q : D → Sto → Prop}
theorem upd_at (hj : P.ls[j]? = some l) {i : Nat} : (P.upd j l').ls[i]? = if i = j then some l' else P.ls[i]? := by
  unfold PS.upd
  rw [List.getElem?_set]
  by_cases e : j = i
  · subst e; rw [if_pos rfl, if_pos (lt_of_getL hj), if_pos rfl]
  · rw [if_neg e, if_neg (Ne.symm e)]
theorem upd_self (hj : P.ls[j]? = some l) : (P.upd j l').ls[j]? = some l' := by rw [upd_at hj, if_pos rfl]
theorem upd_upd {l1 l2 : LL} : (P.upd j l1).upd j l2 = P.upd j l2 := by unfold PS.upd; simp
theorem upd_same (hj : P.ls[j]? = some l) : P.upd j l = P := by
  have : P.ls.set j l = P.ls := by
    apply List.ext_getElem?
    intro i
    rw [List.getElem?_set]
    by_cases e : j = i
    · subst e; rw [if_pos rfl, if_pos (lt_of_getL hj), hj]
    · rw [if_neg e]
  unfold PS.upd
  rw [this]
theorem pobj_live {r : PR} (f : r.fx = true) (h : (pobj L P r).isSome = true) (hl : P.ls.length ≤ P'.ls.length) : (pobj L' P' r).isSome = true := by
  have go : ∀ {j : Nat} {α : Type} {f : LL → α}, ((P.ls[j]?).map f).isSome = true → ∀ {β : Type} {g : LL → β}, ((P'.ls[j]?).map g).isSome = true := fun {j α f} h {β g} => by
    rw [Option.isSome_map] at h ⊢
    obtain ⟨x, hx⟩ := Option.isSome_iff_exists.mp h
    have := lt_of_getL hx
    rw [List.getElem?_eq_getElem (show j < P'.ls.length by omega)]; rfl
  cases r with
  | ll j => exact go h
  | mk j => exact go h
  | en j => exact go h
  | ent j p => cases f
  | nr => cases f
  | _ => rfl
theorem PStep.trans (a : PStep S L P S' L' P') (b : PStep S' L' P' S'' L'' P'') (hl : P.ls.length ≤ P'.ls.length) : PStep S L P S'' L'' P'' := Step.trans a b fun r f h => pobj_live f h hl
theorem PStep.sub (s : Sub S S') : PStep S L P S' L P := Step.ofSub s
theorem upd_len : (P.upd j l').ls.length = P.ls.length := by unfold PS.upd; simp
theorem Rep.setLL (h : Rep S L P) (hj : P.ls[j]? = some l) (hm : l'.marks = l.marks) (he : l'.ents = l.ents) {x : MO} (hx : x = .ins 1 (llFs (L (.mk j)) (L (.en j)) l')) : Rep (S.set (L (.ll j)) x) L (P.upd j l') ∧ PStep S L P (S.set (L (.ll j)) x) L (P.upd j l') := by
  have e0 : (pobj L P (.ll j)).isSome = true := by simp [pobj, hj]
  have k : ∀ r, pobj L (P.upd j l') r = if r = .ll j then some x else pobj L P r := fun r => by
    cases r with
    | ll i =>
      simp only [pobj, upd_at hj, PR.ll.injEq]
      by_cases e : i = j
      · subst e; simp [hx]
      · simp [e]
    | mk i =>
      simp only [pobj, upd_at hj, reduceCtorEq, if_false]
      by_cases e : i = j
      · subst e; simp [hj, hm]
      · simp [e]
    | en i =>
      simp only [pobj, upd_at hj, reduceCtorEq, if_false]
      by_cases e : i = j
      · subst e; simp [hj, he]
      · simp [e]
    | ent i p =>
      simp only [pobj, upd_at hj, reduceCtorEq, if_false]
      by_cases e : i = j
      · subst e; simp [hj, he]
      · simp [e]
    | _ => simp [pobj, PS.upd]
  exact ⟨Holds.set h e0 k, Step.set e0 fun r hr => by
    rw [k] at hr
    by_cases e : r = .ll j
    · rw [e]; exact e0
    · rw [if_neg e] at hr; exact hr⟩
theorem Rep.setMk (h : Rep S L P) (hj : P.ls[j]? = some l) {ms : List (Option Int)} : Rep (S.set (L (.mk j)) (.lst (ms.map encM))) L (P.upd j { l with marks := ms }) ∧ PStep S L P (S.set (L (.mk j)) (.lst (ms.map encM))) L (P.upd j { l with marks := ms }) := by
  have e0 : (pobj L P (.mk j)).isSome = true := by simp [pobj, hj]
  have k : ∀ r, pobj L (P.upd j { l with marks := ms }) r = if r = .mk j then some (.lst (ms.map encM)) else pobj L P r := fun r => by
    cases r with
    | ll i =>
      simp only [pobj, upd_at hj, reduceCtorEq, if_false]
      by_cases e : i = j
      · subst e; simp [hj, llFs]
      · simp [e]
    | mk i =>
      simp only [pobj, upd_at hj, PR.mk.injEq]
      by_cases e : i = j
      · subst e; simp
      · simp [e]
    | en i =>
      simp only [pobj, upd_at hj, reduceCtorEq, if_false]
      by_cases e : i = j
      · subst e; simp [hj]
      · simp [e]
    | ent i p =>
      simp only [pobj, upd_at hj, reduceCtorEq, if_false]
      by_cases e : i = j
      · subst e; simp [hj]
      · simp [e]
    | _ => simp [pobj, PS.upd]
  exact ⟨Holds.set h e0 k, Step.set e0 fun r hr => by
    rw [k] at hr
    by_cases e : r = .mk j
    · rw [e]; exact e0
    · rw [if_neg e] at hr; exact hr⟩
theorem Rep.setEnt (h : Rep S L P) (hj : P.ls[j]? = some l) {p : Nat} (hp : p < l.ents.length) {e : List Ent} : Rep (S.set (L (.ent j p)) (.dT false (encEnt e))) L (P.upd j { l with ents := l.ents.set p e }) ∧ PStep S L P (S.set (L (.ent j p)) (.dT false (encEnt e))) L (P.upd j { l with ents := l.ents.set p e }) := by
  have e0 : (pobj L P (.ent j p)).isSome = true := by simp [pobj, hj, hp]
  have k : ∀ r, pobj L (P.upd j { l with ents := l.ents.set p e }) r = if r = .ent j p then some (.dT false (encEnt e)) else pobj L P r := fun r => by
    cases r with
    | ll i =>
      simp only [pobj, upd_at hj, reduceCtorEq, if_false]
      by_cases e : i = j
      · subst e; simp [hj, llFs]
      · simp [e]
    | mk i =>
      simp only [pobj, upd_at hj, reduceCtorEq, if_false]
      by_cases e : i = j
      · subst e; simp [hj]
      · simp [e]
    | en i =>
      simp only [pobj, upd_at hj, reduceCtorEq, if_false]
      by_cases e : i = j
      · subst e; simp [hj]
      · simp [e]
    | ent i p' =>
      simp only [pobj, upd_at hj, PR.ent.injEq]
      by_cases e : i = j
      · subst e
        by_cases e2 : p' = p
        · subst e2; simp [hp]
        · simp [e2, hj, List.getElem?_set, Ne.symm e2]
      · simp [e]
    | _ => simp [pobj, PS.upd]
  exact ⟨Holds.set h e0 k, Step.set e0 fun r hr => by
    rw [k] at hr
    by_cases e : r = .ent j p
    · rw [e]; exact e0
    · rw [if_neg e] at hr; exact hr⟩
end
end IR

namespace IR
/-! ### building -/
/-- an entry laid -/
def ePut (e : List Ent) (x : Ent) : List Ent := if x ∈ e then e else e ++ [x]
theorem dGet_ent {x : Ent} : ∀ {e : List Ent}, dGet (encEnt e) [.inl x.1, .inl x.2] = if x ∈ e then some (.bl true) else none
  | [] => rfl
  | y :: r => by
    have ih := dGet_ent (x := x) (e := r)
    show (if ([Sum.inl y.1, Sum.inl y.2] : List Ky) = [.inl x.1, .inl x.2] then some (D.bl true) else dGet (encEnt r) [.inl x.1, .inl x.2]) = _
    rw [ih]
    by_cases e : x = y
    · subst e; simp
    · have e2 : ¬ (([Sum.inl y.1, Sum.inl y.2] : List Ky) = [.inl x.1, .inl x.2]) := fun z => e (by
        simp only [List.cons.injEq, Sum.inl.injEq, and_true] at z
        exact Prod.ext z.1.symm z.2.symm)
      rw [if_neg e2]
      simp [e]
theorem dPut_ent {x : Ent} {e : List Ent} : dPut (encEnt e) [.inl x.1, .inl x.2] (.bl true) = encEnt (ePut e x) := by
  unfold dPut ePut
  rw [dGet_ent]
  by_cases h : x ∈ e
  · simp only [h, if_true, Option.isSome_some]
    unfold encEnt
    rw [List.map_map]
    refine List.map_congr_left fun y _ => ?_
    simp only [Function.comp]
    split <;> rfl
  · simp [h, encEnt]
theorem encEnt_len {e : List Ent} : (encEnt e).length = e.length := by simp [encEnt]
theorem ePut_len {e : List Ent} {x : Ent} : (ePut e x).length ≤ e.length + 1 := by unfold ePut; split <;> simp
theorem wp_setT {S : Sto} {r : Nat} {kvs : List (List Ky × D)} {i j : Int} {d : D} {Q : Unit → Sto → Prop} (h : S[r]? = some (.dT false kvs)) : wp (setIxD d (.ref r) (.tup [.int i, .int j])) S Q ↔ kvs.length < LINE ∧ Q () (S.set r (.dT false (dPut kvs [.inl i, .inl j] d))) := by
  rw [wp_fun (r := if kvs.length < LINE then .ok () (S.set r (.dT false (dPut kvs [.inl i, .inl j] d))) else .bad) (by simp only [setIxD, h]; rfl)]
  by_cases hl : kvs.length < LINE <;> simp [hl, Res.wp]
def goP (l : LL) (q : Int × Row) : Nat := (cnt l.cuts (key q.2 l.rule)).toNat
def goE (l : LL) (q : Int × Row) : List (List Ent) := l.ents.set (goP l q) (ePut (l.ents.getD (goP l q) []) (key q.2 l.rule, q.1))
def goL (l : LL) (q : Int × Row) : LL := { l with ents := goE l q, to := q.1 }
/-- a list's parts are as many as its cuts, and one -/
structure LOk (F : Int) (l : LL) : Prop where
  marks : l.marks.length = l.cuts.length + 1
  ents : l.ents.length = l.cuts.length + 1
  cuts : l.cuts.length ≤ 900
  rule : RuleF F l.rule
  few : ∀ e ∈ l.ents, e.length ≤ 100000
theorem encEn_at {L : PR → Nat} {j N p : Nat} (hp : p < N) : atD (encEn L j N) (p : Int) = some (.ref (L (.ent j p))) := by
  obtain ⟨d, h1, h2⟩ := atD_lt (l := encEn L j N) (i := (p : Int)) (by omega) (by simp [encEn]; omega)
  rw [h1]
  simp [encEn, List.getElem?_range hp] at h2
  rw [h2]
section
variable {S S' S'' : Sto} {L L' L'' : PR → Nat} {P P' P'' : PS} {n j : Nat} {l l' : LL} {nm : Txt} {Q : D → Sto → Prop}
theorem goP_lt (h : LOk P.F l) {q : Int × Row} : goP l q < l.ents.length := by
  obtain ⟨p, h1, h2⟩ := cnt_nat (l := l.cuts) (k := key q.2 l.rule)
  unfold goP
  rw [h1, h.ents]
  omega
def above (R : Tab) (to : Int) : Tab := (srt R).filter fun p => decide (to < p.1)
theorem above_mem {R : Tab} {to : Int} {p : Int × Row} (h : p ∈ above R to) : p ∈ R := sortBy_mem.mp (List.mem_filter.mp h).1
theorem above_len {R : Tab} {to : Int} : (above R to).length ≤ R.length := by
  have := List.length_filter_le (fun p : Int × Row => decide (to < p.1)) (srt R)
  have e : (srt R).length = R.length := by simp [srt, sortBy_len]
  unfold above; omega
/-- whether a list is settled -/
def PS.okM (P : PS) (a : Int) (m : Option Int) : Bool := match P.tells m with
  | none => false
  | some i => decide (a ≤ i)
def PS.sets (P : PS) (l : LL) : Bool := match l.at_ with
  | none => false
  | some a => l.marks.all (P.okM a)
def settleL (P : PS) (l : LL) : LL := { l with ready := l.ready || P.sets l }
theorem settle_no {P : PS} {l : LL} (h : P.sets l = false) : settleL P l = l := by
  unfold settleL
  rw [h]
  cases l
  simp
theorem PS.tells_some {P : PS} {m : Option Int} {i : Int} (h : P.tells m = some i) : m = some i := by
  unfold PS.tells at h
  exact (Option.filter_eq_some_iff.mp h).1
/-- rows gone through, one by one -/
def goLs (l : LL) (T : Tab) : LL := T.foldl goL l
theorem goLs_snoc {T : Tab} {q : Int × Row} : goLs l (T ++ [q]) = goL (goLs l T) q := by unfold goLs; rw [List.foldl_append]; rfl
theorem goL_rule {q : Int × Row} : (goL l q).rule = l.rule ∧ (goL l q).cuts = l.cuts ∧ (goL l q).marks = l.marks ∧ (goL l q).at_ = l.at_ ∧ (goL l q).ready = l.ready ∧ (goL l q).name = l.name ∧ (goL l q).num = l.num ∧ (goL l q).unlike = l.unlike ∧ (goL l q).ents.length = l.ents.length := ⟨rfl, rfl, rfl, rfl, rfl, rfl, rfl, rfl, by simp [goL, goE]⟩
/-- .. with room for so many more entries -/
structure LOkN (F : Int) (N : Nat) (l : LL) : Prop where
  marks : l.marks.length = l.cuts.length + 1
  ents : l.ents.length = l.cuts.length + 1
  cuts : l.cuts.length ≤ 900
  rule : RuleF F l.rule
  few : ∀ e ∈ l.ents, e.length + N ≤ 100000
theorem LOkN.ok {F : Int} {N : Nat} (h : LOkN F N l) : LOk F l := ⟨h.marks, h.ents, h.cuts, h.rule, fun e he => by have := h.few e he; omega⟩
theorem LOkN.go {F : Int} {N : Nat} (h : LOkN F (N + 1) l) {q : Int × Row} : LOkN F N (goL l q) := ⟨h.marks, by rw [goL_rule.2.2.2.2.2.2.2.2]; exact h.ents, h.cuts, h.rule, fun e he => by
  have he : e ∈ l.ents.set (goP l q) (ePut (l.ents.getD (goP l q) []) (key q.2 l.rule, q.1)) := he
  rcases List.mem_or_eq_of_mem_set he with he | rfl
  · have := h.few e he; omega
  · have h1 := ePut_len (e := l.ents.getD (goP l q) []) (x := (key q.2 l.rule, q.1))
    by_cases hp : goP l q < l.ents.length
    · have := h.few (l.ents.getD (goP l q) []) (by rw [List.getD_eq_getElem?_getD, List.getElem?_eq_getElem hp]; exact List.getElem_mem hp)
      omega
    · rw [List.getD_eq_getElem?_getD, List.getElem?_eq_none (by omega)] at h1 ⊢
      simp at h1 ⊢
      have h0 : 0 < l.ents.length := by rw [h.ents]; omega
      have := h.few _ (List.getElem_mem h0)
      omega⟩
theorem LOkN.gos {F : Int} : ∀ {T : Tab} {N : Nat} {l : LL}, LOkN F (N + T.length) l → LOkN F N (goLs l T)
  | [], N, l, h => h
  | q :: T, N, l, h => LOkN.gos (T := T) (l := goL l q) (LOkN.go (by
    have e : N + (q :: T).length = (N + T.length) + 1 := by simp; omega
    rw [e] at h; exact h))
theorem goLs_same : ∀ {T : Tab} {l : LL}, (goLs l T).rule = l.rule ∧ (goLs l T).cuts = l.cuts ∧ (goLs l T).marks = l.marks ∧ (goLs l T).at_ = l.at_ ∧ (goLs l T).ready = l.ready
  | [], l => ⟨rfl, rfl, rfl, rfl, rfl⟩
  | q :: T, l => by
    have := goLs_same (T := T) (l := goL l q)
    exact this
/-- what a building does to a list: the rows gone through, the list behind it -/
def gone (R : Tab) (l : LL) (m : Int) : Tab := if l.at_ = none then (above R l.to).take m.toNat else []
def goneL (P : PS) (l : LL) (m : Int) : LL := if l.at_ = none then (if above P.R (goLs l (gone P.R l m)).to = [] then { goLs l (gone P.R l m) with at_ := some P.now } else goLs l (gone P.R l m)) else l
def buildL (P : PS) (l : LL) (m : Int) : LL := if l.ready then l else settleL P (goneL P l m)
theorem cut_take {α : Type} {l : List α} {m : Int} (h : 0 ≤ m) : cut l none (some m) = l.take m.toNat := by
  unfold cut sIx
  simp only [if_pos h]
  rw [show (Nat.min m.toNat l.length - 0) = min m.toNat l.length from rfl]
  simp [List.take_eq_take_iff]
end
end IR

namespace IR
section
variable {S S' S'' : Sto} {L L' L'' : PR → Nat} {P P' P'' : PS} {n j : Nat} {l l' : LL} {nm : Txt} {Q : D → Sto → Prop}
theorem o_sortedTD {P : D → Sto → Prop} {r : Nat} {lk : Bool} {e : List Ent} (h : S[r]? = some (.dT lk (encEnt e))) (hl : e.length < 1000) : wp (evOp .sortedT [.ref r]) S P ↔ P (.tl ((sortBy leP e).map prD)) S := by
  have e1 : srtT ((encEnt e).map fun (p : List Ky × D) => p.1) = some ((sortBy leP e).map prD) := by
    unfold srtT
    rw [if_pos (by rw [List.length_map, encEnt_len]; exact hl)]
    have : ((encEnt e).map fun (p : List Ky × D) => p.1).mapM pr2 = some e := by
      unfold encEnt
      rw [List.map_map]
      have := mapM_map (f := pr2) (g := ((fun (p : List Ky × D) => p.1) ∘ fun (p : Ent) => (([.inl p.1, .inl p.2], .bl true) : List Ky × D))) (h := fun p => p) (fun p => rfl) (l := e)
      rw [this]
      simp
    rw [this]
    rfl
  have e2 : evOp .sortedT [.ref r] S = val1 (some (.tl ((sortBy leP e).map prD))) S := by
    show (match S[r]? with
    | some (.dT _ kvs) => val1 ((srtT (kvs.map fun (p : List Ky × D) => p.1)).map .tl) S
    | _ => .bad) = _
    rw [h]
    show val1 ((srtT ((encEnt e).map fun (p : List Ky × D) => p.1)).map .tl) S = _
    rw [e1]
    rfl
  rw [wp_as e2, wp_val1]
  simp
end
end IR

namespace IR
/-! ### the world of a law: a store, and the law's own rows of all moments -/
structure WA where
  dk : Int × Int × Int
  F : Int
  old : Int
  begun : Int
  nums : List Int
  past : List Tab
  ones : List LL
  tab : List (Txt × Nat)
  lk : Bool
  pn : Nat
inductive WR where
  | dk | wd | past | pt (i : Nat) | lists | nums | one (i : Nat) | om (i : Nat)
  deriving DecidableEq
def oneKvs (om : Nat) (l : LL) : List (Ky × D) := [(.inr [110, 97, 109, 101], .str l.name), (.inr tx_b1bc24, .int l.num), (.inr [114, 117, 108, 101], .tup (l.rule.map .int)), (.inr [99, 117, 116, 115], .tup (l.cuts.map .int)), (.inr [116, 111], .int l.to), (.inr [97, 116], encM l.at_), (.inr tx_b2fdab, .bl l.ready), (.inr tx_84374e, .ref om)]
def wdKvs (s : Nat) (M : WR → Nat) (W : WA) : List (Ky × D) := [(.inr tx_8cd892, .ref s), (.inr tx_d05b6e, .int W.F), (.inr [112, 97, 115, 116], .ref (M .past)), (.inr tx_f14b51, .int W.old), (.inr tx_e6dbca, .ref (M .lists)), (.inr tx_d1fe44, .int W.begun), (.inr tx_ee5c35, .ref (M .nums))]
def dkKvs (k : Int × Int × Int) : List (Ky × D) := [(.inr tx_a2aacb, .int k.1), (.inr [116, 117, 114, 110], .int k.2.1), (.inr [115, 101, 101, 100], .int k.2.2)]
def wTab (M : WR → Nat) (t : List (Txt × Nat)) : List (Ky × D) := t.map fun p => (.inr p.1, .ref (M (.one p.2)))
def wobj (s : Nat) (M : WR → Nat) (W : WA) : WR → Option MO
  | .dk => some (.dK false (dkKvs W.dk))
  | .wd => some (.dK false (wdKvs s M W))
  | .past => some (.lst ((List.range W.pn).map fun i => .ref (M (.pt i))))
  | .pt i => (W.past[i]?).map fun T => .dK false (encK T)
  | .lists => some (.dK W.lk (wTab M W.tab))
  | .nums => some (.lst (W.nums.map .int))
  | .one i => (W.ones[i]?).map fun l => .dK false (oneKvs (M (.om i)) l)
  | .om i => (W.ones[i]?).map fun l => .lst (l.marks.map encM)
structure StA (S : Sto) (L : PR → Nat) (P : PS) (M : WR → Nat) (W : WA) : Prop where
  p : Rep S L P
  w : Holds S M (wobj (L .st) M W)
  sep : ∀ r, (wobj (L .st) M W r).isSome = true → Out L (pobj L P) (M r)
/-- none of theirs stands there -/
def FreeA (L : PR → Nat) (P : PS) (M : WR → Nat) (W : WA) (a : Nat) : Prop := Out L (pobj L P) a ∧ Out M (wobj (L .st) M W) a
structure GoA (S : Sto) (L : PR → Nat) (P : PS) (M : WR → Nat) (W : WA) (S' : Sto) (L' : PR → Nat) (P' : PS) (M' : WR → Nat) (W' : WA) : Prop where
  len : S.length ≤ S'.length
  st : L' .st = L .st
  fixM : ∀ r, (wobj (L .st) M W r).isSome = true → M' r = M r
  live : ∀ r, (wobj (L .st) M W r).isSome = true → (wobj (L' .st) M' W' r).isSome = true
  free : ∀ a, a < S.length → FreeA L P M W a → FreeA L' P' M' W' a
  keep : ∀ a x, FreeA L P M W a → S[a]? = some x → S'[a]? = some x
section
variable {S S' S'' : Sto} {L L' L'' : PR → Nat} {P P' P'' : PS} {M M' M'' : WR → Nat} {W W' W'' : WA}
theorem GoA.ofSub (s : Sub S S') : GoA S L P M W S' L P M W := ⟨s.len, rfl, fun _ _ => rfl, fun _ h => h, fun _ _ h => h, fun a x _ e => s a x e⟩
theorem GoA.refl : GoA S L P M W S L P M W := .ofSub .refl
theorem GoA.trans (a : GoA S L P M W S' L' P' M' W') (b : GoA S' L' P' M' W' S'' L'' P'' M'' W'') : GoA S L P M W S'' L'' P'' M'' W'' :=
  ⟨Nat.le_trans a.len b.len, b.st.trans a.st, fun r h => (b.fixM r (a.live r h)).trans (a.fixM r h), fun r h => b.live r (a.live r h), fun x hx f => b.free x (Nat.lt_of_lt_of_le hx a.len) (a.free x hx f), fun x y f e => b.keep x y (a.free x (lt_of_get e) f) (a.keep x y f e)⟩
theorem StA.sub (h : StA S L P M W) (s : Sub S S') : StA S' L P M W := ⟨h.p.sub s, h.w.sub s, h.sep⟩
theorem StA.fresh (h : StA S L P M W) {a : Nat} (ha : S.length ≤ a) : FreeA L P M W a := ⟨h.p.fresh ha, h.w.fresh ha⟩
theorem StA.pstep (h : StA S L P M W) (p : Rep S' L' P') (t : PStep S L P S' L' P') : StA S' L' P' M W ∧ GoA S L P M W S' L' P' M W := by
  have es : L' .st = L .st := t.fix .st rfl rfl
  refine ⟨⟨p, ?_, ?_⟩, ⟨t.len, es, fun _ _ => rfl, fun r hr => by rw [es]; exact hr, fun a ha f => ⟨t.outs f.1 ha, by rw [es]; exact f.2⟩, fun a x f e => t.out a x f.1 e⟩⟩
  · rw [es]
    exact ⟨fun r x e => t.out _ _ (h.sep r (by rw [e]; rfl)) (h.w.at_ r x e), h.w.inj⟩
  · rw [es]
    exact fun r hr => t.outs (h.sep r hr) (h.w.lt hr)
/-- one of the law's own objects is written -/
theorem StA.wset (h : StA S L P M W) {r : WR} {x : MO} (e : (wobj (L .st) M W r).isSome = true) (k : ∀ r', wobj (L .st) M W' r' = if r' = r then some x else wobj (L .st) M W r') : StA (S.set (M r) x) L P M W' ∧ GoA S L P M W (S.set (M r) x) L P M W' := by
  have lv : ∀ r', (wobj (L .st) M W' r').isSome = true → (wobj (L .st) M W r').isSome = true := fun r' h' => by
    rw [k] at h'
    by_cases z : r' = r
    · rw [z]; exact e
    · rw [if_neg z] at h'; exact h'
  refine ⟨⟨⟨fun q y hy => ?_, h.p.inj⟩, h.w.set e k, fun q hq => h.sep q (lv q hq)⟩, ⟨by simp, rfl, fun _ _ => rfl, fun q hq => ?_, fun a _ f => ⟨f.1, fun q hq => f.2 q (lv q hq)⟩, fun a y f q => ?_⟩⟩
  · rw [List.getElem?_set_ne fun z => h.sep r e q (by rw [hy]; rfl) z.symm]
    exact h.p.at_ q y hy
  · rw [k]
    by_cases z : q = r
    · rw [if_pos z]; rfl
    · rw [if_neg z]; exact hq
  · rw [List.getElem?_set_ne (f.2 r e)]; exact q
/-- one more of them -/
theorem StA.wadd (h : StA S L P M W) {r : WR} {x : MO} (e : (wobj (L .st) M W r).isSome = false) (l : ∀ r', r' ≠ r → M' r' = M r') (lr : M' r = S.length) (k : ∀ r', wobj (L .st) M' W' r' = if r' = r then some x else wobj (L .st) M W r') : StA (S ++ [x]) L P M' W' ∧ GoA S L P M W (S ++ [x]) L P M' W' := by
  have lv : ∀ r', r' ≠ r → (wobj (L .st) M' W' r').isSome = true → (wobj (L .st) M W r').isSome = true := fun r' z h' => by rw [k, if_neg z] at h'; exact h'
  refine ⟨⟨h.p.sub .app, Holds.add h.w k (fun r' z _ => l r' z) lr, fun q hq => ?_⟩, ⟨by simp, rfl, fun q hq => ?_, fun q hq => ?_, fun a ha f => ⟨f.1, fun q hq => ?_⟩, fun a y f q => get_app q _⟩⟩
  · by_cases z : q = r
    · rw [z, lr]; exact h.p.fresh (Nat.le_refl _)
    · rw [l q z]; exact h.sep q (lv q z hq)
  · refine l q fun z => ?_
    rw [z, e] at hq; cases hq
  · rw [k]
    by_cases z : q = r
    · rw [if_pos z]; rfl
    · rw [if_neg z]; exact hq
  · by_cases z : q = r
    · rw [z, lr]; omega
    · rw [l q z]; exact f.2 q (lv q z hq)
/-- objects that stand become the law's own -/
theorem StA.adopt (h : StA S L P M W) (new : WR → Prop) (hn : ∀ r, new r → (wobj (L .st) M W r).isSome = false) (a1 : ∀ r, new r → FreeA L P M W (M' r) ∧ ∀ x, wobj (L .st) M' W' r = some x → S[M' r]? = some x) (a2 : ∀ r, ¬ new r → M' r = M r ∧ wobj (L .st) M' W' r = wobj (L .st) M W r) (inj : ∀ r r', new r → new r' → M' r = M' r' → r = r') : StA S L P M' W' ∧ ∀ a, FreeA L P M W a → (∀ r, new r → M' r ≠ a) → FreeA L P M' W' a := by
  refine ⟨⟨h.p, ⟨fun r x hx => ?_, fun r r' hr hr' e => ?_⟩, fun r hr => ?_⟩, fun a f nr => ⟨f.1, fun r hr => ?_⟩⟩
  · by_cases z : new r
    · exact (a1 r z).2 x hx
    · rw [(a2 r z).1]
      rw [(a2 r z).2] at hx
      exact h.w.at_ r x hx
  · by_cases z : new r <;> by_cases z' : new r'
    · exact inj r r' z z' e
    · rw [(a2 r' z').1] at e
      rw [(a2 r' z').2] at hr'
      exact absurd e.symm ((a1 r z).1.2 r' hr')
    · rw [(a2 r z).1] at e
      rw [(a2 r z).2] at hr
      exact absurd e ((a1 r' z').1.2 r hr)
    · rw [(a2 r z).1, (a2 r' z').1] at e
      rw [(a2 r z).2] at hr
      rw [(a2 r' z').2] at hr'
      exact h.w.inj r r' hr hr' e
  · by_cases z : new r
    · exact (a1 r z).1.1
    · rw [(a2 r z).1]
      rw [(a2 r z).2] at hr
      exact h.sep r hr
  · by_cases z : new r
    · exact nr r z
    · rw [(a2 r z).1]
      rw [(a2 r z).2] at hr
      exact f.2 r hr
theorem StA.adoptG {S0 : Sto} {L0 : PR → Nat} {P0 : PS} {M0 : WR → Nat} {W0 : WA} (h : StA S L P M W) (g : GoA S0 L0 P0 M0 W0 S L P M W) (new : WR → Prop) (ha : ∀ r, new r → S0.length ≤ M' r) (hn : ∀ r, new r → (wobj (L .st) M W r).isSome = false) (a1 : ∀ r, new r → FreeA L P M W (M' r) ∧ ∀ x, wobj (L .st) M' W' r = some x → S[M' r]? = some x) (a2 : ∀ r, ¬ new r → M' r = M r ∧ wobj (L .st) M' W' r = wobj (L .st) M W r) (inj : ∀ r r', new r → new r' → M' r = M' r' → r = r') : StA S L P M' W' ∧ GoA S0 L0 P0 M0 W0 S L P M' W' := by
  obtain ⟨h1, f1⟩ := h.adopt new hn a1 a2 inj
  have nn : ∀ r, (wobj (L .st) M W r).isSome = true → ¬ new r := fun r e z => by rw [hn r z] at e; cases e
  refine ⟨h1, ⟨g.len, g.st, fun r hr => ?_, fun r hr => ?_, fun b hb fb => f1 b (g.free b hb fb) fun r z => ?_, g.keep⟩⟩
  · rw [(a2 r (nn r (g.live r hr))).1]; exact g.fixM r hr
  · rw [(a2 r (nn r (g.live r hr))).2]; exact g.live r hr
  · have := ha r z; omega
/-! ### what stands in it -/
variable (h : StA S L P M W)
include h
theorem StA.dk : S[M .dk]? = some (.dK false (dkKvs W.dk)) := h.w.at_ .dk _ rfl
theorem StA.wd : S[M .wd]? = some (.dK false (wdKvs (L .st) M W)) := h.w.at_ .wd _ rfl
theorem StA.past : S[M .past]? = some (.lst ((List.range W.pn).map fun i => .ref (M (.pt i)))) := h.w.at_ .past _ rfl
theorem StA.pt {i : Nat} {T : Tab} (e : W.past[i]? = some T) : S[M (.pt i)]? = some (.dK false (encK T)) := h.w.at_ (.pt i) _ (by simp [wobj, e])
theorem StA.lists : S[M .lists]? = some (.dK W.lk (wTab M W.tab)) := h.w.at_ .lists _ rfl
theorem StA.nums : S[M .nums]? = some (.lst (W.nums.map .int)) := h.w.at_ .nums _ rfl
theorem StA.one {i : Nat} {l : LL} (e : W.ones[i]? = some l) : S[M (.one i)]? = some (.dK false (oneKvs (M (.om i)) l)) := h.w.at_ (.one i) _ (by simp [wobj, e])
theorem StA.om {i : Nat} {l : LL} (e : W.ones[i]? = some l) : S[M (.om i)]? = some (.lst (l.marks.map encM)) := h.w.at_ (.om i) _ (by simp [wobj, e])
theorem StA.iStore : ixD S (.ref (M .wd)) (.str tx_8cd892) = some (.ref (L .st)) := by rw [ixD_dKs h.wd]; rfl
theorem StA.iF : ixD S (.ref (M .wd)) (.str tx_d05b6e) = some (.int W.F) := by rw [ixD_dKs h.wd]; rfl
theorem StA.iPast : ixD S (.ref (M .wd)) (.str [112, 97, 115, 116]) = some (.ref (M .past)) := by rw [ixD_dKs h.wd]; rfl
theorem StA.iOld : ixD S (.ref (M .wd)) (.str tx_f14b51) = some (.int W.old) := by rw [ixD_dKs h.wd]; rfl
theorem StA.iLists : ixD S (.ref (M .wd)) (.str tx_e6dbca) = some (.ref (M .lists)) := by rw [ixD_dKs h.wd]; rfl
theorem StA.iBegun : ixD S (.ref (M .wd)) (.str tx_d1fe44) = some (.int W.begun) := by rw [ixD_dKs h.wd]; rfl
theorem StA.iNums : ixD S (.ref (M .wd)) (.str tx_ee5c35) = some (.ref (M .nums)) := by rw [ixD_dKs h.wd]; rfl
omit h
theorem oName {S : Sto} {r om : Nat} {lk : Bool} {l : LL} (h : S[r]? = some (.dK lk (oneKvs om l))) : ixD S (.ref r) (.str [110, 97, 109, 101]) = some (.str l.name) := by rw [ixD_dKs h]; rfl
theorem oNum {S : Sto} {r om : Nat} {lk : Bool} {l : LL} (h : S[r]? = some (.dK lk (oneKvs om l))) : ixD S (.ref r) (.str tx_b1bc24) = some (.int l.num) := by rw [ixD_dKs h]; rfl
theorem oRule {S : Sto} {r om : Nat} {lk : Bool} {l : LL} (h : S[r]? = some (.dK lk (oneKvs om l))) : ixD S (.ref r) (.str [114, 117, 108, 101]) = some (.tup (l.rule.map .int)) := by rw [ixD_dKs h]; rfl
theorem oCuts {S : Sto} {r om : Nat} {lk : Bool} {l : LL} (h : S[r]? = some (.dK lk (oneKvs om l))) : ixD S (.ref r) (.str [99, 117, 116, 115]) = some (.tup (l.cuts.map .int)) := by rw [ixD_dKs h]; rfl
theorem oTo {S : Sto} {r om : Nat} {lk : Bool} {l : LL} (h : S[r]? = some (.dK lk (oneKvs om l))) : ixD S (.ref r) (.str [116, 111]) = some (.int l.to) := by rw [ixD_dKs h]; rfl
theorem oAt {S : Sto} {r om : Nat} {lk : Bool} {l : LL} (h : S[r]? = some (.dK lk (oneKvs om l))) : ixD S (.ref r) (.str [97, 116]) = some (encM l.at_) := by rw [ixD_dKs h]; rfl
theorem oReady {S : Sto} {r om : Nat} {lk : Bool} {l : LL} (h : S[r]? = some (.dK lk (oneKvs om l))) : ixD S (.ref r) (.str tx_b2fdab) = some (.bl l.ready) := by rw [ixD_dKs h]; rfl
theorem oMarks {S : Sto} {r om : Nat} {lk : Bool} {l : LL} (h : S[r]? = some (.dK lk (oneKvs om l))) : ixD S (.ref r) (.str tx_84374e) = some (.ref om) := by rw [ixD_dKs h]; rfl
end
/-! ### draws -/
def DkOk (W : WA) (t : Int) : Prop := 0 ≤ W.dk.2.1 ∧ W.dk.2.1 ≤ t
def WA.dr (W : WA) (k : Int × Int × Int) : WA := { W with dk := k }
section
variable {S S' : Sto} {L L' : PR → Nat} {P P' : PS} {M M' : WR → Nat} {W W' : WA} {n : Nat} {Q : D → Sto → Prop} {t : Int}
@[simp] theorem dr_dr {k k' : Int × Int × Int} : (W.dr k).dr k' = W.dr k' := rfl
@[simp] theorem dr_self : W.dr W.dk = W := rfl
@[simp] theorem dr_dk {k : Int × Int × Int} : (W.dr k).dk = k := rfl
@[simp] theorem dr_F {k : Int × Int × Int} : (W.dr k).F = W.F := rfl
@[simp] theorem dr_old {k : Int × Int × Int} : (W.dr k).old = W.old := rfl
@[simp] theorem dr_begun {k : Int × Int × Int} : (W.dr k).begun = W.begun := rfl
@[simp] theorem dr_nums {k : Int × Int × Int} : (W.dr k).nums = W.nums := rfl
@[simp] theorem dr_past {k : Int × Int × Int} : (W.dr k).past = W.past := rfl
@[simp] theorem dr_ones {k : Int × Int × Int} : (W.dr k).ones = W.ones := rfl
@[simp] theorem dr_tab {k : Int × Int × Int} : (W.dr k).tab = W.tab := rfl
@[simp] theorem dr_pn {k : Int × Int × Int} : (W.dr k).pn = W.pn := rfl
@[simp] theorem dr_lk {k : Int × Int × Int} : (W.dr k).lk = W.lk := rfl
theorem StA.drawn (h : StA S L P M W) {k : Int × Int × Int} : StA (S.set (M .dk) (.dK false (dkKvs k))) L P M (W.dr k) ∧ GoA S L P M W (S.set (M .dk) (.dK false (dkKvs k))) L P M (W.dr k) :=
  h.wset (r := .dk) rfl fun r' => by cases r' <;> simp [wobj, WA.dr, wdKvs]
/-- a step that only draws -/
abbrev DQ (Q : D → Sto → Prop) (d : D) (S : Sto) (L : PR → Nat) (P : PS) (M : WR → Nat) (W : WA) (t : Int) : Prop := ∀ S' k, StA S' L P M (W.dr k) → GoA S L P M W S' L P M (W.dr k) → DkOk (W.dr k) t → Q d S'
/-- only draws so far -/
def Drs (S : Sto) (L : PR → Nat) (P : PS) (M : WR → Nat) (W : WA) (t : Int) (S' : Sto) : Prop := ∃ k, StA S' L P M (W.dr k) ∧ GoA S L P M W S' L P M (W.dr k) ∧ DkOk (W.dr k) t
theorem draw0 {a : Nat} {k : Int × Int × Int} (hw : S[a]? = some (.dK false (dkKvs k))) (hd0 : 0 ≤ k.2.1) (hd1 : k.2.1 ≤ 1000000000000) {m : Int} (h0 : 0 < m) (hm : m < B64) (q : ∀ (d : Int) (k' : Int × Int × Int), 0 ≤ d → d < m → 0 ≤ k'.2.1 → k'.2.1 ≤ k.2.1 + 1 → Q (.int d) (S.set a (.dK false (dkKvs k')))) : wp (callD g0 (n + 1) 142 [.ref a, .int m]) S Q := by
  obtain ⟨g, tn, sd⟩ := k
  simp only at hd0 hd1 q
  have hl := lt_of_get hw
  have i1 : ixD S (.ref a) (.str tx_a2aacb) = some (.int g) := by rw [ixD_dKs hw]; rfl
  have i2 : ixD S (.ref a) (.str [116, 117, 114, 110]) = some (.int tn) := by rw [ixD_dKs hw]; rfl
  have e1 : dPut (dkKvs (g, tn, sd)) (.inr tx_a2aacb) (.int (g / m)) = dkKvs (g / m, tn, sd) := rfl
  have e2 : dPut (dkKvs (g, tn, sd)) (.inr [116, 117, 114, 110]) (.int (tn + 1)) = dkKvs (g, tn + 1, sd) := rfl
  have el : (dkKvs (g, tn, sd)).length < LINE := by simp [dkKvs, LINE]
  refine wp_call (d := fn142) rfl rfl ?_
  show wp (exs g0 (callD g0 _) fn142.body [some (.ref a), some (.int m), none, none]) _ _
  simp only [fn142, exs, ex, ev, evs, evIt, wp_bind, wp_getVar, wp_pure, ownIf_f, ownIf_t]
  try simp [-Bool.exists_bool, -List.contains_eq_mem, List.lookup, fPut, i1, i2, h0, hm, wp_setKs hw, e1, e2, el]
  by_cases hg : 0 < g
  · simp [-Bool.exists_bool, -List.contains_eq_mem, List.lookup, fPut, hg]
    exact q _ (g / m, tn, sd) (Int.emod_nonneg _ (by omega)) (Int.emod_lt_of_pos _ h0) hd0 (by simp only; omega)
  · simp [-Bool.exists_bool, -List.contains_eq_mem, List.lookup, fPut, hg]
    have hw2 : (S.set a (.dK false (dkKvs (g, tn + 1, sd))))[a]? = some (.dK false (dkKvs (g, tn + 1, sd))) := List.getElem?_set_self hl
    have q1 := fun d h1 h2 => q d (g, tn + 1, sd) h1 h2 (by simp only; omega) (by simp only; omega)
    generalize S.set a (.dK false (dkKvs (g, tn + 1, sd))) = S1 at hw2 q1 ⊢
    have i3 : ixD S1 (.ref a) (.str [116, 117, 114, 110]) = some (.int (tn + 1)) := by rw [ixD_dKs hw2]; rfl
    have i4 : ixD S1 (.ref a) (.str [115, 101, 101, 100]) = some (.int sd) := by rw [ixD_dKs hw2]; rfl
    try simp [-Bool.exists_bool, -List.contains_eq_mem, List.lookup, fPut, i3, i4, hm, h0]
    generalize hz : (sd + 7919 * (tn + 1) * (tn + 1)) * 48271 % 2147483647 = z
    have z1 : 0 ≤ z := by rw [← hz]; exact Int.emod_nonneg _ (by omega)
    have z2 : z < 2147483647 := by rw [← hz]; exact Int.emod_lt_of_pos _ (by omega)
    generalize hy : (z * z + 69621 * z + 7) % 2147483629 = y
    have y1 : 0 ≤ y := by rw [← hy]; exact Int.emod_nonneg _ (by omega)
    have y2 : y < 2147483629 := by rw [← hy]; exact Int.emod_lt_of_pos _ (by omega)
    refine ⟨.inl (by decide), .inr (by simp only [B64]; omega), .inr (by decide), ⟨by simp only [B64]; omega, by simp only [B64]; omega⟩, .inl (by decide), .inr (by decide), by decide, ?_⟩
    exact q1 _ (Int.emod_nonneg _ (by omega)) (Int.emod_lt_of_pos _ h0)
theorem StA.draw (h : StA S L P M W) (hd : DkOk W t) (ht : t ≤ 1000000000000) {m : Int} (h0 : 0 < m) (hm : m < B64) (q : ∀ d : Int, 0 ≤ d → d < m → DQ Q (.int d) S L P M W (t + 1)) : wp (callD g0 (n + 1) 142 [.ref (M .dk), .int m]) S Q :=
  draw0 h.dk hd.1 (Int.le_trans hd.2 ht) h0 hm fun d k' d0 d1 e0 e1 => by
    obtain ⟨h1, g1⟩ := h.drawn (k := k')
    exact q d d0 d1 _ k' h1 g1 ⟨e0, by have := hd.2; simp only [dr_dk]; omega⟩
end
end IR

namespace IR
section
variable {S S' : Sto} {L L' : PR → Nat} {P P' : PS} {M M' : WR → Nat} {W W' : WA} {n : Nat} {Q : D → Sto → Prop} {t : Int}
theorem DkOk.mono {a b : Int} (h : DkOk W a) (e : a ≤ b) : DkOk W b := ⟨h.1, Int.le_trans h.2 e⟩
theorem StA.near (h : StA S L P M W) (hd : DkOk W t) (ht : t ≤ 900000000000) {m : Int} (h0 : 1 ≤ m) (hm : m ≤ 10000000000) (q : ∀ d : Int, (-m ≤ d ∧ d ≤ m) ∨ (-4 ≤ d ∧ d ≤ 4) → DQ Q (.int d) S L P M W (t + 2)) : wp (callD g0 (n + 2) 147 [.ref (M .dk), .int m]) S Q := by
  refine wp_call (d := fn147) rfl rfl ?_
  show wp (exs g0 (callD g0 _) fn147.body [some (.ref (M .dk)), some (.int m), none]) _ _
  simp only [fn147, exs, ex, ev, evs, evIt, wp_bind, wp_getVar, wp_pure, ownIf_f, ownIf_t]
  try simp [-Bool.exists_bool, -List.contains_eq_mem, List.lookup, fPut]
  refine h.draw hd (by omega) (by omega) (by decide) fun d d0 d1 S1 k1 h1 g1 o1 => ?_
  by_cases hd6 : d < 6
  · simp [-Bool.exists_bool, -List.contains_eq_mem, List.lookup, fPut, hd6]
    refine h1.draw o1 (by omega) (by omega) (by decide) fun x x0 x1 S2 k2 h2 g2 o2 => ?_
    try simp [-Bool.exists_bool, -List.contains_eq_mem, List.lookup, fPut]
    exact q _ (.inr (by omega)) _ _ h2 (g1.trans g2) (o2.mono (by omega))
  · by_cases hd2 : d = 6
    · simp [-Bool.exists_bool, -List.contains_eq_mem, List.lookup, fPut, hd2]
      refine h1.draw o1 (by omega) (by omega) (by decide) fun x x0 x1 S2 k2 h2 g2 o2 => ?_
      have : x = 0 ∨ x = 1 ∨ x = 2 ∨ x = 3 := by omega
      rcases this with rfl | rfl | rfl | rfl <;> simp [-Bool.exists_bool, -List.contains_eq_mem, List.lookup, fPut] <;> exact q _ (.inl (by omega)) _ _ h2 (g1.trans g2) (o2.mono (by omega))
    · simp [-Bool.exists_bool, -List.contains_eq_mem, List.lookup, fPut, hd6, hd2]
      refine ⟨.inl (by decide), h1.draw o1 (by omega) (by omega) (by simp only [B64]; omega) fun x x0 x1 S2 k2 h2 g2 o2 => ?_⟩
      try simp [-Bool.exists_bool, -List.contains_eq_mem, List.lookup, fPut]
      exact q _ (.inl (by omega)) _ _ h2 (g1.trans g2) (o2.mono (by omega))
theorem StA.new_row (h : StA S L P M W) (hd : DkOk W t) (ht : t ≤ 800000000000) {F : Int} (h0 : 0 ≤ F) (hF : F ≤ 4) (q : ∀ r : Row, (r.length : Int) = F → Fits r → DQ Q (encR r) S L P M W (t + 8)) : wp (callD g0 (n + 3) 148 [.ref (M .dk), .int F]) S Q := by
  refine wp_call (d := fn148) rfl rfl ?_
  show wp (exs g0 (callD g0 _) fn148.body [some (.ref (M .dk)), some (.int F), none]) _ _
  simp only [fn148, exs, ex, ev, evs, evIt, wp_bind, wp_getVar, wp_pure, ownIf_f, ownIf_t]
  try simp [-Bool.exists_bool, -List.contains_eq_mem, List.lookup, fPut]
  refine ⟨by simp [rgOk, LINE]; omega, ?_⟩
  refine wp_lc (fun pre acc S' => (∃ l : List Int, acc = l.map .int ∧ l.length = pre.length ∧ Fits l) ∧ Drs S L P M W (t + 2 * pre.length) S') ⟨⟨[], rfl, rfl, by simp [Fits]⟩, ⟨W.dk, h, .refl, by simpa using hd⟩⟩ ?_ ?_
  · rintro pre x post acc S1 ⟨⟨l, rfl, hl, hf⟩, ⟨k, h1, g1, o1⟩⟩ e
    obtain ⟨rfl, hp⟩ := rg_at e
    refine ⟨by simp [LINE]; omega, ?_⟩
    try simp [-Bool.exists_bool, -List.contains_eq_mem, List.lookup, fPut]
    refine h1.near o1 (by omega) (by omega) (by omega) fun d hd S2 k2 h2 g2 o2 => ?_
    try simp [-Bool.exists_bool, -List.contains_eq_mem, List.lookup, fPut]
    refine ⟨⟨l ++ [d], by simp, by simp [hl], fun y hy => ?_⟩, ⟨_, h2, g1.trans g2, o2.mono (by first | omega | (simp; omega))⟩⟩
    rcases List.mem_append.mp hy with hy | hy
    · exact hf y hy
    · rw [List.mem_singleton] at hy; subst hy; omega
  · rintro acc S1 ⟨⟨l, rfl, hl, hf⟩, k, h1, g1, o1⟩
    have e1 : (rg 0 F).length = F.toNat := by simp [rg]
    exact q l (by omega) hf _ _ h1 g1 (o1.mono (by omega))
theorem StA.rule (h : StA S L P M W) (hd : DkOk W t) (ht : t ≤ 800000000000) {F : Int} (h0 : 1 ≤ F) (hF : F ≤ 4) (q : ∀ r : List Int, RuleF F r → r.length ≤ 4 → DQ Q (.tup (r.map .int)) S L P M W (t + 1)) : wp (callD g0 (n + 2) 155 [.ref (M .dk), .int F]) S Q := by
  have hF4 : F = 1 ∨ F = 2 ∨ F = 3 ∨ F = 4 := by omega
  have hx : ∃ m : Int, atD [D.int 1, D.int 3, D.int 7, D.int 15] (F - 1) = some (.int m) ∧ 0 < m ∧ m ≤ 15 := by
    rcases hF4 with rfl | rfl | rfl | rfl
    · exact ⟨1, rfl, by decide, by decide⟩
    · exact ⟨3, rfl, by decide, by decide⟩
    · exact ⟨7, rfl, by decide, by decide⟩
    · exact ⟨15, rfl, by decide, by decide⟩
  obtain ⟨m, hm, m0, m1⟩ := hx
  refine wp_call (d := fn155) rfl rfl ?_
  show wp (exs g0 (callD g0 _) fn155.body [some (.ref (M .dk)), some (.int F), none, none]) _ _
  simp only [fn155, exs, ex, ev, evs, evIt, wp_bind, wp_getVar, wp_pure, ownIf_f, ownIf_t]
  try simp [-Bool.exists_bool, -List.contains_eq_mem, List.lookup, fPut, hm]
  refine h.draw hd (by omega) m0 (by simp only [B64]; omega) fun d d0 d1 S1 k1 h1 g1 o1 => ?_
  try simp [-Bool.exists_bool, -List.contains_eq_mem, List.lookup, fPut]
  refine ⟨by simp [rgOk, LINE]; omega, ?_⟩
  refine wp_lc (fun pre acc S' => S' = S1 ∧ ∃ l : List Int, acc = l.map .int ∧ l.length ≤ pre.length ∧ ∀ i ∈ l, 0 ≤ i ∧ i < F) ⟨rfl, [], rfl, Nat.le_refl _, by simp⟩ ?_ ?_
  · rintro pre x post acc S2 ⟨rfl, l, rfl, hl, hb⟩ e
    obtain ⟨rfl, hp⟩ := rg_at e
    have hx : ∃ m : Int, atD [D.int 1, D.int 2, D.int 4, D.int 8] (pre.length : Int) = some (.int m) ∧ 0 < m ∧ m < B64 := by
      have : pre.length = 0 ∨ pre.length = 1 ∨ pre.length = 2 ∨ pre.length = 3 := by omega
      rcases this with z | z | z | z <;> rw [z]
      · exact ⟨1, rfl, by decide, by decide⟩
      · exact ⟨2, rfl, by decide, by decide⟩
      · exact ⟨4, rfl, by decide, by decide⟩
      · exact ⟨8, rfl, by decide, by decide⟩
    obtain ⟨m2, hm2, m20, m21⟩ := hx
    refine ⟨by simp [LINE]; omega, ?_⟩
    try simp [-Bool.exists_bool, -List.contains_eq_mem, List.lookup, fPut, hm2, m20, m21]
    by_cases hc : (1 + d) / m2 % 2 = 1
    · simp [-Bool.exists_bool, -List.contains_eq_mem, List.lookup, fPut, hc]
      refine ⟨l ++ [(pre.length : Int)], by simp, by simp; omega, fun i hi => ?_⟩
      rcases List.mem_append.mp hi with hi | hi
      · exact hb i hi
      · rw [List.mem_singleton] at hi; subst hi; omega
    · simp [-Bool.exists_bool, -List.contains_eq_mem, List.lookup, fPut, hc]
      exact ⟨l, rfl, by omega, hb⟩
  · rintro acc S2 ⟨rfl, l, rfl, hl, hb⟩
    have e1 : (rg 0 F).length = F.toNat := by simp [rg]
    exact q l ⟨by omega, hb⟩ (by omega) _ _ h1 g1 o1
theorem setOf_few {l : List Int} : (setOf l).length ≤ l.length := by
  induction l with
  | nil => simp [setOf]
  | cons x r ih =>
    have : ∀ m : List Int, (insS x m).length ≤ m.length + 1 := fun m => by
      induction m with
      | nil => simp [insS]
      | cons y s ih2 =>
        unfold insS
        split
        · simp
        · split
          · simp
          · simp; omega
    have := this (setOf r)
    simp [setOf]; omega
theorem o_sortedSetR {S : Sto} {l : List Int} {r : Nat} {P : D → Sto → Prop} (g : S[r]? = some (.lst (l.map .int))) (h : l.length < 64) : wp (evOp .sortedSet [.ref r]) S P ↔ P (.tl ((setOf l).map .int)) S := by
  have e : evOp .sortedSet [.ref r] S = .ok (.tl ((setOf l).map .int)) S := by
    show val1 ((items S (.ref r)).bind fun l => (l.mapM D.isInt).bind fun is => if is.length < 64 then some (.tl ((setOf is).map .int)) else none) S = _
    simp only [items, g]
    show val1 (((l.map D.int).mapM D.isInt).bind fun is => if is.length < 64 then some (.tl ((setOf is).map .int)) else none) S = _
    rw [isInts, Option.bind_some, if_pos h]
    rfl
  unfold wp
  rw [e]
  rfl
theorem StA.cuts (h : StA S L P M W) (hd : DkOk W t) (ht : t ≤ 800000000000) (q : ∀ c : List Int, c.length ≤ 5 → DQ Q (.tup (c.map .int)) S L P M W (t + 12)) : wp (callD g0 (n + 3) 140 [.ref (M .dk)]) S Q := by
  refine wp_call (d := fn140) rfl rfl ?_
  show wp (exs g0 (callD g0 _) fn140.body [some (.ref (M .dk)), none, none, none]) _ _
  simp only [fn140, exs, ex, ev, evs, evIt, wp_bind, wp_getVar, wp_pure, ownIf_f, ownIf_t]
  try simp [-Bool.exists_bool, -List.contains_eq_mem, List.lookup, fPut]
  refine h.draw hd (by omega) (by omega) (by decide) fun d d0 d1 S1 k1 h1 g1 o1 => ?_
  try simp [-Bool.exists_bool, -List.contains_eq_mem, List.lookup, fPut]
  refine h1.draw o1 (by omega) (by omega) (by decide) fun b b0 b1 S2 k2 h2 g2 o2 => ?_
  have hx : ∃ m : Int, atD [D.int d, D.int 5] (if b = 3 then 1 else 0) = some (.int m) ∧ 0 ≤ m ∧ m ≤ 5 := by
    by_cases hb : b = 3
    · rw [if_pos hb]; exact ⟨5, rfl, by decide, by decide⟩
    · rw [if_neg hb]; exact ⟨d, rfl, d0, by omega⟩
  obtain ⟨m, hm, m0, m1⟩ := hx
  try simp [-Bool.exists_bool, -List.contains_eq_mem, List.lookup, fPut, hm]
  refine ⟨by simp [rgOk, LINE]; omega, ?_⟩
  refine wp_lc (fun pre acc S' => (∃ l : List Int, acc = l.map .int ∧ l.length = pre.length) ∧ Drs S L P M W (t + 2 + 2 * pre.length) S') ⟨⟨[], rfl, rfl⟩, ⟨k2, h2, g1.trans g2, o2.mono (by first | omega | (simp; omega))⟩⟩ ?_ ?_
  · rintro pre x post acc S3 ⟨⟨l, rfl, hl⟩, k, h3, g3, o3⟩ e
    obtain ⟨rfl, hp⟩ := rg_at e
    refine ⟨by simp [LINE]; omega, ?_⟩
    try simp [-Bool.exists_bool, -List.contains_eq_mem, List.lookup, fPut]
    refine h3.near o3 (by omega) (by omega) (by omega) fun d hd S4 k4 h4 g4 o4 => ?_
    try simp [-Bool.exists_bool, -List.contains_eq_mem, List.lookup, fPut]
    exact ⟨⟨l ++ [d], by simp, by simp [hl]⟩, ⟨_, h4, g3.trans g4, o4.mono (by first | omega | (simp; omega))⟩⟩
  · rintro acc S3 ⟨⟨l, rfl, hl⟩, k, h3, g3, o3⟩
    have e1 : (rg 0 m).length = m.toNat := by simp [rg]
    have h4 := h3.sub (.app (T := [MO.lst (l.map .int)]))
    have s4 : Sub S3 (S3 ++ [MO.lst (l.map .int)]) := .app
    have g4 : (S3 ++ [MO.lst (l.map .int)])[S3.length]? = some (.lst (l.map .int)) := get_new
    try simp [-Bool.exists_bool, -List.contains_eq_mem, List.lookup, fPut, o_sortedSetR g4 (show l.length < 64 by omega)]
    exact q _ (by have := setOf_few (l := l); omega) _ _ h4 (g3.trans (.ofSub s4)) (o3.mono (by omega))
end
theorem lkey_ok {n : Nat} {S : Sto} {row rule : List Int} {Q : D → Sto → Prop} (hm : rule.length ≤ 1000) (hb : ∀ i ∈ rule, 0 ≤ i ∧ i < (row.length : Int)) (q : Q (.int (key row rule)) S) : wp (callD g0 (n + 1) 145 [.tup (row.map .int), .tup (rule.map .int)]) S Q := by
  refine wp_call (d := fn145) rfl rfl ?_
  show wp (exs g0 (callD g0 _) fn145.body [some (.tup (row.map .int)), some (.tup (rule.map .int)), none]) _ _
  simp only [fn145, exs, ex, ev, evs, evIt, wp_bind, wp_getVar, wp_pure, ownIf_f, ownIf_t]
  try simp [-Bool.exists_bool, -List.contains_eq_mem, List.lookup, fPut]
  refine wp_lcM (fun d => match d with | .int i => .int (row.getD i.toNat 0) | _ => .non) (by simp [LINE]; omega) (fun x hx Q' q' => ?_) ?_
  · obtain ⟨i, hi, rfl⟩ := List.mem_map.mp hx
    obtain ⟨h1, h2⟩ := hb i hi
    obtain ⟨d, hd, hd2⟩ := atD_lt (l := row.map D.int) h1 (by simpa using h2)
    rw [List.getElem?_map, List.getElem?_eq_getElem (by omega)] at hd2
    cases hd2
    try simp [-Bool.exists_bool, -List.contains_eq_mem, List.lookup, fPut, hd]
    have e : row.getD i.toNat 0 = row[i.toNat] := by rw [List.getD_eq_getElem?_getD, List.getElem?_eq_getElem (by omega)]; rfl
    simp only [e] at q'
    exact q'
  · have e : (rule.map D.int).map (fun d => match d with | .int i => D.int (row.getD i.toNat 0) | _ => .non) = (rule.map fun i => row.getD i.toNat 0).map D.int := by rw [List.map_map, List.map_map]; rfl
    rw [e]
    exact ⟨_, isInts, q⟩
theorem lpart_ok {S : Sto} {n : Nat} {Q : D → Sto → Prop} {l : List Int} {k : Int} (hl : l.length < 1000) (q : Q (.int (cnt l k)) S) : wp (callD g0 (n + 1) 150 [.tup (l.map .int), .int k]) S Q := by
  refine wp_call (d := fn150) rfl rfl ?_
  show wp (exs g0 (callD g0 _) fn150.body [some (.tup (l.map .int)), some (.int k), none]) _ _
  simp only [fn150, exs, ex, ev, evs, evIt, wp_bind, wp_getVar, wp_pure, ownIf_f, ownIf_t]
  try simp [-Bool.exists_bool, -List.contains_eq_mem, List.lookup, fPut]
  refine wp_lc (fun pre acc S' => S' = S ∧ (acc.length : Int) = cnt (l.take pre.length) k ∧ acc.length ≤ pre.length) ⟨rfl, rfl, Nat.le_refl _⟩ ?_ ?_
  · rintro pre x post acc S1 ⟨rfl, h1, h2⟩ e
    have hp := (split_at e).2
    rw [List.length_map] at hp
    obtain ⟨c, rfl, ht, _⟩ := ints_at e
    refine ⟨by simp [LINE]; omega, ?_⟩
    by_cases hc : c ≤ k <;> simp [hc, ht, cnt_snoc] <;> omega
  · rintro acc S1 ⟨rfl, h1, h2⟩
    rw [List.length_map, List.take_length] at h1
    try simp [-Bool.exists_bool, -List.contains_eq_mem, List.lookup, fPut, h1]
    exact q
end IR

namespace IR
theorem atD_neg1 {α : Type} {l : List α} {x : α} (h : l[l.length - 1]? = some x) : atD l (-1) = some x := by
  have hl := (List.getElem?_eq_some_iff.mp h).1
  unfold atD ixOf
  rw [if_neg (by decide), if_pos (by omega)]
  have e : (-1 + (l.length : Int)).toNat = l.length - 1 := by omega
  rw [e]
  exact h
theorem atD_nat {α : Type} {l : List α} {i : Nat} {x : α} (h : l[i]? = some x) : atD l (i : Int) = some x := by
  have hl := (List.getElem?_eq_some_iff.mp h).1
  unfold atD ixOf
  rw [if_pos (by omega), if_pos (by omega)]
  exact h
def LL.bare (l : LL) : LL := { l with ents := [], unlike := false }
/-- the law's world and the store agree -/
structure Lnk (P : PS) (W : WA) : Prop where
  F : P.F = W.F
  F1 : 1 ≤ W.F
  F4 : W.F ≤ 4
  pn : W.pn = W.past.length
  now : P.now = (W.past.length : Int) - 1
  last : W.past[W.past.length - 1]? = some P.R
  len : W.past.length ≤ 200
  old : P.old = W.old
  old0 : 0 ≤ P.old
  oldn : P.old ≤ P.now
  ns : (P.ns.length : Int) = P.now - P.old
  nums : ∀ p ∈ P.R, p.1 ∈ W.nums
  numl : W.nums.length ≤ 60
  num0 : 0 < W.nums.length
  numb : ∀ x ∈ W.nums, 0 ≤ x ∧ x ≤ 999999
  once : Once P.R
  fit : FitsF P.F P.R
  fits : ∀ p ∈ P.R, Fits p.2
  begun : P.begun = W.begun
  tab : P.tab = W.tab
  ones : W.ones = P.ls.map LL.bare
  tabs : ∀ p ∈ P.tab, p.2 < P.ls.length
  lk : W.lk = false
theorem nodup_sub {α : Type} [DecidableEq α] : ∀ {l m : List α}, l.Nodup → (∀ x ∈ l, x ∈ m) → l.length ≤ m.length
  | [], _, _, _ => Nat.zero_le _
  | x :: r, m, h, s => by
    obtain ⟨h1, h2⟩ := List.nodup_cons.mp h
    have hm := s x (by simp)
    have := nodup_sub (l := r) (m := m.erase x) h2 fun y hy => (List.mem_erase_of_ne (fun e => h1 (by rw [← e]; exact hy))).mpr (s y (by simp [hy]))
    rw [List.length_erase_of_mem hm] at this
    have := List.length_pos_of_mem hm
    simp
    omega
section
variable {S S' : Sto} {L L' : PR → Nat} {P P' : PS} {M M' : WR → Nat} {W W' : WA} {n : Nat} {Q : D → Sto → Prop} {t : Int}
theorem Lnk.pos (k : Lnk P W) : 0 < W.past.length := by have := lt_of_getL k.last; omega
theorem Lnk.rlen (k : Lnk P W) : P.R.length < 64 := by
  have := nodup_sub (l := P.R.map fun (p : Int × Row) => p.1) (m := W.nums) k.once fun x hx => by
    obtain ⟨p, hp, rfl⟩ := List.mem_map.mp hx
    exact k.nums p hp
  have := k.numl
  simp at *; omega
theorem Lnk.dr (k : Lnk P W) {d : Int × Int × Int} : Lnk P (W.dr d) := ⟨k.F, k.F1, k.F4, k.pn, k.now, k.last, k.len, k.old, k.old0, k.oldn, k.ns, k.nums, k.numl, k.num0, k.numb, k.once, k.fit, k.fits, k.begun, k.tab, k.ones, k.tabs, k.lk⟩
def WA.push (W : WA) (T : Tab) : WA := { W with past := W.past ++ [T], pn := W.pn + 1 }
theorem Lnk.put (k : Lnk P W) {num : Int} {row : Row} (hn : num ∈ W.nums) (hr : (row.length : Int) = P.F) (hf : Fits row) (hl : W.past.length ≤ 199) : Lnk (P.put num row) (W.push (rPut P.R num row)) := by
  have k0 := k.pos
  have hin : ∀ p ∈ rPut P.R num row, p ∈ P.R ∨ (p.1 = num ∧ p.2 = row) := fun p hp => by
    unfold rPut at hp
    split at hp
    · obtain ⟨x, hx, rfl⟩ := List.mem_map.mp hp
      by_cases e : x.1 = num
      · rw [if_pos e]; exact .inr ⟨e, rfl⟩
      · rw [if_neg e]; exact .inl hx
    · rcases List.mem_append.mp hp with hp | hp
      · exact .inl hp
      · rw [List.mem_singleton] at hp; subst hp; exact .inr ⟨rfl, rfl⟩
  refine ⟨k.F, k.F1, k.F4, by simp [WA.push, k.pn], by simp [WA.push, PS.put, k.now], by simp [WA.push, PS.put], by simp [WA.push]; omega, k.old, k.old0, by have := k.oldn; simp only [PS.put]; omega, by have := k.ns; simp [PS.put]; omega, fun p hp => ?_, k.numl, k.num0, k.numb, k.once.put, fun p hp => ?_, fun p hp => ?_, k.begun, k.tab, k.ones, k.tabs, k.lk⟩
  · rcases hin p hp with h | ⟨h, _⟩
    · exact k.nums p h
    · rw [h]; exact hn
  · rcases hin p hp with h | ⟨_, h⟩
    · exact k.fit p h
    · rw [h]; exact hr
  · rcases hin p hp with h | ⟨_, h⟩
    · exact k.fits p h
    · rw [h]; exact hf
theorem Lnk.drop (k : Lnk P W) {num : Int} (hl : W.past.length ≤ 199) : Lnk (P.drop num) (W.push (rDrop P.R num)) := by
  have k0 := k.pos
  have hin : ∀ p ∈ rDrop P.R num, p ∈ P.R := fun p hp => (List.mem_filter.mp hp).1
  exact ⟨k.F, k.F1, k.F4, by simp [WA.push, k.pn], by simp [WA.push, PS.drop, k.now], by simp [WA.push, PS.drop], by simp [WA.push]; omega, k.old, k.old0, by have := k.oldn; simp only [PS.drop]; omega, by have := k.ns; simp [PS.drop]; omega, fun p hp => k.nums p (hin p hp), k.numl, k.num0, k.numb, k.once.drop, fun p hp => k.fit p (hin p hp), fun p hp => k.fits p (hin p hp), k.begun, k.tab, k.ones, k.tabs, k.lk⟩
def Mp (M : WR → Nat) (i a : Nat) : WR → Nat
  | .pt j => if j = i then a else M (.pt j)
  | r => M r
theorem StA.pastAdd {S0 : Sto} {L0 : PR → Nat} {P0 : PS} {M0 : WR → Nat} {W0 : WA} (h : StA S L P M W) (g : GoA S0 L0 P0 M0 W0 S L P M W) (hp : W.pn = W.past.length) {a : Nat} {T : Tab} (ha : S0.length ≤ a) (f : FreeA L P M W a) (e : S[a]? = some (.dK false (encK T))) :
    StA (S.set (M .past) (.lst (((List.range W.pn).map fun i => .ref (M (.pt i))) ++ [.ref a]))) L P (Mp M W.past.length a) (W.push T) ∧ GoA S0 L0 P0 M0 W0 (S.set (M .past) (.lst (((List.range W.pn).map fun i => .ref (M (.pt i))) ++ [.ref a]))) L P (Mp M W.past.length a) (W.push T) := by
  generalize hJ : W.past.length = J at *
  have gJ : ∀ i, (W.past ++ [T])[i]? = if i = J then some T else W.past[i]? := fun i => by rw [getJ, hJ]
  obtain ⟨h1, g1⟩ := h.adoptG g (M' := Mp M J a) (W' := { W with past := W.past ++ [T] }) (fun r => r = .pt J) (fun r z => by subst z; simpa [Mp] using ha) (fun r z => by subst z; simp [wobj, hJ]) (fun r z => by
      subst z
      refine ⟨by simpa [Mp] using f, fun x hx => ?_⟩
      simp only [wobj, gJ, if_pos] at hx
      cases hx
      simpa [Mp] using e) (fun r z => by
      cases r with
      | pt i =>
        have zi : i ≠ J := fun q => z (by rw [q])
        exact ⟨by simp [Mp, zi], by simp [wobj, gJ, zi]⟩
      | past =>
        refine ⟨rfl, ?_⟩
        simp only [wobj, Option.some.injEq, MO.lst.injEq]
        refine List.map_congr_left fun i hi => ?_
        have := List.mem_range.mp hi
        simp only [Mp, if_neg (show i ≠ J by omega)]
      | _ => exact ⟨rfl, rfl⟩) (fun r r' z z' _ => by rw [z, z'])
  have hx : (((List.range W.pn).map fun i => D.ref (M (.pt i))) ++ [D.ref a]) = (List.range (W.pn + 1)).map fun i => D.ref (Mp M J a (.pt i)) := by
    rw [List.range_succ, List.map_append]
    congr 1
    · refine List.map_congr_left fun i hi => ?_
      have := List.mem_range.mp hi
      simp only [Mp, if_neg (show i ≠ J by omega)]
    · simp [Mp, hp]
  obtain ⟨h2, g2⟩ := h1.wset (W' := W.push T) (r := .past) (x := .lst ((List.range (W.pn + 1)).map fun i => .ref (Mp M J a (.pt i)))) rfl (fun r' => by
    cases r' <;> simp [wobj, WA.push, wdKvs])
  rw [hx]
  exact ⟨h2, g1.trans g2⟩
theorem StA.now_ (h : StA S L P M W) (q : Q (.int ((W.pn : Int) - 1)) S) : wp (callD g0 (n + 1) 149 [.ref (M .wd)]) S Q := by
  refine wp_call (d := fn149) rfl rfl ?_
  show wp (exs g0 (callD g0 _) fn149.body [some (.ref (M .wd))]) _ _
  simp only [fn149, exs, ex, ev, evs, evIt, wp_bind, wp_getVar, wp_pure, ownIf_f, ownIf_t]
  try simp [-Bool.exists_bool, -List.contains_eq_mem, List.lookup, fPut, h.iPast, lenD_ref h.past]
  exact q
theorem StA.lastI (h : StA S L P M W) (k : Lnk P W) : ixD S (.ref (M .past)) (.int (-1)) = some (.ref (M (.pt (W.past.length - 1)))) := by
  rw [ixD_ref h.past]
  have := k.pn
  have := k.pos
  refine atD_neg1 ?_
  simp only [List.length_map, List.length_range, List.getElem?_map]
  rw [List.getElem?_range (by omega)]
  simp [k.pn]
/-- a write done -/
abbrev PutQ (Q : D → Sto → Prop) (S : Sto) (L : PR → Nat) (P : PS) (M : WR → Nat) (W : WA) (t : Int) : Prop := ∀ S' P' M' W', StA S' L P' M' W' → GoA S L P M W S' L P' M' W' → Lnk P' W' → W'.past.length = W.past.length + 1 → W'.nums = W.nums → W'.ones = W.ones → W'.tab = W.tab → P'.ls = P.ls → W'.F = W.F → DkOk W' t → Q (.bl true) S'
theorem StA.put (h : StA S L P M W) (k : Lnk P W) (hl : W.past.length ≤ 199) (hd : DkOk W t) (ht : t ≤ 700000000000) (q : PutQ Q S L P M W (t + 20)) : wp (callD g0 (n + 4) 152 [.ref (M .dk), .ref (M .wd)]) S Q := by
  have hnl := k.numl
  have hn0 := k.num0
  refine wp_call (d := fn152) rfl rfl ?_
  show wp (exs g0 (callD g0 _) fn152.body [some (.ref (M .dk)), some (.ref (M .wd)), none, none, none]) _ _
  simp only [fn152, exs, ex, ev, evs, evIt, wp_bind, wp_getVar, wp_pure, ownIf_f, ownIf_t]
  try simp [-Bool.exists_bool, -List.contains_eq_mem, List.lookup, fPut, h.iNums, lenD_ref h.nums]
  refine h.draw hd (by omega) (by omega) (by simp only [B64]; omega) fun d d0 d1 S1 k1 h1 g1 o1 => ?_
  obtain ⟨x, hx, hx2⟩ := atD_lt (l := W.nums.map D.int) d0 (by simpa using d1)
  rw [List.getElem?_map, List.getElem?_eq_getElem (by omega)] at hx2
  cases hx2
  have hmem : W.nums[d.toNat] ∈ W.nums := List.getElem_mem _
  generalize W.nums[d.toNat] = num at hx hmem
  have gn : S1[M .nums]? = some (.lst (W.nums.map .int)) := h1.nums
  try simp [-Bool.exists_bool, -List.contains_eq_mem, List.lookup, fPut, ixD_ref gn, hx, h1.iF]
  refine h1.new_row o1 (by omega) (by have := k.F1; omega) k.F4 fun row rl rf S2 k2 h2 g2 o2 => ?_
  rw [dr_dr] at h2 g2 o2
  have kk : Lnk P (W.dr k2) := k.dr
  have g12 := g1.trans g2
  have gpt := h2.pt k.last
  try simp [-Bool.exists_bool, -List.contains_eq_mem, List.lookup, fPut, own_encR, h2.iPast, h2.lastI kk, o_dict gpt]
  have s3 : Sub S2 (S2 ++ [MO.dK false (encK P.R)]) := .app
  have h3 := h2.sub s3
  have f3 := h2.fresh (Nat.le_refl S2.length)
  have e3 : (S2 ++ [MO.dK false (encK P.R)])[S2.length]? = some (.dK false (encK P.R)) := get_new
  have hRl := k.rlen
  rw [encK_put, encK_len]
  refine ⟨by simp only [LINE]; omega, ?_⟩
  have s4 : Sub S2 (S2 ++ [MO.dK false (encK (rPut P.R num row))]) := .app
  have h4 := h2.sub s4
  have g4 := g12.trans (GoA.ofSub s4)
  have e4 : (S2 ++ [MO.dK false (encK (rPut P.R num row))])[S2.length]? = some (.dK false (encK (rPut P.R num row))) := get_new
  generalize S2 ++ [MO.dK false (encK (rPut P.R num row))] = S4 at h4 g4 e4 ⊢
  have gp4 := h4.past
  have hpn := kk.pn
  try simp [-Bool.exists_bool, -List.contains_eq_mem, List.lookup, fPut, h4.iPast, wp_recvL gp4, o_append gp4]
  have hpn2 := k.pn
  have hpl := k.len
  refine ⟨by simp only [LINE]; omega, ?_⟩
  obtain ⟨h5, g5⟩ := h4.pastAdd g4 hpn g12.len f3 e4
  rw [dr_pn, dr_past] at h5 g5
  have l5 : Lnk (P.put num row) ((W.dr k2).push (rPut P.R num row)) := kk.put (row := row) hmem (by rw [k.F]; exact rl) rf hl
  generalize S4.set (M .past) (.lst (((List.range W.pn).map fun i => .ref (M (.pt i))) ++ [.ref S2.length])) = S5 at h5 g5 ⊢
  have i5 : ixD S5 (.ref (M .wd)) (.str tx_8cd892) = some (.ref (L .st)) := h5.iStore
  try simp [-Bool.exists_bool, -List.contains_eq_mem, List.lookup, fPut, i5, wp_methM h5.p.st, own_encR]
  refine ⟨79, rfl, h5.p.put (by have := k.ns; have := k.now; have := k.old0; omega) (by omega) fun S6 r6 p6 => ?_⟩
  obtain ⟨h6, g6⟩ := h5.pstep r6 p6
  try simp [-Bool.exists_bool, -List.contains_eq_mem, List.lookup, fPut]
  refine StA.now_ (M := Mp M W.past.length S2.length) h6 ?_
  have ee : ((P.now + 1) == (((W.dr k2).push (rPut P.R num row)).pn : Int) - 1) = true := by simp [WA.push, k.now, k.pn]
  try simp [-Bool.exists_bool, -List.contains_eq_mem, List.lookup, fPut]
  rw [ee]
  refine q _ _ _ _ h6 (g5.trans g6) l5 (by simp [WA.push]) rfl rfl rfl rfl rfl ⟨o2.1, ?_⟩
  have := o2.2
  show k2.2.1 ≤ _
  simp only [dr_dk] at this
  omega
end
end IR

namespace IR
section
variable {S S' : Sto} {L L' : PR → Nat} {P P' : PS} {M M' : WR → Nat} {W W' : WA} {n : Nat} {Q : D → Sto → Prop} {t : Int}
theorem StA.drop (h : StA S L P M W) (k : Lnk P W) (hl : W.past.length ≤ 199) (hd : DkOk W t) (ht : t ≤ 700000000000) (q : PutQ Q S L P M W (t + 20)) : wp (callD g0 (n + 5) 143 [.ref (M .dk), .ref (M .wd)]) S Q := by
  have hRl := k.rlen
  have gpt := h.pt k.last
  have sl : (srt P.R).length = P.R.length := by simp [srt, sortBy_len]
  refine wp_call (d := fn143) rfl rfl ?_
  show wp (exs g0 (callD g0 _) fn143.body [some (.ref (M .dk)), some (.ref (M .wd)), none, none, none]) _ _
  simp only [fn143, exs, ex, ev, evs, evIt, wp_bind, wp_getVar, wp_pure, ownIf_f, ownIf_t]
  try simp [-Bool.exists_bool, -List.contains_eq_mem, List.lookup, fPut, h.iPast, h.lastI k, o_sortedK gpt, srtK_enc hRl]
  have es : (srt P.R).map (fun p => D.int p.1) = ((srt P.R).map fun p => p.1).map D.int := by rw [List.map_map]; rfl
  rw [es]
  have s1 : Sub S (S ++ [MO.lst (((srt P.R).map fun p => p.1).map D.int)]) := .app
  have h1 := h.sub s1
  have g1 : GoA S L P M W (S ++ [MO.lst (((srt P.R).map fun p => p.1).map D.int)]) L P M W := .ofSub s1
  have e1 : (S ++ [MO.lst (((srt P.R).map fun p => p.1).map D.int)])[S.length]? = some (.lst (((srt P.R).map fun p => p.1).map D.int)) := get_new
  have f1 := h.fresh (Nat.le_refl S.length)
  generalize S ++ [MO.lst (((srt P.R).map fun p => p.1).map D.int)] = S1 at h1 g1 e1 ⊢
  have ee := eqD_emp e1
  by_cases hR : P.R = []
  · have : (((srt P.R).map fun p => p.1)).isEmpty = true := by rw [hR]; rfl
    rw [this] at ee
    try simp [-Bool.exists_bool, -List.contains_eq_mem, List.lookup, fPut, ee]
    refine h1.put k hl hd ht fun S' P' M' W' h' g' k' a1 a2 a3 a4 a5 a6 a7 => ?_
    try simp [-Bool.exists_bool, -List.contains_eq_mem, List.lookup, fPut]
    exact q S' P' M' W' h' (g1.trans g') k' a1 a2 a3 a4 a5 a6 a7
  · have hpos : 0 < P.R.length := List.length_pos_iff.mpr hR
    have : (((srt P.R).map fun p => p.1)).isEmpty = false := by
      rw [List.isEmpty_eq_false_iff]
      intro z
      have z2 := congrArg List.length z
      rw [List.length_map, sl, List.length_nil] at z2
      omega
    rw [this] at ee
    try simp [-Bool.exists_bool, -List.contains_eq_mem, List.lookup, fPut, ee, lenD_ref e1]
    refine h1.draw hd (by omega) (by omega) (by simp only [B64]; omega) fun d d0 d1 S2 k2 h2 g2 o2 => ?_
    have e2 := g2.keep _ _ f1 e1
    have g12 := g1.trans g2
    obtain ⟨x, hx, hx2⟩ := atD_lt (l := ((srt P.R).map fun p => p.1).map D.int) d0 (by simpa using d1)
    rw [List.getElem?_map, List.getElem?_map] at hx2
    obtain ⟨y, hy, rfl⟩ := Option.map_eq_some_iff.mp hx2
    obtain ⟨p, hp, rfl⟩ := Option.map_eq_some_iff.mp hy
    have hpR : p ∈ P.R := sortBy_mem.mp (List.mem_of_getElem? hp)
    have hget := once_get k.once hpR
    have kk : Lnk P (W.dr k2) := k.dr
    have gpt2 := h2.pt k.last
    have hg1 : dGet (encK P.R) (.inl p.1) = some (encR p.2) := by rw [encK_get, hget]; rfl
    have hx' : atD (List.map (D.int ∘ fun p : Int × Row => p.1) (srt P.R)) d = some (.int p.1) := by rw [← List.map_map]; exact hx
    try simp [-Bool.exists_bool, -List.contains_eq_mem, List.lookup, fPut, ixD_ref e2, hx', h2.iPast, h2.lastI kk, o_dict gpt2]
    have f3 := h2.fresh (Nat.le_refl S2.length)
    have e3 : (S2 ++ [MO.dK false (encK P.R)])[S2.length]? = some (.dK false (encK P.R)) := get_new
    try simp [-Bool.exists_bool, -List.contains_eq_mem, List.lookup, fPut, wp_recvK e3, o_pop1 e3 hg1, encK_drop]
    have s4 : Sub S2 (S2 ++ [MO.dK false (encK (rDrop P.R p.1))]) := .app
    have h4 := h2.sub s4
    have g4 := g12.trans (GoA.ofSub s4)
    have e4 : (S2 ++ [MO.dK false (encK (rDrop P.R p.1))])[S2.length]? = some (.dK false (encK (rDrop P.R p.1))) := get_new
    generalize S2 ++ [MO.dK false (encK (rDrop P.R p.1))] = S4 at h4 g4 e4 ⊢
    have gp4 := h4.past
    have hpn := kk.pn
    have hpn2 := k.pn
    have hpl := k.len
    try simp [-Bool.exists_bool, -List.contains_eq_mem, List.lookup, fPut, h4.iPast, wp_recvL gp4, o_append gp4]
    refine ⟨by simp only [LINE]; omega, ?_⟩
    obtain ⟨h5, g5⟩ := h4.pastAdd g4 hpn g12.len f3 e4
    rw [dr_pn, dr_past] at h5 g5
    have l5 : Lnk (P.drop p.1) ((W.dr k2).push (rDrop P.R p.1)) := kk.drop hl
    generalize S4.set (M .past) (.lst (((List.range W.pn).map fun i => .ref (M (.pt i))) ++ [.ref S2.length])) = S5 at h5 g5 ⊢
    have i5 : ixD S5 (.ref (M .wd)) (.str tx_8cd892) = some (.ref (L .st)) := h5.iStore
    try simp [-Bool.exists_bool, -List.contains_eq_mem, List.lookup, fPut, i5, wp_methM h5.p.st]
    refine ⟨73, rfl, h5.p.drop (by have := k.ns; have := k.now; have := k.old0; omega) hget fun S6 r6 p6 => ?_⟩
    obtain ⟨h6, g6⟩ := h5.pstep r6 p6
    try simp [-Bool.exists_bool, -List.contains_eq_mem, List.lookup, fPut]
    refine StA.now_ (M := Mp M W.past.length S2.length) h6 ?_
    have ee : ((P.now + 1) == (((W.dr k2).push (rDrop P.R p.1)).pn : Int) - 1) = true := by simp [WA.push, k.now, k.pn]
    try simp [-Bool.exists_bool, -List.contains_eq_mem, List.lookup, fPut]
    rw [ee]
    refine q _ _ _ _ h6 (g5.trans g6) l5 (by simp [WA.push]) rfl rfl rfl rfl rfl ⟨o2.1, ?_⟩
    have := o2.2
    show k2.2.1 ≤ _
    simp only [dr_dk] at this
    omega
/-- writes done -/
structure Wrt (S0 : Sto) (L : PR → Nat) (P : PS) (M : WR → Nat) (W : WA) (t : Int) (m : Nat) (S' : Sto) (P' : PS) (M' : WR → Nat) (W' : WA) : Prop where
  h : StA S' L P' M' W'
  g : GoA S0 L P M W S' L P' M' W'
  k : Lnk P' W'
  le : W'.past.length ≤ W.past.length + m
  nums : W'.nums = W.nums
  ones : W'.ones = W.ones
  tab : W'.tab = W.tab
  ls : P'.ls = P.ls
  F : W'.F = W.F
  o : DkOk W' (t + 30 * m)
theorem StA.writes (h : StA S L P M W) (k : Lnk P W) (hd : DkOk W t) (ht : t ≤ 600000000000) {m : Int} (h0 : 0 ≤ m) (hm : m ≤ 1000) (q : ∀ S' P' M' W', Wrt S L P M W t m.toNat S' P' M' W' → Q (.bl true) S') : wp (callD g0 (n + 6) 163 [.ref (M .dk), .ref (M .wd), .int m]) S Q := by
  have hpn := k.pn
  have hlen := k.len
  have hpos := k.pos
  refine wp_call (d := fn163) rfl rfl ?_
  show wp (exs g0 (callD g0 _) fn163.body [some (.ref (M .dk)), some (.ref (M .wd)), some (.int m), none]) _ _
  simp only [fn163, exs, ex, ev, evs, evIt, wp_bind, wp_getVar, wp_pure, ownIf_f, ownIf_t]
  try simp [-Bool.exists_bool, -List.contains_eq_mem, List.lookup, fPut]
  refine h.now_ ?_
  try simp [-Bool.exists_bool, -List.contains_eq_mem, List.lookup, fPut]
  generalize hN : (if 199 - ((W.pn : Int) - 1) < m then 199 - ((W.pn : Int) - 1) else m) = N
  have hN2 : N ≤ m ∧ N ≤ 200 - W.past.length := by
    rw [← hN]
    split <;> omega
  refine ⟨by simp [rgOk, LINE]; omega, ?_⟩
  refine wp_for (fun pre ρ S' => (∃ x3, ρ = [some (.ref (M .dk)), some (.ref (M .wd)), some (.int m), x3]) ∧ ∃ P' M' W', Wrt S L P M W t pre.length S' P' M' W') ⟨⟨_, rfl⟩, P, M, W, h, .refl, k, by simp, rfl, rfl, rfl, rfl, rfl, by simpa using hd⟩ ?_ ?_
  · rintro pre x post ρ S1 ⟨⟨x3, rfl⟩, P1, M1, W1, w⟩ e
    obtain ⟨rfl, hp⟩ := rg_at e
    have em : M1 .dk = M .dk := w.g.fixM .dk rfl
    have ew : M1 .wd = M .wd := w.g.fixM .wd rfl
    have fin : ∀ S2 P2 M2 W2, StA S2 L P2 M2 W2 → GoA S L P M W S2 L P2 M2 W2 → Lnk P2 W2 → W2.past.length ≤ W.past.length + (pre.length + 1) → W2.nums = W.nums → W2.ones = W.ones → W2.tab = W.tab → P2.ls = P.ls → W2.F = W.F → DkOk W2 (t + 30 * (pre.length + 1)) → Wrt S L P M W t (pre.length + 1) S2 P2 M2 W2 := fun S2 P2 M2 W2 a b c d e f g i j l => ⟨a, b, c, d, e, f, g, i, j, by simpa using l⟩
    try simp [-Bool.exists_bool, -List.contains_eq_mem, List.lookup, fPut]
    rw [← em, ← ew]
    have hle := w.le
    refine w.h.draw w.o (by omega) (by omega) (by decide) fun d d0 d1 S2 k2 h2 g2 o2 => ?_
    have hc : d = 0 ∨ d = 1 ∨ d = 2 := by omega
    have go : PutQ (fun d S' => d = .bl true ∧ ∃ P' M' W', Wrt S L P M W t (pre.length + 1) S' P' M' W') S2 L P1 M1 (W1.dr k2) (t + 30 * pre.length + 1 + 20) := fun S3 P3 M3 W3 h3 g3 k3 a1 a2 a3 a4 a5 a6 a7 =>
      ⟨rfl, P3, M3, W3, fin _ _ _ _ h3 ((w.g.trans g2).trans g3) k3 (by rw [a1]; simp; omega) (a2.trans w.nums) (a3.trans w.ones) (a4.trans w.tab) (a5.trans w.ls) (a6.trans w.F) (a7.mono (by omega))⟩
    have a1 : wp (callD g0 (n + 5) 152 [.ref (M1 .dk), .ref (M1 .wd)]) S2 (fun d S' => d = .bl true ∧ ∃ P' M' W', Wrt S L P M W t (pre.length + 1) S' P' M' W') := h2.put w.k.dr (by simp; omega) o2 (by omega) go
    have a2 : wp (callD g0 (n + 5) 143 [.ref (M1 .dk), .ref (M1 .wd)]) S2 (fun d S' => d = .bl true ∧ ∃ P' M' W', Wrt S L P M W t (pre.length + 1) S' P' M' W') := h2.drop w.k.dr (by simp; omega) o2 (by omega) go
    rcases hc with rfl | rfl | rfl
    · simp [-Bool.exists_bool, -List.contains_eq_mem, List.lookup, fPut]
      refine wp_mono a1 fun d S3 z => ?_
      obtain ⟨rfl, P3, M3, W3, w3⟩ := z
      try simp [-Bool.exists_bool, -List.contains_eq_mem, List.lookup, fPut]
      exact ⟨P3, M3, W3, w3⟩
    · simp [-Bool.exists_bool, -List.contains_eq_mem, List.lookup, fPut]
      refine wp_mono a1 fun d S3 z => ?_
      obtain ⟨rfl, P3, M3, W3, w3⟩ := z
      try simp [-Bool.exists_bool, -List.contains_eq_mem, List.lookup, fPut]
      exact ⟨P3, M3, W3, w3⟩
    · simp [-Bool.exists_bool, -List.contains_eq_mem, List.lookup, fPut]
      refine wp_mono a2 fun d S3 z => ?_
      obtain ⟨rfl, P3, M3, W3, w3⟩ := z
      try simp [-Bool.exists_bool, -List.contains_eq_mem, List.lookup, fPut]
      exact ⟨P3, M3, W3, w3⟩
  · rintro ρ S1 ⟨⟨x3, rfl⟩, P1, M1, W1, w⟩
    have e1 : (rg 0 N).length = N.toNat := by simp [rg]
    rw [e1] at w
    try simp [-Bool.exists_bool, -List.contains_eq_mem, List.lookup, fPut]
    exact q _ _ _ _ ⟨w.h, w.g, w.k, by have := w.le; omega, w.nums, w.ones, w.tab, w.ls, w.F, w.o.mono (by omega)⟩
end
end IR

namespace IR
section
variable {S S' : Sto} {L L' : PR → Nat} {P P' : PS} {M M' : WR → Nat} {W W' : WA} {n : Nat} {Q : D → Sto → Prop} {t : Int}
def L0 (b : Nat) : PR → Nat
  | .st => b + 1
  | .rt => b + 2
  | .nr => b + 3
  | .lt => b + 4
  | _ => 0
def M0 (a b : Nat) : WR → Nat
  | .dk => a
  | .wd => b + 8
  | .past => b + 6
  | .pt _ => b + 5
  | .lists => b + 7
  | .nums => b + 9
  | _ => 0
def P0 (F : Int) : PS := ⟨F, [], [], 0, 0, [], [], 0⟩
def W0 (k : Int × Int × Int) (F : Int) (nums : List Int) : WA := ⟨k, F, 0, 0, nums, [[]], [], [], false, 1⟩
theorem start_holds {a b : Nat} {k : Int × Int × Int} {F : Int} {nums : List Int} (hab : a < b) (h1 : S[a]? = some (.dK false (dkKvs k))) (h2 : S[b + 1]? = some (stIns F (b + 2) (b + 3) (b + 4) 0 0 0)) (h3 : S[b + 2]? = some (.dK false [])) (h4 : S[b + 3]? = some (.lst [])) (h5 : S[b + 4]? = some (.dK false []))
    (h6 : S[b + 5]? = some (.dK false [])) (h7 : S[b + 6]? = some (.lst [.ref (b + 5)])) (h8 : S[b + 7]? = some (.dK false [])) (h9 : S[b + 8]? = some (.dK false (wdKvs (b + 1) (M0 a b) (W0 k F nums)))) (h10 : S[b + 9]? = some (.lst (nums.map .int))) :
    StA S (L0 b) (P0 F) (M0 a b) (W0 k F nums) ∧ ∀ x, x < b → x ≠ a → FreeA (L0 b) (P0 F) (M0 a b) (W0 k F nums) x := by
  have pl : ∀ r, (pobj (L0 b) (P0 F) r).isSome = true → r = .st ∨ r = .rt ∨ r = .nr ∨ r = .lt := fun r hr => by
    cases r <;> simp [pobj, P0] at hr ⊢
  have wl : ∀ r, (wobj (b + 1) (M0 a b) (W0 k F nums) r).isSome = true → r = .dk ∨ r = .wd ∨ r = .past ∨ r = .pt 0 ∨ r = .lists ∨ r = .nums := fun r hr => by
    cases r with
    | pt i =>
      cases i with
      | zero => simp
      | succ i => simp [wobj, W0] at hr
    | one i => simp [wobj, W0] at hr
    | om i => simp [wobj, W0] at hr
    | _ => simp
  refine ⟨⟨⟨fun r x hx => ?_, fun r r' hr hr' e => ?_⟩, ⟨fun r x hx => ?_, fun r r' hr hr' e => ?_⟩, fun r hr q hq e => ?_⟩, fun x hx hxa => ⟨fun r hr e => ?_, fun r hr e => ?_⟩⟩
  · rcases pl r (by rw [hx]; rfl) with rfl | rfl | rfl | rfl <;> cases hx
    · exact h2
    · exact h3
    · exact h4
    · exact h5
  · rcases pl r hr with rfl | rfl | rfl | rfl <;> rcases pl r' hr' with rfl | rfl | rfl | rfl <;> simp [L0] at e ⊢
  · have hx : wobj (b + 1) (M0 a b) (W0 k F nums) r = some x := hx
    rcases wl r (by rw [hx]; rfl) with rfl | rfl | rfl | rfl | rfl | rfl
    · cases hx; exact h1
    · cases hx; exact h9
    · cases hx; exact h7
    · simp [wobj, W0] at hx; subst hx; exact h6
    · cases hx; exact h8
    · cases hx; exact h10
  · rcases wl r hr with rfl | rfl | rfl | rfl | rfl | rfl <;> rcases wl r' hr' with rfl | rfl | rfl | rfl | rfl | rfl <;> simp [M0] at e ⊢ <;> omega
  · rcases wl r hr with rfl | rfl | rfl | rfl | rfl | rfl <;> rcases pl q hq with rfl | rfl | rfl | rfl <;> simp [M0, L0] at e <;> omega
  · rcases pl r hr with rfl | rfl | rfl | rfl <;> simp [L0] at e <;> omega
  · rcases wl r hr with rfl | rfl | rfl | rfl | rfl | rfl <;> simp [M0] at e <;> omega
theorem start_lnk {k : Int × Int × Int} {F : Int} {nums : List Int} (F1 : 1 ≤ F) (F4 : F ≤ 4) (n1 : nums.length ≤ 60) (n0 : 0 < nums.length) (nb : ∀ x ∈ nums, 0 ≤ x ∧ x ≤ 999999) : Lnk (P0 F) (W0 k F nums) :=
  ⟨rfl, F1, F4, rfl, rfl, rfl, by simp [W0], rfl, by simp [P0], by simp [P0], rfl, by simp [P0], n1, n0, nb, by simp [P0, Once], by simp [P0, FitsF], by simp [P0], rfl, rfl, rfl, by simp [P0], rfl⟩
/-- a deck that stands ahead of other things -/
structure DkAt (S : Sto) (a : Nat) (k : Int × Int × Int) (m : Int) (T : Sto) : Prop where
  len : T.length = S.length
  at_ : T[a]? = some (.dK false (dkKvs k))
  rest : ∀ x y, x ≠ a → S[x]? = some y → T[x]? = some y
  k0 : 0 ≤ k.2.1
  k1 : k.2.1 ≤ m
theorem DkAt.draw {a : Nat} {k : Int × Int × Int} {T U : Sto} {b : Int} (h : DkAt S a k b T) (hb : b ≤ 100000000) {m : Int} (h0 : 0 < m) (hm : m < B64) (q : ∀ (d : Int) (k' : Int × Int × Int) T', 0 ≤ d → d < m → DkAt S a k' (b + 1) T' → Q (.int d) (T' ++ U)) : wp (callD g0 (n + 1) 142 [.ref a, .int m]) (T ++ U) Q := by
  have hal := lt_of_get h.at_
  refine draw0 (get_app h.at_ U) h.k0 (Int.le_trans h.k1 (by omega)) h0 hm fun d k' d0 d1 e0 e1 => ?_
  rw [List.set_append_left _ _ hal]
  exact q d k' _ d0 d1 ⟨by rw [List.length_set]; exact h.len, List.getElem?_set_self hal, fun x y hx hy => by rw [List.getElem?_set_ne (Ne.symm hx)]; exact h.rest x y hx hy, e0, by have := h.k1; omega⟩
theorem init_ok' {S : Sto} {F : Int} {Q : D → Sto → Prop} (q : Q .non (S ++ [stIns F (S.length + 1) (S.length + 2) (S.length + 3) 0 0 0, .dK false [], .lst [], .dK false []])) : wp (callD g0 (n + 1) 71 [.ref S.length, .int F]) (S ++ [.ins 0 []]) Q := by
  refine wp_call (d := fn71) rfl rfl ?_
  show wp (exs g0 (callD g0 _) fn71.body [some (.ref S.length), some (.int F)]) _ _
  simp only [fn71, exs, ex, ev, evs, evIt, wp_bind, wp_getVar, wp_pure, ownIf_f, ownIf_t]
  try simp [-Bool.exists_bool, -List.contains_eq_mem, List.lookup, fPut, wp_setAttrM]
  exact q
theorem o_disp {S : Sto} {ks : List Txt} {l : List D} {P : D → Sto → Prop} : wp (evOp (.disp ks) l) S P ↔ P (.ref S.length) (S ++ [.dK false ((ks.zip l).map fun p => (.inr p.1, p.2))]) := by
  unfold wp
  have e : evOp (.disp ks) l S = .ok (.ref S.length) (S ++ [.dK false ((ks.zip l).map fun p => (.inr p.1, p.2))]) := by unfold evOp; rfl
  rw [e]
  rfl
theorem cut_drop {α : Type} {l : List α} {m : Int} (h : 0 ≤ m) : cut l (some m) none = l.drop m.toNat := by
  unfold cut sIx
  simp only [if_pos h]
  by_cases e : m.toNat ≤ l.length
  · rw [show min m.toNat l.length = m.toNat by omega, List.take_of_length_le (by simp)]
  · rw [show min m.toNat l.length = l.length by omega, List.drop_eq_nil_of_le (Nat.le_refl _), List.drop_eq_nil_of_le (by omega)]
    simp
theorem world_ok {a : Nat} {k : Int × Int × Int} (hw : S[a]? = some (.dK false (dkKvs k))) (hd0 : 0 ≤ k.2.1) (hd1 : k.2.1 ≤ 1000)
    (q : ∀ S' b k' F nums, StA S' (L0 b) (P0 F) (M0 a b) (W0 k' F nums) → Lnk (P0 F) (W0 k' F nums) → (∀ x y, x ≠ a → S[x]? = some y → S'[x]? = some y) → (∀ x, x < S.length → x ≠ a → FreeA (L0 b) (P0 F) (M0 a b) (W0 k' F nums) x) → b = S.length → DkOk (W0 k' F nums) 2000 → Q (.ref (b + 8)) S') : wp (callD g0 (n + 3) 162 [.ref a]) S Q := by
  have hal := lt_of_get hw
  have D0 : DkAt S a k 1000 S := ⟨rfl, hw, fun x y _ h => h, hd0, hd1⟩
  refine wp_call (d := fn162) rfl rfl ?_
  show wp (exs g0 (callD g0 _) fn162.body [some (.ref a), none, none, none, none]) _ _
  simp only [fn162, exs, ex, ev, evs, evIt, wp_bind, wp_getVar, wp_pure, ownIf_f, ownIf_t]
  try simp [-Bool.exists_bool, -List.contains_eq_mem, List.lookup, fPut]
  rw [show S = S ++ [] by simp]
  refine D0.draw (by omega) (by omega) (by decide) fun d k1 T1 d0 d1 D1 => ?_
  rw [List.append_nil]
  try simp [-Bool.exists_bool, -List.contains_eq_mem, List.lookup, fPut]
  refine D1.draw (by omega) (by omega) (by decide) fun d2 k2 T2 d20 d21 D2 => ?_
  try simp [-Bool.exists_bool, -List.contains_eq_mem, List.lookup, fPut]
  refine ⟨.inr (by decide), D2.draw (by omega) (by omega) (by decide) fun d3 k3 T3 d30 d31 D3 => ?_⟩
  generalize hN : d2 * 2 + 50 * (if d3 = 5 then 1 else 0) = N
  have hN2 : 0 ≤ N ∧ N ≤ 54 := by rw [← hN]; split <;> omega
  have lT : T1.length = S.length := D1.len
  have hB : ∀ i : Nat, i < 54 → (i : Int) < 54 := fun i h => by omega
  have l3 : T3.length = S.length := D3.len
  try simp [-Bool.exists_bool, -List.contains_eq_mem, List.lookup, fPut, hN, lT]
  refine ⟨.inl (by decide), by simp [rgOk, LINE]; omega, ?_⟩
  refine wp_for (fun pre ρ S' => (∃ x3, ρ = [some (.ref a), some (.int (1 + d)), some (.ref S.length), x3, none]) ∧ ∃ l : List Int, S' = T3 ++ [.lst (l.map .int)] ∧ l.length = 6 + pre.length ∧ ∀ x ∈ l, 0 ≤ x ∧ x ≤ 999999) ⟨⟨_, rfl⟩, [0, 999999, 7, 6, 999998, 500], rfl, rfl, by decide⟩ ?_ ?_
  · rintro pre x post ρ S4 ⟨⟨x3, rfl⟩, l, rfl, hl, hb⟩ e
    obtain ⟨rfl, hp⟩ := rg_at e
    have hp54 : (pre.length : Int) < 54 := by omega
    have gl : (T3 ++ [MO.lst (l.map .int)])[S.length]? = some (.lst (l.map .int)) := by rw [← l3]; exact get_new
    have hmul : (pre.length : Int) * pre.length ≤ 54 * 54 := by
      have h1 : (pre.length : Int) * pre.length ≤ 54 * pre.length := Int.mul_le_mul_of_nonneg_right (by omega) (by omega)
      omega
    have hmul0 : 0 ≤ (pre.length : Int) * pre.length := Int.mul_nonneg (by omega) (by omega)
    try simp [-Bool.exists_bool, -List.contains_eq_mem, List.lookup, fPut, wp_recvL gl, o_append gl]
    refine ⟨⟨by simp only [B64]; omega, by simp only [B64]; omega⟩, .inl (by decide), by simp [LINE]; omega, ?_⟩
    refine ⟨l ++ [10 + (pre.length : Int) * pre.length + 2 * pre.length], ?_, by simp; omega, fun y hy => ?_⟩
    · rw [List.map_append, ← l3]
      simp
    · rcases List.mem_append.mp hy with hy | hy
      · exact hb y hy
      · rw [List.mem_singleton] at hy; subst hy; omega
  · rintro ρ S4 ⟨⟨x3, rfl⟩, l, rfl, hl, hb2⟩
    have e1 : (rg 0 N).length = N.toNat := by simp [rg]
    have hl2 : 6 ≤ l.length ∧ l.length ≤ 60 := by omega
    try simp [-Bool.exists_bool, -List.contains_eq_mem, List.lookup, fPut]
    rw [wp_runNew (cl := ⟨71, _⟩) rfl]
    refine init_ok' ?_
    try simp [-Bool.exists_bool, -List.contains_eq_mem, List.lookup, fPut, l3]
    rw [o_disp]
    try simp [-Bool.exists_bool, -List.contains_eq_mem, List.lookup, fPut, l3]
    refine D3.draw (by omega) (by omega) (by decide) fun d4 k4 T4 d40 d41 D4 => ?_
    have l4 : T4.length = S.length := D4.len
    generalize hb : S.length = b at *
    have get : ∀ (U : List MO) (i : Nat) (x : MO), U[i]? = some x → (T4 ++ U)[b + i]? = some x := fun U i x h => by
      rw [List.getElem?_append_right (by omega), l4, Nat.add_sub_cancel_left]; exact h
    try simp [-Bool.exists_bool, -List.contains_eq_mem, List.lookup, fPut]
    refine (wp_slR (l := l.map .int) (get _ 0 _ rfl)).mpr ?_
    rw [cut_drop d40, ← List.map_drop]
    generalize hnums : l.drop d4.toNat = nums
    have hnl : 0 < nums.length ∧ nums.length ≤ 60 := by rw [← hnums]; simp; omega
    have hnb : ∀ x ∈ nums, 0 ≤ x ∧ x ≤ 999999 := fun x hx => by rw [← hnums] at hx; exact hb2 x (List.mem_of_mem_drop hx)
    try simp [-Bool.exists_bool, -List.contains_eq_mem, List.lookup, fPut]
    refine (wp_setKs (kvs := [(Sum.inr tx_8cd892, D.ref (b + 1)), (Sum.inr tx_d05b6e, D.int (1 + d)), (Sum.inr [112, 97, 115, 116], D.ref (b + 5 + 1)), (Sum.inr tx_f14b51, D.int 0), (Sum.inr tx_e6dbca, D.ref (b + 5 + 1 + 1)), (Sum.inr tx_d1fe44, D.int 0)]) (get _ 8 _ rfl)).mpr ⟨by simp [LINE], ?_⟩
    have e9 : ∀ (U : List MO) (i : Nat) (x : MO), (T4 ++ U).set (b + i) x = T4 ++ U.set i x := fun U i x => by
      rw [List.set_append_right _ _ (by omega), l4, Nat.add_sub_cancel_left]
    rw [e9, l4]
    obtain ⟨st, fr⟩ := start_holds (a := a) (b := b) (k := k4) (F := 1 + d) (nums := nums) (S := T4 ++ [MO.lst (l.map .int), stIns (1 + d) (b + 2) (b + 3) (b + 4) 0 0 0, .dK false [], .lst [], .dK false [], .dK false [], .lst [.ref (b + 5)], .dK false [], .dK false (wdKvs (b + 1) (M0 a b) (W0 k4 (1 + d) nums)), .lst (nums.map .int)]) hal (get_app D4.at_ _) (get _ 1 _ rfl) (get _ 2 _ rfl) (get _ 3 _ rfl) (get _ 4 _ rfl) (get _ 5 _ rfl) (get _ 6 _ rfl) (get _ 7 _ rfl) (get _ 8 _ rfl) (get _ 9 _ rfl)
    exact q _ b k4 (1 + d) nums st (start_lnk (by omega) (by omega) hnl.2 hnl.1 hnb) (fun x y hx hy => get_app (D4.rest x y hx hy) _) (fun x hx hxa => fr x hx hxa) rfl ⟨D4.k0, by have := D4.k1; simp only [W0]; omega⟩
end
end IR

namespace IR
section
variable {S S' : Sto} {L L' : PR → Nat} {P P' : PS} {M M' : WR → Nat} {W W' : WA} {n j : Nat} {l : LL} {nm : Txt} {Q : D → Sto → Prop} {t : Int}
/-! ### asked of the law's own lists -/
theorem StA.lparts (h : StA S L P M W) (hj : W.ones[j]? = some l) (hm : l.marks.length ≤ 1000) (q : Q (.tl ((List.range l.marks.length).map fun (i : Nat) => .int i)) S) : wp (callD g0 (n + 1) 151 [.ref (M (.one j))]) S Q := by
  refine wp_call (d := fn151) rfl rfl ?_
  show wp (exs g0 (callD g0 _) fn151.body [some (.ref (M (.one j)))]) _ _
  simp only [fn151, exs, ex, ev, evs, evIt, wp_bind, wp_getVar, wp_pure, ownIf_f, ownIf_t]
  try simp [-Bool.exists_bool, -List.contains_eq_mem, List.lookup, fPut, oMarks (h.one hj), lenD_ref (h.om hj)]
  have hc : (l.marks.length : Int) ≤ LINE ∧ -(LINE : Int) ≤ l.marks.length := by simp [LINE]; omega
  have e : evOp .lstRg1 [.int l.marks.length] S = Res.ok (D.tl (rg 0 l.marks.length)) S := by
    show (if (l.marks.length : Int) ≤ LINE ∧ -(LINE : Int) ≤ l.marks.length then Res.ok (D.tl (rg 0 l.marks.length)) S else .bad) = _
    rw [if_pos hc]
  unfold wp
  rw [e, rg_nat]
  exact q
def WA.tells (W : WA) (m : Option Int) : Option Int := m.filter fun i => decide (W.old ≤ i)
theorem StA.omAt (h : StA S L P M W) (hj : W.ones[j]? = some l) {p : Nat} {m : Option Int} (hp : l.marks[p]? = some m) : ixD S (.ref (M (.om j))) (.int p) = some (encM m) := by
  rw [ixD_ref (h.om hj)]
  exact atD_nat (by simp [hp])
theorem StA.lstands (h : StA S L P M W) (hj : W.ones[j]? = some l) {p : Nat} {m : Option Int} (hp : l.marks[p]? = some m) (q : Q (.bl (W.tells m).isSome) S) : wp (callD g0 (n + 1) 157 [.ref (M .wd), .ref (M (.one j)), .int p]) S Q := by
  have e1 := h.omAt hj hp
  refine wp_call (d := fn157) rfl rfl ?_
  show wp (exs g0 (callD g0 _) fn157.body [some (.ref (M .wd)), some (.ref (M (.one j))), some (.int p)]) _ _
  simp only [fn157, exs, ex, ev, evs, evIt, wp_bind, wp_getVar, wp_pure, ownIf_f, ownIf_t]
  try simp [-Bool.exists_bool, -List.contains_eq_mem, List.lookup, fPut, oMarks (h.one hj), e1]
  cases m with
  | none =>
    try simp [-Bool.exists_bool, -List.contains_eq_mem, List.lookup, fPut, encM]
    exact q
  | some i =>
    try simp [-Bool.exists_bool, -List.contains_eq_mem, List.lookup, fPut, encM, h.iOld]
    have : (W.tells (some i)).isSome = decide (W.old ≤ i) := by unfold WA.tells; by_cases e : W.old ≤ i <;> simp [Option.filter, e]
    rw [this] at q
    exact q
theorem StA.ltold (h : StA S L P M W) (hj : W.ones[j]? = some l) (hm : l.marks.length ≤ 1000) (q : Q (.tup ((l.marks.map W.tells).map encM)) S) : wp (callD g0 (n + 2) 159 [.ref (M .wd), .ref (M (.one j))]) S Q := by
  refine wp_call (d := fn159) rfl rfl ?_
  show wp (exs g0 (callD g0 _) fn159.body [some (.ref (M .wd)), some (.ref (M (.one j))), none]) _ _
  simp only [fn159, exs, ex, ev, evs, evIt, wp_bind, wp_getVar, wp_pure, ownIf_f, ownIf_t]
  try simp [-Bool.exists_bool, -List.contains_eq_mem, List.lookup, fPut]
  refine h.lparts hj hm ?_
  try simp [-Bool.exists_bool, -List.contains_eq_mem, List.lookup, fPut]
  refine wp_lcM (fun d => match d with | .int i => encM (W.tells (l.marks.getD i.toNat none)) | _ => .non) (by simp [LINE]; omega) (fun x hx Q' q' => ?_) ?_
  · obtain ⟨i, hi, rfl⟩ := List.mem_map.mp hx
    have hi := List.mem_range.mp hi
    obtain ⟨m, hm1⟩ : ∃ m, l.marks[i]? = some m := ⟨_, List.getElem?_eq_getElem hi⟩
    have e1 := h.omAt hj hm1
    simp only [Int.toNat_natCast, List.getD_eq_getElem?_getD, hm1, Option.getD_some] at q'
    try simp [-Bool.exists_bool, -List.contains_eq_mem, List.lookup, fPut]
    refine h.lstands hj hm1 ?_
    cases ht : W.tells m with
    | none =>
      rw [ht] at q'
      try simp [-Bool.exists_bool, -List.contains_eq_mem, List.lookup, fPut]
      exact q'
    | some k =>
      have em : encM m = encM (W.tells m) := by
        unfold WA.tells at ht ⊢
        cases m with
        | none => cases ht
        | some i => obtain ⟨a, b⟩ := Option.filter_eq_some_iff.mp ht; rw [ht, a]
      rw [← em] at q'
      try simp [-Bool.exists_bool, -List.contains_eq_mem, List.lookup, fPut, oMarks (h.one hj), e1, own_encM]
      exact q'
  · have e : ((List.range l.marks.length).map fun (i : Nat) => D.int i).map (fun d => match d with | .int i => encM (W.tells (l.marks.getD i.toNat none)) | _ => .non) = (l.marks.map W.tells).map encM := by
      rw [List.map_map, List.map_map]
      apply List.ext_getElem?
      intro i
      rw [List.getElem?_map, List.getElem?_map]
      by_cases hi : i < l.marks.length
      · rw [List.getElem?_range hi, List.getElem?_eq_getElem hi]
        simp [List.getD_eq_getElem?_getD, List.getElem?_eq_getElem hi]
      · rw [List.getElem?_eq_none (by simp; omega), List.getElem?_eq_none (by omega)]
        rfl
    rw [e]
    exact q
/-! ### a list begun -/
def Mo (M : WR → Nat) (J a b : Nat) : WR → Nat
  | .one j => if j = J then a else M (.one j)
  | .om j => if j = J then b else M (.om j)
  | r => M r
def WA.begin (W : WA) (nm : Txt) (l : LL) : WA := { W with ones := W.ones ++ [l], tab := W.tab ++ [(nm, W.ones.length)] }
def WA.more (W : WA) : WA := { W with begun := W.begun + 1 }
theorem StA.oneAdd {S0 : Sto} {L0 : PR → Nat} {P0 : PS} {M0 : WR → Nat} {W0 : WA} (h : StA S L P M W) (g : GoA S0 L0 P0 M0 W0 S L P M W) (hlk : W.lk = false) (hf : W.tab.lookup nm = none) (ht : ∀ p ∈ W.tab, p.2 < W.ones.length) {a b : Nat} (ha : S0.length ≤ a) (hb : S0.length ≤ b) (fa : FreeA L P M W a) (fb : FreeA L P M W b) (hab : a ≠ b) (ea : S[a]? = some (.dK false (oneKvs b l))) (eb : S[b]? = some (.lst (l.marks.map encM))) :
    StA (S.set (M .lists) (.dK false (dPut (wTab M W.tab) (.inr nm) (.ref a)))) L P (Mo M W.ones.length a b) (W.begin nm l) ∧ GoA S0 L0 P0 M0 W0 (S.set (M .lists) (.dK false (dPut (wTab M W.tab) (.inr nm) (.ref a)))) L P (Mo M W.ones.length a b) (W.begin nm l) := by
  generalize hJ : W.ones.length = J at *
  have gJ : ∀ i, (W.ones ++ [l])[i]? = if i = J then some l else W.ones[i]? := fun i => by rw [getJ, hJ]
  obtain ⟨h1, g1⟩ := h.adoptG g (M' := Mo M J a b) (W' := { W with ones := W.ones ++ [l] }) (fun r => r = .one J ∨ r = .om J) (fun r z => by rcases z with rfl | rfl <;> simpa [Mo]) (fun r z => by rcases z with rfl | rfl <;> simp [wobj, hJ]) (fun r z => by
      rcases z with rfl | rfl
      · refine ⟨by simpa [Mo] using fa, fun x hx => ?_⟩
        simp only [wobj, gJ, if_pos, Option.map_some, Option.some.injEq, Mo] at hx
        subst hx
        simpa [Mo] using ea
      · refine ⟨by simpa [Mo] using fb, fun x hx => ?_⟩
        simp only [wobj, gJ, if_pos, Option.map_some, Option.some.injEq] at hx
        subst hx
        simpa [Mo] using eb) (fun r z => by
      cases r with
      | one i =>
        have zi : i ≠ J := fun q => z (.inl (by rw [q]))
        exact ⟨by simp [Mo, zi], by simp [wobj, gJ, zi, Mo]⟩
      | om i =>
        have zi : i ≠ J := fun q => z (.inr (by rw [q]))
        exact ⟨by simp [Mo, zi], by simp [wobj, gJ, zi]⟩
      | lists =>
        refine ⟨rfl, ?_⟩
        simp only [wobj, Option.some.injEq, MO.dK.injEq, true_and]
        refine List.map_congr_left fun p hp => ?_
        have := ht p hp
        simp only [Mo, if_neg (show p.2 ≠ J by omega)]
      | _ => exact ⟨rfl, rfl⟩) (fun r r' z z' e => by
      rcases z with rfl | rfl <;> rcases z' with rfl | rfl <;> simp [Mo] at e ⊢
      · exact hab e
      · exact hab e.symm)
  have hx : dPut (wTab M W.tab) (.inr nm) (.ref a) = wTab (Mo M J a b) (W.tab ++ [(nm, J)]) := by
    have e0 : ∀ t : List (Txt × Nat), dGet (wTab M t) (.inr nm) = (t.lookup nm).map fun j => .ref (M (.one j)) := fun t => by
      induction t with
      | nil => rfl
      | cons p r ih =>
        unfold wTab at ih ⊢
        rw [List.map_cons, List.lookup_cons]
        unfold dGet
        by_cases e : p.1 = nm
        · subst e; simp
        · have e2 : (nm == p.1) = false := by simpa using Ne.symm e
          simp [e, e2]; exact ih
    unfold dPut
    rw [e0, hf]
    unfold wTab
    rw [List.map_append]
    have e1 : W.tab.map (fun p => ((.inr p.1, .ref (Mo M J a b (.one p.2))) : Ky × D)) = W.tab.map fun p => (.inr p.1, .ref (M (.one p.2))) := by
      refine List.map_congr_left fun p hp => ?_
      have := ht p hp
      simp only [Mo, if_neg (show p.2 ≠ J by omega)]
    rw [e1]
    simp [Mo]
  obtain ⟨h2, g2⟩ := h1.wset (W' := W.begin nm l) (r := .lists) (x := .dK false (wTab (Mo M J a b) (W.tab ++ [(nm, J)]))) rfl (fun r' => by
    cases r' <;> simp [wobj, WA.begin, wdKvs, hJ, hlk])
  rw [hx]
  exact ⟨h2, g1.trans g2⟩
theorem Lnk.begin (k : Lnk P W) {rule cuts : List Int} : Lnk (P.begin nm rule cuts) (W.more.begin nm (LL.new nm (P.begun + 1) rule cuts P.now).bare) := by
  have hl : W.ones.length = P.ls.length := by rw [k.ones]; simp
  refine ⟨k.F, k.F1, k.F4, k.pn, k.now, k.last, k.len, k.old, k.old0, k.oldn, k.ns, k.nums, k.numl, k.num0, k.numb, k.once, k.fit, k.fits, by simp [PS.begin, WA.begin, WA.more, k.begun], by simp [PS.begin, WA.begin, WA.more, k.tab, hl], by simp [PS.begin, WA.begin, WA.more, k.ones], fun p hp => ?_, k.lk⟩
  simp only [PS.begin, List.length_append, List.length_singleton] at hp ⊢
  rcases List.mem_append.mp hp with hp | hp
  · have := k.tabs p hp; omega
  · rw [List.mem_singleton] at hp; subst hp; simp
theorem StA.begin (h : StA S L P M W) (k : Lnk P W) (hf : W.tab.lookup nm = none) (hL : W.tab.length < 900) (hd : DkOk W t) (ht : t ≤ 600000000000)
    (q : ∀ S' L' M' k' rule cuts, RuleF W.F rule → rule.length ≤ 4 → cuts.length ≤ 5 → StA S' L' (P.begin nm rule cuts) M' ((W.dr k').more.begin nm (LL.new nm (P.begun + 1) rule cuts P.now).bare) → GoA S L P M W S' L' (P.begin nm rule cuts) M' ((W.dr k').more.begin nm (LL.new nm (P.begun + 1) rule cuts P.now).bare) → Lnk (P.begin nm rule cuts) ((W.dr k').more.begin nm (LL.new nm (P.begun + 1) rule cuts P.now).bare) → DkOk (W.dr k') (t + 20) → Q (.bl true) S') : wp (callD g0 (n + 4) 138 [.ref (M .dk), .ref (M .wd), .str nm]) S Q := by
  refine wp_call (d := fn138) rfl rfl ?_
  show wp (exs g0 (callD g0 _) fn138.body [some (.ref (M .dk)), some (.ref (M .wd)), some (.str nm), none, none, none]) _ _
  simp only [fn138, exs, ex, ev, evs, evIt, wp_bind, wp_getVar, wp_pure, ownIf_f, ownIf_t]
  try simp [-Bool.exists_bool, -List.contains_eq_mem, List.lookup, fPut, h.iF]
  refine h.rule hd (by omega) k.F1 k.F4 fun rule hr hr4 S1 k1 h1 g1 o1 => ?_
  try simp [-Bool.exists_bool, -List.contains_eq_mem, List.lookup, fPut]
  refine h1.cuts o1 (by omega) fun cuts hc S2 k2 h2 g2 o2 => ?_
  rw [dr_dr] at h2 g2 o2
  have g12 := g1.trans g2
  have kk : Lnk P (W.dr k2) := k.dr
  have eb1 : dPut (wdKvs (L .st) M (W.dr k2)) (.inr tx_d1fe44) (.int (W.begun + 1)) = wdKvs (L .st) M (W.dr k2).more := rfl
  obtain ⟨h3, g3⟩ := h2.wset (W' := (W.dr k2).more) (r := .wd) (x := .dK false (wdKvs (L .st) M (W.dr k2).more)) rfl (fun r' => by cases r' <;> simp [wobj, WA.more, wdKvs])
  have g13 := g12.trans g3
  try simp [-Bool.exists_bool, -List.contains_eq_mem, List.lookup, fPut, h2.iBegun, wp_setKs h2.wd, eb1]
  refine ⟨by simp [wdKvs, LINE], ?_⟩
  generalize S2.set (M .wd) (.dK false (wdKvs (L .st) M (W.dr k2).more)) = S3 at h3 g3 g13 ⊢
  try simp [-Bool.exists_bool, -List.contains_eq_mem, List.lookup, fPut, h3.iBegun]
  rw [o_disp]
  have f3a := h3.fresh (Nat.le_refl S3.length)
  have f3b := h3.fresh (Nat.le_succ S3.length)
  generalize hkv : (([[110, 97, 109, 101], tx_b1bc24, [114, 117, 108, 101], [99, 117, 116, 115], [116, 111], [97, 116], tx_b2fdab].zip [D.str nm, D.int (W.dr k2).more.begun, D.tup (List.map D.int rule), D.tup (List.map D.int cuts), D.int (-1), D.non, D.bl false]).map fun p => ((.inr p.1, p.2) : Ky × D)) = kv
  have s4 : Sub S3 (S3 ++ [MO.dK false kv]) := .app
  have h4 := h3.sub s4
  try simp [-Bool.exists_bool, -List.contains_eq_mem, List.lookup, fPut]
  refine h4.now_ ?_
  have hpn : ((W.dr k2).more.pn : Int) - 1 = P.now := by have := k.now; have := k.pn; simp [WA.more]; omega
  rw [hpn]
  try simp [-Bool.exists_bool, -List.contains_eq_mem, List.lookup, fPut, o_mulL]
  refine ⟨by simp [LINE]; omega, ?_⟩
  have g5 : (S3 ++ [MO.dK false kv, MO.lst (List.replicate (cuts.length + 1) (.int P.now))])[S3.length]? = some (.dK false kv) := by simp
  rw [wp_setKs g5]
  refine ⟨by rw [← hkv]; simp [LINE], ?_⟩
  generalize hl : (LL.new nm (P.begun + 1) rule cuts P.now).bare = l at q
  have hkv2 : dPut kv (.inr tx_84374e) (.ref (S3.length + 1)) = oneKvs (S3.length + 1) l := by
    rw [← hkv, ← hl]
    have eb : (W.dr k2).more.begun = P.begun + 1 := by simp [WA.more, k.begun]
    rw [eb]
    rfl
  have hms : l.marks.map encM = List.replicate (cuts.length + 1) (.int P.now) := by
    rw [← hl]
    simp [LL.bare, LL.new, encM]
  rw [hkv2]
  have e6 : (S3 ++ [MO.dK false kv, MO.lst (List.replicate (cuts.length + 1) (.int P.now))]).set S3.length (.dK false (oneKvs (S3.length + 1) l)) = S3 ++ [MO.dK false (oneKvs (S3.length + 1) l), .lst (l.marks.map encM)] := by rw [hms]; simp
  rw [e6]
  have s6 : Sub S3 (S3 ++ [MO.dK false (oneKvs (S3.length + 1) l), .lst (l.marks.map encM)]) := .app
  have h6 := h3.sub s6
  have g6 := g13.trans (GoA.ofSub s6)
  have ea : (S3 ++ [MO.dK false (oneKvs (S3.length + 1) l), .lst (l.marks.map encM)])[S3.length]? = some (.dK false (oneKvs (S3.length + 1) l)) := by simp
  have eb : (S3 ++ [MO.dK false (oneKvs (S3.length + 1) l), .lst (l.marks.map encM)])[S3.length + 1]? = some (.lst (l.marks.map encM)) := by simp
  have hlen := g13.len
  generalize S3 ++ [MO.dK false (oneKvs (S3.length + 1) l), .lst (l.marks.map encM)] = S6 at h6 g6 ea eb ⊢
  have hol : W.ones.length = P.ls.length := by rw [k.ones]; simp
  obtain ⟨h7, g7⟩ := h6.oneAdd g6 k.lk hf (fun p hp => by
    have := k.tabs p (by rw [k.tab]; exact hp)
    show p.2 < W.ones.length
    omega) hlen (by omega) f3a f3b (by omega) ea eb
  have hli : S6[M .lists]? = some (.dK false (wTab M W.tab)) := by
    have := h6.lists
    rw [show (W.dr k2).more.lk = false from k.lk] at this
    exact this
  try simp [-Bool.exists_bool, -List.contains_eq_mem, List.lookup, fPut, h6.iLists, wp_setKs hli]
  refine ⟨by simp [wTab, LINE]; omega, ?_⟩
  have g7' : GoA S L P M W (S6.set (M .lists) (.dK false (dPut (wTab M W.tab) (.inr nm) (.ref S3.length)))) L P (Mo M W.ones.length S3.length (S3.length + 1)) ((W.dr k2).more.begin nm l) := g7
  have h7' : StA (S6.set (M .lists) (.dK false (dPut (wTab M W.tab) (.inr nm) (.ref S3.length)))) L P (Mo M W.ones.length S3.length (S3.length + 1)) ((W.dr k2).more.begin nm l) := h7
  generalize S6.set (M .lists) (.dK false (dPut (wTab M W.tab) (.inr nm) (.ref S3.length))) = S7 at g7' h7' ⊢
  have i7 : ixD S7 (.ref (M .wd)) (.str tx_8cd892) = some (.ref (L .st)) := h7'.iStore
  try simp [-Bool.exists_bool, -List.contains_eq_mem, List.lookup, fPut, i7]
  refine h7'.p.begin_list (by omega) (by rw [k.tab]; exact hf) k.tabs (by rw [k.tab]; omega) fun S8 r8 p8 => ?_
  obtain ⟨h8, g8⟩ := h7'.pstep r8 p8
  have ho : ((W.dr k2).more.begin nm l).ones[W.ones.length]? = some l := by simp [WA.begin, WA.more]
  have go := h8.one ho
  have em : Mo M W.ones.length S3.length (S3.length + 1) (.one W.ones.length) = S3.length := by simp [Mo]
  rw [em] at go
  have hn : l.num = P.begun + 1 := by rw [← hl]; rfl
  try simp [-Bool.exists_bool, -List.contains_eq_mem, List.lookup, fPut, oNum go, hn]
  subst hl
  exact q S8 _ _ k2 rule cuts hr hr4 hc h8 (g7'.trans g8) kk.begin (o2.mono (by omega))
end
end IR

namespace IR
/-! ### walks over dicts -/
section
variable {S : Sto} {r n : Nat}
theorem wp_items {vals : Bool} {kvs : List (Ky × D)} {Q : Src → Sto → Prop} (h : S[r]? = some (.dK false kvs)) : wp (srcItems vals (.ref r)) S Q ↔ Q (.dk r (kvs.map fun p => if vals then p.2 else .tup [p.1.d, p.2])) (S.set r (.dK true kvs)) := by
  rw [wp_fun (r := .ok (.dk r (kvs.map fun p => if vals then p.2 else .tup [p.1.d, p.2])) (S.set r (.dK true kvs))) (by simp only [srcItems, h])]
  rfl
theorem wp_itemsL {vals : Bool} {kvs : List (Ky × D)} {Q : Src → Sto → Prop} (h : S[r]? = some (.dK true kvs)) : wp (srcItems vals (.ref r)) S Q ↔ Q (.st (kvs.map fun p => if vals then p.2 else .tup [p.1.d, p.2])) S := by
  rw [wp_fun (r := .ok (.st (kvs.map fun p => if vals then p.2 else .tup [p.1.d, p.2])) S) (by simp only [srcItems, h])]
  rfl
theorem wp_unlock {kvs : List (Ky × D)} {Q : Unit → Sto → Prop} (h : S[r]? = some (.dK true kvs)) : wp (unlock r) S Q ↔ Q () (S.set r (.dK false kvs)) := by
  rw [wp_fun (r := .ok () (S.set r (.dK false kvs))) (by simp only [unlock, h])]
  rfl
theorem wp_forDk {f : D → Env → M Flow} {l : List D} {ρ : Env} {Q : Flow → Sto → Prop} : wp (forSrc f (.dk r l) ρ) S Q ↔ wp (forSt f l ρ) S fun fl S' => wp (unlock r) S' fun _ S'' => Q fl S'' := by
  show wp ((noExc (forSt f l ρ)).bind fun x => (unlock r).bind fun _ => M.pure x) S Q ↔ _
  simp only [wp_bind, wp_noExc, wp_pure]
theorem wp_lcDk {f : D → M (Option D)} {l : List D} {Q : List D → Sto → Prop} : wp (lcSrc f (.dk r l)) S Q ↔ wp (lcSt f l []) S fun a S' => wp (unlock r) S' fun _ S'' => Q a S'' := by
  show wp ((lcSt f l []).bind fun x => (unlock r).bind fun _ => M.pure x) S Q ↔ _
  simp only [wp_bind, wp_pure]
end
theorem set_id {S : Sto} {r : Nat} {x : MO} (h : S[r]? = some x) : S.set r x = S := by
  apply List.ext_getElem?
  intro i
  rw [List.getElem?_set]
  by_cases e : r = i
  · subst e; rw [if_pos rfl, if_pos (lt_of_get h), h]
  · rw [if_neg e]
section
variable {S S' : Sto} {L L' : PR → Nat} {P P' : PS} {M M' : WR → Nat} {W W' : WA} {n j : Nat} {l : LL} {nm : Txt} {Q : D → Sto → Prop} {t : Int}
theorem itemsK {T : Tab} : ((encK T).map fun p => if false = true then p.2 else D.tup [p.1.d, p.2]) = T.map encE := by
  unfold encK
  rw [List.map_map]
  rfl
theorem lentries_ok {a ro : Nat} {lk : Bool} {T : Tab} {kvs : List (Ky × D)} {rule cuts : List Int} {F : Int} {p : Nat} {wd pa : Nat} {d : D} (hT : S[a]? = some (.dK false (encK T))) (hp : ixD S (.ref wd) (.str [112, 97, 115, 116]) = some (.ref pa)) (hpa : ∃ l, S[pa]? = some (.lst l)) (hi : ixD S (.ref pa) d = some (.ref a)) (hd : own d = IR.M.pure d)
    (ho : S[ro]? = some (.dK lk kvs)) (hra : ro ≠ a) (h1 : dGet kvs (.inr [114, 117, 108, 101]) = some (.tup (rule.map .int))) (h2 : dGet kvs (.inr [99, 117, 116, 115]) = some (.tup (cuts.map .int))) (hc : cuts.length < 1000) (hf : FitsF F T) (hr : RuleF F rule) (hl : T.length < 1000) (hwd : ∃ k l, S[wd]? = some (.dK k l))
    (q : ∀ S', Sub S S' → Q (encPart (partDue rule cuts T p)) S') : wp (callD g0 (n + 2) 144 [.ref wd, .ref ro, .int p, d]) S Q := by
  have ha := lt_of_get hT
  obtain ⟨kw, lw, hwd⟩ := hwd
  obtain ⟨lp, hpa⟩ := hpa
  have hwl := lt_of_get hwd
  have hpl := lt_of_get hpa
  refine wp_call (d := fn144) rfl rfl ?_
  show wp (exs g0 (callD g0 _) fn144.body [some (.ref wd), some (.ref ro), some (.int p), some (d), none, none, none, none]) _ _
  simp only [fn144, exs, ex, ev, evs, evIt, wp_bind, wp_getVar, wp_pure, ownIf_f, ownIf_t]
  try simp [-Bool.exists_bool, -List.contains_eq_mem, List.lookup, fPut]
  have i1 : ixD (S ++ [MO.lst []]) (.ref wd) (.str [112, 97, 115, 116]) = some (.ref pa) := by rw [ixD_dKs (get_app hwd _)]; rw [ixD_dKs hwd] at hp; exact hp
  have i2 : ixD (S ++ [MO.lst []]) (.ref pa) d = some (.ref a) := by
    simp only [ixD, get_app hpa] at hi ⊢
    simp only [hpa] at hi
    exact hi
  try simp [-Bool.exists_bool, -List.contains_eq_mem, List.lookup, fPut, i1, i2, wp_items (get_app hT _), wp_forDk]
  have eI : ((encK T).map fun p : Ky × D => D.tup [p.1.d, p.2]) = T.map encE := by unfold encK; rw [List.map_map]; rfl
  rw [eI, List.set_append_left _ _ ha]
  generalize hS1 : S.set a (.dK true (encK T)) = S1
  have l1 : S1.length = S.length := by rw [← hS1]; simp
  have o1 : S1[ro]? = some (.dK lk kvs) := by rw [← hS1, List.getElem?_set_ne (Ne.symm hra)]; exact ho
  have a1 : S1[a]? = some (.dK true (encK T)) := by rw [← hS1, List.getElem?_set_self ha]
  have b1 : S1.set a (.dK false (encK T)) = S := by rw [← hS1, List.set_set, set_id hT]
  refine wp_for (fun pre ρ S' => (∃ x5 x6 x7, ρ = [some (.ref wd), some (.ref ro), some (.int p), some d, some (.ref S.length), x5, x6, x7]) ∧ S' = S1 ++ [.lst ((entsOf rule cuts p (T.take pre.length)).map prD)]) ⟨⟨_, _, _, rfl⟩, by simp [entsOf]⟩ ?_ ?_
  · rintro pre x post ρ S2 ⟨⟨x5, x6, x7, rfl⟩, rfl⟩ e
    obtain ⟨⟨y, hy, rfl⟩, hpp⟩ := of_map e
    have hm : y ∈ T := List.mem_of_getElem? hy
    have gl : (S1 ++ [MO.lst ((entsOf rule cuts p (T.take pre.length)).map prD)])[S.length]? = some (.lst ((entsOf rule cuts p (T.take pre.length)).map prD)) := by rw [← l1]; exact get_new
    have go := get_app o1 [MO.lst ((entsOf rule cuts p (T.take pre.length)).map prD)]
    have eT : T.take (pre.length + 1) = T.take pre.length ++ [y] := by rw [List.take_succ, hy]; rfl
    have el := entsOf_len (rule := rule) (cuts := cuts) (p := p) (R := T.take pre.length)
    have ei1 : ixD (S1 ++ [MO.lst ((entsOf rule cuts p (T.take pre.length)).map prD)]) (.ref ro) (.str [114, 117, 108, 101]) = some (.tup (rule.map .int)) := by rw [ixD_dKs go]; exact h1
    have ei2 : ixD (S1 ++ [MO.lst ((entsOf rule cuts p (T.take pre.length)).map prD)]) (.ref ro) (.str [99, 117, 116, 115]) = some (.tup (cuts.map .int)) := by rw [ixD_dKs go]; exact h2
    try simp [-Bool.exists_bool, -List.contains_eq_mem, List.lookup, fPut, encE, encR, ei1]
    refine lkey_ok hr.1 (hr.inrow (hf y hm)) ?_
    try simp [-Bool.exists_bool, -List.contains_eq_mem, List.lookup, fPut, ei2]
    refine lpart_ok hc ?_
    rw [eT, entsOf_snoc]
    by_cases hcp : cnt cuts (key y.2 rule) = (p : Int)
    · simp [-Bool.exists_bool, -List.contains_eq_mem, List.lookup, fPut, hcp, wp_recvL gl, o_append gl]
      refine ⟨by simp at el; simp [LINE]; omega, ?_⟩
      rw [← l1]
      simp [prD]
    · simp [-Bool.exists_bool, -List.contains_eq_mem, List.lookup, fPut, hcp]
  · rintro ρ S2 ⟨⟨x5, x6, x7, rfl⟩, rfl⟩
    rw [List.length_map, List.take_length]
    try simp [-Bool.exists_bool, -List.contains_eq_mem, List.lookup, fPut, wp_unlock (get_app a1 _)]
    rw [List.set_append_left _ _ (by omega), b1]
    have gl : (S ++ [MO.lst ((entsOf rule cuts p T).map prD)])[S.length]? = some (.lst ((entsOf rule cuts p T).map prD)) := get_new
    try simp [-Bool.exists_bool, -List.contains_eq_mem, List.lookup, fPut, o_sortedR gl, srtPr]
    exact q _ .app
/-- the law's lists are those of the store -/
theorem Lnk.ls (k : Lnk P W) (hj : P.ls[j]? = some l) : W.ones[j]? = some l.bare := by rw [k.ones, List.getElem?_map, hj]; rfl
theorem tells_eq (k : Lnk P W) : W.tells = P.tells := by funext m; unfold WA.tells PS.tells; rw [k.old]
def WA.lock (W : WA) (b : Bool) : WA := { W with lk := b }
theorem StA.lock (h : StA S L P M W) (b : Bool) : StA (S.set (M .lists) (.dK b (wTab M W.tab))) L P M (W.lock b) ∧ GoA S L P M W (S.set (M .lists) (.dK b (wTab M W.tab))) L P M (W.lock b) :=
  h.wset (r := .lists) rfl fun r' => by cases r' <;> simp [wobj, WA.lock, wdKvs]
/-- all lists have marks as many as parts, names one to one -/
structure LsOk (P : PS) : Prop where
  ok : ∀ l ∈ P.ls, LOk P.F l
  nm : ∀ p ∈ P.tab, P.tab.lookup p.1 = some p.2
  few : P.tab.length ≤ 500
theorem wp_items' {kvs : List (Ky × D)} {r : Nat} {Q : Src → Sto → Prop} (h : S[r]? = some (.dK false kvs)) (q : Q (.dk r (kvs.map fun p => .tup [p.1.d, p.2])) (S.set r (.dK true kvs))) : wp (srcItems false (.ref r)) S Q := (wp_items h).mpr q
theorem StA.alike (h : StA S L P M W) (k : Lnk P W) (o : LsOk P) (q : ∀ S', StA S' L P M W → GoA S L P M W S' L P M W → Q (.bl true) S') : wp (callD g0 (n + 4) 137 [.ref (M .wd)]) S Q := by
  have hli : S[M .lists]? = some (.dK false (wTab M W.tab)) := by
    have := h.lists
    rw [k.lk] at this
    exact this
  obtain ⟨h1, g1⟩ := h.lock true
  refine wp_call (d := fn137) rfl rfl ?_
  show wp (exs g0 (callD g0 _) fn137.body [some (.ref (M .wd)), none, none, none, none]) _ _
  simp only [fn137, exs, ex, ev, evs, evIt, wp_bind, wp_getVar, wp_pure, ownIf_f, ownIf_t]
  try simp [-Bool.exists_bool, -List.contains_eq_mem, List.lookup, fPut, h.iStore, h.iLists]
  refine wp_items' hli ?_
  rw [wp_forDk]
  generalize S.set (M .lists) (.dK true (wTab M W.tab)) = S1 at h1 g1 ⊢
  have eI : ((wTab M W.tab).map fun p : Ky × D => D.tup [p.1.d, p.2]) = W.tab.map fun p => .tup [.str p.1, .ref (M (.one p.2))] := by unfold wTab; rw [List.map_map]; rfl
  rw [eI]
  have hte := tells_eq k
  refine wp_for (fun pre ρ S' => (∃ x2 x3 x4, ρ = [some (.ref (M .wd)), some (.ref (L .st)), x2, x3, x4]) ∧ StA S' L P M (W.lock true) ∧ GoA S L P M W S' L P M (W.lock true)) ⟨⟨_, _, _, rfl⟩, h1, g1⟩ ?_ ?_
  · rintro pre x post ρ S2 ⟨⟨x2, x3, x4, rfl⟩, h2, g2⟩ e
    obtain ⟨⟨y, hy, rfl⟩, hp⟩ := of_map e
    have hyt : y ∈ P.tab := by rw [k.tab]; exact List.mem_of_getElem? hy
    have hlk := o.nm y hyt
    obtain ⟨l, hl⟩ : ∃ l, P.ls[y.2]? = some l := ⟨_, List.getElem?_eq_getElem (k.tabs y hyt)⟩
    have hol := o.ok l (List.mem_of_getElem? hl)
    have hone : (W.lock true).ones[y.2]? = some l.bare := k.ls hl
    have hml : l.marks.length ≤ 1000 := by have := hol.marks; have := hol.cuts; omega
    try simp [-Bool.exists_bool, -List.contains_eq_mem, List.lookup, fPut]
    refine h2.ltold hone hml ?_
    have e1 : (W.lock true).tells = P.tells := hte
    rw [e1]
    try simp [-Bool.exists_bool, -List.contains_eq_mem, List.lookup, fPut, -List.map_map]
    refine h2.p.marks hlk hl hml fun S3 s3 => ?_
    have h3 := h2.sub s3
    have g3 := g2.trans (GoA.ofSub s3)
    have eq1 : eqD S3 (.tup ((P.told l).map encM)) (.tup ((l.bare.marks.map P.tells).map encM)) = some true := Da.eq (k := 2) da_marks (by decide)
    try simp [-Bool.exists_bool, -List.contains_eq_mem, List.lookup, fPut, -List.map_map, eq1]
    refine h3.p.is_ready hlk hl ?_
    have eq2 := oReady (h3.one hone)
    try simp [-Bool.exists_bool, -List.contains_eq_mem, List.lookup, fPut, eq2]
    rw [if_pos (show l.ready = l.bare.ready from rfl)]
    exact ⟨h3, g3⟩
  · rintro ρ S2 ⟨⟨x2, x3, x4, rfl⟩, h2, g2⟩
    obtain ⟨h3, g3⟩ := h2.lock false
    have eW : (W.lock true).lock false = W := by unfold WA.lock; rw [← k.lk]
    have eT : (W.lock true).tab = W.tab := rfl
    rw [eW, eT] at h3 g3
    have hli2 := h2.lists
    rw [show (W.lock true).lk = true from rfl, eT] at hli2
    try simp [-Bool.exists_bool, -List.contains_eq_mem, List.lookup, fPut, wp_unlock hli2]
    generalize S2.set (M .lists) (.dK false (wTab M W.tab)) = S3 at h3 g3 ⊢
    try simp [-Bool.exists_bool, -List.contains_eq_mem, List.lookup, fPut, wp_methM h3.p.st]
    refine ⟨77, rfl, h3.p.now ?_⟩
    try simp [-Bool.exists_bool, -List.contains_eq_mem, List.lookup, fPut]
    refine h3.now_ ?_
    have en : (P.now == (W.pn : Int) - 1) = true := by rw [k.now, k.pn]; simp
    try simp [-Bool.exists_bool, -List.contains_eq_mem, List.lookup, fPut, en, wp_methM h3.p.st]
    refine ⟨78, rfl, h3.p.oldest ?_⟩
    try simp [-Bool.exists_bool, -List.contains_eq_mem, List.lookup, fPut, h3.iOld]
    rw [show (P.old == W.old) = true by rw [k.old]; simp]
    exact q _ h3 (g2.trans g3)
end
theorem cell_ok {n : Nat} {S : Sto} {ns : List Int} {k : Nat} {Q : D → Sto → Prop} (q : ∀ i : Int, Q (.int i) S) : wp (callD g0 (n + 1) 139 [.scr ns, .int k]) S Q := by
  refine wp_call (d := fn139) rfl rfl ?_
  show wp (exs g0 (callD g0 _) fn139.body [some (.scr ns), some (.int k)]) _ _
  simp only [fn139, exs, ex, ev, evs, evIt, wp_bind, wp_getVar, wp_pure, ownIf_f, ownIf_t]
  by_cases h : k < ns.length
  · obtain ⟨d, hd, _⟩ := atD_lt (l := ns) (i := k) (by omega) (by omega)
    simp [h, hd]
    exact q _
  · simp [h]
    exact q _
theorem ldeck_ok {n : Nat} {S : Sto} {i : Int} {Q : D → Sto → Prop} (q : ∀ k : Int × Int × Int, k.2.1 = 0 → Q (.ref S.length) (S ++ [.dK false (dkKvs k)])) : wp (callD g0 (n + 1) 141 [.int i]) S Q := by
  refine wp_call (d := fn141) rfl rfl ?_
  show wp (exs g0 (callD g0 _) fn141.body [some (.int i)]) _ _
  simp only [fn141, exs, ex, ev, evs, evIt, wp_bind, wp_getVar, wp_pure, ownIf_f, ownIf_t]
  have hx : ∃ m : Int, atD [D.int 0, D.int i] (if decide (1000000000000000000 ≤ i) = true then 1 else 0) = some (.int m) := by
    by_cases h : 1000000000000000000 ≤ i
    · exact ⟨i, by simp [h]⟩
    · exact ⟨0, by simp [h]⟩
  obtain ⟨m, hm⟩ := hx
  simp only [decide_eq_true_eq] at hm
  try simp [-Bool.exists_bool, -List.contains_eq_mem, List.lookup, fPut, hm, o_disp]
  exact q (m, 0, i % 2147483647) rfl
end IR

namespace IR
section
variable {S S' : Sto} {L L' : PR → Nat} {P P' : PS} {M M' : WR → Nat} {W W' : WA} {n j : Nat} {l : LL} {nm : Txt} {Q : D → Sto → Prop} {t : Int}
theorem StA.setFree (h : StA S L P M W) {a : Nat} (f : FreeA L P M W a) (x : MO) : StA (S.set a x) L P M W :=
  ⟨⟨fun r y e => by rw [List.getElem?_set_ne (Ne.symm (f.1 r (by rw [e]; rfl)))]; exact h.p.at_ r y e, h.p.inj⟩, ⟨fun r y e => by rw [List.getElem?_set_ne (Ne.symm (f.2 r (by rw [e]; rfl)))]; exact h.w.at_ r y e, h.w.inj⟩, h.sep⟩
theorem LsOk.zero {F : Int} : LsOk (P0 F) := ⟨by simp [P0], by simp [P0], by simp [P0]⟩
theorem lookup_new {t : List (Txt × Nat)} (h : t.lookup nm = none) {p : Txt × Nat} (hp : p ∈ t) : p.1 ≠ nm := fun e => by
  induction t with
  | nil => cases hp
  | cons x r ih =>
    rw [List.lookup_cons] at h
    by_cases e2 : nm = x.1
    · subst e2; simp at h
    · have e3 : (nm == x.1) = false := by simpa using e2
      simp only [e3] at h
      rcases List.mem_cons.mp hp with rfl | hp
      · exact e2 e.symm
      · exact ih h hp
theorem lookup_app {t : List (Txt × Nat)} {k : Nat} {x : Txt} : (t ++ [(nm, k)]).lookup x = match t.lookup x with | some y => some y | none => if x = nm then some k else none := by
  induction t with
  | nil =>
    rw [List.nil_append, List.lookup_cons]
    by_cases e : x = nm
    · subst e; simp
    · have e3 : (x == nm) = false := by simpa using e
      simp [e, e3]
  | cons y r ih =>
    rw [List.cons_append, List.lookup_cons, List.lookup_cons]
    by_cases e : x = y.1
    · subst e; simp
    · have e3 : (x == y.1) = false := by simpa using e
      simp only [e3]
      exact ih
theorem LsOk.begin (o : LsOk P) {rule cuts : List Int} (hf : P.tab.lookup nm = none) (hr : RuleF P.F rule) (hc : cuts.length ≤ 900) (hl : P.tab.length < 500) : LsOk (P.begin nm rule cuts) := by
  refine ⟨fun l hl => ?_, fun p hp => ?_, by simp [PS.begin]; omega⟩
  · rcases List.mem_append.mp hl with h | h
    · exact o.ok l h
    · rw [List.mem_singleton] at h
      subst h
      exact ⟨by simp [LL.new], by simp [LL.new], hc, hr, fun e he => by simp [LL.new] at he; obtain ⟨_, rfl⟩ := he; simp⟩
  · show (P.tab ++ [(nm, P.ls.length)]).lookup p.1 = some p.2
    rw [lookup_app]
    rcases List.mem_append.mp hp with h | h
    · rw [o.nm p h]
    · rw [List.mem_singleton] at h
      subst h
      simp only [hf, if_pos]
theorem LsOk.same (o : LsOk P) (hl : P'.ls = P.ls) (ht : P'.tab = P.tab) (hF : P'.F = P.F) : LsOk P' := ⟨fun l h => by rw [hF]; rw [hl] at h; exact o.ok l h, fun p h => by rw [ht] at h ⊢; exact o.nm p h, by rw [ht]; exact o.few⟩
theorem Wrt.lsOk {S0 : Sto} {m : Nat} (w : Wrt S0 L P M W t m S' P' M' W') (k : Lnk P W) (o : LsOk P) : LsOk P' := o.same w.ls (by rw [w.k.tab, k.tab]; exact w.tab) (by rw [w.k.F, k.F]; exact w.F)
/-- one way or the other, and on from there -/
theorem both {c : Prop} {inst : Decidable c} {A : Prop} {K : Sto → Prop} {S : Sto} (Good : Sto → Prop) (hK : ∀ S, Good S → K S) (hA : (∀ S, Good S → K S) → c → A) (hB : ¬ c → Good S) : if c then A else K S := by
  by_cases h : c
  · rw [if_pos h]; exact hA hK h
  · rw [if_neg h]; exact hK S (hB h)
/-- what a walk over cells asks -/
theorem cells_ok {f : D → Env → IR.M Flow} {l : List Int} {ρ : Env} {S : Sto} {Q : Flow → Sto → Prop} (Inv : Env → Prop) (h0 : Inv ρ) (step : ∀ i ρ S, Inv ρ → wp (f (.int i) ρ) S fun fl S' => match fl with
    | .next ρ' => Inv ρ'
    | .cnt ρ' => Inv ρ'
    | .brk ρ' => False
    | .ret d => False) (fin : ∀ ρ S, Inv ρ → Q (.next ρ) S) : wp (forSt f (l.map .int) ρ) S Q := by
  refine wp_for (fun pre ρ S' => Inv ρ) h0 ?_ fin
  rintro pre x post ρ S1 hi e
  obtain ⟨⟨i, _, rfl⟩, _⟩ := of_map e
  refine wp_mono (step i ρ S1 hi) fun fl S' z => ?_
  cases fl with
  | next ρ => exact z
  | cnt ρ => exact z
  | brk ρ => exact z.elim
  | ret d => exact z.elim
end
end IR

namespace IR
theorem o_addLL {S : Sto} {l m : List D} {P : D → Sto → Prop} : wp (evOp .add [.tl l, .tl m]) S P ↔ l.length + m.length ≤ LINE ∧ P (.tl (l ++ m)) S := by
  refine (wp_as (show evOp .add [.tl l, .tl m] S = val1 (addD S (.tl l) (.tl m)) S from rfl)).trans ?_
  by_cases h : l.length + m.length ≤ LINE <;> simp [addD, ownItems, h]
section
variable {S S' : Sto} {L L' : PR → Nat} {P P' : PS} {M M' : WR → Nat} {W W' : WA} {n j : Nat} {l : LL} {nm : Txt} {Q : D → Sto → Prop} {t : Int}
theorem Sub.at_ {a : Nat} {x : MO} (s : Sub S S') (h : S[a]? = some x) : S'[a]? = some x := s a x h
theorem StA.ipt (h : StA S L P M W) (k : Lnk P W) : ixD S (.ref (M .past)) (.int ((W.pn : Int) - 1)) = some (.ref (M (.pt (W.past.length - 1)))) := by
  rw [ixD_ref h.past]
  have := k.pn
  have := k.pos
  have e : (W.pn : Int) - 1 = ((W.past.length - 1 : Nat) : Int) := by omega
  rw [e]
  refine atD_nat ?_
  rw [List.getElem?_map, List.getElem?_range (by omega)]
  rfl
theorem made_eq {rule cuts : List Int} {R : Tab} : madeDue rule cuts R = .tup ((List.range (cuts.length + 1)).map fun p => encPart (partDue rule cuts R p)) := rfl
theorem StA.ldue (h : StA S L P M W) (k : Lnk P W) {rule cuts : List Int} (hr : RuleF W.F rule) (hc : cuts.length ≤ 5) (q : ∀ S', Sub S S' → Q (madeDue rule cuts P.R) S') : wp (callD g0 (n + 3) 245 [.ref (M .wd), .tup (rule.map .int), .tup (cuts.map .int)]) S Q := by
  have hRl := k.rlen
  refine wp_call (d := fn245) rfl rfl ?_
  show wp (exs g0 (callD g0 _) fn245.body [some (.ref (M .wd)), some (.tup (rule.map .int)), some (.tup (cuts.map .int)), none, none]) _ _
  simp only [fn245, exs, ex, ev, evs, evIt, wp_bind, wp_getVar, wp_pure, ownIf_f, ownIf_t]
  try simp [-Bool.exists_bool, -List.contains_eq_mem, List.lookup, fPut]
  rw [o_disp]
  generalize hkv : (([[114, 117, 108, 101], [99, 117, 116, 115]].zip [D.tup (rule.map .int), D.tup (cuts.map .int)]).map fun p => ((.inr p.1, p.2) : Ky × D)) = kv
  have s1 : Sub S (S ++ [MO.dK false kv]) := .app
  have h1 := h.sub s1
  have e1 : (S ++ [MO.dK false kv])[S.length]? = some (.dK false kv) := get_new
  generalize S ++ [MO.dK false kv] = S1 at s1 h1 e1 ⊢
  try simp [-Bool.exists_bool, -List.contains_eq_mem, List.lookup, fPut]
  refine ⟨by simp [rgOk, LINE]; omega, ?_⟩
  have ers : rg 0 ((cuts.length : Int) + 1) = (List.range (cuts.length + 1)).map fun (i : Nat) => D.int i := by
    have := rg_nat (n := cuts.length + 1)
    simpa using this
  rw [ers]
  refine wp_lc (fun pre acc S' => Sub S1 S' ∧ acc = (List.range pre.length).map fun p => encPart (partDue rule cuts P.R p)) ⟨.refl, rfl⟩ ?_ ?_
  · rintro pre x post acc S2 ⟨s2, rfl⟩ e
    obtain ⟨⟨i, hi, rfl⟩, hp⟩ := of_map (f := fun (i : Nat) => D.int i) e
    rw [List.length_range] at hp
    rw [List.getElem?_range hp] at hi
    cases hi
    have h2 := h1.sub s2
    have gpt := h2.pt k.last
    refine ⟨by simp [LINE]; omega, ?_⟩
    try simp [-Bool.exists_bool, -List.contains_eq_mem, List.lookup, fPut]
    refine h2.now_ ?_
    try simp [-Bool.exists_bool, -List.contains_eq_mem, List.lookup, fPut]
    have hne : S.length ≠ M (.pt (W.past.length - 1)) := fun z => by
      have := lt_of_get (h.pt k.last)
      omega
    refine lentries_ok (F := P.F) gpt h2.iPast ⟨_, h2.past⟩ (h2.ipt k) rfl (s2.at_ e1) hne (by rw [← hkv]; rfl) (by rw [← hkv]; rfl) (by omega) k.fit (by rw [k.F]; exact hr) (by omega) ⟨_, _, h2.wd⟩ fun S3 s3 => ?_
    have eo : own (encPart (partDue rule cuts P.R pre.length)) = IR.M.pure (encPart (partDue rule cuts P.R pre.length)) := rfl
    try simp [-Bool.exists_bool, -List.contains_eq_mem, List.lookup, fPut, eo]
    exact ⟨s2.trans s3, by rw [List.range_succ, List.map_append]; rfl⟩
  · rintro acc S2 ⟨s2, rfl⟩
    rw [List.length_map, List.length_range]
    try simp [-Bool.exists_bool, -List.contains_eq_mem, List.lookup, fPut]
    exact q _ (s1.trans s2)
theorem plain_ok {ps : List (List Ent)} (hl : ps.length ≤ 1000) (hp : ∀ e ∈ ps, e.length ≤ 1000) (q : ∀ S', Sub S S' → Q (.bl true) S') : wp (callD g0 (n + 2) 246 [.tup (ps.map encPart)]) S Q := by
  refine wp_call (d := fn246) rfl rfl ?_
  show wp (exs g0 (callD g0 _) fn246.body [some (.tup (ps.map encPart)), none, none, none, none]) _ _
  simp only [fn246, exs, ex, ev, evs, evIt, wp_bind, wp_getVar, wp_pure, ownIf_f, ownIf_t]
  have e1 : ∀ {S : Sto}, eqD S (.tl []) (.tl []) = some true := fun {S} => eqD_tlI (l := []) (m := [])
  try simp [-Bool.exists_bool, -List.contains_eq_mem, List.lookup, fPut, tyIs]
  refine wp_for (fun pre ρ S' => (∃ x1 x2 x3 x4, ρ = [some (.tup (ps.map encPart)), x1, x2, x3, x4]) ∧ Sub S S') ⟨⟨_, _, _, _, rfl⟩, .refl⟩ ?_ ?_
  · rintro pre x post ρ S1 ⟨⟨x1, x2, x3, x4, rfl⟩, s1⟩ e
    obtain ⟨⟨p, hp1, rfl⟩, hpp⟩ := of_map e
    have hpl := hp p (List.mem_of_getElem? hp1)
    try simp [-Bool.exists_bool, -List.contains_eq_mem, List.lookup, fPut, encPart, tyIs, kindD]
    refine wp_lcP (fun _ => none) (by simp [LINE]; omega) (fun y hy Q' q' => ?_) ?_
    · obtain ⟨z, hz, rfl⟩ := List.mem_map.mp hy
      try simp [-Bool.exists_bool, -List.contains_eq_mem, List.lookup, fPut, prD, tyIs, kindD]
      exact q'
    have en : ∀ m : List D, (m.filterMap fun _ => (none : Option D)) = [] := fun m => by induction m <;> simp_all
    rw [en]
    try simp [-Bool.exists_bool, -List.contains_eq_mem, List.lookup, fPut, e1]
    refine wp_lcM (fun d => match d with | .tup [.int i, _] => .int i | _ => .non) (by simp [LINE]; omega) (fun y hy Q' q' => ?_) ?_
    · obtain ⟨z, hz, rfl⟩ := List.mem_map.mp hy
      try simp [-Bool.exists_bool, -List.contains_eq_mem, List.lookup, fPut, prD]
      exact q'
    have ea : ((p.map prD).map fun d => match d with | .tup [.int i, _] => D.int i | _ => .non) = (p.map fun z => z.1).map D.int := by rw [List.map_map, List.map_map]; rfl
    rw [ea]
    generalize hA : p.map (fun z => z.1) = A
    have hAl : A.length ≤ 1000 := by rw [← hA]; simpa using hpl
    try simp [-Bool.exists_bool, -List.contains_eq_mem, List.lookup, fPut, -List.map_map]
    refine wp_lcM (fun d => match d with | .tup [_, .int i] => .int i | _ => .non) (by simp [LINE]; omega) (fun y hy Q' q' => ?_) ?_
    · obtain ⟨z, hz, rfl⟩ := List.mem_map.mp hy
      try simp [-Bool.exists_bool, -List.contains_eq_mem, List.lookup, fPut, prD]
      exact q'
    have eb : ((p.map prD).map fun d => match d with | .tup [_, .int i] => D.int i | _ => .non) = (p.map fun z => z.2).map D.int := by rw [List.map_map, List.map_map]; rfl
    rw [eb]
    generalize hB : p.map (fun z => z.2) = B
    have hBl : B.length ≤ 1000 := by rw [← hB]; simpa using hpl
    rw [o_addLL, ← List.map_append]
    refine ⟨by simp [LINE]; omega, ?_⟩
    try simp [-Bool.exists_bool, -List.contains_eq_mem, List.lookup, fPut, -List.map_append]
    generalize hC : A ++ B = C
    have hCl : C.length ≤ 2000 := by rw [← hC]; simp; omega
    have gc : (S1 ++ [MO.lst (C.map .int)])[S1.length]? = some (.lst (C.map .int)) := get_new
    have sc : Sub S (S1 ++ [MO.lst (C.map .int)]) := s1.new _
    generalize S1 ++ [MO.lst (C.map .int)] = S2 at gc sc ⊢
    try simp [-Bool.exists_bool, -List.contains_eq_mem, List.lookup, fPut, gc]
    refine wp_lcRE gc (by simp [LINE]; omega) (fun y hy Q' q' => ?_) ?_
    · obtain ⟨z, hz, rfl⟩ := List.mem_map.mp hy
      try simp [-Bool.exists_bool, -List.contains_eq_mem, List.lookup, fPut, tyIs, kindD]
      exact q'
    try simp [-Bool.exists_bool, -List.contains_eq_mem, List.lookup, fPut, e1]
    exact sc
  · rintro ρ S1 ⟨⟨x1, x2, x3, x4, rfl⟩, s1⟩
    try simp [-Bool.exists_bool, -List.contains_eq_mem, List.lookup, fPut]
    exact q _ s1
end
end IR

namespace IR
def tab25 (i : Nat) : List (Txt × Nat) := [([97], 0), ([98, 98], 1), ([99, 99, 99], 2)].take i
def encRC (x : List Int × List Int) : D := .tup [.tup (x.1.map .int), .tup (x.2.map .int)]
structure In25 (a wd r : Nat) (i : Nat) (S : Sto) (L : PR → Nat) (P : PS) (M : WR → Nat) (W : WA) (ls : List (List Int × List Int)) : Prop where
  h : StA S L P M W
  k : Lnk P W
  o : LsOk P
  dk : M .dk = a
  wd : M .wd = wd
  d : DkOk W (3000 + 2000 * i)
  fr : FreeA L P M W r
  at_ : S[r]? = some (.lst (ls.map encRC))
  len : ls.length = i
  ok : ∀ x ∈ ls, RuleF W.F x.1 ∧ x.2.length ≤ 5
  tab : W.tab = tab25 i
  on : W.ones.length = (tab25 i).length
theorem tab25_len {i : Nat} : (tab25 i).length ≤ 3 := by simp [tab25]; omega
section
variable {S S' : Sto} {n : Nat} {Q : D → Sto → Prop}
def chk25 : Ss := .cons (.asg (.var 8) (.callp 249 [some 0, some 1, some 2] (.cons true (.op .ix (.cons false (.var 1) (.cons false (.c (.str tx_8cd892)) .nil))) (.cons true (.var 6) (.cons true (.var 7) .nil))))) (.cons (.ife (.or (.op .ne (.cons false (.var 8) (.cons false (.call 245 (.cons true (.var 1) (.cons true (.var 6) (.cons true (.var 7) .nil)))) .nil))) (.not (.call 246 (.cons true (.var 8) .nil)))) (.cons (.ret (.c (.bl false))) .nil) .nil) .nil)
theorem chk25_ok {wd r : Nat} {L : PR → Nat} {P : PS} {M : WR → Nat} {W : WA} {ls : List (List Int × List Int)} {x0 x3 x4 x5 x6 x7 x8 : Option D} {Q : Flow → Sto → Prop} (h : StA S L P M W) (k : Lnk P W) (hwd : M .wd = wd) (fr : FreeA L P M W r) (at_ : S[r]? = some (.lst (ls.map encRC))) (ok : ∀ x ∈ ls, RuleF W.F x.1 ∧ x.2.length ≤ 5)
    (q : ∀ S' x6 x7 x8, Sub S S' → Q (.next [x0, some (.ref wd), some (.ref r), x3, x4, x5, x6, x7, x8]) S') : wp (forSrc (fun x ρ => (setTg (.tup [6, 7]) ρ x).bind fun ρ' => exs g0 (callD g0 (n + 6)) chk25 ρ') (.rf false r) [x0, some (.ref wd), some (.ref r), x3, x4, x5, x6, x7, x8]) S Q := by
  have hRl := k.rlen
  refine wp_forR (l := ls.map encRC) (fun i ρ S' => (∃ x6 x7 x8, ρ = [x0, some (.ref wd), some (.ref r), x3, x4, x5, x6, x7, x8]) ∧ Sub S S') ⟨⟨_, _, _, rfl⟩, .refl⟩ (fun i ρ S' z => z.2.at_ at_) ?_ ?_
  · rintro i d ρ S1 ⟨⟨x6, x7, x8, rfl⟩, s1⟩ hd
    rw [List.getElem?_map] at hd
    obtain ⟨x, hx, rfl⟩ := Option.map_eq_some_iff.mp hd
    obtain ⟨rule, cuts⟩ := x
    obtain ⟨hr, hc⟩ := ok _ (List.mem_of_getElem? hx)
    simp only at hr hc
    have h1 := h.sub s1
    rw [← hwd]
    simp only [chk25, exs, ex, ev, evs, evIt, wp_bind, wp_getVar, wp_pure, ownIf_f, ownIf_t, encRC]
    try simp [-Bool.exists_bool, -List.contains_eq_mem, List.lookup, fPut, h1.iStore]
    refine h1.p.made (by omega) hRl k.fit (by rw [k.F]; exact hr) fun S2 s2 => ?_
    have eo : own (madeDue rule cuts P.R) = IR.M.pure (madeDue rule cuts P.R) := rfl
    have h2 := h1.sub s2
    try simp [-Bool.exists_bool, -List.contains_eq_mem, List.lookup, fPut, eo]
    refine h2.ldue k hr hc fun S3 s3 => ?_
    have eq1 : eqD S3 (madeDue rule cuts P.R) (madeDue rule cuts P.R) = some true := da_made.eq (k := 4) (by decide)
    try simp [-Bool.exists_bool, -List.contains_eq_mem, List.lookup, fPut, eq1, eo]
    rw [made_eq]
    have em : ((List.range (cuts.length + 1)).map fun p => encPart (partDue rule cuts P.R p)) = ((List.range (cuts.length + 1)).map fun p => partDue rule cuts P.R p).map encPart := by rw [List.map_map]; rfl
    rw [em]
    refine plain_ok (by simp; omega) (fun e he => ?_) fun S4 s4 => ?_
    · obtain ⟨p, _, rfl⟩ := List.mem_map.mp he
      have := entsOf_len (rule := rule) (cuts := cuts) (p := p) (R := P.R)
      unfold partDue
      rw [sortBy_len]
      omega
    · simp [-Bool.exists_bool, -List.contains_eq_mem, List.lookup, fPut]
      exact ((s1.trans s2).trans s3).trans s4
  · rintro ρ S1 ⟨⟨x6, x7, x8, rfl⟩, s1⟩
    exact q _ _ _ _ s1
theorem right25_ok {a : Nat} {k : Int × Int × Int} (hw : S[a]? = some (.dK false (dkKvs k))) (hk : k.2.1 = 0) (q : ∀ S', Q (.bl true) S') : wp (callD g0 (n + 7) 247 [.ref a]) S Q := by
  refine wp_call (d := fn247) rfl rfl ?_
  show wp (exs g0 (callD g0 _) fn247.body [some (.ref a), none, none, none, none, none, none, none, none]) _ _
  simp only [fn247, exs, ex, ev, evs, evIt, wp_bind, wp_getVar, wp_pure, ownIf_f, ownIf_t]
  try simp [-Bool.exists_bool, -List.contains_eq_mem, List.lookup, fPut]
  refine world_ok hw (by omega) (by omega) fun S1 b k1 F nums h1 l1 _ _ _ o1 => ?_
  have s2 : Sub S1 (S1 ++ [MO.lst []]) := .app
  have h2 := h1.sub s2
  have f2 := h1.fresh (Nat.le_refl S1.length)
  have g2 : (S1 ++ [MO.lst []])[S1.length]? = some (.lst []) := get_new
  have hdk : M0 a b .dk = a := rfl
  have hwd : M0 a b .wd = b + 8 := rfl
  have lo : LsOk (P0 F) := .zero
  try simp [-Bool.exists_bool, -List.contains_eq_mem, List.lookup, fPut]
  generalize S1 ++ [MO.lst []] = S2 at h2 g2 ⊢
  generalize S1.length = r at f2 g2 ⊢
  have ht0 : (W0 k1 F nums).tab = [] := rfl
  have hon0 : (W0 k1 F nums).ones.length = 0 := rfl
  generalize M0 a b = M at h2 f2 hdk hwd
  generalize P0 F = P at h2 l1 f2 lo
  generalize W0 k1 F nums = W at h2 l1 o1 f2 ht0 hon0
  generalize L0 b = L at h2 f2
  generalize b + 8 = wd at hwd ⊢
  rw [← hdk]
  refine h2.draw o1 (by omega) (by omega) (by decide) fun d d0 d1 S3 k3 h3 g3 o3 => ?_
  rw [hdk]
  try simp [-Bool.exists_bool, -List.contains_eq_mem, List.lookup, fPut]
  refine ⟨by simp [rgOk, LINE]; omega, ?_⟩
  refine wp_for (fun pre ρ S' => (∃ x3 x4 x5 x6 x7 x8, ρ = [some (.ref a), some (.ref wd), some (.ref r), x3, x4, x5, x6, x7, x8]) ∧ ∃ L P M W ls, In25 a wd r pre.length S' L P M W ls) ⟨⟨_, _, _, _, _, _, rfl⟩, L, P, M, _, [], ⟨h3, l1.dr, lo, hdk, hwd, o3.mono (by simp), g3.free r (lt_of_get g2) f2, g3.keep _ _ f2 g2, rfl, by simp, ht0, hon0⟩⟩ ?_ ?_
  · rintro pre x post ρ S4 ⟨⟨x3, x4, x5, x6, x7, x8, rfl⟩, L, P, M, W, ls, i4⟩ e
    obtain ⟨rfl, hp⟩ := rg_at e
    have hp6 : pre.length < 6 := by omega
    obtain ⟨h4, l4, lo4, hdk, hwd, o4, f4, a4, len4, ok4, tab4, on4⟩ := i4
    generalize hT : (3000 + 2000 * (pre.length : Int)) = T at o4
    have hTb : T ≤ 20000 := by omega
    try simp [-Bool.exists_bool, -List.contains_eq_mem, List.lookup, fPut]
    rw [← hdk, ← hwd]
    refine h4.draw o4 (by omega) (by omega) (by decide) fun c c0 c1 S5 k5 h5 g5 o5 => ?_
    have hx : ∃ m : Int, atD [D.int 8, D.int 31] (if c = 3 then 1 else 0) = some (.int m) ∧ 0 < m ∧ m ≤ 31 := by
      by_cases hb : c = 3
      · rw [if_pos hb]; exact ⟨31, rfl, by decide, by decide⟩
      · rw [if_neg hb]; exact ⟨8, rfl, by decide, by decide⟩
    obtain ⟨m, hm, m0, m1⟩ := hx
    try simp [-Bool.exists_bool, -List.contains_eq_mem, List.lookup, fPut, hm]
    refine h5.draw o5 (by omega) m0 (by simp only [B64]; omega) fun w w0 w1 S6 k6 h6 g6 o6 => ?_
    try simp [-Bool.exists_bool, -List.contains_eq_mem, List.lookup, fPut]
    refine h6.writes l4.dr o6 (by omega) w0 (by omega) fun S7 P7 M7 W7 wr => ?_
    have g47 := (g5.trans g6).trans wr.g
    have lo7 := wr.lsOk l4.dr lo4
    have o7 := wr.o
    have ht7 : W7.tab = tab25 pre.length := wr.tab.trans tab4
    have on7 : W7.ones.length = (tab25 pre.length).length := by rw [wr.ones]; exact on4
    have hF7 : W7.F = W.F := wr.F
    have hdk7 : M7 .dk = M .dk := g47.fixM .dk rfl
    have hwd7 : M7 .wd = M .wd := g47.fixM .wd rfl
    obtain ⟨h7, _, l7, _, _, _, _, _, _, _⟩ := wr
    have f7 := g47.free r (lt_of_get a4) f4
    have a7 := g47.keep _ _ f4 a4
    have o7 : DkOk W7 (T + 1000) := o7.mono (by omega)
    rw [← hdk7, ← hwd7]
    try simp [-Bool.exists_bool, -List.contains_eq_mem, List.lookup, fPut, h7.iF]
    refine h7.rule o7 (by omega) l7.F1 l7.F4 fun rule hr hr4 S8 k8 h8 g8 o8 => ?_
    try simp [-Bool.exists_bool, -List.contains_eq_mem, List.lookup, fPut]
    refine h8.cuts o8 (by omega) fun cuts hc S9 k9 h9 g9 o9 => ?_
    rw [dr_dr] at h9 g9 o9
    have g79 := g8.trans g9
    have f9 := g79.free r (lt_of_get a7) f7
    have a9 := g79.keep _ _ f7 a7
    have l9 : Lnk P7 (W7.dr k9) := l7.dr
    try simp [-Bool.exists_bool, -List.contains_eq_mem, List.lookup, fPut, wp_recvL a9, o_append a9]
    refine ⟨by simp [LINE]; omega, ?_⟩
    have e10 : (ls.map encRC ++ [D.tup [.tup (rule.map .int), .tup (cuts.map .int)]]) = (ls ++ [(rule, cuts)]).map encRC := by rw [List.map_append]; rfl
    rw [e10]
    have hr9 := lt_of_get a9
    have h10 := h9.setFree f9 (.lst ((ls ++ [(rule, cuts)]).map encRC))
    have a10 : (S9.set r (.lst ((ls ++ [(rule, cuts)]).map encRC)))[r]? = some (.lst ((ls ++ [(rule, cuts)]).map encRC)) := List.getElem?_set_self hr9
    generalize S9.set r (.lst ((ls ++ [(rule, cuts)]).map encRC)) = S10 at h10 a10 ⊢
    have ok10 : ∀ x ∈ ls ++ [(rule, cuts)], RuleF W.F x.1 ∧ x.2.length ≤ 5 := fun x hx => by
      rcases List.mem_append.mp hx with hx | hx
      · exact ok4 x hx
      · rw [List.mem_singleton] at hx; subst hx; exact ⟨by rw [← hF7]; exact hr, hc⟩
    have e9 : M7 .dk = a := hdk7.trans hdk
    have e9' : M7 .wd = wd := hwd7.trans hwd
    rw [e9, e9']
    have i10 : DkOk (W7.dr k9) (T + 1013) := o9.mono (by omega)
    by_cases hp3 : (pre.length : Int) < 3
    · rw [if_pos hp3]
      have hp3 : pre.length < 3 := by omega
      have hnm : ∃ nm : Txt, atD [D.str [97], D.str [98, 98], D.str [99, 99, 99]] (pre.length : Int) = some (.str nm) ∧ (tab25 pre.length).lookup nm = none ∧ tab25 (pre.length + 1) = tab25 pre.length ++ [(nm, pre.length)] := by
        have : pre.length = 0 ∨ pre.length = 1 ∨ pre.length = 2 := by omega
        rcases this with z | z | z <;> rw [z]
        · exact ⟨[97], rfl, rfl, rfl⟩
        · exact ⟨[98, 98], rfl, rfl, rfl⟩
        · exact ⟨[99, 99, 99], rfl, rfl, rfl⟩
      obtain ⟨nm, hn1, hn2, hn3⟩ := hnm
      have hlen3 := tab25_len (i := pre.length)
      try simp [-Bool.exists_bool, -List.contains_eq_mem, List.lookup, fPut, hn1]
      rw [← e9, ← e9']
      refine h10.begin l9 (by rw [dr_tab, ht7]; exact hn2) (by rw [dr_tab, ht7]; omega) i10 (by omega) fun S11 L11 M11 k11 rule2 cuts2 r1 r2 r3 h11 g11 l11 o11 => ?_
      have f11 := g11.free r (lt_of_get a10) f9
      have a11 := g11.keep _ _ f9 a10
      have hd11 : M11 .dk = M7 .dk := g11.fixM .dk rfl
      have hw11 : M11 .wd = M7 .wd := g11.fixM .wd rfl
      try simp [-Bool.exists_bool, -List.contains_eq_mem, List.lookup, fPut]
      have ok10' : ∀ x ∈ ls ++ [(rule, cuts)], RuleF (((W7.dr k9).dr k11).more.begin nm (LL.new nm (P7.begun + 1) rule2 cuts2 P7.now).bare).F x.1 ∧ x.2.length ≤ 5 := fun x hx => by
        show RuleF W7.F x.1 ∧ _
        rw [hF7]
        exact ok10 x hx
      have htl : (tab25 pre.length).length = pre.length := by simp [tab25]; omega
      refine ⟨⟨_, a11⟩, ?_⟩
      rw [e9, e9']
      refine chk25_ok (n := n) h11 l11 (hw11.trans e9') f11 a11 ok10' fun S12 x6 x7 x8 s12 => ?_
      refine ⟨⟨_, _, _, _, _, _, rfl⟩, L11, _, M11, _, ls ++ [(rule, cuts)], ⟨h11.sub s12, l11, lo7.begin (by rw [l7.tab, ht7]; exact hn2) (by rw [l7.F]; exact r1) (by omega) (by rw [l7.tab, ht7]; omega), hd11.trans e9, hw11.trans e9', ?_, f11, s12.at_ a11, by simp [len4], ok10', ?_, ?_⟩⟩
      · refine ⟨o11.1, Int.le_trans o11.2 (by (try simp only [List.length_append, List.length_singleton]); omega)⟩
      · show W7.tab ++ [(nm, W7.ones.length)] = _
        try simp only [List.length_append, List.length_singleton]
        rw [hn3, ht7, on7, htl]
      · show (W7.ones ++ [_]).length = _
        try simp only [List.length_append, List.length_singleton]
        rw [hn3, on7]
        simp
    · rw [if_neg hp3, if_neg hp3]
      have hp3 : ¬ pre.length < 3 := by omega
      try simp [-Bool.exists_bool, -List.contains_eq_mem, List.lookup, fPut]
      refine ⟨⟨_, a10⟩, ?_⟩
      refine chk25_ok (n := n) h10 l9 e9' f9 a10 (fun x hx => by rw [dr_F, hF7]; exact ok10 x hx) fun S12 x6 x7 x8 s12 => ?_
      refine ⟨⟨_, _, _, _, _, _, rfl⟩, L, P7, M7, W7.dr k9, ls ++ [(rule, cuts)], ⟨h10.sub s12, l9, lo7, e9, e9', i10.mono (by simp; omega), f9, s12.at_ a10, by simp [len4], fun x hx => by rw [dr_F, hF7]; exact ok10 x hx, ?_, ?_⟩⟩
      all_goals
        have e1 : ∀ i, 3 ≤ i → tab25 i = tab25 3 := fun i hi => by unfold tab25; rw [List.take_of_length_le (by simpa using hi), List.take_of_length_le (by simp)]
        try simp only [List.length_append, List.length_singleton]
      · rw [dr_tab, ht7, e1 _ (by omega), e1 (pre.length + 1) (by omega)]
      · rw [dr_ones, on7, e1 _ (by omega), e1 (pre.length + 1) (by omega)]
  · rintro ρ S4 ⟨⟨x3, x4, x5, x6, x7, x8, rfl⟩, L, P, M, W, ls, i4⟩
    try simp [-Bool.exists_bool, -List.contains_eq_mem, List.lookup, fPut]
    rw [← i4.wd]
    exact i4.h.alike i4.k i4.o fun S5 _ _ => q S5
end
theorem holds (ns0 : List Int) (hn0 : ns0.length ≤ 63) : ∃ S, callD g0 40 248 [.scr ns0] [] = .ok (.bl true) S := by
  suffices h : wp (callD g0 40 248 [.scr ns0]) [] fun d _ => d = .bl true by
    obtain ⟨a, S, h1, rfl⟩ := wp_ok h
    exact ⟨S, h1⟩
  refine wp_call (d := fn248) rfl rfl ?_
  show wp (exs g0 (callD g0 _) fn248.body [some (.scr ns0), none]) _ _
  simp only [fn248, exs, ex, ev, evs, evIt, wp_bind, wp_getVar, wp_pure, ownIf_f, ownIf_t]
  try simp [-Bool.exists_bool, -List.contains_eq_mem, List.lookup, fPut]
  refine cell_ok (k := 0) fun i => ?_
  try simp [-Bool.exists_bool, -List.contains_eq_mem, List.lookup, fPut]
  have e1 : cut (ns0.map D.int) (some 1) (some 4) = (cut ns0 (some 1) (some 4)).map .int := by simp [cut, List.map_take, List.map_drop]
  rw [e1, show [D.int i] = [i].map D.int from rfl, o_addLL, ← List.map_append]
  refine ⟨by have := cut_len (l := ns0) (a := some 1) (b := some 4); simp [LINE]; omega, ?_⟩
  generalize [i] ++ cut ns0 (some 1) (some 4) = cl
  try simp [-Bool.exists_bool, -List.contains_eq_mem, List.lookup, fPut]
  refine cells_ok (fun ρ => ∃ x1, ρ = [some (.scr ns0), x1]) ⟨_, rfl⟩ ?_ ?_
  · rintro i ρ S ⟨x1, rfl⟩
    try simp [-Bool.exists_bool, -List.contains_eq_mem, List.lookup, fPut]
    refine ldeck_ok fun k hk => ?_
    try simp [-Bool.exists_bool, -List.contains_eq_mem, List.lookup, fPut]
    refine right25_ok (n := 32) (k := k) get_new hk fun S2 => ?_
    try simp [-Bool.exists_bool, -List.contains_eq_mem, List.lookup, fPut]
  · rintro ρ S ⟨x1, rfl⟩
    try simp [-Bool.exists_bool, -List.contains_eq_mem, List.lookup, fPut]
end IR

namespace LW
open PySem PySem.Spec PyProof.Rows L2 IRS
def top (i : Nat) : Stmt := PySem.Challenge.pw_laglist_k25_made_at_once.main.body.getD i (.Pass ⟨0, 0, 0, 0⟩)
def sub : Stmt → Nat → Stmt
  | .ClassDef (body := b) .., j => b.getD j (.Pass ⟨0, 0, 0, 0⟩)
  | s, _ => s
abbrev st98 : Stmt := top 0
abbrev N98 : List Str := ["k"]
abbrev ps98 : List Str := ["k"]
abbrev cx98 : IRS.Ctx := ⟨N98, defScope st98, fun _ => true, false⟩
abbrev adr98 (K : PySem.W.Frag) : Addr := He.fAd K ("_wall", none)
theorem sc98 : FnScope N98 ps98 (defScope st98) := ⟨rfl, rfl, rfl, by decide +kernel, rfl, by decide +kernel, by decide +kernel⟩
abbrev st33 : Stmt := top 9
abbrev N33 : List Str := ["row", "rule", "place"]
abbrev ps33 : List Str := ["row", "rule"]
abbrev cx33 : IRS.Ctx := ⟨N33, defScope st33, fun _ => true, false⟩
abbrev adr33 (K : PySem.W.Frag) : Addr := He.fAd K ("key_of", none)
theorem sc33 : FnScope N33 ps33 (defScope st33) := ⟨rfl, rfl, rfl, by decide +kernel, rfl, by decide +kernel, by decide +kernel⟩
abbrev st42 : Stmt := top 10
abbrev N42 : List Str := ["cuts", "key", "cut"]
abbrev ps42 : List Str := ["cuts", "key"]
abbrev cx42 : IRS.Ctx := ⟨N42, defScope st42, fun _ => true, false⟩
abbrev adr42 (K : PySem.W.Frag) : Addr := He.fAd K ("part_of", none)
theorem sc42 : FnScope N42 ps42 (defScope st42) := ⟨rfl, rfl, rfl, by decide +kernel, rfl, by decide +kernel, by decide +kernel⟩
abbrev st178 : Stmt := top 12
abbrev N178 : List Str := ["store", "one", "part", "mark"]
abbrev ps178 : List Str := ["store", "one", "part"]
abbrev cx178 : IRS.Ctx := ⟨N178, defScope st178, fun _ => true, false⟩
abbrev adr178 (K : PySem.W.Frag) : Addr := He.fAd K ("stands", none)
theorem sc178 : FnScope N178 ps178 (defScope st178) := ⟨rfl, rfl, rfl, by decide +kernel, rfl, by decide +kernel, by decide +kernel⟩
abbrev st133 : Stmt := sub (top 14) 0
abbrev N133 : List Str := ["self", "name", "number", "rule", "cuts", "moment", "mark"]
abbrev ps133 : List Str := ["self", "name", "number", "rule", "cuts", "moment"]
abbrev cx133 : IRS.Ctx := ⟨N133, defScope st133, fun _ => true, false⟩
abbrev adr133 (K : PySem.W.Frag) : Addr := He.fAd K ("LagList", some "__init__")
theorem sc133 : FnScope N133 ps133 (defScope st133) := ⟨rfl, rfl, rfl, by decide +kernel, rfl, by decide +kernel, by decide +kernel⟩
abbrev st171 : Stmt := top 15
abbrev N171 : List Str := ["store", "name"]
abbrev ps171 : List Str := ["store", "name"]
abbrev cx171 : IRS.Ctx := ⟨N171, defScope st171, fun _ => true, false⟩
abbrev adr171 (K : PySem.W.Frag) : Addr := He.fAd K ("list_of", none)
theorem sc171 : FnScope N171 ps171 (defScope st171) := ⟨rfl, rfl, rfl, by decide +kernel, rfl, by decide +kernel, by decide +kernel⟩
abbrev st165 : Stmt := top 16
abbrev N165 : List Str := ["store", "name", "rule", "cuts"]
abbrev ps165 : List Str := ["store", "name", "rule", "cuts"]
abbrev cx165 : IRS.Ctx := ⟨N165, defScope st165, fun _ => true, false⟩
abbrev adr165 (K : PySem.W.Frag) : Addr := He.fAd K ("begin_list", none)
theorem sc165 : FnScope N165 ps165 (defScope st165) := ⟨rfl, rfl, rfl, by decide +kernel, rfl, by decide +kernel, by decide +kernel⟩
abbrev st169 : Stmt := top 17
abbrev N169 : List Str := ["store", "name"]
abbrev ps169 : List Str := ["store", "name"]
abbrev cx169 : IRS.Ctx := ⟨N169, defScope st169, fun _ => true, false⟩
abbrev adr169 (K : PySem.W.Frag) : Addr := He.fAd K ("is_ready", none)
theorem sc169 : FnScope N169 ps169 (defScope st169) := ⟨rfl, rfl, rfl, by decide +kernel, rfl, by decide +kernel, by decide +kernel⟩
abbrev st173 : Stmt := top 18
abbrev N173 : List Str := ["store", "name", "one", "found", "part", "mark"]
abbrev ps173 : List Str := ["store", "name"]
abbrev cx173 : IRS.Ctx := ⟨N173, defScope st173, fun _ => true, false⟩
abbrev adr173 (K : PySem.W.Frag) : Addr := He.fAd K ("marks", none)
theorem sc173 : FnScope N173 ps173 (defScope st173) := ⟨rfl, rfl, rfl, by decide +kernel, rfl, by decide +kernel, by decide +kernel⟩
abbrev st249 : Stmt := top 19
abbrev N249 : List Str := ["store", "rule", "cuts", "found", "part", "number", "row", "key", "some"]
abbrev ps249 : List Str := ["store", "rule", "cuts"]
abbrev cx249 : IRS.Ctx := ⟨N249, defScope st249, fun _ => true, false⟩
abbrev adr249 (K : PySem.W.Frag) : Addr := He.fAd K ("made_at_once", none)
theorem sc249 : FnScope N249 ps249 (defScope st249) := ⟨rfl, rfl, rfl, by decide +kernel, rfl, by decide +kernel, by decide +kernel⟩
abbrev st71 : Stmt := sub (top 21) 0
abbrev N71 : List Str := ["self", "fields"]
abbrev ps71 : List Str := ["self", "fields"]
abbrev cx71 : IRS.Ctx := ⟨N71, defScope st71, fun _ => true, false⟩
abbrev adr71 (K : PySem.W.Frag) : Addr := He.fAd K ("Store", some "__init__")
theorem sc71 : FnScope N71 ps71 (defScope st71) := ⟨rfl, rfl, rfl, by decide +kernel, rfl, by decide +kernel, by decide +kernel⟩
abbrev st75 : Stmt := sub (top 21) 1
abbrev N75 : List Str := ["self", "number", "after"]
abbrev ps75 : List Str := ["self", "number", "after"]
abbrev cx75 : IRS.Ctx := ⟨N75, defScope st75, fun _ => true, false⟩
abbrev adr75 (K : PySem.W.Frag) : Addr := He.fAd K ("Store", some "noted")
theorem sc75 : FnScope N75 ps75 (defScope st75) := ⟨rfl, rfl, rfl, by decide +kernel, rfl, by decide +kernel, by decide +kernel⟩
abbrev st79 : Stmt := sub (top 21) 2
abbrev N79 : List Str := ["self", "number", "row", "moment"]
abbrev ps79 : List Str := ["self", "number", "row"]
abbrev cx79 : IRS.Ctx := ⟨N79, defScope st79, fun _ => true, false⟩
abbrev adr79 (K : PySem.W.Frag) : Addr := He.fAd K ("Store", some "put")
theorem sc79 : FnScope N79 ps79 (defScope st79) := ⟨rfl, rfl, rfl, by decide +kernel, rfl, by decide +kernel, by decide +kernel⟩
abbrev st73 : Stmt := sub (top 21) 3
abbrev N73 : List Str := ["self", "number", "moment"]
abbrev ps73 : List Str := ["self", "number"]
abbrev cx73 : IRS.Ctx := ⟨N73, defScope st73, fun _ => true, false⟩
abbrev adr73 (K : PySem.W.Frag) : Addr := He.fAd K ("Store", some "drop")
theorem sc73 : FnScope N73 ps73 (defScope st73) := ⟨rfl, rfl, rfl, by decide +kernel, rfl, by decide +kernel, by decide +kernel⟩
abbrev st104 : Stmt := sub (top 21) 4
abbrev N104 : List Str := ["self", "number"]
abbrev ps104 : List Str := ["self", "number"]
abbrev cx104 : IRS.Ctx := ⟨N104, defScope st104, fun _ => true, false⟩
abbrev adr104 (K : PySem.W.Frag) : Addr := He.fAd K ("Store", some "row_at")
theorem sc104 : FnScope N104 ps104 (defScope st104) := ⟨rfl, rfl, rfl, by decide +kernel, rfl, by decide +kernel, by decide +kernel⟩
abbrev st81 : Stmt := sub (top 21) 5
abbrev N81 : List Str := ["self"]
abbrev ps81 : List Str := ["self"]
abbrev cx81 : IRS.Ctx := ⟨N81, defScope st81, fun _ => true, false⟩
abbrev adr81 (K : PySem.W.Frag) : Addr := He.fAd K ("Store", some "rows")
theorem sc81 : FnScope N81 ps81 (defScope st81) := ⟨rfl, rfl, rfl, by decide +kernel, rfl, by decide +kernel, by decide +kernel⟩
abbrev st77 : Stmt := sub (top 21) 6
abbrev N77 : List Str := ["self"]
abbrev ps77 : List Str := ["self"]
abbrev cx77 : IRS.Ctx := ⟨N77, defScope st77, fun _ => true, false⟩
abbrev adr77 (K : PySem.W.Frag) : Addr := He.fAd K ("Store", some "now")
theorem sc77 : FnScope N77 ps77 (defScope st77) := ⟨rfl, rfl, rfl, by decide +kernel, rfl, by decide +kernel, by decide +kernel⟩
abbrev st78 : Stmt := sub (top 21) 7
abbrev N78 : List Str := ["self"]
abbrev ps78 : List Str := ["self"]
abbrev cx78 : IRS.Ctx := ⟨N78, defScope st78, fun _ => true, false⟩
abbrev adr78 (K : PySem.W.Frag) : Addr := He.fAd K ("Store", some "oldest")
theorem sc78 : FnScope N78 ps78 (defScope st78) := ⟨rfl, rfl, rfl, by decide +kernel, rfl, by decide +kernel, by decide +kernel⟩
abbrev st76 : Stmt := sub (top 21) 8
abbrev N76 : List Str := ["self", "after", "upto"]
abbrev ps76 : List Str := ["self", "after", "upto"]
abbrev cx76 : IRS.Ctx := ⟨N76, defScope st76, fun _ => true, false⟩
abbrev adr76 (K : PySem.W.Frag) : Addr := He.fAd K ("Store", some "notes")
theorem sc76 : FnScope N76 ps76 (defScope st76) := ⟨rfl, rfl, rfl, by decide +kernel, rfl, by decide +kernel, by decide +kernel⟩
abbrev st134 : Stmt := sub (top 21) 9
abbrev N134 : List Str := ["self", "moment"]
abbrev ps134 : List Str := ["self", "moment"]
abbrev cx134 : IRS.Ctx := ⟨N134, defScope st134, fun _ => true, false⟩
abbrev adr134 (K : PySem.W.Frag) : Addr := He.fAd K ("Store", some "ask_moment")
theorem sc134 : FnScope N134 ps134 (defScope st134) := ⟨rfl, rfl, rfl, by decide +kernel, rfl, by decide +kernel, by decide +kernel⟩
abbrev st136 : Stmt := sub (top 21) 10
abbrev N136 : List Str := ["self", "moment"]
abbrev ps136 : List Str := ["self", "moment"]
abbrev cx136 : IRS.Ctx := ⟨N136, defScope st136, fun _ => true, false⟩
abbrev adr136 (K : PySem.W.Frag) : Addr := He.fAd K ("Store", some "rows_at")
theorem sc136 : FnScope N136 ps136 (defScope st136) := ⟨rfl, rfl, rfl, by decide +kernel, rfl, by decide +kernel, by decide +kernel⟩
abbrev st135 : Stmt := sub (top 21) 11
abbrev N135 : List Str := ["self", "moment"]
abbrev ps135 : List Str := ["self", "moment"]
abbrev cx135 : IRS.Ctx := ⟨N135, defScope st135, fun _ => true, false⟩
abbrev adr135 (K : PySem.W.Frag) : Addr := He.fAd K ("Store", some "forget")
theorem sc135 : FnScope N135 ps135 (defScope st135) := ⟨rfl, rfl, rfl, by decide +kernel, rfl, by decide +kernel, by decide +kernel⟩
abbrev st139 : Stmt := top 23
abbrev N139 : List Str := ["_law_script", "_law_k"]
abbrev ps139 : List Str := ["_law_script", "_law_k"]
abbrev cx139 : IRS.Ctx := ⟨N139, defScope st139, fun _ => true, false⟩
abbrev adr139 (K : PySem.W.Frag) : Addr := He.fAd K ("_law_cell_at", none)
theorem sc139 : FnScope N139 ps139 (defScope st139) := ⟨rfl, rfl, rfl, by decide +kernel, rfl, by decide +kernel, by decide +kernel⟩
abbrev st141 : Stmt := top 24
abbrev N141 : List Str := ["_law_cell"]
abbrev ps141 : List Str := ["_law_cell"]
abbrev cx141 : IRS.Ctx := ⟨N141, defScope st141, fun _ => true, false⟩
abbrev adr141 (K : PySem.W.Frag) : Addr := He.fAd K ("_law_deck", none)
theorem sc141 : FnScope N141 ps141 (defScope st141) := ⟨rfl, rfl, rfl, by decide +kernel, rfl, by decide +kernel, by decide +kernel⟩
abbrev st142 : Stmt := top 25
abbrev N142 : List Str := ["_law_deck_here", "_law_most", "_law_found", "_law_mixed"]
abbrev ps142 : List Str := ["_law_deck_here", "_law_most"]
abbrev cx142 : IRS.Ctx := ⟨N142, defScope st142, fun _ => true, false⟩
abbrev adr142 (K : PySem.W.Frag) : Addr := He.fAd K ("_law_draw", none)
theorem sc142 : FnScope N142 ps142 (defScope st142) := ⟨rfl, rfl, rfl, by decide +kernel, rfl, by decide +kernel, by decide +kernel⟩
abbrev st146 : Stmt := top 26
abbrev N146 : List Str := ["_law_deck_here", "_law_many", "_law_letters", "_law_found", "_law_k", "_law_word", "_law_j", "_law_spot"]
abbrev ps146 : List Str := ["_law_deck_here", "_law_many"]
abbrev cx146 : IRS.Ctx := ⟨N146, defScope st146, fun _ => true, false⟩
abbrev adr146 (K : PySem.W.Frag) : Addr := He.fAd K ("_law_names", none)
theorem sc146 : FnScope N146 ps146 (defScope st146) := ⟨rfl, rfl, rfl, by decide +kernel, rfl, by decide +kernel, by decide +kernel⟩
abbrev st147 : Stmt := top 27
abbrev N147 : List Str := ["_law_deck_here", "_law_most", "_law_way"]
abbrev ps147 : List Str := ["_law_deck_here", "_law_most"]
abbrev cx147 : IRS.Ctx := ⟨N147, defScope st147, fun _ => true, false⟩
abbrev adr147 (K : PySem.W.Frag) : Addr := He.fAd K ("_law_near", none)
theorem sc147 : FnScope N147 ps147 (defScope st147) := ⟨rfl, rfl, rfl, by decide +kernel, rfl, by decide +kernel, by decide +kernel⟩
abbrev st155 : Stmt := top 28
abbrev N155 : List Str := ["_law_deck_here", "_law_fields", "_law_mask", "_law_place"]
abbrev ps155 : List Str := ["_law_deck_here", "_law_fields"]
abbrev cx155 : IRS.Ctx := ⟨N155, defScope st155, fun _ => true, false⟩
abbrev adr155 (K : PySem.W.Frag) : Addr := He.fAd K ("_law_rule", none)
theorem sc155 : FnScope N155 ps155 (defScope st155) := ⟨rfl, rfl, rfl, by decide +kernel, rfl, by decide +kernel, by decide +kernel⟩
abbrev st140 : Stmt := top 29
abbrev N140 : List Str := ["_law_deck_here", "_law_many", "_law_some", "_law_k"]
abbrev ps140 : List Str := ["_law_deck_here"]
abbrev cx140 : IRS.Ctx := ⟨N140, defScope st140, fun _ => true, false⟩
abbrev adr140 (K : PySem.W.Frag) : Addr := He.fAd K ("_law_cuts", none)
theorem sc140 : FnScope N140 ps140 (defScope st140) := ⟨rfl, rfl, rfl, by decide +kernel, rfl, by decide +kernel, by decide +kernel⟩
abbrev st145 : Stmt := top 30
abbrev N145 : List Str := ["_law_row", "_law_places", "_law_place"]
abbrev ps145 : List Str := ["_law_row", "_law_places"]
abbrev cx145 : IRS.Ctx := ⟨N145, defScope st145, fun _ => true, false⟩
abbrev adr145 (K : PySem.W.Frag) : Addr := He.fAd K ("_law_key", none)
theorem sc145 : FnScope N145 ps145 (defScope st145) := ⟨rfl, rfl, rfl, by decide +kernel, rfl, by decide +kernel, by decide +kernel⟩
abbrev st150 : Stmt := top 31
abbrev N150 : List Str := ["_law_edges", "_law_key_here", "_law_cut"]
abbrev ps150 : List Str := ["_law_edges", "_law_key_here"]
abbrev cx150 : IRS.Ctx := ⟨N150, defScope st150, fun _ => true, false⟩
abbrev adr150 (K : PySem.W.Frag) : Addr := He.fAd K ("_law_part", none)
theorem sc150 : FnScope N150 ps150 (defScope st150) := ⟨rfl, rfl, rfl, by decide +kernel, rfl, by decide +kernel, by decide +kernel⟩
abbrev st148 : Stmt := top 32
abbrev N148 : List Str := ["_law_deck_here", "_law_fields", "_law_k"]
abbrev ps148 : List Str := ["_law_deck_here", "_law_fields"]
abbrev cx148 : IRS.Ctx := ⟨N148, defScope st148, fun _ => true, false⟩
abbrev adr148 (K : PySem.W.Frag) : Addr := He.fAd K ("_law_new_row", none)
theorem sc148 : FnScope N148 ps148 (defScope st148) := ⟨rfl, rfl, rfl, by decide +kernel, rfl, by decide +kernel, by decide +kernel⟩
abbrev st162 : Stmt := top 33
abbrev N162 : List Str := ["_law_deck_here", "_law_fields", "_law_numbers", "_law_k", "_law_world_here"]
abbrev ps162 : List Str := ["_law_deck_here"]
abbrev cx162 : IRS.Ctx := ⟨N162, defScope st162, fun _ => true, false⟩
abbrev adr162 (K : PySem.W.Frag) : Addr := He.fAd K ("_law_world", none)
theorem sc162 : FnScope N162 ps162 (defScope st162) := ⟨rfl, rfl, rfl, by decide +kernel, rfl, by decide +kernel, by decide +kernel⟩
abbrev st149 : Stmt := top 34
abbrev N149 : List Str := ["_law_world_here"]
abbrev ps149 : List Str := ["_law_world_here"]
abbrev cx149 : IRS.Ctx := ⟨N149, defScope st149, fun _ => true, false⟩
abbrev adr149 (K : PySem.W.Frag) : Addr := He.fAd K ("_law_now", none)
theorem sc149 : FnScope N149 ps149 (defScope st149) := ⟨rfl, rfl, rfl, by decide +kernel, rfl, by decide +kernel, by decide +kernel⟩
abbrev st152 : Stmt := top 35
abbrev N152 : List Str := ["_law_deck_here", "_law_world_here", "_law_number", "_law_row", "_law_rows"]
abbrev ps152 : List Str := ["_law_deck_here", "_law_world_here"]
abbrev cx152 : IRS.Ctx := ⟨N152, defScope st152, fun _ => true, false⟩
abbrev adr152 (K : PySem.W.Frag) : Addr := He.fAd K ("_law_put", none)
theorem sc152 : FnScope N152 ps152 (defScope st152) := ⟨rfl, rfl, rfl, by decide +kernel, rfl, by decide +kernel, by decide +kernel⟩
abbrev st143 : Stmt := top 36
abbrev N143 : List Str := ["_law_deck_here", "_law_world_here", "_law_standing", "_law_number", "_law_rows"]
abbrev ps143 : List Str := ["_law_deck_here", "_law_world_here"]
abbrev cx143 : IRS.Ctx := ⟨N143, defScope st143, fun _ => true, false⟩
abbrev adr143 (K : PySem.W.Frag) : Addr := He.fAd K ("_law_drop", none)
theorem sc143 : FnScope N143 ps143 (defScope st143) := ⟨rfl, rfl, rfl, by decide +kernel, rfl, by decide +kernel, by decide +kernel⟩
abbrev st163 : Stmt := top 37
abbrev N163 : List Str := ["_law_deck_here", "_law_world_here", "_law_many", "_law_k"]
abbrev ps163 : List Str := ["_law_deck_here", "_law_world_here", "_law_many"]
abbrev cx163 : IRS.Ctx := ⟨N163, defScope st163, fun _ => true, false⟩
abbrev adr163 (K : PySem.W.Frag) : Addr := He.fAd K ("_law_writes", none)
theorem sc163 : FnScope N163 ps163 (defScope st163) := ⟨rfl, rfl, rfl, by decide +kernel, rfl, by decide +kernel, by decide +kernel⟩
abbrev st138 : Stmt := top 38
abbrev N138 : List Str := ["_law_deck_here", "_law_world_here", "_law_name", "_law_places", "_law_edges", "_law_one"]
abbrev ps138 : List Str := ["_law_deck_here", "_law_world_here", "_law_name"]
abbrev cx138 : IRS.Ctx := ⟨N138, defScope st138, fun _ => true, false⟩
abbrev adr138 (K : PySem.W.Frag) : Addr := He.fAd K ("_law_begin", none)
theorem sc138 : FnScope N138 ps138 (defScope st138) := ⟨rfl, rfl, rfl, by decide +kernel, rfl, by decide +kernel, by decide +kernel⟩
abbrev st144 : Stmt := top 39
abbrev N144 : List Str := ["_law_world_here", "_law_one", "_law_part_here", "_law_moment", "_law_found", "_law_number", "_law_row", "_law_key_here"]
abbrev ps144 : List Str := ["_law_world_here", "_law_one", "_law_part_here", "_law_moment"]
abbrev cx144 : IRS.Ctx := ⟨N144, defScope st144, fun _ => true, false⟩
abbrev adr144 (K : PySem.W.Frag) : Addr := He.fAd K ("_law_entries", none)
theorem sc144 : FnScope N144 ps144 (defScope st144) := ⟨rfl, rfl, rfl, by decide +kernel, rfl, by decide +kernel, by decide +kernel⟩
abbrev st157 : Stmt := top 40
abbrev N157 : List Str := ["_law_world_here", "_law_one", "_law_part_here"]
abbrev ps157 : List Str := ["_law_world_here", "_law_one", "_law_part_here"]
abbrev cx157 : IRS.Ctx := ⟨N157, defScope st157, fun _ => true, false⟩
abbrev adr157 (K : PySem.W.Frag) : Addr := He.fAd K ("_law_stands", none)
theorem sc157 : FnScope N157 ps157 (defScope st157) := ⟨rfl, rfl, rfl, by decide +kernel, rfl, by decide +kernel, by decide +kernel⟩
abbrev st151 : Stmt := top 41
abbrev N151 : List Str := ["_law_one"]
abbrev ps151 : List Str := ["_law_one"]
abbrev cx151 : IRS.Ctx := ⟨N151, defScope st151, fun _ => true, false⟩
abbrev adr151 (K : PySem.W.Frag) : Addr := He.fAd K ("_law_parts", none)
theorem sc151 : FnScope N151 ps151 (defScope st151) := ⟨rfl, rfl, rfl, by decide +kernel, rfl, by decide +kernel, by decide +kernel⟩
abbrev st156 : Stmt := top 42
abbrev N156 : List Str := ["_law_world_here", "_law_one", "_law_low", "_law_part_here"]
abbrev ps156 : List Str := ["_law_world_here", "_law_one"]
abbrev cx156 : IRS.Ctx := ⟨N156, defScope st156, fun _ => true, false⟩
abbrev adr156 (K : PySem.W.Frag) : Addr := He.fAd K ("_law_settled", none)
theorem sc156 : FnScope N156 ps156 (defScope st156) := ⟨rfl, rfl, rfl, by decide +kernel, rfl, by decide +kernel, by decide +kernel⟩
abbrev st160 : Stmt := top 43
abbrev N160 : List Str := ["_law_world_here", "_law_one", "_law_part_here", "_law_moment", "_law_mark"]
abbrev ps160 : List Str := ["_law_world_here", "_law_one", "_law_part_here", "_law_moment"]
abbrev cx160 : IRS.Ctx := ⟨N160, defScope st160, fun _ => true, false⟩
abbrev adr160 (K : PySem.W.Frag) : Addr := He.fAd K ("_law_took", none)
theorem sc160 : FnScope N160 ps160 (defScope st160) := ⟨rfl, rfl, rfl, by decide +kernel, rfl, by decide +kernel, by decide +kernel⟩
abbrev st159 : Stmt := top 44
abbrev N159 : List Str := ["_law_world_here", "_law_one", "_law_part_here"]
abbrev ps159 : List Str := ["_law_world_here", "_law_one"]
abbrev cx159 : IRS.Ctx := ⟨N159, defScope st159, fun _ => true, false⟩
abbrev adr159 (K : PySem.W.Frag) : Addr := He.fAd K ("_law_told_marks", none)
theorem sc159 : FnScope N159 ps159 (defScope st159) := ⟨rfl, rfl, rfl, by decide +kernel, rfl, by decide +kernel, by decide +kernel⟩
abbrev st137 : Stmt := top 45
abbrev N137 : List Str := ["_law_world_here", "_law_shop", "_law_name", "_law_one", "_law_due_here"]
abbrev ps137 : List Str := ["_law_world_here"]
abbrev cx137 : IRS.Ctx := ⟨N137, defScope st137, fun _ => true, false⟩
abbrev adr137 (K : PySem.W.Frag) : Addr := He.fAd K ("_law_alike", none)
theorem sc137 : FnScope N137 ps137 (defScope st137) := ⟨rfl, rfl, rfl, by decide +kernel, rfl, by decide +kernel, by decide +kernel⟩
abbrev st246 : Stmt := top 46
abbrev N246 : List Str := ["_law_thing", "_law_part_here", "_law_entry", "_law_some", "_law_number"]
abbrev ps246 : List Str := ["_law_thing"]
abbrev cx246 : IRS.Ctx := ⟨N246, defScope st246, fun _ => true, false⟩
abbrev adr246 (K : PySem.W.Frag) : Addr := He.fAd K ("_law_plain", none)
theorem sc246 : FnScope N246 ps246 (defScope st246) := ⟨rfl, rfl, rfl, by decide +kernel, rfl, by decide +kernel, by decide +kernel⟩
abbrev st245 : Stmt := top 47
abbrev N245 : List Str := ["_law_world_here", "_law_places", "_law_edges", "_law_one", "_law_part_here"]
abbrev ps245 : List Str := ["_law_world_here", "_law_places", "_law_edges"]
abbrev cx245 : IRS.Ctx := ⟨N245, defScope st245, fun _ => true, false⟩
abbrev adr245 (K : PySem.W.Frag) : Addr := He.fAd K ("_law_due", none)
theorem sc245 : FnScope N245 ps245 (defScope st245) := ⟨rfl, rfl, rfl, by decide +kernel, rfl, by decide +kernel, by decide +kernel⟩
abbrev st247 : Stmt := top 48
abbrev N247 : List Str := ["_law_deck_here", "_law_world_here", "_law_laid_so", "_law_turn", "_law_places", "_law_edges", "_law_one", "_law_some", "_law_found"]
abbrev ps247 : List Str := ["_law_deck_here"]
abbrev cx247 : IRS.Ctx := ⟨N247, defScope st247, fun _ => true, false⟩
abbrev adr247 (K : PySem.W.Frag) : Addr := He.fAd K ("_law_right", none)
theorem sc247 : FnScope N247 ps247 (defScope st247) := ⟨rfl, rfl, rfl, by decide +kernel, rfl, by decide +kernel, by decide +kernel⟩
abbrev st248 : Stmt := top 49
abbrev N248 : List Str := ["_law_script", "_law_cell"]
abbrev ps248 : List Str := ["_law_script"]
abbrev cx248 : IRS.Ctx := ⟨N248, defScope st248, fun _ => true, false⟩
abbrev adr248 (K : PySem.W.Frag) : Addr := He.fAd K ("law", none)
theorem sc248 : FnScope N248 ps248 (defScope st248) := ⟨rfl, rfl, rfl, by decide +kernel, rfl, by decide +kernel, by decide +kernel⟩
abbrev MN : List (Str × Nat) := [("noted", 3), ("put", 3), ("drop", 2), ("row_at", 2), ("rows", 1), ("now", 1), ("oldest", 1), ("notes", 3), ("ask_moment", 2), ("rows_at", 2), ("forget", 2), ("told_write", 0), ("told_page", 0), ("done", 0), ("told_row", 0), ("told_alone", 0), ("told_build", 0), ("say", 0)]
abbrev FL : List Str := ["fields_many", "row_table", "note_rows", "moment_now", "moment_oldest", "list_table", "lists_begun", "name_told", "number_told", "rule_told", "cuts_told", "part_marks", "part_entries", "gone_to", "gone_at", "ready_now", "unlike_now", "fields_told", "store_kept", "page_kept", "part", "name", "number"]
def clf (K : PySem.W.Frag) : Nat → Option Addr := fun c => match c with
  | 0 => some (He.ga K "Store")
  | 1 => some (He.ga K "LagList")
  | _ => none
def nmA (K : PySem.W.Frag) : Nat → Option Addr := fun i => match i with
  | 98 => some (adr98 K)
  | 33 => some (adr33 K)
  | 42 => some (adr42 K)
  | 178 => some (adr178 K)
  | 133 => some (adr133 K)
  | 171 => some (adr171 K)
  | 165 => some (adr165 K)
  | 169 => some (adr169 K)
  | 173 => some (adr173 K)
  | 249 => some (adr249 K)
  | 71 => some (adr71 K)
  | 75 => some (adr75 K)
  | 79 => some (adr79 K)
  | 73 => some (adr73 K)
  | 104 => some (adr104 K)
  | 81 => some (adr81 K)
  | 77 => some (adr77 K)
  | 78 => some (adr78 K)
  | 76 => some (adr76 K)
  | 134 => some (adr134 K)
  | 136 => some (adr136 K)
  | 135 => some (adr135 K)
  | 139 => some (adr139 K)
  | 141 => some (adr141 K)
  | 142 => some (adr142 K)
  | 146 => some (adr146 K)
  | 147 => some (adr147 K)
  | 155 => some (adr155 K)
  | 140 => some (adr140 K)
  | 145 => some (adr145 K)
  | 150 => some (adr150 K)
  | 148 => some (adr148 K)
  | 162 => some (adr162 K)
  | 149 => some (adr149 K)
  | 152 => some (adr152 K)
  | 143 => some (adr143 K)
  | 163 => some (adr163 K)
  | 138 => some (adr138 K)
  | 144 => some (adr144 K)
  | 157 => some (adr157 K)
  | 151 => some (adr151 K)
  | 156 => some (adr156 K)
  | 160 => some (adr160 K)
  | 159 => some (adr159 K)
  | 137 => some (adr137 K)
  | 246 => some (adr246 K)
  | 245 => some (adr245 K)
  | 247 => some (adr247 K)
  | 248 => some (adr248 K)
  | _ => none
structure Hd (D : Wd) where
  g : D.g = IR.g0
  fA : ∀ i, D.N.fnA i = nmA D.N.K i
  fl : D.N.fld = FL
  cA : ∀ c, D.N.clA c = clf D.N.K c
  cl0 : Cls D.N.K (He.ga D.N.K "Store")
  na0 : ∀ n ∈ D.N.fld, NoAttr D.N.K (He.ga D.N.K "Store") n
  mk0 : Mk D.N.K (He.ga D.N.K "Store") (adr71 D.N.K)
  mc0 : D.mg "Store" = some (.ref (He.ga D.N.K "Store"))
  cl1 : Cls D.N.K (He.ga D.N.K "LagList")
  na1 : ∀ n ∈ D.N.fld, NoAttr D.N.K (He.ga D.N.K "LagList") n
  mk1 : Mk D.N.K (He.ga D.N.K "LagList") (adr133 D.N.K)
  mc1 : D.mg "LagList" = some (.ref (He.ga D.N.K "LagList"))
  fd98 : FuncData
  F98 : FunD D.N.K "_wall" "_wall" (defArgs st98) (defBody st98) (defScope st98) [] [] (adr98 D.N.K) fd98
  m98 : D.mg "_wall" = some (.ref (adr98 D.N.K))
  a98 : D.N.fnA 98 = some (adr98 D.N.K)
  b98 : Binds D.N.K fd98 ps98 []
  fd33 : FuncData
  F33 : FunD D.N.K "key_of" "key_of" (defArgs st33) (defBody st33) (defScope st33) [] [] (adr33 D.N.K) fd33
  m33 : D.mg "key_of" = some (.ref (adr33 D.N.K))
  a33 : D.N.fnA 33 = some (adr33 D.N.K)
  b33 : Binds D.N.K fd33 ps33 []
  fd42 : FuncData
  F42 : FunD D.N.K "part_of" "part_of" (defArgs st42) (defBody st42) (defScope st42) [] [] (adr42 D.N.K) fd42
  m42 : D.mg "part_of" = some (.ref (adr42 D.N.K))
  a42 : D.N.fnA 42 = some (adr42 D.N.K)
  b42 : Binds D.N.K fd42 ps42 []
  fd178 : FuncData
  F178 : FunD D.N.K "stands" "stands" (defArgs st178) (defBody st178) (defScope st178) [] [] (adr178 D.N.K) fd178
  m178 : D.mg "stands" = some (.ref (adr178 D.N.K))
  a178 : D.N.fnA 178 = some (adr178 D.N.K)
  b178 : Binds D.N.K fd178 ps178 []
  fd133 : FuncData
  F133 : FunD D.N.K "__init__" "LagList.__init__" (defArgs st133) (defBody st133) (defScope st133) [] [] (adr133 D.N.K) fd133
  a133 : D.N.fnA 133 = some (adr133 D.N.K)
  b133 : Binds D.N.K fd133 ps133 []
  fd171 : FuncData
  F171 : FunD D.N.K "list_of" "list_of" (defArgs st171) (defBody st171) (defScope st171) [] [] (adr171 D.N.K) fd171
  m171 : D.mg "list_of" = some (.ref (adr171 D.N.K))
  a171 : D.N.fnA 171 = some (adr171 D.N.K)
  b171 : Binds D.N.K fd171 ps171 []
  fd165 : FuncData
  F165 : FunD D.N.K "begin_list" "begin_list" (defArgs st165) (defBody st165) (defScope st165) [.non] [] (adr165 D.N.K) fd165
  m165 : D.mg "begin_list" = some (.ref (adr165 D.N.K))
  a165 : D.N.fnA 165 = some (adr165 D.N.K)
  b165 : Binds D.N.K fd165 ps165 []
  fd169 : FuncData
  F169 : FunD D.N.K "is_ready" "is_ready" (defArgs st169) (defBody st169) (defScope st169) [] [] (adr169 D.N.K) fd169
  m169 : D.mg "is_ready" = some (.ref (adr169 D.N.K))
  a169 : D.N.fnA 169 = some (adr169 D.N.K)
  b169 : Binds D.N.K fd169 ps169 []
  fd173 : FuncData
  F173 : FunD D.N.K "marks" "marks" (defArgs st173) (defBody st173) (defScope st173) [] [] (adr173 D.N.K) fd173
  m173 : D.mg "marks" = some (.ref (adr173 D.N.K))
  a173 : D.N.fnA 173 = some (adr173 D.N.K)
  b173 : Binds D.N.K fd173 ps173 []
  fd249 : FuncData
  F249 : FunD D.N.K "made_at_once" "made_at_once" (defArgs st249) (defBody st249) (defScope st249) [] [] (adr249 D.N.K) fd249
  m249 : D.mg "made_at_once" = some (.ref (adr249 D.N.K))
  a249 : D.N.fnA 249 = some (adr249 D.N.K)
  b249 : Binds D.N.K fd249 ps249 []
  fd71 : FuncData
  F71 : FunD D.N.K "__init__" "Store.__init__" (defArgs st71) (defBody st71) (defScope st71) [] [] (adr71 D.N.K) fd71
  a71 : D.N.fnA 71 = some (adr71 D.N.K)
  b71 : Binds D.N.K fd71 ps71 []
  fd75 : FuncData
  F75 : FunD D.N.K "noted" "Store.noted" (defArgs st75) (defBody st75) (defScope st75) [] [] (adr75 D.N.K) fd75
  mt75 : Meth D.N.K (He.ga D.N.K "Store") "noted" (adr75 D.N.K)
  a75 : D.N.fnA 75 = some (adr75 D.N.K)
  b75 : Binds D.N.K fd75 ps75 []
  fd79 : FuncData
  F79 : FunD D.N.K "put" "Store.put" (defArgs st79) (defBody st79) (defScope st79) [] [] (adr79 D.N.K) fd79
  mt79 : Meth D.N.K (He.ga D.N.K "Store") "put" (adr79 D.N.K)
  a79 : D.N.fnA 79 = some (adr79 D.N.K)
  b79 : Binds D.N.K fd79 ps79 []
  fd73 : FuncData
  F73 : FunD D.N.K "drop" "Store.drop" (defArgs st73) (defBody st73) (defScope st73) [] [] (adr73 D.N.K) fd73
  mt73 : Meth D.N.K (He.ga D.N.K "Store") "drop" (adr73 D.N.K)
  a73 : D.N.fnA 73 = some (adr73 D.N.K)
  b73 : Binds D.N.K fd73 ps73 []
  fd104 : FuncData
  F104 : FunD D.N.K "row_at" "Store.row_at" (defArgs st104) (defBody st104) (defScope st104) [] [] (adr104 D.N.K) fd104
  mt104 : Meth D.N.K (He.ga D.N.K "Store") "row_at" (adr104 D.N.K)
  a104 : D.N.fnA 104 = some (adr104 D.N.K)
  b104 : Binds D.N.K fd104 ps104 []
  fd81 : FuncData
  F81 : FunD D.N.K "rows" "Store.rows" (defArgs st81) (defBody st81) (defScope st81) [] [] (adr81 D.N.K) fd81
  mt81 : Meth D.N.K (He.ga D.N.K "Store") "rows" (adr81 D.N.K)
  a81 : D.N.fnA 81 = some (adr81 D.N.K)
  b81 : Binds D.N.K fd81 ps81 []
  fd77 : FuncData
  F77 : FunD D.N.K "now" "Store.now" (defArgs st77) (defBody st77) (defScope st77) [] [] (adr77 D.N.K) fd77
  mt77 : Meth D.N.K (He.ga D.N.K "Store") "now" (adr77 D.N.K)
  a77 : D.N.fnA 77 = some (adr77 D.N.K)
  b77 : Binds D.N.K fd77 ps77 []
  fd78 : FuncData
  F78 : FunD D.N.K "oldest" "Store.oldest" (defArgs st78) (defBody st78) (defScope st78) [] [] (adr78 D.N.K) fd78
  mt78 : Meth D.N.K (He.ga D.N.K "Store") "oldest" (adr78 D.N.K)
  a78 : D.N.fnA 78 = some (adr78 D.N.K)
  b78 : Binds D.N.K fd78 ps78 []
  fd76 : FuncData
  F76 : FunD D.N.K "notes" "Store.notes" (defArgs st76) (defBody st76) (defScope st76) [] [] (adr76 D.N.K) fd76
  mt76 : Meth D.N.K (He.ga D.N.K "Store") "notes" (adr76 D.N.K)
  a76 : D.N.fnA 76 = some (adr76 D.N.K)
  b76 : Binds D.N.K fd76 ps76 []
  fd134 : FuncData
  F134 : FunD D.N.K "ask_moment" "Store.ask_moment" (defArgs st134) (defBody st134) (defScope st134) [] [] (adr134 D.N.K) fd134
  mt134 : Meth D.N.K (He.ga D.N.K "Store") "ask_moment" (adr134 D.N.K)
  a134 : D.N.fnA 134 = some (adr134 D.N.K)
  b134 : Binds D.N.K fd134 ps134 []
  fd136 : FuncData
  F136 : FunD D.N.K "rows_at" "Store.rows_at" (defArgs st136) (defBody st136) (defScope st136) [] [] (adr136 D.N.K) fd136
  mt136 : Meth D.N.K (He.ga D.N.K "Store") "rows_at" (adr136 D.N.K)
  a136 : D.N.fnA 136 = some (adr136 D.N.K)
  b136 : Binds D.N.K fd136 ps136 []
  fd135 : FuncData
  F135 : FunD D.N.K "forget" "Store.forget" (defArgs st135) (defBody st135) (defScope st135) [] [] (adr135 D.N.K) fd135
  mt135 : Meth D.N.K (He.ga D.N.K "Store") "forget" (adr135 D.N.K)
  a135 : D.N.fnA 135 = some (adr135 D.N.K)
  b135 : Binds D.N.K fd135 ps135 []
  fd139 : FuncData
  F139 : FunD D.N.K "_law_cell_at" "_law_cell_at" (defArgs st139) (defBody st139) (defScope st139) [] [] (adr139 D.N.K) fd139
  m139 : D.mg "_law_cell_at" = some (.ref (adr139 D.N.K))
  a139 : D.N.fnA 139 = some (adr139 D.N.K)
  b139 : Binds D.N.K fd139 ps139 []
  fd141 : FuncData
  F141 : FunD D.N.K "_law_deck" "_law_deck" (defArgs st141) (defBody st141) (defScope st141) [] [] (adr141 D.N.K) fd141
  m141 : D.mg "_law_deck" = some (.ref (adr141 D.N.K))
  a141 : D.N.fnA 141 = some (adr141 D.N.K)
  b141 : Binds D.N.K fd141 ps141 []
  fd142 : FuncData
  F142 : FunD D.N.K "_law_draw" "_law_draw" (defArgs st142) (defBody st142) (defScope st142) [] [] (adr142 D.N.K) fd142
  m142 : D.mg "_law_draw" = some (.ref (adr142 D.N.K))
  a142 : D.N.fnA 142 = some (adr142 D.N.K)
  b142 : Binds D.N.K fd142 ps142 []
  fd146 : FuncData
  F146 : FunD D.N.K "_law_names" "_law_names" (defArgs st146) (defBody st146) (defScope st146) [] [] (adr146 D.N.K) fd146
  m146 : D.mg "_law_names" = some (.ref (adr146 D.N.K))
  a146 : D.N.fnA 146 = some (adr146 D.N.K)
  b146 : Binds D.N.K fd146 ps146 []
  fd147 : FuncData
  F147 : FunD D.N.K "_law_near" "_law_near" (defArgs st147) (defBody st147) (defScope st147) [] [] (adr147 D.N.K) fd147
  m147 : D.mg "_law_near" = some (.ref (adr147 D.N.K))
  a147 : D.N.fnA 147 = some (adr147 D.N.K)
  b147 : Binds D.N.K fd147 ps147 []
  fd155 : FuncData
  F155 : FunD D.N.K "_law_rule" "_law_rule" (defArgs st155) (defBody st155) (defScope st155) [] [] (adr155 D.N.K) fd155
  m155 : D.mg "_law_rule" = some (.ref (adr155 D.N.K))
  a155 : D.N.fnA 155 = some (adr155 D.N.K)
  b155 : Binds D.N.K fd155 ps155 []
  fd140 : FuncData
  F140 : FunD D.N.K "_law_cuts" "_law_cuts" (defArgs st140) (defBody st140) (defScope st140) [] [] (adr140 D.N.K) fd140
  m140 : D.mg "_law_cuts" = some (.ref (adr140 D.N.K))
  a140 : D.N.fnA 140 = some (adr140 D.N.K)
  b140 : Binds D.N.K fd140 ps140 []
  fd145 : FuncData
  F145 : FunD D.N.K "_law_key" "_law_key" (defArgs st145) (defBody st145) (defScope st145) [] [] (adr145 D.N.K) fd145
  m145 : D.mg "_law_key" = some (.ref (adr145 D.N.K))
  a145 : D.N.fnA 145 = some (adr145 D.N.K)
  b145 : Binds D.N.K fd145 ps145 []
  fd150 : FuncData
  F150 : FunD D.N.K "_law_part" "_law_part" (defArgs st150) (defBody st150) (defScope st150) [] [] (adr150 D.N.K) fd150
  m150 : D.mg "_law_part" = some (.ref (adr150 D.N.K))
  a150 : D.N.fnA 150 = some (adr150 D.N.K)
  b150 : Binds D.N.K fd150 ps150 []
  fd148 : FuncData
  F148 : FunD D.N.K "_law_new_row" "_law_new_row" (defArgs st148) (defBody st148) (defScope st148) [] [] (adr148 D.N.K) fd148
  m148 : D.mg "_law_new_row" = some (.ref (adr148 D.N.K))
  a148 : D.N.fnA 148 = some (adr148 D.N.K)
  b148 : Binds D.N.K fd148 ps148 []
  fd162 : FuncData
  F162 : FunD D.N.K "_law_world" "_law_world" (defArgs st162) (defBody st162) (defScope st162) [] [] (adr162 D.N.K) fd162
  m162 : D.mg "_law_world" = some (.ref (adr162 D.N.K))
  a162 : D.N.fnA 162 = some (adr162 D.N.K)
  b162 : Binds D.N.K fd162 ps162 []
  fd149 : FuncData
  F149 : FunD D.N.K "_law_now" "_law_now" (defArgs st149) (defBody st149) (defScope st149) [] [] (adr149 D.N.K) fd149
  m149 : D.mg "_law_now" = some (.ref (adr149 D.N.K))
  a149 : D.N.fnA 149 = some (adr149 D.N.K)
  b149 : Binds D.N.K fd149 ps149 []
  fd152 : FuncData
  F152 : FunD D.N.K "_law_put" "_law_put" (defArgs st152) (defBody st152) (defScope st152) [] [] (adr152 D.N.K) fd152
  m152 : D.mg "_law_put" = some (.ref (adr152 D.N.K))
  a152 : D.N.fnA 152 = some (adr152 D.N.K)
  b152 : Binds D.N.K fd152 ps152 []
  fd143 : FuncData
  F143 : FunD D.N.K "_law_drop" "_law_drop" (defArgs st143) (defBody st143) (defScope st143) [] [] (adr143 D.N.K) fd143
  m143 : D.mg "_law_drop" = some (.ref (adr143 D.N.K))
  a143 : D.N.fnA 143 = some (adr143 D.N.K)
  b143 : Binds D.N.K fd143 ps143 []
  fd163 : FuncData
  F163 : FunD D.N.K "_law_writes" "_law_writes" (defArgs st163) (defBody st163) (defScope st163) [] [] (adr163 D.N.K) fd163
  m163 : D.mg "_law_writes" = some (.ref (adr163 D.N.K))
  a163 : D.N.fnA 163 = some (adr163 D.N.K)
  b163 : Binds D.N.K fd163 ps163 []
  fd138 : FuncData
  F138 : FunD D.N.K "_law_begin" "_law_begin" (defArgs st138) (defBody st138) (defScope st138) [] [] (adr138 D.N.K) fd138
  m138 : D.mg "_law_begin" = some (.ref (adr138 D.N.K))
  a138 : D.N.fnA 138 = some (adr138 D.N.K)
  b138 : Binds D.N.K fd138 ps138 []
  fd144 : FuncData
  F144 : FunD D.N.K "_law_entries" "_law_entries" (defArgs st144) (defBody st144) (defScope st144) [] [] (adr144 D.N.K) fd144
  m144 : D.mg "_law_entries" = some (.ref (adr144 D.N.K))
  a144 : D.N.fnA 144 = some (adr144 D.N.K)
  b144 : Binds D.N.K fd144 ps144 []
  fd157 : FuncData
  F157 : FunD D.N.K "_law_stands" "_law_stands" (defArgs st157) (defBody st157) (defScope st157) [] [] (adr157 D.N.K) fd157
  m157 : D.mg "_law_stands" = some (.ref (adr157 D.N.K))
  a157 : D.N.fnA 157 = some (adr157 D.N.K)
  b157 : Binds D.N.K fd157 ps157 []
  fd151 : FuncData
  F151 : FunD D.N.K "_law_parts" "_law_parts" (defArgs st151) (defBody st151) (defScope st151) [] [] (adr151 D.N.K) fd151
  m151 : D.mg "_law_parts" = some (.ref (adr151 D.N.K))
  a151 : D.N.fnA 151 = some (adr151 D.N.K)
  b151 : Binds D.N.K fd151 ps151 []
  fd156 : FuncData
  F156 : FunD D.N.K "_law_settled" "_law_settled" (defArgs st156) (defBody st156) (defScope st156) [] [] (adr156 D.N.K) fd156
  m156 : D.mg "_law_settled" = some (.ref (adr156 D.N.K))
  a156 : D.N.fnA 156 = some (adr156 D.N.K)
  b156 : Binds D.N.K fd156 ps156 []
  fd160 : FuncData
  F160 : FunD D.N.K "_law_took" "_law_took" (defArgs st160) (defBody st160) (defScope st160) [] [] (adr160 D.N.K) fd160
  m160 : D.mg "_law_took" = some (.ref (adr160 D.N.K))
  a160 : D.N.fnA 160 = some (adr160 D.N.K)
  b160 : Binds D.N.K fd160 ps160 []
  fd159 : FuncData
  F159 : FunD D.N.K "_law_told_marks" "_law_told_marks" (defArgs st159) (defBody st159) (defScope st159) [] [] (adr159 D.N.K) fd159
  m159 : D.mg "_law_told_marks" = some (.ref (adr159 D.N.K))
  a159 : D.N.fnA 159 = some (adr159 D.N.K)
  b159 : Binds D.N.K fd159 ps159 []
  fd137 : FuncData
  F137 : FunD D.N.K "_law_alike" "_law_alike" (defArgs st137) (defBody st137) (defScope st137) [] [] (adr137 D.N.K) fd137
  m137 : D.mg "_law_alike" = some (.ref (adr137 D.N.K))
  a137 : D.N.fnA 137 = some (adr137 D.N.K)
  b137 : Binds D.N.K fd137 ps137 []
  fd246 : FuncData
  F246 : FunD D.N.K "_law_plain" "_law_plain" (defArgs st246) (defBody st246) (defScope st246) [] [] (adr246 D.N.K) fd246
  m246 : D.mg "_law_plain" = some (.ref (adr246 D.N.K))
  a246 : D.N.fnA 246 = some (adr246 D.N.K)
  b246 : Binds D.N.K fd246 ps246 []
  fd245 : FuncData
  F245 : FunD D.N.K "_law_due" "_law_due" (defArgs st245) (defBody st245) (defScope st245) [] [] (adr245 D.N.K) fd245
  m245 : D.mg "_law_due" = some (.ref (adr245 D.N.K))
  a245 : D.N.fnA 245 = some (adr245 D.N.K)
  b245 : Binds D.N.K fd245 ps245 []
  fd247 : FuncData
  F247 : FunD D.N.K "_law_right" "_law_right" (defArgs st247) (defBody st247) (defScope st247) [] [] (adr247 D.N.K) fd247
  m247 : D.mg "_law_right" = some (.ref (adr247 D.N.K))
  a247 : D.N.fnA 247 = some (adr247 D.N.K)
  b247 : Binds D.N.K fd247 ps247 []
  fd248 : FuncData
  F248 : FunD D.N.K "law" "law" (defArgs st248) (defBody st248) (defScope st248) [] [] (adr248 D.N.K) fd248
  m248 : D.mg "law" = some (.ref (adr248 D.N.K))
  a248 : D.N.fnA 248 = some (adr248 D.N.K)
  b248 : Binds D.N.K fd248 ps248 []
  k249_store_rule_cuts : KwAt D fd249 ps249 ["store", "rule", "cuts"] 0 [some 0, some 1, some 2]
  m_bool : D.mg "bool" = none
  m_dict : D.mg "dict" = none
  m_enumerate : D.mg "enumerate" = none
  m_int : D.mg "int" = none
  m_isinstance : D.mg "isinstance" = none
  m_len : D.mg "len" = none
  m_list : D.mg "list" = none
  m_min : D.mg "min" = none
  m_range : D.mg "range" = none
  m_set : D.mg "set" = none
  m_sorted : D.mg "sorted" = none
  m_sum : D.mg "sum" = none
  m_tuple : D.mg "tuple" = none
structure All {D : Wd} (h : Hd D) (n : Nat) : Prop where
  A98 : FnAt D (2 * n) (IR.callD D.g n 98) 98 1 (adr98 D.N.K) h.fd98 ps98
  A33 : FnAt D (2 * n) (IR.callD D.g n 33) 33 2 (adr33 D.N.K) h.fd33 ps33
  A42 : FnAt D (2 * n) (IR.callD D.g n 42) 42 2 (adr42 D.N.K) h.fd42 ps42
  A178 : FnAt D (2 * n) (IR.callD D.g n 178) 178 3 (adr178 D.N.K) h.fd178 ps178
  A133 : FnAt D (2 * n) (IR.callD D.g n 133) 133 6 (adr133 D.N.K) h.fd133 ps133
  A171 : FnAt D (2 * n) (IR.callD D.g n 171) 171 2 (adr171 D.N.K) h.fd171 ps171
  A165 : FnAt D (2 * n) (IR.callD D.g n 165) 165 4 (adr165 D.N.K) h.fd165 ps165
  A169 : FnAt D (2 * n) (IR.callD D.g n 169) 169 2 (adr169 D.N.K) h.fd169 ps169
  A173 : FnAt D (2 * n) (IR.callD D.g n 173) 173 2 (adr173 D.N.K) h.fd173 ps173
  A249 : FnAt D (2 * n) (IR.callD D.g n 249) 249 3 (adr249 D.N.K) h.fd249 ps249
  A71 : FnAt D (2 * n) (IR.callD D.g n 71) 71 2 (adr71 D.N.K) h.fd71 ps71
  A75 : FnAt D (2 * n) (IR.callD D.g n 75) 75 3 (adr75 D.N.K) h.fd75 ps75
  A79 : FnAt D (2 * n) (IR.callD D.g n 79) 79 3 (adr79 D.N.K) h.fd79 ps79
  A73 : FnAt D (2 * n) (IR.callD D.g n 73) 73 2 (adr73 D.N.K) h.fd73 ps73
  A104 : FnAt D (2 * n) (IR.callD D.g n 104) 104 2 (adr104 D.N.K) h.fd104 ps104
  A81 : FnAt D (2 * n) (IR.callD D.g n 81) 81 1 (adr81 D.N.K) h.fd81 ps81
  A77 : FnAt D (2 * n) (IR.callD D.g n 77) 77 1 (adr77 D.N.K) h.fd77 ps77
  A78 : FnAt D (2 * n) (IR.callD D.g n 78) 78 1 (adr78 D.N.K) h.fd78 ps78
  A76 : FnAt D (2 * n) (IR.callD D.g n 76) 76 3 (adr76 D.N.K) h.fd76 ps76
  A134 : FnAt D (2 * n) (IR.callD D.g n 134) 134 2 (adr134 D.N.K) h.fd134 ps134
  A136 : FnAt D (2 * n) (IR.callD D.g n 136) 136 2 (adr136 D.N.K) h.fd136 ps136
  A135 : FnAt D (2 * n) (IR.callD D.g n 135) 135 2 (adr135 D.N.K) h.fd135 ps135
  A139 : FnAt D (2 * n) (IR.callD D.g n 139) 139 2 (adr139 D.N.K) h.fd139 ps139
  A141 : FnAt D (2 * n) (IR.callD D.g n 141) 141 1 (adr141 D.N.K) h.fd141 ps141
  A142 : FnAt D (2 * n) (IR.callD D.g n 142) 142 2 (adr142 D.N.K) h.fd142 ps142
  A146 : FnAt D (2 * n) (IR.callD D.g n 146) 146 2 (adr146 D.N.K) h.fd146 ps146
  A147 : FnAt D (2 * n) (IR.callD D.g n 147) 147 2 (adr147 D.N.K) h.fd147 ps147
  A155 : FnAt D (2 * n) (IR.callD D.g n 155) 155 2 (adr155 D.N.K) h.fd155 ps155
  A140 : FnAt D (2 * n) (IR.callD D.g n 140) 140 1 (adr140 D.N.K) h.fd140 ps140
  A145 : FnAt D (2 * n) (IR.callD D.g n 145) 145 2 (adr145 D.N.K) h.fd145 ps145
  A150 : FnAt D (2 * n) (IR.callD D.g n 150) 150 2 (adr150 D.N.K) h.fd150 ps150
  A148 : FnAt D (2 * n) (IR.callD D.g n 148) 148 2 (adr148 D.N.K) h.fd148 ps148
  A162 : FnAt D (2 * n) (IR.callD D.g n 162) 162 1 (adr162 D.N.K) h.fd162 ps162
  A149 : FnAt D (2 * n) (IR.callD D.g n 149) 149 1 (adr149 D.N.K) h.fd149 ps149
  A152 : FnAt D (2 * n) (IR.callD D.g n 152) 152 2 (adr152 D.N.K) h.fd152 ps152
  A143 : FnAt D (2 * n) (IR.callD D.g n 143) 143 2 (adr143 D.N.K) h.fd143 ps143
  A163 : FnAt D (2 * n) (IR.callD D.g n 163) 163 3 (adr163 D.N.K) h.fd163 ps163
  A138 : FnAt D (2 * n) (IR.callD D.g n 138) 138 3 (adr138 D.N.K) h.fd138 ps138
  A144 : FnAt D (2 * n) (IR.callD D.g n 144) 144 4 (adr144 D.N.K) h.fd144 ps144
  A157 : FnAt D (2 * n) (IR.callD D.g n 157) 157 3 (adr157 D.N.K) h.fd157 ps157
  A151 : FnAt D (2 * n) (IR.callD D.g n 151) 151 1 (adr151 D.N.K) h.fd151 ps151
  A156 : FnAt D (2 * n) (IR.callD D.g n 156) 156 2 (adr156 D.N.K) h.fd156 ps156
  A160 : FnAt D (2 * n) (IR.callD D.g n 160) 160 4 (adr160 D.N.K) h.fd160 ps160
  A159 : FnAt D (2 * n) (IR.callD D.g n 159) 159 2 (adr159 D.N.K) h.fd159 ps159
  A137 : FnAt D (2 * n) (IR.callD D.g n 137) 137 1 (adr137 D.N.K) h.fd137 ps137
  A246 : FnAt D (2 * n) (IR.callD D.g n 246) 246 1 (adr246 D.N.K) h.fd246 ps246
  A245 : FnAt D (2 * n) (IR.callD D.g n 245) 245 3 (adr245 D.N.K) h.fd245 ps245
  A247 : FnAt D (2 * n) (IR.callD D.g n 247) 247 1 (adr247 D.N.K) h.fd247 ps247
  A248 : FnAt D (2 * n) (IR.callD D.g n 248) 248 1 (adr248 D.N.K) h.fd248 ps248
theorem kn {D : Wd} (h : Hd D) {n : Nat} (A : All h n) : Kn D (2 * n + 1) (IR.callD D.g n) MN where
  cls := fun c C e => by
    rw [h.cA] at e; unfold clf at e; split at e
    · cases e; exact ⟨h.cl0, h.na0⟩
    · cases e; exact ⟨h.cl1, h.na1⟩
    · cases e
  meth := fun c C cl m i nm np e1 e2 e3 e4 => by
    rw [h.cA] at e1; rw [h.g] at e2; unfold clf at e1; split at e1
    · cases e1; cases e2
      have e5 := look_mem e3
      simp only [List.mem_cons, List.not_mem_nil, or_false, Prod.mk.injEq] at e5
      rcases e5 with ⟨rfl, rfl⟩ | ⟨rfl, rfl⟩ | ⟨rfl, rfl⟩ | ⟨rfl, rfl⟩ | ⟨rfl, rfl⟩ | ⟨rfl, rfl⟩ | ⟨rfl, rfl⟩ | ⟨rfl, rfl⟩ | ⟨rfl, rfl⟩ | ⟨rfl, rfl⟩ | ⟨rfl, rfl⟩
      · cases (show some (("noted" : Str), 3) = some (nm, np) from e4); exact ⟨_, _, _, h.mt75, A.A75.up⟩
      · cases (show some (("put" : Str), 3) = some (nm, np) from e4); exact ⟨_, _, _, h.mt79, A.A79.up⟩
      · cases (show some (("drop" : Str), 2) = some (nm, np) from e4); exact ⟨_, _, _, h.mt73, A.A73.up⟩
      · cases (show some (("row_at" : Str), 2) = some (nm, np) from e4); exact ⟨_, _, _, h.mt104, A.A104.up⟩
      · cases (show some (("rows" : Str), 1) = some (nm, np) from e4); exact ⟨_, _, _, h.mt81, A.A81.up⟩
      · cases (show some (("now" : Str), 1) = some (nm, np) from e4); exact ⟨_, _, _, h.mt77, A.A77.up⟩
      · cases (show some (("oldest" : Str), 1) = some (nm, np) from e4); exact ⟨_, _, _, h.mt78, A.A78.up⟩
      · cases (show some (("notes" : Str), 3) = some (nm, np) from e4); exact ⟨_, _, _, h.mt76, A.A76.up⟩
      · cases (show some (("ask_moment" : Str), 2) = some (nm, np) from e4); exact ⟨_, _, _, h.mt134, A.A134.up⟩
      · cases (show some (("rows_at" : Str), 2) = some (nm, np) from e4); exact ⟨_, _, _, h.mt136, A.A136.up⟩
      · cases (show some (("forget" : Str), 2) = some (nm, np) from e4); exact ⟨_, _, _, h.mt135, A.A135.up⟩
    · cases e1; cases e2
      cases e3
    · cases e1
  sep := by rw [h.fl]; decide +kernel
  fnd := by rw [h.fl]; decide +kernel
theorem fnsat {D : Wd} (h : Hd D) {n : Nat} (A : All h n) : FnsAt D (2 * n + 1) (IR.callD D.g n) := by
  intro i f e
  rw [h.fA] at e; unfold nmA at e; split at e
  · cases e; exact ⟨_, _, _, A.A98.up, fun l S hl => callD_len (d := IR.fn98) (by rw [h.g]; rfl) hl⟩
  · cases e; exact ⟨_, _, _, A.A33.up, fun l S hl => callD_len (d := IR.fn33) (by rw [h.g]; rfl) hl⟩
  · cases e; exact ⟨_, _, _, A.A42.up, fun l S hl => callD_len (d := IR.fn42) (by rw [h.g]; rfl) hl⟩
  · cases e; exact ⟨_, _, _, A.A178.up, fun l S hl => callD_len (d := IR.fn178) (by rw [h.g]; rfl) hl⟩
  · cases e; exact ⟨_, _, _, A.A133.up, fun l S hl => callD_len (d := IR.fn133) (by rw [h.g]; rfl) hl⟩
  · cases e; exact ⟨_, _, _, A.A171.up, fun l S hl => callD_len (d := IR.fn171) (by rw [h.g]; rfl) hl⟩
  · cases e; exact ⟨_, _, _, A.A165.up, fun l S hl => callD_len (d := IR.fn165) (by rw [h.g]; rfl) hl⟩
  · cases e; exact ⟨_, _, _, A.A169.up, fun l S hl => callD_len (d := IR.fn169) (by rw [h.g]; rfl) hl⟩
  · cases e; exact ⟨_, _, _, A.A173.up, fun l S hl => callD_len (d := IR.fn173) (by rw [h.g]; rfl) hl⟩
  · cases e; exact ⟨_, _, _, A.A249.up, fun l S hl => callD_len (d := IR.fn249) (by rw [h.g]; rfl) hl⟩
  · cases e; exact ⟨_, _, _, A.A71.up, fun l S hl => callD_len (d := IR.fn71) (by rw [h.g]; rfl) hl⟩
  · cases e; exact ⟨_, _, _, A.A75.up, fun l S hl => callD_len (d := IR.fn75) (by rw [h.g]; rfl) hl⟩
  · cases e; exact ⟨_, _, _, A.A79.up, fun l S hl => callD_len (d := IR.fn79) (by rw [h.g]; rfl) hl⟩
  · cases e; exact ⟨_, _, _, A.A73.up, fun l S hl => callD_len (d := IR.fn73) (by rw [h.g]; rfl) hl⟩
  · cases e; exact ⟨_, _, _, A.A104.up, fun l S hl => callD_len (d := IR.fn104) (by rw [h.g]; rfl) hl⟩
  · cases e; exact ⟨_, _, _, A.A81.up, fun l S hl => callD_len (d := IR.fn81) (by rw [h.g]; rfl) hl⟩
  · cases e; exact ⟨_, _, _, A.A77.up, fun l S hl => callD_len (d := IR.fn77) (by rw [h.g]; rfl) hl⟩
  · cases e; exact ⟨_, _, _, A.A78.up, fun l S hl => callD_len (d := IR.fn78) (by rw [h.g]; rfl) hl⟩
  · cases e; exact ⟨_, _, _, A.A76.up, fun l S hl => callD_len (d := IR.fn76) (by rw [h.g]; rfl) hl⟩
  · cases e; exact ⟨_, _, _, A.A134.up, fun l S hl => callD_len (d := IR.fn134) (by rw [h.g]; rfl) hl⟩
  · cases e; exact ⟨_, _, _, A.A136.up, fun l S hl => callD_len (d := IR.fn136) (by rw [h.g]; rfl) hl⟩
  · cases e; exact ⟨_, _, _, A.A135.up, fun l S hl => callD_len (d := IR.fn135) (by rw [h.g]; rfl) hl⟩
  · cases e; exact ⟨_, _, _, A.A139.up, fun l S hl => callD_len (d := IR.fn139) (by rw [h.g]; rfl) hl⟩
  · cases e; exact ⟨_, _, _, A.A141.up, fun l S hl => callD_len (d := IR.fn141) (by rw [h.g]; rfl) hl⟩
  · cases e; exact ⟨_, _, _, A.A142.up, fun l S hl => callD_len (d := IR.fn142) (by rw [h.g]; rfl) hl⟩
  · cases e; exact ⟨_, _, _, A.A146.up, fun l S hl => callD_len (d := IR.fn146) (by rw [h.g]; rfl) hl⟩
  · cases e; exact ⟨_, _, _, A.A147.up, fun l S hl => callD_len (d := IR.fn147) (by rw [h.g]; rfl) hl⟩
  · cases e; exact ⟨_, _, _, A.A155.up, fun l S hl => callD_len (d := IR.fn155) (by rw [h.g]; rfl) hl⟩
  · cases e; exact ⟨_, _, _, A.A140.up, fun l S hl => callD_len (d := IR.fn140) (by rw [h.g]; rfl) hl⟩
  · cases e; exact ⟨_, _, _, A.A145.up, fun l S hl => callD_len (d := IR.fn145) (by rw [h.g]; rfl) hl⟩
  · cases e; exact ⟨_, _, _, A.A150.up, fun l S hl => callD_len (d := IR.fn150) (by rw [h.g]; rfl) hl⟩
  · cases e; exact ⟨_, _, _, A.A148.up, fun l S hl => callD_len (d := IR.fn148) (by rw [h.g]; rfl) hl⟩
  · cases e; exact ⟨_, _, _, A.A162.up, fun l S hl => callD_len (d := IR.fn162) (by rw [h.g]; rfl) hl⟩
  · cases e; exact ⟨_, _, _, A.A149.up, fun l S hl => callD_len (d := IR.fn149) (by rw [h.g]; rfl) hl⟩
  · cases e; exact ⟨_, _, _, A.A152.up, fun l S hl => callD_len (d := IR.fn152) (by rw [h.g]; rfl) hl⟩
  · cases e; exact ⟨_, _, _, A.A143.up, fun l S hl => callD_len (d := IR.fn143) (by rw [h.g]; rfl) hl⟩
  · cases e; exact ⟨_, _, _, A.A163.up, fun l S hl => callD_len (d := IR.fn163) (by rw [h.g]; rfl) hl⟩
  · cases e; exact ⟨_, _, _, A.A138.up, fun l S hl => callD_len (d := IR.fn138) (by rw [h.g]; rfl) hl⟩
  · cases e; exact ⟨_, _, _, A.A144.up, fun l S hl => callD_len (d := IR.fn144) (by rw [h.g]; rfl) hl⟩
  · cases e; exact ⟨_, _, _, A.A157.up, fun l S hl => callD_len (d := IR.fn157) (by rw [h.g]; rfl) hl⟩
  · cases e; exact ⟨_, _, _, A.A151.up, fun l S hl => callD_len (d := IR.fn151) (by rw [h.g]; rfl) hl⟩
  · cases e; exact ⟨_, _, _, A.A156.up, fun l S hl => callD_len (d := IR.fn156) (by rw [h.g]; rfl) hl⟩
  · cases e; exact ⟨_, _, _, A.A160.up, fun l S hl => callD_len (d := IR.fn160) (by rw [h.g]; rfl) hl⟩
  · cases e; exact ⟨_, _, _, A.A159.up, fun l S hl => callD_len (d := IR.fn159) (by rw [h.g]; rfl) hl⟩
  · cases e; exact ⟨_, _, _, A.A137.up, fun l S hl => callD_len (d := IR.fn137) (by rw [h.g]; rfl) hl⟩
  · cases e; exact ⟨_, _, _, A.A246.up, fun l S hl => callD_len (d := IR.fn246) (by rw [h.g]; rfl) hl⟩
  · cases e; exact ⟨_, _, _, A.A245.up, fun l S hl => callD_len (d := IR.fn245) (by rw [h.g]; rfl) hl⟩
  · cases e; exact ⟨_, _, _, A.A247.up, fun l S hl => callD_len (d := IR.fn247) (by rw [h.g]; rfl) hl⟩
  · cases e; exact ⟨_, _, _, A.A248.up, fun l S hl => callD_len (d := IR.fn248) (by rw [h.g]; rfl) hl⟩
  · cases e
section
variable {D : Wd} (h : Hd D) {n : Nat} (A : All h n) {X : Cx} {F : Fm}
include h A
theorem body98 (C : Cm D X cx98 (2 * n + 1) F) (hp : PassesOwn (model X.prog X.w) X.A X.env X.xe) (has : ∀ i, F.as i = true) (hx : Fx X) : PSs X (defBody st98) (tSs D F (IR.callD D.g n) IR.fn98.body) :=
    (st_ss_cons (st_whl hp (t_of C e_bl) (st_ss_cons st_pass
    st_ss_nil))
    st_ss_nil)
theorem body33 (C : Cm D X cx33 (2 * n + 1) F) (hp : PassesOwn (model X.prog X.w) X.A X.env X.xe) (has : ∀ i, F.as i = true) (hx : Fx X) : PSs X (defBody st33) (tSs D F (IR.callD D.g n) IR.fn33.body) :=
    (st_ss_cons (st_ret (e_sum C (by kernel_rfl) h.m_sum (s_lc0 C (s_over C (e_var C rfl (by kernel_rfl))) (blkOk_by (own := [("place", 2)]) (by decide +kernel)) rfl (fun s1 H1 A1 cl1 fp1 => have C1 := C.blk rfl (s := s1) (H := H1) (cl := cl1) (A := A1) (fp := fp1); (t_var C1 rfl (loc_of (by kernel_rfl)) (sto_of (by kernel_rfl)) rfl)) (fun s1 H1 A1 cl1 fp1 => have C1 := C.blk rfl (s := s1) (H := H1) (cl := cl1) (A := A1) (fp := fp1); (s_ix C1 (e_var C1 rfl (by kernel_rfl)) (e_var C1 rfl (by kernel_rfl)) (fun _ _ => rfl))) (fun _ => rfl)) rfl))
    st_ss_nil)
theorem body42 (C : Cm D X cx42 (2 * n + 1) F) (hp : PassesOwn (model X.prog X.w) X.A X.env X.xe) (has : ∀ i, F.as i = true) (hx : Fx X) : PSs X (defBody st42) (tSs D F (IR.callD D.g n) IR.fn42.body) :=
    (st_ss_cons (st_ret (e_len C (by kernel_rfl) h.m_len (s_lc1 C (s_over C (e_var C rfl (by kernel_rfl))) (blkOk_by (own := [("cut", 2)]) (by decide +kernel)) rfl (fun s1 H1 A1 cl1 fp1 => have C1 := C.blk rfl (s := s1) (H := H1) (cl := cl1) (A := A1) (fp := fp1); (t_var C1 rfl (loc_of (by kernel_rfl)) (sto_of (by kernel_rfl)) rfl)) (fun s1 H1 A1 cl1 fp1 => have C1 := C.blk rfl (s := s1) (H := H1) (cl := cl1) (A := A1) (fp := fp1); (t_le C1 (e_var C1 rfl (by kernel_rfl)) (e_var C1 rfl (by kernel_rfl)))) (fun s1 H1 A1 cl1 fp1 => have C1 := C.blk rfl (s := s1) (H := H1) (cl := cl1) (A := A1) (fp := fp1); (e_var C1 rfl (by kernel_rfl))) (fun _ => rfl)) rfl))
    st_ss_nil)
theorem body178 (C : Cm D X cx178 (2 * n + 1) F) (hp : PassesOwn (model X.prog X.w) X.A X.env X.xe) (has : ∀ i, F.as i = true) (hx : Fx X) : PSs X (defBody st178) (tSs D F (IR.callD D.g n) IR.fn178.body) :=
    (st_ss_cons (st_asg (s_ix C (s_attr C (kn h A) (by rw [h.fl]; rfl) (e_var C rfl (by kernel_rfl)) rfl) (e_var C rfl (by kernel_rfl)) (fun _ _ => rfl)) (t_var C rfl (loc_of (by kernel_rfl)) (sto_of (by kernel_rfl)) (has _)) rfl rfl rfl)
    (st_ss_cons (st_ret (s_andV C (e_notN (e_var C rfl (by kernel_rfl))) (pe_one (e_ge C (e_var C rfl (by kernel_rfl)) (s_meth C (kn h A) rfl (e_var C rfl (by kernel_rfl)) s_nil (ownAll rfl) rfl rfl rfl rfl (fun _ => rfl) (fun e r z => by cases z))))))
    st_ss_nil))
theorem body133 (C : Cm D X cx133 (2 * n + 1) F) (hp : PassesOwn (model X.prog X.w) X.A X.env X.xe) (has : ∀ i, F.as i = true) (hx : Fx X) : PSs X (defBody st133) (tSs D F (IR.callD D.g n) IR.fn133.body) :=
    (st_ss_cons (st_fld C (kn h A) (by rw [h.fl]; rfl) (e_var C rfl (by kernel_rfl)) (e_var C rfl (by kernel_rfl)) rfl)
    (st_ss_cons (st_fld C (kn h A) (by rw [h.fl]; rfl) (e_var C rfl (by kernel_rfl)) (e_var C rfl (by kernel_rfl)) rfl)
    (st_ss_cons (st_fld C (kn h A) (by rw [h.fl]; rfl) (e_var C rfl (by kernel_rfl)) (e_var C rfl (by kernel_rfl)) rfl)
    (st_ss_cons (st_fld C (kn h A) (by rw [h.fl]; rfl) (e_var C rfl (by kernel_rfl)) (e_var C rfl (by kernel_rfl)) rfl)
    (st_ss_cons (st_fld C (kn h A) (by rw [h.fl]; rfl) (e_var C rfl (by kernel_rfl)) (e_mul C (s_lst (s_cons (e_var C rfl (by kernel_rfl)) s_nil rfl) (ownAll rfl) (Nat.le_of_ble_eq_true rfl)) (e_add C (e_len C (by kernel_rfl) h.m_len (e_var C rfl (by kernel_rfl)) rfl) e_int)) rfl)
    (st_ss_cons (st_fld C (kn h A) (by rw [h.fl]; rfl) (e_var C rfl (by kernel_rfl)) (s_lc0 C (s_over C (s_attr C (kn h A) (by rw [h.fl]; rfl) (e_var C rfl (by kernel_rfl)) rfl)) (blkOk_by (own := [("mark", 6)]) (by decide +kernel)) rfl (fun s1 H1 A1 cl1 fp1 => have C1 := C.blk rfl (s := s1) (H := H1) (cl := cl1) (A := A1) (fp := fp1); (t_var C1 rfl (loc_of (by kernel_rfl)) (sto_of (by kernel_rfl)) rfl)) (fun s1 H1 A1 cl1 fp1 => e_newT) (fun _ => rfl)) rfl)
    (st_ss_cons (st_fld C (kn h A) (by rw [h.fl]; rfl) (e_var C rfl (by kernel_rfl)) (e_neg C e_int) rfl)
    (st_ss_cons (st_fld C (kn h A) (by rw [h.fl]; rfl) (e_var C rfl (by kernel_rfl)) e_non rfl)
    (st_ss_cons (st_fld C (kn h A) (by rw [h.fl]; rfl) (e_var C rfl (by kernel_rfl)) e_bl rfl)
    (st_ss_cons (st_fld C (kn h A) (by rw [h.fl]; rfl) (e_var C rfl (by kernel_rfl)) e_bl rfl)
    st_ss_nil))))))))))
theorem body171 (C : Cm D X cx171 (2 * n + 1) F) (hp : PassesOwn (model X.prog X.w) X.A X.env X.xe) (has : ∀ i, F.as i = true) (hx : Fx X) : PSs X (defBody st171) (tSs D F (IR.callD D.g n) IR.fn171.body) :=
    (st_ss_cons (st_if (t_notin C (e_var C rfl (by kernel_rfl)) (s_attr C (kn h A) (by rw [h.fl]; rfl) (e_var C rfl (by kernel_rfl)) rfl)) (st_ss_cons (st_raiseBad (by rw [h.g]; rfl) rfl)
    st_ss_nil) st_ss_nil)
    (st_ss_cons (st_ret (s_ix C (s_attr C (kn h A) (by rw [h.fl]; rfl) (e_var C rfl (by kernel_rfl)) rfl) (e_var C rfl (by kernel_rfl)) (fun _ _ => rfl)))
    st_ss_nil))
theorem body165 (C : Cm D X cx165 (2 * n + 1) F) (hp : PassesOwn (model X.prog X.w) X.A X.env X.xe) (has : ∀ i, F.as i = true) (hx : Fx X) : PSs X (defBody st165) (tSs D F (IR.callD D.g n) IR.fn165.body) :=
    (st_ss_cons (st_if (t_in C (e_var C rfl (by kernel_rfl)) (s_attr C (kn h A) (by rw [h.fl]; rfl) (e_var C rfl (by kernel_rfl)) rfl)) (st_ss_cons (st_raiseBad (by rw [h.g]; rfl) rfl)
    st_ss_nil) st_ss_nil)
    (st_ss_cons (st_aug C (kn h A) (by rw [h.fl]; rfl) (e_var C rfl (by kernel_rfl)) pe_int)
    (st_ss_cons (st_if (t_isN (e_var C rfl (by kernel_rfl))) (st_ss_cons (st_asg (s_tup s_nil (ownAll rfl) (Nat.le_of_ble_eq_true rfl)) (t_var C rfl (loc_of (by kernel_rfl)) (sto_of (by kernel_rfl)) (has _)) rfl rfl rfl)
    st_ss_nil) st_ss_nil)
    (st_ss_cons (st_setIx C (s_new C (by rw [h.g]; rfl) (by rw [h.cA]; rfl) h.mk1 A.A133 (C.gl (by kernel_rfl)) h.mc1 (s_cons (e_var C rfl (by kernel_rfl)) (s_cons (s_attr C (kn h A) (by rw [h.fl]; rfl) (e_var C rfl (by kernel_rfl)) rfl) (s_cons (e_var C rfl (by kernel_rfl)) (s_cons (e_var C rfl (by kernel_rfl)) (s_cons (s_meth C (kn h A) rfl (e_var C rfl (by kernel_rfl)) s_nil (ownAll rfl) rfl rfl rfl rfl (fun _ => rfl) (fun e r z => by cases z)) s_nil rfl) rfl) rfl) rfl) rfl) (ownAll rfl) rfl rfl rfl rfl) (s_attr C (kn h A) (by rw [h.fl]; rfl) (e_var C rfl (by kernel_rfl)) rfl) (e_var C rfl (by kernel_rfl)) (fun _ => rfl) rfl rfl rfl)
    (st_ss_cons (st_ret (s_attr C (kn h A) (by rw [h.fl]; rfl) (e_var C rfl (by kernel_rfl)) rfl))
    st_ss_nil)))))
theorem body169 (C : Cm D X cx169 (2 * n + 1) F) (hp : PassesOwn (model X.prog X.w) X.A X.env X.xe) (has : ∀ i, F.as i = true) (hx : Fx X) : PSs X (defBody st169) (tSs D F (IR.callD D.g n) IR.fn169.body) :=
    (st_ss_cons (st_ret (s_attr C (kn h A) (by rw [h.fl]; rfl) (s_call C A.A171.up (C.gl (by kernel_rfl)) h.m171 (s_cons (e_var C rfl (by kernel_rfl)) (s_cons (e_var C rfl (by kernel_rfl)) s_nil rfl) rfl) (ownAll rfl) rfl rfl rfl rfl) rfl))
    st_ss_nil)
theorem body173 (C : Cm D X cx173 (2 * n + 1) F) (hp : PassesOwn (model X.prog X.w) X.A X.env X.xe) (has : ∀ i, F.as i = true) (hx : Fx X) : PSs X (defBody st173) (tSs D F (IR.callD D.g n) IR.fn173.body) :=
    (st_ss_cons (st_asg (s_call C A.A171.up (C.gl (by kernel_rfl)) h.m171 (s_cons (e_var C rfl (by kernel_rfl)) (s_cons (e_var C rfl (by kernel_rfl)) s_nil rfl) rfl) (ownAll rfl) rfl rfl rfl rfl) (t_var C rfl (loc_of (by kernel_rfl)) (sto_of (by kernel_rfl)) (has _)) rfl rfl rfl)
    (st_ss_cons (st_asg (s_lst s_nil (ownAll rfl) (Nat.le_of_ble_eq_true rfl)) (t_var C rfl (loc_of (by kernel_rfl)) (sto_of (by kernel_rfl)) (has _)) rfl rfl rfl)
    (st_ss_cons (st_for hp C (s_enum C (by kernel_rfl) h.m_enumerate (s_attr C (kn h A) (by rw [h.fl]; rfl) (e_var C rfl (by kernel_rfl)) rfl) rfl) (t_tup C (t_cons C rfl (loc_of (by kernel_rfl)) (sto_of (by kernel_rfl)) (has _) (t_cons C rfl (loc_of (by kernel_rfl)) (sto_of (by kernel_rfl)) (has _) t_nil rfl) rfl) rfl rfl) (st_ss_cons (st_if (s_notT (t_of C (s_call C A.A178.up (C.gl (by kernel_rfl)) h.m178 (s_cons (e_var C rfl (by kernel_rfl)) (s_cons (e_var C rfl (by kernel_rfl)) (s_cons (e_var C rfl (by kernel_rfl)) s_nil rfl) rfl) rfl) (ownAll rfl) rfl rfl rfl rfl))) (st_ss_cons (st_asg e_non (t_var C rfl (loc_of (by kernel_rfl)) (sto_of (by kernel_rfl)) (has _)) rfl rfl rfl)
    st_ss_nil) st_ss_nil)
    (st_ss_cons (st_expr (e_append C (e_var C rfl (by kernel_rfl)) (e_var C rfl (by kernel_rfl)) rfl rfl rfl) rfl)
    st_ss_nil)) (fun _ => rfl))
    (st_ss_cons (st_ret (e_tuple C (by kernel_rfl) h.m_tuple (e_var C rfl (by kernel_rfl)) rfl))
    st_ss_nil))))
theorem body249 (C : Cm D X cx249 (2 * n + 1) F) (hp : PassesOwn (model X.prog X.w) X.A X.env X.xe) (has : ∀ i, F.as i = true) (hx : Fx X) : PSs X (defBody st249) (tSs D F (IR.callD D.g n) IR.fn249.body) :=
    (st_ss_cons (st_lc0 C rfl (by kernel_rfl) (has _) rfl (by kernel_rfl) (s_rg1 (C.gl (by kernel_rfl)) (C.mgn h.m_range) (s_cons (e_add C (e_len C (by kernel_rfl) h.m_len (e_var C rfl (by kernel_rfl)) rfl) e_int) s_nil rfl) rfl) (blkOk_by (own := [("part", 4)]) (by decide +kernel)) rfl (fun s1 H1 A1 cl1 fp1 => have C1 := C.blk rfl (s := s1) (H := H1) (cl := cl1) (A := A1) (fp := fp1); (t_var C1 rfl (loc_of (by kernel_rfl)) (sto_of (by kernel_rfl)) rfl)) (fun s1 H1 A1 cl1 fp1 => (s_lst s_nil (ownAll rfl) (Nat.le_of_ble_eq_true rfl))) (fun _ => rfl))
    (st_ss_cons (st_for hp C (s_over C (s_meth C (kn h A) rfl (e_var C rfl (by kernel_rfl)) s_nil (ownAll rfl) rfl rfl rfl rfl (fun _ => rfl) (fun e r z => by cases z))) (t_tup C (t_cons C rfl (loc_of (by kernel_rfl)) (sto_of (by kernel_rfl)) (has _) (t_cons C rfl (loc_of (by kernel_rfl)) (sto_of (by kernel_rfl)) (has _) t_nil rfl) rfl) rfl rfl) (st_ss_cons (st_asg (s_call C A.A33.up (C.gl (by kernel_rfl)) h.m33 (s_cons (e_var C rfl (by kernel_rfl)) (s_cons (e_var C rfl (by kernel_rfl)) s_nil rfl) rfl) (ownAll rfl) rfl rfl rfl rfl) (t_var C rfl (loc_of (by kernel_rfl)) (sto_of (by kernel_rfl)) (has _)) rfl rfl rfl)
    (st_ss_cons (st_expr (e_append C (s_ix C (e_var C rfl (by kernel_rfl)) (s_call C A.A42.up (C.gl (by kernel_rfl)) h.m42 (s_cons (e_var C rfl (by kernel_rfl)) (s_cons (e_var C rfl (by kernel_rfl)) s_nil rfl) rfl) (ownAll rfl) rfl rfl rfl rfl) (fun _ _ => rfl)) (s_tup (s_cons (e_var C rfl (by kernel_rfl)) (s_cons (e_var C rfl (by kernel_rfl)) s_nil rfl) rfl) (ownAll rfl) (Nat.le_of_ble_eq_true rfl)) rfl rfl rfl) rfl)
    st_ss_nil)) (fun _ => rfl))
    (st_ss_cons (st_ret (e_tuple C (by kernel_rfl) h.m_tuple (s_lc0 C (s_over C (e_var C rfl (by kernel_rfl))) (blkOk_by (own := [("some", 8)]) (by decide +kernel)) rfl (fun s1 H1 A1 cl1 fp1 => have C1 := C.blk rfl (s := s1) (H := H1) (cl := cl1) (A := A1) (fp := fp1); (t_var C1 rfl (loc_of (by kernel_rfl)) (sto_of (by kernel_rfl)) rfl)) (fun s1 H1 A1 cl1 fp1 => have C1 := C.blk rfl (s := s1) (H := H1) (cl := cl1) (A := A1) (fp := fp1); (e_tuple C1 (by kernel_rfl) h.m_tuple (e_sorted C1 (by kernel_rfl) h.m_sorted (e_var C1 rfl (by kernel_rfl)) rfl) rfl)) (fun _ => rfl)) rfl))
    st_ss_nil)))
theorem body71 (C : Cm D X cx71 (2 * n + 1) F) (hp : PassesOwn (model X.prog X.w) X.A X.env X.xe) (has : ∀ i, F.as i = true) (hx : Fx X) : PSs X (defBody st71) (tSs D F (IR.callD D.g n) IR.fn71.body) :=
    (st_ss_cons (st_fld C (kn h A) (by rw [h.fl]; rfl) (e_var C rfl (by kernel_rfl)) (e_var C rfl (by kernel_rfl)) rfl)
    (st_ss_cons (st_fld C (kn h A) (by rw [h.fl]; rfl) (e_var C rfl (by kernel_rfl)) e_newK rfl)
    (st_ss_cons (st_fld C (kn h A) (by rw [h.fl]; rfl) (e_var C rfl (by kernel_rfl)) (s_lst s_nil (ownAll rfl) (Nat.le_of_ble_eq_true rfl)) rfl)
    (st_ss_cons (st_fld C (kn h A) (by rw [h.fl]; rfl) (e_var C rfl (by kernel_rfl)) e_int rfl)
    (st_ss_cons (st_fld C (kn h A) (by rw [h.fl]; rfl) (e_var C rfl (by kernel_rfl)) e_int rfl)
    (st_ss_cons (st_fld C (kn h A) (by rw [h.fl]; rfl) (e_var C rfl (by kernel_rfl)) e_newK rfl)
    (st_ss_cons (st_fld C (kn h A) (by rw [h.fl]; rfl) (e_var C rfl (by kernel_rfl)) e_int rfl)
    st_ss_nil)))))))
theorem body75 (C : Cm D X cx75 (2 * n + 1) F) (hp : PassesOwn (model X.prog X.w) X.A X.env X.xe) (has : ∀ i, F.as i = true) (hx : Fx X) : PSs X (defBody st75) (tSs D F (IR.callD D.g n) IR.fn75.body) :=
    (st_ss_cons (st_aug C (kn h A) (by rw [h.fl]; rfl) (e_var C rfl (by kernel_rfl)) pe_int)
    (st_ss_cons (st_expr (e_append C (s_attr C (kn h A) (by rw [h.fl]; rfl) (e_var C rfl (by kernel_rfl)) rfl) (s_tup (s_cons (s_attr C (kn h A) (by rw [h.fl]; rfl) (e_var C rfl (by kernel_rfl)) rfl) (s_cons (e_var C rfl (by kernel_rfl)) (s_cons (e_get1 C (s_attr C (kn h A) (by rw [h.fl]; rfl) (e_var C rfl (by kernel_rfl)) rfl) (e_var C rfl (by kernel_rfl)) rfl rfl rfl) (s_cons (e_var C rfl (by kernel_rfl)) s_nil rfl) rfl) rfl) rfl) (ownAll rfl) (Nat.le_of_ble_eq_true rfl)) rfl rfl rfl) rfl)
    (st_ss_cons (st_ret (s_attr C (kn h A) (by rw [h.fl]; rfl) (e_var C rfl (by kernel_rfl)) rfl))
    st_ss_nil)))
theorem body79 (C : Cm D X cx79 (2 * n + 1) F) (hp : PassesOwn (model X.prog X.w) X.A X.env X.xe) (has : ∀ i, F.as i = true) (hx : Fx X) : PSs X (defBody st79) (tSs D F (IR.callD D.g n) IR.fn79.body) :=
    (st_ss_cons (st_asg (s_meth C (kn h A) rfl (e_var C rfl (by kernel_rfl)) (s_cons (e_var C rfl (by kernel_rfl)) (s_cons (e_var C rfl (by kernel_rfl)) s_nil rfl) rfl) (ownAll rfl) rfl rfl rfl rfl (fun e => by cases e) (fun e r z => by cases z; exact ⟨rfl, rfl⟩)) (t_var C rfl (loc_of (by kernel_rfl)) (sto_of (by kernel_rfl)) (has _)) rfl rfl rfl)
    (st_ss_cons (st_setIx C (e_var C rfl (by kernel_rfl)) (s_attr C (kn h A) (by rw [h.fl]; rfl) (e_var C rfl (by kernel_rfl)) rfl) (e_var C rfl (by kernel_rfl)) (fun _ => rfl) rfl rfl rfl)
    (st_ss_cons (st_ret (e_var C rfl (by kernel_rfl)))
    st_ss_nil)))
theorem body73 (C : Cm D X cx73 (2 * n + 1) F) (hp : PassesOwn (model X.prog X.w) X.A X.env X.xe) (has : ∀ i, F.as i = true) (hx : Fx X) : PSs X (defBody st73) (tSs D F (IR.callD D.g n) IR.fn73.body) :=
    (st_ss_cons (st_if (t_notin C (e_var C rfl (by kernel_rfl)) (s_attr C (kn h A) (by rw [h.fl]; rfl) (e_var C rfl (by kernel_rfl)) rfl)) (st_ss_cons (st_raiseBad (by rw [h.g]; rfl) rfl)
    st_ss_nil) st_ss_nil)
    (st_ss_cons (st_asg (s_meth C (kn h A) rfl (e_var C rfl (by kernel_rfl)) (s_cons (e_var C rfl (by kernel_rfl)) (s_cons e_non s_nil rfl) rfl) (ownAll rfl) rfl rfl rfl rfl (fun e => by cases e) (fun e r z => by cases z; exact ⟨rfl, rfl⟩)) (t_var C rfl (loc_of (by kernel_rfl)) (sto_of (by kernel_rfl)) (has _)) rfl rfl rfl)
    (st_ss_cons (st_expr (e_pop1 C (s_attr C (kn h A) (by rw [h.fl]; rfl) (e_var C rfl (by kernel_rfl)) rfl) (e_var C rfl (by kernel_rfl)) rfl rfl rfl) rfl)
    (st_ss_cons (st_ret (e_var C rfl (by kernel_rfl)))
    st_ss_nil))))
theorem body104 (C : Cm D X cx104 (2 * n + 1) F) (hp : PassesOwn (model X.prog X.w) X.A X.env X.xe) (has : ∀ i, F.as i = true) (hx : Fx X) : PSs X (defBody st104) (tSs D F (IR.callD D.g n) IR.fn104.body) :=
    (st_ss_cons (st_expr (s_call C A.A98.up (C.gl (by kernel_rfl)) h.m98 (s_cons e_int s_nil rfl) (ownAll rfl) rfl rfl rfl rfl) rfl)
    st_ss_nil)
theorem body81 (C : Cm D X cx81 (2 * n + 1) F) (hp : PassesOwn (model X.prog X.w) X.A X.env X.xe) (has : ∀ i, F.as i = true) (hx : Fx X) : PSs X (defBody st81) (tSs D F (IR.callD D.g n) IR.fn81.body) :=
    (st_ss_cons (st_ret (e_tuple C (by kernel_rfl) h.m_tuple (e_sortedItems C (by kernel_rfl) h.m_sorted (s_attr C (kn h A) (by rw [h.fl]; rfl) (e_var C rfl (by kernel_rfl)) rfl) rfl rfl rfl) rfl))
    st_ss_nil)
theorem body77 (C : Cm D X cx77 (2 * n + 1) F) (hp : PassesOwn (model X.prog X.w) X.A X.env X.xe) (has : ∀ i, F.as i = true) (hx : Fx X) : PSs X (defBody st77) (tSs D F (IR.callD D.g n) IR.fn77.body) :=
    (st_ss_cons (st_ret (s_attr C (kn h A) (by rw [h.fl]; rfl) (e_var C rfl (by kernel_rfl)) rfl))
    st_ss_nil)
theorem body78 (C : Cm D X cx78 (2 * n + 1) F) (hp : PassesOwn (model X.prog X.w) X.A X.env X.xe) (has : ∀ i, F.as i = true) (hx : Fx X) : PSs X (defBody st78) (tSs D F (IR.callD D.g n) IR.fn78.body) :=
    (st_ss_cons (st_ret (s_attr C (kn h A) (by rw [h.fl]; rfl) (e_var C rfl (by kernel_rfl)) rfl))
    st_ss_nil)
theorem body76 (C : Cm D X cx76 (2 * n + 1) F) (hp : PassesOwn (model X.prog X.w) X.A X.env X.xe) (has : ∀ i, F.as i = true) (hx : Fx X) : PSs X (defBody st76) (tSs D F (IR.callD D.g n) IR.fn76.body) :=
    (st_ss_cons (st_if (t_w (s_orT (t_gt C (e_var C rfl (by kernel_rfl)) (s_attr C (kn h A) (by rw [h.fl]; rfl) (e_var C rfl (by kernel_rfl)) rfl)) (w_or1 (t_gt C (e_var C rfl (by kernel_rfl)) (e_var C rfl (by kernel_rfl)))))) (st_ss_cons (st_raiseBad (by rw [h.g]; rfl) rfl)
    st_ss_nil) st_ss_nil)
    (st_ss_cons (st_if (t_lt C (e_var C rfl (by kernel_rfl)) (s_attr C (kn h A) (by rw [h.fl]; rfl) (e_var C rfl (by kernel_rfl)) rfl)) (st_ss_cons (st_raiseBad (by rw [h.g]; rfl) rfl)
    st_ss_nil) st_ss_nil)
    (st_ss_cons (st_ret (e_tuple C (by kernel_rfl) h.m_tuple (e_sl11 C (s_attr C (kn h A) (by rw [h.fl]; rfl) (e_var C rfl (by kernel_rfl)) rfl) (e_sub C (e_var C rfl (by kernel_rfl)) (s_attr C (kn h A) (by rw [h.fl]; rfl) (e_var C rfl (by kernel_rfl)) rfl)) (e_sub C (e_var C rfl (by kernel_rfl)) (s_attr C (kn h A) (by rw [h.fl]; rfl) (e_var C rfl (by kernel_rfl)) rfl))) rfl))
    st_ss_nil)))
theorem body134 (C : Cm D X cx134 (2 * n + 1) F) (hp : PassesOwn (model X.prog X.w) X.A X.env X.xe) (has : ∀ i, F.as i = true) (hx : Fx X) : PSs X (defBody st134) (tSs D F (IR.callD D.g n) IR.fn134.body) :=
    (st_ss_cons (st_expr (s_call C A.A98.up (C.gl (by kernel_rfl)) h.m98 (s_cons e_int s_nil rfl) (ownAll rfl) rfl rfl rfl rfl) rfl)
    st_ss_nil)
theorem body136 (C : Cm D X cx136 (2 * n + 1) F) (hp : PassesOwn (model X.prog X.w) X.A X.env X.xe) (has : ∀ i, F.as i = true) (hx : Fx X) : PSs X (defBody st136) (tSs D F (IR.callD D.g n) IR.fn136.body) :=
    (st_ss_cons (st_expr (s_call C A.A98.up (C.gl (by kernel_rfl)) h.m98 (s_cons e_int s_nil rfl) (ownAll rfl) rfl rfl rfl rfl) rfl)
    st_ss_nil)
theorem body135 (C : Cm D X cx135 (2 * n + 1) F) (hp : PassesOwn (model X.prog X.w) X.A X.env X.xe) (has : ∀ i, F.as i = true) (hx : Fx X) : PSs X (defBody st135) (tSs D F (IR.callD D.g n) IR.fn135.body) :=
    (st_ss_cons (st_expr (s_call C A.A98.up (C.gl (by kernel_rfl)) h.m98 (s_cons e_int s_nil rfl) (ownAll rfl) rfl rfl rfl rfl) rfl)
    st_ss_nil)
theorem body139 (C : Cm D X cx139 (2 * n + 1) F) (hp : PassesOwn (model X.prog X.w) X.A X.env X.xe) (has : ∀ i, F.as i = true) (hx : Fx X) : PSs X (defBody st139) (tSs D F (IR.callD D.g n) IR.fn139.body) :=
    (st_ss_cons (st_if (t_lt C (e_var C rfl (by kernel_rfl)) (e_len C (by kernel_rfl) h.m_len (e_var C rfl (by kernel_rfl)) rfl)) (st_ss_cons (st_ret (s_ix C (e_var C rfl (by kernel_rfl)) (e_var C rfl (by kernel_rfl)) (fun _ _ => rfl)))
    st_ss_nil) st_ss_nil)
    (st_ss_cons (st_ret e_int)
    st_ss_nil))
theorem body141 (C : Cm D X cx141 (2 * n + 1) F) (hp : PassesOwn (model X.prog X.w) X.A X.env X.xe) (has : ∀ i, F.as i = true) (hx : Fx X) : PSs X (defBody st141) (tSs D F (IR.callD D.g n) IR.fn141.body) :=
    (st_ss_cons (st_ret (e_disp (pd_cons (by kernel_rfl) (s_ix C (s_lst (s_cons e_int (s_cons (e_var C rfl (by kernel_rfl)) s_nil rfl) rfl) (ownAll rfl) (Nat.le_of_ble_eq_true rfl)) (e_intT C (by kernel_rfl) h.m_int (e_ge C (e_var C rfl (by kernel_rfl)) (e_pow C e_int e_int)) rfl) (fun _ _ => rfl)) (pd_cons (by kernel_rfl) e_int (pd_cons (by kernel_rfl) (e_mod C (e_var C rfl (by kernel_rfl)) e_int) pd_nil))) (by decide +kernel) (by decide +kernel) (by decide +kernel)))
    st_ss_nil)
theorem body142 (C : Cm D X cx142 (2 * n + 1) F) (hp : PassesOwn (model X.prog X.w) X.A X.env X.xe) (has : ∀ i, F.as i = true) (hx : Fx X) : PSs X (defBody st142) (tSs D F (IR.callD D.g n) IR.fn142.body) :=
    (st_ss_cons (st_if (t_gt C (s_ix C (e_var C rfl (by kernel_rfl)) (e_str (by kernel_rfl)) (fun _ _ => rfl)) e_int) (st_ss_cons (st_asg (e_mod C (s_ix C (e_var C rfl (by kernel_rfl)) (e_str (by kernel_rfl)) (fun _ _ => rfl)) (e_var C rfl (by kernel_rfl))) (t_var C rfl (loc_of (by kernel_rfl)) (sto_of (by kernel_rfl)) (has _)) rfl rfl rfl)
    (st_ss_cons (st_setIx C (e_fdiv C (s_ix C (e_var C rfl (by kernel_rfl)) (e_str (by kernel_rfl)) (fun _ _ => rfl)) (e_var C rfl (by kernel_rfl))) (e_var C rfl (by kernel_rfl)) (e_str (by kernel_rfl)) (fun _ => rfl) rfl rfl rfl)
    (st_ss_cons (st_ret (e_var C rfl (by kernel_rfl)))
    st_ss_nil))) st_ss_nil)
    (st_ss_cons (st_setIx C (e_add C (s_ix C (e_var C rfl (by kernel_rfl)) (e_str (by kernel_rfl)) (fun _ _ => rfl)) e_int) (e_var C rfl (by kernel_rfl)) (e_str (by kernel_rfl)) (fun _ => rfl) rfl rfl rfl)
    (st_ss_cons (st_asg (e_mod C (e_mul C (e_add C (s_ix C (e_var C rfl (by kernel_rfl)) (e_str (by kernel_rfl)) (fun _ _ => rfl)) (e_mul C (e_mul C e_int (s_ix C (e_var C rfl (by kernel_rfl)) (e_str (by kernel_rfl)) (fun _ _ => rfl))) (s_ix C (e_var C rfl (by kernel_rfl)) (e_str (by kernel_rfl)) (fun _ _ => rfl)))) e_int) e_int) (t_var C rfl (loc_of (by kernel_rfl)) (sto_of (by kernel_rfl)) (has _)) rfl rfl rfl)
    (st_ss_cons (st_asg (e_mod C (e_add C (e_add C (e_mul C (e_var C rfl (by kernel_rfl)) (e_var C rfl (by kernel_rfl))) (e_mul C e_int (e_var C rfl (by kernel_rfl)))) e_int) e_int) (t_var C rfl (loc_of (by kernel_rfl)) (sto_of (by kernel_rfl)) (has _)) rfl rfl rfl)
    (st_ss_cons (st_ret (e_mod C (e_fdiv C (e_mod C (e_mul C (e_var C rfl (by kernel_rfl)) e_int) e_int) e_int) (e_var C rfl (by kernel_rfl))))
    st_ss_nil)))))
theorem body146 (C : Cm D X cx146 (2 * n + 1) F) (hp : PassesOwn (model X.prog X.w) X.A X.env X.xe) (has : ∀ i, F.as i = true) (hx : Fx X) : PSs X (defBody st146) (tSs D F (IR.callD D.g n) IR.fn146.body) :=
    (st_ss_cons (st_asg (e_str (by kernel_rfl)) (t_var C rfl (loc_of (by kernel_rfl)) (sto_of (by kernel_rfl)) (has _)) rfl rfl rfl)
    (st_ss_cons (st_asg (s_lst s_nil (ownAll rfl) (Nat.le_of_ble_eq_true rfl)) (t_var C rfl (loc_of (by kernel_rfl)) (sto_of (by kernel_rfl)) (has _)) rfl rfl rfl)
    (st_ss_cons (st_for hp C (s_rg1 (C.gl (by kernel_rfl)) (C.mgn h.m_range) (s_cons (e_var C rfl (by kernel_rfl)) s_nil rfl) rfl) (t_var C rfl (loc_of (by kernel_rfl)) (sto_of (by kernel_rfl)) (has _)) (st_ss_cons (st_asg (e_join C (e_str (by kernel_rfl)) (s_lc0 C (s_rg1 (C.gl (by kernel_rfl)) (C.mgn h.m_range) (s_cons (e_add C e_int (s_call C A.A142.up (C.gl (by kernel_rfl)) h.m142 (s_cons (e_var C rfl (by kernel_rfl)) (s_cons e_int s_nil rfl) rfl) (ownAll rfl) rfl rfl rfl rfl)) s_nil rfl) rfl) (blkOk_by (own := [("_law_j", 6)]) (by decide +kernel)) rfl (fun s1 H1 A1 cl1 fp1 => have C1 := C.blk rfl (s := s1) (H := H1) (cl := cl1) (A := A1) (fp := fp1); (t_var C1 rfl (loc_of (by kernel_rfl)) (sto_of (by kernel_rfl)) rfl)) (fun s1 H1 A1 cl1 fp1 => have C1 := C.blk rfl (s := s1) (H := H1) (cl := cl1) (A := A1) (fp := fp1); (s_ix C1 (e_var C1 rfl (by kernel_rfl)) (s_call C1 A.A142.up (C1.gl (by kernel_rfl)) h.m142 (s_cons (e_var C1 rfl (by kernel_rfl)) (s_cons e_int s_nil rfl) rfl) (ownAll rfl) rfl rfl rfl rfl) (fun _ _ => rfl))) (fun _ => rfl)) rfl rfl rfl) (t_var C rfl (loc_of (by kernel_rfl)) (sto_of (by kernel_rfl)) (has _)) rfl rfl rfl)
    (st_ss_cons (st_if (t_w (s_andT (t_ne C (e_var C rfl (by kernel_rfl)) (s_lst s_nil (ownAll rfl) (Nat.le_of_ble_eq_true rfl))) (w_and1 (t_eq C (s_call C A.A142.up (C.gl (by kernel_rfl)) h.m142 (s_cons (e_var C rfl (by kernel_rfl)) (s_cons e_int s_nil rfl) rfl) (ownAll rfl) rfl rfl rfl rfl) e_int)))) (st_ss_cons (st_asg (s_call C A.A142.up (C.gl (by kernel_rfl)) h.m142 (s_cons (e_var C rfl (by kernel_rfl)) (s_cons (e_len C (by kernel_rfl) h.m_len (s_ix C (e_var C rfl (by kernel_rfl)) (e_neg C e_int) (fun _ _ => rfl)) rfl) s_nil rfl) rfl) (ownAll rfl) rfl rfl rfl rfl) (t_var C rfl (loc_of (by kernel_rfl)) (sto_of (by kernel_rfl)) (has _)) rfl rfl rfl)
    (st_ss_cons (st_asg (e_add C (e_add C (e_sl01 C (s_ix C (e_var C rfl (by kernel_rfl)) (e_neg C e_int) (fun _ _ => rfl)) (e_var C rfl (by kernel_rfl))) (s_ix C (e_var C rfl (by kernel_rfl)) e_int (fun _ _ => rfl))) (e_sl10 C (s_ix C (e_var C rfl (by kernel_rfl)) (e_neg C e_int) (fun _ _ => rfl)) (e_add C (e_var C rfl (by kernel_rfl)) e_int))) (t_var C rfl (loc_of (by kernel_rfl)) (sto_of (by kernel_rfl)) (has _)) rfl rfl rfl)
    st_ss_nil)) st_ss_nil)
    (st_ss_cons (st_whl hp (t_in C (e_var C rfl (by kernel_rfl)) (e_var C rfl (by kernel_rfl))) (st_ss_cons (st_asg (e_add C (s_ix C (e_var C rfl (by kernel_rfl)) (e_mod C (e_add C (e_indexS C (e_var C rfl (by kernel_rfl)) (s_ix C (e_var C rfl (by kernel_rfl)) e_int (fun _ _ => rfl)) rfl rfl rfl) e_int) e_int) (fun _ _ => rfl)) (e_sl10 C (e_var C rfl (by kernel_rfl)) e_int)) (t_var C rfl (loc_of (by kernel_rfl)) (sto_of (by kernel_rfl)) (has _)) rfl rfl rfl)
    st_ss_nil))
    (st_ss_cons (st_expr (e_append C (e_var C rfl (by kernel_rfl)) (e_var C rfl (by kernel_rfl)) rfl rfl rfl) rfl)
    st_ss_nil)))) (fun _ => rfl))
    (st_ss_cons (st_ret (e_var C rfl (by kernel_rfl)))
    st_ss_nil))))
theorem body147 (C : Cm D X cx147 (2 * n + 1) F) (hp : PassesOwn (model X.prog X.w) X.A X.env X.xe) (has : ∀ i, F.as i = true) (hx : Fx X) : PSs X (defBody st147) (tSs D F (IR.callD D.g n) IR.fn147.body) :=
    (st_ss_cons (st_asg (s_call C A.A142.up (C.gl (by kernel_rfl)) h.m142 (s_cons (e_var C rfl (by kernel_rfl)) (s_cons e_int s_nil rfl) rfl) (ownAll rfl) rfl rfl rfl rfl) (t_var C rfl (loc_of (by kernel_rfl)) (sto_of (by kernel_rfl)) (has _)) rfl rfl rfl)
    (st_ss_cons (st_if (t_lt C (e_var C rfl (by kernel_rfl)) e_int) (st_ss_cons (st_ret (e_sub C (s_call C A.A142.up (C.gl (by kernel_rfl)) h.m142 (s_cons (e_var C rfl (by kernel_rfl)) (s_cons e_int s_nil rfl) rfl) (ownAll rfl) rfl rfl rfl rfl) e_int))
    st_ss_nil) st_ss_nil)
    (st_ss_cons (st_if (t_eq C (e_var C rfl (by kernel_rfl)) e_int) (st_ss_cons (st_ret (s_ix C (s_lst (s_cons (e_var C rfl (by kernel_rfl)) (s_cons (e_sub C e_int (e_var C rfl (by kernel_rfl))) (s_cons (e_sub C (e_var C rfl (by kernel_rfl)) e_int) (s_cons (e_sub C e_int (e_var C rfl (by kernel_rfl))) s_nil rfl) rfl) rfl) rfl) (ownAll rfl) (Nat.le_of_ble_eq_true rfl)) (s_call C A.A142.up (C.gl (by kernel_rfl)) h.m142 (s_cons (e_var C rfl (by kernel_rfl)) (s_cons e_int s_nil rfl) rfl) (ownAll rfl) rfl rfl rfl rfl) (fun _ _ => rfl)))
    st_ss_nil) st_ss_nil)
    (st_ss_cons (st_ret (e_sub C (s_call C A.A142.up (C.gl (by kernel_rfl)) h.m142 (s_cons (e_var C rfl (by kernel_rfl)) (s_cons (e_add C (e_mul C e_int (e_var C rfl (by kernel_rfl))) e_int) s_nil rfl) rfl) (ownAll rfl) rfl rfl rfl rfl) (e_var C rfl (by kernel_rfl))))
    st_ss_nil))))
theorem body155 (C : Cm D X cx155 (2 * n + 1) F) (hp : PassesOwn (model X.prog X.w) X.A X.env X.xe) (has : ∀ i, F.as i = true) (hx : Fx X) : PSs X (defBody st155) (tSs D F (IR.callD D.g n) IR.fn155.body) :=
    (st_ss_cons (st_asg (e_add C e_int (s_call C A.A142.up (C.gl (by kernel_rfl)) h.m142 (s_cons (e_var C rfl (by kernel_rfl)) (s_cons (s_ix C (s_lst (s_cons e_int (s_cons e_int (s_cons e_int (s_cons e_int s_nil rfl) rfl) rfl) rfl) (ownAll rfl) (Nat.le_of_ble_eq_true rfl)) (e_sub C (e_var C rfl (by kernel_rfl)) e_int) (fun _ _ => rfl)) s_nil rfl) rfl) (ownAll rfl) rfl rfl rfl rfl)) (t_var C rfl (loc_of (by kernel_rfl)) (sto_of (by kernel_rfl)) (has _)) rfl rfl rfl)
    (st_ss_cons (st_ret (e_tuple C (by kernel_rfl) h.m_tuple (s_lc1 C (s_rg1 (C.gl (by kernel_rfl)) (C.mgn h.m_range) (s_cons (e_var C rfl (by kernel_rfl)) s_nil rfl) rfl) (blkOk_by (own := [("_law_place", 3)]) (by decide +kernel)) rfl (fun s1 H1 A1 cl1 fp1 => have C1 := C.blk rfl (s := s1) (H := H1) (cl := cl1) (A := A1) (fp := fp1); (t_var C1 rfl (loc_of (by kernel_rfl)) (sto_of (by kernel_rfl)) rfl)) (fun s1 H1 A1 cl1 fp1 => have C1 := C.blk rfl (s := s1) (H := H1) (cl := cl1) (A := A1) (fp := fp1); (t_eq C1 (e_mod C1 (e_fdiv C1 (e_var C1 rfl (by kernel_rfl)) (s_ix C1 (s_lst (s_cons e_int (s_cons e_int (s_cons e_int (s_cons e_int s_nil rfl) rfl) rfl) rfl) (ownAll rfl) (Nat.le_of_ble_eq_true rfl)) (e_var C1 rfl (by kernel_rfl)) (fun _ _ => rfl))) e_int) e_int)) (fun s1 H1 A1 cl1 fp1 => have C1 := C.blk rfl (s := s1) (H := H1) (cl := cl1) (A := A1) (fp := fp1); (e_var C1 rfl (by kernel_rfl))) (fun _ => rfl)) rfl))
    st_ss_nil))
theorem body140 (C : Cm D X cx140 (2 * n + 1) F) (hp : PassesOwn (model X.prog X.w) X.A X.env X.xe) (has : ∀ i, F.as i = true) (hx : Fx X) : PSs X (defBody st140) (tSs D F (IR.callD D.g n) IR.fn140.body) :=
    (st_ss_cons (st_asg (s_ix C (s_lst (s_cons (s_call C A.A142.up (C.gl (by kernel_rfl)) h.m142 (s_cons (e_var C rfl (by kernel_rfl)) (s_cons e_int s_nil rfl) rfl) (ownAll rfl) rfl rfl rfl rfl) (s_cons e_int s_nil rfl) rfl) (ownAll rfl) (Nat.le_of_ble_eq_true rfl)) (e_intT C (by kernel_rfl) h.m_int (e_eq C (s_call C A.A142.up (C.gl (by kernel_rfl)) h.m142 (s_cons (e_var C rfl (by kernel_rfl)) (s_cons e_int s_nil rfl) rfl) (ownAll rfl) rfl rfl rfl rfl) e_int) rfl) (fun _ _ => rfl)) (t_var C rfl (loc_of (by kernel_rfl)) (sto_of (by kernel_rfl)) (has _)) rfl rfl rfl)
    (st_ss_cons (st_lc0 C rfl (by kernel_rfl) (has _) rfl (by kernel_rfl) (s_rg1 (C.gl (by kernel_rfl)) (C.mgn h.m_range) (s_cons (e_var C rfl (by kernel_rfl)) s_nil rfl) rfl) (blkOk_by (own := [("_law_k", 3)]) (by decide +kernel)) rfl (fun s1 H1 A1 cl1 fp1 => have C1 := C.blk rfl (s := s1) (H := H1) (cl := cl1) (A := A1) (fp := fp1); (t_var C1 rfl (loc_of (by kernel_rfl)) (sto_of (by kernel_rfl)) rfl)) (fun s1 H1 A1 cl1 fp1 => have C1 := C.blk rfl (s := s1) (H := H1) (cl := cl1) (A := A1) (fp := fp1); (s_call C1 A.A147.up (C1.gl (by kernel_rfl)) h.m147 (s_cons (e_var C1 rfl (by kernel_rfl)) (s_cons (e_pow C1 e_int e_int) s_nil rfl) rfl) (ownAll rfl) rfl rfl rfl rfl)) (fun _ => rfl))
    (st_ss_cons (st_ret (e_tuple C (by kernel_rfl) h.m_tuple (e_sortedSet C (by kernel_rfl) h.m_sorted (by kernel_rfl) h.m_set (e_var C rfl (by kernel_rfl)) rfl) rfl))
    st_ss_nil)))
theorem body145 (C : Cm D X cx145 (2 * n + 1) F) (hp : PassesOwn (model X.prog X.w) X.A X.env X.xe) (has : ∀ i, F.as i = true) (hx : Fx X) : PSs X (defBody st145) (tSs D F (IR.callD D.g n) IR.fn145.body) :=
    (st_ss_cons (st_ret (e_sum C (by kernel_rfl) h.m_sum (s_lc0 C (s_over C (e_var C rfl (by kernel_rfl))) (blkOk_by (own := [("_law_place", 2)]) (by decide +kernel)) rfl (fun s1 H1 A1 cl1 fp1 => have C1 := C.blk rfl (s := s1) (H := H1) (cl := cl1) (A := A1) (fp := fp1); (t_var C1 rfl (loc_of (by kernel_rfl)) (sto_of (by kernel_rfl)) rfl)) (fun s1 H1 A1 cl1 fp1 => have C1 := C.blk rfl (s := s1) (H := H1) (cl := cl1) (A := A1) (fp := fp1); (s_ix C1 (e_var C1 rfl (by kernel_rfl)) (e_var C1 rfl (by kernel_rfl)) (fun _ _ => rfl))) (fun _ => rfl)) rfl))
    st_ss_nil)
theorem body150 (C : Cm D X cx150 (2 * n + 1) F) (hp : PassesOwn (model X.prog X.w) X.A X.env X.xe) (has : ∀ i, F.as i = true) (hx : Fx X) : PSs X (defBody st150) (tSs D F (IR.callD D.g n) IR.fn150.body) :=
    (st_ss_cons (st_ret (e_len C (by kernel_rfl) h.m_len (s_lc1 C (s_over C (e_var C rfl (by kernel_rfl))) (blkOk_by (own := [("_law_cut", 2)]) (by decide +kernel)) rfl (fun s1 H1 A1 cl1 fp1 => have C1 := C.blk rfl (s := s1) (H := H1) (cl := cl1) (A := A1) (fp := fp1); (t_var C1 rfl (loc_of (by kernel_rfl)) (sto_of (by kernel_rfl)) rfl)) (fun s1 H1 A1 cl1 fp1 => have C1 := C.blk rfl (s := s1) (H := H1) (cl := cl1) (A := A1) (fp := fp1); (t_ge C1 (e_var C1 rfl (by kernel_rfl)) (e_var C1 rfl (by kernel_rfl)))) (fun s1 H1 A1 cl1 fp1 => have C1 := C.blk rfl (s := s1) (H := H1) (cl := cl1) (A := A1) (fp := fp1); (e_var C1 rfl (by kernel_rfl))) (fun _ => rfl)) rfl))
    st_ss_nil)
theorem body148 (C : Cm D X cx148 (2 * n + 1) F) (hp : PassesOwn (model X.prog X.w) X.A X.env X.xe) (has : ∀ i, F.as i = true) (hx : Fx X) : PSs X (defBody st148) (tSs D F (IR.callD D.g n) IR.fn148.body) :=
    (st_ss_cons (st_ret (e_tuple C (by kernel_rfl) h.m_tuple (s_lc0 C (s_rg1 (C.gl (by kernel_rfl)) (C.mgn h.m_range) (s_cons (e_var C rfl (by kernel_rfl)) s_nil rfl) rfl) (blkOk_by (own := [("_law_k", 2)]) (by decide +kernel)) rfl (fun s1 H1 A1 cl1 fp1 => have C1 := C.blk rfl (s := s1) (H := H1) (cl := cl1) (A := A1) (fp := fp1); (t_var C1 rfl (loc_of (by kernel_rfl)) (sto_of (by kernel_rfl)) rfl)) (fun s1 H1 A1 cl1 fp1 => have C1 := C.blk rfl (s := s1) (H := H1) (cl := cl1) (A := A1) (fp := fp1); (s_call C1 A.A147.up (C1.gl (by kernel_rfl)) h.m147 (s_cons (e_var C1 rfl (by kernel_rfl)) (s_cons (e_pow C1 e_int e_int) s_nil rfl) rfl) (ownAll rfl) rfl rfl rfl rfl)) (fun _ => rfl)) rfl))
    st_ss_nil)
theorem body162 (C : Cm D X cx162 (2 * n + 1) F) (hp : PassesOwn (model X.prog X.w) X.A X.env X.xe) (has : ∀ i, F.as i = true) (hx : Fx X) : PSs X (defBody st162) (tSs D F (IR.callD D.g n) IR.fn162.body) :=
    (st_ss_cons (st_asg (e_add C e_int (s_call C A.A142.up (C.gl (by kernel_rfl)) h.m142 (s_cons (e_var C rfl (by kernel_rfl)) (s_cons e_int s_nil rfl) rfl) (ownAll rfl) rfl rfl rfl rfl)) (t_var C rfl (loc_of (by kernel_rfl)) (sto_of (by kernel_rfl)) (has _)) rfl rfl rfl)
    (st_ss_cons (st_asg (s_lst (s_cons e_int (s_cons e_int (s_cons e_int (s_cons e_int (s_cons e_int (s_cons e_int s_nil rfl) rfl) rfl) rfl) rfl) rfl) (ownAll rfl) (Nat.le_of_ble_eq_true rfl)) (t_var C rfl (loc_of (by kernel_rfl)) (sto_of (by kernel_rfl)) (has _)) rfl rfl rfl)
    (st_ss_cons (st_for hp C (s_rg1 (C.gl (by kernel_rfl)) (C.mgn h.m_range) (s_cons (e_add C (e_mul C (s_call C A.A142.up (C.gl (by kernel_rfl)) h.m142 (s_cons (e_var C rfl (by kernel_rfl)) (s_cons e_int s_nil rfl) rfl) (ownAll rfl) rfl rfl rfl rfl) e_int) (e_mul C e_int (e_intT C (by kernel_rfl) h.m_int (e_eq C (s_call C A.A142.up (C.gl (by kernel_rfl)) h.m142 (s_cons (e_var C rfl (by kernel_rfl)) (s_cons e_int s_nil rfl) rfl) (ownAll rfl) rfl rfl rfl rfl) e_int) rfl))) s_nil rfl) rfl) (t_var C rfl (loc_of (by kernel_rfl)) (sto_of (by kernel_rfl)) (has _)) (st_ss_cons (st_expr (e_append C (e_var C rfl (by kernel_rfl)) (e_add C (e_add C e_int (e_mul C (e_var C rfl (by kernel_rfl)) (e_var C rfl (by kernel_rfl)))) (e_mul C e_int (e_var C rfl (by kernel_rfl)))) rfl rfl rfl) rfl)
    st_ss_nil) (fun _ => rfl))
    (st_ss_cons (st_asg (e_disp (pd_cons (by kernel_rfl) (s_new C (by rw [h.g]; rfl) (by rw [h.cA]; rfl) h.mk0 A.A71 (C.gl (by kernel_rfl)) h.mc0 (s_cons (e_var C rfl (by kernel_rfl)) s_nil rfl) (ownAll rfl) rfl rfl rfl rfl) (pd_cons (by kernel_rfl) (e_var C rfl (by kernel_rfl)) (pd_cons (by kernel_rfl) (s_lst (s_cons e_newK s_nil rfl) (ownAll rfl) (Nat.le_of_ble_eq_true rfl)) (pd_cons (by kernel_rfl) e_int (pd_cons (by kernel_rfl) e_newK (pd_cons (by kernel_rfl) e_int pd_nil)))))) (by decide +kernel) (by decide +kernel) (by decide +kernel)) (t_var C rfl (loc_of (by kernel_rfl)) (sto_of (by kernel_rfl)) (has _)) rfl rfl rfl)
    (st_ss_cons (st_setIx C (e_sl10 C (e_var C rfl (by kernel_rfl)) (s_call C A.A142.up (C.gl (by kernel_rfl)) h.m142 (s_cons (e_var C rfl (by kernel_rfl)) (s_cons e_int s_nil rfl) rfl) (ownAll rfl) rfl rfl rfl rfl)) (e_var C rfl (by kernel_rfl)) (e_str (by kernel_rfl)) (fun _ => rfl) rfl rfl rfl)
    (st_ss_cons (st_ret (e_var C rfl (by kernel_rfl)))
    st_ss_nil))))))
theorem body149 (C : Cm D X cx149 (2 * n + 1) F) (hp : PassesOwn (model X.prog X.w) X.A X.env X.xe) (has : ∀ i, F.as i = true) (hx : Fx X) : PSs X (defBody st149) (tSs D F (IR.callD D.g n) IR.fn149.body) :=
    (st_ss_cons (st_ret (e_sub C (e_len C (by kernel_rfl) h.m_len (s_ix C (e_var C rfl (by kernel_rfl)) (e_str (by kernel_rfl)) (fun _ _ => rfl)) rfl) e_int))
    st_ss_nil)
theorem body152 (C : Cm D X cx152 (2 * n + 1) F) (hp : PassesOwn (model X.prog X.w) X.A X.env X.xe) (has : ∀ i, F.as i = true) (hx : Fx X) : PSs X (defBody st152) (tSs D F (IR.callD D.g n) IR.fn152.body) :=
    (st_ss_cons (st_asg (s_ix C (s_ix C (e_var C rfl (by kernel_rfl)) (e_str (by kernel_rfl)) (fun _ _ => rfl)) (s_call C A.A142.up (C.gl (by kernel_rfl)) h.m142 (s_cons (e_var C rfl (by kernel_rfl)) (s_cons (e_len C (by kernel_rfl) h.m_len (s_ix C (e_var C rfl (by kernel_rfl)) (e_str (by kernel_rfl)) (fun _ _ => rfl)) rfl) s_nil rfl) rfl) (ownAll rfl) rfl rfl rfl rfl) (fun _ _ => rfl)) (t_var C rfl (loc_of (by kernel_rfl)) (sto_of (by kernel_rfl)) (has _)) rfl rfl rfl)
    (st_ss_cons (st_asg (s_call C A.A148.up (C.gl (by kernel_rfl)) h.m148 (s_cons (e_var C rfl (by kernel_rfl)) (s_cons (s_ix C (e_var C rfl (by kernel_rfl)) (e_str (by kernel_rfl)) (fun _ _ => rfl)) s_nil rfl) rfl) (ownAll rfl) rfl rfl rfl rfl) (t_var C rfl (loc_of (by kernel_rfl)) (sto_of (by kernel_rfl)) (has _)) rfl rfl rfl)
    (st_ss_cons (st_asg (e_dict C (by kernel_rfl) h.m_dict (s_ix C (s_ix C (e_var C rfl (by kernel_rfl)) (e_str (by kernel_rfl)) (fun _ _ => rfl)) (e_neg C e_int) (fun _ _ => rfl)) rfl) (t_var C rfl (loc_of (by kernel_rfl)) (sto_of (by kernel_rfl)) (has _)) rfl rfl rfl)
    (st_ss_cons (st_setIx C (e_var C rfl (by kernel_rfl)) (e_var C rfl (by kernel_rfl)) (e_var C rfl (by kernel_rfl)) (fun _ => rfl) rfl rfl rfl)
    (st_ss_cons (st_expr (e_append C (s_ix C (e_var C rfl (by kernel_rfl)) (e_str (by kernel_rfl)) (fun _ _ => rfl)) (e_var C rfl (by kernel_rfl)) rfl rfl rfl) rfl)
    (st_ss_cons (st_ret (e_eq C (s_meth C (kn h A) rfl (s_ix C (e_var C rfl (by kernel_rfl)) (e_str (by kernel_rfl)) (fun _ _ => rfl)) (s_cons (e_var C rfl (by kernel_rfl)) (s_cons (e_var C rfl (by kernel_rfl)) s_nil rfl) rfl) (ownAll rfl) rfl rfl rfl rfl (fun e => by cases e) (fun e r z => by cases z; exact ⟨rfl, rfl⟩)) (s_call C A.A149.up (C.gl (by kernel_rfl)) h.m149 (s_cons (e_var C rfl (by kernel_rfl)) s_nil rfl) (ownAll rfl) rfl rfl rfl rfl)))
    st_ss_nil))))))
theorem body143 (C : Cm D X cx143 (2 * n + 1) F) (hp : PassesOwn (model X.prog X.w) X.A X.env X.xe) (has : ∀ i, F.as i = true) (hx : Fx X) : PSs X (defBody st143) (tSs D F (IR.callD D.g n) IR.fn143.body) :=
    (st_ss_cons (st_asg (e_sorted C (by kernel_rfl) h.m_sorted (s_ix C (s_ix C (e_var C rfl (by kernel_rfl)) (e_str (by kernel_rfl)) (fun _ _ => rfl)) (e_neg C e_int) (fun _ _ => rfl)) rfl) (t_var C rfl (loc_of (by kernel_rfl)) (sto_of (by kernel_rfl)) (has _)) rfl rfl rfl)
    (st_ss_cons (st_if (t_eq C (e_var C rfl (by kernel_rfl)) (s_lst s_nil (ownAll rfl) (Nat.le_of_ble_eq_true rfl))) (st_ss_cons (st_ret (s_call C A.A152.up (C.gl (by kernel_rfl)) h.m152 (s_cons (e_var C rfl (by kernel_rfl)) (s_cons (e_var C rfl (by kernel_rfl)) s_nil rfl) rfl) (ownAll rfl) rfl rfl rfl rfl))
    st_ss_nil) st_ss_nil)
    (st_ss_cons (st_asg (s_ix C (e_var C rfl (by kernel_rfl)) (s_call C A.A142.up (C.gl (by kernel_rfl)) h.m142 (s_cons (e_var C rfl (by kernel_rfl)) (s_cons (e_len C (by kernel_rfl) h.m_len (e_var C rfl (by kernel_rfl)) rfl) s_nil rfl) rfl) (ownAll rfl) rfl rfl rfl rfl) (fun _ _ => rfl)) (t_var C rfl (loc_of (by kernel_rfl)) (sto_of (by kernel_rfl)) (has _)) rfl rfl rfl)
    (st_ss_cons (st_asg (e_dict C (by kernel_rfl) h.m_dict (s_ix C (s_ix C (e_var C rfl (by kernel_rfl)) (e_str (by kernel_rfl)) (fun _ _ => rfl)) (e_neg C e_int) (fun _ _ => rfl)) rfl) (t_var C rfl (loc_of (by kernel_rfl)) (sto_of (by kernel_rfl)) (has _)) rfl rfl rfl)
    (st_ss_cons (st_expr (e_pop1 C (e_var C rfl (by kernel_rfl)) (e_var C rfl (by kernel_rfl)) rfl rfl rfl) rfl)
    (st_ss_cons (st_expr (e_append C (s_ix C (e_var C rfl (by kernel_rfl)) (e_str (by kernel_rfl)) (fun _ _ => rfl)) (e_var C rfl (by kernel_rfl)) rfl rfl rfl) rfl)
    (st_ss_cons (st_ret (e_eq C (s_meth C (kn h A) rfl (s_ix C (e_var C rfl (by kernel_rfl)) (e_str (by kernel_rfl)) (fun _ _ => rfl)) (s_cons (e_var C rfl (by kernel_rfl)) s_nil rfl) (ownAll rfl) rfl rfl rfl rfl (fun e => by cases e) (fun e r z => by cases z; exact ⟨rfl, rfl⟩)) (s_call C A.A149.up (C.gl (by kernel_rfl)) h.m149 (s_cons (e_var C rfl (by kernel_rfl)) s_nil rfl) (ownAll rfl) rfl rfl rfl rfl)))
    st_ss_nil)))))))
theorem body163 (C : Cm D X cx163 (2 * n + 1) F) (hp : PassesOwn (model X.prog X.w) X.A X.env X.xe) (has : ∀ i, F.as i = true) (hx : Fx X) : PSs X (defBody st163) (tSs D F (IR.callD D.g n) IR.fn163.body) :=
    (st_ss_cons (st_for hp C (s_rg1 (C.gl (by kernel_rfl)) (C.mgn h.m_range) (s_cons (e_min2 C (by kernel_rfl) h.m_min (e_var C rfl (by kernel_rfl)) (e_sub C e_int (s_call C A.A149.up (C.gl (by kernel_rfl)) h.m149 (s_cons (e_var C rfl (by kernel_rfl)) s_nil rfl) (ownAll rfl) rfl rfl rfl rfl)) rfl rfl) s_nil rfl) rfl) (t_var C rfl (loc_of (by kernel_rfl)) (sto_of (by kernel_rfl)) (has _)) (st_ss_cons (st_if (s_notT (t_of C (e_callv C (fnsat h A) (s_ix C (s_lst (s_cons (e_fn C (by kernel_rfl) h.m152 h.a152) (s_cons (e_fn C (by kernel_rfl) h.m152 h.a152) (s_cons (e_fn C (by kernel_rfl) h.m143 h.a143) s_nil rfl) rfl) rfl) (ownAll rfl) (Nat.le_of_ble_eq_true rfl)) (s_call C A.A142.up (C.gl (by kernel_rfl)) h.m142 (s_cons (e_var C rfl (by kernel_rfl)) (s_cons e_int s_nil rfl) rfl) (ownAll rfl) rfl rfl rfl rfl) (fun _ _ => rfl)) (s_cons (e_var C rfl (by kernel_rfl)) (s_cons (e_var C rfl (by kernel_rfl)) s_nil rfl) rfl) (ownAll rfl) rfl rfl))) (st_ss_cons (st_ret e_bl)
    st_ss_nil) st_ss_nil)
    st_ss_nil) (fun _ => rfl))
    (st_ss_cons (st_ret e_bl)
    st_ss_nil))
theorem body138 (C : Cm D X cx138 (2 * n + 1) F) (hp : PassesOwn (model X.prog X.w) X.A X.env X.xe) (has : ∀ i, F.as i = true) (hx : Fx X) : PSs X (defBody st138) (tSs D F (IR.callD D.g n) IR.fn138.body) :=
    (st_ss_cons (st_asg (s_call C A.A155.up (C.gl (by kernel_rfl)) h.m155 (s_cons (e_var C rfl (by kernel_rfl)) (s_cons (s_ix C (e_var C rfl (by kernel_rfl)) (e_str (by kernel_rfl)) (fun _ _ => rfl)) s_nil rfl) rfl) (ownAll rfl) rfl rfl rfl rfl) (t_var C rfl (loc_of (by kernel_rfl)) (sto_of (by kernel_rfl)) (has _)) rfl rfl rfl)
    (st_ss_cons (st_asg (s_call C A.A140.up (C.gl (by kernel_rfl)) h.m140 (s_cons (e_var C rfl (by kernel_rfl)) s_nil rfl) (ownAll rfl) rfl rfl rfl rfl) (t_var C rfl (loc_of (by kernel_rfl)) (sto_of (by kernel_rfl)) (has _)) rfl rfl rfl)
    (st_ss_cons (st_setIx C (e_add C (s_ix C (e_var C rfl (by kernel_rfl)) (e_str (by kernel_rfl)) (fun _ _ => rfl)) e_int) (e_var C rfl (by kernel_rfl)) (e_str (by kernel_rfl)) (fun _ => rfl) rfl rfl rfl)
    (st_ss_cons (st_asg (e_disp (pd_cons (by kernel_rfl) (e_var C rfl (by kernel_rfl)) (pd_cons (by kernel_rfl) (s_ix C (e_var C rfl (by kernel_rfl)) (e_str (by kernel_rfl)) (fun _ _ => rfl)) (pd_cons (by kernel_rfl) (e_var C rfl (by kernel_rfl)) (pd_cons (by kernel_rfl) (e_var C rfl (by kernel_rfl)) (pd_cons (by kernel_rfl) (e_neg C e_int) (pd_cons (by kernel_rfl) e_non (pd_cons (by kernel_rfl) e_bl pd_nil))))))) (by decide +kernel) (by decide +kernel) (by decide +kernel)) (t_var C rfl (loc_of (by kernel_rfl)) (sto_of (by kernel_rfl)) (has _)) rfl rfl rfl)
    (st_ss_cons (st_setIx C (e_mul C (s_lst (s_cons (s_call C A.A149.up (C.gl (by kernel_rfl)) h.m149 (s_cons (e_var C rfl (by kernel_rfl)) s_nil rfl) (ownAll rfl) rfl rfl rfl rfl) s_nil rfl) (ownAll rfl) (Nat.le_of_ble_eq_true rfl)) (e_add C (e_len C (by kernel_rfl) h.m_len (e_var C rfl (by kernel_rfl)) rfl) e_int)) (e_var C rfl (by kernel_rfl)) (e_str (by kernel_rfl)) (fun _ => rfl) rfl rfl rfl)
    (st_ss_cons (st_setIx C (e_var C rfl (by kernel_rfl)) (s_ix C (e_var C rfl (by kernel_rfl)) (e_str (by kernel_rfl)) (fun _ _ => rfl)) (e_var C rfl (by kernel_rfl)) (fun _ => rfl) rfl rfl rfl)
    (st_ss_cons (st_ret (e_eq C (s_call C A.A165.up (C.gl (by kernel_rfl)) h.m165 (s_cons (s_ix C (e_var C rfl (by kernel_rfl)) (e_str (by kernel_rfl)) (fun _ _ => rfl)) (s_cons (e_var C rfl (by kernel_rfl)) (s_cons (e_var C rfl (by kernel_rfl)) (s_cons (e_var C rfl (by kernel_rfl)) s_nil rfl) rfl) rfl) rfl) (ownAll rfl) rfl rfl rfl rfl) (s_ix C (e_var C rfl (by kernel_rfl)) (e_str (by kernel_rfl)) (fun _ _ => rfl))))
    st_ss_nil)))))))
theorem body144 (C : Cm D X cx144 (2 * n + 1) F) (hp : PassesOwn (model X.prog X.w) X.A X.env X.xe) (has : ∀ i, F.as i = true) (hx : Fx X) : PSs X (defBody st144) (tSs D F (IR.callD D.g n) IR.fn144.body) :=
    (st_ss_cons (st_asg (s_lst s_nil (ownAll rfl) (Nat.le_of_ble_eq_true rfl)) (t_var C rfl (loc_of (by kernel_rfl)) (sto_of (by kernel_rfl)) (has _)) rfl rfl rfl)
    (st_ss_cons (st_walkD (IT := IR.It.items) kd_items (fun _ => it_items) (.ix (.ix (.var _) (.c _)) (.var _)) (pi_items (s_ix C (s_ix C (e_var C rfl (by kernel_rfl)) (e_str (by kernel_rfl)) (fun _ _ => rfl)) (e_var C rfl (by kernel_rfl)) (fun _ _ => rfl)) rfl rfl) hp C (t_tup C (t_cons C rfl (loc_of (by kernel_rfl)) (sto_of (by kernel_rfl)) (has _) (t_cons C rfl (loc_of (by kernel_rfl)) (sto_of (by kernel_rfl)) (has _) t_nil rfl) rfl) rfl rfl) (st_ss_cons (st_asg (s_call C A.A145.up (C.gl (by kernel_rfl)) h.m145 (s_cons (e_var C rfl (by kernel_rfl)) (s_cons (s_ix C (e_var C rfl (by kernel_rfl)) (e_str (by kernel_rfl)) (fun _ _ => rfl)) s_nil rfl) rfl) (ownAll rfl) rfl rfl rfl rfl) (t_var C rfl (loc_of (by kernel_rfl)) (sto_of (by kernel_rfl)) (has _)) rfl rfl rfl)
    (st_ss_cons (st_if (t_eq C (s_call C A.A150.up (C.gl (by kernel_rfl)) h.m150 (s_cons (s_ix C (e_var C rfl (by kernel_rfl)) (e_str (by kernel_rfl)) (fun _ _ => rfl)) (s_cons (e_var C rfl (by kernel_rfl)) s_nil rfl) rfl) (ownAll rfl) rfl rfl rfl rfl) (e_var C rfl (by kernel_rfl))) (st_ss_cons (st_expr (e_append C (e_var C rfl (by kernel_rfl)) (s_tup (s_cons (e_var C rfl (by kernel_rfl)) (s_cons (e_var C rfl (by kernel_rfl)) s_nil rfl) rfl) (ownAll rfl) (Nat.le_of_ble_eq_true rfl)) rfl rfl rfl) rfl)
    st_ss_nil) st_ss_nil)
    st_ss_nil)) (fun _ => rfl))
    (st_ss_cons (st_ret (e_tuple C (by kernel_rfl) h.m_tuple (e_sorted C (by kernel_rfl) h.m_sorted (e_var C rfl (by kernel_rfl)) rfl) rfl))
    st_ss_nil)))
theorem body157 (C : Cm D X cx157 (2 * n + 1) F) (hp : PassesOwn (model X.prog X.w) X.A X.env X.xe) (has : ∀ i, F.as i = true) (hx : Fx X) : PSs X (defBody st157) (tSs D F (IR.callD D.g n) IR.fn157.body) :=
    (st_ss_cons (st_ret (s_andV C (e_notN (s_ix C (s_ix C (e_var C rfl (by kernel_rfl)) (e_str (by kernel_rfl)) (fun _ _ => rfl)) (e_var C rfl (by kernel_rfl)) (fun _ _ => rfl))) (pe_one (e_ge C (s_ix C (s_ix C (e_var C rfl (by kernel_rfl)) (e_str (by kernel_rfl)) (fun _ _ => rfl)) (e_var C rfl (by kernel_rfl)) (fun _ _ => rfl)) (s_ix C (e_var C rfl (by kernel_rfl)) (e_str (by kernel_rfl)) (fun _ _ => rfl))))))
    st_ss_nil)
theorem body151 (C : Cm D X cx151 (2 * n + 1) F) (hp : PassesOwn (model X.prog X.w) X.A X.env X.xe) (has : ∀ i, F.as i = true) (hx : Fx X) : PSs X (defBody st151) (tSs D F (IR.callD D.g n) IR.fn151.body) :=
    (st_ss_cons (st_ret (e_lstRg1 C (by kernel_rfl) h.m_list (by kernel_rfl) h.m_range (e_len C (by kernel_rfl) h.m_len (s_ix C (e_var C rfl (by kernel_rfl)) (e_str (by kernel_rfl)) (fun _ _ => rfl)) rfl) rfl))
    st_ss_nil)
theorem body156 (C : Cm D X cx156 (2 * n + 1) F) (hp : PassesOwn (model X.prog X.w) X.A X.env X.xe) (has : ∀ i, F.as i = true) (hx : Fx X) : PSs X (defBody st156) (tSs D F (IR.callD D.g n) IR.fn156.body) :=
    (st_ss_cons (st_if (t_notN (s_ix C (e_var C rfl (by kernel_rfl)) (e_str (by kernel_rfl)) (fun _ _ => rfl))) (st_ss_cons (st_lc1 C rfl (by kernel_rfl) (has _) rfl (by kernel_rfl) (s_over C (s_call C A.A151.up (C.gl (by kernel_rfl)) h.m151 (s_cons (e_var C rfl (by kernel_rfl)) s_nil rfl) (ownAll rfl) rfl rfl rfl rfl)) (blkOk_by (own := [("_law_part_here", 3)]) (by decide +kernel)) rfl (fun s1 H1 A1 cl1 fp1 => have C1 := C.blk rfl (s := s1) (H := H1) (cl := cl1) (A := A1) (fp := fp1); (t_var C1 rfl (loc_of (by kernel_rfl)) (sto_of (by kernel_rfl)) rfl)) (fun s1 H1 A1 cl1 fp1 => have C1 := C.blk rfl (s := s1) (H := H1) (cl := cl1) (A := A1) (fp := fp1); (t_w (s_orT (s_notT (t_of C1 (s_call C1 A.A157.up (C1.gl (by kernel_rfl)) h.m157 (s_cons (e_var C1 rfl (by kernel_rfl)) (s_cons (e_var C1 rfl (by kernel_rfl)) (s_cons (e_var C1 rfl (by kernel_rfl)) s_nil rfl) rfl) rfl) (ownAll rfl) rfl rfl rfl rfl))) (w_or1 (t_lt C1 (s_ix C1 (s_ix C1 (e_var C1 rfl (by kernel_rfl)) (e_str (by kernel_rfl)) (fun _ _ => rfl)) (e_var C1 rfl (by kernel_rfl)) (fun _ _ => rfl)) (s_ix C1 (e_var C1 rfl (by kernel_rfl)) (e_str (by kernel_rfl)) (fun _ _ => rfl))))))) (fun s1 H1 A1 cl1 fp1 => have C1 := C.blk rfl (s := s1) (H := H1) (cl := cl1) (A := A1) (fp := fp1); (e_var C1 rfl (by kernel_rfl))) (fun _ => rfl))
    (st_ss_cons (st_setIx C (s_orV C (s_ix C (e_var C rfl (by kernel_rfl)) (e_str (by kernel_rfl)) (fun _ _ => rfl)) (pe_one (e_eq C (e_var C rfl (by kernel_rfl)) (s_lst s_nil (ownAll rfl) (Nat.le_of_ble_eq_true rfl))))) (e_var C rfl (by kernel_rfl)) (e_str (by kernel_rfl)) (fun _ => rfl) rfl rfl rfl)
    st_ss_nil)) st_ss_nil)
    st_ss_nil)
theorem body160 (C : Cm D X cx160 (2 * n + 1) F) (hp : PassesOwn (model X.prog X.w) X.A X.env X.xe) (has : ∀ i, F.as i = true) (hx : Fx X) : PSs X (defBody st160) (tSs D F (IR.callD D.g n) IR.fn160.body) :=
    (st_ss_cons (st_asg (s_ix C (s_ix C (e_var C rfl (by kernel_rfl)) (e_str (by kernel_rfl)) (fun _ _ => rfl)) (e_var C rfl (by kernel_rfl)) (fun _ _ => rfl)) (t_var C rfl (loc_of (by kernel_rfl)) (sto_of (by kernel_rfl)) (has _)) rfl rfl rfl)
    (st_ss_cons (st_if (t_w (s_orT (s_notT (t_of C (s_call C A.A157.up (C.gl (by kernel_rfl)) h.m157 (s_cons (e_var C rfl (by kernel_rfl)) (s_cons (e_var C rfl (by kernel_rfl)) (s_cons (e_var C rfl (by kernel_rfl)) s_nil rfl) rfl) rfl) (ownAll rfl) rfl rfl rfl rfl))) (w_or1 (t_ge C (e_var C rfl (by kernel_rfl)) (e_var C rfl (by kernel_rfl)))))) (st_ss_cons (st_ret e_int)
    st_ss_nil) st_ss_nil)
    (st_ss_cons (st_setIx C (e_var C rfl (by kernel_rfl)) (s_ix C (e_var C rfl (by kernel_rfl)) (e_str (by kernel_rfl)) (fun _ _ => rfl)) (e_var C rfl (by kernel_rfl)) (fun _ => rfl) rfl rfl rfl)
    (st_ss_cons (st_ret (e_sub C (e_var C rfl (by kernel_rfl)) (e_var C rfl (by kernel_rfl))))
    st_ss_nil))))
theorem body159 (C : Cm D X cx159 (2 * n + 1) F) (hp : PassesOwn (model X.prog X.w) X.A X.env X.xe) (has : ∀ i, F.as i = true) (hx : Fx X) : PSs X (defBody st159) (tSs D F (IR.callD D.g n) IR.fn159.body) :=
    (st_ss_cons (st_ret (e_tuple C (by kernel_rfl) h.m_tuple (s_lc0 C (s_over C (s_call C A.A151.up (C.gl (by kernel_rfl)) h.m151 (s_cons (e_var C rfl (by kernel_rfl)) s_nil rfl) (ownAll rfl) rfl rfl rfl rfl)) (blkOk_by (own := [("_law_part_here", 2)]) (by decide +kernel)) rfl (fun s1 H1 A1 cl1 fp1 => have C1 := C.blk rfl (s := s1) (H := H1) (cl := cl1) (A := A1) (fp := fp1); (t_var C1 rfl (loc_of (by kernel_rfl)) (sto_of (by kernel_rfl)) rfl)) (fun s1 H1 A1 cl1 fp1 => have C1 := C.blk rfl (s := s1) (H := H1) (cl := cl1) (A := A1) (fp := fp1); (s_ife (t_of C1 (s_call C1 A.A157.up (C1.gl (by kernel_rfl)) h.m157 (s_cons (e_var C1 rfl (by kernel_rfl)) (s_cons (e_var C1 rfl (by kernel_rfl)) (s_cons (e_var C1 rfl (by kernel_rfl)) s_nil rfl) rfl) rfl) (ownAll rfl) rfl rfl rfl rfl)) (s_ix C1 (s_ix C1 (e_var C1 rfl (by kernel_rfl)) (e_str (by kernel_rfl)) (fun _ _ => rfl)) (e_var C1 rfl (by kernel_rfl)) (fun _ _ => rfl)) e_non)) (fun _ => rfl)) rfl))
    st_ss_nil)
theorem body137 (C : Cm D X cx137 (2 * n + 1) F) (hp : PassesOwn (model X.prog X.w) X.A X.env X.xe) (has : ∀ i, F.as i = true) (hx : Fx X) : PSs X (defBody st137) (tSs D F (IR.callD D.g n) IR.fn137.body) :=
    (st_ss_cons (st_asg (s_ix C (e_var C rfl (by kernel_rfl)) (e_str (by kernel_rfl)) (fun _ _ => rfl)) (t_var C rfl (loc_of (by kernel_rfl)) (sto_of (by kernel_rfl)) (has _)) rfl rfl rfl)
    (st_ss_cons (st_walkD (IT := IR.It.items) kd_items (fun _ => it_items) (.ix (.var _) (.c _)) (pi_items (s_ix C (e_var C rfl (by kernel_rfl)) (e_str (by kernel_rfl)) (fun _ _ => rfl)) rfl rfl) hp C (t_tup C (t_cons C rfl (loc_of (by kernel_rfl)) (sto_of (by kernel_rfl)) (has _) (t_cons C rfl (loc_of (by kernel_rfl)) (sto_of (by kernel_rfl)) (has _) t_nil rfl) rfl) rfl rfl) (st_ss_cons (st_asg (s_call C A.A159.up (C.gl (by kernel_rfl)) h.m159 (s_cons (e_var C rfl (by kernel_rfl)) (s_cons (e_var C rfl (by kernel_rfl)) s_nil rfl) rfl) (ownAll rfl) rfl rfl rfl rfl) (t_var C rfl (loc_of (by kernel_rfl)) (sto_of (by kernel_rfl)) (has _)) rfl rfl rfl)
    (st_ss_cons (st_if (t_w (s_orT (t_ne C (s_call C A.A173.up (C.gl (by kernel_rfl)) h.m173 (s_cons (e_var C rfl (by kernel_rfl)) (s_cons (e_var C rfl (by kernel_rfl)) s_nil rfl) rfl) (ownAll rfl) rfl rfl rfl rfl) (e_var C rfl (by kernel_rfl))) (w_or1 (t_ne C (s_call C A.A169.up (C.gl (by kernel_rfl)) h.m169 (s_cons (e_var C rfl (by kernel_rfl)) (s_cons (e_var C rfl (by kernel_rfl)) s_nil rfl) rfl) (ownAll rfl) rfl rfl rfl rfl) (s_ix C (e_var C rfl (by kernel_rfl)) (e_str (by kernel_rfl)) (fun _ _ => rfl)))))) (st_ss_cons (st_ret e_bl)
    st_ss_nil) st_ss_nil)
    st_ss_nil)) (fun _ => rfl))
    (st_ss_cons (st_ret (s_andV C (e_eq C (s_meth C (kn h A) rfl (e_var C rfl (by kernel_rfl)) s_nil (ownAll rfl) rfl rfl rfl rfl (fun _ => rfl) (fun e r z => by cases z)) (s_call C A.A149.up (C.gl (by kernel_rfl)) h.m149 (s_cons (e_var C rfl (by kernel_rfl)) s_nil rfl) (ownAll rfl) rfl rfl rfl rfl)) (pe_one (e_eq C (s_meth C (kn h A) rfl (e_var C rfl (by kernel_rfl)) s_nil (ownAll rfl) rfl rfl rfl rfl (fun _ => rfl) (fun e r z => by cases z)) (s_ix C (e_var C rfl (by kernel_rfl)) (e_str (by kernel_rfl)) (fun _ _ => rfl))))))
    st_ss_nil)))
theorem body246 (C : Cm D X cx246 (2 * n + 1) F) (hp : PassesOwn (model X.prog X.w) X.A X.env X.xe) (has : ∀ i, F.as i = true) (hx : Fx X) : PSs X (defBody st246) (tSs D F (IR.callD D.g n) IR.fn246.body) :=
    (st_ss_cons (st_if (s_notT (t_of C (e_isi1 C rfl boot_tuple (by kernel_rfl) h.m_isinstance (by kernel_rfl) h.m_tuple (e_var C rfl (by kernel_rfl)) rfl (by decide) rfl))) (st_ss_cons (st_ret e_bl)
    st_ss_nil) st_ss_nil)
    (st_ss_cons (st_for hp C (s_over C (e_var C rfl (by kernel_rfl))) (t_var C rfl (loc_of (by kernel_rfl)) (sto_of (by kernel_rfl)) (has _)) (st_ss_cons (st_if (t_w (s_orT (s_notT (t_of C (e_isi1 C rfl boot_tuple (by kernel_rfl) h.m_isinstance (by kernel_rfl) h.m_tuple (e_var C rfl (by kernel_rfl)) rfl (by decide) rfl))) (w_or1 (t_ne C (s_lc1 C (s_over C (e_var C rfl (by kernel_rfl))) (blkOk_by (own := [("_law_entry", 2)]) (by decide +kernel)) rfl (fun s1 H1 A1 cl1 fp1 => have C1 := C.blk rfl (s := s1) (H := H1) (cl := cl1) (A := A1) (fp := fp1); (t_var C1 rfl (loc_of (by kernel_rfl)) (sto_of (by kernel_rfl)) rfl)) (fun s1 H1 A1 cl1 fp1 => have C1 := C.blk rfl (s := s1) (H := H1) (cl := cl1) (A := A1) (fp := fp1); (s_notT (t_of C1 (e_isi1 C1 rfl boot_tuple (by kernel_rfl) h.m_isinstance (by kernel_rfl) h.m_tuple (e_var C1 rfl (by kernel_rfl)) rfl (by decide) rfl)))) (fun s1 H1 A1 cl1 fp1 => have C1 := C.blk rfl (s := s1) (H := H1) (cl := cl1) (A := A1) (fp := fp1); (e_var C1 rfl (by kernel_rfl))) (fun _ => rfl)) (s_lst s_nil (ownAll rfl) (Nat.le_of_ble_eq_true rfl)))))) (st_ss_cons (st_ret e_bl)
    st_ss_nil) st_ss_nil)
    (st_ss_cons (st_asg (e_add C (s_lc0 C (s_over C (e_var C rfl (by kernel_rfl))) (blkOk_by (own := [("_law_entry", 2)]) (by decide +kernel)) rfl (fun s1 H1 A1 cl1 fp1 => have C1 := C.blk rfl (s := s1) (H := H1) (cl := cl1) (A := A1) (fp := fp1); (t_var C1 rfl (loc_of (by kernel_rfl)) (sto_of (by kernel_rfl)) rfl)) (fun s1 H1 A1 cl1 fp1 => have C1 := C.blk rfl (s := s1) (H := H1) (cl := cl1) (A := A1) (fp := fp1); (s_ix C1 (e_var C1 rfl (by kernel_rfl)) e_int (fun _ _ => rfl))) (fun _ => rfl)) (s_lc0 C (s_over C (e_var C rfl (by kernel_rfl))) (blkOk_by (own := [("_law_entry", 2)]) (by decide +kernel)) rfl (fun s1 H1 A1 cl1 fp1 => have C1 := C.blk rfl (s := s1) (H := H1) (cl := cl1) (A := A1) (fp := fp1); (t_var C1 rfl (loc_of (by kernel_rfl)) (sto_of (by kernel_rfl)) rfl)) (fun s1 H1 A1 cl1 fp1 => have C1 := C.blk rfl (s := s1) (H := H1) (cl := cl1) (A := A1) (fp := fp1); (s_ix C1 (e_var C1 rfl (by kernel_rfl)) e_int (fun _ _ => rfl))) (fun _ => rfl))) (t_var C rfl (loc_of (by kernel_rfl)) (sto_of (by kernel_rfl)) (has _)) rfl rfl rfl)
    (st_ss_cons (st_if (t_ne C (s_lc1 C (s_over C (e_var C rfl (by kernel_rfl))) (blkOk_by (own := [("_law_number", 4)]) (by decide +kernel)) rfl (fun s1 H1 A1 cl1 fp1 => have C1 := C.blk rfl (s := s1) (H := H1) (cl := cl1) (A := A1) (fp := fp1); (t_var C1 rfl (loc_of (by kernel_rfl)) (sto_of (by kernel_rfl)) rfl)) (fun s1 H1 A1 cl1 fp1 => have C1 := C.blk rfl (s := s1) (H := H1) (cl := cl1) (A := A1) (fp := fp1); (t_w (s_orT (t_of C1 (e_isi1 C1 rfl boot_bool (by kernel_rfl) h.m_isinstance (by kernel_rfl) h.m_bool (e_var C1 rfl (by kernel_rfl)) rfl (by decide) rfl)) (w_or1 (s_notT (t_of C1 (e_isi1 C1 rfl boot_int (by kernel_rfl) h.m_isinstance (by kernel_rfl) h.m_int (e_var C1 rfl (by kernel_rfl)) rfl (by decide) rfl))))))) (fun s1 H1 A1 cl1 fp1 => have C1 := C.blk rfl (s := s1) (H := H1) (cl := cl1) (A := A1) (fp := fp1); (e_var C1 rfl (by kernel_rfl))) (fun _ => rfl)) (s_lst s_nil (ownAll rfl) (Nat.le_of_ble_eq_true rfl))) (st_ss_cons (st_ret e_bl)
    st_ss_nil) st_ss_nil)
    st_ss_nil))) (fun _ => rfl))
    (st_ss_cons (st_ret e_bl)
    st_ss_nil)))
theorem body245 (C : Cm D X cx245 (2 * n + 1) F) (hp : PassesOwn (model X.prog X.w) X.A X.env X.xe) (has : ∀ i, F.as i = true) (hx : Fx X) : PSs X (defBody st245) (tSs D F (IR.callD D.g n) IR.fn245.body) :=
    (st_ss_cons (st_asg (e_disp (pd_cons (by kernel_rfl) (e_var C rfl (by kernel_rfl)) (pd_cons (by kernel_rfl) (e_var C rfl (by kernel_rfl)) pd_nil)) (by decide +kernel) (by decide +kernel) (by decide +kernel)) (t_var C rfl (loc_of (by kernel_rfl)) (sto_of (by kernel_rfl)) (has _)) rfl rfl rfl)
    (st_ss_cons (st_ret (e_tuple C (by kernel_rfl) h.m_tuple (s_lc0 C (s_rg1 (C.gl (by kernel_rfl)) (C.mgn h.m_range) (s_cons (e_add C (e_len C (by kernel_rfl) h.m_len (e_var C rfl (by kernel_rfl)) rfl) e_int) s_nil rfl) rfl) (blkOk_by (own := [("_law_part_here", 4)]) (by decide +kernel)) rfl (fun s1 H1 A1 cl1 fp1 => have C1 := C.blk rfl (s := s1) (H := H1) (cl := cl1) (A := A1) (fp := fp1); (t_var C1 rfl (loc_of (by kernel_rfl)) (sto_of (by kernel_rfl)) rfl)) (fun s1 H1 A1 cl1 fp1 => have C1 := C.blk rfl (s := s1) (H := H1) (cl := cl1) (A := A1) (fp := fp1); (s_call C1 A.A144.up (C1.gl (by kernel_rfl)) h.m144 (s_cons (e_var C1 rfl (by kernel_rfl)) (s_cons (e_var C1 rfl (by kernel_rfl)) (s_cons (e_var C1 rfl (by kernel_rfl)) (s_cons (s_call C1 A.A149.up (C1.gl (by kernel_rfl)) h.m149 (s_cons (e_var C1 rfl (by kernel_rfl)) s_nil rfl) (ownAll rfl) rfl rfl rfl rfl) s_nil rfl) rfl) rfl) rfl) (ownAll rfl) rfl rfl rfl rfl)) (fun _ => rfl)) rfl))
    st_ss_nil))
theorem body247 (C : Cm D X cx247 (2 * n + 1) F) (hp : PassesOwn (model X.prog X.w) X.A X.env X.xe) (has : ∀ i, F.as i = true) (hx : Fx X) : PSs X (defBody st247) (tSs D F (IR.callD D.g n) IR.fn247.body) :=
    (st_ss_cons (st_asg (s_call C A.A162.up (C.gl (by kernel_rfl)) h.m162 (s_cons (e_var C rfl (by kernel_rfl)) s_nil rfl) (ownAll rfl) rfl rfl rfl rfl) (t_var C rfl (loc_of (by kernel_rfl)) (sto_of (by kernel_rfl)) (has _)) rfl rfl rfl)
    (st_ss_cons (st_asg (s_lst s_nil (ownAll rfl) (Nat.le_of_ble_eq_true rfl)) (t_var C rfl (loc_of (by kernel_rfl)) (sto_of (by kernel_rfl)) (has _)) rfl rfl rfl)
    (st_ss_cons (st_for hp C (s_rg1 (C.gl (by kernel_rfl)) (C.mgn h.m_range) (s_cons (e_add C e_int (s_call C A.A142.up (C.gl (by kernel_rfl)) h.m142 (s_cons (e_var C rfl (by kernel_rfl)) (s_cons e_int s_nil rfl) rfl) (ownAll rfl) rfl rfl rfl rfl)) s_nil rfl) rfl) (t_var C rfl (loc_of (by kernel_rfl)) (sto_of (by kernel_rfl)) (has _)) (st_ss_cons (st_if (s_notT (t_of C (s_call C A.A163.up (C.gl (by kernel_rfl)) h.m163 (s_cons (e_var C rfl (by kernel_rfl)) (s_cons (e_var C rfl (by kernel_rfl)) (s_cons (s_call C A.A142.up (C.gl (by kernel_rfl)) h.m142 (s_cons (e_var C rfl (by kernel_rfl)) (s_cons (s_ix C (s_lst (s_cons e_int (s_cons e_int s_nil rfl) rfl) (ownAll rfl) (Nat.le_of_ble_eq_true rfl)) (e_intT C (by kernel_rfl) h.m_int (e_eq C (s_call C A.A142.up (C.gl (by kernel_rfl)) h.m142 (s_cons (e_var C rfl (by kernel_rfl)) (s_cons e_int s_nil rfl) rfl) (ownAll rfl) rfl rfl rfl rfl) e_int) rfl) (fun _ _ => rfl)) s_nil rfl) rfl) (ownAll rfl) rfl rfl rfl rfl) s_nil rfl) rfl) rfl) (ownAll rfl) rfl rfl rfl rfl))) (st_ss_cons (st_ret e_bl)
    st_ss_nil) st_ss_nil)
    (st_ss_cons (st_asg (s_call C A.A155.up (C.gl (by kernel_rfl)) h.m155 (s_cons (e_var C rfl (by kernel_rfl)) (s_cons (s_ix C (e_var C rfl (by kernel_rfl)) (e_str (by kernel_rfl)) (fun _ _ => rfl)) s_nil rfl) rfl) (ownAll rfl) rfl rfl rfl rfl) (t_var C rfl (loc_of (by kernel_rfl)) (sto_of (by kernel_rfl)) (has _)) rfl rfl rfl)
    (st_ss_cons (st_asg (s_call C A.A140.up (C.gl (by kernel_rfl)) h.m140 (s_cons (e_var C rfl (by kernel_rfl)) s_nil rfl) (ownAll rfl) rfl rfl rfl rfl) (t_var C rfl (loc_of (by kernel_rfl)) (sto_of (by kernel_rfl)) (has _)) rfl rfl rfl)
    (st_ss_cons (st_expr (e_append C (e_var C rfl (by kernel_rfl)) (s_tup (s_cons (e_var C rfl (by kernel_rfl)) (s_cons (e_var C rfl (by kernel_rfl)) s_nil rfl) rfl) (ownAll rfl) (Nat.le_of_ble_eq_true rfl)) rfl rfl rfl) rfl)
    (st_ss_cons (st_if (t_w (s_andT (t_lt C (e_var C rfl (by kernel_rfl)) e_int) (w_and1 (s_notT (t_of C (s_call C A.A138.up (C.gl (by kernel_rfl)) h.m138 (s_cons (e_var C rfl (by kernel_rfl)) (s_cons (e_var C rfl (by kernel_rfl)) (s_cons (s_ix C (s_lst (s_cons (e_str (by kernel_rfl)) (s_cons (e_str (by kernel_rfl)) (s_cons (e_str (by kernel_rfl)) s_nil rfl) rfl) rfl) (ownAll rfl) (Nat.le_of_ble_eq_true rfl)) (e_var C rfl (by kernel_rfl)) (fun _ _ => rfl)) s_nil rfl) rfl) rfl) (ownAll rfl) rfl rfl rfl rfl)))))) (st_ss_cons (st_ret e_bl)
    st_ss_nil) st_ss_nil)
    (st_ss_cons (st_for hp C (s_over C (e_var C rfl (by kernel_rfl))) (t_tup C (t_cons C rfl (loc_of (by kernel_rfl)) (sto_of (by kernel_rfl)) (has _) (t_cons C rfl (loc_of (by kernel_rfl)) (sto_of (by kernel_rfl)) (has _) t_nil rfl) rfl) rfl rfl) (st_ss_cons (st_asg (e_callk C A.A249.up h.k249_store_rule_cuts (by kernel_rfl) h.m249 (k_cons (s_ix C (e_var C rfl (by kernel_rfl)) (e_str (by kernel_rfl)) (fun _ _ => rfl)) (k_cons (e_var C rfl (by kernel_rfl)) (k_cons (e_var C rfl (by kernel_rfl)) k_nil))) (ownAll rfl) rfl rfl rfl rfl rfl rfl) (t_var C rfl (loc_of (by kernel_rfl)) (sto_of (by kernel_rfl)) (has _)) rfl rfl rfl)
    (st_ss_cons (st_if (t_w (s_orT (t_ne C (e_var C rfl (by kernel_rfl)) (s_call C A.A245.up (C.gl (by kernel_rfl)) h.m245 (s_cons (e_var C rfl (by kernel_rfl)) (s_cons (e_var C rfl (by kernel_rfl)) (s_cons (e_var C rfl (by kernel_rfl)) s_nil rfl) rfl) rfl) (ownAll rfl) rfl rfl rfl rfl)) (w_or1 (s_notT (t_of C (s_call C A.A246.up (C.gl (by kernel_rfl)) h.m246 (s_cons (e_var C rfl (by kernel_rfl)) s_nil rfl) (ownAll rfl) rfl rfl rfl rfl)))))) (st_ss_cons (st_ret e_bl)
    st_ss_nil) st_ss_nil)
    st_ss_nil)) (fun _ => rfl))
    st_ss_nil)))))) (fun _ => rfl))
    (st_ss_cons (st_ret (s_call C A.A137.up (C.gl (by kernel_rfl)) h.m137 (s_cons (e_var C rfl (by kernel_rfl)) s_nil rfl) (ownAll rfl) rfl rfl rfl rfl))
    st_ss_nil))))
theorem body248 (C : Cm D X cx248 (2 * n + 1) F) (hp : PassesOwn (model X.prog X.w) X.A X.env X.xe) (has : ∀ i, F.as i = true) (hx : Fx X) : PSs X (defBody st248) (tSs D F (IR.callD D.g n) IR.fn248.body) :=
    (st_ss_cons (st_for hp C (s_over C (e_add C (s_lst (s_cons (s_call C A.A139.up (C.gl (by kernel_rfl)) h.m139 (s_cons (e_var C rfl (by kernel_rfl)) (s_cons e_int s_nil rfl) rfl) (ownAll rfl) rfl rfl rfl rfl) s_nil rfl) (ownAll rfl) (Nat.le_of_ble_eq_true rfl)) (e_sl11 C (e_var C rfl (by kernel_rfl)) e_int e_int))) (t_var C rfl (loc_of (by kernel_rfl)) (sto_of (by kernel_rfl)) (has _)) (st_ss_cons (st_if (s_notT (t_of C (s_call C A.A247.up (C.gl (by kernel_rfl)) h.m247 (s_cons (s_call C A.A141.up (C.gl (by kernel_rfl)) h.m141 (s_cons (e_var C rfl (by kernel_rfl)) s_nil rfl) (ownAll rfl) rfl rfl rfl rfl) s_nil rfl) (ownAll rfl) rfl rfl rfl rfl))) (st_ss_cons (st_ret e_bl)
    st_ss_nil) st_ss_nil)
    st_ss_nil) (fun _ => rfl))
    (st_ss_cons (st_ret e_bl)
    st_ss_nil))
end
theorem all {D : Wd} (h : Hd D) : ∀ n, All h n
  | 0 => ⟨at0 h.a98 h.F98.kp rfl h.b98, at0 h.a33 h.F33.kp rfl h.b33, at0 h.a42 h.F42.kp rfl h.b42, at0 h.a178 h.F178.kp rfl h.b178, at0 h.a133 h.F133.kp rfl h.b133, at0 h.a171 h.F171.kp rfl h.b171, at0 h.a165 h.F165.kp rfl h.b165, at0 h.a169 h.F169.kp rfl h.b169, at0 h.a173 h.F173.kp rfl h.b173, at0 h.a249 h.F249.kp rfl h.b249, at0 h.a71 h.F71.kp rfl h.b71, at0 h.a75 h.F75.kp rfl h.b75, at0 h.a79 h.F79.kp rfl h.b79, at0 h.a73 h.F73.kp rfl h.b73, at0 h.a104 h.F104.kp rfl h.b104, at0 h.a81 h.F81.kp rfl h.b81, at0 h.a77 h.F77.kp rfl h.b77, at0 h.a78 h.F78.kp rfl h.b78, at0 h.a76 h.F76.kp rfl h.b76, at0 h.a134 h.F134.kp rfl h.b134, at0 h.a136 h.F136.kp rfl h.b136, at0 h.a135 h.F135.kp rfl h.b135, at0 h.a139 h.F139.kp rfl h.b139, at0 h.a141 h.F141.kp rfl h.b141, at0 h.a142 h.F142.kp rfl h.b142, at0 h.a146 h.F146.kp rfl h.b146, at0 h.a147 h.F147.kp rfl h.b147, at0 h.a155 h.F155.kp rfl h.b155, at0 h.a140 h.F140.kp rfl h.b140, at0 h.a145 h.F145.kp rfl h.b145, at0 h.a150 h.F150.kp rfl h.b150, at0 h.a148 h.F148.kp rfl h.b148, at0 h.a162 h.F162.kp rfl h.b162, at0 h.a149 h.F149.kp rfl h.b149, at0 h.a152 h.F152.kp rfl h.b152, at0 h.a143 h.F143.kp rfl h.b143, at0 h.a163 h.F163.kp rfl h.b163, at0 h.a138 h.F138.kp rfl h.b138, at0 h.a144 h.F144.kp rfl h.b144, at0 h.a157 h.F157.kp rfl h.b157, at0 h.a151 h.F151.kp rfl h.b151, at0 h.a156 h.F156.kp rfl h.b156, at0 h.a160 h.F160.kp rfl h.b160, at0 h.a159 h.F159.kp rfl h.b159, at0 h.a137 h.F137.kp rfl h.b137, at0 h.a246 h.F246.kp rfl h.b246, at0 h.a245 h.F245.kp rfl h.b245, at0 h.a247 h.F247.kp rfl h.b247, at0 h.a248 h.F248.kp rfl h.b248⟩
  | n + 1 => ⟨at1 h.F98 sc98 h.a98 rfl h.b98 (by rw [h.g]; rfl) rfl rfl fun C hp has hx => body98 h (all h n) C hp has hx,
    at1 h.F33 sc33 h.a33 rfl h.b33 (by rw [h.g]; rfl) rfl rfl fun C hp has hx => body33 h (all h n) C hp has hx,
    at1 h.F42 sc42 h.a42 rfl h.b42 (by rw [h.g]; rfl) rfl rfl fun C hp has hx => body42 h (all h n) C hp has hx,
    at1 h.F178 sc178 h.a178 rfl h.b178 (by rw [h.g]; rfl) rfl rfl fun C hp has hx => body178 h (all h n) C hp has hx,
    at1 h.F133 sc133 h.a133 rfl h.b133 (by rw [h.g]; rfl) rfl rfl fun C hp has hx => body133 h (all h n) C hp has hx,
    at1 h.F171 sc171 h.a171 rfl h.b171 (by rw [h.g]; rfl) rfl rfl fun C hp has hx => body171 h (all h n) C hp has hx,
    at1 h.F165 sc165 h.a165 rfl h.b165 (by rw [h.g]; rfl) rfl rfl fun C hp has hx => body165 h (all h n) C hp has hx,
    at1 h.F169 sc169 h.a169 rfl h.b169 (by rw [h.g]; rfl) rfl rfl fun C hp has hx => body169 h (all h n) C hp has hx,
    at1 h.F173 sc173 h.a173 rfl h.b173 (by rw [h.g]; rfl) rfl rfl fun C hp has hx => body173 h (all h n) C hp has hx,
    at1 h.F249 sc249 h.a249 rfl h.b249 (by rw [h.g]; rfl) rfl rfl fun C hp has hx => body249 h (all h n) C hp has hx,
    at1 h.F71 sc71 h.a71 rfl h.b71 (by rw [h.g]; rfl) rfl rfl fun C hp has hx => body71 h (all h n) C hp has hx,
    at1 h.F75 sc75 h.a75 rfl h.b75 (by rw [h.g]; rfl) rfl rfl fun C hp has hx => body75 h (all h n) C hp has hx,
    at1 h.F79 sc79 h.a79 rfl h.b79 (by rw [h.g]; rfl) rfl rfl fun C hp has hx => body79 h (all h n) C hp has hx,
    at1 h.F73 sc73 h.a73 rfl h.b73 (by rw [h.g]; rfl) rfl rfl fun C hp has hx => body73 h (all h n) C hp has hx,
    at1 h.F104 sc104 h.a104 rfl h.b104 (by rw [h.g]; rfl) rfl rfl fun C hp has hx => body104 h (all h n) C hp has hx,
    at1 h.F81 sc81 h.a81 rfl h.b81 (by rw [h.g]; rfl) rfl rfl fun C hp has hx => body81 h (all h n) C hp has hx,
    at1 h.F77 sc77 h.a77 rfl h.b77 (by rw [h.g]; rfl) rfl rfl fun C hp has hx => body77 h (all h n) C hp has hx,
    at1 h.F78 sc78 h.a78 rfl h.b78 (by rw [h.g]; rfl) rfl rfl fun C hp has hx => body78 h (all h n) C hp has hx,
    at1 h.F76 sc76 h.a76 rfl h.b76 (by rw [h.g]; rfl) rfl rfl fun C hp has hx => body76 h (all h n) C hp has hx,
    at1 h.F134 sc134 h.a134 rfl h.b134 (by rw [h.g]; rfl) rfl rfl fun C hp has hx => body134 h (all h n) C hp has hx,
    at1 h.F136 sc136 h.a136 rfl h.b136 (by rw [h.g]; rfl) rfl rfl fun C hp has hx => body136 h (all h n) C hp has hx,
    at1 h.F135 sc135 h.a135 rfl h.b135 (by rw [h.g]; rfl) rfl rfl fun C hp has hx => body135 h (all h n) C hp has hx,
    at1 h.F139 sc139 h.a139 rfl h.b139 (by rw [h.g]; rfl) rfl rfl fun C hp has hx => body139 h (all h n) C hp has hx,
    at1 h.F141 sc141 h.a141 rfl h.b141 (by rw [h.g]; rfl) rfl rfl fun C hp has hx => body141 h (all h n) C hp has hx,
    at1 h.F142 sc142 h.a142 rfl h.b142 (by rw [h.g]; rfl) rfl rfl fun C hp has hx => body142 h (all h n) C hp has hx,
    at1 h.F146 sc146 h.a146 rfl h.b146 (by rw [h.g]; rfl) rfl rfl fun C hp has hx => body146 h (all h n) C hp has hx,
    at1 h.F147 sc147 h.a147 rfl h.b147 (by rw [h.g]; rfl) rfl rfl fun C hp has hx => body147 h (all h n) C hp has hx,
    at1 h.F155 sc155 h.a155 rfl h.b155 (by rw [h.g]; rfl) rfl rfl fun C hp has hx => body155 h (all h n) C hp has hx,
    at1 h.F140 sc140 h.a140 rfl h.b140 (by rw [h.g]; rfl) rfl rfl fun C hp has hx => body140 h (all h n) C hp has hx,
    at1 h.F145 sc145 h.a145 rfl h.b145 (by rw [h.g]; rfl) rfl rfl fun C hp has hx => body145 h (all h n) C hp has hx,
    at1 h.F150 sc150 h.a150 rfl h.b150 (by rw [h.g]; rfl) rfl rfl fun C hp has hx => body150 h (all h n) C hp has hx,
    at1 h.F148 sc148 h.a148 rfl h.b148 (by rw [h.g]; rfl) rfl rfl fun C hp has hx => body148 h (all h n) C hp has hx,
    at1 h.F162 sc162 h.a162 rfl h.b162 (by rw [h.g]; rfl) rfl rfl fun C hp has hx => body162 h (all h n) C hp has hx,
    at1 h.F149 sc149 h.a149 rfl h.b149 (by rw [h.g]; rfl) rfl rfl fun C hp has hx => body149 h (all h n) C hp has hx,
    at1 h.F152 sc152 h.a152 rfl h.b152 (by rw [h.g]; rfl) rfl rfl fun C hp has hx => body152 h (all h n) C hp has hx,
    at1 h.F143 sc143 h.a143 rfl h.b143 (by rw [h.g]; rfl) rfl rfl fun C hp has hx => body143 h (all h n) C hp has hx,
    at1 h.F163 sc163 h.a163 rfl h.b163 (by rw [h.g]; rfl) rfl rfl fun C hp has hx => body163 h (all h n) C hp has hx,
    at1 h.F138 sc138 h.a138 rfl h.b138 (by rw [h.g]; rfl) rfl rfl fun C hp has hx => body138 h (all h n) C hp has hx,
    at1 h.F144 sc144 h.a144 rfl h.b144 (by rw [h.g]; rfl) rfl rfl fun C hp has hx => body144 h (all h n) C hp has hx,
    at1 h.F157 sc157 h.a157 rfl h.b157 (by rw [h.g]; rfl) rfl rfl fun C hp has hx => body157 h (all h n) C hp has hx,
    at1 h.F151 sc151 h.a151 rfl h.b151 (by rw [h.g]; rfl) rfl rfl fun C hp has hx => body151 h (all h n) C hp has hx,
    at1 h.F156 sc156 h.a156 rfl h.b156 (by rw [h.g]; rfl) rfl rfl fun C hp has hx => body156 h (all h n) C hp has hx,
    at1 h.F160 sc160 h.a160 rfl h.b160 (by rw [h.g]; rfl) rfl rfl fun C hp has hx => body160 h (all h n) C hp has hx,
    at1 h.F159 sc159 h.a159 rfl h.b159 (by rw [h.g]; rfl) rfl rfl fun C hp has hx => body159 h (all h n) C hp has hx,
    at1 h.F137 sc137 h.a137 rfl h.b137 (by rw [h.g]; rfl) rfl rfl fun C hp has hx => body137 h (all h n) C hp has hx,
    at1 h.F246 sc246 h.a246 rfl h.b246 (by rw [h.g]; rfl) rfl rfl fun C hp has hx => body246 h (all h n) C hp has hx,
    at1 h.F245 sc245 h.a245 rfl h.b245 (by rw [h.g]; rfl) rfl rfl fun C hp has hx => body245 h (all h n) C hp has hx,
    at1 h.F247 sc247 h.a247 rfl h.b247 (by rw [h.g]; rfl) rfl rfl fun C hp has hx => body247 h (all h n) C hp has hx,
    at1 h.F248 sc248 h.a248 rfl h.b248 (by rw [h.g]; rfl) rfl rfl fun C hp has hx => body248 h (all h n) C hp has hx⟩
end LW
namespace LW
open PySem PySem.Spec PyProof.Rows L2 IRS
def dd98 : He.DefD := ⟨("_wall", none), "_wall", "_wall", defArgs st98, defBody st98, defScope st98, [], []⟩
def dd33 : He.DefD := ⟨("key_of", none), "key_of", "key_of", defArgs st33, defBody st33, defScope st33, [], []⟩
def dd42 : He.DefD := ⟨("part_of", none), "part_of", "part_of", defArgs st42, defBody st42, defScope st42, [], []⟩
def dd178 : He.DefD := ⟨("stands", none), "stands", "stands", defArgs st178, defBody st178, defScope st178, [], []⟩
def dd133 : He.DefD := ⟨("LagList", some "__init__"), "__init__", "LagList.__init__", defArgs st133, defBody st133, defScope st133, [], []⟩
def dd171 : He.DefD := ⟨("list_of", none), "list_of", "list_of", defArgs st171, defBody st171, defScope st171, [], []⟩
def dd165 : He.DefD := ⟨("begin_list", none), "begin_list", "begin_list", defArgs st165, defBody st165, defScope st165, [.non], []⟩
def dd169 : He.DefD := ⟨("is_ready", none), "is_ready", "is_ready", defArgs st169, defBody st169, defScope st169, [], []⟩
def dd173 : He.DefD := ⟨("marks", none), "marks", "marks", defArgs st173, defBody st173, defScope st173, [], []⟩
def dd249 : He.DefD := ⟨("made_at_once", none), "made_at_once", "made_at_once", defArgs st249, defBody st249, defScope st249, [], []⟩
def dd71 : He.DefD := ⟨("Store", some "__init__"), "__init__", "Store.__init__", defArgs st71, defBody st71, defScope st71, [], []⟩
def dd75 : He.DefD := ⟨("Store", some "noted"), "noted", "Store.noted", defArgs st75, defBody st75, defScope st75, [], []⟩
def dd79 : He.DefD := ⟨("Store", some "put"), "put", "Store.put", defArgs st79, defBody st79, defScope st79, [], []⟩
def dd73 : He.DefD := ⟨("Store", some "drop"), "drop", "Store.drop", defArgs st73, defBody st73, defScope st73, [], []⟩
def dd104 : He.DefD := ⟨("Store", some "row_at"), "row_at", "Store.row_at", defArgs st104, defBody st104, defScope st104, [], []⟩
def dd81 : He.DefD := ⟨("Store", some "rows"), "rows", "Store.rows", defArgs st81, defBody st81, defScope st81, [], []⟩
def dd77 : He.DefD := ⟨("Store", some "now"), "now", "Store.now", defArgs st77, defBody st77, defScope st77, [], []⟩
def dd78 : He.DefD := ⟨("Store", some "oldest"), "oldest", "Store.oldest", defArgs st78, defBody st78, defScope st78, [], []⟩
def dd76 : He.DefD := ⟨("Store", some "notes"), "notes", "Store.notes", defArgs st76, defBody st76, defScope st76, [], []⟩
def dd134 : He.DefD := ⟨("Store", some "ask_moment"), "ask_moment", "Store.ask_moment", defArgs st134, defBody st134, defScope st134, [], []⟩
def dd136 : He.DefD := ⟨("Store", some "rows_at"), "rows_at", "Store.rows_at", defArgs st136, defBody st136, defScope st136, [], []⟩
def dd135 : He.DefD := ⟨("Store", some "forget"), "forget", "Store.forget", defArgs st135, defBody st135, defScope st135, [], []⟩
def dd139 : He.DefD := ⟨("_law_cell_at", none), "_law_cell_at", "_law_cell_at", defArgs st139, defBody st139, defScope st139, [], []⟩
def dd141 : He.DefD := ⟨("_law_deck", none), "_law_deck", "_law_deck", defArgs st141, defBody st141, defScope st141, [], []⟩
def dd142 : He.DefD := ⟨("_law_draw", none), "_law_draw", "_law_draw", defArgs st142, defBody st142, defScope st142, [], []⟩
def dd146 : He.DefD := ⟨("_law_names", none), "_law_names", "_law_names", defArgs st146, defBody st146, defScope st146, [], []⟩
def dd147 : He.DefD := ⟨("_law_near", none), "_law_near", "_law_near", defArgs st147, defBody st147, defScope st147, [], []⟩
def dd155 : He.DefD := ⟨("_law_rule", none), "_law_rule", "_law_rule", defArgs st155, defBody st155, defScope st155, [], []⟩
def dd140 : He.DefD := ⟨("_law_cuts", none), "_law_cuts", "_law_cuts", defArgs st140, defBody st140, defScope st140, [], []⟩
def dd145 : He.DefD := ⟨("_law_key", none), "_law_key", "_law_key", defArgs st145, defBody st145, defScope st145, [], []⟩
def dd150 : He.DefD := ⟨("_law_part", none), "_law_part", "_law_part", defArgs st150, defBody st150, defScope st150, [], []⟩
def dd148 : He.DefD := ⟨("_law_new_row", none), "_law_new_row", "_law_new_row", defArgs st148, defBody st148, defScope st148, [], []⟩
def dd162 : He.DefD := ⟨("_law_world", none), "_law_world", "_law_world", defArgs st162, defBody st162, defScope st162, [], []⟩
def dd149 : He.DefD := ⟨("_law_now", none), "_law_now", "_law_now", defArgs st149, defBody st149, defScope st149, [], []⟩
def dd152 : He.DefD := ⟨("_law_put", none), "_law_put", "_law_put", defArgs st152, defBody st152, defScope st152, [], []⟩
def dd143 : He.DefD := ⟨("_law_drop", none), "_law_drop", "_law_drop", defArgs st143, defBody st143, defScope st143, [], []⟩
def dd163 : He.DefD := ⟨("_law_writes", none), "_law_writes", "_law_writes", defArgs st163, defBody st163, defScope st163, [], []⟩
def dd138 : He.DefD := ⟨("_law_begin", none), "_law_begin", "_law_begin", defArgs st138, defBody st138, defScope st138, [], []⟩
def dd144 : He.DefD := ⟨("_law_entries", none), "_law_entries", "_law_entries", defArgs st144, defBody st144, defScope st144, [], []⟩
def dd157 : He.DefD := ⟨("_law_stands", none), "_law_stands", "_law_stands", defArgs st157, defBody st157, defScope st157, [], []⟩
def dd151 : He.DefD := ⟨("_law_parts", none), "_law_parts", "_law_parts", defArgs st151, defBody st151, defScope st151, [], []⟩
def dd156 : He.DefD := ⟨("_law_settled", none), "_law_settled", "_law_settled", defArgs st156, defBody st156, defScope st156, [], []⟩
def dd160 : He.DefD := ⟨("_law_took", none), "_law_took", "_law_took", defArgs st160, defBody st160, defScope st160, [], []⟩
def dd159 : He.DefD := ⟨("_law_told_marks", none), "_law_told_marks", "_law_told_marks", defArgs st159, defBody st159, defScope st159, [], []⟩
def dd137 : He.DefD := ⟨("_law_alike", none), "_law_alike", "_law_alike", defArgs st137, defBody st137, defScope st137, [], []⟩
def dd246 : He.DefD := ⟨("_law_plain", none), "_law_plain", "_law_plain", defArgs st246, defBody st246, defScope st246, [], []⟩
def dd245 : He.DefD := ⟨("_law_due", none), "_law_due", "_law_due", defArgs st245, defBody st245, defScope st245, [], []⟩
def dd247 : He.DefD := ⟨("_law_right", none), "_law_right", "_law_right", defArgs st247, defBody st247, defScope st247, [], []⟩
def dd248 : He.DefD := ⟨("law", none), "law", "law", defArgs st248, defBody st248, defScope st248, [], []⟩
def hfn : List He.DefD := [dd98, dd33, dd42, dd178, dd133, dd171, dd165, dd169, dd173, dd249, dd71, dd75, dd79, dd73, dd104, dd81, dd77, dd78, dd76, dd134, dd136, dd135, dd139, dd141, dd142, dd146, dd147, dd155, dd140, dd145, dd150, dd148, dd162, dd149, dd152, dd143, dd163, dd138, dd144, dd157, dd151, dd156, dd160, dd159, dd137, dd246, dd245, dd247, dd248]
def hfa : List He.Fa := [.cls "Store", .noat "Store" "fields_many", .noat "Store" "row_table", .noat "Store" "note_rows", .noat "Store" "moment_now", .noat "Store" "moment_oldest", .noat "Store" "list_table", .noat "Store" "lists_begun", .noat "Store" "name_told", .noat "Store" "number_told", .noat "Store" "rule_told", .noat "Store" "cuts_told", .noat "Store" "part_marks", .noat "Store" "part_entries", .noat "Store" "gone_to", .noat "Store" "gone_at", .noat "Store" "ready_now", .noat "Store" "unlike_now", .noat "Store" "fields_told", .noat "Store" "store_kept", .noat "Store" "page_kept", .noat "Store" "part", .noat "Store" "name", .noat "Store" "number", .mkr "Store", .glo "Store", .cls "LagList", .noat "LagList" "fields_many", .noat "LagList" "row_table", .noat "LagList" "note_rows", .noat "LagList" "moment_now", .noat "LagList" "moment_oldest", .noat "LagList" "list_table", .noat "LagList" "lists_begun", .noat "LagList" "name_told", .noat "LagList" "number_told", .noat "LagList" "rule_told", .noat "LagList" "cuts_told", .noat "LagList" "part_marks", .noat "LagList" "part_entries", .noat "LagList" "gone_to", .noat "LagList" "gone_at", .noat "LagList" "ready_now", .noat "LagList" "unlike_now", .noat "LagList" "fields_told", .noat "LagList" "store_kept", .noat "LagList" "page_kept", .noat "LagList" "part", .noat "LagList" "name", .noat "LagList" "number", .mkr "LagList", .glo "LagList", .glo "_wall", .glo "key_of", .glo "part_of", .glo "stands", .glo "list_of", .glo "begin_list", .glo "is_ready", .glo "marks", .glo "made_at_once", .meth "Store" "noted", .meth "Store" "put", .meth "Store" "drop", .meth "Store" "row_at", .meth "Store" "rows", .meth "Store" "now", .meth "Store" "oldest", .meth "Store" "notes", .meth "Store" "ask_moment", .meth "Store" "rows_at", .meth "Store" "forget", .glo "_law_cell_at", .glo "_law_deck", .glo "_law_draw", .glo "_law_names", .glo "_law_near", .glo "_law_rule", .glo "_law_cuts", .glo "_law_key", .glo "_law_part", .glo "_law_new_row", .glo "_law_world", .glo "_law_now", .glo "_law_put", .glo "_law_drop", .glo "_law_writes", .glo "_law_begin", .glo "_law_entries", .glo "_law_stands", .glo "_law_parts", .glo "_law_settled", .glo "_law_took", .glo "_law_told_marks", .glo "_law_alike", .glo "_law_plain", .glo "_law_due", .glo "_law_right", .glo "law", .free "bool", .free "dict", .free "enumerate", .free "int", .free "isinstance", .free "len", .free "list", .free "min", .free "range", .free "set", .free "sorted", .free "sum", .free "tuple"]
def nm0 : List Str := ["_wall", "LagError", "NoRow", "NoMoment", "TooOld", "NoList", "Taken", "key_of", "part_of", "stands", "LagList", "list_of", "begin_list", "is_ready", "marks", "made_at_once", "Store", "_law_cell_at", "_law_deck", "_law_draw", "_law_names", "_law_near", "_law_rule", "_law_cuts", "_law_key", "_law_part", "_law_new_row", "_law_world", "_law_now", "_law_put"]
def nm1 : List Str := ["_law_drop", "_law_writes", "_law_begin", "_law_entries", "_law_stands", "_law_parts", "_law_settled", "_law_took", "_law_told_marks", "_law_alike", "_law_plain", "_law_due", "_law_right"]
def names : List Str := nm0 ++ nm1
abbrev R : PySem.W.OpenRow := PySem.W.OpenLaw.row PySem.Challenge.rw_laglist_k25_made_at_once
abbrev hk : PySem.W.Hook := He.hookD 5 hfa hfn
def ob (s : PySem.W.SharedT) : He.AlD := He.obsDG 5 hfa hfn (HandSHeadRun.getT s)
theorem ob_eq (s : PySem.W.SharedT) : ob s = hk.obs s.abs := He.obsDG_eq (HandSHeadRun.getT_eq s)
theorem run (w : World) : HandSHeadRun.RunEq R (PySem.W.view R.prog [49]) hk ob 6500 names w := by
  intro os
  kernel_rfl
def wd (P : Program) (w : World) (K : PySem.W.Frag) (mg : Str → Option Value) (base : Heap) : Wd := ⟨P, w, ⟨K, nmA K, clf K, fun _ => none, FL⟩, mg, base, IR.g0⟩
theorem facts {P : Program} {w : World} {K : PySem.W.Frag} {hp : Heap} {mg : Str → Option Value} (X : K.In hp) (G : hp.Ns mainGlobals mg) (c : He.SaysD hfa hfn K) (base : Heap) : Nonempty (Hd (wd P w K mg base)) := by
  obtain ⟨fd98, F98⟩ := c.def_ 0 (d := dd98) rfl
  obtain ⟨fd33, F33⟩ := c.def_ 1 (d := dd33) rfl
  obtain ⟨fd42, F42⟩ := c.def_ 2 (d := dd42) rfl
  obtain ⟨fd178, F178⟩ := c.def_ 3 (d := dd178) rfl
  obtain ⟨fd133, F133⟩ := c.def_ 4 (d := dd133) rfl
  obtain ⟨fd171, F171⟩ := c.def_ 5 (d := dd171) rfl
  obtain ⟨fd165, F165⟩ := c.def_ 6 (d := dd165) rfl
  obtain ⟨fd169, F169⟩ := c.def_ 7 (d := dd169) rfl
  obtain ⟨fd173, F173⟩ := c.def_ 8 (d := dd173) rfl
  obtain ⟨fd249, F249⟩ := c.def_ 9 (d := dd249) rfl
  obtain ⟨fd71, F71⟩ := c.def_ 10 (d := dd71) rfl
  obtain ⟨fd75, F75⟩ := c.def_ 11 (d := dd75) rfl
  obtain ⟨fd79, F79⟩ := c.def_ 12 (d := dd79) rfl
  obtain ⟨fd73, F73⟩ := c.def_ 13 (d := dd73) rfl
  obtain ⟨fd104, F104⟩ := c.def_ 14 (d := dd104) rfl
  obtain ⟨fd81, F81⟩ := c.def_ 15 (d := dd81) rfl
  obtain ⟨fd77, F77⟩ := c.def_ 16 (d := dd77) rfl
  obtain ⟨fd78, F78⟩ := c.def_ 17 (d := dd78) rfl
  obtain ⟨fd76, F76⟩ := c.def_ 18 (d := dd76) rfl
  obtain ⟨fd134, F134⟩ := c.def_ 19 (d := dd134) rfl
  obtain ⟨fd136, F136⟩ := c.def_ 20 (d := dd136) rfl
  obtain ⟨fd135, F135⟩ := c.def_ 21 (d := dd135) rfl
  obtain ⟨fd139, F139⟩ := c.def_ 22 (d := dd139) rfl
  obtain ⟨fd141, F141⟩ := c.def_ 23 (d := dd141) rfl
  obtain ⟨fd142, F142⟩ := c.def_ 24 (d := dd142) rfl
  obtain ⟨fd146, F146⟩ := c.def_ 25 (d := dd146) rfl
  obtain ⟨fd147, F147⟩ := c.def_ 26 (d := dd147) rfl
  obtain ⟨fd155, F155⟩ := c.def_ 27 (d := dd155) rfl
  obtain ⟨fd140, F140⟩ := c.def_ 28 (d := dd140) rfl
  obtain ⟨fd145, F145⟩ := c.def_ 29 (d := dd145) rfl
  obtain ⟨fd150, F150⟩ := c.def_ 30 (d := dd150) rfl
  obtain ⟨fd148, F148⟩ := c.def_ 31 (d := dd148) rfl
  obtain ⟨fd162, F162⟩ := c.def_ 32 (d := dd162) rfl
  obtain ⟨fd149, F149⟩ := c.def_ 33 (d := dd149) rfl
  obtain ⟨fd152, F152⟩ := c.def_ 34 (d := dd152) rfl
  obtain ⟨fd143, F143⟩ := c.def_ 35 (d := dd143) rfl
  obtain ⟨fd163, F163⟩ := c.def_ 36 (d := dd163) rfl
  obtain ⟨fd138, F138⟩ := c.def_ 37 (d := dd138) rfl
  obtain ⟨fd144, F144⟩ := c.def_ 38 (d := dd144) rfl
  obtain ⟨fd157, F157⟩ := c.def_ 39 (d := dd157) rfl
  obtain ⟨fd151, F151⟩ := c.def_ 40 (d := dd151) rfl
  obtain ⟨fd156, F156⟩ := c.def_ 41 (d := dd156) rfl
  obtain ⟨fd160, F160⟩ := c.def_ 42 (d := dd160) rfl
  obtain ⟨fd159, F159⟩ := c.def_ 43 (d := dd159) rfl
  obtain ⟨fd137, F137⟩ := c.def_ 44 (d := dd137) rfl
  obtain ⟨fd246, F246⟩ := c.def_ 45 (d := dd246) rfl
  obtain ⟨fd245, F245⟩ := c.def_ 46 (d := dd245) rfl
  obtain ⟨fd247, F247⟩ := c.def_ 47 (d := dd247) rfl
  obtain ⟨fd248, F248⟩ := c.def_ 48 (d := dd248) rfl
  exact ⟨{
    g := rfl
    fA := fun _ => rfl
    fl := rfl
    cA := fun _ => rfl
    cl0 := He.cls_ok (c.fact 0 (f := .cls "Store") rfl)
    na0 := by
      intro n hn
      have hn : n ∈ FL := hn
      simp only [FL, List.mem_cons, List.not_mem_nil, or_false] at hn
      rcases hn with rfl | rfl | rfl | rfl | rfl | rfl | rfl | rfl | rfl | rfl | rfl | rfl | rfl | rfl | rfl | rfl | rfl | rfl | rfl | rfl | rfl | rfl | rfl
      · exact He.noat_ok (c.fact 1 (f := .noat "Store" "fields_many") rfl)
      · exact He.noat_ok (c.fact 2 (f := .noat "Store" "row_table") rfl)
      · exact He.noat_ok (c.fact 3 (f := .noat "Store" "note_rows") rfl)
      · exact He.noat_ok (c.fact 4 (f := .noat "Store" "moment_now") rfl)
      · exact He.noat_ok (c.fact 5 (f := .noat "Store" "moment_oldest") rfl)
      · exact He.noat_ok (c.fact 6 (f := .noat "Store" "list_table") rfl)
      · exact He.noat_ok (c.fact 7 (f := .noat "Store" "lists_begun") rfl)
      · exact He.noat_ok (c.fact 8 (f := .noat "Store" "name_told") rfl)
      · exact He.noat_ok (c.fact 9 (f := .noat "Store" "number_told") rfl)
      · exact He.noat_ok (c.fact 10 (f := .noat "Store" "rule_told") rfl)
      · exact He.noat_ok (c.fact 11 (f := .noat "Store" "cuts_told") rfl)
      · exact He.noat_ok (c.fact 12 (f := .noat "Store" "part_marks") rfl)
      · exact He.noat_ok (c.fact 13 (f := .noat "Store" "part_entries") rfl)
      · exact He.noat_ok (c.fact 14 (f := .noat "Store" "gone_to") rfl)
      · exact He.noat_ok (c.fact 15 (f := .noat "Store" "gone_at") rfl)
      · exact He.noat_ok (c.fact 16 (f := .noat "Store" "ready_now") rfl)
      · exact He.noat_ok (c.fact 17 (f := .noat "Store" "unlike_now") rfl)
      · exact He.noat_ok (c.fact 18 (f := .noat "Store" "fields_told") rfl)
      · exact He.noat_ok (c.fact 19 (f := .noat "Store" "store_kept") rfl)
      · exact He.noat_ok (c.fact 20 (f := .noat "Store" "page_kept") rfl)
      · exact He.noat_ok (c.fact 21 (f := .noat "Store" "part") rfl)
      · exact He.noat_ok (c.fact 22 (f := .noat "Store" "name") rfl)
      · exact He.noat_ok (c.fact 23 (f := .noat "Store" "number") rfl)
    mk0 := He.mkr_ok (c.fact 24 (f := .mkr "Store") rfl)
    mc0 := He.glo_ok X G (c.fact 25 (f := .glo "Store") rfl)
    cl1 := He.cls_ok (c.fact 26 (f := .cls "LagList") rfl)
    na1 := by
      intro n hn
      have hn : n ∈ FL := hn
      simp only [FL, List.mem_cons, List.not_mem_nil, or_false] at hn
      rcases hn with rfl | rfl | rfl | rfl | rfl | rfl | rfl | rfl | rfl | rfl | rfl | rfl | rfl | rfl | rfl | rfl | rfl | rfl | rfl | rfl | rfl | rfl | rfl
      · exact He.noat_ok (c.fact 27 (f := .noat "LagList" "fields_many") rfl)
      · exact He.noat_ok (c.fact 28 (f := .noat "LagList" "row_table") rfl)
      · exact He.noat_ok (c.fact 29 (f := .noat "LagList" "note_rows") rfl)
      · exact He.noat_ok (c.fact 30 (f := .noat "LagList" "moment_now") rfl)
      · exact He.noat_ok (c.fact 31 (f := .noat "LagList" "moment_oldest") rfl)
      · exact He.noat_ok (c.fact 32 (f := .noat "LagList" "list_table") rfl)
      · exact He.noat_ok (c.fact 33 (f := .noat "LagList" "lists_begun") rfl)
      · exact He.noat_ok (c.fact 34 (f := .noat "LagList" "name_told") rfl)
      · exact He.noat_ok (c.fact 35 (f := .noat "LagList" "number_told") rfl)
      · exact He.noat_ok (c.fact 36 (f := .noat "LagList" "rule_told") rfl)
      · exact He.noat_ok (c.fact 37 (f := .noat "LagList" "cuts_told") rfl)
      · exact He.noat_ok (c.fact 38 (f := .noat "LagList" "part_marks") rfl)
      · exact He.noat_ok (c.fact 39 (f := .noat "LagList" "part_entries") rfl)
      · exact He.noat_ok (c.fact 40 (f := .noat "LagList" "gone_to") rfl)
      · exact He.noat_ok (c.fact 41 (f := .noat "LagList" "gone_at") rfl)
      · exact He.noat_ok (c.fact 42 (f := .noat "LagList" "ready_now") rfl)
      · exact He.noat_ok (c.fact 43 (f := .noat "LagList" "unlike_now") rfl)
      · exact He.noat_ok (c.fact 44 (f := .noat "LagList" "fields_told") rfl)
      · exact He.noat_ok (c.fact 45 (f := .noat "LagList" "store_kept") rfl)
      · exact He.noat_ok (c.fact 46 (f := .noat "LagList" "page_kept") rfl)
      · exact He.noat_ok (c.fact 47 (f := .noat "LagList" "part") rfl)
      · exact He.noat_ok (c.fact 48 (f := .noat "LagList" "name") rfl)
      · exact He.noat_ok (c.fact 49 (f := .noat "LagList" "number") rfl)
    mk1 := He.mkr_ok (c.fact 50 (f := .mkr "LagList") rfl)
    mc1 := He.glo_ok X G (c.fact 51 (f := .glo "LagList") rfl)
    fd98 := fd98
    F98 := F98
    m98 := He.glo_ok X G (c.fact 52 (f := .glo "_wall") rfl)
    a98 := rfl
    b98 := F98.bindsN fun _ _ _ _ _ _ us hl => match us, hl with | [_], _ => rfl
    fd33 := fd33
    F33 := F33
    m33 := He.glo_ok X G (c.fact 53 (f := .glo "key_of") rfl)
    a33 := rfl
    b33 := F33.bindsN fun _ _ _ _ _ _ us hl => match us, hl with | [_, _], _ => rfl
    fd42 := fd42
    F42 := F42
    m42 := He.glo_ok X G (c.fact 54 (f := .glo "part_of") rfl)
    a42 := rfl
    b42 := F42.bindsN fun _ _ _ _ _ _ us hl => match us, hl with | [_, _], _ => rfl
    fd178 := fd178
    F178 := F178
    m178 := He.glo_ok X G (c.fact 55 (f := .glo "stands") rfl)
    a178 := rfl
    b178 := F178.bindsN fun _ _ _ _ _ _ us hl => match us, hl with | [_, _, _], _ => rfl
    fd133 := fd133
    F133 := F133
    a133 := rfl
    b133 := F133.bindsN fun _ _ _ _ _ _ us hl => match us, hl with | [_, _, _, _, _, _], _ => rfl
    fd171 := fd171
    F171 := F171
    m171 := He.glo_ok X G (c.fact 56 (f := .glo "list_of") rfl)
    a171 := rfl
    b171 := F171.bindsN fun _ _ _ _ _ _ us hl => match us, hl with | [_, _], _ => rfl
    fd165 := fd165
    F165 := F165
    m165 := He.glo_ok X G (c.fact 57 (f := .glo "begin_list") rfl)
    a165 := rfl
    b165 := by
      have F0 : FunD K _ _ _ _ _ [V.non] [] _ _ := F165
      obtain ⟨ds, hd, hb⟩ := F0.binds1 (ps := ps165) 4 1 (fun z => nomatch z) rfl fun _ _ _ _ _ _ _ us its hl hi => match us, its, hl, hi with | [_, _, _, _], [_], _, _ => ⟨_, rfl, rfl⟩
      cases hd; exact hb
    fd169 := fd169
    F169 := F169
    m169 := He.glo_ok X G (c.fact 58 (f := .glo "is_ready") rfl)
    a169 := rfl
    b169 := F169.bindsN fun _ _ _ _ _ _ us hl => match us, hl with | [_, _], _ => rfl
    fd173 := fd173
    F173 := F173
    m173 := He.glo_ok X G (c.fact 59 (f := .glo "marks") rfl)
    a173 := rfl
    b173 := F173.bindsN fun _ _ _ _ _ _ us hl => match us, hl with | [_, _], _ => rfl
    fd249 := fd249
    F249 := F249
    m249 := He.glo_ok X G (c.fact 60 (f := .glo "made_at_once") rfl)
    a249 := rfl
    b249 := F249.bindsN fun _ _ _ _ _ _ us hl => match us, hl with | [_, _, _], _ => rfl
    fd71 := fd71
    F71 := F71
    a71 := rfl
    b71 := F71.bindsN fun _ _ _ _ _ _ us hl => match us, hl with | [_, _], _ => rfl
    fd75 := fd75
    F75 := F75
    mt75 := He.meth_ok (c.fact 61 (f := .meth "Store" "noted") rfl)
    a75 := rfl
    b75 := F75.bindsN fun _ _ _ _ _ _ us hl => match us, hl with | [_, _, _], _ => rfl
    fd79 := fd79
    F79 := F79
    mt79 := He.meth_ok (c.fact 62 (f := .meth "Store" "put") rfl)
    a79 := rfl
    b79 := F79.bindsN fun _ _ _ _ _ _ us hl => match us, hl with | [_, _, _], _ => rfl
    fd73 := fd73
    F73 := F73
    mt73 := He.meth_ok (c.fact 63 (f := .meth "Store" "drop") rfl)
    a73 := rfl
    b73 := F73.bindsN fun _ _ _ _ _ _ us hl => match us, hl with | [_, _], _ => rfl
    fd104 := fd104
    F104 := F104
    mt104 := He.meth_ok (c.fact 64 (f := .meth "Store" "row_at") rfl)
    a104 := rfl
    b104 := F104.bindsN fun _ _ _ _ _ _ us hl => match us, hl with | [_, _], _ => rfl
    fd81 := fd81
    F81 := F81
    mt81 := He.meth_ok (c.fact 65 (f := .meth "Store" "rows") rfl)
    a81 := rfl
    b81 := F81.bindsN fun _ _ _ _ _ _ us hl => match us, hl with | [_], _ => rfl
    fd77 := fd77
    F77 := F77
    mt77 := He.meth_ok (c.fact 66 (f := .meth "Store" "now") rfl)
    a77 := rfl
    b77 := F77.bindsN fun _ _ _ _ _ _ us hl => match us, hl with | [_], _ => rfl
    fd78 := fd78
    F78 := F78
    mt78 := He.meth_ok (c.fact 67 (f := .meth "Store" "oldest") rfl)
    a78 := rfl
    b78 := F78.bindsN fun _ _ _ _ _ _ us hl => match us, hl with | [_], _ => rfl
    fd76 := fd76
    F76 := F76
    mt76 := He.meth_ok (c.fact 68 (f := .meth "Store" "notes") rfl)
    a76 := rfl
    b76 := F76.bindsN fun _ _ _ _ _ _ us hl => match us, hl with | [_, _, _], _ => rfl
    fd134 := fd134
    F134 := F134
    mt134 := He.meth_ok (c.fact 69 (f := .meth "Store" "ask_moment") rfl)
    a134 := rfl
    b134 := F134.bindsN fun _ _ _ _ _ _ us hl => match us, hl with | [_, _], _ => rfl
    fd136 := fd136
    F136 := F136
    mt136 := He.meth_ok (c.fact 70 (f := .meth "Store" "rows_at") rfl)
    a136 := rfl
    b136 := F136.bindsN fun _ _ _ _ _ _ us hl => match us, hl with | [_, _], _ => rfl
    fd135 := fd135
    F135 := F135
    mt135 := He.meth_ok (c.fact 71 (f := .meth "Store" "forget") rfl)
    a135 := rfl
    b135 := F135.bindsN fun _ _ _ _ _ _ us hl => match us, hl with | [_, _], _ => rfl
    fd139 := fd139
    F139 := F139
    m139 := He.glo_ok X G (c.fact 72 (f := .glo "_law_cell_at") rfl)
    a139 := rfl
    b139 := F139.bindsN fun _ _ _ _ _ _ us hl => match us, hl with | [_, _], _ => rfl
    fd141 := fd141
    F141 := F141
    m141 := He.glo_ok X G (c.fact 73 (f := .glo "_law_deck") rfl)
    a141 := rfl
    b141 := F141.bindsN fun _ _ _ _ _ _ us hl => match us, hl with | [_], _ => rfl
    fd142 := fd142
    F142 := F142
    m142 := He.glo_ok X G (c.fact 74 (f := .glo "_law_draw") rfl)
    a142 := rfl
    b142 := F142.bindsN fun _ _ _ _ _ _ us hl => match us, hl with | [_, _], _ => rfl
    fd146 := fd146
    F146 := F146
    m146 := He.glo_ok X G (c.fact 75 (f := .glo "_law_names") rfl)
    a146 := rfl
    b146 := F146.bindsN fun _ _ _ _ _ _ us hl => match us, hl with | [_, _], _ => rfl
    fd147 := fd147
    F147 := F147
    m147 := He.glo_ok X G (c.fact 76 (f := .glo "_law_near") rfl)
    a147 := rfl
    b147 := F147.bindsN fun _ _ _ _ _ _ us hl => match us, hl with | [_, _], _ => rfl
    fd155 := fd155
    F155 := F155
    m155 := He.glo_ok X G (c.fact 77 (f := .glo "_law_rule") rfl)
    a155 := rfl
    b155 := F155.bindsN fun _ _ _ _ _ _ us hl => match us, hl with | [_, _], _ => rfl
    fd140 := fd140
    F140 := F140
    m140 := He.glo_ok X G (c.fact 78 (f := .glo "_law_cuts") rfl)
    a140 := rfl
    b140 := F140.bindsN fun _ _ _ _ _ _ us hl => match us, hl with | [_], _ => rfl
    fd145 := fd145
    F145 := F145
    m145 := He.glo_ok X G (c.fact 79 (f := .glo "_law_key") rfl)
    a145 := rfl
    b145 := F145.bindsN fun _ _ _ _ _ _ us hl => match us, hl with | [_, _], _ => rfl
    fd150 := fd150
    F150 := F150
    m150 := He.glo_ok X G (c.fact 80 (f := .glo "_law_part") rfl)
    a150 := rfl
    b150 := F150.bindsN fun _ _ _ _ _ _ us hl => match us, hl with | [_, _], _ => rfl
    fd148 := fd148
    F148 := F148
    m148 := He.glo_ok X G (c.fact 81 (f := .glo "_law_new_row") rfl)
    a148 := rfl
    b148 := F148.bindsN fun _ _ _ _ _ _ us hl => match us, hl with | [_, _], _ => rfl
    fd162 := fd162
    F162 := F162
    m162 := He.glo_ok X G (c.fact 82 (f := .glo "_law_world") rfl)
    a162 := rfl
    b162 := F162.bindsN fun _ _ _ _ _ _ us hl => match us, hl with | [_], _ => rfl
    fd149 := fd149
    F149 := F149
    m149 := He.glo_ok X G (c.fact 83 (f := .glo "_law_now") rfl)
    a149 := rfl
    b149 := F149.bindsN fun _ _ _ _ _ _ us hl => match us, hl with | [_], _ => rfl
    fd152 := fd152
    F152 := F152
    m152 := He.glo_ok X G (c.fact 84 (f := .glo "_law_put") rfl)
    a152 := rfl
    b152 := F152.bindsN fun _ _ _ _ _ _ us hl => match us, hl with | [_, _], _ => rfl
    fd143 := fd143
    F143 := F143
    m143 := He.glo_ok X G (c.fact 85 (f := .glo "_law_drop") rfl)
    a143 := rfl
    b143 := F143.bindsN fun _ _ _ _ _ _ us hl => match us, hl with | [_, _], _ => rfl
    fd163 := fd163
    F163 := F163
    m163 := He.glo_ok X G (c.fact 86 (f := .glo "_law_writes") rfl)
    a163 := rfl
    b163 := F163.bindsN fun _ _ _ _ _ _ us hl => match us, hl with | [_, _, _], _ => rfl
    fd138 := fd138
    F138 := F138
    m138 := He.glo_ok X G (c.fact 87 (f := .glo "_law_begin") rfl)
    a138 := rfl
    b138 := F138.bindsN fun _ _ _ _ _ _ us hl => match us, hl with | [_, _, _], _ => rfl
    fd144 := fd144
    F144 := F144
    m144 := He.glo_ok X G (c.fact 88 (f := .glo "_law_entries") rfl)
    a144 := rfl
    b144 := F144.bindsN fun _ _ _ _ _ _ us hl => match us, hl with | [_, _, _, _], _ => rfl
    fd157 := fd157
    F157 := F157
    m157 := He.glo_ok X G (c.fact 89 (f := .glo "_law_stands") rfl)
    a157 := rfl
    b157 := F157.bindsN fun _ _ _ _ _ _ us hl => match us, hl with | [_, _, _], _ => rfl
    fd151 := fd151
    F151 := F151
    m151 := He.glo_ok X G (c.fact 90 (f := .glo "_law_parts") rfl)
    a151 := rfl
    b151 := F151.bindsN fun _ _ _ _ _ _ us hl => match us, hl with | [_], _ => rfl
    fd156 := fd156
    F156 := F156
    m156 := He.glo_ok X G (c.fact 91 (f := .glo "_law_settled") rfl)
    a156 := rfl
    b156 := F156.bindsN fun _ _ _ _ _ _ us hl => match us, hl with | [_, _], _ => rfl
    fd160 := fd160
    F160 := F160
    m160 := He.glo_ok X G (c.fact 92 (f := .glo "_law_took") rfl)
    a160 := rfl
    b160 := F160.bindsN fun _ _ _ _ _ _ us hl => match us, hl with | [_, _, _, _], _ => rfl
    fd159 := fd159
    F159 := F159
    m159 := He.glo_ok X G (c.fact 93 (f := .glo "_law_told_marks") rfl)
    a159 := rfl
    b159 := F159.bindsN fun _ _ _ _ _ _ us hl => match us, hl with | [_, _], _ => rfl
    fd137 := fd137
    F137 := F137
    m137 := He.glo_ok X G (c.fact 94 (f := .glo "_law_alike") rfl)
    a137 := rfl
    b137 := F137.bindsN fun _ _ _ _ _ _ us hl => match us, hl with | [_], _ => rfl
    fd246 := fd246
    F246 := F246
    m246 := He.glo_ok X G (c.fact 95 (f := .glo "_law_plain") rfl)
    a246 := rfl
    b246 := F246.bindsN fun _ _ _ _ _ _ us hl => match us, hl with | [_], _ => rfl
    fd245 := fd245
    F245 := F245
    m245 := He.glo_ok X G (c.fact 96 (f := .glo "_law_due") rfl)
    a245 := rfl
    b245 := F245.bindsN fun _ _ _ _ _ _ us hl => match us, hl with | [_, _, _], _ => rfl
    fd247 := fd247
    F247 := F247
    m247 := He.glo_ok X G (c.fact 97 (f := .glo "_law_right") rfl)
    a247 := rfl
    b247 := F247.bindsN fun _ _ _ _ _ _ us hl => match us, hl with | [_], _ => rfl
    fd248 := fd248
    F248 := F248
    m248 := He.glo_ok X G (c.fact 98 (f := .glo "law") rfl)
    a248 := rfl
    b248 := F248.bindsN fun _ _ _ _ _ _ us hl => match us, hl with | [_], _ => rfl
    k249_store_rule_cuts := kwN (D := wd P w K mg base) F249 fun _ _ _ _ _ _ us ws h1 h2 => match us, ws, h1, h2 with | [], [_, _, _], _, _ => rfl
    m_bool := He.free_ok X G (c.fact 99 (f := .free "bool") rfl)
    m_dict := He.free_ok X G (c.fact 100 (f := .free "dict") rfl)
    m_enumerate := He.free_ok X G (c.fact 101 (f := .free "enumerate") rfl)
    m_int := He.free_ok X G (c.fact 102 (f := .free "int") rfl)
    m_isinstance := He.free_ok X G (c.fact 103 (f := .free "isinstance") rfl)
    m_len := He.free_ok X G (c.fact 104 (f := .free "len") rfl)
    m_list := He.free_ok X G (c.fact 105 (f := .free "list") rfl)
    m_min := He.free_ok X G (c.fact 106 (f := .free "min") rfl)
    m_range := He.free_ok X G (c.fact 107 (f := .free "range") rfl)
    m_set := He.free_ok X G (c.fact 108 (f := .free "set") rfl)
    m_sorted := He.free_ok X G (c.fact 109 (f := .free "sorted") rfl)
    m_sum := He.free_ok X G (c.fact 110 (f := .free "sum") rfl)
    m_tuple := He.free_ok X G (c.fact 111 (f := .free "tuple") rfl)
  }⟩
end LW
open PySem PySem.W PySem.Calls PyProof.Rows
theorem PySem.Challenge.cw_laglist_k25_made_at_once_holds : PySem.Challenge.rw_laglist_k25_made_at_once.Holds := by
  w_on; o_law
  refine HandSHeadRun.head_any (r := OpenLaw.row PySem.Challenge.rw_laglist_k25_made_at_once) (q := view (OpenLaw.row PySem.Challenge.rw_laglist_k25_made_at_once).prog [49]) (H := LW.hk) (ob := LW.ob) (M := 6500) (loose := LW.names) (d := HandSHeadRun.topDef (OpenLaw.row PySem.Challenge.rw_laglist_k25_made_at_once).prog 49) (kwd := []) LW.ob_eq
    (by kernel_rfl) (fun s => by kernel_rfl) LW.run (by kernel_rfl) (by kernel_rfl) (by kernel_rfl) (by rfl) (by first | assumption | decide +kernel) (by decide +kernel) ⟨rfl, rfl, rfl, rfl, rfl, by decide +kernel⟩ ?hw ?hc
  case hw => w_witness2
  case hc =>
    refine IRS.walk_w (l := PySem.Challenge.rw_laglist_k25_made_at_once) (n := 63) (k := 2 * 40) (x := "_law_script") (CXw := L2.CX PySem.Challenge.pw_laglist_k25_made_at_once) rfl (by decide) (by kernel_rfl) ⟨rfl, by decide, by decide⟩ ?F IRS.cx_none
    intro w mg fa h Y G hmg0
    obtain ⟨K, KX, c⟩ := Y
    have hmg : mg ("law" : PySem.Str) = some (.ref fa) := by
      have e : (HandSHeadRun.topDef (OpenLaw.row PySem.Challenge.rw_laglist_k25_made_at_once).prog 49).name = ("law" : PySem.Str) := by kernel_rfl
      rw [← e]
      exact hmg0
    have A := fun base => (LW.facts (P := PySem.Challenge.pw_laglist_k25_made_at_once) (w := w) KX G c base)
    obtain ⟨hd0⟩ := A h
    have e0 : fa = LW.adr248 K := by
      have z := hmg.symm.trans (He.glo_ok KX G (c.fact 98 (f := .glo "law") rfl))
      cases z
      rfl
    subst e0
    obtain ⟨fd, FD⟩ := c.def_ 48 (d := LW.dd248) rfl
    refine ⟨K, fd, IRS.spOf (LW.wd PySem.Challenge.pw_laglist_k25_made_at_once w K mg h).N (IR.callD IR.g0 40 248) 1, KX, fun s u => L2.FunD.bindsA (ps := ["_law_script"]) FD (fun _ _ _ _ _ _ us hl => match us, hl with | [_], _ => rfl) s [u] rfl, fun H a ns hl hO hS => ?_, fun base _ _ => ?_⟩
    · exact IRS.law_sp (K := K) (N := (LW.wd PySem.Challenge.pw_laglist_k25_made_at_once w K mg h).N) (np := 1) rfl hO hS (IR.holds ns hl)
    · obtain ⟨hd⟩ := A base
      have z := (LW.all hd 40).A248.ok
      have e1 : hd.fd248 = fd := IRS.fd_one hd.F248 FD
      rw [e1] at z
      exact z
