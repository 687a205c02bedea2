import PyProof.Rows.All
import Wide.All
import OpenK.AllK
import Wide.FinOn
import HandS.ForMost
import HandS.ForExc
import HandS.Nested
import HandS.CallSlots
import HandS.TupAny
import HandS.TupMul
import HandS.TupLe
import HandS.Deep
import HandS.Codes
import HandS.IsInst
import HandS.RaiseMore
import HandS.TupLen
import PyProof.InstNe
import HandS.StrSplit
import HandS.More
import HandS.Walk
import HandS.Zip
import HandS.DictTup
import KE.GoesEnum
import HandS.DictComp
import KE.KDictWalk
import KE.SortData
import KE.KDictSum
import KE.KExcSuper
import HandS.ExcInit
import HandS.ExcIs
import HandS.ExcField
import HandS.Lambda
import HandS.HeadHook2
import HandS.HeadHook4
import HandS.HeadWalk
import HandS.Head2
import PySem.Challenge.RW_handles_k65_whole_stores_read
set_option Elab.async false
set_option linter.all false
section
set_option maxRecDepth 100000
/-! Pv: a small core language with a wp-semantics over plain data. -/
namespace Pv
abbrev K := Sum Int (List Nat)
/-- classes that isinstance and except clauses name: built-in ones, own ones by number -/
inductive Cl where
  | int | bool | str | tuple | list | dict | valueError | own (c : Nat)
  deriving DecidableEq
/-- the class of an exception: an own one, or a built-in one by number -/
inductive EC where
  | own (c : Nat) | bi (n : Nat)
  deriving DecidableEq
inductive D where
  | non | bl (b : Bool) | int (i : Int) | str (x : List Nat)
  | tup (l : List D) | wt (l : List D) | lst (l : List D) | dK (l : List (K × D)) | dT (l : List (List K × D))
  | rng (lo hi : Int)
  | ins (c : Nat) (fs : List (Nat × D))
  | ref (n : Nat) | fn (i : Nat) | cls (c : Cl) | clo (i : Nat) (caps : List D)
  | exc (c : EC) (fs : List (Nat × D)) | scr (l : List Int)
  deriving Inhabited
abbrev Env := List (Option D)
abbrev Hm := List D
structure Ex where
  c : EC
  fs : List (Nat × D)
abbrev LINE : Nat := 16777216
def kD : K → D
  | .inl i => .int i
  | .inr x => .str x
def keyOf : D → Option K
  | .int i => some (.inl i)
  | .str x => some (.inr x)
  | _ => none
def keysOf : List D → Option (List K)
  | [] => some []
  | d :: r => match keyOf d, keysOf r with
    | some k, some l => some (k :: l)
    | _, _ => none
def tkeyOf : D → Option (List K)
  | .tup l => keysOf l
  | _ => none
/-- what stands behind a reference -/
def cont (h : Hm) : D → D
  | .ref n => h.getD n .non
  | .wt l => .tup l
  | d => d
def look {κ : Type} [DecidableEq κ] : List (κ × D) → κ → Option D
  | [], _ => none
  | (k, v) :: r, x => if k = x then some v else look r x
def put {κ : Type} [DecidableEq κ] (l : List (κ × D)) (x : κ) (d : D) : List (κ × D) :=
  if (l.any fun p => decide (p.1 = x)) = true then l.map (fun p => if p.1 = x then (p.1, d) else p) else l ++ [(x, d)]
def putF : List (Nat × D) → Nat → D → List (Nat × D)
  | [], x, d => [(x, d)]
  | (k, v) :: r, x, d => if k = x then (k, d) :: r else (k, v) :: putF r x d
def dropK {κ : Type} [DecidableEq κ] (l : List (κ × D)) (x : κ) : List (κ × D) := l.filter fun p => decide (p.1 ≠ x)
def fget : List (Nat × D) → Nat → Option D := look
/-- == of data -/
def b2i (b : Bool) : Int := if b then 1 else 0
mutual
def deq : D → D → Bool
  | .non, .non => true
  | .bl a, .bl b => a == b
  | .bl a, .int j => b2i a == j
  | .int i, .bl b => i == b2i b
  | .int i, .int j => i == j
  | .str x, .str y => x == y
  | .tup l, .tup m => deqs l m
  | .lst l, .lst m => deqs l m
  | _, _ => false
def deqs : List D → List D → Bool
  | [], [] => true
  | a :: l, b :: m => deq a b && deqs l m
  | _, _ => false
end
mutual
/-- data that == may compare -/
def isData : D → Bool
  | .non | .bl _ | .int _ => true
  | .str x => x.all fun c => decide (c < 1114112)
  | .tup l | .lst l => areData l
  | _ => false
def areData : List D → Bool
  | [] => true
  | a :: l => isData a && areData l
end
mutual
def depth : D → Nat
  | .tup l | .lst l => depths l + 1
  | _ => 0
def depths : List D → Nat
  | [] => 0
  | a :: l => max (depth a) (depths l)
end
/-- order of ints, strings, tuples of such -/
def ltNats : List Nat → List Nat → Bool
  | _, [] => false
  | [], _ :: _ => true
  | a :: l, b :: m => if a = b then ltNats l m else decide (a < b)
def intsOf : List D → Option (List Int)
  | [] => some []
  | .int x :: r => (intsOf r).map fun l => x :: l
  | _ => none
def ltInts : List Int → List Int → Bool
  | [], [] => false
  | [], _ :: _ => true
  | _ :: _, [] => false
  | a :: l, b :: m => if a = b then ltInts l m else decide (a < b)
def dlt : D → D → Option Bool
  | .int i, .int j => some (decide (i < j))
  | .str x, .str y => some (ltNats x y)
  | .tup l, .tup m => (intsOf l).bind fun a => (intsOf m).map fun b => ltInts a b
  | _, _ => none
def dltS : D → D → Option Bool
  | .int i, .int j => some (decide (i < j))
  | .str x, .str y => some (ltNats x y)
  | _, _ => none
mutual
/-- the order of a sort: ints, strings, tuples of such -/
def slt : D → D → Bool
  | .int i, .int j => decide (i < j)
  | .str x, .str y => ltNats x y
  | .tup l, .tup m => slts l m
  | _, _ => false
def slts : List D → List D → Bool
  | [], [] => false
  | [], _ :: _ => true
  | _ :: _, [] => false
  | a :: l, b :: m => if deq a b then slts l m else slt a b
end
/-- the place of a sublist -/
def isPre : List Nat → List Nat → Bool
  | [], _ => true
  | _ :: _, [] => false
  | a :: l, b :: m => a == b && isPre l m
/-- whether a list of signs stands in another one -/
def isSub (x z : List Nat) : Bool := (List.range (z.length + 1)).any fun i => isPre x (z.drop i)
def findAt (x : List Nat) : List Nat → Nat → Option Nat
  | [], n => if x = [] then some n else none
  | a :: l, n => if isPre x (a :: l) then some n else findAt x l (n + 1)
/-- the place that a Python index means -/
def ixOf (n : Nat) (i : Int) : Option Nat :=
  if 0 ≤ i then (if i < n then some i.toNat else none) else (if -(n : Int) ≤ i then some (i + n).toNat else none)
/-- the place that a slice's end means -/
def clip (n dflt : Nat) : Option Int → Nat
  | none => dflt
  | some i => if 0 ≤ i then min i.toNat n else (i + n).toNat
def cut {α : Type} (l : List α) (lo hi : Option Int) : List α :=
  (l.drop (clip l.length 0 lo)).take (clip l.length l.length hi - clip l.length 0 lo)
/-- an item -/
def dItem (h : Hm) (a i : D) : Option D :=
  match cont h a, i with
  | .tup l, .int j | .lst l, .int j => (ixOf l.length j).bind fun n => l[n]?
  | .str x, .int j => if x.length ≤ LINE then (ixOf x.length j).bind fun n => x[n]?.map fun c => .str [c] else none
  | .dK kvs, d => (keyOf d).bind fun k => look kvs k
  | .dT kvs, d => (tkeyOf d).bind fun k => look kvs k
  | _, _ => none
def noW (h : Hm) : D → D
  | .wt _ => .non
  | d => cont h d
def dSlice (h : Hm) (a : D) (lo hi : Option Int) : Option D :=
  match noW h a with
  | .tup l => some (.tup (cut l lo hi))
  | .lst l => some (.lst (cut l lo hi))
  | .str x => if x.length ≤ LINE then some (.str (cut x lo hi)) else none
  | .scr l => some (.lst ((cut l lo hi).map .int))
  | _ => none
def dRev (h : Hm) (a : D) : Option D :=
  match noW h a with
  | .tup l => some (.tup l.reverse)
  | .lst l => some (.lst l.reverse)
  | _ => none
/-- operators -/
inductive Op where
  | add | sub | mul | fdiv | mod | pow | eq | ne | lt | le | gt | ge | in_ | notin
  deriving DecidableEq
def isFlat : D → Bool
  | .non | .bl _ | .int _ | .str _ => true
  | _ => false
def dIn (h : Hm) (x a : D) : Option Bool :=
  match cont h a with
  | .str z => match x with
    | .str y => some (isSub y z)
    | _ => none
  | .lst l => if isData x && areData l && decide (depth x ≤ 64) && decide (depths l ≤ 63) then some (l.any fun y => deq y x) else none
  | .tup l => if isFlat x && l.all isFlat then some (l.any fun y => deq y x) else none
  | .dK kvs => (keyOf x).map fun k => (look kvs k).isSome
  | .dT kvs => (tkeyOf x).map fun k => (look kvs k).isSome
  | _ => none
def dEq (h : Hm) (a b : D) : Option Bool :=
  match cont h a, cont h b with
  | .str x, .str y => some (x == y)
  | _, _ =>
  if isData (cont h a) && isData (cont h b) && decide (depth (cont h a) ≤ 64) && decide (depth (cont h b) ≤ 64) then some (deq (cont h a) (cont h b)) else none
def rep {α : Type} : Nat → List α → List α
  | 0, _ => []
  | n + 1, l => l ++ rep n l
def dOp (h : Hm) : Op → D → D → Option D
  | .add, .int i, .int j => some (.int (i + j))
  | .add, .str x, .str y => if x.length + y.length ≤ LINE then some (.str (x ++ y)) else none
  | .add, .tup l, .tup m => if l.length + m.length ≤ LINE then some (.tup (l ++ m)) else none
  | .sub, .int i, .int j => some (.int (i - j))
  | .mul, .int i, .int j => if (-(2 ^ 64) < i ∧ i < 2 ^ 64) ∨ (-(2 ^ 64) < j ∧ j < 2 ^ 64) then some (.int (i * j)) else none
  | .mul, .str x, .int j => if x.length * j.toNat ≤ 1000000 ∧ j.natAbs ≤ 1000000 then some (.str (rep j.toNat x)) else none
  | .mul, .tup x, .int j => if x.length ≤ 1000 ∧ x ≠ [] ∧ 2 ≤ j ∧ j ≤ 1000 then some (.tup (rep j.toNat x)) else none
  | .fdiv, .int i, .int j => if 0 < j ∧ j < 1073741824 then some (.int (i / j)) else none
  | .mod, .int i, .int j => if 0 < j then some (.int (i % j)) else none
  | .pow, .int i, .int j => if 0 ≤ j ∧ j ≤ 1000000 ∧ i.natAbs < 2 ^ 64 then some (.int (i ^ j.toNat)) else none
  | .eq, a, b => (dEq h a b).map .bl
  | .ne, a, b => (dEq h a b).map fun c => .bl (!c)
  | .lt, a, b => (dlt a b).map .bl
  | .ge, a, b => (dltS a b).map fun c => .bl (!c)
  | .gt, a, b => (dltS b a).map .bl
  | .le, a, b => (dlt b a).map fun c => .bl (!c)
  | .in_, a, b => (dIn h a b).map .bl
  | .notin, a, b => (dIn h a b).map fun c => .bl (!c)
  | _, _, _ => none
/-- isinstance -/
def isInst (d : D) (c : Cl) : Bool :=
  match d, c with
  | .bl _, .bool | .bl _, .int | .int _, .int | .str _, .str | .tup _, .tuple | .wt _, .tuple | .lst _, .list | .dK _, .dict | .dT _, .dict => true
  | .ins c _, .own c' => c == c'
  | _, _ => false
def isTy (isC : Nat → Bool) : D → Bool
  | .non | .bl _ | .int _ | .str _ | .tup _ | .lst _ | .dK _ => true
  | .ins c _ => isC c
  | _ => false
/-- items of what is walked -/
def items (h : Hm) (d : D) : Option (List D) :=
  match cont h d with
  | .tup l | .lst l => some l
  | .str x => if x.length ≤ LINE then some (x.map fun c => .str [c]) else none
  | .dK kvs => some (kvs.map fun p => kD p.1)
  | .dT kvs => some (kvs.map fun p => .tup (p.1.map kD))
  | .rng lo hi => if (hi - lo).toNat ≤ LINE then some ((List.range (hi - lo).toNat).map fun i => .int (lo + (i : Nat))) else none
  | _ => none
/-- items of what is walked in place -/
def walkD (h : Hm) : D → Option (List D)
  | .ref n => match h.getD n .non with
    | .lst l => some l
    | _ => none
  | .rng _ _ => none
  | d => items h d
/-- a list that may turn while it is walked: its place and what stands there -/
def src (h : Hm) : D → List (Nat × D)
  | .ref n => [(n, h.getD n .non)]
  | _ => []
def still (s : List (Nat × D)) (h : Hm) : Prop := ∀ p ∈ s, h[p.1]? = some p.2
/-- the items of a list or a tuple -/
def seqD (h : Hm) (d : D) : Option (List D) :=
  match cont h d with
  | .tup l | .lst l => some l
  | _ => none
/-- two lists or two tuples -/
def seq2D (h : Hm) (d e : D) : Option (List D × List D) :=
  match cont h d, cont h e with
  | .tup l, .tup m => some (l, m)
  | .lst l, .lst m => some (l, m)
  | _, _ => none
/-- what may be collected -/
def collD : D → Option (List D)
  | .tup l | .lst l => some l
  | .dK kvs => some (kvs.map fun p => kD p.1)
  | .dT kvs => some (kvs.map fun p => .tup (p.1.map kD))
  | _ => none
def enumFrom (n : Nat) : List D → List D
  | [] => []
  | a :: l => .tup [.int n, a] :: enumFrom (n + 1) l
def zip2 : List D → List D → List D
  | a :: l, b :: m => .tup [a, b] :: zip2 l m
  | _, _ => []
def zip3 : List D → List D → List D → List D
  | a :: l, b :: m, c :: n => .tup [a, b, c] :: zip3 l m n
  | _, _, _ => []
def pairs : D → Option (List D)
  | .dK kvs => some (kvs.map fun p => .tup [kD p.1, p.2])
  | .dT kvs => some (kvs.map fun p => .tup [.tup (p.1.map kD), p.2])
  | _ => none
/-- stable insertion sort -/
def insD (x : D) : List D → List D
  | [] => [x]
  | y :: l => if slt y x then y :: insD x l else x :: y :: l
def sortD : List D → List D
  | [] => []
  | x :: l => insD x (sortD l)
/-- what a sort compares: ints, strings, tuples of ints -/
def cmpE : D → D → Bool
  | .int _, .int _ => true
  | .str _, .str _ => true
  | .tup l, .tup m => (intsOf l).isSome && (intsOf m).isSome
  | _, _ => false
def cmpEs : List D → List D → Bool
  | a :: l, b :: m => cmpE a b && cmpEs l m
  | _, _ => true
/-- .. and tuples of such -/
def cmpOk : D → D → Bool
  | .int _, .int _ => true
  | .str _, .str _ => true
  | .tup (a :: l), .tup (b :: m) => cmpEs (a :: l) (b :: m)
  | _, _ => false
/-- all comparisons among them are between like things -/
def sortable (l : List D) : Bool := areData l && l.all fun a => l.all fun b => cmpOk a b
def joinL (s : List Nat) : List (List Nat) → List Nat
  | [] => []
  | [x] => x
  | x :: r => x ++ s ++ joinL s r
def strsOf : List D → Option (List (List Nat))
  | [] => some []
  | .str x :: r => (strsOf r).map fun l => x :: l
  | _ => none
def blsOf : List D → Option (List Bool)
  | [] => some []
  | .bl x :: r => (blsOf r).map fun l => x :: l
  | _ => none
/-- how many unlike ones -/
def distinct : List D → List D
  | [] => []
  | a :: l => a :: (distinct l).filter fun b => !deq a b
/-- the figures of a number -/
def numN (n : Nat) : List Nat := (Nat.toDigits 10 n).map Char.toNat
/-- split at a sign -/
def splitAt1 (c : Nat) : List Nat → List Nat → List (List Nat)
  | acc, [] => [acc]
  | acc, a :: l => if a = c then acc :: splitAt1 c [] l else splitAt1 c (acc ++ [a]) l
def splitMax (c : Nat) : Nat → List Nat → List Nat → List (List Nat)
  | _, acc, [] => [acc]
  | 0, acc, l => [acc ++ l]
  | n + 1, acc, a :: l => if a = c then acc :: splitMax c n [] l else splitMax c (n + 1) (acc ++ [a]) l
def digitsVal (l : List Nat) : Nat := l.foldl (fun a c => a * 10 + (c - 48)) 0
/-- built-in functions, of values alone -/
inductive Bi where
  | len | abs | int | strInt | str | tuple | all | any | sum | min | max | lenSet | bool
  deriving DecidableEq
def dLen (h : Hm) (d : D) : Option Nat :=
  match cont h d with
  | .tup l | .lst l => some l.length
  | .str x => if x.length ≤ LINE then some x.length else none
  | _ => none
def minD : D → List D → D
  | a, [] => a
  | a, b :: l => if slt b a then minD b l else minD a l
def dBi (h : Hm) : Bi → List D → Option D
  | .len, [d] => (dLen h d).map fun (n : Nat) => .int n
  | .abs, [.int i] => some (.int (if i < 0 then -i else i))
  | .int, [.int i] => some (.int i)
  | .int, [.bl b] => some (.int (b2i b))
  | .strInt, [.str x] => if x ≠ [] ∧ x.length ≤ 640 ∧ x.all (fun c => decide (48 ≤ c) && decide (c ≤ 57)) then some (.int (digitsVal x)) else none
  | .str, [.int i] => if 0 ≤ i ∧ i.natAbs.log2 < 1920 then some (.str (numN i.toNat)) else none
  | .str, [.str x] => some (.str x)
  | .tuple, [.wt l] => some (.wt l)
  | .tuple, [.tup l] => some (.tup l)
  | .tuple, [d] => match cont h d with
    | .lst l => some (.tup l)
    | _ => none
  | .all, [d] => match cont h d with
    | .lst l => (blsOf l).map fun bs => .bl (bs.all id)
    | _ => none
  | .any, [d] => match cont h d with
    | .lst l => (blsOf l).map fun bs => .bl (bs.any id)
    | _ => none
  | .min, [.int i, .int j] => some (.int (if j < i then j else i))
  | .max, [.int i, .int j] => some (.int (if j > i then j else i))
  | .lenSet, [d] => (items h d).bind fun l => (intsOf l).map fun _ => .int (distinct l).length
  | _, _ => none
/-- methods of built-in types -/
inductive Bm where
  | append | pop | popD | extend | insert | get | update | join | split | partition | replace | index | indexT | count | find
  deriving DecidableEq
/-- what a method is asked of -/
def bmTy : Bm → D → Bool
  | .append, .lst _ | .pop, .lst _ | .extend, .lst _ | .insert, .lst _ | .index, .lst _ | .count, .lst _ => true
  | .indexT, .tup _ => true
  | .popD, .dK _ | .popD, .dT _ | .get, .dK _ | .get, .dT _ | .update, .dK _ | .update, .dT _ => true
  | .join, .str _ | .split, .str _ | .partition, .str _ | .replace, .str _ | .find, .str _ => true
  | _, _ => false
/-- .. that leave all as it is -/
def dBm (h : Hm) : Bm → D → List D → Option D
  | .get, a, [k] => match cont h a with
    | .dK kvs => (keyOf k).map fun k => (look kvs k).getD .non
    | .dT kvs => (tkeyOf k).map fun k => (look kvs k).getD .non
    | _ => none
  | .get, a, [k, v] => match cont h a with
    | .dK kvs => (keyOf k).map fun k => (look kvs k).getD v
    | .dT kvs => (tkeyOf k).map fun k => (look kvs k).getD v
    | _ => none
  | .join, .str s, [d] => match cont h d with
    | .lst l | .tup l => (strsOf l).bind fun xs => if (xs.map (·.length)).sum + xs.length * s.length ≤ LINE then some (.str (joinL s xs)) else none
    | _ => none
  | .split, .str x, [.str [c]] => if x.length + 2 ≤ LINE ∧ c < 128 then some (.lst ((splitAt1 c [] x).map .str)) else none
  | .partition, .str x, [.str [c]] => if x.length ≤ LINE ∧ c < 128 then
      (match splitMax c 1 [] x with
      | [a, b] => some (.tup [.str a, .str [c], .str b])
      | _ => some (.tup [.str x, .str [], .str []])) else none
  | .replace, .str x, [.str [a], .str [b]] => if x.length ≤ 1000000 ∧ a < 128 ∧ b < 128 then some (.str (x.map fun c => if c = a then b else c)) else none
  | .index, a, [x] => match cont h a with
    | .lst l => if isData x && areData l && decide (depth x ≤ 64) && decide (depths l ≤ 63) then (l.findIdx? fun y => deq y x).map fun (n : Nat) => .int n else none
    | _ => none
  | .indexT, a, [x] => match cont h a with
    | .tup l => if isFlat x && l.all isFlat then (l.findIdx? fun y => deq y x).map fun (n : Nat) => .int n else none
    | _ => none
  | .count, a, [x] => match cont h a with
    | .lst l => if isData x && areData l && decide (depth x ≤ 64) && decide (depths l ≤ 63) then some (.int (l.countP fun y => deq y x)) else none
    | _ => none
  | .find, .str z, [.str x] => some (.int (match findAt x z 0 with | some n => (n : Int) | none => -1))
  | _, _, _ => none
/-- .. that change what stands at a place -/
def dBmM (h : Hm) : Bm → Nat → D → List D → Option (D × D)
  | .append, _, .lst l, [x] => if l.length < LINE then some (.non, .lst (l ++ [x])) else none
  | .pop, _, .lst l, [] => (l[l.length - 1]?).map fun y => (y, .lst l.dropLast)
  | .pop, _, .lst l, [.int i] => if i.natAbs < 2 ^ 62 then (ixOf l.length i).bind fun n => (l[n]?).map fun y => (y, .lst (l.eraseIdx n)) else none
  | .extend, _, .lst l, [d] => match cont h d with
    | .lst m => if l.length + m.length ≤ LINE then some (.non, .lst (l ++ m)) else none
    | _ => none
  | .insert, _, .lst l, [.int i, x] => if 0 ≤ i ∧ i ≤ l.length ∧ l.length < LINE then some (.non, .lst (l.insertIdx i.toNat x)) else none
  | .update, _, .dK kvs, [d] => match cont h d with
    | .dK m => if kvs.length + m.length ≤ LINE then some (.non, .dK (m.foldl (fun a p => put a p.1 p.2) kvs)) else none
    | _ => none
  | .update, _, .dT kvs, [d] => match cont h d with
    | .dT m => if kvs.length + m.length ≤ LINE then some (.non, .dT (m.foldl (fun a p => put a p.1 p.2) kvs)) else none
    | _ => none
  | .popD, _, .dT kvs, [k] => (tkeyOf k).bind fun k => (look kvs k).map fun v => (v, .dT (dropK kvs k))
  | .popD, _, .dK kvs, [k] => (keyOf k).bind fun k => (look kvs k).map fun v => (v, .dK (dropK kvs k))
  | _, _, _, _ => none
/-- storing at an index -/
def dSet : D → D → D → Option D
  | .lst l, .int i, v => (ixOf l.length i).map fun n => .lst (l.set n v)
  | .dK kvs, k, v => (keyOf k).bind fun k => if kvs.length < LINE then some (.dK (put kvs k v)) else none
  | .dT kvs, k, v => (tkeyOf k).bind fun k => if kvs.length < LINE then some (.dT (put kvs k v)) else none
  | _, _, _ => none
mutual
/-- all references below n, no exceptions -/
def frz (n : Nat) : D → Bool
  | .tup l | .wt l | .lst l => frzs n l
  | .dK l => frzK n l
  | .dT l => frzT n l
  | .ins _ fs => frzF n fs
  | .ref m => decide (m < n)
  | .clo _ caps => frzs n caps
  | .exc _ _ => false
  | _ => true
def frzs (n : Nat) : List D → Bool
  | [] => true
  | a :: l => frz n a && frzs n l
def frzK (n : Nat) : List (K × D) → Bool
  | [] => true
  | (_, a) :: l => frz n a && frzK n l
def frzT (n : Nat) : List (List K × D) → Bool
  | [] => true
  | (_, a) :: l => frz n a && frzT n l
def frzF (n : Nat) : List (Nat × D) → Bool
  | [] => true
  | (_, a) :: l => frz n a && frzF n l
end
mutual
/-- references told by g -/
def sub (g : Nat → Option D) : D → Option D
  | .tup l => (subs g l).map .tup
  | .wt l => (subs g l).map .wt
  | .lst l => (subs g l).map .lst
  | .dK l => (subK g l).map .dK
  | .dT l => (subT g l).map .dT
  | .ins c fs => (subF g fs).map (.ins c)
  | .ref m => g m
  | .clo i caps => (subs g caps).map (.clo i)
  | .exc _ _ => none
  | .scr l => some (.scr l)
  | .non => some .non
  | .bl b => some (.bl b)
  | .int i => some (.int i)
  | .str x => some (.str x)
  | .rng a b => some (.rng a b)
  | .fn i => some (.fn i)
  | .cls c => some (.cls c)
def subs (g : Nat → Option D) : List D → Option (List D)
  | [] => some []
  | a :: l => match sub g a, subs g l with
    | some b, some m => some (b :: m)
    | _, _ => none
def subK (g : Nat → Option D) : List (K × D) → Option (List (K × D))
  | [] => some []
  | (k, a) :: l => match sub g a, subK g l with
    | some b, some m => some ((k, b) :: m)
    | _, _ => none
def subT (g : Nat → Option D) : List (List K × D) → Option (List (List K × D))
  | [] => some []
  | (k, a) :: l => match sub g a, subT g l with
    | some b, some m => some ((k, b) :: m)
    | _, _ => none
def subF (g : Nat → Option D) : List (Nat × D) → Option (List (Nat × D))
  | [] => some []
  | (k, a) :: l => match sub g a, subF g l with
    | some b, some m => some ((k, b) :: m)
    | _, _ => none
end
/-- what stands at places from n on is told as a thing of its own; f: how deep -/
def reify (n : Nat) (h : Hm) : Nat → D → Option D
  | 0, d => sub (fun m => if m < n then some (.ref m) else none) d
  | f + 1, d => sub (fun m => if m < n then some (.ref m) else (h[m]?).bind (reify n h f)) d
/-- what was made from place n on is let go: the thing is told as a whole -/
def trunc (n : Nat) (h0 h : Hm) (d : D) (Q : D → Hm → Prop) : Prop :=
  (∀ m, m < n → h[m]? = h0[m]? ∨ ∃ o, h[m]? = some o ∧ frz n o = true) ∧ ∃ d', reify n h 4 d = some d' ∧ Q d' (h.take n)

/-! ### the language -/
mutual
inductive E where
  | slot (i : Nat) | cst (d : D)
  | op (o : Op) (a b : E) | chain (o o' : Op) (a b c : E)
  | neg (a : E) | not_ (a : E) | and_ (a b : E) | or_ (a b : E) | ite (c a b : E) | isNon (a : E) | notNon (a : E)
  | tup (es : Es) | fld (a : E) (f : Nat) | idx (a b : E) | slice (a : E) (lo hi : Eo) | rev (a : E)
  | call (i : Nat) (es : Es) | callv (a : E) (es : Es) | new (c i : Nat) (es : Es) | meth (a : E) (c i : Nat) (es : Es)
  | bi (b : Bi) (es : Es) | bm (m : Bm) (a : E) (es : Es) | isin (a : E) (cs : List Cl)
  | mk (pin : Bool) (m : M) | lam (i : Nat) (caps : List Nat) | frz (a : E)
  | exIs (i : Nat) (c : Cl) | exFld (i f : Nat)
  | eqO (neg : Bool) (c i : Nat) (a b : E) | tmp (js : List Nat) (a : E)
inductive Es where
  | nil | cons (e : E) (es : Es)
inductive Eo where
  | none | some (e : E)
inductive M where
  | lst (es : Es) | dict0 (t : Bool) | comp (e : E) (g : G) | comp2 (e : E) (g g2 : G) | dcomp (t : Bool) (k v : E) (g : G)
  | list (a : E) | listR (it : It) | sorted (a : E) | dict (t : Bool) (it : It) | copy (a : E) | cat (a b : E) | rep (a b : E) | slice (a : E) (lo hi : Eo) | rev (a : E) | of (a : E)
  | disp (es : Es)
inductive It where
  | e (a : E) | range (a : E) | range2 (a b : E) | enum (a : E) | zip (a b : E) | zip3 (a b c : E) | items (a : E)
inductive T where
  | slot (i : Nat) | tup (ts : Ts)
inductive Ts where
  | nil | cons (t : T) (ts : Ts)
inductive G where
  | mk (t : T) (it : It) (ifs : Es)
end
mutual
inductive S where
  | expr (e : E) | asg (t : T) (e : E) | asgF (a : E) (f : Nat) (e : E) | asgI (a i e : E) | aug (i : Nat) (o : Op) (e : E)
  | ret (e : E) | retN | iff (c : E) (a b : Ss) | for_ (t : T) (it : It) (b : Ss) | while_ (c : E) (b : Ss)
  | raise (c : Nat) (es : Es) | raiseB (n : Nat) | try_ (b : Ss) (hs : Hs) | retfin (e : E) (b : Ss)
  | ndef (i : Nat) (f : Nat) (caps : List Nat) | blk (js : List Nat) (b : Ss) | pass_ | brk | cnt
inductive Ss where
  | nil | cons (s : S) (ss : Ss)
inductive Hs where
  | nil | cons (c : List Cl) (i : Option Nat) (b : Ss) (hs : Hs)
end
structure Ends where
  nx : Env → Hm → Prop
  rt : D → Hm → Prop
  bk : Env → Hm → Prop := fun _ _ => False
  ct : Env → Hm → Prop := fun _ _ => False
  ex : Env → Ex → Hm → Prop

/-- the defs: number, arguments, heap, result, error -/
abbrev Calls := Nat → List D → Hm → (D → Hm → Prop) → (Ex → Hm → Prop) → Prop
/-- the program's classes: the attributes of an own error by its arguments; the bases of an own error -/
structure Cls where
  exf : Nat → List Nat
  /-- own class c is an error under own class c' -/
  sub : Nat → Nat → Bool
  /-- own class is an error -/
  isx : Nat → Bool
  /-- own class is a class of things -/
  isC : Nat → Bool
  /-- the attributes of a class's instances -/
  fld : Nat → Nat → Bool

mutual
def setT : T → D → Env → Option Env
  | .slot i, d, v => some (v.set i (some d))
  | .tup ts, .tup l, v => setTs ts l v
  | .tup ts, .wt l, v => setTs ts l v
  | _, _, _ => none
def setTs : Ts → List D → Env → Option Env
  | .nil, [], v => some v
  | .cons t ts, d :: l, v => (setT t d v).bind (setTs ts l)
  | _, _, _ => none
end
mutual
def slotsT : T → List Nat
  | .slot i => [i]
  | .tup ts => slotsTs ts
def slotsTs : Ts → List Nat
  | .nil => []
  | .cons t ts => slotsT t ++ slotsTs ts
end
def wipe (v : Env) (js : List Nat) : Env := js.foldr (fun j v => v.set j none) v
/-- the turns of a walk that makes a list -/
def loopQ {α : Type} (step : D → α → Hm → (α → Hm → Prop) → Prop) (st : List (Nat × D)) : List D → α → Hm → (α → Hm → Prop) → Prop
  | [], a, h, Q => still st h ∧ Q a h
  | x :: xs, a, h, Q => still st h ∧ step x a h fun a' h' => loopQ step st xs a' h' Q
def whileQ (test : Env → Hm → (Bool → Hm → Prop) → Prop) (body : (Env → Hm → Prop) → Env → Hm → Prop) (nx : Env → Hm → Prop) : Nat → Env → Hm → Prop
  | 0, _, _ => False
  | n + 1, v, h => test v h fun b h' => if b = true then body (fun v' h'' => whileQ test body nx n v' h'') v h' else nx v h'
def exIsC (P : Cls) (x : EC) (c : Cl) : Bool :=
  match x, c with
  | .own a, .own b => P.sub a b
  | .own a, .valueError => P.isx a
  | _, _ => false
def exCatch (P : Cls) (x : EC) (cs : List Cl) : Bool := cs.any (exIsC P x)
abbrev QD := D → Hm → Prop
abbrev QX := Ex → Hm → Prop
def pinQ (p : Bool) (d : D) (h : Hm) (Q : QD) : Prop := if p then Q (.ref h.length) (h ++ [d]) else Q d h
def dictOf (t : Bool) : List D → Option D → Option D
  | [], o => o
  | .tup [k, v] :: r, some (.dK l) => if t then none else (keyOf k).bind fun k => dictOf t r (some (.dK (put l k v)))
  | .tup [k, v] :: r, some (.dT l) => if t then (tkeyOf k).bind fun k => dictOf t r (some (.dT (put l k v))) else none
  | _, _ => none
def emptyD (t : Bool) : D := if t then .dT [] else .dK []
mutual
def noClo : D → Bool
  | .tup l | .wt l | .lst l => noClos l
  | .dK l => noCloK l
  | .dT l => noCloT l
  | .ins _ fs => noCloF fs
  | .clo _ _ | .exc _ _ => false
  | _ => true
def noClos : List D → Bool
  | [] => true
  | a :: l => noClo a && noClos l
def noCloK : List (K × D) → Bool
  | [] => true
  | (_, a) :: l => noClo a && noCloK l
def noCloT : List (List K × D) → Bool
  | [] => true
  | (_, a) :: l => noClo a && noCloT l
def noCloF : List (Nat × D) → Bool
  | [] => true
  | (_, a) :: l => noClo a && noCloF l
end
/-- .. and nothing in it is a def of a def -/
def truncC (n : Nat) (h0 h : Hm) (d : D) (Q : D → Hm → Prop) : Prop :=
  (∀ m, m < n → (∃ o, h[m]? = some o ∧ noClo o = true) ∧ (h[m]? = h0[m]? ∨ ∃ o, h[m]? = some o ∧ frz n o = true)) ∧ ∃ d', reify n h 4 d = some d' ∧ noClo d' = true ∧ Q d' (h.take n)
/-- the slots that may stay -/
def cutE (n : Nat) (v : Env) : Env := v.map fun o => match o with
  | some d => if frz n d && noClo d then some d else none
  | none => none
def truncV (n : Nat) (h0 h : Hm) (v : Env) (Q : Env → Hm → Prop) : Prop :=
  (∀ m, m < n → (∃ o, h[m]? = some o ∧ noClo o = true) ∧ (h[m]? = h0[m]? ∨ ∃ o, h[m]? = some o ∧ frz n o = true)) ∧ Q (cutE n v) (h.take n)
def truncX (n : Nat) (h0 h : Hm) (e : Ex) (X : Ex → Hm → Prop) : Prop := truncC n h0 h (.tup (e.fs.map (·.2))) fun d h2 => ∃ l, d = .tup l ∧ X ⟨e.c, (e.fs.map (·.1)).zip l⟩ h2
mutual
def dE (P : Cls) (C : Calls) : E → Env → Hm → QD → QX → Prop
  | .slot i, v, h, Q, _ => ∃ d, v[i]? = some (some d) ∧ Q d h
  | .cst d, _, h, Q, _ => Q d h
  | .op o a b, v, h, Q, X => dE P C a v h (fun x h1 => dE P C b v h1 (fun y h2 => ∃ z, dOp h2 o x y = some z ∧ Q z h2) X) X
  | .chain o o' a b c, v, h, Q, X => dE P C a v h (fun x h1 => dE P C b v h1 (fun y h2 => ∃ k, dOp h2 o x y = some (.bl k) ∧
      if k = true then dE P C c v h2 (fun z h3 => ∃ r, dOp h3 o' y z = some r ∧ Q r h3) X else Q (.bl false) h2) X) X
  | .neg a, v, h, Q, X => dE P C a v h (fun x h1 => ∃ i, x = .int i ∧ Q (.int (-i)) h1) X
  | .not_ a, v, h, Q, X => dE P C a v h (fun x h1 => ∃ b, x = .bl b ∧ Q (.bl (!b)) h1) X
  | .and_ a b, v, h, Q, X => dE P C a v h (fun x h1 => ∃ k, x = .bl k ∧ if k = true then dE P C b v h1 Q X else Q (.bl false) h1) X
  | .or_ a b, v, h, Q, X => dE P C a v h (fun x h1 => ∃ k, x = .bl k ∧ if k = true then Q (.bl true) h1 else dE P C b v h1 Q X) X
  | .ite c a b, v, h, Q, X => dE P C c v h (fun x h1 => ∃ k, x = .bl k ∧ if k = true then dE P C a v h1 Q X else dE P C b v h1 Q X) X
  | .isNon a, v, h, Q, X => dE P C a v h (fun x h1 => Q (.bl (match x with | .non => true | _ => false)) h1) X
  | .notNon a, v, h, Q, X => dE P C a v h (fun x h1 => Q (.bl (match x with | .non => false | _ => true)) h1) X
  | .tup es, v, h, Q, X => dEs P C es v h (fun l h1 => l.length ≤ LINE ∧ Q (.tup l) h1) X
  | .fld a f, v, h, Q, X => dE P C a v h (fun x h1 => ∃ c fs d, cont h1 x = .ins c fs ∧ P.fld c f = true ∧ look fs f = some d ∧ Q d h1) X
  | .idx a b, v, h, Q, X => dE P C a v h (fun x h1 => dE P C b v h1 (fun y h2 => ∃ z, dItem h2 x y = some z ∧ Q z h2) X) X
  | .slice a lo hi, v, h, Q, X => dE P C a v h (fun x h1 => dEo P C lo v h1 (fun i h2 => dEo P C hi v h2 (fun j h3 => ∃ z, dSlice h3 x i j = some z ∧ Q z h3) X) X) X
  | .rev a, v, h, Q, X => dE P C a v h (fun x h1 => ∃ z, dRev h1 x = some z ∧ Q z h1) X
  | .call i es, v, h, Q, X => dEs P C es v h (fun l h1 => C i l h1 Q X) X
  | .callv a es, v, h, Q, X => dE P C a v h (fun x h1 => match x with
      | .fn i => dEs P C es v h1 (fun l h2 => C i l h2 Q X) X
      | .clo i caps => dEs P C es v h1 (fun l h2 => C i (l ++ caps) h2 Q X) X
      | _ => False) X
  | .new c i es, v, h, Q, X => dEs P C es v h (fun l h1 => C i (.ref h1.length :: l) (h1 ++ [.ins c []]) (fun d h2 => d = .non ∧ Q (.ref h1.length) h2) X) X
  | .meth a c i es, v, h, Q, X => dE P C a v h (fun x h1 => ∃ fs, cont h1 x = .ins c fs ∧ dEs P C es v h1 (fun l h2 => C i (x :: l) h2 Q X) X) X
  | .bi b es, v, h, Q, X => dEs P C es v h (fun l h1 => ∃ z, dBi h1 b l = some z ∧ Q z h1) X
  | .bm m a es, v, h, Q, X => dE P C a v h (fun x h1 => bmTy m (cont h1 x) = true ∧ dEs P C es v h1 (fun l h2 =>
      (∃ z, dBm h2 m x l = some z ∧ Q z h2) ∨
      ∃ n o z o', x = .ref n ∧ h2[n]? = some o ∧ dBmM h2 m n o l = some (z, o') ∧ Q z (h2.set n o')) X) X
  | .isin a cs, v, h, Q, X => dE P C a v h (fun x h1 => isTy P.isC (cont h1 x) = true ∧ Q (.bl (cs.any fun c => isInst (cont h1 x) c)) h1) X
  | .mk p m, v, h, Q, X => dM P C m v h (fun d h1 => pinQ p d h1 Q) X
  | .lam i caps, v, h, Q, _ => ∃ ds, caps.map (fun j => v[j]?) = ds.map (fun d => some (some d)) ∧ Q (.clo i ds) h
  | .frz a, v, h, Q, X => dE P C a v h (fun d h1 => trunc h.length h h1 d Q) (fun e h1 => trunc h.length h h1 (.tup (e.fs.map (·.2))) fun d h2 => ∃ l, d = .tup l ∧ X ⟨e.c, (e.fs.map (·.1)).zip l⟩ h2)
  | .exIs i c, v, h, Q, _ => ∃ x fs, v[i]? = some (some (.exc (.own x) fs)) ∧ P.isx x = true ∧ Q (.bl (exIsC P (.own x) c)) h
  | .exFld i f, v, h, Q, _ => ∃ x fs d, v[i]? = some (some (.exc (.own x) fs)) ∧ P.isx x = true ∧ look fs f = some d ∧ Q d h
  | .eqO neg c i a b, v, h, Q, X => dE P C a v h (fun x h1 => dE P C b v h1 (fun y h2 => (∃ fs, cont h2 x = .ins c fs) ∧ (∃ gs, cont h2 y = .ins c gs) ∧ C i [x, y] h2 (fun d h3 => ∃ k, d = .bl k ∧ Q (.bl (if neg then !k else k)) h3) X) X) X
  | .tmp _ a, v, h, Q, X => dE P C a v h (fun d h1 => truncC h.length h h1 d Q) (fun e h1 => truncX h.length h h1 e X)
def dEs (P : Cls) (C : Calls) : Es → Env → Hm → (List D → Hm → Prop) → QX → Prop
  | .nil, _, h, Q, _ => Q [] h
  | .cons e es, v, h, Q, X => dE P C e v h (fun d h1 => dEs P C es v h1 (fun l h2 => Q (d :: l) h2) X) X
def dEo (P : Cls) (C : Calls) : Eo → Env → Hm → (Option Int → Hm → Prop) → QX → Prop
  | .none, _, h, Q, _ => Q none h
  | .some e, v, h, Q, X => dE P C e v h (fun d h1 => ∃ i, d = .int i ∧ Q (some i) h1) X
/-- a new container -/
def dM (P : Cls) (C : Calls) : M → Env → Hm → QD → QX → Prop
  | .lst es, v, h, Q, X => dEs P C es v h (fun l h1 => l.length ≤ LINE ∧ Q (.lst l) h1) X
  | .dict0 t, _, h, Q, _ => Q (emptyD t) h
  | .comp e (.mk t it ifs), v, h, Q, X => dIt P C it v h (fun st l h1 => l.length ≤ LINE ∧
      loopQ (fun x acc h k => ∃ v', setT t x (wipe v (slotsT t)) = some v' ∧ dTests P C ifs v' h (fun b h' => if b = true then dE P C e v' h' (fun d h'' => k (acc ++ [d]) h'') (fun _ _ => False) else k acc h')) st l [] h1 (fun acc h2 => Q (.lst acc) h2)) X
  | .comp2 e (.mk t it ifs) (.mk t2 it2 ifs2), v, h, Q, X => dIt P C it v h (fun st l h1 =>
      loopQ (fun x acc h k => ∃ v', setT t x (wipe (wipe v (slotsT t2)) (slotsT t)) = some v' ∧ dTests P C ifs v' h (fun b h' => if b = true then
        dIt P C it2 v' h' (fun st2 l2 h1 => loopQ (fun x2 acc h k => ∃ v'', setT t2 x2 v' = some v'' ∧ dTests P C ifs2 v'' h (fun b h' => if b = true then dE P C e v'' h' (fun d h'' => acc.length < LINE ∧ k (acc ++ [d]) h'') (fun _ _ => False) else k acc h')) st2 l2 acc h1 k) (fun _ _ => False)
        else k acc h')) st l [] h1 (fun acc h2 => Q (.lst acc) h2)) X
  | .dcomp tt ek ev (.mk t it ifs), v, h, Q, X => dIt P C it v h (fun st l h1 => l.length ≤ LINE ∧
      loopQ (fun x acc h k => ∃ v', setT t x (wipe v (slotsT t)) = some v' ∧ dTests P C ifs v' h (fun b h' => if b = true then dE P C ek v' h' (fun dk h'' => dE P C ev v' h'' (fun dv h3 => ∃ acc', dSet acc dk dv = some acc' ∧ k acc' h3) (fun _ _ => False)) (fun _ _ => False) else k acc h')) st l (emptyD tt) h1 (fun acc h2 => Q acc h2)) X
  | .list a, v, h, Q, X => dE P C a v h (fun x h1 => ∃ l, collD (cont h1 x) = some l ∧ l.length ≤ LINE ∧ Q (.lst l) h1) X
  | .listR it, v, h, Q, X => dIt P C it v h (fun _ l h1 => Q (.lst l) h1) X
  | .sorted a, v, h, Q, X => dE P C a v h (fun x h1 => ∃ l, collD (cont h1 x) = some l ∧ l.length ≤ LINE ∧ sortable l = true ∧ Q (.lst (sortD l)) h1) X
  | .dict t it, v, h, Q, X => dIt P C it v h (fun _ l h1 => ∃ d, dictOf t l (some (emptyD t)) = some d ∧ Q d h1) X
  | .copy a, v, h, Q, X => dE P C a v h (fun x h1 => match cont h1 x with
      | .dK l => Q (.dK l) h1
      | .dT l => Q (.dT l) h1
      | _ => False) X
  | .cat a b, v, h, Q, X => dE P C a v h (fun x h1 => dE P C b v h1 (fun y h2 => ∃ l m, cont h2 x = .lst l ∧ cont h2 y = .lst m ∧ l.length + m.length ≤ LINE ∧ Q (.lst (l ++ m)) h2) X) X
  | .rep a b, v, h, Q, X => dE P C a v h (fun x h1 => dE P C b v h1 (fun y h2 => ∃ l j, cont h2 x = .lst l ∧ y = .int j ∧ j.natAbs < 1000000 ∧ l.length * j.toNat ≤ LINE ∧ Q (.lst (rep j.toNat l)) h2) X) X
  | .slice a lo hi, v, h, Q, X => dE P C a v h (fun x h1 => dEo P C lo v h1 (fun i h2 => dEo P C hi v h2 (fun j h3 => ∃ l, cont h3 x = .lst l ∧ Q (.lst (cut l i j)) h3) X) X) X
  | .rev a, v, h, Q, X => dE P C a v h (fun x h1 => ∃ l, cont h1 x = .lst l ∧ Q (.lst l.reverse) h1) X
  | .of a, v, h, Q, X => dE P C a v h (fun x h1 => ∃ l, x = .lst l ∧ Q (.lst l) h1) X
  | .disp es, v, h, Q, X => dEs P C es v h (fun l h1 => ∃ d, dictOf false l (some (.dK [])) = some d ∧ Q d h1) X
/-- what is walked: where it stands (if it may turn), its items -/
def dIt (P : Cls) (C : Calls) : It → Env → Hm → (List (Nat × D) → List D → Hm → Prop) → QX → Prop
  | .e a, v, h, Q, X => dE P C a v h (fun d h1 => ∃ l, walkD h1 d = some l ∧ Q (src h1 d) l h1) X
  | .range a, v, h, Q, X => dE P C a v h (fun d h1 => ∃ n, d = .int n ∧ n.natAbs ≤ LINE ∧ Q [] ((List.range n.toNat).map fun (i : Nat) => .int i) h1) X
  | .range2 a b, v, h, Q, X => dE P C a v h (fun d h1 => dE P C b v h1 (fun e h2 => ∃ m n, d = .int m ∧ e = .int n ∧ m.natAbs ≤ LINE ∧ n.natAbs ≤ LINE ∧ (n - m).toNat ≤ LINE ∧ Q [] ((List.range (n - m).toNat).map fun (i : Nat) => .int (m + i)) h2) X) X
  | .enum a, v, h, Q, X => dE P C a v h (fun d h1 => ∃ l, seqD h1 d = some l ∧ Q (src h1 d) (enumFrom 0 l) h1) X
  | .zip a b, v, h, Q, X => dE P C a v h (fun d h1 => dE P C b v h1 (fun e h2 => ∃ l m, seq2D h2 d e = some (l, m) ∧ Q (src h2 d ++ src h2 e) (zip2 l m) h2) X) X
  | .zip3 a b c, v, h, Q, X => dE P C a v h (fun d h1 => dE P C b v h1 (fun e h2 => dE P C c v h2 (fun f h3 => ∃ l m n, seqD h3 d = some l ∧ seqD h3 e = some m ∧ seqD h3 f = some n ∧ Q (src h3 d ++ (src h3 e ++ src h3 f)) (zip3 l m n) h3) X) X) X
  | .items a, v, h, Q, X => dE P C a v h (fun d h1 => ∃ l, pairs d = some l ∧ Q [] l h1) X
def dTests (P : Cls) (C : Calls) : Es → Env → Hm → (Bool → Hm → Prop) → Prop
  | .nil, _, h, Q => Q true h
  | .cons e es, v, h, Q => dE P C e v h (fun d h1 => ∃ b, d = .bl b ∧ if b = true then dTests P C es v h1 Q else Q false h1) (fun _ _ => False)
end
mutual
def dS (P : Cls) (C : Calls) : S → Ends → Env → Hm → Prop
  | .expr e, D, v, h => dE P C e v h (fun _ h1 => D.nx v h1) (D.ex v)
  | .asg t e, D, v, h => dE P C e v h (fun d h1 => ∃ v', setT t d v = some v' ∧ D.nx v' h1) (D.ex v)
  | .asgF a f e, D, v, h => dE P C e v h (fun d h1 => dE P C a v h1 (fun x h2 => ∃ n c fs, x = .ref n ∧ h2[n]? = some (.ins c fs) ∧ P.fld c f = true ∧ fs.length < 1000 ∧ D.nx v (h2.set n (.ins c (putF fs f d)))) (D.ex v)) (D.ex v)
  | .asgI a i e, D, v, h => dE P C e v h (fun d h1 => dE P C a v h1 (fun x h2 => dE P C i v h2 (fun y h3 => ∃ n o o', x = .ref n ∧ h3[n]? = some o ∧ dSet o y d = some o' ∧ D.nx v (h3.set n o')) (D.ex v)) (D.ex v)) (D.ex v)
  | .aug i o e, D, v, h => ∃ x, v[i]? = some (some x) ∧ dE P C e v h (fun y h1 => ∃ z, dOp h1 o x y = some z ∧ D.nx (v.set i (some z)) h1) (D.ex v)
  | .ret e, D, v, h => dE P C e v h D.rt (D.ex v)
  | .retN, D, _, h => D.rt .non h
  | .iff c a b, D, v, h => dE P C c v h (fun x h1 => ∃ k, x = .bl k ∧ if k = true then dSs P C a D v h1 else dSs P C b D v h1) (D.ex v)
  | .for_ t it b, D, v, h => dIt P C it v h (fun st l h1 =>
      loopQ (fun x v h k => ∃ v', setT t x v = some v' ∧ dSs P C b { D with nx := k, ct := k, bk := D.nx } v' h) st l v h1 D.nx) (D.ex v)
  | .while_ c b, D, v, h => ∃ n, whileQ (fun v h k => dE P C c v h (fun x h1 => ∃ b, x = .bl b ∧ k b h1) (D.ex v)) (fun k v h => dSs P C b { D with nx := k, ct := k, bk := D.nx } v h) D.nx n v h
  | .raise c es, D, v, h => dEs P C es v h (fun l h1 => l.length = (P.exf c).length ∧ D.ex v ⟨.own c, (P.exf c).zip l⟩ h1) (D.ex v)
  | .raiseB n, D, v, h => D.ex v ⟨.bi n, []⟩ h
  | .try_ b hs, D, v, h => dSs P C b { D with ex := fun v' e h' => dHs P C hs D v' e h' } v h
  | .retfin e b, D, v, h => dE P C e v h (fun d h1 => dSs P C b { nx := fun _ h2 => D.rt d h2, rt := fun _ _ => False, ex := fun _ _ _ => False } v h1)
      (fun x h1 => dSs P C b { nx := fun v' h2 => D.ex v' x h2, rt := fun _ _ => False, ex := fun _ _ _ => False } v h1)
  | .ndef i f caps, D, v, h => ∃ ds, caps.map (fun j => v[j]?) = ds.map (fun d => some (some d)) ∧ D.nx (v.set i (some (.clo f ds))) h
  | .blk _ b, D, v, h => dSs P C b { nx := fun v' h' => truncV h.length h h' v' D.nx, rt := fun d h' => truncC h.length h h' d D.rt, bk := fun v' h' => truncV h.length h h' v' D.bk, ct := fun v' h' => truncV h.length h h' v' D.ct, ex := fun v' e h' => truncX h.length h h' e (D.ex (cutE h.length v')) } v h
  | .pass_, D, v, h => D.nx v h
  | .brk, D, v, h => D.bk v h
  | .cnt, D, v, h => D.ct v h
def dSs (P : Cls) (C : Calls) : Ss → Ends → Env → Hm → Prop
  | .nil, D, v, h => D.nx v h
  | .cons s ss, D, v, h => dS P C s { D with nx := fun v' h' => dSs P C ss D v' h' } v h
def dHs (P : Cls) (C : Calls) : Hs → Ends → Env → Ex → Hm → Prop
  | .nil, D, v, e, h => D.ex v e h
  | .cons cs i b hs, D, v, e, h => if exCatch P e.c cs = true then (match i with
      | none => dSs P C b { D with ex := fun _ _ _ => False } v h
      | some i => dSs P C b { nx := fun v' h' => D.nx (v'.set i none) h', rt := D.rt, bk := fun v' h' => D.bk (v'.set i none) h', ct := fun v' h' => D.ct (v'.set i none) h', ex := fun _ _ _ => False } (v.set i (some (.exc e.c e.fs))) h) else dHs P C hs D v e h
end
/-- a def: how many slots, its parameters (captured ones behind), its body, whether what it made is let go -/
structure Fn where
  slots : Nat
  params : Nat
  tr : Bool
  body : Ss
def callBody (P : Cls) (C : Calls) (f : Fn) (l : List D) (h : Hm) (Q : QD) (X : QX) : Prop :=
  l.length = f.params ∧ dSs P C f.body { nx := fun _ h' => Q .non h', rt := Q, ex := fun _ e h' => X e h' } (l.map some ++ List.replicate (f.slots - l.length) none) h
def callAt (P : Cls) (F : Nat → Option Fn) : Nat → Calls
  | 0, _, _, _, _, _ => False
  | k + 1, i, l, h, Q, X => ∃ f, F i = some f ∧
    if f.tr = true then callBody P (callAt P F k) f l h (fun d h' => trunc h.length h h' d Q) (fun e h1 => trunc h.length h h1 (.tup (e.fs.map (·.2))) fun d h2 => ∃ l, d = .tup l ∧ X ⟨e.c, (e.fs.map (·.1)).zip l⟩ h2)
    else callBody P (callAt P F k) f l h Q X
end Pv
end

section
set_option maxRecDepth 100000
/-! the order of a sort, in plain Lean -/
namespace Pv
/-- a strict total order -/
structure Tot {α : Type} (lt : α → α → Bool) : Prop where
  irr : ∀ a, lt a a = false
  asym : ∀ a b, lt a b = true → lt b a = false
  tri : ∀ a b, lt a b = false → lt b a = false → a = b
  tr : ∀ a b c, lt a b = true → lt b c = true → lt a c = true
def lexL {α : Type} [DecidableEq α] (lt : α → α → Bool) : List α → List α → Bool
  | [], [] => false
  | [], _ :: _ => true
  | _ :: _, [] => false
  | a :: l, b :: m => if a = b then lexL lt l m else lt a b
theorem lexL_cons {α : Type} [DecidableEq α] (lt : α → α → Bool) (a b : α) (l m : List α) : lexL lt (a :: l) (b :: m) = if a = b then lexL lt l m else lt a b := rfl
theorem Tot.lex {α : Type} [DecidableEq α] {lt : α → α → Bool} (T : Tot lt) : Tot (lexL lt) := by
  refine ⟨fun l => ?_, fun l => ?_, fun l => ?_, fun l => ?_⟩
  · induction l with
    | nil => rfl
    | cons a l ih => rw [lexL, if_pos rfl]; exact ih
  · induction l with
    | nil => intro m h; cases m <;> first | rfl | cases h
    | cons a l ih =>
      intro m h
      cases m with
      | nil => cases h
      | cons b m =>
        rw [lexL] at h ⊢
        by_cases e : a = b
        · rw [if_pos e] at h; rw [if_pos e.symm]; exact ih m h
        · rw [if_neg e] at h; rw [if_neg (Ne.symm e)]; exact T.asym _ _ h
  · induction l with
    | nil => intro m h1 h2; cases m <;> first | rfl | cases h1
    | cons a l ih =>
      intro m h1 h2
      cases m with
      | nil => cases h2
      | cons b m =>
        rw [lexL] at h1 h2
        by_cases e : a = b
        · rw [if_pos e] at h1; rw [if_pos e.symm] at h2; rw [e, ih m h1 h2]
        · rw [if_neg e] at h1; rw [if_neg (Ne.symm e)] at h2; exact absurd (T.tri _ _ h1 h2) e
  · induction l with
    | nil => intro m n h1 h2; cases m <;> cases n <;> first | rfl | (cases h1; done) | (cases h2; done)
    | cons a l ih =>
      intro m n h1 h2
      cases m with
      | nil => cases h1
      | cons b m =>
        cases n with
        | nil => cases h2
        | cons c n =>
          rw [lexL] at h1 h2 ⊢
          by_cases e : a = b
          · rw [if_pos e] at h1
            subst e
            by_cases f : a = c
            · rw [if_pos f] at h2 ⊢; exact ih m n h1 h2
            · rw [if_neg f] at h2 ⊢; exact h2
          · rw [if_neg e] at h1
            by_cases f : b = c
            · subst f; rw [if_neg e]; exact h1
            · rw [if_neg f] at h2
              have h3 := T.tr _ _ _ h1 h2
              rw [if_neg (fun z => by subst z; rw [T.asym _ _ h1] at h2; cases h2)]
              exact h3
def ltZ (a b : Int) : Bool := decide (a < b)
theorem ltZ_tot : Tot ltZ := by
  unfold ltZ
  refine ⟨fun a => by simp, fun a b h => ?_, fun a b h1 h2 => ?_, fun a b c h1 h2 => ?_⟩ <;> simp only [decide_eq_true_eq, decide_eq_false_iff_not] at * <;> omega
abbrev ltE : List Int → List Int → Bool := lexL ltZ
abbrev ltK : List (List Int) → List (List Int) → Bool := lexL ltE
theorem ltE_tot : Tot ltE := ltZ_tot.lex
theorem ltK_tot : Tot ltK := ltE_tot.lex
theorem ltE_cons (a b : Int) (l m : List Int) : ltE (a :: l) (b :: m) = if a = b then ltE l m else ltZ a b := rfl
theorem ltK_cons (a b : List Int) (l m : List (List Int)) : ltK (a :: l) (b :: m) = if a = b then ltK l m else ltE a b := rfl
def keyE : D → List Int
  | .int i => [i]
  | .str x => x.map Int.ofNat
  | .tup l => (intsOf l).getD []
  | _ => []
def keyD : D → List (List Int)
  | .tup l => l.map keyE
  | d => [keyE d]
theorem ltInts_E : ∀ a b : List Int, ltInts a b = ltE a b
  | [], [] => rfl
  | [], _ :: _ => rfl
  | _ :: _, [] => rfl
  | a :: l, b :: m => by rw [ltInts, ltE_cons, ltInts_E l m]; rfl
theorem ltNats_E : ∀ a b : List Nat, ltNats a b = ltE (a.map Int.ofNat) (b.map Int.ofNat)
  | [], [] => rfl
  | [], _ :: _ => rfl
  | _ :: _, [] => rfl
  | a :: l, b :: m => by
    rw [ltNats, List.map_cons, List.map_cons, ltE_cons, ltNats_E l m]
    by_cases e : a = b
    · rw [if_pos e, if_pos (by rw [e])]
    · rw [if_neg e, if_neg (fun z => e (Int.ofNat.inj z))]
      unfold ltZ
      simp only [Int.ofNat_eq_natCast, Int.ofNat_lt]
theorem intsOf_eq : ∀ {l : List D} {a : List Int}, intsOf l = some a → l = a.map .int
  | [], a, h => by cases h; rfl
  | d :: l, a, h => by
    cases d with
    | int i =>
      obtain ⟨b, h1, rfl⟩ := Option.map_eq_some_iff.mp h
      rw [intsOf_eq h1]; rfl
    | _ => cases h
theorem intsOf_map (a : List Int) : intsOf (a.map .int) = some a := by
  induction a with
  | nil => rfl
  | cons i a ih => show (intsOf (a.map .int)).map _ = _; rw [ih]; rfl
theorem deqs_ints : ∀ a b : List Int, deqs (a.map .int) (b.map .int) = decide (a = b)
  | [], [] => rfl
  | [], _ :: _ => rfl
  | _ :: _, [] => rfl
  | a :: l, b :: m => by
    show (a == b && deqs (l.map .int) (m.map .int)) = _
    rw [deqs_ints l m, Bool.eq_iff_iff]
    simp
theorem slts_ints : ∀ a b : List Int, slts (a.map .int) (b.map .int) = ltE a b
  | [], [] => rfl
  | [], _ :: _ => rfl
  | _ :: _, [] => rfl
  | a :: l, b :: m => by
    show (if (a == b) = true then slts (l.map .int) (m.map .int) else decide (a < b)) = _
    rw [slts_ints l m, ltE_cons]
    by_cases e : a = b
    · rw [if_pos (by simpa using e), if_pos e]
    · rw [if_neg (by simpa using e), if_neg e]; rfl
theorem map_ofNat_inj : ∀ {a b : List Nat}, a.map Int.ofNat = b.map Int.ofNat → a = b
  | [], [], _ => rfl
  | [], _ :: _, h => by cases h
  | _ :: _, [], h => by cases h
  | a :: l, b :: m, h => by
    rw [List.map_cons, List.map_cons] at h
    injection h with h1 h2
    rw [Int.ofNat.inj h1, map_ofNat_inj h2]
theorem cmpE_facts {a b : D} (h : cmpE a b = true) : slt a b = ltE (keyE a) (keyE b) ∧ deq a b = decide (keyE a = keyE b) ∧ (keyE a = keyE b → a = b) := by
  unfold cmpE at h
  split at h
  · rename_i i j
    refine ⟨?_, ?_, fun e => ?_⟩
    · show decide (i < j) = lexL ltZ [i] [j]
      rw [lexL_cons]
      by_cases e : i = j
      · rw [if_pos e, e]; simp [lexL]
      · rw [if_neg e]; rfl
    · show (i == j) = decide ([i] = [j])
      rw [Bool.eq_iff_iff]; simp
    · injection e with e; rw [e]
  · rename_i x y
    refine ⟨ltNats_E x y, ?_, fun e => by rw [map_ofNat_inj e]⟩
    show (x == y) = decide (x.map Int.ofNat = y.map Int.ofNat)
    rw [Bool.eq_iff_iff]
    simp only [beq_iff_eq, decide_eq_true_eq]
    exact ⟨fun e => by rw [e], map_ofNat_inj⟩
  · rename_i l m
    obtain ⟨h1, h2⟩ := Bool.and_eq_true_iff.mp h
    obtain ⟨p, hp⟩ := Option.isSome_iff_exists.mp h1
    obtain ⟨q, hq⟩ := Option.isSome_iff_exists.mp h2
    have e1 := intsOf_eq hp
    have e2 := intsOf_eq hq
    subst e1 e2
    have k1 : keyE (.tup (p.map .int)) = p := by show (intsOf _).getD [] = p; rw [hp]; rfl
    have k2 : keyE (.tup (q.map .int)) = q := by show (intsOf _).getD [] = q; rw [hq]; rfl
    rw [k1, k2]
    exact ⟨slts_ints p q, deqs_ints p q, fun e => by rw [e]⟩
  · cases h
theorem cmpEs_facts : ∀ {l m : List D}, cmpEs l m = true → slts l m = ltK (l.map keyE) (m.map keyE) ∧ (l.map keyE = m.map keyE → l = m)
  | [], [], _ => ⟨rfl, fun _ => rfl⟩
  | [], _ :: _, _ => ⟨rfl, fun e => by cases e⟩
  | _ :: _, [], _ => ⟨rfl, fun e => by cases e⟩
  | a :: l, b :: m, h => by
    obtain ⟨h1, h2⟩ := Bool.and_eq_true_iff.mp h
    obtain ⟨f1, f2, f3⟩ := cmpE_facts h1
    obtain ⟨g1, g2⟩ := cmpEs_facts h2
    refine ⟨?_, fun e => ?_⟩
    · rw [slts, List.map_cons, List.map_cons, ltK_cons, f1, f2, g1]
      by_cases e : keyE a = keyE b
      · rw [if_pos (by simpa using e), if_pos e]
      · rw [if_neg (by simpa using e), if_neg e]
    · rw [List.map_cons, List.map_cons] at e
      injection e with e1 e2
      rw [f3 e1, g2 e2]
theorem cmpOk_facts {a b : D} (h : cmpOk a b = true) : slt a b = ltK (keyD a) (keyD b) ∧ (keyD a = keyD b → a = b) := by
  have one : ∀ {a b : D}, cmpE a b = true → slt a b = ltK [keyE a] [keyE b] ∧ ([keyE a] = [keyE b] → a = b) := fun {a b} h => by
    obtain ⟨f1, f2, f3⟩ := cmpE_facts h
    refine ⟨?_, fun e => by injection e with e; exact f3 e⟩
    rw [f1, ltK_cons]
    by_cases e : keyE a = keyE b
    · rw [if_pos e, e]; exact ltE_tot.irr _
    · rw [if_neg e]
  unfold cmpOk at h
  split at h
  · exact one rfl
  · exact one rfl
  · obtain ⟨g1, g2⟩ := cmpEs_facts h
    exact ⟨g1, fun e => by rw [g2 e]⟩
  · cases h
/-- two sorted lists of the same things -/
theorem perm_uniq {α : Type} {lt : α → α → Bool} : ∀ {l m : List α}, (∀ a ∈ l, ∀ b ∈ l, lt a b = false → lt b a = false → a = b) → l.Pairwise (fun a b => lt b a = false) → m.Pairwise (fun a b => lt b a = false) → l.Perm m → l = m
  | [], m, _, _, _, p => (List.Perm.eq_nil p.symm).symm
  | a :: l, m, tri, s1, s2, p => by
    obtain ⟨b, m, rfl⟩ : ∃ b m', m = b :: m' := by
      cases m with
      | nil => exact absurd p.length_eq (by simp)
      | cons b m => exact ⟨b, m, rfl⟩
    have ha : a ∈ b :: m := p.mem_iff.mp List.mem_cons_self
    have hb : b ∈ a :: l := p.mem_iff.mpr List.mem_cons_self
    have e : a = b := by
      rcases List.mem_cons.mp ha with e | ha
      · exact e
      · rcases List.mem_cons.mp hb with e | hb'
        · exact e.symm
        · exact tri a List.mem_cons_self b hb ((List.pairwise_cons.mp s2).1 a ha) ((List.pairwise_cons.mp s1).1 b hb')
    subst e
    rw [perm_uniq (fun x hx y hy => tri x (List.mem_cons_of_mem _ hx) y (List.mem_cons_of_mem _ hy)) (List.pairwise_cons.mp s1).2 (List.pairwise_cons.mp s2).2 p.cons_inv]
theorem insD_perm (x : D) : ∀ l, (insD x l).Perm (x :: l)
  | [] => List.Perm.refl _
  | y :: l => by
    rw [insD]
    split
    · exact ((insD_perm x l).cons y).trans (List.Perm.swap x y l)
    · exact List.Perm.refl _
theorem sortD_perm : ∀ l, (sortD l).Perm l
  | [] => List.Perm.refl _
  | x :: l => (insD_perm x _).trans ((sortD_perm l).cons x)
theorem sortD_len (l : List D) : (sortD l).length = l.length := (sortD_perm l).length_eq
theorem insD_sorted (x : D) : ∀ {l : List D}, (∀ a ∈ x :: l, ∀ b ∈ x :: l, cmpOk a b = true) → l.Pairwise (fun a b => slt b a = false) → (insD x l).Pairwise (fun a b => slt b a = false)
  | [], _, _ => List.pairwise_singleton _ _
  | y :: l, h, s => by
    have hxy := h x List.mem_cons_self y (List.mem_cons_of_mem _ List.mem_cons_self)
    have hyx := h y (List.mem_cons_of_mem _ List.mem_cons_self) x List.mem_cons_self
    rw [insD]
    split
    · rename_i lt
      refine List.pairwise_cons.mpr ⟨fun z hz => ?_, insD_sorted x (fun a ha b hb => h a ?_ b ?_) (List.pairwise_cons.mp s).2⟩
      · rcases List.mem_cons.mp ((insD_perm x l).mem_iff.mp hz) with rfl | hz
        · rw [(cmpOk_facts hyx).1] at lt
          rw [(cmpOk_facts hxy).1]
          exact ltK_tot.asym _ _ lt
        · exact (List.pairwise_cons.mp s).1 z hz
      · rcases List.mem_cons.mp ha with rfl | ha
        · exact List.mem_cons_self
        · exact List.mem_cons_of_mem _ (List.mem_cons_of_mem _ ha)
      · rcases List.mem_cons.mp hb with rfl | hb
        · exact List.mem_cons_self
        · exact List.mem_cons_of_mem _ (List.mem_cons_of_mem _ hb)
    · rename_i nlt
      have nlt : slt y x = false := by simpa using nlt
      refine List.pairwise_cons.mpr ⟨fun z hz => ?_, s⟩
      rcases List.mem_cons.mp hz with rfl | hz
      · exact nlt
      · have hz1 : z ∈ x :: y :: l := List.mem_cons_of_mem _ (List.mem_cons_of_mem _ hz)
        have q := (List.pairwise_cons.mp s).1 z hz
        have hzy := h z hz1 y (List.mem_cons_of_mem _ List.mem_cons_self)
        have hzx := h z hz1 x List.mem_cons_self
        rw [(cmpOk_facts hzy).1] at q
        rw [(cmpOk_facts hyx).1] at nlt
        rw [(cmpOk_facts hzx).1]
        cases r : ltK (keyD z) (keyD x) with
        | false => rfl
        | true =>
          exfalso
          by_cases e : ltK (keyD x) (keyD y) = true
          · rw [ltK_tot.tr _ _ _ r e] at q; cases q
          · have e2 := ltK_tot.tri _ _ (by simpa using e) nlt
            rw [e2] at r
            rw [r] at q; cases q
theorem sortD_sorted : ∀ {l : List D}, (∀ a ∈ l, ∀ b ∈ l, cmpOk a b = true) → (sortD l).Pairwise (fun a b => slt b a = false)
  | [], _ => List.Pairwise.nil
  | x :: l, h => insD_sorted x (fun a ha b hb => h a (((sortD_perm l).cons x).mem_iff.mp ha) b (((sortD_perm l).cons x).mem_iff.mp hb)) (sortD_sorted fun a ha b hb => h a (List.mem_cons_of_mem _ ha) b (List.mem_cons_of_mem _ hb))
theorem sortable_cmp {l : List D} (h : sortable l = true) : ∀ a ∈ l, ∀ b ∈ l, cmpOk a b = true := fun a ha b hb =>
  List.all_eq_true.mp (List.all_eq_true.mp (Bool.and_eq_true_iff.mp h).2 a ha) b hb
/-- whatever is sorted and has the same things -/
theorem sortD_uniq {l m : List D} (h : sortable l = true) (p : m.Perm l) (s : m.Pairwise (fun a b => slt b a = false)) : m = sortD l := by
  have c := sortable_cmp h
  refine (perm_uniq (lt := slt) (fun a ha b hb h1 h2 => ?_) (sortD_sorted c) s ((sortD_perm l).trans p.symm)).symm
  have ha := (sortD_perm l).mem_iff.mp ha
  have hb := (sortD_perm l).mem_iff.mp hb
  obtain ⟨f1, f2⟩ := cmpOk_facts (c a ha b hb)
  rw [f1] at h1
  rw [(cmpOk_facts (c b hb a ha)).1] at h2
  exact f2 (ltK_tot.tri _ _ h1 h2)
end Pv
end

section
set_option maxRecDepth 100000
set_option maxHeartbeats 4000000
namespace Pv
open PySem PySem.Spec PyProof.Rows L2
def sV (x : List Nat) : Str := ⟨x.toArray⟩
theorem sV_inj {x y : List Nat} (h : sV x = sV y) : x = y := by
  have := congrArg (fun s : Str => s.cps.toList) h
  simpa [sV] using this
def keyV : K → Key
  | .inl i => .inl i
  | .inr x => .inr (sV x)
theorem keyV_inj {a b : K} (h : keyV a = keyV b) : a = b := by
  cases a <;> cases b <;> simp [keyV] at h
  · rw [h]
  · rw [sV_inj h]
def clsName : Cl → String
  | .int => "int" | .bool => "bool" | .str => "str" | .tuple => "tuple" | .list => "list" | .dict => "dict" | .valueError => "ValueError" | .own _ => ""
/-- the words of a def of a def -/
structure Nf where
  name : Str
  qual : Str
  params : Arguments
  body : FuncBody
  scope : Scope
  caps : List Str
/-- where the program stands -/
structure At where
  K : PySem.W.Frag
  fa : Nat → Addr
  ca : Nat → Addr
  fn : Nat → Str
  fnI : ∀ a b, fn a = fn b → a = b
  nf : Nat → Option Nf
  tab : Hp → Prop
  tabK : ∀ H H', (∀ b p, H b = some (.ext p) → H' b = some (.ext p)) → (∀ b p, H b = some (.tbl p) → H' b = some (.tbl p)) → tab H → tab H'
/-- the changing places; those to keep off -/
structure Wd where
  ph : List Addr
  av : List Addr
  cl : List (Addr × V)
/-- the cell at c holds v -/
def CelOk (w : Wd) (H : Hp) (c : Addr) (v : V) : Prop := (c, v) ∈ w.cl ∨ ∃ o u y, H c = some (.frz o (.own y)) ∧ o.data = .cell (some u) ∧ RelV v u
/-- the object at f is a function made within a def: its words, its cells, its code -/
def FnG (f : Addr) (n : Nf) (cs : List (Str × Addr)) (c : Addr) : HO := .ext fun h => ∃ (od : Option Addr) (sl : Array (Option Value)) (doc pm ct : Value), h.get? f = some (⟨.type "function", od, .func { name := n.name, qualname := n.qual, params := n.params, body := n.body, scope := n.scope, globals := mainGlobals, closure := cs, defaults := .none, kwdefaults := .none, doc := doc, pyModule := pm, annotations := none, code := .ref c, closureTuple := ct, builtins := builtinsNs }, sl⟩ : Obj)
/-- a made function with its captured values -/
def Clo (Y : At) (w : Wd) (H : Hp) (f : Addr) (i : Nat) (vs : List V) : Prop :=
  ∃ (n : Nf) (cs : List (Str × Addr)) (c' : Addr), Y.nf i = some n ∧ H f = some (FnG f n cs c') ∧ H c' = some (LamX.CodeO c' n.qual) ∧
    cs.map (·.1) = n.caps ∧ Paired (CelOk w H) (cs.map (·.2)) vs ∧ (cs.map (·.2)).Nodup
theorem CelOk.mono {w w' : Wd} {H H' : Hp} (hc : ∀ p ∈ w.cl, p ∈ w'.cl) (e : ∀ b o y, H b = some (.frz o (.own y)) → H' b = some (.frz o (.own y))) {c : Addr} {v : V} (k : CelOk w H c v) : CelOk w' H' c v :=
  k.imp (hc _) fun ⟨o, u, y, h1, h2, h3⟩ => ⟨o, u, y, e _ _ _ h1, h2, h3⟩
theorem paired_mono {α β : Type} {F G : α → β → Prop} (f : ∀ a b, F a b → G a b) : ∀ {l₁ : List α} {l₂ : List β}, Paired F l₁ l₂ → Paired G l₁ l₂
  | _, _, .nil => .nil
  | _, _, .cons r t => .cons (f _ _ r) (paired_mono f t)
theorem Clo.mono {Y : At} {w w' : Wd} {H H' : Hp} (hc : ∀ p ∈ w.cl, p ∈ w'.cl) (e : ∀ b p, H b = some (.ext p) → H' b = some (.ext p)) (e2 : ∀ b o y, H b = some (.frz o (.own y)) → H' b = some (.frz o (.own y))) {f : Addr} {i : Nat} {vs : List V} (k : Clo Y w H f i vs) : Clo Y w' H' f i vs :=
  let ⟨n, cs, c', h1, h2, h3, h4, h5, h6⟩ := k
  ⟨n, cs, c', h1, e _ _ h2, e _ _ h3, h4, paired_mono (fun _ _ r => r.mono hc e2) h5, h6⟩
def Off (w : Wd) (a : Addr) : Prop := a ∉ w.ph ∧ a ∉ w.av
def clsV (Y : At) : Cl → V
  | .own c => .ref (Y.ca c)
  | c => .ty (clsName c)
/-- a tuple of the written part -/
def WrT (K : PySem.W.Frag) (a : Addr) (xs : List V) : Prop := ∃ (o : Obj) (its : Array Value) (n : Nat), K.lookup a = some o ∧ o.cls = .type "tuple" ∧ o.data = .seq its n ∧ its.size ≤ sizeLine ∧ Vals xs its.toList
/-- a list of the written part -/
def WrL (K : PySem.W.Frag) (a : Addr) (xs : List V) : Prop := ∃ (o : Obj) (its : Array Value) (n : Nat), K.lookup a = some o ∧ o.cls = .type "list" ∧ o.dict = none ∧ o.data = .seq its n ∧ its.size ≤ sizeLine ∧ Vals xs its.toList
mutual
def Rep (Y : At) (w : Wd) (H : Hp) : D → V → Prop
  | .non, v => v = .non
  | .bl b, v => v = .bl b
  | .int i, v => v = .int i
  | .str x, v => v = .str (sV x)
  | .tup l, v => ∃ a vs, v = .ref a ∧ H a = some (.tup vs) ∧ Reps Y w H l vs
  | .wt l, v => ∃ a vs, v = .ref a ∧ WrT Y.K a vs ∧ Reps Y w H l vs
  | .lst l, v => ∃ a vs, v = .ref a ∧ Off w a ∧ H a = some (.lst vs) ∧ Reps Y w H l vs
  | .dK l, v => ∃ a kvs, v = .ref a ∧ Off w a ∧ Rd H a (.dK kvs) ∧ RepK Y w H l kvs
  | .dT l, v => ∃ a kvs, v = .ref a ∧ Off w a ∧ Rd H a (.dT kvs) ∧ RepT Y w H l kvs
  | .rng lo hi, v => ∃ a, v = .ref a ∧ Off w a ∧ H a = some (.rng lo hi)
  | .ins c fs, v => ∃ a dx fv, v = .ref a ∧ Off w a ∧ H a = some (.ins (Y.ca c) dx fv) ∧ RepF Y w H fs fv
  | .ref n, v => ∃ a, w.ph[n]? = some a ∧ v = .ref a
  | .fn i, v => v = .ref (Y.fa i) ∧ Y.nf i = none
  | .cls c, v => v = clsV Y c
  | .clo i caps, v => ∃ f vs, v = .ref f ∧ Clo Y w H f i vs ∧ Reps Y w H caps vs
  | .exc _ _, _ => False
  | .scr l, v => ∃ a, v = .ref a ∧ ((∃ o, H a = some (.frz o (.lst (l.map .int)))) ∨ WrL Y.K a (l.map .int))
def Reps (Y : At) (w : Wd) (H : Hp) : List D → List V → Prop
  | [], vs => vs = []
  | d :: l, vs => ∃ v r, vs = v :: r ∧ Rep Y w H d v ∧ Reps Y w H l r
def RepK (Y : At) (w : Wd) (H : Hp) : List (K × D) → List (Key × V) → Prop
  | [], vs => vs = []
  | (k, d) :: l, vs => ∃ v r, vs = (keyV k, v) :: r ∧ Rep Y w H d v ∧ RepK Y w H l r
def RepT (Y : At) (w : Wd) (H : Hp) : List (List K × D) → List (List Key × V) → Prop
  | [], vs => vs = []
  | (k, d) :: l, vs => ∃ v r, vs = (k.map keyV, v) :: r ∧ Rep Y w H d v ∧ RepT Y w H l r
def RepF (Y : At) (w : Wd) (H : Hp) : List (Nat × D) → List (Str × V) → Prop
  | [], vs => vs = []
  | (k, d) :: l, vs => ∃ v r, vs = (Y.fn k, v) :: r ∧ Rep Y w H d v ∧ RepF Y w H l r
end
/-- the same, or locked now -/
def Lk (o o' : HO) : Prop := o' = o ∨ (∃ ob k, o = .dK k ∧ o' = .frz ob (.dK k)) ∨ ∃ ob k, o = .dT k ∧ o' = .frz ob (.dT k)
theorem Lk.trans {o o1 o2 : HO} (a : Lk o o1) (b : Lk o1 o2) : Lk o o2 := by
  rcases a with rfl | ⟨ob, k, rfl, rfl⟩ | ⟨ob, k, rfl, rfl⟩
  · exact b
  · rcases b with rfl | ⟨_, _, e, _⟩ | ⟨_, _, e, _⟩
    · exact .inr (.inl ⟨ob, k, rfl, rfl⟩)
    · cases e
    · cases e
  · rcases b with rfl | ⟨_, _, e, _⟩ | ⟨_, _, e, _⟩
    · exact .inr (.inr ⟨ob, k, rfl, rfl⟩)
    · cases e
    · cases e
theorem Lk.eq {o u : HO} (h : Lk o u) (hk : ∀ k, o ≠ .dK k) (ht : ∀ k, o ≠ .dT k) : u = o := by
  rcases h with h | ⟨_, _, e, _⟩ | ⟨_, _, e, _⟩
  · exact h
  · exact absurd e (hk _)
  · exact absurd e (ht _)
theorem rd_dK {H : Hp} {a : Addr} {o : HO} {k : List (Key × V)} (h : H a = some o) (e : Lk (.dK k) o) : Rd H a (.dK k) := by
  rcases e with rfl | ⟨ob, k', e, rfl⟩ | ⟨_, _, e, _⟩
  · exact .inl h
  · cases e; exact .inr ⟨ob, h⟩
  · cases e
theorem rd_dT {H : Hp} {a : Addr} {o : HO} {k : List (List Key × V)} (h : H a = some o) (e : Lk (.dT k) o) : Rd H a (.dT k) := by
  rcases e with rfl | ⟨_, _, e, _⟩ | ⟨ob, k', e, rfl⟩
  · exact .inl h
  · cases e
  · cases e; exact .inr ⟨ob, h⟩
def NT (o : HO) : Prop := ∀ ps, o ≠ .tbl ps
def TupO (u : HO) : Prop := ∃ xs, u = .tup xs ∨ (∃ o, u = .frz o (.tup xs)) ∨ ∃ o, u = .frz o (.lst xs)
/-- how the heap goes on -/
structure Evo (w : Wd) (H : Hp) (w' : Wd) (H' : Hp) : Prop where
  pre : ∃ more, w'.ph = w.ph ++ more
  av : w'.av = w.av
  cl : w'.cl = w.cl
  keep : ∀ a o, a ∉ w.ph → H a = some o → NT o → a ∉ w'.ph ∧ ∃ o', H' a = some o' ∧ Lk o o'
  ext : ∀ a p, H a = some (.ext p) → H' a = some (.ext p)
  tup : ∀ a u, H a = some u → TupO u → H' a = some u
  fzo : ∀ a o y, H a = some (.frz o (.own y)) → H' a = some (.frz o (.own y))
  xdk : ∀ a fv, H a = some (.xd fv) → H' a = some (.xd fv)
  avk : ∀ a ∈ w.av, a ∉ w.ph → ∀ o, H a = some o → NT o → H' a = some o
theorem Evo.refl (w : Wd) (H : Hp) : Evo w H w H := ⟨⟨[], by simp⟩, rfl, rfl, fun a o h e _ => ⟨h, o, e, .inl rfl⟩, fun _ _ h => h, fun _ _ h _ => h, fun _ _ _ h => h, fun _ _ h => h, fun _ _ _ _ e _ => e⟩
theorem Lk.nt {o o' : HO} (h : Lk o o') (n : NT o) : NT o' := by
  rcases h with rfl | ⟨_, _, _, rfl⟩ | ⟨_, _, _, rfl⟩
  · exact n
  · exact fun _ z => nomatch z
  · exact fun _ z => nomatch z
theorem Evo.trans {w w1 w2 : Wd} {H H1 H2 : Hp} (a : Evo w H w1 H1) (b : Evo w1 H1 w2 H2) : Evo w H w2 H2 := by
  obtain ⟨m1, e1⟩ := a.pre
  obtain ⟨m2, e2⟩ := b.pre
  refine ⟨⟨m1 ++ m2, by rw [e2, e1, List.append_assoc]⟩, b.av.trans a.av, b.cl.trans a.cl, fun x o h e n => ?_, fun x p h => b.ext x p (a.ext x p h), fun x u h t => b.tup x u (a.tup x u h t) t, fun x o y h => b.fzo x o y (a.fzo x o y h), fun x fv h => b.xdk x fv (a.xdk x fv h), fun x hx np o e n => b.avk x (by rw [a.av]; exact hx) (a.keep x o np e n).1 o (a.avk x hx np o e n) n⟩
  obtain ⟨h1, o1, f1, s1⟩ := a.keep x o h e n
  obtain ⟨h2, o2, f2, s2⟩ := b.keep x o1 h1 f1 (s1.nt n)
  exact ⟨h2, o2, f2, s1.trans s2⟩
section
variable {Y : At} {w w' : Wd} {H H' : Hp}
theorem Evo.off (e : Evo w H w' H') {a : Addr} {o : HO} (h : Off w a) (k : H a = some o) (n : NT o) : Off w' a :=
  ⟨(e.keep a o h.1 k n).1, by rw [e.av]; exact h.2⟩
theorem Evo.same (e : Evo w H w' H') {a : Addr} {o : HO} (h : Off w a) (k : H a = some o) (n : NT o) (hk : ∀ k, o ≠ .dK k) (ht : ∀ k, o ≠ .dT k) : H' a = some o := by
  obtain ⟨_, o', k', s⟩ := e.keep a o h.1 k n
  rw [k', s.eq hk ht]
theorem Evo.rd_lst (e : Evo w H w' H') {a : Addr} {vs : List V} (h : Off w a) (k : H a = some (.lst vs)) : Off w' a ∧ H' a = some (.lst vs) :=
  ⟨e.off h k (fun _ z => nomatch z), e.same h k (fun _ z => nomatch z) (fun _ z => nomatch z) (fun _ z => nomatch z)⟩
theorem Evo.rd_dK (e : Evo w H w' H') {a : Addr} {vs : List (Key × V)} (h : Off w a) (k : Rd H a (.dK vs)) : Off w' a ∧ Rd H' a (.dK vs) := by
  rcases k with k | ⟨o, k⟩
  · obtain ⟨h1, o', k', s⟩ := e.keep a _ h.1 k (fun _ z => nomatch z)
    exact ⟨⟨h1, by rw [e.av]; exact h.2⟩, Pv.rd_dK k' s⟩
  · obtain ⟨h1, o', k', s⟩ := e.keep a _ h.1 k (fun _ z => nomatch z)
    rw [s.eq (fun _ z => nomatch z) (fun _ z => nomatch z)] at k'
    exact ⟨⟨h1, by rw [e.av]; exact h.2⟩, .inr ⟨o, k'⟩⟩
theorem Evo.rd_dT (e : Evo w H w' H') {a : Addr} {vs : List (List Key × V)} (h : Off w a) (k : Rd H a (.dT vs)) : Off w' a ∧ Rd H' a (.dT vs) := by
  rcases k with k | ⟨o, k⟩
  · obtain ⟨h1, o', k', s⟩ := e.keep a _ h.1 k (fun _ z => nomatch z)
    exact ⟨⟨h1, by rw [e.av]; exact h.2⟩, Pv.rd_dT k' s⟩
  · obtain ⟨h1, o', k', s⟩ := e.keep a _ h.1 k (fun _ z => nomatch z)
    rw [s.eq (fun _ z => nomatch z) (fun _ z => nomatch z)] at k'
    exact ⟨⟨h1, by rw [e.av]; exact h.2⟩, .inr ⟨o, k'⟩⟩
theorem Evo.sqT (e : Evo w H w' H') {K : PySem.W.Frag} {a : Addr} {vs : List V} (k : SqT K H a vs) : SqT K H' a vs := by
  rcases k with (k | ⟨o, k⟩) | k
  · exact .inl (.inl (e.tup a _ k ⟨vs, .inl rfl⟩))
  · exact .inl (.inr ⟨o, e.tup a _ k ⟨vs, .inr (.inl ⟨o, rfl⟩)⟩⟩)
  · exact .inr k
theorem Evo.ph (e : Evo w H w' H') {n : Nat} {a : Addr} (h : w.ph[n]? = some a) : w'.ph[n]? = some a := by
  obtain ⟨m, q⟩ := e.pre
  have hl := (List.getElem?_eq_some_iff.mp h).1
  rw [q, List.getElem?_append_left hl]
  exact h
mutual
theorem Rep.mono (e : Evo w H w' H') : ∀ {d : D} {v : V}, Rep Y w H d v → Rep Y w' H' d v
  | .non, v, h => h
  | .bl _, v, h => h
  | .int _, v, h => h
  | .str _, v, h => h
  | .tup l, v, h => by
    obtain ⟨a, vs, h1, h2, h3⟩ := h
    exact ⟨a, vs, h1, e.tup a _ h2 ⟨vs, .inl rfl⟩, Reps.mono e h3⟩
  | .wt l, v, h => by
    obtain ⟨a, vs, h1, h2, h3⟩ := h
    exact ⟨a, vs, h1, h2, Reps.mono e h3⟩
  | .lst l, v, h => by
    obtain ⟨a, vs, h1, h2, h3, h4⟩ := h
    obtain ⟨q1, q2⟩ := e.rd_lst h2 h3
    exact ⟨a, vs, h1, q1, q2, Reps.mono e h4⟩
  | .dK l, v, h => by
    obtain ⟨a, vs, h1, h2, h3, h4⟩ := h
    obtain ⟨q1, q2⟩ := e.rd_dK h2 h3
    exact ⟨a, vs, h1, q1, q2, RepK.mono e h4⟩
  | .dT l, v, h => by
    obtain ⟨a, vs, h1, h2, h3, h4⟩ := h
    obtain ⟨q1, q2⟩ := e.rd_dT h2 h3
    exact ⟨a, vs, h1, q1, q2, RepT.mono e h4⟩
  | .rng lo hi, v, h => by
    obtain ⟨a, h1, h2, h3⟩ := h
    exact ⟨a, h1, e.off h2 h3 (fun _ z => nomatch z), e.same h2 h3 (fun _ z => nomatch z) (fun _ z => nomatch z) (fun _ z => nomatch z)⟩
  | .ins c fs, v, h => by
    obtain ⟨a, dx, fv, h1, h2, h3, h4⟩ := h
    exact ⟨a, dx, fv, h1, e.off h2 h3 (fun _ z => nomatch z), e.same h2 h3 (fun _ z => nomatch z) (fun _ z => nomatch z) (fun _ z => nomatch z), RepF.mono e h4⟩
  | .ref n, v, h => by
    obtain ⟨a, h1, h2⟩ := h
    exact ⟨a, e.ph h1, h2⟩
  | .fn _, v, h => h
  | .cls _, v, h => h
  | .clo i caps, v, h => by
    obtain ⟨f, vs, h1, h3, h4⟩ := h
    exact ⟨f, vs, h1, h3.mono (fun p z => by rw [e.cl]; exact z) e.ext e.fzo, Reps.mono e h4⟩
  | .exc _ _, v, h => h.elim
  | .scr l, v, h => by
    obtain ⟨a, h1, h2⟩ := h
    exact ⟨a, h1, h2.imp (fun ⟨o, q⟩ => ⟨o, e.tup a _ q ⟨_, .inr (.inr ⟨o, rfl⟩)⟩⟩) id⟩
theorem Reps.mono (e : Evo w H w' H') : ∀ {l : List D} {vs : List V}, Reps Y w H l vs → Reps Y w' H' l vs
  | [], vs, h => h
  | d :: l, vs, h => by
    obtain ⟨v, r, h1, h2, h3⟩ := h
    exact ⟨v, r, h1, Rep.mono e h2, Reps.mono e h3⟩
theorem RepK.mono (e : Evo w H w' H') : ∀ {l : List (K × D)} {vs : List (Key × V)}, RepK Y w H l vs → RepK Y w' H' l vs
  | [], vs, h => h
  | (k, d) :: l, vs, h => by
    obtain ⟨v, r, h1, h2, h3⟩ := h
    exact ⟨v, r, h1, Rep.mono e h2, RepK.mono e h3⟩
theorem RepT.mono (e : Evo w H w' H') : ∀ {l : List (List K × D)} {vs : List (List Key × V)}, RepT Y w H l vs → RepT Y w' H' l vs
  | [], vs, h => h
  | (k, d) :: l, vs, h => by
    obtain ⟨v, r, h1, h2, h3⟩ := h
    exact ⟨v, r, h1, Rep.mono e h2, RepT.mono e h3⟩
theorem RepF.mono (e : Evo w H w' H') : ∀ {l : List (Nat × D)} {vs : List (Str × V)}, RepF Y w H l vs → RepF Y w' H' l vs
  | [], vs, h => h
  | (k, d) :: l, vs, h => by
    obtain ⟨v, r, h1, h2, h3⟩ := h
    exact ⟨v, r, h1, Rep.mono e h2, RepF.mono e h3⟩
end
end
end Pv
end

section
set_option maxRecDepth 100000
set_option maxHeartbeats 4000000
namespace Pv
open PySem PySem.Spec PyProof.Rows L2
variable {Y : At} {w w' : Wd} {H H' : Hp} {h : Hm}
/-- what stands at a changing place -/
def OSim (Y : At) (w : Wd) (H : Hp) (a : Addr) : D → Prop
  | .lst l => ∃ vs, H a = some (.lst vs) ∧ Reps Y w H l vs
  | .dK l => ∃ kvs, H a = some (.dK kvs) ∧ RepK Y w H l kvs
  | .dT l => ∃ kvs, H a = some (.dT kvs) ∧ RepT Y w H l kvs
  | .ins c fs => ∃ dx fv, H a = some (.ins (Y.ca c) dx fv) ∧ RepF Y w H fs fv
  | _ => False
/-- containers -/
def Box (o : HO) : Prop := (∃ l, o = .lst l) ∨ (∃ k, o = .dK k) ∨ (∃ k, o = .dT k) ∨ (∃ C dx f, o = .ins C dx f)
theorem Box.nt {o : HO} (b : Box o) : NT o := by
  rcases b with ⟨_, rfl⟩ | ⟨_, rfl⟩ | ⟨_, rfl⟩ | ⟨_, _, _, rfl⟩ <;> exact fun _ z => nomatch z
theorem Box.notExt {o : HO} (b : Box o) : ∀ p, o ≠ .ext p := by
  rcases b with ⟨_, rfl⟩ | ⟨_, rfl⟩ | ⟨_, rfl⟩ | ⟨_, _, _, rfl⟩ <;> exact fun _ z => nomatch z
theorem Box.notTup {o : HO} (b : Box o) : ¬ TupO o := by
  rcases b with ⟨_, rfl⟩ | ⟨_, rfl⟩ | ⟨_, rfl⟩ | ⟨_, _, _, rfl⟩ <;> (rintro ⟨xs, z | ⟨_, z⟩ | ⟨_, z⟩⟩ <;> cases z)
theorem Box.mut {o : HO} (b : Box o) : Mut (some o) := by
  rcases b with ⟨_, rfl⟩ | ⟨_, rfl⟩ | ⟨_, rfl⟩ | ⟨_, _, _, rfl⟩ <;> trivial
theorem OSim.box {a : Addr} {d : D} (s : OSim Y w H a d) : ∃ o, H a = some o ∧ Box o := by
  cases d with
  | lst l => obtain ⟨vs, e, _⟩ := s; exact ⟨_, e, .inl ⟨_, rfl⟩⟩
  | dK l => obtain ⟨vs, e, _⟩ := s; exact ⟨_, e, .inr (.inl ⟨_, rfl⟩)⟩
  | dT l => obtain ⟨vs, e, _⟩ := s; exact ⟨_, e, .inr (.inr (.inl ⟨_, rfl⟩))⟩
  | ins c fs => obtain ⟨dx, fv, e, _⟩ := s; exact ⟨_, e, .inr (.inr (.inr ⟨_, _, _, rfl⟩))⟩
  | _ => exact s.elim
theorem OSim.mono (e : Evo w H w' H') {a : Addr} (k : H' a = H a) {d : D} (s : OSim Y w H a d) : OSim Y w' H' a d := by
  cases d with
  | lst l => obtain ⟨vs, e1, r⟩ := s; exact ⟨vs, k.trans e1, r.mono e⟩
  | dK l => obtain ⟨vs, e1, r⟩ := s; exact ⟨vs, k.trans e1, r.mono e⟩
  | dT l => obtain ⟨vs, e1, r⟩ := s; exact ⟨vs, k.trans e1, r.mono e⟩
  | ins c fs => obtain ⟨dx, fv, e1, r⟩ := s; exact ⟨dx, fv, k.trans e1, r.mono e⟩
  | _ => exact s.elim
/-- neither a told cell nor a table -/
def NC (o : HO) : Prop := NT o ∧ ∀ o' y, o ≠ .frz o' (.own y)
structure HSim (Y : At) (w : Wd) (H : Hp) (h : Hm) : Prop where
  len : w.ph.length = h.length
  nd : w.ph.Nodup
  at_ : ∀ (n : Nat) (a : Addr) (d : D), w.ph[n]? = some a → h[n]? = some d → OSim Y w H a d
  av : ∀ a ∈ w.av, a ∉ w.ph ∧ ∃ o, H a = some o ∧ NC o
  tab : Y.tab H
theorem HSim.get (s : HSim Y w H h) {n : Nat} {d : D} (e : h[n]? = some d) : ∃ a, w.ph[n]? = some a ∧ OSim Y w H a d := by
  have hl := (List.getElem?_eq_some_iff.mp e).1
  rw [← s.len] at hl
  exact ⟨w.ph[n], by simp, s.at_ n _ d (by simp) e⟩
theorem HSim.get' (s : HSim Y w H h) {n : Nat} {a : Addr} (e : w.ph[n]? = some a) : ∃ d, h[n]? = some d ∧ OSim Y w H a d := by
  have hl := (List.getElem?_eq_some_iff.mp e).1
  rw [s.len] at hl
  exact ⟨h[n], by simp, s.at_ n a _ e (by simp)⟩
theorem HSim.box (s : HSim Y w H h) {a : Addr} (m : a ∈ w.ph) : ∃ o, H a = some o ∧ Box o := by
  obtain ⟨n, e⟩ := List.mem_iff_getElem?.mp m
  obtain ⟨d, _, o⟩ := s.get' e
  exact o.box
/-- nothing tracked has changed -/
theorem Evo.same' (k : ∀ a o, H a = some o → NT o → H' a = some o) : Evo w H w H' :=
  ⟨⟨[], by simp⟩, rfl, rfl, fun a o h e n => ⟨h, o, k a o e n, .inl rfl⟩, fun a p e => k a _ e (fun _ z => nomatch z), fun a u e t => k a u e (by
    obtain ⟨xs, rfl | ⟨_, rfl⟩ | ⟨_, rfl⟩⟩ := t <;> exact fun _ z => nomatch z), fun a o y e => k a _ e (fun _ z => nomatch z), fun a fv e => k a _ e (fun _ z => nomatch z), fun a _ _ o e n => k a o e n⟩
theorem HSim.same' (s : HSim Y w H h) (k : ∀ a o, H a = some o → H' a = some o) : HSim Y w H' h :=
  ⟨s.len, s.nd, fun n a d e1 e2 => by
    obtain ⟨o, e, b⟩ := (s.at_ n a d e1 e2).box
    exact (s.at_ n a d e1 e2).mono (Evo.same' fun a o q _ => k a o q) ((k a o e).trans e.symm), fun a m => ⟨(s.av a m).1, by
      obtain ⟨o, e, nc⟩ := (s.av a m).2
      exact ⟨o, k a o e, nc⟩⟩, Y.tabK H H' (fun b p e => k b _ e) (fun b p e => k b _ e) s.tab⟩
/-- a new object -/
theorem Evo.new {p : Addr} {o : HO} (hp : H p = none) : Evo w H w (upd H p o) := Evo.same' fun a u e _ => by rw [upd_ne (ne_of_none e hp)]; exact e
theorem HSim.new {p : Addr} {o : HO} (s : HSim Y w H h) (hp : H p = none) : HSim Y w (upd H p o) h :=
  s.same' (fun a u e => by rw [upd_ne (ne_of_none e hp)]; exact e)
theorem HSim.not_ph (s : HSim Y w H h) {p : Addr} (hp : H p = none) : p ∉ w.ph := fun m => by
  obtain ⟨o, e, _⟩ := s.box m
  rw [hp] at e; cases e
theorem HSim.not_av (s : HSim Y w H h) {p : Addr} (hp : H p = none) : p ∉ w.av := fun m => by
  obtain ⟨_, o, e, _⟩ := s.av p m
  rw [hp] at e; cases e
theorem HSim.off (s : HSim Y w H h) {p : Addr} (hp : H p = none) : Off w p := ⟨s.not_ph hp, s.not_av hp⟩
abbrev Wd.pin (w : Wd) (p : Addr) : Wd := ⟨w.ph ++ [p], w.av, w.cl⟩
abbrev Wd.shy (w : Wd) (p : Addr) : Wd := ⟨w.ph, p :: w.av, w.cl⟩
abbrev Wd.cutAt (w : Wd) (n : Nat) : Wd := ⟨w.ph.take n, w.av, w.cl⟩
/-- a new object that may change -/
theorem Evo.pin {p : Addr} {o : HO} (hp : H p = none) : Evo w H (w.pin p) (upd H p o) :=
  ⟨⟨[p], rfl⟩, rfl, rfl, fun a u ha e n => ⟨by
    simp only [List.mem_append, List.mem_singleton, not_or]
    exact ⟨ha, ne_of_none e hp⟩, u, by rw [upd_ne (ne_of_none e hp)]; exact e, .inl rfl⟩, fun a q e => by rw [upd_ne (ne_of_none e hp)]; exact e, fun a u e t => by rw [upd_ne (ne_of_none e hp)]; exact e, fun a o y e => by rw [upd_ne (ne_of_none e hp)]; exact e, fun a fv e => by rw [upd_ne (ne_of_none e hp)]; exact e, fun a _ _ o e n => by rw [upd_ne (ne_of_none e hp)]; exact e⟩
theorem HSim.pin {p : Addr} {o : HO} {d : D} (s : HSim Y w H h) (hp : H p = none) (c : OSim Y (w.pin p) (upd H p o) p d) : HSim Y (w.pin p) (upd H p o) (h ++ [d]) := by
  refine ⟨by simp [s.len], ?_, fun n a e e1 e2 => ?_, fun a m => ⟨?_, ?_⟩, Y.tabK H _ (fun b q e => by rw [upd_ne (ne_of_none e hp)]; exact e) (fun b q e => by rw [upd_ne (ne_of_none e hp)]; exact e) s.tab⟩
  · refine List.nodup_append.mpr ⟨s.nd, by simp, fun a ha b hb => ?_⟩
    simp only [List.mem_singleton] at hb
    subst hb
    exact fun z => s.not_ph hp (z ▸ ha)
  · by_cases hn : n < w.ph.length
    · have e1' : w.ph[n]? = some a := by rw [List.getElem?_append_left hn] at e1; exact e1
      have e2' : h[n]? = some e := by rw [List.getElem?_append_left (by rw [← s.len]; exact hn)] at e2; exact e2
      have os := s.at_ n a e e1' e2'
      obtain ⟨u, eu, _⟩ := os.box
      exact os.mono (Evo.pin hp) (by rw [upd_ne (ne_of_none eu hp)])
    · have e1' : ([p] : List Addr)[n - w.ph.length]? = some a := by rw [List.getElem?_append_right (by omega)] at e1; exact e1
      have e2' : ([d] : List D)[n - h.length]? = some e := by rw [List.getElem?_append_right (by rw [← s.len]; omega)] at e2; exact e2
      have z : n - w.ph.length = 0 := by
        have := (List.getElem?_eq_some_iff.mp e1').1
        simp at this
        omega
      rw [z] at e1'
      rw [← s.len, z] at e2'
      cases e1'
      cases e2'
      exact c
  · simp only [List.mem_append, List.mem_singleton, not_or]
    exact ⟨(s.av a m).1, fun z => s.not_av hp (z ▸ m)⟩
  · obtain ⟨u, e, nc⟩ := (s.av a m).2
    exact ⟨u, by rw [upd_ne (ne_of_none e hp)]; exact e, nc⟩
/-- an object that may change is changed -/
theorem HSim.evo_set (s : HSim Y w H h) {a : Addr} (m : a ∈ w.ph) (o : HO) : Evo w H w (upd H a o) := by
  obtain ⟨u, e, b⟩ := s.box m
  refine ⟨⟨[], by simp⟩, rfl, rfl, fun x v hx ex n => ⟨hx, v, (upd_ne (fun z : x = a => hx (by rw [z]; exact m))).trans ex, .inl rfl⟩, fun x p ex => ?_, fun x v ex t => ?_, fun x o' y ex => ?_, fun x fv ex => ?_, fun x _ hx o' ex _ => (upd_ne (fun z : x = a => hx (by rw [z]; exact m))).trans ex⟩
  · rw [upd_ne (fun z => ?_)]
    · exact ex
    · subst z; rw [e] at ex; cases ex; exact b.notExt _ rfl
  · rw [upd_ne (fun z => ?_)]
    · exact ex
    · subst z; rw [e] at ex; cases ex; exact b.notTup t
  · rw [upd_ne (fun z => ?_)]
    · exact ex
    · subst z; rw [e] at ex; cases ex; rcases b with ⟨_, z⟩ | ⟨_, z⟩ | ⟨_, z⟩ | ⟨_, _, _, z⟩ <;> cases z
  · rw [upd_ne (fun z => ?_)]
    · exact ex
    · subst z; rw [e] at ex; cases ex; rcases b with ⟨_, z⟩ | ⟨_, z⟩ | ⟨_, z⟩ | ⟨_, _, _, z⟩ <;> cases z
theorem nodup_get {l : List Addr} (nd : l.Nodup) {i j : Nat} {x : Addr} (a : l[i]? = some x) (b : l[j]? = some x) : i = j := by
  obtain ⟨h1, e1⟩ := List.getElem?_eq_some_iff.mp a
  obtain ⟨h2, e2⟩ := List.getElem?_eq_some_iff.mp b
  exact (List.getElem_inj nd).mp (e1.trans e2.symm)
theorem HSim.set (s : HSim Y w H h) {n : Nat} {a : Addr} (ea : w.ph[n]? = some a) {o : HO} {d : D} (c : OSim Y w (upd H a o) a d) : HSim Y w (upd H a o) (h.set n d) := by
  have m : a ∈ w.ph := List.mem_of_getElem? ea
  obtain ⟨u0, eu0, bu0⟩ := s.box m
  refine ⟨by simp [s.len], s.nd, fun i b e e1 e2 => ?_, fun b hb => ⟨(s.av b hb).1, ?_⟩, Y.tabK H _ (fun b q e => (s.evo_set m o).ext b q e) (fun b q e => (upd_ne (fun z : b = a => by subst z; rw [eu0] at e; cases e; exact bu0.nt _ rfl)).trans e) s.tab⟩
  · by_cases hi : i = n
    · subst hi
      rw [ea] at e1; cases e1
      have hl : i < h.length := by rw [← s.len]; exact (List.getElem?_eq_some_iff.mp ea).1
      rw [List.getElem?_set_self hl] at e2; cases e2
      exact c
    · rw [List.getElem?_set_ne (Ne.symm hi)] at e2
      have hb : b ≠ a := fun z => hi (nodup_get s.nd e1 (z ▸ ea))
      exact (s.at_ i b e e1 e2).mono (s.evo_set m o) (upd_ne hb)
  · obtain ⟨u, e, nc⟩ := (s.av b hb).2
    exact ⟨u, (upd_ne (fun z : b = a => (s.av b hb).1 (by rw [z]; exact m))).trans e, nc⟩
/-! ### worlds -/
theorem Off.mono (hp : ∀ a, a ∈ w'.ph → a ∈ w.ph) (ha : ∀ a, a ∈ w'.av → a ∈ w.av) {a : Addr} (o : Off w a) : Off w' a := ⟨fun m => o.1 (hp a m), fun m => o.2 (ha a m)⟩
mutual
/-- fewer places to keep off; the same references -/
theorem Rep.less (hp : w'.ph = w.ph) (ha : ∀ a, a ∈ w'.av → a ∈ w.av) (hc : ∀ p ∈ w.cl, p ∈ w'.cl) : ∀ {d : D} {v : V}, Rep Y w H d v → Rep Y w' H d v
  | .non, v, h => h
  | .bl _, v, h => h
  | .int _, v, h => h
  | .str _, v, h => h
  | .tup l, v, h => by
    obtain ⟨a, vs, h1, h2, h3⟩ := h
    exact ⟨a, vs, h1, h2, Reps.less hp ha hc h3⟩
  | .wt l, v, h => by
    obtain ⟨a, vs, h1, h2, h3⟩ := h
    exact ⟨a, vs, h1, h2, Reps.less hp ha hc h3⟩
  | .lst l, v, h => by
    obtain ⟨a, vs, h1, h2, h3, h4⟩ := h
    exact ⟨a, vs, h1, h2.mono (fun a m => hp ▸ m) ha, h3, Reps.less hp ha hc h4⟩
  | .dK l, v, h => by
    obtain ⟨a, vs, h1, h2, h3, h4⟩ := h
    exact ⟨a, vs, h1, h2.mono (fun a m => hp ▸ m) ha, h3, RepK.less hp ha hc h4⟩
  | .dT l, v, h => by
    obtain ⟨a, vs, h1, h2, h3, h4⟩ := h
    exact ⟨a, vs, h1, h2.mono (fun a m => hp ▸ m) ha, h3, RepT.less hp ha hc h4⟩
  | .rng lo hi, v, h => by
    obtain ⟨a, h1, h2, h3⟩ := h
    exact ⟨a, h1, h2.mono (fun a m => hp ▸ m) ha, h3⟩
  | .ins c fs, v, h => by
    obtain ⟨a, dx, fv, h1, h2, h3, h4⟩ := h
    exact ⟨a, dx, fv, h1, h2.mono (fun a m => hp ▸ m) ha, h3, RepF.less hp ha hc h4⟩
  | .ref n, v, h => by
    obtain ⟨a, h1, h2⟩ := h
    exact ⟨a, hp ▸ h1, h2⟩
  | .fn _, v, h => h
  | .cls _, v, h => h
  | .clo i caps, v, h => by
    obtain ⟨f, vs, h1, h3, h4⟩ := h
    exact ⟨f, vs, h1, h3.mono hc (fun _ _ z => z) (fun _ _ _ z => z), Reps.less hp ha hc h4⟩
  | .exc _ _, v, h => h.elim
  | .scr _, v, h => h
theorem Reps.less (hp : w'.ph = w.ph) (ha : ∀ a, a ∈ w'.av → a ∈ w.av) (hc : ∀ p ∈ w.cl, p ∈ w'.cl) : ∀ {l : List D} {vs : List V}, Reps Y w H l vs → Reps Y w' H l vs
  | [], vs, h => h
  | d :: l, vs, h => by
    obtain ⟨v, r, h1, h2, h3⟩ := h
    exact ⟨v, r, h1, Rep.less hp ha hc h2, Reps.less hp ha hc h3⟩
theorem RepK.less (hp : w'.ph = w.ph) (ha : ∀ a, a ∈ w'.av → a ∈ w.av) (hc : ∀ p ∈ w.cl, p ∈ w'.cl) : ∀ {l : List (K × D)} {vs : List (Key × V)}, RepK Y w H l vs → RepK Y w' H l vs
  | [], vs, h => h
  | (k, d) :: l, vs, h => by
    obtain ⟨v, r, h1, h2, h3⟩ := h
    exact ⟨v, r, h1, Rep.less hp ha hc h2, RepK.less hp ha hc h3⟩
theorem RepT.less (hp : w'.ph = w.ph) (ha : ∀ a, a ∈ w'.av → a ∈ w.av) (hc : ∀ p ∈ w.cl, p ∈ w'.cl) : ∀ {l : List (List K × D)} {vs : List (List Key × V)}, RepT Y w H l vs → RepT Y w' H l vs
  | [], vs, h => h
  | (k, d) :: l, vs, h => by
    obtain ⟨v, r, h1, h2, h3⟩ := h
    exact ⟨v, r, h1, Rep.less hp ha hc h2, RepT.less hp ha hc h3⟩
theorem RepF.less (hp : w'.ph = w.ph) (ha : ∀ a, a ∈ w'.av → a ∈ w.av) (hc : ∀ p ∈ w.cl, p ∈ w'.cl) : ∀ {l : List (Nat × D)} {vs : List (Str × V)}, RepF Y w H l vs → RepF Y w' H l vs
  | [], vs, h => h
  | (k, d) :: l, vs, h => by
    obtain ⟨v, r, h1, h2, h3⟩ := h
    exact ⟨v, r, h1, Rep.less hp ha hc h2, RepF.less hp ha hc h3⟩
end
/-- more to keep off: an address that was free when all this was told -/
theorem tracked_ne {p a : Addr} (hp : H p = none) {o : HO} (e : H a = some o) : a ≠ p := ne_of_none e hp
theorem rd_ne {p a : Addr} (hp : H p = none) {u : HO} (e : Rd H a u) : a ≠ p := by
  rcases e with e | ⟨o, e⟩
  · exact ne_of_none e hp
  · exact ne_of_none e hp
mutual
theorem Rep.shy {p : Addr} (hp : H p = none) : ∀ {d : D} {v : V}, Rep Y w H d v → Rep Y (w.shy p) H d v
  | .non, v, h => h
  | .bl _, v, h => h
  | .int _, v, h => h
  | .str _, v, h => h
  | .tup l, v, h => by
    obtain ⟨a, vs, h1, h2, h3⟩ := h
    exact ⟨a, vs, h1, h2, Reps.shy hp h3⟩
  | .wt l, v, h => by
    obtain ⟨a, vs, h1, h2, h3⟩ := h
    exact ⟨a, vs, h1, h2, Reps.shy hp h3⟩
  | .lst l, v, h => by
    obtain ⟨a, vs, h1, h2, h3, h4⟩ := h
    exact ⟨a, vs, h1, ⟨h2.1, by simp only [List.mem_cons, not_or]; exact ⟨ne_of_none h3 hp, h2.2⟩⟩, h3, Reps.shy hp h4⟩
  | .dK l, v, h => by
    obtain ⟨a, vs, h1, h2, h3, h4⟩ := h
    exact ⟨a, vs, h1, ⟨h2.1, by simp only [List.mem_cons, not_or]; exact ⟨rd_ne hp h3, h2.2⟩⟩, h3, RepK.shy hp h4⟩
  | .dT l, v, h => by
    obtain ⟨a, vs, h1, h2, h3, h4⟩ := h
    exact ⟨a, vs, h1, ⟨h2.1, by simp only [List.mem_cons, not_or]; exact ⟨rd_ne hp h3, h2.2⟩⟩, h3, RepT.shy hp h4⟩
  | .rng lo hi, v, h => by
    obtain ⟨a, h1, h2, h3⟩ := h
    exact ⟨a, h1, ⟨h2.1, by simp only [List.mem_cons, not_or]; exact ⟨ne_of_none h3 hp, h2.2⟩⟩, h3⟩
  | .ins c fs, v, h => by
    obtain ⟨a, dx, fv, h1, h2, h3, h4⟩ := h
    exact ⟨a, dx, fv, h1, ⟨h2.1, by simp only [List.mem_cons, not_or]; exact ⟨ne_of_none h3 hp, h2.2⟩⟩, h3, RepF.shy hp h4⟩
  | .ref n, v, h => h
  | .fn _, v, h => h
  | .cls _, v, h => h
  | .clo i caps, v, h => by
    obtain ⟨f, vs, h1, h3, h4⟩ := h
    exact ⟨f, vs, h1, h3, Reps.shy hp h4⟩
  | .exc _ _, v, h => h.elim
  | .scr _, v, h => h
theorem Reps.shy {p : Addr} (hp : H p = none) : ∀ {l : List D} {vs : List V}, Reps Y w H l vs → Reps Y (w.shy p) H l vs
  | [], vs, h => h
  | d :: l, vs, h => by
    obtain ⟨v, r, h1, h2, h3⟩ := h
    exact ⟨v, r, h1, Rep.shy hp h2, Reps.shy hp h3⟩
theorem RepK.shy {p : Addr} (hp : H p = none) : ∀ {l : List (K × D)} {vs : List (Key × V)}, RepK Y w H l vs → RepK Y (w.shy p) H l vs
  | [], vs, h => h
  | (k, d) :: l, vs, h => by
    obtain ⟨v, r, h1, h2, h3⟩ := h
    exact ⟨v, r, h1, Rep.shy hp h2, RepK.shy hp h3⟩
theorem RepT.shy {p : Addr} (hp : H p = none) : ∀ {l : List (List K × D)} {vs : List (List Key × V)}, RepT Y w H l vs → RepT Y (w.shy p) H l vs
  | [], vs, h => h
  | (k, d) :: l, vs, h => by
    obtain ⟨v, r, h1, h2, h3⟩ := h
    exact ⟨v, r, h1, Rep.shy hp h2, RepT.shy hp h3⟩
theorem RepF.shy {p : Addr} (hp : H p = none) : ∀ {l : List (Nat × D)} {vs : List (Str × V)}, RepF Y w H l vs → RepF Y (w.shy p) H l vs
  | [], vs, h => h
  | (k, d) :: l, vs, h => by
    obtain ⟨v, r, h1, h2, h3⟩ := h
    exact ⟨v, r, h1, Rep.shy hp h2, RepF.shy hp h3⟩
end
theorem OSim.less (hp : w'.ph = w.ph) (ha : ∀ a, a ∈ w'.av → a ∈ w.av) (hc : ∀ p ∈ w.cl, p ∈ w'.cl) {a : Addr} {d : D} (s : OSim Y w H a d) : OSim Y w' H a d := by
  cases d with
  | lst l => obtain ⟨vs, e1, r⟩ := s; exact ⟨vs, e1, r.less hp ha hc⟩
  | dK l => obtain ⟨vs, e1, r⟩ := s; exact ⟨vs, e1, r.less hp ha hc⟩
  | dT l => obtain ⟨vs, e1, r⟩ := s; exact ⟨vs, e1, r.less hp ha hc⟩
  | ins c fs => obtain ⟨dx, fv, e1, r⟩ := s; exact ⟨dx, fv, e1, r.less hp ha hc⟩
  | _ => exact s.elim
theorem OSim.shy {p : Addr} (hp : H p = none) {a : Addr} {d : D} (s : OSim Y w H a d) : OSim Y (w.shy p) H a d := by
  cases d with
  | lst l => obtain ⟨vs, e1, r⟩ := s; exact ⟨vs, e1, r.shy hp⟩
  | dK l => obtain ⟨vs, e1, r⟩ := s; exact ⟨vs, e1, r.shy hp⟩
  | dT l => obtain ⟨vs, e1, r⟩ := s; exact ⟨vs, e1, r.shy hp⟩
  | ins c fs => obtain ⟨dx, fv, e1, r⟩ := s; exact ⟨dx, fv, e1, r.shy hp⟩
  | _ => exact s.elim
/-! ### what was made is let go -/
theorem HSim.ref_lt (s : HSim Y w H h) {m : Nat} {v : V} (r : Rep Y w H (.ref m) v) : m < h.length := by
  obtain ⟨a, e, _⟩ := r
  rw [← s.len]
  exact (List.getElem?_eq_some_iff.mp e).1
theorem take_at {α : Type} {l : List α} {n i : Nat} {x : α} (h : (l.take n)[i]? = some x) : i < n ∧ l[i]? = some x := by
  rw [List.getElem?_take] at h
  split at h
  · exact ⟨by assumption, h⟩
  · cases h
theorem at_take {α : Type} {l : List α} {n i : Nat} {x : α} (hi : i < n) (h : l[i]? = some x) : (l.take n)[i]? = some x := by
  rw [List.getElem?_take, if_pos hi]; exact h
/-- a place behind the cut is off -/
theorem HSim.cut_off (s : HSim Y w H h) {n m : Nat} {a : Addr} (hm : n ≤ m) (e : w.ph[m]? = some a) : Off (w.cutAt n) a := by
  refine ⟨fun z => ?_, fun z => (s.av a z).1 (List.mem_of_getElem? e)⟩
  obtain ⟨i, hi⟩ := List.mem_iff_getElem?.mp z
  obtain ⟨h1, h2⟩ := take_at hi
  have := nodup_get s.nd h2 e
  omega
theorem Off.cut {n : Nat} {a : Addr} (o : Off w a) : Off (w.cutAt n) a := ⟨fun m => o.1 (List.mem_of_mem_take m), o.2⟩
mutual
/-- no reference from n on -/
theorem Rep.cut {n : Nat} : ∀ {d : D} {v : V}, frz n d = true → Rep Y w H d v → Rep Y (w.cutAt n) H d v
  | .non, v, _, h => h
  | .bl _, v, _, h => h
  | .int _, v, _, h => h
  | .str _, v, _, h => h
  | .tup l, v, f, h => by
    obtain ⟨a, vs, h1, h2, h3⟩ := h
    exact ⟨a, vs, h1, h2, Reps.cut f h3⟩
  | .wt l, v, f, h => by
    obtain ⟨a, vs, h1, h2, h3⟩ := h
    exact ⟨a, vs, h1, h2, Reps.cut f h3⟩
  | .lst l, v, f, h => by
    obtain ⟨a, vs, h1, h2, h3, h4⟩ := h
    exact ⟨a, vs, h1, h2.cut, h3, Reps.cut f h4⟩
  | .dK l, v, f, h => by
    obtain ⟨a, vs, h1, h2, h3, h4⟩ := h
    exact ⟨a, vs, h1, h2.cut, h3, RepK.cut f h4⟩
  | .dT l, v, f, h => by
    obtain ⟨a, vs, h1, h2, h3, h4⟩ := h
    exact ⟨a, vs, h1, h2.cut, h3, RepT.cut f h4⟩
  | .rng lo hi, v, _, h => by
    obtain ⟨a, h1, h2, h3⟩ := h
    exact ⟨a, h1, h2.cut, h3⟩
  | .ins c fs, v, f, h => by
    obtain ⟨a, dx, fv, h1, h2, h3, h4⟩ := h
    exact ⟨a, dx, fv, h1, h2.cut, h3, RepF.cut f h4⟩
  | .ref m, v, f, h => by
    obtain ⟨a, h1, h2⟩ := h
    exact ⟨a, at_take (of_decide_eq_true f) h1, h2⟩
  | .fn _, v, _, h => h
  | .cls _, v, _, h => h
  | .clo i caps, v, f, h => by
    obtain ⟨b, vs, h1, h3, h4⟩ := h
    exact ⟨b, vs, h1, h3, Reps.cut f h4⟩
  | .exc _ _, v, _, h => h.elim
  | .scr _, v, _, h => h
theorem Reps.cut {n : Nat} : ∀ {l : List D} {vs : List V}, frzs n l = true → Reps Y w H l vs → Reps Y (w.cutAt n) H l vs
  | [], vs, _, h => h
  | d :: l, vs, f, h => by
    obtain ⟨v, r, h1, h2, h3⟩ := h
    obtain ⟨f1, f2⟩ := Bool.and_eq_true_iff.mp f
    exact ⟨v, r, h1, Rep.cut f1 h2, Reps.cut f2 h3⟩
theorem RepK.cut {n : Nat} : ∀ {l : List (K × D)} {vs : List (Key × V)}, frzK n l = true → RepK Y w H l vs → RepK Y (w.cutAt n) H l vs
  | [], vs, _, h => h
  | (k, d) :: l, vs, f, h => by
    obtain ⟨v, r, h1, h2, h3⟩ := h
    obtain ⟨f1, f2⟩ := Bool.and_eq_true_iff.mp f
    exact ⟨v, r, h1, Rep.cut f1 h2, RepK.cut f2 h3⟩
theorem RepT.cut {n : Nat} : ∀ {l : List (List K × D)} {vs : List (List Key × V)}, frzT n l = true → RepT Y w H l vs → RepT Y (w.cutAt n) H l vs
  | [], vs, _, h => h
  | (k, d) :: l, vs, f, h => by
    obtain ⟨v, r, h1, h2, h3⟩ := h
    obtain ⟨f1, f2⟩ := Bool.and_eq_true_iff.mp f
    exact ⟨v, r, h1, Rep.cut f1 h2, RepT.cut f2 h3⟩
theorem RepF.cut {n : Nat} : ∀ {l : List (Nat × D)} {vs : List (Str × V)}, frzF n l = true → RepF Y w H l vs → RepF Y (w.cutAt n) H l vs
  | [], vs, _, h => h
  | (k, d) :: l, vs, f, h => by
    obtain ⟨v, r, h1, h2, h3⟩ := h
    obtain ⟨f1, f2⟩ := Bool.and_eq_true_iff.mp f
    exact ⟨v, r, h1, Rep.cut f1 h2, RepF.cut f2 h3⟩
end
theorem OSim.cut {n : Nat} {a : Addr} {d : D} (f : frz n d = true) (s : OSim Y w H a d) : OSim Y (w.cutAt n) H a d := by
  cases d with
  | lst l => obtain ⟨vs, e1, r⟩ := s; exact ⟨vs, e1, r.cut f⟩
  | dK l => obtain ⟨vs, e1, r⟩ := s; exact ⟨vs, e1, r.cut f⟩
  | dT l => obtain ⟨vs, e1, r⟩ := s; exact ⟨vs, e1, r.cut f⟩
  | ins c fs => obtain ⟨dx, fv, e1, r⟩ := s; exact ⟨dx, fv, e1, r.cut f⟩
  | _ => exact s.elim
section
variable {n : Nat} {g : Nat → Option D}
mutual
theorem Rep.sub (hg : ∀ m d v, g m = some d → Rep Y w H (.ref m) v → Rep Y (w.cutAt n) H d v) : ∀ {d d' : D} {v : V}, sub g d = some d' → Rep Y w H d v → Rep Y (w.cutAt n) H d' v
  | .non, _, v, e, h => by cases e; exact h
  | .bl _, _, v, e, h => by cases e; exact h
  | .int _, _, v, e, h => by cases e; exact h
  | .str _, _, v, e, h => by cases e; exact h
  | .tup l, _, v, e, h => by
    obtain ⟨l', e1, rfl⟩ := Option.map_eq_some_iff.mp e
    obtain ⟨a, vs, h1, h2, h3⟩ := h
    exact ⟨a, vs, h1, h2, Reps.sub hg e1 h3⟩
  | .wt l, _, v, e, h => by
    obtain ⟨l', e1, rfl⟩ := Option.map_eq_some_iff.mp e
    obtain ⟨a, vs, h1, h2, h3⟩ := h
    exact ⟨a, vs, h1, h2, Reps.sub hg e1 h3⟩
  | .lst l, _, v, e, h => by
    obtain ⟨l', e1, rfl⟩ := Option.map_eq_some_iff.mp e
    obtain ⟨a, vs, h1, h2, h3, h4⟩ := h
    exact ⟨a, vs, h1, h2.cut, h3, Reps.sub hg e1 h4⟩
  | .dK l, _, v, e, h => by
    obtain ⟨l', e1, rfl⟩ := Option.map_eq_some_iff.mp e
    obtain ⟨a, vs, h1, h2, h3, h4⟩ := h
    exact ⟨a, vs, h1, h2.cut, h3, RepK.sub hg e1 h4⟩
  | .dT l, _, v, e, h => by
    obtain ⟨l', e1, rfl⟩ := Option.map_eq_some_iff.mp e
    obtain ⟨a, vs, h1, h2, h3, h4⟩ := h
    exact ⟨a, vs, h1, h2.cut, h3, RepT.sub hg e1 h4⟩
  | .rng lo hi, _, v, e, h => by
    cases e
    obtain ⟨a, h1, h2, h3⟩ := h
    exact ⟨a, h1, h2.cut, h3⟩
  | .ins c fs, _, v, e, h => by
    obtain ⟨l', e1, rfl⟩ := Option.map_eq_some_iff.mp e
    obtain ⟨a, dx, fv, h1, h2, h3, h4⟩ := h
    exact ⟨a, dx, fv, h1, h2.cut, h3, RepF.sub hg e1 h4⟩
  | .ref m, _, v, e, h => hg m _ v e h
  | .fn _, _, v, e, h => by cases e; exact h
  | .cls _, _, v, e, h => by cases e; exact h
  | .clo i caps, _, v, e, h => by
    obtain ⟨l', e1, rfl⟩ := Option.map_eq_some_iff.mp e
    obtain ⟨b, vs, h1, h3, h4⟩ := h
    exact ⟨b, vs, h1, h3, Reps.sub hg e1 h4⟩
  | .exc _ _, _, v, _, h => h.elim
  | .scr _, _, v, e, h => by cases e; exact h
theorem Reps.sub (hg : ∀ m d v, g m = some d → Rep Y w H (.ref m) v → Rep Y (w.cutAt n) H d v) : ∀ {l l' : List D} {vs : List V}, subs g l = some l' → Reps Y w H l vs → Reps Y (w.cutAt n) H l' vs
  | [], _, vs, e, h => by cases e; exact h
  | d :: l, _, vs, e, h => by
    obtain ⟨v, r, h1, h2, h3⟩ := h
    unfold subs at e
    split at e
    · rename_i b m e1 e2
      cases e
      exact ⟨v, r, h1, Rep.sub hg e1 h2, Reps.sub hg e2 h3⟩
    · cases e
theorem RepK.sub (hg : ∀ m d v, g m = some d → Rep Y w H (.ref m) v → Rep Y (w.cutAt n) H d v) : ∀ {l l' : List (K × D)} {vs : List (Key × V)}, subK g l = some l' → RepK Y w H l vs → RepK Y (w.cutAt n) H l' vs
  | [], _, vs, e, h => by cases e; exact h
  | (k, d) :: l, _, vs, e, h => by
    obtain ⟨v, r, h1, h2, h3⟩ := h
    unfold subK at e
    split at e
    · rename_i b m e1 e2
      cases e
      exact ⟨v, r, h1, Rep.sub hg e1 h2, RepK.sub hg e2 h3⟩
    · cases e
theorem RepT.sub (hg : ∀ m d v, g m = some d → Rep Y w H (.ref m) v → Rep Y (w.cutAt n) H d v) : ∀ {l l' : List (List K × D)} {vs : List (List Key × V)}, subT g l = some l' → RepT Y w H l vs → RepT Y (w.cutAt n) H l' vs
  | [], _, vs, e, h => by cases e; exact h
  | (k, d) :: l, _, vs, e, h => by
    obtain ⟨v, r, h1, h2, h3⟩ := h
    unfold subT at e
    split at e
    · rename_i b m e1 e2
      cases e
      exact ⟨v, r, h1, Rep.sub hg e1 h2, RepT.sub hg e2 h3⟩
    · cases e
theorem RepF.sub (hg : ∀ m d v, g m = some d → Rep Y w H (.ref m) v → Rep Y (w.cutAt n) H d v) : ∀ {l l' : List (Nat × D)} {vs : List (Str × V)}, subF g l = some l' → RepF Y w H l vs → RepF Y (w.cutAt n) H l' vs
  | [], _, vs, e, h => by cases e; exact h
  | (k, d) :: l, _, vs, e, h => by
    obtain ⟨v, r, h1, h2, h3⟩ := h
    unfold subF at e
    split at e
    · rename_i b m e1 e2
      cases e
      exact ⟨v, r, h1, Rep.sub hg e1 h2, RepF.sub hg e2 h3⟩
    · cases e
end
end
theorem Rep.reify (s : HSim Y w H h) {n : Nat} : ∀ (f : Nat) {d d' : D} {v : V}, reify n h f d = some d' → Rep Y w H d v → Rep Y (w.cutAt n) H d' v
  | 0, d, d', v, e, r => by
    refine Rep.sub (fun m d v q r => ?_) e r
    split at q
    · cases q
      obtain ⟨a, e1, e2⟩ := r
      exact ⟨a, at_take (by assumption) e1, e2⟩
    · cases q
  | f + 1, d, d', v, e, r => by
    refine Rep.sub (fun m d v q r => ?_) e r
    split at q
    · cases q
      obtain ⟨a, e1, e2⟩ := r
      exact ⟨a, at_take (by assumption) e1, e2⟩
    · rename_i hm
      obtain ⟨a, e1, rfl⟩ := r
      obtain ⟨c, ec, o⟩ := s.get' e1
      rw [ec] at q
      have q : Pv.reify n h f c = some d := q
      have off := s.cut_off (n := n) (by omega) e1
      have go : ∀ (x : D), OSim Y w H a x → Pv.reify n h f x = some d → Rep Y (w.cutAt n) H d (.ref a) := by
        intro x o q
        have ih : ∀ {d d' : D} {v : V}, Pv.reify n h f d = some d' → Rep Y w H d v → Rep Y (w.cutAt n) H d' v := fun q r => Rep.reify s f q r
        have hs : ∃ g : Nat → Option D, Pv.sub g x = some d ∧ (∀ m d v, g m = some d → Rep Y w H (.ref m) v → Rep Y (w.cutAt n) H d v) := by
          cases f with
          | zero => exact ⟨_, q, fun m d v q r => by
              split at q
              · cases q
                obtain ⟨a, e1, e2⟩ := r
                exact ⟨a, at_take (by assumption) e1, e2⟩
              · cases q⟩
          | succ f => exact ⟨_, q, fun m d v q r => by
              have z : Pv.reify n h (f + 1) (.ref m) = some d := q
              exact ih z r⟩
        obtain ⟨g, q, hg⟩ := hs
        cases x with
        | lst l =>
          obtain ⟨vs, e1, r⟩ := o
          obtain ⟨l', e2, rfl⟩ := Option.map_eq_some_iff.mp q
          exact ⟨a, vs, rfl, off, e1, Reps.sub hg e2 r⟩
        | dK l =>
          obtain ⟨vs, e1, r⟩ := o
          obtain ⟨l', e2, rfl⟩ := Option.map_eq_some_iff.mp q
          exact ⟨a, vs, rfl, off, .inl e1, RepK.sub hg e2 r⟩
        | dT l =>
          obtain ⟨vs, e1, r⟩ := o
          obtain ⟨l', e2, rfl⟩ := Option.map_eq_some_iff.mp q
          exact ⟨a, vs, rfl, off, .inl e1, RepT.sub hg e2 r⟩
        | ins c fs =>
          obtain ⟨dx, fv, e1, r⟩ := o
          obtain ⟨l', e2, rfl⟩ := Option.map_eq_some_iff.mp q
          exact ⟨a, dx, fv, rfl, off, e1, RepF.sub hg e2 r⟩
        | _ => exact o.elim
      exact go c o q
mutual
theorem Rep.frz {n : Nat} (hn : w.ph.length ≤ n) : ∀ {d : D} {v : V}, Rep Y w H d v → frz n d = true
  | .non, v, _ => rfl
  | .bl _, v, _ => rfl
  | .int _, v, _ => rfl
  | .str _, v, _ => rfl
  | .tup l, v, h => by
    obtain ⟨a, vs, h1, h2, h3⟩ := h
    exact Reps.frz hn h3
  | .wt l, v, h => by
    obtain ⟨a, vs, h1, h2, h3⟩ := h
    exact Reps.frz hn h3
  | .lst l, v, h => by
    obtain ⟨a, vs, h1, h2, h3, h4⟩ := h
    exact Reps.frz hn h4
  | .dK l, v, h => by
    obtain ⟨a, vs, h1, h2, h3, h4⟩ := h
    exact RepK.frz hn h4
  | .dT l, v, h => by
    obtain ⟨a, vs, h1, h2, h3, h4⟩ := h
    exact RepT.frz hn h4
  | .rng lo hi, v, _ => rfl
  | .ins c fs, v, h => by
    obtain ⟨a, dx, fv, h1, h2, h3, h4⟩ := h
    exact RepF.frz hn h4
  | .ref m, v, h => by
    obtain ⟨a, h1, h2⟩ := h
    have := (List.getElem?_eq_some_iff.mp h1).1
    exact decide_eq_true (by omega)
  | .fn _, v, _ => rfl
  | .cls _, v, _ => rfl
  | .clo i caps, v, h => by
    obtain ⟨b, vs, h1, h3, h4⟩ := h
    exact Reps.frz hn h4
  | .exc _ _, v, h => h.elim
  | .scr _, v, h => rfl
theorem Reps.frz {n : Nat} (hn : w.ph.length ≤ n) : ∀ {l : List D} {vs : List V}, Reps Y w H l vs → frzs n l = true
  | [], vs, _ => rfl
  | d :: l, vs, h => by
    obtain ⟨v, r, h1, h2, h3⟩ := h
    exact Bool.and_eq_true_iff.mpr ⟨Rep.frz hn h2, Reps.frz hn h3⟩
theorem RepK.frz {n : Nat} (hn : w.ph.length ≤ n) : ∀ {l : List (K × D)} {vs : List (Key × V)}, RepK Y w H l vs → frzK n l = true
  | [], vs, _ => rfl
  | (k, d) :: l, vs, h => by
    obtain ⟨v, r, h1, h2, h3⟩ := h
    exact Bool.and_eq_true_iff.mpr ⟨Rep.frz hn h2, RepK.frz hn h3⟩
theorem RepT.frz {n : Nat} (hn : w.ph.length ≤ n) : ∀ {l : List (List K × D)} {vs : List (List Key × V)}, RepT Y w H l vs → frzT n l = true
  | [], vs, _ => rfl
  | (k, d) :: l, vs, h => by
    obtain ⟨v, r, h1, h2, h3⟩ := h
    exact Bool.and_eq_true_iff.mpr ⟨Rep.frz hn h2, RepT.frz hn h3⟩
theorem RepF.frz {n : Nat} (hn : w.ph.length ≤ n) : ∀ {l : List (Nat × D)} {vs : List (Str × V)}, RepF Y w H l vs → frzF n l = true
  | [], vs, _ => rfl
  | (k, d) :: l, vs, h => by
    obtain ⟨v, r, h1, h2, h3⟩ := h
    exact Bool.and_eq_true_iff.mpr ⟨Rep.frz hn h2, RepF.frz hn h3⟩
end
theorem OSim.frz {n : Nat} (hn : w.ph.length ≤ n) {a : Addr} {d : D} (s : OSim Y w H a d) : frz n d = true := by
  cases d with
  | lst l => obtain ⟨vs, e1, r⟩ := s; exact r.frz hn
  | dK l => obtain ⟨vs, e1, r⟩ := s; exact r.frz hn
  | dT l => obtain ⟨vs, e1, r⟩ := s; exact r.frz hn
  | ins c fs => obtain ⟨dx, fv, e1, r⟩ := s; exact r.frz hn
  | _ => exact s.elim
/-- the heap cut back to its first places -/
theorem HSim.trunc {w0 : Wd} {H0 : Hp} {h0 : Hm} (s0 : HSim Y w0 H0 h0) (s : HSim Y w H h) (e : Evo w0 H0 w H) (c : ∀ m, m < h0.length → h[m]? = h0[m]? ∨ ∃ o, h[m]? = some o ∧ Pv.frz h0.length o = true) :
    HSim Y (w.cutAt h0.length) H (h.take h0.length) ∧ Evo w0 H0 (w.cutAt h0.length) H := by
  obtain ⟨more, ep⟩ := e.pre
  have hl : w0.ph.length = h0.length := s0.len
  have hle : h0.length ≤ w.ph.length := by rw [ep, List.length_append]; omega
  refine ⟨⟨by simp [s.len], s.nd.sublist (List.take_sublist _ _), fun n a d e1 e2 => ?_, fun a m => ⟨fun z => (s.av a m).1 (List.mem_of_mem_take z), (s.av a m).2⟩, s.tab⟩, ⟨⟨[], ?_⟩, e.av, e.cl, fun a o ha he hn => ?_, e.ext, e.tup, e.fzo, e.xdk, e.avk⟩⟩
  · obtain ⟨l1, e1⟩ := take_at e1
    obtain ⟨l2, e2⟩ := take_at e2
    have os := s.at_ n a d e1 e2
    refine os.cut ?_
    rcases c n l1 with q | ⟨o, q, f⟩
    · rw [e2] at q
      obtain ⟨a0, _, o0⟩ := s0.get q.symm
      exact o0.frz (Nat.le_of_eq hl)
    · rw [e2] at q; cases q; exact f
  · show w.ph.take h0.length = w0.ph ++ []
    rw [ep, ← hl, List.take_left', List.append_nil]
    rfl
  · obtain ⟨h1, h2⟩ := e.keep a o ha he hn
    exact ⟨fun z => h1 (List.mem_of_mem_take z), h2⟩
end Pv
end

section
set_option maxRecDepth 100000
set_option maxHeartbeats 4000000
namespace Pv
open PySem PySem.Spec PyProof.Rows L2
variable {Y : At} {w w' : Wd} {H H' : Hp} {h : Hm}
/-- the same by other cells -/
structure Mv (w : Wd) (H : Hp) (w' : Wd) (H' : Hp) : Prop where
  ph : w'.ph = w.ph
  av : w'.av = w.av
  keep : ∀ a o, H a = some o → (∀ o' y, o ≠ .frz o' (.own y)) → H' a = some o
  cel : ∀ c v, CelOk w H c v → CelOk w' H' c v
theorem Mv.off (m : Mv w H w' H') {a : Addr} (o : Off w a) : Off w' a := by
  unfold Off
  rw [m.ph, m.av]
  exact o
theorem Mv.rdK (m : Mv w H w' H') {a : Addr} {l : List (Key × V)} (r : Rd H a (.dK l)) : Rd H' a (.dK l) := r.imp (fun e => m.keep _ _ e (fun _ _ z => nomatch z)) fun ⟨o, e⟩ => ⟨o, m.keep _ _ e (fun _ _ z => nomatch z)⟩
theorem Mv.rdT (m : Mv w H w' H') {a : Addr} {l : List (List Key × V)} (r : Rd H a (.dT l)) : Rd H' a (.dT l) := r.imp (fun e => m.keep _ _ e (fun _ _ z => nomatch z)) fun ⟨o, e⟩ => ⟨o, m.keep _ _ e (fun _ _ z => nomatch z)⟩
theorem Mv.clo (m : Mv w H w' H') {f : Addr} {i : Nat} {vs : List V} (k : Clo Y w H f i vs) : Clo Y w' H' f i vs :=
  let ⟨n, cs, c', h1, h2, h3, h4, h5, h6⟩ := k
  ⟨n, cs, c', h1, m.keep _ _ h2 (fun _ _ z => nomatch z), m.keep _ _ h3 (fun _ _ z => nomatch z), h4, paired_mono (fun _ _ r => m.cel _ _ r) h5, h6⟩
mutual
/-- fewer places to keep off; the same references -/
theorem Rep.mv (m : Mv w H w' H') : ∀ {d : D} {v : V}, Rep Y w H d v → Rep Y w' H' d v
  | .non, v, h => h
  | .bl _, v, h => h
  | .int _, v, h => h
  | .str _, v, h => h
  | .tup l, v, h => by
    obtain ⟨a, vs, h1, h2, h3⟩ := h
    exact ⟨a, vs, h1, m.keep _ _ h2 (fun _ _ z => nomatch z), Reps.mv m h3⟩
  | .wt l, v, h => by
    obtain ⟨a, vs, h1, h2, h3⟩ := h
    exact ⟨a, vs, h1, h2, Reps.mv m h3⟩
  | .lst l, v, h => by
    obtain ⟨a, vs, h1, h2, h3, h4⟩ := h
    exact ⟨a, vs, h1, m.off h2, m.keep _ _ h3 (fun _ _ z => nomatch z), Reps.mv m h4⟩
  | .dK l, v, h => by
    obtain ⟨a, vs, h1, h2, h3, h4⟩ := h
    exact ⟨a, vs, h1, m.off h2, m.rdK h3, RepK.mv m h4⟩
  | .dT l, v, h => by
    obtain ⟨a, vs, h1, h2, h3, h4⟩ := h
    exact ⟨a, vs, h1, m.off h2, m.rdT h3, RepT.mv m h4⟩
  | .rng lo hi, v, h => by
    obtain ⟨a, h1, h2, h3⟩ := h
    exact ⟨a, h1, m.off h2, m.keep _ _ h3 (fun _ _ z => nomatch z)⟩
  | .ins c fs, v, h => by
    obtain ⟨a, dx, fv, h1, h2, h3, h4⟩ := h
    exact ⟨a, dx, fv, h1, m.off h2, m.keep _ _ h3 (fun _ _ z => nomatch z), RepF.mv m h4⟩
  | .ref n, v, h => by
    obtain ⟨a, h1, h2⟩ := h
    exact ⟨a, m.ph ▸ h1, h2⟩
  | .fn _, v, h => h
  | .cls _, v, h => h
  | .clo i caps, v, h => by
    obtain ⟨f, vs, h1, h3, h4⟩ := h
    exact ⟨f, vs, h1, m.clo h3, Reps.mv m h4⟩
  | .exc _ _, v, h => h.elim
  | .scr l, v, h => by
    obtain ⟨a, h1, h2⟩ := h
    exact ⟨a, h1, h2.imp (fun ⟨o, q⟩ => ⟨o, m.keep a _ q (fun _ _ z => nomatch z)⟩) id⟩
theorem Reps.mv (m : Mv w H w' H') : ∀ {l : List D} {vs : List V}, Reps Y w H l vs → Reps Y w' H' l vs
  | [], vs, h => h
  | d :: l, vs, h => by
    obtain ⟨v, r, h1, h2, h3⟩ := h
    exact ⟨v, r, h1, Rep.mv m h2, Reps.mv m h3⟩
theorem RepK.mv (m : Mv w H w' H') : ∀ {l : List (K × D)} {vs : List (Key × V)}, RepK Y w H l vs → RepK Y w' H' l vs
  | [], vs, h => h
  | (k, d) :: l, vs, h => by
    obtain ⟨v, r, h1, h2, h3⟩ := h
    exact ⟨v, r, h1, Rep.mv m h2, RepK.mv m h3⟩
theorem RepT.mv (m : Mv w H w' H') : ∀ {l : List (List K × D)} {vs : List (List Key × V)}, RepT Y w H l vs → RepT Y w' H' l vs
  | [], vs, h => h
  | (k, d) :: l, vs, h => by
    obtain ⟨v, r, h1, h2, h3⟩ := h
    exact ⟨v, r, h1, Rep.mv m h2, RepT.mv m h3⟩
theorem RepF.mv (m : Mv w H w' H') : ∀ {l : List (Nat × D)} {vs : List (Str × V)}, RepF Y w H l vs → RepF Y w' H' l vs
  | [], vs, h => h
  | (k, d) :: l, vs, h => by
    obtain ⟨v, r, h1, h2, h3⟩ := h
    exact ⟨v, r, h1, Rep.mv m h2, RepF.mv m h3⟩
end

mutual
/-- no reference from n on -/
theorem Rep.anyCl {q : List (Addr × V)} : ∀ {d : D} {v : V}, noClo d = true → Rep Y w H d v → Rep Y ⟨w.ph, w.av, q⟩ H d v
  | .non, v, _, h => h
  | .bl _, v, _, h => h
  | .int _, v, _, h => h
  | .str _, v, _, h => h
  | .tup l, v, f, h => by
    obtain ⟨a, vs, h1, h2, h3⟩ := h
    exact ⟨a, vs, h1, h2, Reps.anyCl f h3⟩
  | .wt l, v, f, h => by
    obtain ⟨a, vs, h1, h2, h3⟩ := h
    exact ⟨a, vs, h1, h2, Reps.anyCl f h3⟩
  | .lst l, v, f, h => by
    obtain ⟨a, vs, h1, h2, h3, h4⟩ := h
    exact ⟨a, vs, h1, h2, h3, Reps.anyCl f h4⟩
  | .dK l, v, f, h => by
    obtain ⟨a, vs, h1, h2, h3, h4⟩ := h
    exact ⟨a, vs, h1, h2, h3, RepK.anyCl f h4⟩
  | .dT l, v, f, h => by
    obtain ⟨a, vs, h1, h2, h3, h4⟩ := h
    exact ⟨a, vs, h1, h2, h3, RepT.anyCl f h4⟩
  | .rng lo hi, v, _, h => by
    obtain ⟨a, h1, h2, h3⟩ := h
    exact ⟨a, h1, h2, h3⟩
  | .ins c fs, v, f, h => by
    obtain ⟨a, dx, fv, h1, h2, h3, h4⟩ := h
    exact ⟨a, dx, fv, h1, h2, h3, RepF.anyCl f h4⟩
  | .ref m, v, f, h => by
    obtain ⟨a, h1, h2⟩ := h
    exact ⟨a, h1, h2⟩
  | .fn _, v, _, h => h
  | .cls _, v, _, h => h
  | .clo i caps, v, f, h => by cases f
  | .exc _ _, v, _, h => h.elim
  | .scr _, v, _, h => h
theorem Reps.anyCl {q : List (Addr × V)} : ∀ {l : List D} {vs : List V}, noClos l = true → Reps Y w H l vs → Reps Y ⟨w.ph, w.av, q⟩ H l vs
  | [], vs, _, h => h
  | d :: l, vs, f, h => by
    obtain ⟨v, r, h1, h2, h3⟩ := h
    obtain ⟨f1, f2⟩ := Bool.and_eq_true_iff.mp f
    exact ⟨v, r, h1, Rep.anyCl f1 h2, Reps.anyCl f2 h3⟩
theorem RepK.anyCl {q : List (Addr × V)} : ∀ {l : List (K × D)} {vs : List (Key × V)}, noCloK l = true → RepK Y w H l vs → RepK Y ⟨w.ph, w.av, q⟩ H l vs
  | [], vs, _, h => h
  | (k, d) :: l, vs, f, h => by
    obtain ⟨v, r, h1, h2, h3⟩ := h
    obtain ⟨f1, f2⟩ := Bool.and_eq_true_iff.mp f
    exact ⟨v, r, h1, Rep.anyCl f1 h2, RepK.anyCl f2 h3⟩
theorem RepT.anyCl {q : List (Addr × V)} : ∀ {l : List (List K × D)} {vs : List (List Key × V)}, noCloT l = true → RepT Y w H l vs → RepT Y ⟨w.ph, w.av, q⟩ H l vs
  | [], vs, _, h => h
  | (k, d) :: l, vs, f, h => by
    obtain ⟨v, r, h1, h2, h3⟩ := h
    obtain ⟨f1, f2⟩ := Bool.and_eq_true_iff.mp f
    exact ⟨v, r, h1, Rep.anyCl f1 h2, RepT.anyCl f2 h3⟩
theorem RepF.anyCl {q : List (Addr × V)} : ∀ {l : List (Nat × D)} {vs : List (Str × V)}, noCloF l = true → RepF Y w H l vs → RepF Y ⟨w.ph, w.av, q⟩ H l vs
  | [], vs, _, h => h
  | (k, d) :: l, vs, f, h => by
    obtain ⟨v, r, h1, h2, h3⟩ := h
    obtain ⟨f1, f2⟩ := Bool.and_eq_true_iff.mp f
    exact ⟨v, r, h1, Rep.anyCl f1 h2, RepF.anyCl f2 h3⟩
end

theorem OSim.mv (m : Mv w H w' H') {a : Addr} {d : D} (s : OSim Y w H a d) : OSim Y w' H' a d := by
  cases d with
  | lst l => obtain ⟨vs, e1, r⟩ := s; exact ⟨vs, m.keep _ _ e1 (fun _ _ z => nomatch z), r.mv m⟩
  | dK l => obtain ⟨vs, e1, r⟩ := s; exact ⟨vs, m.keep _ _ e1 (fun _ _ z => nomatch z), r.mv m⟩
  | dT l => obtain ⟨vs, e1, r⟩ := s; exact ⟨vs, m.keep _ _ e1 (fun _ _ z => nomatch z), r.mv m⟩
  | ins c fs => obtain ⟨dx, fv, e1, r⟩ := s; exact ⟨dx, fv, m.keep _ _ e1 (fun _ _ z => nomatch z), r.mv m⟩
  | _ => exact s.elim
theorem OSim.anyCl {q : List (Addr × V)} {a : Addr} {d : D} (f : noClo d = true) (s : OSim Y w H a d) : OSim Y ⟨w.ph, w.av, q⟩ H a d := by
  cases d with
  | lst l => obtain ⟨vs, e1, r⟩ := s; exact ⟨vs, e1, r.anyCl f⟩
  | dK l => obtain ⟨vs, e1, r⟩ := s; exact ⟨vs, e1, r.anyCl f⟩
  | dT l => obtain ⟨vs, e1, r⟩ := s; exact ⟨vs, e1, r.anyCl f⟩
  | ins c fs => obtain ⟨dx, fv, e1, r⟩ := s; exact ⟨dx, fv, e1, r.anyCl f⟩
  | _ => exact s.elim
theorem HSim.mv (s : HSim Y w H h) (m : Mv w H w' H') (ha : ∀ a ∈ w.av, ∃ o, H' a = some o ∧ NC o) (ht : Y.tab H') : HSim Y w' H' h :=
  ⟨by rw [m.ph]; exact s.len, by rw [m.ph]; exact s.nd, fun n a d e1 e2 => (s.at_ n a d (by rw [← m.ph]; exact e1) e2).mv m, fun a ma => ⟨by rw [m.ph]; exact (s.av a (by rw [← m.av]; exact ma)).1, ha a (by rw [← m.av]; exact ma)⟩, ht⟩
/-- more cells told -/
theorem HSim.moreCl {q : List (Addr × V)} (s : HSim Y w H h) (hq : ∀ p ∈ w.cl, p ∈ q) (ht : Y.tab H) : HSim Y ⟨w.ph, w.av, q⟩ H h :=
  s.mv ⟨rfl, rfl, fun _ _ e _ => e, fun c v k => k.mono hq (fun _ _ _ z => z)⟩ (fun a m => (s.av a m).2) ht
theorem Mv.more {q : List (Addr × V)} (hq : ∀ p ∈ w.cl, p ∈ q) : Mv w H ⟨w.ph, w.av, q⟩ H := ⟨rfl, rfl, fun _ _ e _ => e, fun c v k => k.mono hq (fun _ _ _ z => z)⟩
/-- the heap cut back, its cells told no more -/
theorem HSim.truncC {w0 : Wd} {H0 : Hp} {h0 : Hm} {q : List (Addr × V)} (s0 : HSim Y w0 H0 h0) (hq : ∀ p ∈ w0.cl, p ∈ q) (s : HSim Y w H h) (e : Evo ⟨w0.ph, w0.av, q⟩ H0 w H)
    (c : ∀ m, m < h0.length → (∃ o, h[m]? = some o ∧ noClo o = true) ∧ (h[m]? = h0[m]? ∨ ∃ o, h[m]? = some o ∧ Pv.frz h0.length o = true)) :
    HSim Y ⟨w.ph.take h0.length, w.av, w0.cl⟩ H (h.take h0.length) ∧ Evo w0 H0 ⟨w.ph.take h0.length, w.av, w0.cl⟩ H := by
  have s0' : HSim Y ⟨w0.ph, w0.av, q⟩ H0 h0 := s0.moreCl hq s0.tab
  obtain ⟨t1, t2⟩ := s0'.trunc s e fun m hm => (c m hm).2
  refine ⟨⟨t1.len, t1.nd, fun n a d e1 e2 => ?_, t1.av, t1.tab⟩, ⟨t2.pre, t2.av, rfl, t2.keep, t2.ext, t2.tup, t2.fzo, t2.xdk, t2.avk⟩⟩
  have os := t1.at_ n a d e1 e2
  obtain ⟨l2, e3⟩ := take_at e2
  obtain ⟨o, eo, no⟩ := (c n l2).1
  rw [e3] at eo
  cases eo
  exact os.anyCl (w := w.cutAt h0.length) no
end Pv
end

section
set_option maxRecDepth 100000
set_option maxHeartbeats 4000000
namespace Pv
open PySem PySem.Spec PyProof.Rows L2
/-! ### what a piece of the text promises -/
def exName : Nat → String
  | 0 => "ZeroDivisionError"
  | _ => "Exception"
/-- an error as it is told -/
def RepX (Y : At) (w : Wd) (H : Hp) (x : Ex) (cls : Value) (dd : Option Addr) : Prop :=
  match x.c with
  | .own c => cls = .ref (Y.ca c) ∧ ((x.fs = [] ∧ dd = none) ∨ ∃ a fv, dd = some a ∧ H a = some (.xd fv) ∧ RepF Y w H x.fs fv)
  | .bi n => cls = .type (exName n) ∧ x.fs = []
/-- the slot that holds an error within its suite: where it stands, its class, its dict -/
structure Bad where
  i : Nat
  a : Addr
  cls : Value
  dd : Option Addr
structure EnvSim (Y : At) (w : Wd) (H : Hp) (bad : Option Bad) (ce : Nat → Option Addr) (lk : List Nat) (env : Env) (σ : L2.St) : Prop where
  len : env.length = σ.length
  at_ : ∀ (i : Nat) (d : D), env[i]? = some (some d) → bad.map (·.i) ≠ some i → ∃ v, σ[i]? = some (some v) ∧ Rep Y w H d v
  be : ∀ b, bad = some b → ∀ x fs, env[b.i]? = some (some (.exc x fs)) → σ[b.i]? = some (some (.ref b.a)) ∧ RepX Y w H ⟨x, fs⟩ b.cls b.dd
  cin : ∀ c v, (c, v) ∈ w.cl → ∃ j ∈ lk, ce j = some c ∧ σ[j]? = some (some v)
  cup : ∀ j ∈ lk, ∀ v, σ[j]? = some (some v) → ∃ c, ce j = some c ∧ (c, v) ∈ w.cl
def OutE (Y : At) (w : Wd) (H : Hp) (Q : QD) (Qv : VK) : Prop := ∀ w' H' v d h', Evo w H w' H' → HSim Y w' H' h' → Rep Y w' H' d v → Q d h' → Qv v H'
def OutX (Y : At) (w : Wd) (H : Hp) (X : QX) (Wσ : Value → Option Addr → Hp → Prop) : Prop := ∀ w' H' x cls dd h', Evo w H w' H' → HSim Y w' H' h' → RepX Y w' H' x cls dd → X x h' → Wσ cls dd H'
section
variable {Y : At} {w w' : Wd} {H H' : Hp} {bad : Option Bad} {ce : Nat → Option Addr} {lk : List Nat} {env : Env} {σ : L2.St}
theorem RepX.mono {x : Ex} {cls : Value} {dd : Option Addr} (r : RepX Y w H x cls dd) (e : Evo w H w' H') : RepX Y w' H' x cls dd := by
  unfold RepX at r ⊢
  split
  · rename_i c z
    rw [z] at r
    exact ⟨r.1, r.2.imp id fun ⟨a, fv, r3, r4, r5⟩ => ⟨a, fv, r3, e.xdk a fv r4, r5.mono e⟩⟩
  · rename_i n z
    rw [z] at r
    exact r
theorem EnvSim.mono (s : EnvSim Y w H bad ce lk env σ) (e : Evo w H w' H') : EnvSim Y w' H' bad ce lk env σ :=
  ⟨s.len, fun i d h1 h2 => let ⟨v, h3, h4⟩ := s.at_ i d h1 h2; ⟨v, h3, h4.mono e⟩, fun b hb x fs q => let ⟨q1, q2⟩ := s.be b hb x fs q; ⟨q1, q2.mono e⟩, by rw [e.cl]; exact s.cin, by rw [e.cl]; exact s.cup⟩
theorem OutE.evo {Q : QD} {Qv : VK} (o : OutE Y w H Q Qv) (e : Evo w H w' H') : OutE Y w' H' Q Qv := fun w2 H2 v d h2 e2 => o w2 H2 v d h2 (e.trans e2)
theorem OutX.evo {X : QX} {Wσ : Value → Option Addr → Hp → Prop} (o : OutX Y w H X Wσ) (e : Evo w H w' H') : OutX Y w' H' X Wσ := fun w2 H2 x c d h2 e2 => o w2 H2 x c d h2 (e.trans e2)
end
/-- the frame: the program, the defs that may be called, the slot that holds an error -/
structure Fr where
  Y : At
  P : Cls
  C : Calls
  bad : Option Bad
  ce : Nat → Option Addr
  lk : List Nat
  W : WX
def tE (F : Fr) (e : E) : TE := fun σ H Qv => ∃ (w : Wd) (env : Env) (h : Hm) (Q : QD) (X : QX), HSim F.Y w H h ∧ EnvSim F.Y w H F.bad F.ce F.lk env σ ∧ dE F.P F.C e env h Q X ∧ OutE F.Y w H Q Qv ∧ OutX F.Y w H X fun c d H' => F.W c d σ H'
def tT (F : Fr) (e : E) : TT := fun σ H Qv => ∃ (w : Wd) (env : Env) (h : Hm) (Q : Bool → Hm → Prop) (X : QX), HSim F.Y w H h ∧ EnvSim F.Y w H F.bad F.ce F.lk env σ ∧ dE F.P F.C e env h (fun d h' => ∃ b, d = .bl b ∧ Q b h') X ∧ (∀ w' H' b h', Evo w H w' H' → HSim F.Y w' H' h' → Q b h' → Qv b H') ∧ OutX F.Y w H X fun c d H' => F.W c d σ H'
def tEs (F : Fr) (es : Es) : TA := fun σ H Qv => ∃ (w : Wd) (env : Env) (h : Hm) (Q : List D → Hm → Prop) (X : QX), HSim F.Y w H h ∧ EnvSim F.Y w H F.bad F.ce F.lk env σ ∧ dEs F.P F.C es env h Q X ∧ (∀ w' H' vs l h', Evo w H w' H' → HSim F.Y w' H' h' → Reps F.Y w' H' l vs → Q l h' → Qv vs H') ∧ OutX F.Y w H X fun c d H' => F.W c d σ H'
theorem _root_.L2.PE.imp {X : Cx} {e : Expr} {t t' : TE} (h : PE X e t) (i : ∀ σ H Q, t' σ H Q → t σ H Q) : PE X e t' := ⟨fun pins s σ H Q I q => h.run pins s σ H Q I (i σ H Q q)⟩
theorem _root_.L2.PT.imp {X : Cx} {e : Expr} {t t' : TT} (h : PT X e t) (i : ∀ σ H Q, t' σ H Q → t σ H Q) : PT X e t' := ⟨fun pins s σ H Q I q => h.run pins s σ H Q I (i σ H Q q)⟩
theorem _root_.L2.PW.imp {X : Cx} {e : Expr} {t t' : TT} (h : PW X e t) (i : ∀ σ H Q, t' σ H Q → t σ H Q) : PW X e t' := ⟨fun wh pins s σ H Q I q => h.run wh pins s σ H Q I (i σ H Q q)⟩
theorem _root_.L2.PA.imp {X : Cx} {e : List Expr} {t t' : TA} (h : PA X e t) (i : ∀ σ H Q, t' σ H Q → t σ H Q) : PA X e t' := ⟨fun pos pins s σ H Q I q => h.run pos pins s σ H Q I (i σ H Q q)⟩
theorem _root_.L2.PS.imp {X : Cx} {e : Stmt} {t t' : TS} (h : PS X e t) (i : ∀ D σ H, t' D σ H → t D σ H) : PS X e t' := ⟨fun pins s σ H D I q => h.run pins s σ H D I (i D σ H q)⟩
theorem _root_.L2.PSs.imp {X : Cx} {e : List Stmt} {t t' : TS} (h : PSs X e t) (i : ∀ D σ H, t' D σ H → t D σ H) : PSs X e t' := ⟨fun pins s σ H D I q => h.run pins s σ H D I (i D σ H q)⟩
section
variable {X : Cx} {F : Fr} {a b c : Expr} {ea eb ec : E} {pos : Pos}
/-! ### small expressions -/
theorem ok_slot {i : Nat} {x : Str} (hN : X.N[i]? = some x) (hv : Vis X.env.scope x) (hb : F.bad.map (·.i) ≠ some i) (hd : (x == ("__debug__" : Str)) = false) (hcd : (x == ("__classdict__" : Str)) = false) : PE X (.Name x pos) (tE F (.slot i)) :=
  (pe_var hN hv hd hcd).imp fun σ H Q ⟨w, env, h, Qd, Xd, hs, es, hd, o, _⟩ => by
    obtain ⟨d, e1, q⟩ := hd
    obtain ⟨v, e2, r⟩ := es.at_ i d e1 hb
    exact ⟨v, e2, o w H v d h (Evo.refl _ _) hs r q⟩
/-- a value that is always the same -/
theorem ok_cst {e : Expr} {d : D} {v : V} (h : PE X e (tC v)) (r : ∀ w H, Rep F.Y w H d v) : PE X e (tE F (.cst d)) :=
  h.imp fun σ H Q ⟨w, env, h, Qd, Xd, hs, es, hd, o, _⟩ => o w H v d h (Evo.refl _ _) hs (r w H) hd
/-- an operator's soundness -/
structure OpS (X : Cx) (Y : At) (f : Value → Value → Sem Value) (o : Op) where
  r : R2
  op : OpR X f r
  sound : ∀ {w H h x y vx vy z} {Qv : VK}, HSim Y w H h → Rep Y w H x vx → Rep Y w H y vy → dOp h o x y = some z → (∀ w' H' v, Evo w H w' H' → HSim Y w' H' h → Rep Y w' H' z v → Qv v H') → r vx vy H Qv
theorem tE_op {o : Op} {r : R2} (snd : ∀ {w H h x y vx vy z} {Qv : VK}, HSim F.Y w H h → Rep F.Y w H x vx → Rep F.Y w H y vy → dOp h o x y = some z → (∀ w' H' v, Evo w H w' H' → HSim F.Y w' H' h → Rep F.Y w' H' z v → Qv v H') → r vx vy H Qv)
    {σ : L2.St} {H : Hp} {Q : VK} (t : tE F (.op o ea eb) σ H Q) : tOp r (tE F ea) (tE F eb) σ H Q := by
  obtain ⟨w, env, h, Qd, Xd, hs, es, hd, o', ox⟩ := t
  refine ⟨w, env, h, _, Xd, hs, es, hd, fun w1 H1 v1 d1 h1 e1 s1 r1 q1 => ?_, ox⟩
  refine ⟨w1, env, h1, _, Xd, s1, es.mono e1, q1, fun w2 H2 v2 d2 h2 e2 s2 r2 q2 => ?_, ox.evo e1⟩
  obtain ⟨z, hz, qz⟩ := q2
  exact snd s2 (r1.mono e2) r2 hz fun w3 H3 v e3 s3 r3 => o' w3 H3 v z h2 ((e1.trans e2).trans e3) s3 r3 qz
theorem ok_bin {op : Operator} {o : Op} (S : OpS X F.Y (binaryOp op) o) (ha : PE X a (tE F ea)) (hb : PE X b (tE F eb)) : PE X (.BinOp a op b pos) (tE F (.op o ea eb)) :=
  (pe_op S.op ha hb).imp fun _ _ _ t => tE_op S.sound t
theorem ok_cmp {op : CmpOp} {o : Op} (S : OpS X F.Y (compareOp op) o) (ha : PE X a (tE F ea)) (hb : PE X b (tE F eb)) (hm : behindInMarks op b = false) : PE X (.Compare a [op] [b] pos) (tE F (.op o ea eb)) :=
  (pe_cmpR S.op ha hb hm).imp fun _ _ _ t => tE_op S.sound t
theorem tT_E {e : E} {σ : L2.St} {H : Hp} {Q : Bool → Hp → Prop} (t : tT F e σ H Q) : tE F e σ H fun x H' => ∃ k, x = .bl k ∧ Q k H' := by
  obtain ⟨w, env, h, Qd, Xd, hs, es, hd, o, ox⟩ := t
  refine ⟨w, env, h, _, Xd, hs, es, hd, fun w1 H1 v1 d1 h1 e1 s1 r1 q1 => ?_, ox⟩
  obtain ⟨b, rfl, q⟩ := q1
  exact ⟨b, r1, o w1 H1 b h1 e1 s1 q⟩
/-- a test: what gives True or False -/
theorem ok_test {e : Expr} {E : E} (h : PE X e (tE F E)) (he : ∀ whole, isTrue e X.env whole = (do let v ← whole; standAt e.pos; holding [v] (truthy v))) : PT X e (tT F E) :=
  (pt_val h he).imp fun _ _ _ t => tT_E t
theorem ok_tcmp {op : CmpOp} {o : Op} (S : OpS X F.Y (compareOp op) o) (ha : PE X a (tE F ea)) (hb : PE X b (tE F eb)) (hm : behindInMarks op b = false) : PT X (.Compare a [op] [b] pos) (tT F (.op o ea eb)) :=
  (pt_cmpR S.op ha hb hm).imp fun _ _ _ t => tE_op S.sound (tT_E t)
theorem ok_not (ha : PE X a (tE F ea)) : PE X (.UnaryOp .Not a pos) (tE F (.not_ ea)) :=
  (pe_not ha).imp fun σ H Q ⟨w, env, h, Qd, Xd, hs, es, hd, o, ox⟩ =>
    ⟨w, env, h, _, Xd, hs, es, hd, fun w1 H1 v1 d1 h1 e1 s1 r1 ⟨b, e, q⟩ => by
      subst e
      exact ⟨b, r1, o w1 H1 (.bl !b) (.bl !b) h1 e1 s1 rfl q⟩, ox⟩
theorem ok_tnot (ha : PT X a (tT F ea)) : PT X (.UnaryOp .Not a pos) (tT F (.not_ ea)) :=
  (pt_not ha).imp fun σ H Q ⟨w, env, h, Qd, Xd, hs, es, hd, o, ox⟩ =>
    ⟨w, env, h, fun b h' => Qd (!b) h', Xd, hs, es, by
      have hd : dE F.P F.C ea env h (fun x h1 => ∃ b, x = .bl b ∧ ∃ b', D.bl (!b) = .bl b' ∧ Qd b' h1) Xd := hd
      have e : (fun (x : D) (h1 : Hm) => ∃ b, x = .bl b ∧ ∃ b', D.bl (!b) = .bl b' ∧ Qd b' h1) = fun x h1 => ∃ b, x = .bl b ∧ Qd (!b) h1 := by
        funext x h1
        refine propext ⟨fun ⟨b, e, b', e', q⟩ => ⟨b, e, ?_⟩, fun ⟨b, e, q⟩ => ⟨b, e, _, rfl, q⟩⟩
        injection e' with e'
        rw [e']; exact q
      rw [e] at hd
      exact hd, fun w1 H1 b h1 e1 s1 q => o w1 H1 _ h1 e1 s1 q, ox⟩
/-- and, or -/
theorem tE_and {σ : L2.St} {H : Hp} {Q : VK} (t : tE F (.and_ ea eb) σ H Q) : tAndV (tE F ea) (tE F eb) σ H Q := by
  obtain ⟨w, env, h, Qd, Xd, hs, es, hd, o, ox⟩ := t
  refine ⟨w, env, h, _, Xd, hs, es, hd, fun w1 H1 v1 d1 h1 e1 s1 r1 q1 => ?_, ox⟩
  obtain ⟨k, e, q⟩ := q1
  subst e
  refine ⟨k, r1, ?_⟩
  cases k with
  | true => exact ⟨w1, env, h1, Qd, Xd, s1, es.mono e1, q, o.evo e1, ox.evo e1⟩
  | false => exact o w1 H1 (.bl false) (.bl false) h1 e1 s1 rfl q
theorem tE_or {σ : L2.St} {H : Hp} {Q : VK} (t : tE F (.or_ ea eb) σ H Q) : tOrV (tE F ea) (tE F eb) σ H Q := by
  obtain ⟨w, env, h, Qd, Xd, hs, es, hd, o, ox⟩ := t
  refine ⟨w, env, h, _, Xd, hs, es, hd, fun w1 H1 v1 d1 h1 e1 s1 r1 q1 => ?_, ox⟩
  obtain ⟨k, e, q⟩ := q1
  subst e
  refine ⟨k, r1, ?_⟩
  cases k with
  | false => exact ⟨w1, env, h1, Qd, Xd, s1, es.mono e1, q, o.evo e1, ox.evo e1⟩
  | true => exact o w1 H1 (.bl true) (.bl true) h1 e1 s1 rfl q
theorem ok_and {rest : List Expr} (ha : PE X a (tE F ea)) (hb : PE X (.BoolOp .And (b :: rest) pos) (tE F eb)) : PE X (.BoolOp .And (a :: b :: rest) pos) (tE F (.and_ ea eb)) :=
  (pe_and ha hb).imp fun _ _ _ t => tE_and t
theorem ok_or {rest : List Expr} (ha : PE X a (tE F ea)) (hb : PE X (.BoolOp .Or (b :: rest) pos) (tE F eb)) : PE X (.BoolOp .Or (a :: b :: rest) pos) (tE F (.or_ ea eb)) :=
  (pe_or ha hb).imp fun _ _ _ t => tE_or t
theorem exb {A : Bool → Prop} {k : Bool} : (∃ b, D.bl k = .bl b ∧ A b) ↔ A k := ⟨fun ⟨b, e, q⟩ => by injection e with e; rw [e]; exact q, fun q => ⟨k, rfl, q⟩⟩
theorem dE_mono {P : Cls} {C : Calls} {e : E} {env : Env} {h : Hm} {Q Q' : QD} {X : QX} (q : dE P C e env h Q X) (i : Q = Q') : dE P C e env h Q' X := i ▸ q
theorem tT_and {σ : L2.St} {H : Hp} {Q : Bool → Hp → Prop} (t : tT F (.and_ ea eb) σ H Q) : tAnd (tT F ea) (tT F eb) σ H Q := by
  obtain ⟨w, env, h, Qd, Xd, hs, es, hd, o, ox⟩ := t
  have hd : dE F.P F.C ea env h (fun x h1 => ∃ k, x = .bl k ∧ if k = true then dE F.P F.C eb env h1 (fun d h' => ∃ b, d = .bl b ∧ Qd b h') Xd else (∃ b, D.bl false = .bl b ∧ Qd b h1)) Xd := hd
  refine ⟨w, env, h, _, Xd, hs, es, hd, fun w1 H1 b h1 e1 s1 q => ?_, ox⟩
  cases b with
  | true => exact ⟨w1, env, h1, Qd, Xd, s1, es.mono e1, q, fun w2 H2 b h2 e2 => o w2 H2 b h2 (e1.trans e2), ox.evo e1⟩
  | false => exact o w1 H1 false h1 e1 s1 (exb.mp q)
theorem tT_or {σ : L2.St} {H : Hp} {Q : Bool → Hp → Prop} (t : tT F (.or_ ea eb) σ H Q) : tOr (tT F ea) (tT F eb) σ H Q := by
  obtain ⟨w, env, h, Qd, Xd, hs, es, hd, o, ox⟩ := t
  have hd : dE F.P F.C ea env h (fun x h1 => ∃ k, x = .bl k ∧ if k = true then (∃ b, D.bl true = .bl b ∧ Qd b h1) else dE F.P F.C eb env h1 (fun d h' => ∃ b, d = .bl b ∧ Qd b h') Xd) Xd := hd
  refine ⟨w, env, h, _, Xd, hs, es, hd, fun w1 H1 b h1 e1 s1 q => ?_, ox⟩
  cases b with
  | false => exact ⟨w1, env, h1, Qd, Xd, s1, es.mono e1, q, fun w2 H2 b h2 e2 => o w2 H2 b h2 (e1.trans e2), ox.evo e1⟩
  | true => exact o w1 H1 true h1 e1 s1 (exb.mp q)
theorem ok_tand {rest : List Expr} (ha : PT X a (tT F ea)) (hb : PW X (.BoolOp .And (b :: rest) pos) (tT F eb)) : PW X (.BoolOp .And (a :: b :: rest) pos) (tT F (.and_ ea eb)) :=
  (pw_and ha hb).imp fun _ _ _ t => tT_and t
theorem ok_tor {rest : List Expr} (ha : PT X a (tT F ea)) (hb : PW X (.BoolOp .Or (b :: rest) pos) (tT F eb)) : PW X (.BoolOp .Or (a :: b :: rest) pos) (tT F (.or_ ea eb)) :=
  (pw_or ha hb).imp fun _ _ _ t => tT_or t
theorem ok_ite (hc : PT X c (tT F ec)) (ha : PE X a (tE F ea)) (hb : PE X b (tE F eb)) : PE X (.IfExp c a b pos) (tE F (.ite ec ea eb)) :=
  (pe_ifExp hc ha hb).imp fun σ H Q ⟨w, env, h, Qd, Xd, hs, es, hd, o, ox⟩ => by
    refine ⟨w, env, h, _, Xd, hs, es, hd, fun w1 H1 k h1 e1 s1 q => ?_, ox⟩
    cases k with
    | true => exact ⟨w1, env, h1, Qd, Xd, s1, es.mono e1, q, o.evo e1, ox.evo e1⟩
    | false => exact ⟨w1, env, h1, Qd, Xd, s1, es.mono e1, q, o.evo e1, ox.evo e1⟩
theorem rep_nn {Y : At} {w : Wd} {H : Hp} {d : D} (r : Rep Y w H d .non) : d = .non := by
  cases d with
  | cls c => cases c <;> cases r
  | non => rfl
  | bl b => cases r
  | int b => cases r
  | str b => cases r
  | tup l => obtain ⟨a, vs, z, _⟩ := r; cases z
  | wt l => obtain ⟨a, vs, z, _⟩ := r; cases z
  | lst l => obtain ⟨a, vs, z, _⟩ := r; cases z
  | dK l => obtain ⟨a, vs, z, _⟩ := r; cases z
  | dT l => obtain ⟨a, vs, z, _⟩ := r; cases z
  | rng lo hi => obtain ⟨a, z, _⟩ := r; cases z
  | ins c fs => obtain ⟨a, dx, fv, z, _⟩ := r; cases z
  | ref n => obtain ⟨a, _, z⟩ := r; cases z
  | fn i => cases r.1
  | clo i l => obtain ⟨a, vs, z, _⟩ := r; cases z
  | exc c fs => exact r.elim
  | scr l => obtain ⟨a, z, _⟩ := r; cases z
theorem rep_isNon {Y : At} {w : Wd} {H : Hp} {d : D} {v : V} (r : Rep Y w H d v) : decide (v = .non) = (match d with | .non => true | _ => false) := by
  by_cases e : v = .non
  · subst e
    have z := rep_nn r
    subst z
    rfl
  · rw [decide_eq_false e]
    cases d <;> first | rfl | exact absurd r e
theorem ok_isNon {j pos'} (ha : PE X a (tE F ea)) : PE X (.Compare a [.Is] [.Constant .none j pos'] pos) (tE F (.isNon ea)) :=
  (pe_cmp (pc_isN ha) rfl).imp fun σ H Q ⟨w, env, h, Qd, Xd, hs, es, hd, o, ox⟩ =>
    ⟨w, env, h, _, Xd, hs, es, hd, fun w1 H1 v1 d1 h1 e1 s1 r1 q1 => by
      refine o w1 H1 _ _ h1 e1 s1 ?_ q1
      show _ = _
      rw [rep_isNon r1]
      cases d1 <;> rfl, ox⟩
theorem ok_notNon {j pos'} (ha : PE X a (tE F ea)) : PE X (.Compare a [.IsNot] [.Constant .none j pos'] pos) (tE F (.notNon ea)) :=
  (pe_cmp (pc_notN ha) rfl).imp fun σ H Q ⟨w, env, h, Qd, Xd, hs, es, hd, o, ox⟩ =>
    ⟨w, env, h, _, Xd, hs, es, hd, fun w1 H1 v1 d1 h1 e1 s1 r1 q1 => by
      refine o w1 H1 _ _ h1 e1 s1 ?_ q1
      show _ = _
      rw [rep_isNon r1]
      cases d1 <;> rfl, ox⟩
theorem ok_tisNon {j pos'} (ha : PE X a (tE F ea)) : PT X (.Compare a [.Is] [.Constant .none j pos'] pos) (tT F (.isNon ea)) :=
  (pt_cmp (pc_isN ha) rfl).imp fun σ H Q t => by
    obtain ⟨w, env, h, Qd, Xd, hs, es, hd, o, ox⟩ := tT_E t
    exact ⟨w, env, h, _, Xd, hs, es, hd, fun w1 H1 v1 d1 h1 e1 s1 r1 q1 => by
      refine o w1 H1 _ _ h1 e1 s1 ?_ q1
      show _ = _
      rw [rep_isNon r1]
      cases d1 <;> rfl, ox⟩
theorem ok_tnotNon {j pos'} (ha : PE X a (tE F ea)) : PT X (.Compare a [.IsNot] [.Constant .none j pos'] pos) (tT F (.notNon ea)) :=
  (pt_cmp (pc_notN ha) rfl).imp fun σ H Q t => by
    obtain ⟨w, env, h, Qd, Xd, hs, es, hd, o, ox⟩ := tT_E t
    exact ⟨w, env, h, _, Xd, hs, es, hd, fun w1 H1 v1 d1 h1 e1 s1 r1 q1 => by
      refine o w1 H1 _ _ h1 e1 s1 ?_ q1
      show _ = _
      rw [rep_isNon r1]
      cases d1 <;> rfl, ox⟩
theorem ok_neg (ha : PE X a (tE F ea)) : PE X (.UnaryOp .USub a pos) (tE F (.neg ea)) :=
  (pe_un un_neg ha).imp fun σ H Q ⟨w, env, h, Qd, Xd, hs, es, hd, o, ox⟩ =>
    ⟨w, env, h, _, Xd, hs, es, hd, fun w1 H1 v1 d1 h1 e1 s1 r1 ⟨i, e, q⟩ => by
      subst e
      exact ⟨i, r1, o w1 H1 (.int (-i)) (.int (-i)) h1 e1 s1 rfl q⟩, ox⟩
/-- a op b op' c -/
theorem tE_chain {o o' : Op} {r r' : R2} (s1 : ∀ {w H h x y vx vy z} {Qv : VK}, HSim F.Y w H h → Rep F.Y w H x vx → Rep F.Y w H y vy → dOp h o x y = some z → (∀ w' H' v, Evo w H w' H' → HSim F.Y w' H' h → Rep F.Y w' H' z v → Qv v H') → r vx vy H Qv)
    (s2 : ∀ {w H h x y vx vy z} {Qv : VK}, HSim F.Y w H h → Rep F.Y w H x vx → Rep F.Y w H y vy → dOp h o' x y = some z → (∀ w' H' v, Evo w H w' H' → HSim F.Y w' H' h → Rep F.Y w' H' z v → Qv v H') → r' vx vy H Qv)
    {σ : L2.St} {H : Hp} {Q : VK} (t : tE F (.chain o o' ea eb ec) σ H Q) : tChain r r' (tE F ea) (tE F eb) (tE F ec) σ H Q := by
  obtain ⟨w, env, h, Qd, Xd, hs, es, hd, out, ox⟩ := t
  refine ⟨w, env, h, _, Xd, hs, es, hd, fun w1 H1 v1 d1 h1 e1 t1 r1 q1 => ?_, ox⟩
  refine ⟨w1, env, h1, _, Xd, t1, es.mono e1, q1, fun w2 H2 v2 d2 h2 e2 t2 r2 q2 => ?_, ox.evo e1⟩
  obtain ⟨k, hz, qz⟩ := q2
  refine s1 t2 (r1.mono e2) r2 hz fun w3 H3 v e3 t3 r3 => ⟨k, r3, ?_⟩
  have e13 := (e1.trans e2).trans e3
  cases k with
  | false => exact out w3 H3 (.bl false) (.bl false) h2 e13 t3 rfl qz
  | true =>
    refine ⟨w3, env, h2, _, Xd, t3, es.mono e13, qz, fun w4 H4 v4 d4 h4 e4 t4 r4 q4 => ?_, ox.evo e13⟩
    obtain ⟨z, hz', qz'⟩ := q4
    exact s2 t4 ((r2.mono e3).mono e4) r4 hz' fun w5 H5 v5 e5 t5 r5 => out w5 H5 v5 z h4 ((e13.trans e4).trans e5) t5 r5 qz'
end
end Pv
end

section
set_option maxRecDepth 100000
set_option maxHeartbeats 4000000
namespace Pv
open PySem PySem.Spec PyProof.Rows L2
/-! ### cells told to callees -/
theorem relV_left : ∀ {v v' : V} {u : Value}, L2.RelV v u → L2.RelV v' u → v = v'
  | v, v', .none, a, b => by
    have h : ∀ {x : V}, L2.RelV x .none → x = .non := fun {x} r => by cases x <;> first | rfl | exact nomatch (show _ = _ from r) | (obtain ⟨t, e⟩ := r; cases e)
    rw [h a, h b]
  | v, v', .bool k, a, b => by
    have h : ∀ {x : V}, L2.RelV x (.bool k) → x = .bl k := fun {x} r => by cases x <;> first | (cases (show _ = _ from r); rfl) | exact nomatch (show _ = _ from r) | (obtain ⟨t, e⟩ := r; cases e)
    rw [h a, h b]
  | v, v', .int i t, a, b => by
    have h : ∀ {x : V}, L2.RelV x (.int i t) → x = .int i := fun {x} r => by cases x <;> first | (obtain ⟨t, e⟩ := r; cases e; rfl) | exact nomatch (show _ = _ from r) | (obtain ⟨t, e⟩ := r; cases e)
    rw [h a, h b]
  | v, v', .str i t, a, b => by
    have h : ∀ {x : V}, L2.RelV x (.str i t) → x = .str i := fun {x} r => by cases x <;> first | (obtain ⟨t, e⟩ := r; cases e; rfl) | exact nomatch (show _ = _ from r) | (obtain ⟨t, e⟩ := r; cases e)
    rw [h a, h b]
  | v, v', .bytes i t, a, b => by
    have h : ∀ {x : V}, L2.RelV x (.bytes i t) → x = .byt i := fun {x} r => by cases x <;> first | (obtain ⟨t, e⟩ := r; cases e; rfl) | exact nomatch (show _ = _ from r) | (obtain ⟨t, e⟩ := r; cases e)
    rw [h a, h b]
  | v, v', .float i t, a, b => by
    have h : ∀ {x : V}, L2.RelV x (.float i t) → x = .flt i := fun {x} r => by cases x <;> first | (obtain ⟨t, e⟩ := r; cases e; rfl) | exact nomatch (show _ = _ from r) | (obtain ⟨t, e⟩ := r; cases e)
    rw [h a, h b]
  | v, v', .ref i, a, b => by
    have h : ∀ {x : V}, L2.RelV x (.ref i) → x = .ref i := fun {x} r => by cases x <;> first | (cases (show _ = _ from r); rfl) | exact nomatch (show _ = _ from r) | (obtain ⟨t, e⟩ := r; cases e)
    rw [h a, h b]
  | v, v', .type i, a, b => by
    have h : ∀ {x : V}, L2.RelV x (.type i) → x = .ty i := fun {x} r => by cases x <;> first | (cases (show _ = _ from r); rfl) | exact nomatch (show _ = _ from r) | (obtain ⟨t, e⟩ := r; cases e)
    rw [h a, h b]
  | v, v', .ellipsis, a, b => False.elim (by cases v <;> first | exact nomatch (show _ = _ from a) | (obtain ⟨t, e⟩ := a; cases e))
  | v, v', .notImplemented, a, b => False.elim (by cases v <;> first | exact nomatch (show _ = _ from a) | (obtain ⟨t, e⟩ := a; cases e))
  | v, v', .builtin _, a, b => False.elim (by cases v <;> first | exact nomatch (show _ = _ from a) | (obtain ⟨t, e⟩ := a; cases e))
/-- the cells in C told no more -/
noncomputable def dn (C : List Addr) (H : Hp) : Hp := fun a => if a ∈ C then none else H a
theorem dn_in {C : List Addr} {H : Hp} {a : Addr} (h : a ∈ C) : dn C H a = none := if_pos h
theorem dn_out {C : List Addr} {H : Hp} {a : Addr} (h : a ∉ C) : dn C H a = H a := if_neg h
/-- the cells in C told -/
noncomputable def upC (C : List Addr) (h : Heap) (H : Hp) : Hp := fun a => if a ∈ C then (match h.get? a with | some o => some (.frz o (.own a)) | none => none) else H a
theorem upC_out {C : List Addr} {h : Heap} {H : Hp} {a : Addr} (q : a ∉ C) : upC C h H a = H a := if_neg q
theorem upC_in {C : List Addr} {h : Heap} {H : Hp} {a : Addr} {o : Obj} (q : a ∈ C) (e : h.get? a = some o) : upC C h H a = some (.frz o (.own a)) := by
  unfold upC
  rw [if_pos q, e]
section
variable {P : Program} {w : World} {outer : List PySem.Env} {H U H' : Hp} {s s' : Shared} {C : List Addr} {h : Heap}
/-- U: H with the cells of C -/
structure UpC (C : List Addr) (h : Heap) (H U : Hp) : Prop where
  cin : ∀ b ∈ C, H b = none ∧ ∃ o y, h.get? b = some o ∧ U b = some (.frz o (.own y))
  out : ∀ b, b ∉ C → U b = H b
theorem UpC.of (hC : ∀ b ∈ C, H b = none ∧ ∃ o, h.get? b = some o) : UpC C h H (upC C h H) :=
  ⟨fun b hb => ⟨(hC b hb).1, let ⟨o, e⟩ := (hC b hb).2; ⟨o, b, e, upC_in hb e⟩⟩, fun b hb => upC_out hb⟩
theorem UpC.some (u : UpC C h H U) {a : Addr} {o : HO} (e : H a = some o) : a ∉ C ∧ U a = some o := by
  have hn : a ∉ C := fun m => by rw [(u.cin a m).1] at e; cases e
  exact ⟨hn, (u.out a hn).trans e⟩
theorem hok_dn (hok : HOk P w H' h) (hf : ∀ b ∈ C, ∃ o y, H' b = some (.frz o (.own y))) : HOk P w (dn C H') h := fun a o e => by
  by_cases hb : a ∈ C
  · rw [dn_in hb] at e; cases e
  · rw [dn_out hb] at e
    refine (hok a o e).stay (fun _ _ _ z => z) (fun b q => ?_) (fun b xs q => ?_)
    · rw [dn_out]
      · exact q
      · intro m; obtain ⟨o', y, e'⟩ := hf b m; rw [q] at e'; cases e'
    · rw [dn_out]
      · exact q
      · intro m; obtain ⟨o', y, e'⟩ := hf b m; rw [q] at e'; cases e'
theorem hok_up (hok : HOk P w H h) (u : UpC C h H U) : HOk P w U h := fun a o e => by
  by_cases hb : a ∈ C
  · obtain ⟨_, o', y, e1, e2⟩ := u.cin a hb
    rw [e2] at e
    cases e
    exact ⟨e1, ⟨_, e1⟩⟩
  · rw [u.out a hb] at e
    exact (hok a o e).stay (fun _ _ _ z => z) (fun b q => (u.some q).2) (fun b xs q => (u.some q).2)
theorem un_dn {fs : List Addr} {h h' : Heap} (u : UpC C h H U) (un : Un fs [] U H' h h') (hok : HOk P w H' h') : Un fs [] H (dn C H') h h' where
  keep := fun b o e n hf hx => by
    by_cases hb : b ∈ C
    · obtain ⟨_, o', y, e1, e2⟩ := u.cin b hb
      rw [e1] at e; cases e
      exact (hok b _ (un.frzs b _ _ e2)).1
    · exact un.keep b o e ((u.out b hb).trans n) hf hx
  slot := fun b o e n hf hx => by
    by_cases hb : b ∈ C
    · obtain ⟨_, o', y, e1, e2⟩ := u.cin b hb
      rw [e1] at e; cases e
      exact ⟨o.slots, (hok b _ (un.frzs b _ _ e2)).1⟩
    · exact un.slot b o e ((u.out b hb).trans n) hf hx
  free := fun b o e n hx => by
    by_cases hb : b ∈ C
    · exact dn_in hb
    · rw [dn_out hb]; exact un.free b o e ((u.out b hb).trans n) hx
  there := un.there
  tups := fun b xs e => by
    obtain ⟨hb, e'⟩ := u.some e
    rw [dn_out hb]; exact un.tups b xs e'
  frzs := fun b o x e => by
    obtain ⟨hb, e'⟩ := u.some e
    rw [dn_out hb]; exact un.frzs b o x e'
  tbls := fun b ps e => by
    obtain ⟨hb, e'⟩ := u.some e
    rw [dn_out hb]; exact un.tbls b ps e'
theorem ub_dn {fs : List Addr} {h B h' : Heap} (u : UpC C h H U) (un : UB fs U H' h B h') (hok : HOk P w H' B) (hfs : ∀ b ∈ fs, b ∉ C) : UB fs H (dn C H') h B h' where
  keep := fun b o e n hf => by
    by_cases hb : b ∈ C
    · obtain ⟨_, o', y, e1, e2⟩ := u.cin b hb
      rw [e1] at e; cases e
      exact (hok b _ (un.frzs b _ _ e2)).1
    · exact un.keep b o e ((u.out b hb).trans n) hf
  slot := un.slot
  free := fun b o e n => by
    by_cases hb : b ∈ C
    · exact dn_in hb
    · rw [dn_out hb]; exact un.free b o e ((u.out b hb).trans n)
  there := un.there
  tups := fun b xs e => by
    obtain ⟨hb, e'⟩ := u.some e
    rw [dn_out hb]; exact un.tups b xs e'
  frzs := fun b o x e => by
    obtain ⟨hb, e'⟩ := u.some e
    rw [dn_out hb]; exact un.frzs b o x e'
  tbls := fun b ps e => by
    obtain ⟨hb, e'⟩ := u.some e
    rw [dn_out hb]; exact un.tbls b ps e'
/-- a call with the cells told, looked at without -/
theorem cr_dn {Q : VK} {E : XK} {r : Result} (u : UpC C s.heap H U) (hfs : ∀ b ∈ frs outer, b ∉ C)
    (c : CR (L2.CX P w) outer P w U s (fun v H' => Q v (dn C H')) (fun c d H' => E c d (dn C H')) r s') : CR (L2.CX P w) outer P w H s Q E r s' := by
  cases r with
  | error e =>
    obtain ⟨a, B, H', cls, d, h1, h2, hok, ub, h5, h6, h7, h8⟩ := c
    refine ⟨a, B, dn C H', cls, d, h1, h2, hok_dn hok fun b hb => ?_, ub_dn u ub hok hfs, ?_, h6, h7, h8⟩
    · obtain ⟨_, o', y, e1, e2⟩ := u.cin b hb
      exact ⟨o', y, ub.frzs b _ _ e2⟩
    · by_cases hb : a ∈ C
      · exact dn_in hb
      · rw [dn_out hb]; exact h5
  | ok fl =>
    cases fl with
    | ret v =>
      obtain ⟨x, H', h1, h2, un, hok, h3, h4⟩ := c
      refine ⟨x, dn C H', h1, h2, un_dn u un hok, hok_dn hok fun b hb => ?_, h3, h4⟩
      obtain ⟨_, o', y, e1, e2⟩ := u.cin b hb
      exact ⟨o', y, un.frzs b _ _ e2⟩
    | next => exact c
    | brk => exact c
    | cont => exact c
end
/-! ### the frame's cells -/
structure FrOk (X : Cx) (F : Fr) : Prop where
  hK : X.K = F.Y.K
  cell : ∀ j ∈ F.lk, ∀ c, F.ce j = some c → ∃ x, X.N[j]? = some x ∧ X.env.cells.lookup x = some c ∧ Vis X.env.scope x ∧ (X.env.kindOf x = some .cell ∨ X.env.kindOf x = some .free)
  off : X.Ok → ∀ j ∈ F.lk, ∀ c, F.ce j = some c → X.base.get? c = none ∧ c ∉ frs X.stack
section
variable {X : Cx} {F : Fr} {pins : List (Addr × Obj)} {σ : L2.St} {w : Wd} {env : Env} {H : Hp} {s : Shared} {h : Hm}
def cells (w : Wd) : List Addr := w.cl.map (·.1)
theorem FrOk.up (f : FrOk X F) (I : Inv X pins σ H s) (ev : EnvSim F.Y w H F.bad F.ce F.lk env σ) :
    ∀ c v, (c, v) ∈ w.cl → H c = none ∧ X.base.get? c = none ∧ c ∉ frs X.stack ∧ ∃ o u, s.heap.get? c = some o ∧ o.data = .cell (some u) ∧ L2.RelV v u := fun c v m => by
  obtain ⟨j, hj, e1, e2⟩ := ev.cin c v m
  obtain ⟨x, n1, n2, n3, n4⟩ := f.cell j hj c e1
  obtain ⟨m1, hn, hl⟩ := I.loc
  obtain ⟨u, ru, lk⟩ := hl j x v n1 e2 n3
  refine ⟨I.freeC x c n2, (f.off I.ok j hj c e1).1, (f.off I.ok j hj c e1).2, ?_⟩
  rcases lk with ⟨k, _⟩ | ⟨_, c', e3, o, e4, e5⟩
  · rcases n4 with n4 | n4 <;> rw [n4] at k <;> cases k
  · rw [n2] at e3; cases e3
    exact ⟨o, u, e4, e5, ru⟩
theorem FrOk.upC (f : FrOk X F) (I : Inv X pins σ H s) (ev : EnvSim F.Y w H F.bad F.ce F.lk env σ) : UpC (cells w) s.heap H (upC (cells w) s.heap H) :=
  UpC.of fun b hb => by
    obtain ⟨⟨c, v⟩, m, rfl⟩ := List.mem_map.mp hb
    obtain ⟨h1, _, _, o, u, h2, _⟩ := f.up I ev c v m
    exact ⟨h1, o, h2⟩
theorem FrOk.env0 (f : FrOk X F) (I : Inv X pins σ H s) (ev : EnvSim F.Y w H F.bad F.ce F.lk env σ) : Env0 X.prog X.w X.K X.mg X.base X.A X.stack s (Pv.upC (cells w) s.heap H) := by
  have e := I.env0
  have u := f.upC I ev
  refine ⟨e.frames, e.mod, fun b o q => ⟨(e.bs b o q).1, ?_⟩, e.bsz, e.funs, fun b hb => ?_, hok_up e.hok u, e.bare⟩
  · rw [u.out]
    · exact (e.bs b o q).2
    · intro hb
      obtain ⟨⟨c, v⟩, m, rfl⟩ := List.mem_map.mp hb
      have := (f.up I ev c v m).2.1
      rw [this] at q; cases q
  · rw [u.out]
    · exact e.frf b hb
    · intro hb'
      obtain ⟨⟨c, v⟩, m, rfl⟩ := List.mem_map.mp hb'
      exact (f.up I ev c v m).2.2.1 hb
abbrev Wd.bare (w : Wd) : Wd := ⟨w.ph, w.av, []⟩
theorem FrOk.mv_up (f : FrOk X F) (I : Inv X pins σ H s) (ev : EnvSim F.Y w H F.bad F.ce F.lk env σ) : Mv w H w.bare (Pv.upC (cells w) s.heap H) := by
  have u := f.upC I ev
  refine ⟨rfl, rfl, fun a o e _ => (u.some e).2, fun c v k => .inr ?_⟩
  rcases k with m | ⟨o, x, y, e1, e2, e3⟩
  · obtain ⟨_, _, _, o, x, e1, e2, e3⟩ := f.up I ev c v m
    exact ⟨o, x, c, upC_in (List.mem_map_of_mem m) e1, e2, e3⟩
  · exact ⟨o, x, y, (u.some e1).2, e2, e3⟩
theorem FrOk.hsim_up (f : FrOk X F) (I : Inv X pins σ H s) (ev : EnvSim F.Y w H F.bad F.ce F.lk env σ) (hs : HSim F.Y w H h) : HSim F.Y w.bare (Pv.upC (cells w) s.heap H) h := by
  have u := f.upC I ev
  refine hs.mv (f.mv_up I ev) (fun a m => ?_) (F.Y.tabK H _ (fun b p e => (u.some e).2) (fun b p e => (u.some e).2) hs.tab)
  obtain ⟨o, e, nc⟩ := (hs.av a m).2
  exact ⟨o, (u.some e).2, nc⟩
/-- the way back -/
theorem FrOk.back (f : FrOk X F) (I : Inv X pins σ H s) (ev : EnvSim F.Y w H F.bad F.ce F.lk env σ) (hs : HSim F.Y w H h) {w' : Wd} {H' : Hp} {h' : Hm} (e : Evo w.bare (Pv.upC (cells w) s.heap H) w' H') (s' : HSim F.Y w' H' h') :
    Evo w H ⟨w'.ph, w'.av, w.cl⟩ (dn (cells w) H') ∧ HSim F.Y ⟨w'.ph, w'.av, w.cl⟩ (dn (cells w) H') h' ∧ Mv w' H' ⟨w'.ph, w'.av, w.cl⟩ (dn (cells w) H') := by
  have u := f.upC I ev
  have fz : ∀ b ∈ cells w, ∃ o y, s.heap.get? b = some o ∧ H' b = some (.frz o (.own y)) := fun b hb => by
    obtain ⟨_, o, y, e1, e2⟩ := u.cin b hb
    exact ⟨o, y, e1, e.fzo b o y e2⟩
  have out : ∀ b o, H' b = some o → (∀ o' y, o ≠ .frz o' (.own y)) → dn (cells w) H' b = some o := fun b o q n => by
    rw [dn_out]
    · exact q
    · intro m
      obtain ⟨o', y, _, e2⟩ := fz b m
      rw [e2] at q; cases q
      exact n _ _ rfl
  have mv : Mv w' H' ⟨w'.ph, w'.av, w.cl⟩ (dn (cells w) H') := by
    refine ⟨rfl, rfl, fun a o q n => out a o q n, fun c v k => ?_⟩
    rcases k with m | ⟨o, x, y, e1, e2, e3⟩
    · rw [show w'.cl = [] from e.cl] at m; cases m
    · by_cases hb : c ∈ cells w
      · refine .inl ?_
        obtain ⟨⟨c', v'⟩, m, rfl⟩ := List.mem_map.mp hb
        obtain ⟨_, _, _, o', x', f1, f2, f3⟩ := f.up I ev c' v' m
        obtain ⟨o2, y2, g1, g2⟩ := fz c' hb
        rw [f1] at g1; cases g1
        rw [g2] at e1; cases e1
        rw [f2] at e2; cases e2
        rw [relV_left e3 f3]
        exact m
      · exact .inr ⟨o, x, y, by rw [dn_out hb]; exact e1, e2, e3⟩
  refine ⟨⟨e.pre, e.av, rfl, fun a o ha hq n => ?_, fun a p q => ?_, fun a x q t => ?_, fun a o y q => ?_, fun a fv q => ?_, fun a ha np o q n => ?_⟩, s'.mv mv (fun a m => ?_) (F.Y.tabK H' _ (fun b p q => out b _ q (fun _ _ z => nomatch z)) (fun b p q => out b _ q (fun _ _ z => nomatch z)) s'.tab), mv⟩
  · obtain ⟨hn, q⟩ := u.some hq
    obtain ⟨h1, o', h2, h3⟩ := e.keep a o ha q n
    exact ⟨h1, o', by rw [dn_out hn]; exact h2, h3⟩
  · obtain ⟨hn, q⟩ := u.some q
    rw [dn_out hn]; exact e.ext a p q
  · obtain ⟨hn, q⟩ := u.some q
    rw [dn_out hn]; exact e.tup a x q t
  · obtain ⟨hn, q⟩ := u.some q
    rw [dn_out hn]; exact e.fzo a o y q
  · obtain ⟨hn, q⟩ := u.some q
    rw [dn_out hn]; exact e.xdk a fv q
  · obtain ⟨hn, q⟩ := u.some q
    rw [dn_out hn]; exact e.avk a ha np o q n
  · have m' : a ∈ w.av := by have z : w'.av = w.av := e.av; rw [← z]; exact m
    obtain ⟨o, q, _⟩ := (hs.av a m').2
    obtain ⟨hn, _⟩ := u.some q
    obtain ⟨o', q', nc⟩ := (s'.av a m).2
    exact ⟨o', by rw [dn_out hn]; exact q', nc⟩
theorem repX_mv {Y : At} {w w' : Wd} {H H' : Hp} (m : Mv w H w' H') {x : Ex} {cls : Value} {dd : Option Addr} (r : RepX Y w H x cls dd) : RepX Y w' H' x cls dd := by
  unfold RepX at r ⊢
  split
  · rename_i c e
    rw [e] at r
    obtain ⟨r1, r2⟩ := r
    refine ⟨r1, r2.imp id fun ⟨a, fv, r3, r4, r5⟩ => ⟨a, fv, r3, m.keep _ _ r4 (fun _ _ z => nomatch z), r5.mv m⟩⟩
  · rename_i n e
    rw [e] at r
    exact r
end
end Pv
end

section
set_option maxRecDepth 100000
set_option maxHeartbeats 4000000
namespace Pv
open PySem PySem.Spec PyProof.Rows L2
section
variable {Y : At} {w : Wd} {H : Hp} {h : Hm}
/-- a value by its content -/
def CRep (Y : At) (w : Wd) (H : Hp) (d : D) (v : V) : Prop := Rep Y w H d v ∨ ∃ a, v = .ref a ∧ (OSim Y w H a d ∨ ∃ l, d = .tup l ∧ ∃ vs, WrT Y.K a vs ∧ Reps Y w H l vs)
theorem rep_sqT {l : List D} {v : V} (r : Rep Y w H (.tup l) v) : ∃ a vs, v = .ref a ∧ SqT Y.K H a vs ∧ Reps Y w H l vs := by
  obtain ⟨a, vs, h1, h2, h3⟩ := r
  exact ⟨a, vs, h1, SqT.of h2, h3⟩
theorem WrT.sq {K : PySem.W.Frag} {a : Addr} {vs : List V} (h : WrT K a vs) : SqT K H a vs := .inr h
theorem cont_rep (s : HSim Y w H h) {d : D} {v : V} (r : Rep Y w H d v) : CRep Y w H (cont h d) v := by
  cases d with
  | ref n =>
    obtain ⟨a, e, rfl⟩ := r
    obtain ⟨c, ec, o⟩ := s.get' e
    have q : cont h (.ref n) = c := by
      show h.getD n .non = c
      rw [List.getD_eq_getElem?_getD, ec]; rfl
    rw [q]
    exact .inr ⟨a, rfl, .inl o⟩
  | wt l =>
    obtain ⟨a, vs, h1, h2, h3⟩ := r
    exact .inr ⟨a, h1, .inr ⟨l, rfl, vs, h2, h3⟩⟩
  | _ => exact .inl r
theorem CRep.tup {l : List D} {v : V} (c : CRep Y w H (.tup l) v) : ∃ a vs, v = .ref a ∧ SqT Y.K H a vs ∧ Reps Y w H l vs := by
  rcases c with r | ⟨a, e, o | ⟨l', el, vs, h1, h2⟩⟩
  · exact rep_sqT r
  · exact o.elim
  · cases el
    exact ⟨a, vs, e, h1.sq, h2⟩
theorem CRep.lst' {l : List D} {v : V} (c : CRep Y w H (.lst l) v) : ∃ a vs, v = .ref a ∧ H a = some (.lst vs) ∧ Reps Y w H l vs := by
  rcases c with ⟨a, vs, h1, _, h2, h3⟩ | ⟨a, e, ⟨vs, h1, h2⟩ | ⟨_, z, _⟩⟩
  · exact ⟨a, vs, h1, h2, h3⟩
  · exact ⟨a, vs, e, h1, h2⟩
  · cases z
theorem CRep.lst {l : List D} {v : V} (c : CRep Y w H (.lst l) v) : ∃ a vs, v = .ref a ∧ Rd H a (.lst vs) ∧ Reps Y w H l vs :=
  let ⟨a, vs, h1, h2, h3⟩ := c.lst'
  ⟨a, vs, h1, .inl h2, h3⟩
theorem CRep.dK {l : List (K × D)} {v : V} (c : CRep Y w H (.dK l) v) : ∃ a vs, v = .ref a ∧ Rd H a (.dK vs) ∧ RepK Y w H l vs := by
  rcases c with ⟨a, vs, h1, _, h2, h3⟩ | ⟨a, e, ⟨vs, h1, h2⟩ | ⟨_, z, _⟩⟩
  · exact ⟨a, vs, h1, h2, h3⟩
  · exact ⟨a, vs, e, .inl h1, h2⟩
  · cases z
theorem CRep.dT {l : List (List K × D)} {v : V} (c : CRep Y w H (.dT l) v) : ∃ a vs, v = .ref a ∧ Rd H a (.dT vs) ∧ RepT Y w H l vs := by
  rcases c with ⟨a, vs, h1, _, h2, h3⟩ | ⟨a, e, ⟨vs, h1, h2⟩ | ⟨_, z, _⟩⟩
  · exact ⟨a, vs, h1, h2, h3⟩
  · exact ⟨a, vs, e, .inl h1, h2⟩
  · cases z
theorem CRep.ins {c : Nat} {fs : List (Nat × D)} {v : V} (k : CRep Y w H (.ins c fs) v) : ∃ a dx fv, v = .ref a ∧ H a = some (.ins (Y.ca c) dx fv) ∧ RepF Y w H fs fv := by
  rcases k with ⟨a, dx, fv, h1, _, h2, h3⟩ | ⟨a, e, ⟨dx, fv, h1, h2⟩ | ⟨_, z, _⟩⟩
  · exact ⟨a, dx, fv, h1, h2, h3⟩
  · exact ⟨a, dx, fv, e, h1, h2⟩
  · cases z
theorem CRep.str {x : List Nat} {v : V} (k : CRep Y w H (.str x) v) : v = .str (sV x) := by
  rcases k with r | ⟨a, _, o | ⟨_, z, _⟩⟩
  · exact r
  · exact o.elim
  · cases z
theorem Reps.length : ∀ {l : List D} {vs : List V}, Reps Y w H l vs → l.length = vs.length
  | [], vs, h => by cases h; rfl
  | d :: l, vs, h => by
    obtain ⟨v, r, rfl, _, h3⟩ := h
    simp [Reps.length h3]
theorem Reps.append : ∀ {l m : List D} {vs us : List V}, Reps Y w H l vs → Reps Y w H m us → Reps Y w H (l ++ m) (vs ++ us)
  | [], m, vs, us, h, k => by cases h; exact k
  | d :: l, m, vs, us, h, k => by
    obtain ⟨v, r, rfl, h2, h3⟩ := h
    exact ⟨v, r ++ us, rfl, h2, Reps.append h3 k⟩
theorem Reps.get : ∀ {l : List D} {vs : List V} {n : Nat} {d : D}, Reps Y w H l vs → l[n]? = some d → ∃ v, vs[n]? = some v ∧ Rep Y w H d v
  | [], vs, n, d, h, e => by simp at e
  | x :: l, vs, 0, d, h, e => by
    obtain ⟨v, r, rfl, h2, h3⟩ := h
    simp at e; subst e
    exact ⟨v, rfl, h2⟩
  | x :: l, vs, n + 1, d, h, e => by
    obtain ⟨v, r, rfl, h2, h3⟩ := h
    simp at e
    obtain ⟨u, e1, r1⟩ := Reps.get h3 e
    exact ⟨u, by simpa using e1, r1⟩
theorem Reps.drop : ∀ {l : List D} {vs : List V} (n : Nat), Reps Y w H l vs → Reps Y w H (l.drop n) (vs.drop n)
  | l, vs, 0, h => by simpa using h
  | [], vs, n + 1, h => by cases h; simp [Reps]
  | d :: l, vs, n + 1, h => by
    obtain ⟨v, r, rfl, h2, h3⟩ := h
    simpa using Reps.drop n h3
theorem Reps.take : ∀ {l : List D} {vs : List V} (n : Nat), Reps Y w H l vs → Reps Y w H (l.take n) (vs.take n)
  | l, vs, 0, h => by simp [Reps]
  | [], vs, n + 1, h => by cases h; simp [Reps]
  | d :: l, vs, n + 1, h => by
    obtain ⟨v, r, rfl, h2, h3⟩ := h
    exact ⟨v, r.take n, by simp, h2, Reps.take n h3⟩
theorem Reps.reverse : ∀ {l : List D} {vs : List V}, Reps Y w H l vs → Reps Y w H l.reverse vs.reverse
  | [], vs, h => by cases h; exact rfl
  | d :: l, vs, h => by
    obtain ⟨v, r, rfl, h2, h3⟩ := h
    rw [List.reverse_cons, List.reverse_cons]
    exact Reps.append (Reps.reverse h3) ⟨v, [], rfl, h2, rfl⟩
theorem Reps.set : ∀ {l : List D} {vs : List V} {d : D} {v : V} (n : Nat), Reps Y w H l vs → Rep Y w H d v → Reps Y w H (l.set n d) (vs.set n v)
  | [], vs, d, v, n, h, k => by cases h; simp [Reps]
  | x :: l, vs, d, v, 0, h, k => by
    obtain ⟨u, r, rfl, h2, h3⟩ := h
    exact ⟨v, r, rfl, k, h3⟩
  | x :: l, vs, d, v, n + 1, h, k => by
    obtain ⟨u, r, rfl, h2, h3⟩ := h
    exact ⟨u, r.set n v, rfl, h2, Reps.set n h3 k⟩
/-! ### data -/
mutual
def toPy : D → PyData
  | .bl b => .bool b
  | .int i => .int i
  | .str x => .str (sV x)
  | .tup l => .tuple (toPys l)
  | .lst l => .list (toPys l)
  | _ => .none
def toPys : List D → List PyData
  | [] => []
  | a :: l => toPy a :: toPys l
end
mutual
theorem data_dp : ∀ {d : D} {v : V}, isData d = true → Rep Y w H d v → Dp Y.K H v (toPy d)
  | .non, v, _, r => by rw [show v = .non from r]; exact .non
  | .bl b, v, _, r => by rw [show v = .bl b from r]; exact .bl b
  | .int b, v, _, r => by rw [show v = .int b from r]; exact .int b
  | .str b, v, _, r => by rw [show v = .str (sV b) from r]; exact .str _
  | .tup l, v, f, r => by
    obtain ⟨a, vs, rfl, h2, h3⟩ := r
    exact .tup (SqT.of h2) (data_dps f h3)
  | .lst l, v, f, r => by
    obtain ⟨a, vs, rfl, _, h2, h3⟩ := r
    exact .lst (.inl (.inl h2)) (data_dps f h3)
  | .dK _, _, f, _ => by cases f
  | .dT _, _, f, _ => by cases f
  | .rng _ _, _, f, _ => by cases f
  | .ins _ _, _, f, _ => by cases f
  | .ref _, _, f, _ => by cases f
  | .wt _, _, f, _ => by cases f
  | .fn _, _, f, _ => by cases f
  | .cls _, _, f, _ => by cases f
  | .clo _ _, _, f, _ => by cases f
  | .exc _ _, _, f, _ => by cases f
  | .scr _, _, f, _ => by cases f
theorem data_dps : ∀ {l : List D} {vs : List V}, areData l = true → Reps Y w H l vs → DpAll Y.K H vs (toPys l)
  | [], vs, _, h => by cases h; exact .nil
  | d :: l, vs, f, h => by
    obtain ⟨v, r, rfl, h2, h3⟩ := h
    obtain ⟨f1, f2⟩ := Bool.and_eq_true_iff.mp f
    exact .cons (data_dp f1 h2) (data_dps f2 h3)
end
theorem cdata_dp {d : D} {v : V} (f : isData d = true) (r : CRep Y w H d v) : Dp Y.K H v (toPy d) := by
  rcases r with r | ⟨a, rfl, o | ⟨l, el, vs, h1, h2⟩⟩
  · exact data_dp f r
  rotate_left
  · subst el
    exact .tup h1.sq (data_dps f h2)
  · cases d with
    | lst l =>
      obtain ⟨vs, e, r⟩ := o
      exact .lst (.inl (.inl e)) (data_dps f r)
    | dK l => cases f
    | dT l => cases f
    | ins c fs => cases f
    | _ => exact o.elim
mutual
theorem py_can : ∀ {d : D}, isData d = true → (toPy d).canLay0 = true
  | .non, _ => rfl
  | .bl _, _ => rfl
  | .int _, _ => rfl
  | .str x, f => by
    have f : (x.all fun c => decide (c < 1114112)) = true := f
    show PyData.strOk (sV x) = true
    unfold PyData.strOk sV
    rw [← Array.all_toList]
    exact f
  | .tup l, f => py_cans f
  | .lst l, f => py_cans f
  | .dK _, f => by cases f
  | .dT _, f => by cases f
  | .rng _ _, f => by cases f
  | .ins _ _, f => by cases f
  | .ref _, f => by cases f
  | .wt _, f => by cases f
  | .fn _, f => by cases f
  | .cls _, f => by cases f
  | .clo _ _, f => by cases f
  | .exc _ _, f => by cases f
  | .scr _, f => by cases f
theorem py_cans : ∀ {l : List D}, areData l = true → PyData.canLayAll0 (toPys l) = true
  | [], _ => rfl
  | d :: l, f => by
    obtain ⟨f1, f2⟩ := Bool.and_eq_true_iff.mp f
    show ((toPy d).canLay0 && PyData.canLayAll0 (toPys l)) = true
    rw [py_can f1, py_cans f2]; rfl
end
mutual
theorem py_depth : ∀ d : D, isData d = true → (toPy d).depth = depth d
  | .non, _ => rfl
  | .bl _, _ => rfl
  | .int _, _ => rfl
  | .str _, _ => rfl
  | .tup l, f => by show PyData.depthAll (toPys l) + 1 = depths l + 1; rw [py_depths l f]
  | .lst l, f => by show PyData.depthAll (toPys l) + 1 = depths l + 1; rw [py_depths l f]
  | .dK _, f => by cases f
  | .dT _, f => by cases f
  | .rng _ _, f => by cases f
  | .ins _ _, f => by cases f
  | .ref _, f => by cases f
  | .wt _, f => by cases f
  | .fn _, f => by cases f
  | .cls _, f => by cases f
  | .clo _ _, f => by cases f
  | .exc _ _, f => by cases f
  | .scr _, f => by cases f
theorem py_depths : ∀ l : List D, areData l = true → PyData.depthAll (toPys l) = depths l
  | [], _ => rfl
  | d :: l, f => by
    obtain ⟨f1, f2⟩ := Bool.and_eq_true_iff.mp f
    show max (toPy d).depth (PyData.depthAll (toPys l)) = max (depth d) (depths l)
    rw [py_depth d f1, py_depths l f2]
end
theorem py_shaped {d : D} (f : isData d = true) (hd : depth d ≤ 64) : SeqAt.shaped (toPy d) = true := by
  unfold SeqAt.shaped
  rw [py_can f, py_depth d f, decide_eq_true hd]; rfl
theorem sV_beq (x y : List Nat) : (sV x == sV y) = (x == y) := by
  rw [Bool.eq_iff_iff]
  simp only [beq_iff_eq]
  exact ⟨sV_inj, fun e => by rw [e]⟩
mutual
theorem py_eqv : ∀ (a b : D), isData a = true → isData b = true → PyData.eqv (toPy a) (toPy b) = deq a b
  | .non, b, _, g => by cases b <;> first | rfl | cases g
  | .bl _, b, _, g => by cases b <;> first | rfl | cases g
  | .int _, b, _, g => by cases b <;> first | rfl | cases g
  | .str x, b, _, g => by
    cases b with
    | str y => exact sV_beq x y
    | _ => first | rfl | cases g
  | .tup l, b, f, g => by
    cases b with
    | tup m => exact py_eqvs l m f g
    | _ => first | rfl | cases g
  | .lst l, b, f, g => by
    cases b with
    | lst m => exact py_eqvs l m f g
    | _ => first | rfl | cases g
  | .dK _, _, f, _ => by cases f
  | .dT _, _, f, _ => by cases f
  | .rng _ _, _, f, _ => by cases f
  | .ins _ _, _, f, _ => by cases f
  | .ref _, _, f, _ => by cases f
  | .wt _, _, f, _ => by cases f
  | .fn _, _, f, _ => by cases f
  | .cls _, _, f, _ => by cases f
  | .clo _ _, _, f, _ => by cases f
  | .exc _ _, _, f, _ => by cases f
  | .scr _, _, f, _ => by cases f
theorem py_eqvs : ∀ (l m : List D), areData l = true → areData m = true → PyData.eqvAll (toPys l) (toPys m) = deqs l m
  | [], [], _, _ => rfl
  | [], _ :: _, _, _ => rfl
  | _ :: _, [], _, _ => rfl
  | a :: l, b :: m, f, g => by
    obtain ⟨f1, f2⟩ := Bool.and_eq_true_iff.mp f
    obtain ⟨g1, g2⟩ := Bool.and_eq_true_iff.mp g
    show (PyData.eqv (toPy a) (toPy b) && PyData.eqvAll (toPys l) (toPys m)) = (deq a b && deqs l m)
    rw [py_eqv a b f1 g1, py_eqvs l m f2 g2]
end
theorem toPys_map : ∀ l : List D, toPys l = l.map toPy
  | [] => rfl
  | a :: l => by show toPy a :: toPys l = _; rw [toPys_map l]; rfl
end
end Pv
end

section
set_option maxRecDepth 100000
set_option maxHeartbeats 4000000
namespace Pv
open PySem PySem.Spec PyProof.Rows L2
theorem lineEq : LINE = sizeLine := by rw [sizeLine_eq]
theorem sV_len (x : List Nat) : (sV x).length = x.length := by simp [sV, Str.length]
theorem sV_cps (x : List Nat) : (sV x).cps.toList = x := by simp [sV]
theorem sV_app (x y : List Nat) : sV x ++ sV y = sV (x ++ y) := by
  show Str.append _ _ = _
  simp [Str.append, sV]
theorem ltNats_eq : ∀ x y : List Nat, ltNats x y = decide (x < y)
  | [], [] => by simp [ltNats]
  | [], b :: m => by simp [ltNats]
  | a :: l, [] => by simp [ltNats]
  | a :: l, b :: m => by
    rw [ltNats, ltNats_eq l m]
    by_cases e : a = b
    · subst e
      rw [if_pos rfl]
      rw [Bool.eq_iff_iff]
      simp [List.cons_lt_cons_iff]
    · rw [if_neg e, Bool.eq_iff_iff]
      simp [List.cons_lt_cons_iff, e]
theorem ltInts_lex : ∀ a b : List Int, HT.lexLt a b = ltInts a b
  | [], [] => rfl
  | [], _ :: _ => rfl
  | _ :: _, [] => rfl
  | a :: l, b :: m => by
    rw [HT.lexLt_cons, ltInts, ltInts_lex l m]
theorem lexAt_shift (e r : Nat → Bool) (z : Bool) : ∀ (k i : Nat), Ob.lexAt e r z (i + 1) k = Ob.lexAt (fun j => e (j + 1)) (fun j => r (j + 1)) z i k
  | 0, _ => rfl
  | k + 1, i => by
    rw [Ob.lexAt_succ, Ob.lexAt_succ, lexAt_shift e r z k (i + 1)]
theorem leInts_lex : ∀ a b : List Int, Ob.lexAt (fun j => decide (a.getD j 0 = b.getD j 0)) (fun j => decide (a.getD j 0 ≤ b.getD j 0)) (decide (a.length ≤ b.length)) 0 (min a.length b.length) = !ltInts b a
  | [], [] => rfl
  | [], _ :: _ => by simp [Ob.lexAt, ltInts]
  | _ :: _, [] => by simp [Ob.lexAt, ltInts]
  | a :: l, b :: m => by
    have e : min (a :: l).length (b :: m).length = min l.length m.length + 1 := by simp only [List.length_cons]; omega
    rw [e, Ob.lexAt_succ, lexAt_shift]
    have ih := leInts_lex l m
    have e2 : decide ((a :: l).length ≤ (b :: m).length) = decide (l.length ≤ m.length) := by simp
    rw [e2]
    have e3 : (fun j => decide ((a :: l).getD (j + 1) 0 = (b :: m).getD (j + 1) 0)) = fun j => decide (l.getD j 0 = m.getD j 0) := by funext j; simp
    have e4 : (fun j => decide ((a :: l).getD (j + 1) 0 ≤ (b :: m).getD (j + 1) 0)) = fun j => decide (l.getD j 0 ≤ m.getD j 0) := by funext j; simp
    rw [e3, e4, ih]
    simp only [List.getD_cons_zero, ltInts, decide_eq_true_eq]
    by_cases h : a = b
    · subst h; simp
    · rw [if_neg h, if_neg (fun z => h z.symm)]
      by_cases h2 : a ≤ b
      · rw [decide_eq_true h2, decide_eq_false (by omega)]; rfl
      · rw [decide_eq_false h2, decide_eq_true (by omega)]; rfl
theorem isPre_iff : ∀ (x z : List Nat), isPre x z = (z.take x.length == x)
  | [], z => by simp [isPre]
  | a :: x, [] => by simp [isPre]
  | a :: x, b :: z => by
    rw [isPre, isPre_iff x z, Bool.eq_iff_iff]
    simp only [Bool.and_eq_true, beq_iff_eq, List.length_cons, List.take_succ_cons, List.cons.injEq]
    exact ⟨fun ⟨h, k⟩ => ⟨h.symm, k⟩, fun ⟨h, k⟩ => ⟨h.symm, k⟩⟩
theorem isSub_occ (x z : List Nat) : (!(Builtin.Str.occurrences (sV z) (sV x) 0 (sV z).length 1).isEmpty) = isSub x z := by
  rw [Bool.eq_iff_iff, StrLaws.found_iff]
  unfold isSub
  rw [List.any_eq_true]
  constructor
  · rintro ⟨i, h1, h2⟩
    rw [sV_len, sV_len] at h1
    rw [StrLaws.subAt_eq, sV_cps, sV_cps, sV_len] at h2
    exact ⟨i, List.mem_range.mpr (by omega), by rw [isPre_iff]; exact h2⟩
  · rintro ⟨i, h1, h2⟩
    have h1 := List.mem_range.mp h1
    rw [isPre_iff] at h2
    refine ⟨i, ?_, by rw [StrLaws.subAt_eq, sV_cps, sV_cps, sV_len]; exact h2⟩
    rw [sV_len, sV_len]
    have := congrArg List.length (eq_of_beq h2)
    rw [List.length_take, List.length_drop] at this
    omega
section
variable {X : Cx} {Y : At} (hK : X.K = Y.K) (hu : X.A.units + 65 < cLine)
theorem ints_rep {w : Wd} {H : Hp} : ∀ {l : List D} {vs : List V} {ns : List Int}, Reps Y w H l vs → intsOf l = some ns → vs = ns.map V.int
  | [], vs, ns, h, e => by cases e; exact h
  | .int i :: l, vs, ns, h, e => by
    obtain ⟨v, r, rfl, h2, h3⟩ := h
    obtain ⟨m, e1, rfl⟩ := Option.map_eq_some_iff.mp e
    rw [show v = .int i from h2, ints_rep h3 e1]
    rfl
  | .non :: _, _, _, _, e => by cases e
  | .bl _ :: _, _, _, _, e => by cases e
  | .str _ :: _, _, _, _, e => by cases e
  | .tup _ :: _, _, _, _, e => by cases e
  | .lst _ :: _, _, _, _, e => by cases e
  | .dK _ :: _, _, _, _, e => by cases e
  | .dT _ :: _, _, _, _, e => by cases e
  | .rng _ _ :: _, _, _, _, e => by cases e
  | .ins _ _ :: _, _, _, _, e => by cases e
  | .ref _ :: _, _, _, _, e => by cases e
  | .wt _ :: _, _, _, _, e => by cases e
  | .fn _ :: _, _, _, _, e => by cases e
  | .cls _ :: _, _, _, _, e => by cases e
  | .clo _ _ :: _, _, _, _, e => by cases e
  | .exc _ _ :: _, _, _, _, e => by cases e
  | .scr _ :: _, _, _, _, e => by cases e
/-- a new tuple -/
theorem new_tup {w : Wd} {H : Hp} {h : Hm} {l : List D} {vs : List V} {Qv : VK} (s : HSim Y w H h) (r : Reps Y w H l vs) (out : ∀ w' H' v, Evo w H w' H' → HSim Y w' H' h → Rep Y w' H' (.tup l) v → Qv v H') : ∀ p, H p = none → Qv (.ref p) (upd H p (.tup vs)) := fun p hp =>
  out w _ _ (Evo.new hp) (s.new hp) ⟨p, vs, rfl, upd_same, r.mono (Evo.new hp)⟩
theorem new_lst {w : Wd} {H : Hp} {h : Hm} {l : List D} {vs : List V} {Qv : VK} (s : HSim Y w H h) (r : Reps Y w H l vs) (out : ∀ w' H' v, Evo w H w' H' → HSim Y w' H' h → Rep Y w' H' (.lst l) v → Qv v H') : ∀ p, H p = none → Qv (.ref p) (upd H p (.lst vs)) := fun p hp =>
  out w _ _ (Evo.new hp) (s.new hp) ⟨p, vs, rfl, s.off hp, upd_same, r.mono (Evo.new hp)⟩
def rAddAll (K : PySem.W.Frag) : R2 := fun x y H Q => (rI0 fun i j => .int (i + j)) x y H Q ∨ (∃ i j, x = .str i ∧ y = .str j ∧ i.length + j.length ≤ sizeLine ∧ Q (.str (i ++ j)) H) ∨ rCatA K x y H Q
def ops_add : OpS X Y (binaryOp .Add) .add where
  r := rAddAll X.K
  op := OpR.or op_add (OpR.or op_add_str op_catA)
  sound := fun {w H h x y vx vy z Qv} s rx ry e out => by
    unfold dOp at e
    split at e
    any_goals contradiction
    · cases e
      exact .inl ⟨_, _, rx, ry, out w H _ (Evo.refl _ _) s rfl⟩
    · split at e
      · cases e
        rename_i hl
        exact .inr (.inl ⟨_, _, rx, ry, by rw [sV_len, sV_len, ← lineEq]; exact hl, out w H _ (Evo.refl _ _) s (by rw [sV_app]; rfl)⟩)
      · cases e
    · split at e
      · cases e
        rename_i l m _ hl
        obtain ⟨a, xs, rfl, h2, h3⟩ := rx
        obtain ⟨b, ys, rfl, k2, k3⟩ := ry
        rw [h3.length, k3.length, lineEq] at hl
        refine .inr (.inr ⟨a, b, xs, ys, rfl, rfl, SqT.of h2, SqT.of k2, hl, fun ex => ?_, fun _ ey => ?_, fun _ _ => new_tup s (h3.append k3) out⟩)
        · subst ex
          have : l = [] := List.eq_nil_of_length_eq_zero h3.length
          subst this
          exact out w H _ (Evo.refl _ _) s ⟨b, ys, rfl, k2, k3⟩
        · subst ey
          have : m = [] := List.eq_nil_of_length_eq_zero k3.length
          subst this
          rw [List.append_nil] at out
          exact out w H _ (Evo.refl _ _) s ⟨a, xs, rfl, h2, h3⟩
      · cases e
def ops_sub : OpS X Y (binaryOp .Sub) .sub where
  r := _
  op := op_sub
  sound := fun {w H h x y vx vy z Qv} s rx ry e out => by
    unfold dOp at e
    split at e
    any_goals contradiction
    cases e
    exact ⟨_, _, rx, ry, out w H _ (Evo.refl _ _) s rfl⟩
def ops_fdiv : OpS X Y (binaryOp .FloorDiv) .fdiv where
  r := _
  op := op_fdiv
  sound := fun {w H h x y vx vy z Qv} s rx ry e out => by
    unfold dOp at e
    split at e
    any_goals contradiction
    split at e
    · cases e
      rename_i hl
      exact ⟨_, _, rx, ry, hl, out w H _ (Evo.refl _ _) s rfl⟩
    · cases e
def ops_mod : OpS X Y (binaryOp .Mod) .mod where
  r := _
  op := op_mod
  sound := fun {w H h x y vx vy z Qv} s rx ry e out => by
    unfold dOp at e
    split at e
    any_goals contradiction
    split at e
    · cases e
      rename_i hl
      exact ⟨_, _, rx, ry, hl, out w H _ (Evo.refl _ _) s rfl⟩
    · cases e
def ops_pow : OpS X Y (binaryOp .Pow) .pow where
  r := _
  op := op_pow
  sound := fun {w H h x y vx vy z Qv} s rx ry e out => by
    unfold dOp at e
    split at e
    any_goals contradiction
    split at e
    · cases e
      rename_i hl
      exact ⟨_, _, rx, ry, hl, out w H _ (Evo.refl _ _) s rfl⟩
    · cases e
def rLtAll (K : PySem.W.Frag) : R2 := fun x y H Q => (rI0 fun i j => .bl (decide (i < j))) x y H Q ∨ (∃ i j, x = .str i ∧ y = .str j ∧ Q (.bl (decide (i.cps.toList < j.cps.toList))) H) ∨ rLtT K x y H Q
def rLeAll (K : PySem.W.Frag) : R2 := fun x y H Q => (rI0 fun i j => .bl (decide (i ≤ j))) x y H Q ∨ (∃ i j, x = .str i ∧ y = .str j ∧ Q (.bl (!decide (j.cps.toList < i.cps.toList))) H) ∨ rLeT K x y H Q
def ops_lt : OpS X Y (compareOp .Lt) .lt where
  r := rLtAll X.K
  op := OpR.or op_lt (OpR.or op_lt_str (op_ltT (by omega)))
  sound := fun {w H h x y vx vy z Qv} s rx ry e out => by
    replace e : (dlt x y).map .bl = some z := e
    obtain ⟨k, e0, ez⟩ := Option.map_eq_some_iff.mp e
    clear e
    have e := e0
    clear e0
    subst ez
    unfold dlt at e
    split at e
    · cases e
      exact .inl ⟨_, _, rx, ry, out w H _ (Evo.refl _ _) s rfl⟩
    · cases e
      refine .inr (.inl ⟨_, _, rx, ry, out w H _ (Evo.refl _ _) s ?_⟩)
      rw [sV_cps, sV_cps, ltNats_eq]; rfl
    · obtain ⟨a, xs, rfl, h2, h3⟩ := rx
      obtain ⟨b, ys, rfl, k2, k3⟩ := ry
      obtain ⟨ns, e1, e⟩ := Option.bind_eq_some_iff.mp e
      obtain ⟨ms, e2, rfl⟩ := Option.map_eq_some_iff.mp e
      rw [ints_rep h3 e1] at h2
      rw [ints_rep k3 e2] at k2
      refine .inr (.inr ⟨a, b, ns, ms, rfl, rfl, SqT.of h2, SqT.of k2, out w H _ (Evo.refl _ _) s ?_⟩)
      rw [ltInts_lex]; rfl
    · cases e
def ops_le : OpS X Y (compareOp .LtE) .le where
  r := rLeAll X.K
  op := OpR.or op_le (OpR.or op_le_str (op_leT (by omega)))
  sound := fun {w H h x y vx vy z Qv} s rx ry e out => by
    replace e : (dlt y x).map (fun c => D.bl (!c)) = some z := e
    obtain ⟨k, e0, ez⟩ := Option.map_eq_some_iff.mp e
    clear e
    have e := e0
    clear e0
    subst ez
    unfold dlt at e
    split at e
    · cases e
      refine .inl ⟨_, _, rx, ry, out w H _ (Evo.refl _ _) s ?_⟩
      show V.bl _ = V.bl _
      congr 1
      rw [Bool.eq_iff_iff]
      simp only [decide_eq_true_eq, Bool.not_eq_true', decide_eq_false_iff_not]
      omega
    · cases e
      refine .inr (.inl ⟨_, _, rx, ry, out w H _ (Evo.refl _ _) s ?_⟩)
      rw [sV_cps, sV_cps, ltNats_eq]; rfl
    · obtain ⟨a, xs, rfl, h2, h3⟩ := rx
      obtain ⟨b, ys, rfl, k2, k3⟩ := ry
      obtain ⟨ms, e1, e⟩ := Option.bind_eq_some_iff.mp e
      obtain ⟨ns, e2, rfl⟩ := Option.map_eq_some_iff.mp e
      rw [ints_rep h3 e2] at h2
      rw [ints_rep k3 e1] at k2
      refine .inr (.inr ⟨a, b, ns, ms, rfl, rfl, SqT.of h2, SqT.of k2, out w H _ (Evo.refl _ _) s ?_⟩)
      rw [leInts_lex]; rfl
    · cases e
def rGtAll : R2 := fun x y H Q => (rI0 fun i j => .bl (decide (j < i))) x y H Q ∨ (∃ i j, x = .str i ∧ y = .str j ∧ Q (.bl (decide (j.cps.toList < i.cps.toList))) H)
def rGeAll : R2 := fun x y H Q => (rI0 fun i j => .bl (decide (j ≤ i))) x y H Q ∨ (∃ i j, x = .str i ∧ y = .str j ∧ Q (.bl (!decide (i.cps.toList < j.cps.toList))) H)
def ops_gt : OpS X Y (compareOp .Gt) .gt where
  r := rGtAll
  op := OpR.or op_gt op_gt_str
  sound := fun {w H h x y vx vy z Qv} s rx ry e out => by
    replace e : (dltS y x).map .bl = some z := e
    obtain ⟨k, e0, ez⟩ := Option.map_eq_some_iff.mp e
    clear e
    have e := e0
    clear e0
    subst ez
    unfold dltS at e
    split at e
    · cases e
      exact .inl ⟨_, _, rx, ry, out w H _ (Evo.refl _ _) s rfl⟩
    · cases e
      refine .inr ⟨_, _, rx, ry, out w H _ (Evo.refl _ _) s ?_⟩
      rw [sV_cps, sV_cps, ltNats_eq]; rfl
    · cases e
def ops_ge : OpS X Y (compareOp .GtE) .ge where
  r := rGeAll
  op := OpR.or op_ge op_ge_str
  sound := fun {w H h x y vx vy z Qv} s rx ry e out => by
    replace e : (dltS x y).map (fun c => D.bl (!c)) = some z := e
    obtain ⟨k, e0, ez⟩ := Option.map_eq_some_iff.mp e
    clear e
    have e := e0
    clear e0
    subst ez
    unfold dltS at e
    split at e
    · cases e
      refine .inl ⟨_, _, rx, ry, out w H _ (Evo.refl _ _) s ?_⟩
      show V.bl _ = V.bl _
      congr 1
      rw [Bool.eq_iff_iff]
      simp only [decide_eq_true_eq, Bool.not_eq_true', decide_eq_false_iff_not]
      omega
    · cases e
      refine .inr ⟨_, _, rx, ry, out w H _ (Evo.refl _ _) s ?_⟩
      rw [sV_cps, sV_cps, ltNats_eq]; rfl
    · cases e
def rEqAll (K : PySem.W.Frag) : R2 := fun x y H Q => rEq x y H Q ∨ rEqD K x y H Q
def rNeAll (K : PySem.W.Frag) : R2 := fun x y H Q => rNe x y H Q ∨ rNeD K x y H Q
theorem eq_cases {w : Wd} {H : Hp} {h : Hm} {x y : D} {vx vy : V} {c : Bool} (s : HSim Y w H h) (rx : Rep Y w H x vx) (ry : Rep Y w H y vy) (e : dEq h x y = some c) :
    (scal vx vy = true ∧ decide (vx = vy) = c) ∨ ∃ d e, Dp Y.K H vx d ∧ Dp Y.K H vy e ∧ SeqAt.shaped d = true ∧ SeqAt.shaped e = true ∧ PyData.eqv d e = c := by
  have cx := cont_rep s rx
  have cy := cont_rep s ry
  unfold dEq at e
  split at e
  · rename_i x' y' ex ey
    rw [ex] at cx
    rw [ey] at cy
    obtain rfl := cx.str
    obtain rfl := cy.str
    cases e
    refine .inl ⟨rfl, ?_⟩
    rw [dec_str]; exact sV_beq x' y'
  · split at e
    · rename_i hc
      simp only [Bool.and_eq_true, decide_eq_true_eq] at hc
      obtain ⟨⟨⟨h1, h2⟩, h3⟩, h4⟩ := hc
      cases e
      exact .inr ⟨_, _, cdata_dp h1 cx, cdata_dp h2 cy, py_shaped h1 h3, py_shaped h2 h4, py_eqv _ _ h1 h2⟩
    · cases e
def ops_eq : OpS X Y (compareOp .Eq) .eq where
  r := rEqAll X.K
  op := OpR.or op_eq (op_eqD (by omega))
  sound := fun {w H h x y vx vy z Qv} s rx ry e out => by
    replace e : (dEq h x y).map .bl = some z := e
    obtain ⟨k, e0, ez⟩ := Option.map_eq_some_iff.mp e
    clear e
    have e := e0
    clear e0
    subst ez
    rcases eq_cases s rx ry e with ⟨h1, h2⟩ | ⟨d, e, h1, h2, h3, h4, h5⟩
    · exact .inl ⟨h1, by rw [h2]; exact out w H _ (Evo.refl _ _) s rfl⟩
    · exact .inr ⟨d, e, by rw [hK]; exact h1, by rw [hK]; exact h2, h3, h4, by rw [h5]; exact out w H _ (Evo.refl _ _) s rfl⟩
def ops_ne : OpS X Y (compareOp .NotEq) .ne where
  r := rNeAll X.K
  op := OpR.or op_ne (op_neD (by omega))
  sound := fun {w H h x y vx vy z Qv} s rx ry e out => by
    replace e : (dEq h x y).map (fun c => D.bl (!c)) = some z := e
    obtain ⟨k, e0, ez⟩ := Option.map_eq_some_iff.mp e
    clear e
    have e := e0
    clear e0
    subst ez
    rcases eq_cases s rx ry e with ⟨h1, h2⟩ | ⟨d, e, h1, h2, h3, h4, h5⟩
    · exact .inl ⟨h1, by rw [h2]; exact out w H _ (Evo.refl _ _) s rfl⟩
    · exact .inr ⟨d, e, by rw [hK]; exact h1, by rw [hK]; exact h2, h3, h4, by rw [h5]; exact out w H _ (Evo.refl _ _) s rfl⟩
end
end Pv
end

section
set_option maxRecDepth 100000
set_option maxHeartbeats 4000000
namespace Pv
open PySem PySem.Spec PyProof.Rows L2
section
variable {Y : At} {w : Wd} {H : Hp} {h : Hm}
theorem keyV_ok {k : D} {y : V} {q : K} (r : Rep Y w H k y) (e : keyOf k = some q) : y = kV (keyV q) := by
  cases k <;> cases e <;> exact r
theorem keysV_ok : ∀ {l : List D} {vs : List V} {q : List K}, Reps Y w H l vs → keysOf l = some q → vs = (q.map keyV).map kV
  | [], vs, q, h, e => by cases e; exact h
  | d :: l, vs, q, h, e => by
    obtain ⟨v, r, rfl, h2, h3⟩ := h
    unfold keysOf at e
    split at e
    · rename_i k m e1 e2
      cases e
      rw [keyV_ok h2 e1, keysV_ok h3 e2]
      rfl
    · cases e
theorem valV_look : ∀ {l : List (K × D)} {vs : List (Key × V)} (k : K), RepK Y w H l vs → (look l k = none ∧ valV vs (keyV k) = none) ∨ ∃ d v, look l k = some d ∧ valV vs (keyV k) = some v ∧ Rep Y w H d v
  | [], vs, k, h => by cases h; exact .inl ⟨rfl, rfl⟩
  | (j, d) :: l, vs, k, h => by
    obtain ⟨v, r, rfl, h2, h3⟩ := h
    by_cases e : j = k
    · refine .inr ⟨d, v, by rw [look, if_pos e], ?_, h2⟩
      exact valV_pos (by show keyV j = keyV k; rw [e])
    · have q : ¬ keyV j = keyV k := fun z => e (keyV_inj z)
      rw [look, if_neg e, valV_neg (by exact q)]
      exact valV_look k h3
theorem mapKeyV_inj {a b : List K} (e : a.map keyV = b.map keyV) : a = b := by
  induction a generalizing b with
  | nil => cases b with
    | nil => rfl
    | cons y b => simp at e
  | cons x a ih => cases b with
    | nil => simp at e
    | cons y b =>
      simp only [List.map_cons, List.cons.injEq] at e
      rw [keyV_inj e.1, ih e.2]
theorem valV_lookT : ∀ {l : List (List K × D)} {vs : List (List Key × V)} (k : List K), RepT Y w H l vs → (look l k = none ∧ valV vs (k.map keyV) = none) ∨ ∃ d v, look l k = some d ∧ valV vs (k.map keyV) = some v ∧ Rep Y w H d v
  | [], vs, k, h => by cases h; exact .inl ⟨rfl, rfl⟩
  | (j, d) :: l, vs, k, h => by
    obtain ⟨v, r, rfl, h2, h3⟩ := h
    by_cases e : j = k
    · refine .inr ⟨d, v, by rw [look, if_pos e], ?_, h2⟩
      exact valV_pos (by show j.map keyV = k.map keyV; rw [e])
    · have q : ¬ j.map keyV = k.map keyV := fun z => e (mapKeyV_inj z)
      rw [look, if_neg e, valV_neg (by exact q)]
      exact valV_lookT k h3
theorem tkey_ok {k : D} {y : V} {q : List K} (r : Rep Y w H k y) (e : tkeyOf k = some q) : ∃ b, y = .ref b ∧ H b = some (.tup ((q.map keyV).map kV)) := by
  cases k with
  | tup l =>
    obtain ⟨a, vs, rfl, h2, h3⟩ := r
    exact ⟨a, rfl, by rw [h2, keysV_ok h3 e]⟩
  | _ => cases e
/-- what a dict says of a key -/
theorem dget_ok {d k : D} {x y : V} (s : HSim Y w H h) (rx : Rep Y w H d x) (ry : Rep Y w H k y) :
    (∀ kvs q, cont h d = .dK kvs → keyOf k = some q → ∃ a o, x = .ref a ∧ DGet H a y o ∧ ((look kvs q = none ∧ o = none) ∨ ∃ e v, look kvs q = some e ∧ o = some v ∧ Rep Y w H e v)) ∧
    (∀ kvs q, cont h d = .dT kvs → tkeyOf k = some q → ∃ a o, x = .ref a ∧ DGet H a y o ∧ ((look kvs q = none ∧ o = none) ∨ ∃ e v, look kvs q = some e ∧ o = some v ∧ Rep Y w H e v)) := by
  have c := cont_rep s rx
  refine ⟨fun kvs q e1 e2 => ?_, fun kvs q e1 e2 => ?_⟩
  · rw [e1] at c
    obtain ⟨a, vs, rfl, h2, h3⟩ := c.dK
    exact ⟨a, _, rfl, .inl ⟨vs, keyV q, h2, keyV_ok ry e2, rfl⟩, valV_look q h3⟩
  · rw [e1] at c
    obtain ⟨a, vs, rfl, h2, h3⟩ := c.dT
    obtain ⟨b, rfl, hb⟩ := tkey_ok ry e2
    exact ⟨a, _, rfl, .inr ⟨vs, q.map keyV, b, h2, rfl, hb, rfl⟩, valV_lookT q h3⟩
end
section
variable {X : Cx} {Y : At} (hK : X.K = Y.K) (hu : X.A.units + 65 < cLine)
/-! ### in -/
theorem flatV_ok {w : Wd} {H : Hp} {d : D} {v : V} (f : isFlat d = true) (r : Rep Y w H d v) : flatV v = true := by
  cases d <;> first | (cases (show v = _ from r); rfl) | cases f
theorem flats_ok {w : Wd} {H : Hp} : ∀ {l : List D} {vs : List V}, l.all isFlat = true → Reps Y w H l vs → vs.all flatV = true
  | [], vs, _, h => by cases h; rfl
  | d :: l, vs, f, h => by
    obtain ⟨v, r, rfl, h2, h3⟩ := h
    simp only [List.all_cons, Bool.and_eq_true] at f ⊢
    exact ⟨flatV_ok f.1 h2, flats_ok f.2 h3⟩
theorem eqV_ok {w : Wd} {H : Hp} {d e : D} {v u : V} (f : isFlat d = true) (g : isFlat e = true) (r : Rep Y w H d v) (q : Rep Y w H e u) : eqV v u = deq d e := by
  cases d with
  | non => cases e <;> first | (cases (show v = _ from r); cases (show u = _ from q); rfl) | cases g
  | bl b => cases e <;> first | (cases (show v = _ from r); cases (show u = _ from q); rfl) | cases g
  | int b => cases e <;> first | (cases (show v = _ from r); cases (show u = _ from q); rfl) | cases g
  | str b =>
    cases e with
    | str c => rw [show v = _ from r, show u = _ from q]; exact sV_beq b c
    | _ => first | (cases (show v = _ from r); cases (show u = _ from q); rfl) | cases g
  | _ => cases f
theorem inV_ok {w : Wd} {H : Hp} {x : D} {vx : V} (f : isFlat x = true) (r : Rep Y w H x vx) : ∀ {l : List D} {vs : List V}, l.all isFlat = true → Reps Y w H l vs → inV vx vs = l.any fun y => deq y x
  | [], vs, _, h => by cases h; rfl
  | d :: l, vs, g, h => by
    obtain ⟨v, t, rfl, h2, h3⟩ := h
    simp only [List.all_cons, Bool.and_eq_true] at g
    show (eqV v vx || inV vx t) = (deq d x || l.any fun y => deq y x)
    rw [eqV_ok g.1 f h2 r, inV_ok f r g.2 h3]
def rInAll (K : PySem.W.Frag) : R2 := fun x y H Q => (∃ i j, x = .str i ∧ y = .str j ∧ Q (.bl (!(Builtin.Str.occurrences j i 0 j.length 1).isEmpty)) H) ∨ rIn K false x y H Q ∨ rInD K x y H Q ∨ (∃ a o, y = .ref a ∧ DGet H a x o ∧ Q (.bl o.isSome) H)
def rNotInAll (K : PySem.W.Frag) : R2 := fun x y H Q => (∃ i j, x = .str i ∧ y = .str j ∧ Q (.bl (!(!(Builtin.Str.occurrences j i 0 j.length 1).isEmpty))) H) ∨ rIn K true x y H Q ∨ rNotInD K x y H Q ∨ (∃ a o, y = .ref a ∧ DGet H a x o ∧ Q (.bl (!o.isSome)) H)
theorem op_in_dict (hu : X.A.units + 1 < cLine) : OpR X (compareOp .In) (fun x y H Q => ∃ a o, y = .ref a ∧ DGet H a x o ∧ Q (.bl o.isSome) H) := by
  intro pins s σ H x y v u Q I rx ry ⟨a, o, ey, g, q⟩
  subst ey
  obtain rfl : u = Value.ref a := ry
  exact d_in hu I g rx fun s3 I3 => ⟨.bl o.isSome, H, I3, rfl, q⟩
theorem op_notin_dict (hu : X.A.units + 1 < cLine) : OpR X (compareOp .NotIn) (fun x y H Q => ∃ a o, y = .ref a ∧ DGet H a x o ∧ Q (.bl (!o.isSome)) H) := by
  intro pins s σ H x y v u Q I rx ry ⟨a, o, ey, g, q⟩
  subst ey
  obtain rfl : u = Value.ref a := ry
  exact d_notIn hu I g rx fun s3 I3 => ⟨.bl (!o.isSome), H, I3, rfl, q⟩
theorem in_cases {w : Wd} {H : Hp} {h : Hm} {x y : D} {vx vy : V} {c : Bool} (s : HSim Y w H h) (rx : Rep Y w H x vx) (ry : Rep Y w H y vy) (e : dIn h x y = some c) :
    (∃ i j, vx = .str i ∧ vy = .str j ∧ (!(Builtin.Str.occurrences j i 0 j.length 1).isEmpty) = c) ∨
    (∃ p xs, vy = .ref p ∧ SqT Y.K H p xs ∧ flatV vx = true ∧ xs.all flatV = true ∧ inV vx xs = c) ∨
    (∃ d ds, Dp Y.K H vx d ∧ Dp Y.K H vy (.list ds) ∧ SeqAt.shaped d = true ∧ SeqAt.shaped (.list ds) = true ∧ (ds.any fun z => PyData.eqv z d) = c) ∨
    (∃ a o, vy = .ref a ∧ DGet H a vx o ∧ o.isSome = c) := by
  have cy := cont_rep s ry
  unfold dIn at e
  split at e
  · rename_i z ez
    rw [ez] at cy
    obtain rfl := cy.str
    split at e
    · cases e
      exact .inl ⟨_, _, rx, rfl, isSub_occ _ _⟩
    · cases e
  · rename_i l el
    rw [el] at cy
    split at e
    · rename_i hc
      simp only [Bool.and_eq_true, decide_eq_true_eq] at hc
      obtain ⟨⟨⟨h1, h2⟩, h3⟩, h4⟩ := hc
      cases e
      refine .inr (.inr (.inl ⟨toPy x, toPys l, data_dp h1 rx, cdata_dp (d := .lst l) h2 cy, py_shaped h1 h3, py_shaped (d := .lst l) h2 (by show depths l + 1 ≤ 64; omega), ?_⟩))
      rw [toPys_map, List.any_map]
      have hall : ∀ y ∈ l, isData y = true := by
        clear cy el h4
        induction l with
        | nil => intro y hy; cases hy
        | cons a l ih =>
          obtain ⟨f1, f2⟩ := Bool.and_eq_true_iff.mp h2
          intro y hy
          rcases List.mem_cons.mp hy with rfl | hy
          · exact f1
          · exact ih f2 y hy
      clear cy el h2 h4
      induction l with
      | nil => rfl
      | cons a l ih =>
        simp only [List.any_cons]
        rw [ih fun y hy => hall y (List.mem_cons_of_mem _ hy)]
        congr 1
        exact py_eqv a x (hall a List.mem_cons_self) h1
    · cases e
  · rename_i l el
    rw [el] at cy
    obtain ⟨a, vs, rfl, h2, h3⟩ := cy.tup
    split at e
    · rename_i hc
      simp only [Bool.and_eq_true] at hc
      cases e
      exact .inr (.inl ⟨a, vs, rfl, h2, flatV_ok hc.1 rx, flats_ok hc.2 h3, inV_ok hc.1 rx hc.2 h3⟩)
    · cases e
  · rename_i kvs ek
    obtain ⟨q, e1, rfl⟩ := Option.map_eq_some_iff.mp e
    obtain ⟨a, o, rfl, g, r⟩ := (dget_ok s ry rx).1 kvs q ek e1
    refine .inr (.inr (.inr ⟨a, o, rfl, g, ?_⟩))
    rcases r with ⟨r1, r2⟩ | ⟨d, v, r1, r2, _⟩ <;> rw [r1, r2] <;> rfl
  · rename_i kvs ek
    obtain ⟨q, e1, rfl⟩ := Option.map_eq_some_iff.mp e
    obtain ⟨a, o, rfl, g, r⟩ := (dget_ok s ry rx).2 kvs q ek e1
    refine .inr (.inr (.inr ⟨a, o, rfl, g, ?_⟩))
    rcases r with ⟨r1, r2⟩ | ⟨d, v, r1, r2, _⟩ <;> rw [r1, r2] <;> rfl
  · cases e
def ops_in : OpS X Y (compareOp .In) .in_ where
  r := rInAll X.K
  op := OpR.or op_in_str (OpR.or op_in_seq (OpR.or (op_inD hu) (op_in_dict (by omega))))
  sound := fun {w H h x y vx vy z Qv} s rx ry e out => by
    replace e : (dIn h x y).map .bl = some z := e
    obtain ⟨k, e0, ez⟩ := Option.map_eq_some_iff.mp e
    subst ez
    have fin := out w H (.bl k) (Evo.refl _ _) s rfl
    rcases in_cases s rx ry e0 with ⟨i, j, h1, h2, h3⟩ | ⟨p, xs, h1, h2, h3, h4, h5⟩ | ⟨d, ds, h1, h2, h3, h4, h5⟩ | ⟨a, o, h1, h2, h3⟩
    · exact .inl ⟨i, j, h1, h2, by rw [h3]; exact fin⟩
    · exact .inr (.inl ⟨p, xs, h1, .inr (by rw [hK]; exact h2), h3, h4, by rw [if_neg Bool.false_ne_true, h5]; exact fin⟩)
    · exact .inr (.inr (.inl ⟨d, ds, by rw [hK]; exact h1, by rw [hK]; exact h2, h3, h4, by rw [h5]; exact fin⟩))
    · exact .inr (.inr (.inr ⟨a, o, h1, h2, by rw [h3]; exact fin⟩))
def ops_notin : OpS X Y (compareOp .NotIn) .notin where
  r := rNotInAll X.K
  op := OpR.or op_notin_str (OpR.or op_notIn_seq (OpR.or (op_notInD hu) (op_notin_dict (by omega))))
  sound := fun {w H h x y vx vy z Qv} s rx ry e out => by
    replace e : (dIn h x y).map (fun c => D.bl (!c)) = some z := e
    obtain ⟨k, e0, ez⟩ := Option.map_eq_some_iff.mp e
    subst ez
    have fin := out w H (.bl (!k)) (Evo.refl _ _) s rfl
    rcases in_cases s rx ry e0 with ⟨i, j, h1, h2, h3⟩ | ⟨p, xs, h1, h2, h3, h4, h5⟩ | ⟨d, ds, h1, h2, h3, h4, h5⟩ | ⟨a, o, h1, h2, h3⟩
    · exact .inl ⟨i, j, h1, h2, by rw [h3]; exact fin⟩
    · exact .inr (.inl ⟨p, xs, h1, .inr (by rw [hK]; exact h2), h3, h4, by rw [if_pos rfl, h5]; exact fin⟩)
    · exact .inr (.inr (.inl ⟨d, ds, by rw [hK]; exact h1, by rw [hK]; exact h2, h3, h4, by rw [h5]; exact fin⟩))
    · exact .inr (.inr (.inr ⟨a, o, h1, h2, by rw [h3]; exact fin⟩))
/-! ### a[b] -/
theorem ix_dict (hu : X.A.units + 1 < cLine) : IxR X (fun x y H Q => ∃ a v, x = .ref a ∧ DGet H a y (some v) ∧ Q v H) := by
  intro value slice pins s σ H x y v u Q I rx ry ⟨a, z, ex, g, q⟩ hs
  subst ex
  obtain rfl : v = Value.ref a := rx
  exact tail_any (ops := [.ref a, u]) (dict_typeIs I g) PySem.F.slot_dict_getitem.lookup (d_getItem hu I g ry fun w' s3 I3 rw' => ⟨z, H, I3, rw', q⟩) (by rw [hs])
def rIxAll (K : PySem.W.Frag) : R2 := fun x y H Q => rIx K x y H Q ∨ ∃ a v, x = .ref a ∧ DGet H a y (some v) ∧ Q v H
theorem ixOf_atI {α : Type} {l : List α} {i : Int} {v : α} (h : (ixOf l.length i).bind (fun n => l[n]?) = some v) : atI l i = some v := by
  unfold atI ixN
  unfold ixOf at h
  exact h
theorem ok_idx {F : Fr} {a b : Expr} {ea eb : E} {pos : Pos} (hK : X.K = F.Y.K) (hu : X.A.units + 65 < cLine) (ha : PE X a (tE F ea)) (hb : PE X b (tE F eb)) (hs : PlainIx b) : PE X (.Subscript a b pos) (tE F (.idx ea eb)) :=
  (pe_ix (r := rIxAll X.K) (IxR.or ix_seq (ix_dict (by omega))) ha hb hs).imp fun σ H Q t => by
    obtain ⟨w, env, h, Qd, Xd, hs, es, hd, o', ox⟩ := t
    refine ⟨w, env, h, _, Xd, hs, es, hd, fun w1 H1 v1 d1 h1 e1 s1 r1 q1 => ?_, ox⟩
    refine ⟨w1, env, h1, _, Xd, s1, es.mono e1, q1, fun w2 H2 v2 d2 h2 e2 s2 r2 q2 => ?_, ox.evo e1⟩
    obtain ⟨z, hz, qz⟩ := q2
    have rx := r1.mono e2
    have cx := cont_rep s2 rx
    have fin := fun v r => o' w2 H2 v z h2 (e1.trans e2) s2 r qz
    unfold dItem at hz
    split at hz
    · rename_i l j el
      rw [el] at cx
      obtain ⟨p, vs, rfl, k1, k2⟩ := cx.tup
      have hj := hz
      obtain ⟨n, en, gn⟩ := Option.bind_eq_some_iff.mp hz
      obtain ⟨v, ev, rv⟩ := k2.get gn
      refine .inl (.inr (.inl ⟨p, vs, j, v, rfl, r2, by rw [hK]; exact k1, ixOf_atI ?_, fin v rv⟩))
      rw [← k2.length, en]
      exact ev
    · rename_i l j el
      rw [el] at cx
      obtain ⟨p, vs, rfl, k1, k2⟩ := cx.lst
      obtain ⟨n, en, gn⟩ := Option.bind_eq_some_iff.mp hz
      obtain ⟨v, ev, rv⟩ := k2.get gn
      refine .inl (.inl ⟨p, vs, j, v, rfl, r2, .inl k1, ixOf_atI ?_, fin v rv⟩)
      rw [← k2.length, en]
      exact ev
    · rename_i x j el
      rw [el] at cx
      obtain rfl := cx.str
      split at hz
      · rename_i hl
        obtain ⟨n, en, gn⟩ := Option.bind_eq_some_iff.mp hz
        obtain ⟨c, ec, rfl⟩ := Option.map_eq_some_iff.mp gn
        refine .inl (.inr (.inr ⟨_, j, c, rfl, r2, by rw [sV_len, ← lineEq]; exact hl, ?_, fin _ rfl⟩))
        rw [sV_cps]
        refine ixOf_atI ?_
        rw [en]
        exact ec
      · cases hz
    · rename_i d kvs ek
      obtain ⟨q, eq', hl⟩ := Option.bind_eq_some_iff.mp hz
      obtain ⟨p, o, rfl, g, r⟩ := (dget_ok s2 rx r2).1 kvs q ek eq'
      rcases r with ⟨r1, _⟩ | ⟨d', v, r1, r2, r3⟩
      · rw [r1] at hl; cases hl
      · rw [r1] at hl; cases hl
        subst r2
        exact .inr ⟨p, v, rfl, g, fin v r3⟩
    · rename_i d kvs ek
      obtain ⟨q, eq', hl⟩ := Option.bind_eq_some_iff.mp hz
      obtain ⟨p, o, rfl, g, r⟩ := (dget_ok s2 rx r2).2 kvs q ek eq'
      rcases r with ⟨r1, _⟩ | ⟨d', v, r1, r2, r3⟩
      · rw [r1] at hl; cases hl
      · rw [r1] at hl; cases hl
        subst r2
        exact .inr ⟨p, v, rfl, g, fin v r3⟩
    · cases hz
end
end Pv
end

section
set_option maxRecDepth 100000
set_option maxHeartbeats 4000000
namespace Pv
open PySem PySem.Spec PyProof.Rows L2
section
variable {X : Cx} {F : Fr} {a b c e : Expr} {es : List Expr} {ea eb ec ee : E} {ees : Es} {pos : Pos}
/-! ### several expressions -/
theorem ok_nil : PA X [] (tEs F .nil) := pa_nil.imp fun σ H Q ⟨w, env, h, Qd, Xd, hs, es, hd, o, ox⟩ => o w H [] [] h (Evo.refl _ _) hs rfl hd
theorem ok_cons (ha : PE X e (tE F ee)) (hr : PA X es (tEs F ees)) (hs : starEach (e :: es) X.env = (false, eval e X.env) :: starEach es X.env) : PA X (e :: es) (tEs F (.cons ee ees)) :=
  (pa_cons ha hr hs).imp fun σ H Q ⟨w, env, h, Qd, Xd, hs, es, hd, o, ox⟩ =>
    ⟨w, env, h, _, Xd, hs, es, hd, fun w1 H1 v1 d1 h1 e1 s1 r1 q1 =>
      ⟨w1, env, h1, _, Xd, s1, es.mono e1, q1, fun w2 H2 vs l h2 e2 s2 r2 q2 => o w2 H2 (v1 :: vs) (d1 :: l) h2 (e1.trans e2) s2 ⟨v1, vs, rfl, r1.mono e2, r2⟩ q2, ox.evo e1⟩, ox⟩
theorem ok_tup {k : Nat} (ha : PA X es (tEs F ees)) : PE X (.Tuple es k pos) (tE F (.tup ees)) :=
  (pe_tup ha).imp fun σ H Q ⟨w, env, h, Qd, Xd, hs, es, hd, o, ox⟩ =>
    ⟨w, env, h, _, Xd, hs, es, hd, fun w1 H1 vs l h1 e1 s1 r1 q1 => by
      refine ⟨by rw [← r1.length, ← lineEq]; exact q1.1, new_tup s1 r1 fun w2 H2 v e2 s2 r2 => o w2 H2 v (.tup l) h1 (e1.trans e2) s2 r2 q1.2⟩, ox⟩
/-! ### attributes -/
theorem repF_look {Y : At} {w : Wd} {H : Hp} : ∀ {fs : List (Nat × D)} {fv : List (Str × V)} {f : Nat} {d : D}, RepF Y w H fs fv → look fs f = some d → ∃ v, fv.lookup (Y.fn f) = some v ∧ Rep Y w H d v
  | [], fv, f, d, r, e => by cases e
  | (k, d') :: l, fv, f, d, r, e => by
    obtain ⟨v, t, rfl, h2, h3⟩ := r
    rw [look] at e
    split at e
    · rename_i ek
      cases e
      subst ek
      exact ⟨v, by simp [List.lookup], h2⟩
    · rename_i ek
      obtain ⟨u, e1, r1⟩ := repF_look h3 e
      refine ⟨u, ?_, r1⟩
      have : (Y.fn f == Y.fn k) = false := by
        rw [beq_eq_false_iff_ne]
        exact fun z => ek (Y.fnI _ _ z.symm)
      rw [List.lookup_cons, this]
      exact e1
theorem repF_none {Y : At} {w : Wd} {H : Hp} {m : Str} (hm : ∀ f, Y.fn f ≠ m) : ∀ {fs : List (Nat × D)} {fv : List (Str × V)}, RepF Y w H fs fv → fv.lookup m = none
  | [], fv, r => by cases r; rfl
  | (k, d') :: l, fv, r => by
    obtain ⟨v, t, rfl, h2, h3⟩ := r
    have : (m == Y.fn k) = false := by
      rw [beq_eq_false_iff_ne]
      exact fun z => hm k z.symm
    rw [List.lookup_cons, this]
    exact repF_none hm h3
/-- the classes stand as they must -/
structure ClsOk (K : PySem.W.Frag) (Y : At) (P : Cls) : Prop where
  cls : ∀ c f, P.fld c f = true → L2.Cls K (Y.ca c)
  no : ∀ c f, P.fld c f = true → NoAttr K (Y.ca c) (Y.fn f)
theorem ok_fld {f : Nat} {x : Str} (k : ClsOk X.K F.Y F.P) (hx : x = F.Y.fn f) (ha : PE X a (tE F ea)) (hb : attributeBase a x X.env (eval a X.env) = eval a X.env) : PE X (.Attribute a x pos) (tE F (.fld ea f)) := by
  subst hx
  exact (pe_fld ha hb).imp fun σ H Q ⟨w, env, h, Qd, Xd, hs, es, hd, o, ox⟩ =>
    ⟨w, env, h, _, Xd, hs, es, hd, fun w1 H1 v1 d1 h1 e1 s1 r1 q1 => by
      obtain ⟨c, fs, d, q2, q3, q4, q5⟩ := q1
      have cx := cont_rep s1 r1
      rw [q2] at cx
      obtain ⟨p, dx, fv, rfl, k1, k2⟩ := cx.ins
      obtain ⟨v, k3, k4⟩ := repF_look k2 q4
      exact ⟨p, F.Y.ca c, dx, fv, v, rfl, k1, k.cls c f q3, k.no c f q3, k3, o w1 H1 v d h1 e1 s1 k4 q5⟩, ox⟩
/-! ### slices -/
def tEo (F : Fr) (e : Eo) : TO := fun σ H Qv => ∃ (w : Wd) (env : Env) (h : Hm) (Q : Option Int → Hm → Prop) (X : QX), HSim F.Y w H h ∧ EnvSim F.Y w H F.bad F.ce F.lk env σ ∧ dEo F.P F.C e env h Q X ∧ (∀ w' H' i h', Evo w H w' H' → HSim F.Y w' H' h' → Q i h' → Qv i H') ∧ OutX F.Y w H X fun c d H' => F.W c d σ H'
theorem _root_.L2.PO.imp {X : Cx} {e : Option Expr} {t t' : TO} (h : PO X e t) (i : ∀ σ H Q, t' σ H Q → t σ H Q) : PO X e t' := ⟨fun pins s σ H Q I q => h.run pins s σ H Q I (i σ H Q q)⟩
theorem ok_onone : PO X none (tEo F .none) := po_none.imp fun σ H Q ⟨w, env, h, Qd, Xd, hs, es, hd, o, ox⟩ => o w H none h (Evo.refl _ _) hs hd
theorem ok_osome (ha : PE X e (tE F ee)) : PO X (some e) (tEo F (.some ee)) := (po_some ha).imp fun σ H Q ⟨w, env, h, Qd, Xd, hs, es, hd, o, ox⟩ =>
  ⟨w, env, h, _, Xd, hs, es, hd, fun w1 H1 v1 d1 h1 e1 s1 r1 q1 => by
    obtain ⟨i, rfl, q⟩ := q1
    exact ⟨i, r1, o w1 H1 (some i) h1 e1 s1 q⟩, ox⟩
theorem clip_sIx (n d : Nat) (o : Option Int) (hd : d ≤ n) : HT.sIx n d o = clip n d o := by
  cases o with
  | none => exact HT.sIx_none n d
  | some i =>
    have := HT.clip_eq i n d
    show HT.sIx n d (some i) = if 0 ≤ i then min i.toNat n else (i + n).toNat
    by_cases h : 0 ≤ i
    · rw [if_neg (by omega)] at this
      rw [if_pos h]
      omega
    · rw [if_pos (by omega)] at this
      rw [if_neg h]
      omega
theorem cut_V (vs : List V) (lo hi : Option Int) : cutV vs lo hi = cut vs lo hi := by
  unfold cutV cut
  rw [clip_sIx _ _ _ (Nat.zero_le _), clip_sIx _ _ _ (Nat.le_refl _)]
theorem cut_S (z : List Nat) (lo hi : Option Int) : cutS (sV z) lo hi = sV (cut z lo hi) := by
  unfold cutS cut
  rw [sV_len, sV_cps, clip_sIx _ _ _ (Nat.zero_le _), clip_sIx _ _ _ (Nat.le_refl _)]
  rfl
theorem reps_cut {Y : At} {w : Wd} {H : Hp} {l : List D} {vs : List V} (r : Reps Y w H l vs) (lo hi : Option Int) : Reps Y w H (cut l lo hi) (cut vs lo hi) := by
  unfold cut
  rw [r.length]
  exact (r.drop _).take _
theorem cut_whole {α : Type} (l : List α) (lo hi : Option Int) (h : clip l.length 0 lo = 0 ∧ clip l.length l.length hi = l.length) : cut l lo hi = l := by
  unfold cut
  rw [h.1, h.2]
  simp
def rSlAll (K : PySem.W.Frag) : V → Option Int → Option Int → Hp → VK → Prop := fun x lo hi H Q => rSlA K x lo hi H Q ∨ rSlL K x lo hi H Q ∨ rSlS x lo hi H Q
theorem reps_ints {Y : At} {w : Wd} {H : Hp} : ∀ (l : List Int), Reps Y w H (l.map .int) (l.map .int)
  | [] => rfl
  | a :: l => ⟨_, _, rfl, rfl, reps_ints l⟩
theorem cut_map {α β : Type} (f : α → β) (l : List α) (i j : Option Int) : cut (l.map f) i j = (cut l i j).map f := by
  unfold cut
  rw [List.length_map, List.map_take, List.map_drop]
theorem ok_slice {lo hi : Option Expr} {elo ehi : Eo} {p2 : Pos} (hK : X.K = F.Y.K) (ha : PE X a (tE F ea)) (hl : PO X lo (tEo F elo)) (hh : PO X hi (tEo F ehi)) : PE X (.Subscript a (.Slice lo hi none p2) pos) (tE F (.slice ea elo ehi)) :=
  (pe_slice (r := rSlAll X.K) (SlR.or sl_tupA (SlR.or sl_list sl_str)) ha hl hh).imp fun σ H Q ⟨w, env, h, Qd, Xd, hs, es, hd, o, ox⟩ => by
    refine ⟨w, env, h, _, Xd, hs, es, hd, fun w1 H1 v1 d1 h1 e1 s1 r1 q1 => ?_, ox⟩
    refine ⟨w1, env, h1, _, Xd, s1, es.mono e1, q1, fun w2 H2 i h2 e2 s2 q2 => ?_, ox.evo e1⟩
    refine ⟨w2, env, h2, _, Xd, s2, (es.mono e1).mono e2, q2, fun w3 H3 j h3 e3 s3 q3 => ?_, (ox.evo e1).evo e2⟩
    · exact (by
          obtain ⟨z, hz, qz⟩ := q3
          have rx := (r1.mono e2).mono e3
          have e13 := (e1.trans e2).trans e3
          have out := fun w' H' v e s r => o w' H' v z h3 (e13.trans e) s r qz
          unfold dSlice at hz
          split at hz
          · rename_i l el
            cases hz
            have el' : d1 = .tup l ∨ ∃ n, d1 = .ref n ∧ cont h3 d1 = .tup l := by
              cases d1 with
              | tup m => exact .inl el
              | ref n => exact .inr ⟨n, rfl, el⟩
              | wt m => cases el
              | _ => cases el
            rcases el' with rfl | ⟨n, rfl, el⟩
            · obtain ⟨p, vs, rfl, k1, k2⟩ := rx
              refine .inl ⟨p, vs, rfl, SqT.of k1, fun hw => ?_, fun _ => ?_⟩
              · rw [clip_sIx _ _ _ (Nat.zero_le _), clip_sIx _ _ _ (Nat.le_refl _), ← k2.length] at hw
                exact out w3 H3 _ (Evo.refl _ _) s3 (by rw [cut_whole _ _ _ hw]; exact ⟨p, vs, rfl, k1, k2⟩)
              · rw [cut_V]
                exact new_tup s3 (reps_cut k2 i j) out
            · obtain ⟨p, e4, rfl⟩ := rx
              obtain ⟨c, ec, os⟩ := s3.get' e4
              have : cont h3 (.ref n) = c := by
                show h3.getD n .non = c
                rw [List.getD_eq_getElem?_getD, ec]; rfl
              rw [this] at el
              subst el
              exact os.elim
          · rename_i l el
            cases hz
            have el' : cont h3 d1 = .lst l := by
              cases d1 <;> first | exact el | cases el
            have cx := cont_rep s3 rx
            rw [el'] at cx
            obtain ⟨p, vs, rfl, k1, k2⟩ := cx.lst
            refine .inr (.inl ⟨p, vs, rfl, .inl k1, ?_⟩)
            rw [cut_V]
            exact new_lst s3 (reps_cut k2 i j) out
          · rename_i x el
            have el' : cont h3 d1 = .str x := by
              cases d1 <;> first | exact el | cases el
            have cx := cont_rep s3 rx
            rw [el'] at cx
            obtain rfl := cx.str
            split at hz
            · rename_i hl
              cases hz
              exact .inr (.inr ⟨_, rfl, by rw [sV_len, ← lineEq]; exact hl, by rw [cut_S]; exact out w3 H3 _ (Evo.refl _ _) s3 rfl⟩)
            · cases hz
          · rename_i l el
            cases hz
            have el' : d1 = .scr l ∨ ∃ n, d1 = .ref n ∧ cont h3 d1 = .scr l := by
              cases d1 with
              | scr m => exact .inl (by cases el; rfl)
              | ref n => exact .inr ⟨n, rfl, el⟩
              | wt m => cases el
              | _ => cases el
            rcases el' with rfl | ⟨n, rfl, el⟩
            · obtain ⟨p, rfl, k1⟩ := rx
              refine .inr (.inl ⟨p, l.map .int, rfl, ?_, ?_⟩)
              · rcases k1 with ⟨o, k1⟩ | k1
                · exact .inl (.inr ⟨o, k1⟩)
                · exact .inr (by rw [hK]; exact k1)
              · rw [cut_V]
                exact new_lst s3 (reps_cut (reps_ints l) i j) (by rw [cut_map]; exact out)
            · obtain ⟨p, e4, rfl⟩ := rx
              obtain ⟨c, ec, os⟩ := s3.get' e4
              have : cont h3 (.ref n) = c := by
                show h3.getD n .non = c
                rw [List.getD_eq_getElem?_getD, ec]; rfl
              rw [this] at el
              subst el
              exact os.elim
          · cases hz)
/-! ### calls -/
/-- a def's promise -/
def spC (Y : At) (C : Calls) (i : Nat) : Sp := fun vs H Q E => ∃ (w : Wd) (h : Hm) (l : List D) (Qd : QD) (Xd : QX), w.cl = [] ∧ HSim Y w H h ∧ Reps Y w H l vs ∧ C i l h Qd Xd ∧ OutE Y w H Qd Q ∧ OutX Y w H Xd E
/-- a def that may be called -/
structure DefOk (X : Cx) (Y : At) (C : Calls) (i : Nat) : Prop where
  ok : ∃ k fd ps, FnOk X.prog X.w X.K X.mg X.base (L2.CX X.prog X.w) k (Y.fa i) fd ps (spC Y C i) ∧ Room k X.A ∧ Binds X.K fd ps []
  kp : PySem.W.keepIn X.K (.ref (Y.fa i)) = true
theorem call_goA {A : Around} (hA : A.frames = X.A.frames) {i : Nat} {pins : List (Addr × Obj)} {σ : L2.St} {H : Hp} {s : Shared} {w : Wd} {env : Env} {h : Hm} {l : List D} {vs : List V} {us : List Value} {Qd : QD} {Xd : QX} {Q : VK} (f : FrOk X F) (d : ∃ k fd ps, FnOk X.prog X.w X.K X.mg X.base (L2.CX X.prog X.w) k (F.Y.fa i) fd ps (spC F.Y F.C i) ∧ Room k A ∧ Binds X.K fd ps []) (tk : Takes X F.W) (I : Inv X pins σ H s) (r : Vals vs us)
    (hs : HSim F.Y w H h) (ev : EnvSim F.Y w H F.bad F.ce F.lk env σ) (rs : Reps F.Y w H l vs) (hc : F.C i l h Qd Xd) (o : OutE F.Y w H Qd Q) (ox : OutX F.Y w H Xd fun c d H' => F.W c d σ H') : wpAny (model X.prog X.w) A (call (.ref (F.Y.fa i)) us) (EP X pins σ Q) X.xe s := by
  obtain ⟨k, fd, ps, Fn, hr, hb⟩ := d
  have u := f.upC I ev
  have hsp : spC F.Y F.C i vs (Pv.upC (cells w) s.heap H) (fun v H' => Q v (dn (cells w) H')) (fun c d H' => F.W c d σ (dn (cells w) H')) :=
    ⟨w.bare, h, l, Qd, Xd, rfl, f.hsim_up I ev hs, rs.mv (f.mv_up I ev), hc, fun w' H' v d h' e t r q => by
      obtain ⟨e', t', m⟩ := f.back I ev hs e t
      exact o _ _ v d h' e' t' (r.mv m) q, fun w' H' x c dd h' e t r q => by
      obtain ⟨e', t', m⟩ := f.back I ev hs e t
      exact ox _ _ x c dd h' e' t' (repX_mv m r) q⟩
  have hl : us.length = ps.length := by rw [← r.length]; exact Fn.len _ _ _ _ hsp
  have b := hb s us I.kIn (by rw [List.append_nil]; exact hl)
  rw [List.append_nil] at b
  refine wpAny_call (codeAny_mono (Fn.run A X.stack s _ ⟨us, []⟩ us vs _ _ hr (by have e := f.env0 I ev; exact ⟨by rw [hA]; exact e.frames, e.mod, e.bs, e.bsz, e.funs, e.frf, e.hok, e.bare⟩) b r hsp) fun r s' hq => ?_)
  have hq := cr_dn (Q := Q) (E := fun c d H' => F.W c d σ H') u (fun b hb hb' => by
    obtain ⟨⟨c, v⟩, m, rfl⟩ := List.mem_map.mp hb'
    exact (f.up I ev c v m).2.2.1 hb) hq
  cases r with
  | error e => exact passAt tk σ pins H s e s' I hq
  | ok fl =>
    cases fl with
    | ret u => exact I.after hq
    | next => exact False.elim hq
    | brk => exact False.elim hq
    | cont => exact False.elim hq
theorem call_go {i : Nat} {pins : List (Addr × Obj)} {σ : L2.St} {H : Hp} {s : Shared} {w : Wd} {env : Env} {h : Hm} {l : List D} {vs : List V} {us : List Value} {Qd : QD} {Xd : QX} {Q : VK} (f : FrOk X F) (d : DefOk X F.Y F.C i) (tk : Takes X F.W) (I : Inv X pins σ H s) (r : Vals vs us)
    (hs : HSim F.Y w H h) (ev : EnvSim F.Y w H F.bad F.ce F.lk env σ) (rs : Reps F.Y w H l vs) (hc : F.C i l h Qd Xd) (o : OutE F.Y w H Qd Q) (ox : OutX F.Y w H Xd fun c d H' => F.W c d σ H') : wpAny (model X.prog X.w) X.A (call (.ref (F.Y.fa i)) us) (EP X pins σ Q) X.xe s :=
  call_goA rfl f d.ok tk I r hs ev rs hc o ox
theorem ok_call {i : Nat} {x : Str} {p : Pos} (fk : FrOk X F) (d : DefOk X F.Y F.C i) (tk : Takes X F.W) (hg : Gl X x) (hm : X.mg x = some (.ref (F.Y.fa i))) (ha : PA X (e :: es) (tEs F ees)) (hdb : (x == ("__debug__" : Str)) = false)
    (he : starEach (e :: es) X.env = (false, eval e X.env) :: starEach es X.env) (hpl : (backTo pos (starEach es X.env)).any (·.1) = false) : PE X (.Call (.Name x p) (e :: es) [] pos) (tE F (.call i ees)) := by
  refine ⟨fun pins s σ H Q I hh => ?_⟩
  obtain ⟨w, env, h, Qd, Xd, hs, ev, hd, o, ox⟩ := hh
  refine wpAny_Call_Name_kw (ld_glob I hg hm ?_ hdb)
  refine PySem.W.callWith_K (h₀ := X.base) I.ok.mod.kin d.kp (thn (ha.run pos pins s σ H (fun vs H1 => ∃ w1 h1 l, Evo w H w1 H1 ∧ HSim F.Y w1 H1 h1 ∧ Reps F.Y w1 H1 l vs ∧ F.C i l h1 Qd Xd) I
    ⟨w, env, h, _, Xd, hs, ev, hd, fun w1 H1 vs l h1 e1 s1 r1 q1 => ⟨w1, h1, l, e1, s1, r1, q1⟩, ox⟩) fun us s1 ⟨vs, H1, I1, r, w1, h1, l, e1, t1, r1, q1⟩ => ⟨I1.kIn, ?_⟩) he hpl
  exact call_go fk d tk I1 r t1 (ev.mono e1) r1 q1 (o.evo e1) (ox.evo e1)
theorem ok_call0 {i : Nat} {x : Str} {p : Pos} (fk : FrOk X F) (d : DefOk X F.Y F.C i) (tk : Takes X F.W) (hg : Gl X x) (hm : X.mg x = some (.ref (F.Y.fa i))) (hdb : (x == ("__debug__" : Str)) = false) : PE X (.Call (.Name x p) [] [] pos) (tE F (.call i .nil)) := by
  refine ⟨fun pins s σ H Q I hh => ?_⟩
  obtain ⟨w, env, h, Qd, Xd, hs, ev, hd, o, ox⟩ := hh
  refine wpAny_Call_Name_kw (ld_glob I hg hm ?_ hdb)
  exact PySem.W.callWith_K0 I.kIn d.kp (call_go fk d tk I .nil hs ev (show Reps F.Y w H [] [] from rfl) hd o ox)
/-- o.m(..) -/
theorem ok_meth {i c : Nat} {m : Str} {apos : Pos} {pl : Sem Bool} (fk : FrOk X F) (d : DefOk X F.Y F.C i) (tk : Takes X F.W) (kc : L2.Cls X.K (F.Y.ca c)) (km : Meth X.K (F.Y.ca c) m (F.Y.fa i)) (hm : ∀ f, F.Y.fn f ≠ m) (ho : PE X a (tE F ea)) (ha : PA X (e :: es) (tEs F ees))
    (hst : starEach (e :: es) X.env = (false, eval e X.env) :: starEach es X.env) (hpl : (backTo pos (starEach es X.env)).any (·.1) = false)
    (ht : eval (.Call (.Attribute a m apos) (e :: es) [] pos) X.env = (do
      let ov ← eval a X.env
      standAt apos.atName
      let (f, first) ← holding [ov] (getMethod ov m pl)
      callWith pos f first (backTo pos (starEach (e :: es) X.env)) (backToKw pos (keywordEach [] X.env)))) :
    PE X (.Call (.Attribute a m apos) (e :: es) [] pos) (tE F (.meth ea c i ees)) := by
  refine ⟨fun pins s σ H Q I hh => ?_⟩
  obtain ⟨w, env, h, Qd, Xd, hs, ev, hd, o, ox⟩ := hh
  refine PySem.W.methodCall_KW (pl := pl) (thn (ho.run pins s σ H (fun x H1 => ∃ p dx fs w1 h1 d1, x = .ref p ∧ H1 p = some (.ins (F.Y.ca c) dx fs) ∧ fs.lookup m = none ∧ Evo w H w1 H1 ∧ HSim F.Y w1 H1 h1 ∧ Rep F.Y w1 H1 d1 (.ref p) ∧ dEs F.P F.C ees env h1 (fun l h2 => F.C i (d1 :: l) h2 Qd Xd) Xd) I
    ⟨w, env, h, _, Xd, hs, ev, hd, fun w1 H1 v1 d1 h1 e1 s1 r1 q1 => ?_, ox⟩) fun u s1 ⟨x, H1, I1, rx, p, dx, fs, w1, h1, d1, ex, ea, l, e1, t1, r1, q1⟩ => ?_) ht
  · obtain ⟨fs, q2, q3⟩ := q1
    have cx := cont_rep s1 r1
    rw [q2] at cx
    obtain ⟨p, dx, fv, rfl, k1, k2⟩ := cx.ins
    exact ⟨p, dx, fv, w1, h1, d1, rfl, k1, repF_none hm k2, e1, s1, r1, q3⟩
  · subst ex
    obtain rfl : u = Value.ref p := rx
    refine getmeth_ok I1 ea kc km l ?_
    refine PySem.W.callWith_K (first := [.ref p]) (h₀ := X.base) I.ok.mod.kin km.kp (thn (ha.run pos pins s1 σ H1 (fun vs H2 => ∃ w2 h2 l, Evo w1 H1 w2 H2 ∧ HSim F.Y w2 H2 h2 ∧ Reps F.Y w2 H2 l vs ∧ F.C i (d1 :: l) h2 Qd Xd) I1
      ⟨w1, env, h1, _, Xd, t1, ev.mono e1, q1, fun w2 H2 vs l h2 e2 s2 r2 q2 => ⟨w2, h2, l, e2, s2, r2, q2⟩, ox.evo e1⟩) fun us s2 ⟨vs, H2, I2, r, w2, h2, l, e2, t2, r2, q2⟩ => ⟨I2.kIn, ?_⟩) hst hpl
    exact call_go (us := .ref p :: us) (vs := .ref p :: vs) (l := d1 :: l) fk d tk I2 (.cons rfl r) t2 ((ev.mono e1).mono e2) ⟨_, vs, rfl, r1.mono e2, r2⟩ q2 (o.evo (e1.trans e2)) (ox.evo (e1.trans e2))
theorem ok_meth0 {i c : Nat} {m : Str} {apos : Pos} {pl : Sem Bool} (fk : FrOk X F) (d : DefOk X F.Y F.C i) (tk : Takes X F.W) (kc : L2.Cls X.K (F.Y.ca c)) (km : Meth X.K (F.Y.ca c) m (F.Y.fa i)) (hm : ∀ f, F.Y.fn f ≠ m) (ho : PE X a (tE F ea))
    (ht : eval (.Call (.Attribute a m apos) [] [] pos) X.env = (do
      let ov ← eval a X.env
      standAt apos.atName
      let (f, first) ← holding [ov] (getMethod ov m pl)
      callWith pos f first (backTo pos (starEach [] X.env)) (backToKw pos (keywordEach [] X.env)))) :
    PE X (.Call (.Attribute a m apos) [] [] pos) (tE F (.meth ea c i .nil)) := by
  refine ⟨fun pins s σ H Q I hh => ?_⟩
  obtain ⟨w, env, h, Qd, Xd, hs, ev, hd, o, ox⟩ := hh
  refine PySem.W.methodCall_KW (pl := pl) (thn (ho.run pins s σ H (fun x H1 => ∃ p dx fs w1 h1 d1, x = .ref p ∧ H1 p = some (.ins (F.Y.ca c) dx fs) ∧ fs.lookup m = none ∧ Evo w H w1 H1 ∧ HSim F.Y w1 H1 h1 ∧ Rep F.Y w1 H1 d1 (.ref p) ∧ F.C i [d1] h1 Qd Xd) I
    ⟨w, env, h, _, Xd, hs, ev, hd, fun w1 H1 v1 d1 h1 e1 s1 r1 q1 => ?_, ox⟩) fun u s1 ⟨x, H1, I1, rx, p, dx, fs, w1, h1, d1, ex, ea, l, e1, t1, r1, q1⟩ => ?_) ht
  · obtain ⟨fs, q2, q3⟩ := q1
    have cx := cont_rep s1 r1
    rw [q2] at cx
    obtain ⟨p, dx, fv, rfl, k1, k2⟩ := cx.ins
    exact ⟨p, dx, fv, w1, h1, d1, rfl, k1, repF_none hm k2, e1, s1, r1, q3⟩
  · subst ex
    obtain rfl : u = Value.ref p := rx
    refine getmeth_ok I1 ea kc km l ?_
    exact PySem.W.callWith_K0 (first := [.ref p]) I1.kIn km.kp (call_go (us := [.ref p]) (vs := [.ref p]) (l := [d1]) fk d tk I1 (.cons rfl .nil) t1 (ev.mono e1) ⟨_, [], rfl, r1, rfl⟩ q1 (o.evo e1) (ox.evo e1))
end
end Pv
end

section
set_option maxRecDepth 100000
set_option maxHeartbeats 4000000
namespace Pv
open PySem PySem.Spec PyProof.Rows L2
section
variable {X : Cx} {F : Fr} {a b c e : Expr} {es : List Expr} {ea eb ec ee : E} {ees : Es} {pos : Pos}
/-! ### built-in functions -/
/-- a built-in's soundness, by values -/
structure BiS (X : Cx) (Y : At) (f : Value) (b : Bi) where
  r : List V → Hp → VK → Prop
  op : CallR X f r
  sound : ∀ {w H h l vs z} {Qv : VK}, HSim Y w H h → Reps Y w H l vs → dBi h b l = some z → (∀ w' H' v, Evo w H w' H' → HSim Y w' H' h → Rep Y w' H' z v → Qv v H') → r vs H Qv
theorem tE_bi {b : Bi} {r : List V → Hp → VK → Prop} (snd : ∀ {w H h l vs z} {Qv : VK}, HSim F.Y w H h → Reps F.Y w H l vs → dBi h b l = some z → (∀ w' H' v, Evo w H w' H' → HSim F.Y w' H' h → Rep F.Y w' H' z v → Qv v H') → r vs H Qv)
    {σ : L2.St} {H : Hp} {Q : VK} (t : tE F (.bi b ees) σ H Q) : tCB r (tEs F ees) σ H Q := by
  obtain ⟨w, env, h, Qd, Xd, hs, es, hd, o, ox⟩ := t
  refine ⟨w, env, h, _, Xd, hs, es, hd, fun w1 H1 vs l h1 e1 s1 r1 q1 => ?_, ox⟩
  obtain ⟨z, hz, qz⟩ := q1
  exact snd s1 r1 hz fun w2 H2 v e2 s2 r2 => o w2 H2 v z h1 (e1.trans e2) s2 r2 qz
theorem ok_biB {b : Bi} {id : String} {x : Str} {p : Pos} (S : BiS X F.Y (.builtin id) b) (hg : Gl X x) (hm : X.mg x = none) (hv : bootBuiltins x = some (.builtin id)) (ha : PA X (e :: es) (tEs F ees)) (hn : x ≠ "__name__") (hdb : (x == ("__debug__" : Str)) = false)
    (he : starEach (e :: es) X.env = (false, eval e X.env) :: starEach es X.env) (hpl : (backTo pos (starEach es X.env)).any (·.1) = false) : PE X (.Call (.Name x p) (e :: es) [] pos) (tE F (.bi b ees)) :=
  (pe_callB S.op hg hm hv ha hn hdb he hpl).imp fun _ _ _ t => tE_bi S.sound t
theorem ok_biT {b : Bi} {T : String} {x : Str} {p : Pos} (S : BiS X F.Y (.type T) b) (hg : Gl X x) (hm : X.mg x = none) (hv : bootBuiltins x = some (.type T)) (ha : PA X (e :: es) (tEs F ees)) (hn : x ≠ "__name__") (hdb : (x == ("__debug__" : Str)) = false)
    (he : starEach (e :: es) X.env = (false, eval e X.env) :: starEach es X.env) (hpl : (backTo pos (starEach es X.env)).any (·.1) = false) : PE X (.Call (.Name x p) (e :: es) [] pos) (tE F (.bi b ees)) :=
  (pe_callTy S.op hg hm hv ha hn hdb he hpl).imp fun _ _ _ t => tE_bi S.sound t
end
section
variable {X : Cx} {Y : At} (hK : X.K = Y.K) (hu : X.A.units + 65 < cLine) (hc : X.calm = true)
theorem reps1 {w : Wd} {H : Hp} {d : D} {vs : List V} (r : Reps Y w H [d] vs) : ∃ v, vs = [v] ∧ Rep Y w H d v := by
  obtain ⟨v, t, rfl, h2, h3⟩ := r
  cases (show t = [] from h3)
  exact ⟨v, rfl, h2⟩
theorem reps2 {w : Wd} {H : Hp} {d e : D} {vs : List V} (r : Reps Y w H [d, e] vs) : ∃ v u, vs = [v, u] ∧ Rep Y w H d v ∧ Rep Y w H e u := by
  obtain ⟨v, t, rfl, h2, h3⟩ := r
  obtain ⟨u, rfl, h4⟩ := reps1 h3
  exact ⟨v, u, rfl, h2, h4⟩
theorem RepK.length {w : Wd} {H : Hp} : ∀ {l : List (K × D)} {vs : List (Key × V)}, RepK Y w H l vs → l.length = vs.length
  | [], vs, h => by cases h; rfl
  | (k, d) :: l, vs, h => by
    obtain ⟨v, r, rfl, _, h3⟩ := h
    simp [RepK.length h3]
theorem RepT.length {w : Wd} {H : Hp} : ∀ {l : List (List K × D)} {vs : List (List Key × V)}, RepT Y w H l vs → l.length = vs.length
  | [], vs, h => by cases h; rfl
  | (k, d) :: l, vs, h => by
    obtain ⟨v, r, rfl, _, h3⟩ := h
    simp [RepT.length h3]
theorem len_ok {w : Wd} {H : Hp} {h : Hm} {d : D} {v : V} {n : Nat} (s : HSim Y w H h) (rv : Rep Y w H d v) (en : dLen h d = some n) : LenV Y.K v H n := by
  have cx := cont_rep s rv
  unfold dLen at en
  split at en
  · rename_i l' el
    cases en
    rw [el] at cx
    obtain ⟨p, vs, rfl, k1, k2⟩ := cx.tup
    exact .inr ⟨vs, k1, k2.length⟩
  · rename_i l' el
    cases en
    rw [el] at cx
    obtain ⟨p, vs, rfl, k1, k2⟩ := cx.lst
    exact .inl ⟨vs, .inl k1, k2.length⟩
  · rename_i x el
    rw [el] at cx
    obtain rfl := cx.str
    split at en
    · rename_i hl
      cases en
      exact ⟨by rw [sV_len, ← lineEq]; exact hl, by rw [sV_len]⟩
    · cases en
  · cases en
def bi_len : BiS X Y (.builtin "len") .len where
  r := _
  op := call_len
  sound := fun {w H h l vs z Qv} s r e out => by
    unfold dBi at e
    split at e
    any_goals contradiction
    obtain ⟨v, rfl, rv⟩ := reps1 r
    obtain ⟨n, en, rfl⟩ := Option.map_eq_some_iff.mp e
    exact ⟨v, n, rfl, by rw [hK]; exact len_ok s rv en, out w H (.int n) (Evo.refl _ _) s rfl⟩
def bi_abs : BiS X Y (.builtin "abs") .abs where
  r := _
  op := call_abs
  sound := fun {w H h l vs z Qv} s r e out => by
    unfold dBi at e
    split at e
    any_goals contradiction
    obtain ⟨v, rfl, rv⟩ := reps1 r
    cases e
    exact ⟨_, by rw [show v = .int _ from rv], out w H _ (Evo.refl _ _) s rfl⟩
def bi_min : BiS X Y (.builtin "min") .min where
  r := _
  op := call_min2 hc
  sound := fun {w H h l vs z Qv} s r e out => by
    unfold dBi at e
    split at e
    any_goals contradiction
    obtain ⟨v, u, rfl, rv, ru⟩ := reps2 r
    cases e
    exact ⟨_, _, by rw [show v = .int _ from rv, show u = .int _ from ru], out w H _ (Evo.refl _ _) s rfl⟩
def bi_max : BiS X Y (.builtin "max") .max where
  r := _
  op := call_max2 hc
  sound := fun {w H h l vs z Qv} s r e out => by
    unfold dBi at e
    split at e
    any_goals contradiction
    obtain ⟨v, u, rfl, rv, ru⟩ := reps2 r
    cases e
    exact ⟨_, _, by rw [show v = .int _ from rv, show u = .int _ from ru], out w H _ (Evo.refl _ _) s rfl⟩
theorem b2i_if (k : Bool) : b2i k = (if k then 1 else 0) := by cases k <;> rfl
def bi_int : BiS X Y (.type "int") .int where
  r := _
  op := call_int1
  sound := fun {w H h l vs z Qv} s r e out => by
    unfold dBi at e
    split at e
    any_goals contradiction
    · obtain ⟨v, rfl, rv⟩ := reps1 r
      cases e
      exact .inl ⟨_, by rw [show v = .int _ from rv], out w H _ (Evo.refl _ _) s rfl⟩
    · obtain ⟨v, rfl, rv⟩ := reps1 r
      cases e
      refine .inr ⟨_, by rw [show v = .bl _ from rv], out w H _ (Evo.refl _ _) s ?_⟩
      show V.int _ = V.int _
      rw [b2i_if]
theorem digitsVal_eq (x : List Nat) : NumText.digitsVal x = digitsVal x := rfl
def bi_strInt : BiS X Y (.type "int") .strInt where
  r := _
  op := call_int_str
  sound := fun {w H h l vs z Qv} s r e out => by
    unfold dBi at e
    split at e
    any_goals contradiction
    obtain ⟨v, rfl, rv⟩ := reps1 r
    split at e
    · rename_i hx
      obtain ⟨h1, h2, h3⟩ := hx
      cases e
      refine ⟨_, _, by rw [show v = .str _ from rv], ?_, by rw [sV_len]; exact h2, out w H _ (Evo.refl _ _) s rfl⟩
      have e := intText_digits (x := sV _) (by
        rw [sV_cps]
        intro c hc
        have := List.all_eq_true.mp h3 c hc
        simp only [Bool.and_eq_true, decide_eq_true_eq] at this
        exact this) (by rw [sV_cps]; exact h1) (by rw [sV_len]; omega)
      rw [sV_cps] at e
      exact e
    · cases e
theorem str_num {i : Int} (h : 0 ≤ i) : Str.ofString (toString i) = sV (numN i.toNat) := by
  have e : i = ((i.toNat : Nat) : Int) := by omega
  have t := TL.tl_num i.toNat
  rw [← e] at t
  refine TL.ext_tl ?_
  rw [t]
  exact (sV_cps _).symm
def rStrAll : List V → Hp → VK → Prop := fun xs H Q => (∃ i, xs = [.int i] ∧ i.natAbs.log2 < 1920 ∧ Q (.str (toString i)) H) ∨ (∃ a, xs = [.str a] ∧ Q (.str a) H)
def bi_str : BiS X Y (.type "str") .str where
  r := rStrAll
  op := CallR.or call_str_int SkE.call_str_str
  sound := fun {w H h l vs z Qv} s r e out => by
    unfold dBi at e
    split at e
    any_goals contradiction
    · obtain ⟨v, rfl, rv⟩ := reps1 r
      split at e
      · rename_i hx
        cases e
        refine .inl ⟨_, by rw [show v = .int _ from rv], hx.2, out w H _ (Evo.refl _ _) s ?_⟩
        show V.str (Str.ofString _) = _
        rw [str_num hx.1]
      · cases e
    · obtain ⟨v, rfl, rv⟩ := reps1 r
      cases e
      exact .inr ⟨_, by rw [show v = .str _ from rv], out w H _ (Evo.refl _ _) s rfl⟩
theorem bls_rep {w : Wd} {H : Hp} : ∀ {l : List D} {vs : List V} {ns : List Bool}, Reps Y w H l vs → blsOf l = some ns → vs = ns.map V.bl
  | [], vs, ns, h, e => by cases e; exact h
  | d :: l, vs, ns, h, e => by
    obtain ⟨v, r, rfl, h2, h3⟩ := h
    cases d with
    | bl b =>
      obtain ⟨m, e1, rfl⟩ := Option.map_eq_some_iff.mp e
      rw [show v = .bl b from h2, bls_rep h3 e1]
      rfl
    | _ => cases e
def bi_all : BiS X Y (.builtin "all") .all where
  r := _
  op := cr_all hc
  sound := fun {w H h l vs z Qv} s r e out => by
    unfold dBi at e
    split at e
    any_goals contradiction
    obtain ⟨v, rfl, rv⟩ := reps1 r
    split at e
    · rename_i l' el
      obtain ⟨bs, eb, rfl⟩ := Option.map_eq_some_iff.mp e
      have cx := cont_rep s rv
      rw [el] at cx
      obtain ⟨p, vs, rfl, k1, k2⟩ := cx.lst
      rw [bls_rep k2 eb] at k1
      exact ⟨p, bs, rfl, .inl k1, out w H _ (Evo.refl _ _) s rfl⟩
    · cases e
def bi_any : BiS X Y (.builtin "any") .any where
  r := _
  op := cr_any hc
  sound := fun {w H h l vs z Qv} s r e out => by
    unfold dBi at e
    split at e
    any_goals contradiction
    obtain ⟨v, rfl, rv⟩ := reps1 r
    split at e
    · rename_i l' el
      obtain ⟨bs, eb, rfl⟩ := Option.map_eq_some_iff.mp e
      have cx := cont_rep s rv
      rw [el] at cx
      obtain ⟨p, vs, rfl, k1, k2⟩ := cx.lst
      rw [bls_rep k2 eb] at k1
      exact ⟨p, bs, rfl, .inl k1, out w H _ (Evo.refl _ _) s rfl⟩
    · cases e
def bi_tuple : BiS X Y (.type "tuple") .tuple where
  r := _
  op := call_tuple_of
  sound := fun {w H h l vs z Qv} s r e out => by
    unfold dBi at e
    split at e
    any_goals contradiction
    · obtain ⟨v, rfl, rv⟩ := reps1 r
      cases e
      obtain ⟨p, vs, rfl, k1, k2⟩ := rv
      exact ⟨p, vs, rfl, .inr ⟨by rw [hK]; exact k1.sq, out w H _ (Evo.refl _ _) s ⟨p, vs, rfl, k1, k2⟩⟩⟩
    · obtain ⟨v, rfl, rv⟩ := reps1 r
      cases e
      obtain ⟨p, vs, rfl, k1, k2⟩ := rv
      exact ⟨p, vs, rfl, .inr ⟨SqT.of k1, out w H _ (Evo.refl _ _) s ⟨p, vs, rfl, k1, k2⟩⟩⟩
    · obtain ⟨v, rfl, rv⟩ := reps1 r
      split at e
      · rename_i l' el
        cases e
        have cx := cont_rep s rv
        rw [el] at cx
        obtain ⟨p, vs, rfl, k1, k2⟩ := cx.lst
        exact ⟨p, vs, rfl, .inl ⟨.inl k1, new_tup s k2 out⟩⟩
      · cases e
end
/-! ### isinstance -/
section
variable {X : Cx} {F : Fr} {a e : Expr} {es : List Expr} {ea : E} {pos : Pos}
def clsU (Y : At) : Cl → Value
  | .own c => .ref (Y.ca c)
  | c => .type (clsName c)
theorem clsV_U (Y : At) (c : Cl) : ClsV (clsV Y c) (clsU Y c) := by cases c <;> first | exact .ty _ | exact .own _
/-- what isinstance asks of the program's classes -/
structure KitOk (K : PySem.W.Frag) (Y : At) (P : Cls) (used : Cl → Bool) : Prop where
  ins : ∀ c, P.isC c = true → L2.Cls K (Y.ca c) ∧ PySem.W.findIn K (.ref (Y.ca c)) "__class__" = some (some (.builtin "object.__class__")) ∧
    PySem.W.specialIn K (.builtin "object.__class__") "__get__" = some (some (.builtin "getset_descriptor.__get__")) ∧ PySem.W.takesIn K (.builtin "object.__class__") = some true ∧ PySem.W.mroIn K (Y.ca c) (.type "object") = some true
  own : ∀ c cl, P.isC c = true → used cl = true → PySem.W.kitOne K (.ref (Y.ca c)) (clsU Y cl) = some (isInst (.ins c []) cl)
  bi : ∀ T c, T ∈ ["NoneType", "bool", "int", "str", "list", "tuple", "dict"] → used (.own c) = true → PySem.W.kitOne K (.type T) (.ref (Y.ca c)) = some false
def tyName : D → String
  | .non => "NoneType" | .bl _ => "bool" | .int _ => "int" | .str _ => "str" | .tup _ => "tuple" | .lst _ => "list" | .dK _ | .dT _ => "dict" | _ => ""
def tyU (Y : At) : D → Value
  | .ins c _ => .ref (Y.ca c)
  | d => .type (tyName d)
theorem tyX_ok {Y : At} {K : PySem.W.Frag} {P : Cls} {used : Cl → Bool} (hK : K = Y.K) (ko : KitOk K Y P used) {w : Wd} {H : Hp} {d : D} {v : V} (t : isTy P.isC d = true) (r : CRep Y w H d v) : TyX K H v (tyU Y d) := by
  cases d with
  | non => rcases r with r | ⟨a, rfl, o | ⟨_, z, _⟩⟩ <;> first | cases z | exact o.elim | (cases (show v = .non from r); exact .base .non)
  | bl b => rcases r with r | ⟨a, rfl, o | ⟨_, z, _⟩⟩ <;> first | cases z | exact o.elim | (cases (show v = .bl b from r); exact .base (.bl b))
  | int b => rcases r with r | ⟨a, rfl, o | ⟨_, z, _⟩⟩ <;> first | cases z | exact o.elim | (cases (show v = .int b from r); exact .base (.int b))
  | str b => obtain rfl := r.str; exact .base (.str _)
  | tup l =>
    obtain ⟨p, vs, rfl, k1, k2⟩ := r.tup
    rcases k1 with (k | ⟨o, k⟩) | ⟨o, its, n, k, kc, _⟩
    · exact .base (.tup k)
    · exact .fTuple k
    · exact .kTuple (by rw [hK]; exact k) kc
  | lst l =>
    obtain ⟨p, vs, rfl, k1 | ⟨o, k1⟩, k2⟩ := r.lst
    · exact .base (.lst k1)
    · exact .base (.frz k1)
  | dK l =>
    obtain ⟨p, vs, rfl, k1 | ⟨o, k1⟩, k2⟩ := r.dK
    · exact .base (.dK k1)
    · exact .fDict k1
  | ins c fs =>
    obtain ⟨p, dx, fv, rfl, k1, k2⟩ := r.ins
    obtain ⟨h1, h2, h3, h4, h5⟩ := ko.ins c t
    exact .base (.ins k1 h1 h2 h3 h4 h5)
  | _ => cases t
theorem kitB_all : ∀ T ∈ ["NoneType", "bool", "int", "str", "list", "tuple", "dict"], ∀ c ∈ ["int", "bool", "str", "tuple", "list", "dict"], L2.kitB T c = some (T == c || (T == "bool" && c == "int")) := by decide +kernel
theorem kit_ok {Y : At} {K : PySem.W.Frag} {P : Cls} {used : Cl → Bool} (ko : KitOk K Y P used) {d : D} {c : Cl} (t : isTy P.isC d = true) (u : used c = true) (hv : c ≠ .valueError) : PySem.W.kitOne K (tyU Y d) (clsU Y c) = some (isInst d c) := by
  have bi : ∀ T, T ∈ ["NoneType", "bool", "int", "str", "list", "tuple", "dict"] → (∀ cl, c = cl → (∀ n, cl ≠ .own n) → isInst d c = (T == clsName c || (T == "bool" && clsName c == "int"))) → (∀ n, c = .own n → isInst d c = false) → PySem.W.kitOne K (.type T) (clsU Y c) = some (isInst d c) := by
    intro T hT h1 h2
    cases c with
    | own n => rw [h2 n rfl]; exact ko.bi T n hT u
    | valueError => exact absurd rfl hv
    | int => rw [h1 _ rfl (fun _ z => nomatch z)]; exact kit_ty (kitB_all T hT "int" (by decide))
    | bool => rw [h1 _ rfl (fun _ z => nomatch z)]; exact kit_ty (kitB_all T hT "bool" (by decide))
    | str => rw [h1 _ rfl (fun _ z => nomatch z)]; exact kit_ty (kitB_all T hT "str" (by decide))
    | tuple => rw [h1 _ rfl (fun _ z => nomatch z)]; exact kit_ty (kitB_all T hT "tuple" (by decide))
    | list => rw [h1 _ rfl (fun _ z => nomatch z)]; exact kit_ty (kitB_all T hT "list" (by decide))
    | dict => rw [h1 _ rfl (fun _ z => nomatch z)]; exact kit_ty (kitB_all T hT "dict" (by decide))
  cases d with
  | ins n fs =>
    have := ko.own n c t u
    rw [show tyU Y (.ins n fs) = .ref (Y.ca n) from rfl, this]
    cases c <;> rfl
  | non => exact bi "NoneType" (by decide) (fun cl e n => by subst e; cases c <;> first | rfl | exact absurd rfl (n _) | exact absurd rfl hv) (fun n e => by subst e; rfl)
  | bl b => exact bi "bool" (by decide) (fun cl e n => by subst e; cases c <;> first | rfl | exact absurd rfl (n _) | exact absurd rfl hv) (fun n e => by subst e; rfl)
  | int b => exact bi "int" (by decide) (fun cl e n => by subst e; cases c <;> first | rfl | exact absurd rfl (n _) | exact absurd rfl hv) (fun n e => by subst e; rfl)
  | str b => exact bi "str" (by decide) (fun cl e n => by subst e; cases c <;> first | rfl | exact absurd rfl (n _) | exact absurd rfl hv) (fun n e => by subst e; rfl)
  | tup b => exact bi "tuple" (by decide) (fun cl e n => by subst e; cases c <;> first | rfl | exact absurd rfl (n _) | exact absurd rfl hv) (fun n e => by subst e; rfl)
  | lst b => exact bi "list" (by decide) (fun cl e n => by subst e; cases c <;> first | rfl | exact absurd rfl (n _) | exact absurd rfl hv) (fun n e => by subst e; rfl)
  | dK b => exact bi "dict" (by decide) (fun cl e n => by subst e; cases c <;> first | rfl | exact absurd rfl (n _) | exact absurd rfl hv) (fun n e => by subst e; rfl)
  | _ => cases t
/-- isinstance(x, C) -/
theorem ok_isin1 {used : Cl → Bool} {c : Cl} {ce : Expr} {p : Pos} (hK : X.K = F.Y.K) (ko : KitOk X.K F.Y F.P used) (u : used c = true) (hv : c ≠ .valueError) (hg : Gl X "isinstance") (hm : X.mg "isinstance" = none) (ha : PE X a (tE F ea)) (hc : PE X ce (tC (clsV F.Y c)))
    (he : starEach (a :: [ce]) X.env = (false, eval a X.env) :: starEach [ce] X.env) (he2 : starEach (ce :: []) X.env = (false, eval ce X.env) :: starEach [] X.env) (hpl : (backTo pos (starEach [ce] X.env)).any (·.1) = false)
    : PE X (.Call (.Name "isinstance" p) (a :: [ce]) [] pos) (tE F (.isin ea [c])) :=
  (pe_callB call_isi hg hm (by decide +kernel) (pa_cons ha (pa_cons hc pa_nil he2) he) (by decide) (by decide) he hpl).imp fun σ H Q ⟨w, env, h, Qd, Xd, hs, es, hd, o, ox⟩ => by
    refine ⟨w, env, h, _, Xd, hs, es, hd, fun w1 H1 v1 d1 h1 e1 s1 r1 q1 => ?_, ox⟩
    obtain ⟨t, q⟩ := q1
    refine ⟨v1, clsV F.Y c, tyU F.Y (cont h1 d1), clsU F.Y c, _, rfl, clsV_U F.Y c, tyX_ok hK ko t (cont_rep s1 r1), kit_ok ko t u hv, ?_⟩
    · have := o w1 H1 (.bl (isInst (cont h1 d1) c)) (.bl (isInst (cont h1 d1) c)) h1 e1 s1 rfl
      simp only [List.any_cons, List.any_nil, Bool.or_false] at q
      exact this q
/-- class displays -/
def tCls (Y : At) : List Cl → TA
  | [] => tNil
  | c :: r => tCons (tC (clsV Y c)) (tCls Y r)
theorem tCls_run {Y : At} {σ : L2.St} {H : Hp} : ∀ {cs : List Cl} {Q : List V → Hp → Prop}, Q (cs.map (clsV Y)) H → tCls Y cs σ H Q
  | [], Q, q => q
  | c :: r, Q, q => tCls_run (cs := r) (Q := fun xs H2 => Q (clsV Y c :: xs) H2) q
theorem kitAny_ok {Y : At} {K : PySem.W.Frag} {P : Cls} {used : Cl → Bool} (ko : KitOk K Y P used) {d : D} (t : isTy P.isC d = true) : ∀ {cs : List Cl}, (∀ c ∈ cs, used c = true ∧ c ≠ .valueError) → PySem.W.kitAny K (tyU Y d) (cs.map (clsU Y)) = some (cs.any fun c => isInst d c)
  | [], _ => kitAny_nil
  | c :: r, h => by
    obtain ⟨u, hv⟩ := h c List.mem_cons_self
    refine kitAny_cons (kit_ok ko t u hv) (fun e => ?_) (fun e => ?_)
    · rw [kitAny_ok ko t fun c hc => h c (List.mem_cons_of_mem _ hc)]
      simp [e]
    · simp [e]
theorem clsVs_U (Y : At) : ∀ cs : List Cl, Paired ClsV (cs.map (clsV Y)) (cs.map (clsU Y))
  | [] => .nil
  | c :: r => .cons (clsV_U Y c) (clsVs_U Y r)
/-- isinstance(x, (C1, C2, ..)) -/
theorem ok_isinT {used : Cl → Bool} {cs : List Cl} {ces : List Expr} {p tp : Pos} {k : Nat} (hK : X.K = F.Y.K) (ko : KitOk X.K F.Y F.P used) (u : ∀ c ∈ cs, used c = true ∧ c ≠ .valueError) (hl : cs.length ≤ 100) (hg : Gl X "isinstance") (hm : X.mg "isinstance" = none) (ha : PE X a (tE F ea)) (hc : PA X ces (tCls F.Y cs))
    (he : starEach (a :: [.Tuple ces k tp]) X.env = (false, eval a X.env) :: starEach [.Tuple ces k tp] X.env) (he2 : starEach (.Tuple ces k tp :: []) X.env = (false, eval (.Tuple ces k tp) X.env) :: starEach [] X.env) (hpl : (backTo pos (starEach [.Tuple ces k tp] X.env)).any (·.1) = false)
    : PE X (.Call (.Name "isinstance" p) (a :: [.Tuple ces k tp]) [] pos) (tE F (.isin ea cs)) :=
  (pe_callB call_isiT hg hm (by decide +kernel) (pa_cons ha (pa_cons (pe_tup hc) pa_nil he2) he) (by decide) (by decide) he hpl).imp fun σ H Q ⟨w, env, h, Qd, Xd, hs, es, hd, o, ox⟩ => by
    refine ⟨w, env, h, _, Xd, hs, es, hd, fun w1 H1 v1 d1 h1 e1 s1 r1 q1 => ?_, ox⟩
    obtain ⟨t, q⟩ := q1
    refine tCls_run ⟨by rw [List.length_map, sizeLine_eq]; omega, fun q' hq => ?_⟩
    have e2 : Evo w1 H1 w1 (upd H1 q' (.tup (cs.map (clsV F.Y)))) := Evo.new hq
    have s2 := s1.new (o := .tup (cs.map (clsV F.Y))) hq
    refine ⟨v1, q', cs.map (clsV F.Y), tyU F.Y (cont h1 d1), cs.map (clsU F.Y), _, rfl, upd_same, clsVs_U F.Y cs, tyX_ok hK ko t (cont_rep s2 (r1.mono e2)), kitAny_ok ko t u, ?_⟩
    exact o w1 _ (.bl _) (.bl _) h1 (e1.trans e2) s2 rfl q
end
end Pv
end

section
set_option maxRecDepth 100000
set_option maxHeartbeats 4000000
namespace Pv
open PySem PySem.Spec PyProof.Rows L2
section
variable {X : Cx} {F : Fr} {a b c e : Expr} {es : List Expr} {ea eb ec ee : E} {ees : Es} {pos : Pos}
theorem ok_chain {op op' : CmpOp} {o o' : Op} (S : OpS X F.Y (compareOp op) o) (S' : OpS X F.Y (compareOp op') o') (ha : PE X a (tE F ea)) (hb : PE X b (tE F eb)) (hc : PE X c (tE F ec)) (hm : lastMarks [op, op'] [b, c] = false) :
    PE X (.Compare a [op, op'] [b, c] pos) (tE F (.chain o o' ea eb ec)) :=
  (pe_chain S.op S'.op ha hb hc hm).imp fun _ _ _ t => tE_chain S.sound S'.sound t
theorem ok_tchain {op op' : CmpOp} {o o' : Op} (S : OpS X F.Y (compareOp op) o) (S' : OpS X F.Y (compareOp op') o') (ha : PE X a (tE F ea)) (hb : PE X b (tE F eb)) (hc : PE X c (tE F ec)) (hm : lastMarks [op, op'] [b, c] = false) :
    PT X (.Compare a [op, op'] [b, c] pos) (tT F (.chain o o' ea eb ec)) :=
  (pt_chain S.op S'.op ha hb hc hm).imp fun _ _ _ t => tE_chain S.sound S'.sound (tT_E t)
/-! ### a new instance -/
/-- the class c is made by its def i -/
structure MkOk (X : Cx) (Y : At) (C : Calls) (c i : Nat) : Prop where
  m : Mk X.K (Y.ca c) (Y.fa i)
  ok : ∃ k fd ps, FnOk X.prog X.w X.K X.mg X.base (L2.CX X.prog X.w) k (Y.fa i) fd ps (spC Y C i) ∧ Room (k + 1) X.A ∧ Binds X.K fd ps []
theorem pin_made {Y : At} {w : Wd} {H : Hp} {h : Hm} {c : Nat} {x dx : Addr} (s : HSim Y w H h) (hx : H x = none) (hd : H dx = none) (ne : dx ≠ x) :
    HSim Y (w.pin x) (upd (upd H dx (.own x)) x (.ins (Y.ca c) dx [])) (h ++ [.ins c []]) ∧ Evo w H (w.pin x) (upd (upd H dx (.own x)) x (.ins (Y.ca c) dx [])) := by
  have s1 := s.new (o := .own x) hd
  have e1 : Evo w H w (upd H dx (.own x)) := Evo.new hd
  have hx1 : upd H dx (.own x) x = none := (upd_ne (Ne.symm ne)).trans hx
  exact ⟨s1.pin hx1 ⟨dx, [], upd_same, rfl⟩, e1.trans (Evo.pin hx1)⟩
theorem new_go {c i : Nat} {pins : List (Addr × Obj)} {σ : L2.St} {H : Hp} {s : Shared} {w : Wd} {env : Env} {h : Hm} {l : List D} {vs : List V} {us : List Value} {Qd : QD} {Xd : QX} {Q : VK} (f : FrOk X F) (d : MkOk X F.Y F.C c i) (tk : Takes X F.W) (I : Inv X pins σ H s) (r : Vals vs us)
    (hs : HSim F.Y w H h) (ev : EnvSim F.Y w H F.bad F.ce F.lk env σ) (rs : Reps F.Y w H l vs) (hc : F.C i (.ref h.length :: l) (h ++ [.ins c []]) (fun d h2 => d = .non ∧ Qd (.ref h.length) h2) Xd)
    (o : OutE F.Y w H Qd Q) (ox : OutX F.Y w H Xd fun c d H' => F.W c d σ H') : wpAny (model X.prog X.w) X.A (call (.ref (F.Y.ca c)) us) (EP X pins σ Q) X.xe s := by
  obtain ⟨k, fd, ps, Fn, hr, hb⟩ := d.ok
  have I2 := Inv.made (C := F.Y.ca c) I
  have hx : H (s.heap.objs.size + 1) = none := I.hok.fresh (Nat.le_succ _)
  have hdx : H s.heap.objs.size = none := I.hok.fresh (Nat.le_refl _)
  obtain ⟨hs2, e2⟩ := pin_made (c := c) hs hx hdx (Nat.ne_of_lt (Nat.lt_succ_self _))
  have ev2 := ev.mono e2
  have u := f.upC I2 ev2
  have rx : Rep F.Y (w.pin (s.heap.objs.size + 1)) (upd (upd H s.heap.objs.size (.own (s.heap.objs.size + 1))) (s.heap.objs.size + 1) (.ins (F.Y.ca c) s.heap.objs.size [])) (.ref h.length) (.ref (s.heap.objs.size + 1)) :=
    ⟨s.heap.objs.size + 1, by show (w.ph ++ [s.heap.objs.size + 1])[h.length]? = _; rw [← hs.len]; simp, rfl⟩
  have hsp : spC F.Y F.C i (.ref (s.heap.objs.size + 1) :: vs) (Pv.upC (cells (w.pin (s.heap.objs.size + 1))) _ _) (fun v H' => v = .non ∧ Q (.ref (s.heap.objs.size + 1)) (dn (cells (w.pin (s.heap.objs.size + 1))) H')) (fun c d H' => F.W c d σ (dn (cells (w.pin (s.heap.objs.size + 1))) H')) :=
    ⟨(w.pin (s.heap.objs.size + 1)).bare, h ++ [.ins c []], .ref h.length :: l, fun d h2 => d = .non ∧ Qd (.ref h.length) h2, Xd, rfl, f.hsim_up I2 ev2 hs2, ⟨_, vs, rfl, rx.mv (f.mv_up I2 ev2), (rs.mono e2).mv (f.mv_up I2 ev2)⟩, hc, fun w' H' v d h' e t r q => by
      obtain ⟨e', t', m⟩ := f.back I2 ev2 hs2 e t
      obtain ⟨q1, q2⟩ := q
      subst q1
      exact ⟨r, o _ _ _ (.ref h.length) h' (e2.trans e') t' ((rx.mono e')) q2⟩, fun w' H' x c dd h' e t r q => by
      obtain ⟨e', t', m⟩ := f.back I2 ev2 hs2 e t
      exact ox _ _ x c dd h' (e2.trans e') t' (repX_mv m r) q⟩
  have r2 : Vals (V.ref (s.heap.objs.size + 1) :: vs) (Value.ref (s.heap.objs.size + 1) :: us) := .cons rfl r
  have hl : (Value.ref (s.heap.objs.size + 1) :: us).length = ps.length := r2.length.symm.trans (Fn.len _ _ _ _ hsp)
  have hbb := hb _ (Value.ref (s.heap.objs.size + 1) :: us) I2.kIn (by rw [List.append_nil]; exact hl)
  rw [List.append_nil] at hbb
  refine wpAny_call (make_map (f := F.Y.fa i) I.kIn d.m.makes d.m.init (beq_iff_eq.mp d.m.fn) (codeAny_mono (Fn.run _ X.stack _ _ _ _ _ _ _ (hr.make _ us []) ((f.env0 I2 ev2).make _ us []) hbb r2 hsp) fun r s' hq' => ?_))
  have hq' := cr_dn (Q := fun v H' => v = .non ∧ Q (.ref (s.heap.objs.size + 1)) H') (E := fun c d H' => F.W c d σ H') u (fun b hb hb' => by
    obtain ⟨⟨c, v⟩, m, rfl⟩ := List.mem_map.mp hb'
    exact (f.up I2 ev2 c v m).2.2.1 hb) hq'
  cases r with
  | error e => exact passAt tk σ pins _ _ e s' I2 hq'
  | ok fl =>
    cases fl with
    | ret u =>
      obtain ⟨v, H', I3, rv, eq, q3⟩ := I2.after hq'
      subst eq
      exact ⟨rv, V.ref (s.heap.objs.size + 1), H', I3, rfl, q3⟩
    | next => exact False.elim hq'
    | brk => exact False.elim hq'
    | cont => exact False.elim hq'
theorem ok_new {c i : Nat} {x : Str} {p : Pos} (fk : FrOk X F) (d : MkOk X F.Y F.C c i) (tk : Takes X F.W) (hg : Gl X x) (hm : X.mg x = some (.ref (F.Y.ca c))) (ha : PA X (e :: es) (tEs F ees)) (hdb : (x == ("__debug__" : Str)) = false)
    (he : starEach (e :: es) X.env = (false, eval e X.env) :: starEach es X.env) (hpl : (backTo pos (starEach es X.env)).any (·.1) = false) : PE X (.Call (.Name x p) (e :: es) [] pos) (tE F (.new c i ees)) := by
  refine ⟨fun pins s σ H Q I hh => ?_⟩
  obtain ⟨w, env, h, Qd, Xd, hs, ev, hd, o, ox⟩ := hh
  refine wpAny_Call_Name_kw (ld_glob I hg hm ?_ hdb)
  refine PySem.W.callWith_K (h₀ := X.base) I.ok.mod.kin d.m.kp (thn (ha.run pos pins s σ H (fun vs H1 => ∃ w1 h1 l, Evo w H w1 H1 ∧ HSim F.Y w1 H1 h1 ∧ Reps F.Y w1 H1 l vs ∧ F.C i (.ref h1.length :: l) (h1 ++ [.ins c []]) (fun d h2 => d = .non ∧ Qd (.ref h1.length) h2) Xd) I
    ⟨w, env, h, _, Xd, hs, ev, hd, fun w1 H1 vs l h1 e1 s1 r1 q1 => ⟨w1, h1, l, e1, s1, r1, q1⟩, ox⟩) fun us s1 ⟨vs, H1, I1, r, w1, h1, l, e1, t1, r1, q1⟩ => ⟨I1.kIn, ?_⟩) he hpl
  exact new_go fk d tk I1 r t1 (ev.mono e1) r1 q1 (o.evo e1) (ox.evo e1)
theorem ok_new0 {c i : Nat} {x : Str} {p : Pos} (fk : FrOk X F) (d : MkOk X F.Y F.C c i) (tk : Takes X F.W) (hg : Gl X x) (hm : X.mg x = some (.ref (F.Y.ca c))) (hdb : (x == ("__debug__" : Str)) = false) : PE X (.Call (.Name x p) [] [] pos) (tE F (.new c i .nil)) := by
  refine ⟨fun pins s σ H Q I hh => ?_⟩
  obtain ⟨w, env, h, Qd, Xd, hs, ev, hd, o, ox⟩ := hh
  refine wpAny_Call_Name_kw (ld_glob I hg hm ?_ hdb)
  exact PySem.W.callWith_K0 I.kIn d.m.kp (new_go fk d tk I .nil hs ev (show Reps F.Y w H [] [] from rfl) hd o ox)
end
/-! ### * -/
theorem rep_flat {α : Type} : ∀ (n : Nat) (l : List α), (List.replicate n l).flatten = rep n l
  | 0, l => rfl
  | n + 1, l => by rw [List.replicate_succ, List.flatten_cons, rep_flat n l]; rfl
theorem fold_rep (x : List Nat) : ∀ (n : Nat) (b : Array Nat), ((List.replicate n x.toArray).foldl (fun p q => p ++ q) b).toList = b.toList ++ rep n x
  | 0, b => by simp [rep]
  | n + 1, b => by
    rw [List.replicate_succ, List.foldl_cons, fold_rep x n, Array.toList_append, List.append_assoc]
    rfl
theorem rep_one (x : List Nat) : rep 1 x = x := by simp [rep]
theorem rep_nil : ∀ n : Nat, rep n ([] : List Nat) = []
  | 0 => rfl
  | n + 1 => by show [] ++ rep n [] = []; rw [rep_nil n]; rfl
theorem mul_sV (x : List Nat) (j : Int) : Txt.mul (sV x) j = sV (rep j.toNat x) := by
  refine TL.ext_tl ?_
  unfold Txt.mul
  split
  · rename_i h
    rw [show j.toNat = 0 by omega]
    rfl
  · split
    · rename_i h1 h2
      show (sV x).cps.toList = (sV (rep j.toNat x)).cps.toList
      rw [sV_cps, sV_cps]
      simp only [Bool.or_eq_true, beq_iff_eq] at h2
      rcases h2 with h2 | h2
      · rw [h2]; exact (rep_one x).symm
      · rw [sV_len] at h2
        rw [List.eq_nil_of_length_eq_zero h2, rep_nil]
    · show (List.foldl (fun p q => p ++ q) #[] (List.replicate j.toNat x.toArray)).toList = (sV (rep j.toNat x)).cps.toList
      rw [fold_rep, sV_cps]
      rfl
def rMulS : R2 := fun x y H Q => ∃ z k, x = .str z ∧ y = .int k ∧ MulOk z k ∧ Q (.str (Txt.mul z k)) H
theorem op_mulS {X : Cx} : OpR X (binaryOp .Mult) rMulS := by
  intro pins s σ H x y v u Q I rx ry hh
  obtain ⟨z, k, rfl, rfl, hok, q⟩ := hh
  obtain ⟨t1, rfl⟩ := rx
  obtain ⟨t2, rfl⟩ := ry
  exact PySem.SB.mul hok fun t' k' => ⟨.str (Txt.mul z k), H, I.tok k', ⟨t', rfl⟩, q⟩
theorem mulOk_of {x : List Nat} {j : Int} (h : x.length * j.toNat ≤ 1000000) (h2 : j.natAbs ≤ 1000000) : MulOk (sV x) j := by
  have hx : 1 ≤ j → (x.length : Int) ≤ 1000000 := fun hj => by
    have : x.length * 1 ≤ x.length * j.toNat := Nat.mul_le_mul_left _ (by omega)
    omega
  refine ⟨?_, fun h3 h4 => ?_, fun h3 h4 => ?_⟩
  · rw [decide_eq_false (by omega), decide_eq_false (by omega)]; rfl
  · rw [sV_len]
    have h5 := hx (by omega)
    have : (2 ^ 63 - 1 : Int) / j ≥ (2 ^ 63 - 1 : Int) / 1000000 := by
      have e : j ≤ 1000000 := by omega
      have hj : 0 < j := by omega
      refine (Int.le_ediv_iff_mul_le hj).mpr ?_
      have : (2 ^ 63 - 1 : Int) / 1000000 * j ≤ (2 ^ 63 - 1 : Int) / 1000000 * 1000000 := Int.mul_le_mul_of_nonneg_left e (by decide)
      omega
    have e2 : (2 ^ 63 - 1 : Int) / 1000000 = 9223372036854 := by decide
    omega
  · rw [sV_len]
    refine decide_eq_false ?_
    have : sizeLine = 16777216 := sizeLine_eq
    omega
section
variable {X : Cx} {Y : At} (hK : X.K = Y.K)
def rMulAll (K : PySem.W.Frag) : R2 := fun x y H Q => rI CMul (fun i j => .int (i * j)) x y H Q ∨ rMulS x y H Q ∨ rRepT K x y H Q
theorem reps_rep {Y : At} {w : Wd} {H : Hp} {l : List D} {vs : List V} (r : Reps Y w H l vs) : ∀ n : Nat, Reps Y w H (rep n l) (rep n vs)
  | 0 => rfl
  | n + 1 => r.append (reps_rep r n)
def ops_mul : OpS X Y (binaryOp .Mult) .mul where
  r := rMulAll X.K
  op := OpR.or op_mul (OpR.or op_mulS op_repT)
  sound := fun {w H h x y vx vy z Qv} s rx ry e out => by
    unfold dOp at e
    split at e
    any_goals contradiction
    · split at e
      · cases e
        rename_i hl
        exact .inl ⟨_, _, rx, ry, hl, out w H _ (Evo.refl _ _) s rfl⟩
      · cases e
    · split at e
      · cases e
        rename_i hl
        exact .inr (.inl ⟨_, _, by rw [show vx = .str _ from rx], by rw [show vy = .int _ from ry], mulOk_of hl.1 hl.2, by rw [mul_sV]; exact out w H _ (Evo.refl _ _) s rfl⟩)
      · cases e
    · split at e
      · cases e
        rename_i hl
        obtain ⟨h1, h2, h3, h4⟩ := hl
        obtain ⟨p, vs, rfl, k1, k2⟩ := rx
        refine .inr (.inr ⟨p, _, vs, rfl, by rw [show vy = .int _ from ry], SqT.of k1, fun z => h2 ?_, h3, h4, by rw [← k2.length]; exact h1, ?_⟩)
        · have := k2.length
          rw [z] at this
          exact List.eq_nil_of_length_eq_zero this
        · rw [rep_flat]
          refine new_tup s ?_ out
          exact reps_rep k2 _
      · cases e
end
end Pv
end

section
set_option maxRecDepth 100000
set_option maxHeartbeats 4000000
namespace Pv
open PySem PySem.Spec PyProof.Rows L2
/-! ### methods of built-in types -/
def BmPost (h : Hm) (m : Bm) (x : D) (l : List D) (Qd : QD) : Prop := (∃ z, dBm h m x l = some z ∧ Qd z h) ∨ ∃ n o z o', x = .ref n ∧ h[n]? = some o ∧ dBmM h m n o l = some (z, o') ∧ Qd z (h.set n o')
structure BmS (X : Cx) (Y : At) (T : String) (id : String) (m : Bm) where
  r : V → List V → Hp → VK → Prop
  op : MtR X id r
  ty : ∀ {w H h x v}, HSim Y w H h → Rep Y w H x v → bmTy m (cont h x) = true → tyV X.K T v H
  sound : ∀ {w H h x vx l vs} {Qv : VK} {Qd : QD}, HSim Y w H h → Rep Y w H x vx → Reps Y w H l vs → BmPost h m x l Qd → OutE Y w H Qd Qv → r vx vs H Qv
section
variable {X : Cx} {F : Fr} {a e : Expr} {es : List Expr} {ea : E} {ees : Es} {cpos apos : Pos} {T id : String} {m : Bm} {name : Str}
theorem ok_bm (S : BmS X F.Y T id m) (pa : PlainAttrs T) (slot : Slot T name id) (hty : typeOf (.builtin id) = pure (.type "method_descriptor")) (ho : PE X a (tE F ea)) (ha : PA X (e :: es) (tEs F ees))
    (hbase : attributeBase a name X.env (eval a X.env) = eval a X.env)
    (hfew : ((backTo cpos (starEach (e :: es) X.env)).all (fun x => !x.1) && (backToKw cpos (keywordEach [] X.env)).all (fun x => x.1.isSome)
      && decide ((e :: es).length + ([] : List Keyword).length + (if ([] : List Keyword).isEmpty then 0 else 1) < 30)) = true)
    (hline : (apos.endLine == cpos.line) = true) (hs : starEach (e :: es) X.env = (false, eval e X.env) :: starEach es X.env) (hplain : (backTo cpos (starEach es X.env)).any (·.1) = false) :
    PE X (.Call (.Attribute a name apos) (e :: es) [] cpos) (tE F (.bm m ea ees)) :=
  (pe_bm pa slot hty S.op ho ha hbase hfew hline hs hplain).imp fun σ H Q ⟨w, env, h, Qd, Xd, hs, es, hd, o, ox⟩ =>
    ⟨w, env, h, _, Xd, hs, es, hd, fun w1 H1 v1 d1 h1 e1 s1 r1 q1 => by
      obtain ⟨t, q⟩ := q1
      refine ⟨S.ty s1 r1 t, w1, env, h1, _, Xd, s1, es.mono e1, q, fun w2 H2 vs l h2 e2 s2 r2 q2 => ?_, ox.evo e1⟩
      exact S.sound s2 (r1.mono e2) r2 q2 (o.evo (e1.trans e2)), ox⟩
theorem ok_bm0 (S : BmS X F.Y T id m) (pa : PlainAttrs T) (slot : Slot T name id) (hty : typeOf (.builtin id) = pure (.type "method_descriptor")) (ho : PE X a (tE F ea))
    (hbase : attributeBase a name X.env (eval a X.env) = eval a X.env) (hline : (apos.endLine == cpos.line) = true) :
    PE X (.Call (.Attribute a name apos) [] [] cpos) (tE F (.bm m ea .nil)) :=
  (pe_bm0 pa slot hty S.op ho hbase hline).imp fun σ H Q ⟨w, env, h, Qd, Xd, hs, es, hd, o, ox⟩ =>
    ⟨w, env, h, _, Xd, hs, es, hd, fun w1 H1 v1 d1 h1 e1 s1 r1 q1 => by
      obtain ⟨t, q⟩ := q1
      exact ⟨S.ty s1 r1 t, S.sound s1 r1 (show Reps F.Y w1 H1 [] [] from rfl) q (o.evo e1)⟩, ox⟩
end
section
variable {X : Cx} {Y : At} {w : Wd} {H : Hp} {h : Hm}
theorem ty_lst {x : D} {v : V} {l : List D} (s : HSim Y w H h) (r : Rep Y w H x v) (e : cont h x = .lst l) : tyV X.K "list" v H := by
  have c := cont_rep s r
  rw [e] at c
  obtain ⟨p, vs, rfl, k1, k2⟩ := c.lst
  exact .inl ⟨rfl, vs, .inl k1⟩
theorem ty_str {x : D} {v : V} {l : List Nat} (s : HSim Y w H h) (r : Rep Y w H x v) (e : cont h x = .str l) : tyV X.K "str" v H := by
  have c := cont_rep s r
  rw [e] at c
  obtain rfl := c.str
  rfl
theorem rep1 {d : D} {v : V} (r : Rep Y w H d v) : Reps Y w H [d] [v] := ⟨v, [], rfl, r, rfl⟩
/-- a changing list changes -/
theorem set_lst {n : Nat} {l : List D} (s : HSim Y w H h) (e : h[n]? = some (.lst l)) {v : V} (r : Rep Y w H (.ref n) v) : ∃ a vs, v = .ref a ∧ H a = some (.lst vs) ∧ Reps Y w H l vs ∧
    ∀ (l' : List D) (vs' : List V), Reps Y w H l' vs' → Evo w H w (upd H a (.lst vs')) ∧ HSim Y w (upd H a (.lst vs')) (h.set n (.lst l')) := by
  obtain ⟨a, e1, rfl⟩ := r
  obtain ⟨c, e2, os⟩ := s.get' e1
  rw [e] at e2
  cases e2
  obtain ⟨vs, k1, k2⟩ := os
  have m : a ∈ w.ph := List.mem_of_getElem? e1
  refine ⟨a, vs, rfl, k1, k2, fun l' vs' r' => ⟨s.evo_set m _, s.set e1 ⟨vs', upd_same, r'.mono (s.evo_set m _)⟩⟩⟩
theorem noM {m : Bm} {x : D} {l : List D} {Qd : QD} (p : BmPost h m x l Qd) (hm : ∀ n o, dBmM h m n o l = none) : ∃ z, dBm h m x l = some z ∧ Qd z h :=
  p.elim id fun ⟨n, o, z, o', _, _, e, _⟩ => by rw [hm] at e; cases e
theorem noP {m : Bm} {x : D} {l : List D} {Qd : QD} (p : BmPost h m x l Qd) (hm : dBm h m x l = none) : ∃ n o z o', x = .ref n ∧ h[n]? = some o ∧ dBmM h m n o l = some (z, o') ∧ Qd z (h.set n o') :=
  p.elim (fun ⟨z, e, _⟩ => by rw [hm] at e; cases e) id
end
section
variable {X : Cx} {Y : At} (hK : X.K = Y.K)
def bm_append : BmS X Y "list" "list.append" .append where
  r := rAppend
  op := mt_append
  ty := fun {w H h x v} s r t => by
    unfold bmTy at t
    split at t
    all_goals first | contradiction | exact ty_lst s r (by assumption)
  sound := fun {w H h x vx l vs Qv Qd} s rx rl p o => by
    obtain ⟨n, ob, z, o', rfl, e1, e2, q⟩ := noP p (by cases x <;> rfl)
    unfold dBmM at e2
    split at e2
    all_goals first | contradiction | skip
    split at e2
    · rename_i hl
      cases e2
      obtain ⟨a, xs, rfl, k1, k2, k3⟩ := set_lst s e1 rx
      obtain ⟨u, rfl, ru⟩ := reps1 rl
      obtain ⟨g1, g2⟩ := k3 _ (xs ++ [u]) (k2.append (rep1 ru))
      exact ⟨a, xs, u, rfl, rfl, k1, by rw [← k2.length, ← lineEq]; exact hl, o _ _ _ .non _ g1 g2 rfl q⟩
    · cases e2
def bm_extend : BmS X Y "list" "list.extend" .extend where
  r := rExtend
  op := mt_extend
  ty := fun {w H h x v} s r t => by
    unfold bmTy at t
    split at t
    all_goals first | contradiction | exact ty_lst s r (by assumption)
  sound := fun {w H h x vx l vs Qv Qd} s rx rl p o => by
    obtain ⟨n, ob, z, o', rfl, e1, e2, q⟩ := noP p (by cases x <;> rfl)
    unfold dBmM at e2
    split at e2
    all_goals first | contradiction | skip
    split at e2
    · rename_i m em
      split at e2
      · rename_i hl
        cases e2
        obtain ⟨a, xs, rfl, k1, k2, k3⟩ := set_lst s e1 rx
        obtain ⟨u, rfl, ru⟩ := reps1 rl
        have cx := cont_rep s ru
        rw [em] at cx
        obtain ⟨b, zs, rfl, j1, j2⟩ := cx.lst'
        obtain ⟨g1, g2⟩ := k3 _ (xs ++ zs) (k2.append j2)
        exact ⟨a, b, xs, zs, rfl, rfl, k1, j1, by rw [← k2.length, ← j2.length, ← lineEq]; exact hl, o _ _ _ .non _ g1 g2 rfl q⟩
      · cases e2
    · cases e2
def rPopAll : V → List V → Hp → VK → Prop := fun x vs H Q => rPop x vs H Q ∨ rPopAt x vs H Q
theorem Reps.eraseIdx {w : Wd} {H : Hp} : ∀ {l : List D} {vs : List V} (n : Nat), Reps Y w H l vs → Reps Y w H (l.eraseIdx n) (vs.eraseIdx n)
  | [], vs, n, h => by cases (show vs = [] from h); cases n <;> rfl
  | d :: l, vs, 0, h => by obtain ⟨v, r, rfl, h2, h3⟩ := h; exact h3
  | d :: l, vs, n + 1, h => by
    obtain ⟨v, r, rfl, h2, h3⟩ := h
    exact ⟨v, _, rfl, h2, Reps.eraseIdx n h3⟩
theorem eraseLast {α : Type} (l : List α) : l.dropLast = l.eraseIdx (l.length - 1) := by rw [List.eraseIdx_length_sub_one]
theorem seqIx {i : Int} {k n : Nat} (e : ixOf k i = some n) : seqIndex? i k = some n := by
  unfold ixOf at e
  unfold seqIndex?
  by_cases h : 0 ≤ i
  · rw [if_pos h] at e
    have h1 : ¬ i < 0 := by omega
    simp only [if_neg h1]
    split at e
    · cases e
      rename_i h2
      simp [h, h2]
    · cases e
  · rw [if_neg h] at e
    have h1 : i < 0 := by omega
    simp only [if_pos h1]
    split at e
    · cases e
      rename_i h2
      have a : 0 ≤ i + (k : Int) := by omega
      have b : i + (k : Int) < k := by omega
      simp [a, b]
    · cases e
def bm_pop : BmS X Y "list" "list.pop" .pop where
  r := rPopAll
  op := fun pins s σ H x xs v us Q I rx rv h => h.elim (mt_pop pins s σ H x xs v us Q I rx rv) (mt_popAt pins s σ H x xs v us Q I rx rv)
  ty := fun {w H h x v} s r t => by
    unfold bmTy at t
    split at t
    all_goals first | contradiction | exact ty_lst s r (by assumption)
  sound := fun {w H h x vx l vs Qv Qd} s rx rl p o => by
    obtain ⟨n, ob, z, o', rfl, e1, e2, q⟩ := noP p (by cases x <;> rfl)
    unfold dBmM at e2
    split at e2
    all_goals first | contradiction | skip
    · obtain ⟨y, hy, hz⟩ := Option.map_eq_some_iff.mp e2
      cases hz
      obtain ⟨a, xs, rfl, k1, k2, k3⟩ := set_lst s e1 rx
      cases (show vs = [] from rl)
      obtain ⟨u, hu, ru⟩ := k2.get hy
      obtain ⟨g1, g2⟩ := k3 _ _ (k2.eraseIdx (xs.length - 1))
      refine .inl ⟨a, xs, u, rfl, rfl, k1, by rw [← k2.length]; exact hu, ?_⟩
      rw [eraseLast]
      refine o _ _ _ _ _ g1 g2 (ru.mono g1) ?_
      rw [← k2.length, ← eraseLast]
      exact q
    · split at e2
      · rename_i hi
        obtain ⟨k, hk, e2⟩ := Option.bind_eq_some_iff.mp e2
        obtain ⟨y, hy, hz⟩ := Option.map_eq_some_iff.mp e2
        cases hz
        obtain ⟨a, xs, rfl, k1, k2, k3⟩ := set_lst s e1 rx
        obtain ⟨v, rfl, rv⟩ := reps1 rl
        obtain ⟨u, hu, ru⟩ := k2.get hy
        obtain ⟨g1, g2⟩ := k3 _ _ (k2.eraseIdx k)
        exact .inr ⟨a, xs, _, k, u, rfl, by rw [show v = .int _ from rv], k1, by omega, by omega, seqIx (by rw [← k2.length]; exact hk), hu, o _ _ _ _ _ g1 g2 (ru.mono g1) q⟩
      · cases e2
theorem insertIdx_take {α : Type} (x : α) : ∀ (n : Nat) (l : List α), n ≤ l.length → l.insertIdx n x = l.take n ++ [x] ++ l.drop n
  | 0, l, _ => by simp
  | n + 1, [], h => by simp at h
  | n + 1, a :: l, h => by
    rw [List.insertIdx_succ_cons, insertIdx_take x n l (by simpa using h)]
    simp
def bm_insert : BmS X Y "list" "list.insert" .insert where
  r := _
  op := mt_insert
  ty := fun {w H h x v} s r t => by
    unfold bmTy at t
    split at t
    all_goals first | contradiction | exact ty_lst s r (by assumption)
  sound := fun {w H h x vx l vs Qv Qd} s rx rl p o => by
    obtain ⟨n, ob, z, o', rfl, e1, e2, q⟩ := noP p (by cases x <;> rfl)
    unfold dBmM at e2
    split at e2
    all_goals first | contradiction | skip
    split at e2
    · rename_i hl
      cases e2
      obtain ⟨a, xs, rfl, k1, k2, k3⟩ := set_lst s e1 rx
      obtain ⟨v, u, rfl, rv, ru⟩ := reps2 rl
      obtain ⟨h1, h2, h3⟩ := hl
      have hn : _ ≤ _ := h2
      obtain ⟨g1, g2⟩ := k3 _ _ (((k2.take _).append (rep1 ru)).append (k2.drop _))
      refine ⟨a, xs, _, u, rfl, by rw [show v = .int _ from rv], k1, by rw [← k2.length, ← lineEq]; exact h3, h1, by have e : LINE = 16777216 := rfl; omega, o _ _ _ .non _ g1 g2 rfl ?_⟩
      rw [← insertIdx_take _ _ _ (by omega)]
      exact q
    · cases e2
/-! ### texts -/
theorem strs_rep {w : Wd} {H : Hp} : ∀ {l : List D} {vs : List V} {ns : List (List Nat)}, Reps Y w H l vs → strsOf l = some ns → vs = (ns.map sV).map V.str
  | [], vs, ns, h, e => by cases e; exact h
  | d :: l, vs, ns, h, e => by
    obtain ⟨v, r, rfl, h2, h3⟩ := h
    cases d with
    | str b =>
      obtain ⟨m, e1, rfl⟩ := Option.map_eq_some_iff.mp e
      rw [show v = .str _ from h2, strs_rep h3 e1]
      rfl
    | _ => cases e
theorem reps_strs {w : Wd} {H : Hp} : ∀ (ns : List (List Nat)), Reps Y w H (ns.map .str) ((ns.map sV).map V.str)
  | [] => rfl
  | n :: r => ⟨_, _, rfl, rfl, reps_strs r⟩
theorem joinL_eq (s : List Nat) : ∀ l : List (List Nat), TL.joinL s l = joinL s l
  | [] => rfl
  | [_] => rfl
  | a :: b :: r => by
    show a ++ (s ++ TL.joinL s (b :: r)) = a ++ s ++ joinL s (b :: r)
    rw [joinL_eq s (b :: r), List.append_assoc]
theorem tl_sV (x : List Nat) : TL.tl (sV x) = x := sV_cps x
theorem map_tl_sV (l : List (List Nat)) : (l.map sV).map TL.tl = l := by
  rw [List.map_map]
  exact (List.map_congr_left fun x _ => tl_sV x).trans (List.map_id' l)
theorem join_sV (s : List Nat) (l : List (List Nat)) : Txt.join (sV s) (l.map sV) = sV (joinL s l) := by
  refine TL.ext_tl ?_
  rw [TL.join_eq, TL.tl_join, map_tl_sV, tl_sV, tl_sV, joinL_eq]
theorem len_sVs (l : List (List Nat)) : (l.map sV).map (·.length) = l.map (·.length) := by
  rw [List.map_map]
  exact List.map_congr_left fun x _ => sV_len x
def bm_join : BmS X Y "str" "str.join" .join where
  r := _
  op := mt_join
  ty := fun {w H h x v} s r t => by
    unfold bmTy at t
    split at t
    all_goals first | contradiction | exact ty_str s r (by assumption)
  sound := fun {w H h x vx l vs Qv Qd} s rx rl p o => by
    obtain ⟨z, e, q⟩ := noM p (fun n ob => by cases ob <;> rfl)
    unfold dBm at e
    split at e
    all_goals first | contradiction | skip
    split at e
    · rename_i l' el
      obtain ⟨xs, ex, e⟩ := Option.bind_eq_some_iff.mp e
      split at e
      · rename_i hl
        cases e
        obtain ⟨v, rfl, rv⟩ := reps1 rl
        have cx := cont_rep s rv
        rw [el] at cx
        obtain ⟨b, zs, rfl, j1, j2⟩ := cx.lst
        rw [strs_rep j2 ex] at j1
        exact ⟨_, b, xs.map sV, by rw [show vx = .str _ from rx], rfl, .inl (.inl j1), by rw [len_sVs, List.length_map, sV_len]; exact hl, by rw [join_sV]; exact o _ _ _ (.str _) _ (Evo.refl _ _) s rfl q⟩
      · cases e
    · rename_i l' el
      obtain ⟨xs, ex, e⟩ := Option.bind_eq_some_iff.mp e
      split at e
      · rename_i hl
        cases e
        obtain ⟨v, rfl, rv⟩ := reps1 rl
        have cx := cont_rep s rv
        rw [el] at cx
        obtain ⟨b, zs, rfl, j1, j2⟩ := cx.tup
        rw [strs_rep j2 ex] at j1
        exact ⟨_, b, xs.map sV, by rw [show vx = .str _ from rx], rfl, .inr (by rw [hK]; exact j1), by rw [len_sVs, List.length_map, sV_len]; exact hl, by rw [join_sV]; exact o _ _ _ (.str _) _ (Evo.refl _ _) s rfl q⟩
      · cases e
    · cases e
end
end Pv
end

section
set_option maxRecDepth 100000
set_option maxHeartbeats 4000000
namespace Pv
open PySem PySem.Spec PyProof.Rows L2
theorem pre1 (c a : Nat) (r : List Nat) : TL.pre [c] (a :: r) = decide (a = c) := by
  unfold TL.pre
  show ([a] == [c]) = _
  by_cases h : a = c
  · rw [h]; simp
  · rw [decide_eq_false h]; simpa using h
theorem spl1 (c : Nat) : ∀ (l acc : List Nat), TL.spl [c] 0 acc l = splitAt1 c acc l
  | [], acc => rfl
  | a :: r, acc => by
    show (if TL.pre [c] (a :: r) = true then acc :: TL.spl [c] 0 [] r else TL.spl [c] 0 (acc ++ [a]) r) = (if a = c then acc :: splitAt1 c [] r else splitAt1 c (acc ++ [a]) r)
    rw [pre1, spl1 c r [], spl1 c r (acc ++ [a])]
    by_cases h : a = c <;> simp [h]
theorem par1 (c : Nat) : ∀ (l acc : List Nat), (∃ a b, TL.par [c] acc l = some (a, b) ∧ splitMax c 1 acc l = [a, b]) ∨ (TL.par [c] acc l = none ∧ splitMax c 1 acc l = [acc ++ l])
  | [], acc => .inr ⟨rfl, by simp [splitMax]⟩
  | a :: r, acc => by
    have e1 : TL.par [c] acc (a :: r) = if TL.pre [c] (a :: r) = true then some (acc, r) else TL.par [c] (acc ++ [a]) r := rfl
    have e2 : splitMax c 1 acc (a :: r) = if a = c then acc :: splitMax c 0 [] r else splitMax c 1 (acc ++ [a]) r := rfl
    rw [e1, e2, pre1]
    by_cases h : a = c
    · rw [if_pos h, if_pos (decide_eq_true h)]
      refine .inl ⟨acc, r, rfl, ?_⟩
      cases r <;> rfl
    · rw [if_neg h, if_neg (by simp [h])]
      have := par1 c r (acc ++ [a])
      rw [List.append_assoc] at this
      exact this
theorem all256 {c : Nat} (h : c < 128) : (sV [c]).cps.all (· < 256) = true := by
  show (#[c] : Array Nat).all (· < 256) = true
  simp
  omega
theorem split_sV {c : Nat} (h : c < 128) (x : List Nat) : Txt.split (sV x) (sV [c]) = (splitAt1 c [] x).map sV := by
  refine TL.map_tl_inj ?_
  rw [TL.split_spl _ _ (by rw [tl_sV]; simp) (TL.kind_ok (all256 h)), tl_sV, tl_sV, map_tl_sV, spl1]
section
variable {X : Cx} {Y : At} (hK : X.K = Y.K)
theorem new_strs {w : Wd} {H : Hp} {h : Hm} {ns : List (List Nat)} {Qv : VK} {Qd : QD} (s : HSim Y w H h) (o : OutE Y w H Qd Qv) (q : Qd (.lst (ns.map .str)) h) : rNewStrs (ns.map sV) H Qv := by
  refine new_lst s (reps_strs ns) fun w' H' v e s' r => o w' H' v _ h e s' r q
def bm_split : BmS X Y "str" "str.split" .split where
  r := _
  op := mt_split
  ty := fun {w H h x v} s r t => by
    unfold bmTy at t
    split at t
    all_goals first | contradiction | exact ty_str s r (by assumption)
  sound := fun {w H h x vx l vs Qv Qd} s rx rl p o => by
    obtain ⟨z, e, q⟩ := noM p (fun n ob => by cases ob <;> rfl)
    unfold dBm at e
    split at e
    all_goals first | contradiction | skip
    split at e
    · rename_i hl
      cases e
      obtain ⟨u, rfl, ru⟩ := reps1 rl
      refine ⟨_, _, by rw [show vx = .str _ from rx], by rw [show u = .str _ from ru], rfl, by rw [sV_len, ← lineEq]; exact hl.1, ?_⟩
      rw [split_sV hl.2]
      exact new_strs s o q
    · cases e
def bm_partition : BmS X Y "str" "str.partition" .partition where
  r := _
  op := mt_partition
  ty := fun {w H h x v} s r t => by
    unfold bmTy at t
    split at t
    all_goals first | contradiction | exact ty_str s r (by assumption)
  sound := fun {w H h x vx l vs Qv Qd} s rx rl p o => by
    obtain ⟨z, e, q⟩ := noM p (fun n ob => by cases ob <;> rfl)
    unfold dBm at e
    split at e
    all_goals first | contradiction | skip
    split at e
    · rename_i hl
      obtain ⟨u, rfl, ru⟩ := reps1 rl
      refine ⟨_, _, by rw [show vx = .str _ from rx], by rw [show u = .str _ from ru], rfl, by rw [sV_len, ← lineEq]; exact hl.1, ?_⟩
      rw [TL.partition_par _ _ (by rw [tl_sV]; simp), tl_sV, tl_sV]
      rename_i x c _
      rcases par1 c x [] with ⟨a, b, h1, h2⟩ | ⟨h1, h2⟩
      · rw [h1]
        rw [h2] at e
        cases e
        exact new_tup s (l := [.str a, .str [c], .str b]) ⟨_, _, rfl, rfl, _, _, rfl, rfl, _, _, rfl, rfl, rfl⟩ fun w' H' v e s' r => o w' H' v _ h e s' r q
      · rw [h1]
        rw [h2] at e
        cases e
        exact new_tup s (l := [.str x, .str [], .str []]) ⟨_, _, rfl, rfl, _, _, rfl, rfl, _, _, rfl, rfl, rfl⟩ fun w' H' v e s' r => o w' H' v _ h e s' r q
    · cases e
end
/-! ### dicts read -/
section
variable {X : Cx} {F : Fr} {a e f : Expr} {ea ee ef : E} {apos cpos : Pos}
theorem isD_ok {Y : At} {w : Wd} {H : Hp} {h : Hm} {x : D} {v : V} (s : HSim Y w H h) (r : Rep Y w H x v) (t : bmTy .get (cont h x) = true) : ∃ p, v = .ref p ∧ IsD H p := by
  have c := cont_rep s r
  unfold bmTy at t
  split at t
  all_goals first | contradiction | skip
  · rename_i el
    rw [el] at c
    obtain ⟨p, vs, rfl, k1, k2⟩ := c.dK
    exact ⟨p, rfl, .inl ⟨vs, k1⟩⟩
  · rename_i el
    rw [el] at c
    obtain ⟨p, vs, rfl, k1, k2⟩ := c.dT
    exact ⟨p, rfl, .inr ⟨vs, k1⟩⟩
theorem ok_get1 (hu : X.A.units + 1 < cLine) (ho : PE X a (tE F ea)) (he : PE X e (tE F ee)) (m : M1 X a "get" apos e cpos) : PE X (.Call (.Attribute a "get" apos) [e] [] cpos) (tE F (.bm .get ea (.cons ee .nil))) :=
  (pe_dget1 hu ho he m).imp fun σ H Q ⟨w, env, h, Qd, Xd, hs, es, hd, o, ox⟩ =>
    ⟨w, env, h, _, Xd, hs, es, hd, fun w1 H1 v1 d1 h1 e1 s1 r1 q1 => by
      obtain ⟨t, q⟩ := q1
      obtain ⟨p, rfl, ip⟩ := isD_ok s1 r1 t
      refine ⟨p, rfl, ip, w1, env, h1, _, Xd, s1, es.mono e1, q, fun w2 H2 v2 d2 h2 e2 s2 r2 q2 => ?_, ox.evo e1⟩
      obtain ⟨z, ez, qz⟩ := noM q2 (fun n ob => by cases ob <;> rfl)
      have rx := r1.mono e2
      have fin : ∀ (o' : Option D) (ov : Option V), ((o' = none ∧ ov = none) ∨ ∃ e v, o' = some e ∧ ov = some v ∧ Rep F.Y w2 H2 e v) → Rep F.Y w2 H2 (o'.getD .non) (ov.getD .non) := by
        rintro _ _ (⟨rfl, rfl⟩ | ⟨e, v, rfl, rfl, r⟩)
        · rfl
        · exact r
      replace ez : (match cont h2 d1 with
        | .dK kvs => (keyOf d2).map fun k => (look kvs k).getD .non
        | .dT kvs => (tkeyOf d2).map fun k => (look kvs k).getD .non
        | _ => none) = some z := ez
      · split at ez
        · rename_i kvs ek
          obtain ⟨k, e3, e4⟩ := Option.map_eq_some_iff.mp ez
          obtain ⟨p', ov, e5, g, rr⟩ := (dget_ok s2 rx r2).1 kvs k ek e3
          cases e5
          exact ⟨ov, g, o _ _ _ _ _ (e1.trans e2) s2 (by rw [← e4]; exact fin _ _ rr) qz⟩
        · rename_i kvs ek
          obtain ⟨k, e3, e4⟩ := Option.map_eq_some_iff.mp ez
          obtain ⟨p', ov, e5, g, rr⟩ := (dget_ok s2 rx r2).2 kvs k ek e3
          cases e5
          exact ⟨ov, g, o _ _ _ _ _ (e1.trans e2) s2 (by rw [← e4]; exact fin _ _ rr) qz⟩
        · contradiction, ox⟩
theorem ok_get2 (hu : X.A.units + 1 < cLine) (ho : PE X a (tE F ea)) (he : PE X e (tE F ee)) (hf : PE X f (tE F ef)) (m : M2 X a "get" apos e f cpos) : PE X (.Call (.Attribute a "get" apos) [e, f] [] cpos) (tE F (.bm .get ea (.cons ee (.cons ef .nil)))) :=
  (pe_dget2 hu ho he hf m).imp fun σ H Q ⟨w, env, h, Qd, Xd, hs, es, hd, o, ox⟩ =>
    ⟨w, env, h, _, Xd, hs, es, hd, fun w1 H1 v1 d1 h1 e1 s1 r1 q1 => by
      obtain ⟨t, q⟩ := q1
      obtain ⟨p, rfl, ip⟩ := isD_ok s1 r1 t
      refine ⟨p, rfl, ip, w1, env, h1, _, Xd, s1, es.mono e1, q, fun w2 H2 v2 d2 h2 e2 s2 r2 q2 => ?_, ox.evo e1⟩
      refine ⟨w2, env, h2, _, Xd, s2, (es.mono e1).mono e2, q2, fun w3 H3 v3 d3 h3 e3 s3 r3 q3 => ?_, (ox.evo e1).evo e2⟩
      obtain ⟨z, ez, qz⟩ := noM q3 (fun n ob => by cases ob <;> rfl)
      have rx := (r1.mono e2).mono e3
      have ry := r2.mono e3
      have fin : ∀ (o' : Option D) (ov : Option V), ((o' = none ∧ ov = none) ∨ ∃ e v, o' = some e ∧ ov = some v ∧ Rep F.Y w3 H3 e v) → Rep F.Y w3 H3 (o'.getD d3) (ov.getD v3) := by
        rintro _ _ (⟨rfl, rfl⟩ | ⟨e, v, rfl, rfl, r⟩)
        · exact r3
        · exact r
      replace ez : (match cont h3 d1 with
        | .dK kvs => (keyOf d2).map fun k => (look kvs k).getD d3
        | .dT kvs => (tkeyOf d2).map fun k => (look kvs k).getD d3
        | _ => none) = some z := ez
      · split at ez
        · rename_i kvs ek
          obtain ⟨k, e4, e5⟩ := Option.map_eq_some_iff.mp ez
          obtain ⟨p', ov, e6, g, rr⟩ := (dget_ok s3 rx ry).1 kvs k ek e4
          cases e6
          exact ⟨ov, g, o _ _ _ _ _ ((e1.trans e2).trans e3) s3 (by rw [← e5]; exact fin _ _ rr) qz⟩
        · rename_i kvs ek
          obtain ⟨k, e4, e5⟩ := Option.map_eq_some_iff.mp ez
          obtain ⟨p', ov, e6, g, rr⟩ := (dget_ok s3 rx ry).2 kvs k ek e4
          cases e6
          exact ⟨ov, g, o _ _ _ _ _ ((e1.trans e2).trans e3) s3 (by rw [← e5]; exact fin _ _ rr) qz⟩
        · contradiction, ox⟩
end
end Pv
end

section
set_option maxRecDepth 100000
set_option maxHeartbeats 4000000
namespace Pv
open PySem PySem.Spec PyProof.Rows L2
/-! ### what is walked -/
def Walks (Y : At) (w : Wd) (H : Hp) (J : L2.It) (st : List (Nat × D)) (l : List D) : Prop :=
  ∃ (G : Hp → Prop) (Yv : Nat → Hp → V → Hp → Prop), L2.Walk J l.length G Yv ∧ (∀ w' H' h', Evo w H w' H' → HSim Y w' H' h' → still st h' → G H') ∧
    ∀ i x w1 H1 h1 H1', i < l.length → Evo w H w1 H1 → HSim Y w1 H1 h1 → still st h1 → Yv i H1 x H1' → ∃ d, l[i]? = some d ∧ Evo w1 H1 w1 H1' ∧ HSim Y w1 H1' h1 ∧ Rep Y w1 H1' d x
abbrev Wd.shys (w : Wd) (P : List Addr) : Wd := ⟨w.ph, P ++ w.av, w.cl⟩
theorem Rep.shys {Y : At} {w : Wd} {H : Hp} {d : D} {v : V} (r : Rep Y w H d v) : ∀ {P : List Addr}, (∀ a ∈ P, H a = none) → Rep Y (w.shys P) H d v
  | [], _ => r
  | p :: P, h => Rep.shy (w := w.shys P) (h p List.mem_cons_self) (r.shys fun a m => h a (List.mem_cons_of_mem _ m))
theorem Reps.shys {Y : At} {w : Wd} {H : Hp} {d : List D} {v : List V} (r : Reps Y w H d v) : ∀ {P : List Addr}, (∀ a ∈ P, H a = none) → Reps Y (w.shys P) H d v
  | [], _ => r
  | p :: P, h => Reps.shy (w := w.shys P) (h p List.mem_cons_self) (r.shys fun a m => h a (List.mem_cons_of_mem _ m))
theorem RepK.shys {Y : At} {w : Wd} {H : Hp} {d : List (K × D)} {v : List (Key × V)} (r : RepK Y w H d v) : ∀ {P : List Addr}, (∀ a ∈ P, H a = none) → RepK Y (w.shys P) H d v
  | [], _ => r
  | p :: P, h => RepK.shy (w := w.shys P) (h p List.mem_cons_self) (r.shys fun a m => h a (List.mem_cons_of_mem _ m))
theorem RepT.shys {Y : At} {w : Wd} {H : Hp} {d : List (List K × D)} {v : List (List Key × V)} (r : RepT Y w H d v) : ∀ {P : List Addr}, (∀ a ∈ P, H a = none) → RepT Y (w.shys P) H d v
  | [], _ => r
  | p :: P, h => RepT.shy (w := w.shys P) (h p List.mem_cons_self) (r.shys fun a m => h a (List.mem_cons_of_mem _ m))
theorem Off.shys {w : Wd} {H : Hp} {a : Addr} {o : HO} (f : Off w a) (e : H a = some o) {P : List Addr} (h : ∀ a ∈ P, H a = none) : Off (w.shys P) a :=
  ⟨f.1, fun m => (List.mem_append.mp m).elim (fun z => by rw [h a z] at e; cases e) f.2⟩
def WalksP (Y : At) (w : Wd) (H : Hp) (J : L2.It) (st : List (Nat × D)) (l : List D) : Prop := ∀ P, (∀ a ∈ P, H a = none) → Walks Y (w.shys P) H J st l
def tIt (F : Fr) (it : It) : TI := fun σ H R => ∃ (w : Wd) (env : Env) (h : Hm) (Q : List (Nat × D) → List D → Hm → Prop) (X : QX), HSim F.Y w H h ∧ EnvSim F.Y w H F.bad F.ce F.lk env σ ∧ dIt F.P F.C it env h Q X ∧
  (∀ w' H' J st l h', Evo w H w' H' → HSim F.Y w' H' h' → WalksP F.Y w' H' J st l → Q st l h' → R J H') ∧ OutX F.Y w H X fun c d H' => F.W c d σ H'
theorem _root_.L2.PI.imp {X : Cx} {tg e : Expr} {t t' : TI} (h : PI X tg e t) (i : ∀ σ H Q, t' σ H Q → t σ H Q) : PI X tg e t' := ⟨fun pins s σ H Q I q => h.run pins s σ H Q I (i σ H Q q)⟩
section
variable {X : Cx} {tg e : Expr} {te : TE}
/-- a list, a tuple, a text, a dict's keys -/
def iAny (K : PySem.W.Frag) (te : TE) : TI := fun σ H R => te σ H fun x H1 =>
  (∃ a xs, x = .ref a ∧ SqL K H1 a xs ∧ R (Itl K a) H1) ∨ (∃ a xs, x = .ref a ∧ SqT K H1 a xs ∧ R (Itt K a) H1) ∨ (∃ z, x = .str z ∧ R (Its z) H1) ∨
  (∃ d o kvs, x = .ref d ∧ H1 d = some (.frz o (.dK kvs)) ∧ R (Itk d o kvs) H1) ∨ (∃ d o kvs, x = .ref d ∧ H1 d = some (.frz o (.dT kvs)) ∧ R (Itkt d o kvs) H1) ∨
  (∃ d kvs, x = .ref d ∧ H1 d = some (.dK kvs) ∧ ∀ o, R (Itk d o kvs) (upd H1 d (.frz o (.dK kvs)))) ∨ (∃ d kvs, x = .ref d ∧ H1 d = some (.dT kvs) ∧ ∀ o, R (Itkt d o kvs) (upd H1 d (.frz o (.dT kvs))))
theorem any_keys {pins : List (Addr × Obj)} {s : Shared} {σ : L2.St} {H : Hp} {R : L2.It → Hp → Prop} {d : Addr} {o : Obj} {kvs : List (Key × V)} (I : Inv X pins σ H s) (hd : H d = some (.frz o (.dK kvs))) (q : R (Itk d o kvs) H) :
    wpAny (model X.prog X.w) X.A (pyIter (.ref d)) (PIE X pins σ tg R) X.xe s := by
  obtain ⟨z1, z2, z3, es, ep, vs, z4, z5, z6, z7⟩ := I.frzK hd
  exact iter_keys z1 z2 z3 z4 (pi_one (tk := s.toks) I _ (turn_keys _ z4) ⟨_, Heap.get?_push_size _ rfl, rfl, by rw [z5]; rfl⟩ q)
theorem any_keysT {pins : List (Addr × Obj)} {s : Shared} {σ : L2.St} {H : Hp} {R : L2.It → Hp → Prop} {d : Addr} {o : Obj} {kvs : List (List Key × V)} (I : Inv X pins σ H s) (hd : H d = some (.frz o (.dT kvs))) (q : R (Itkt d o kvs) H) :
    wpAny (model X.prog X.w) X.A (pyIter (.ref d)) (PIE X pins σ tg R) X.xe s := by
  obtain ⟨z1, z2, z3, es, ep, z4, z5, z6⟩ := I.frzT hd
  exact iter_keys z1 z2 z3 z4 (pi_one (tk := s.toks) I _ (turn_keysT _ z4) ⟨_, Heap.get?_push_size _ rfl, rfl, by rw [z5]; rfl⟩ q)
theorem pi_any (he : PE X e te) : PI X tg e (iAny X.K te) := by
  constructor
  intro pins s0 σ H0 R I0 h
  refine thn (he.run pins s0 σ H0 _ I0 h) fun v s ⟨x, H, I, rx, q⟩ => ?_
  rcases q with ⟨a, xs, rfl, hq, q⟩ | ⟨a, xs, rfl, hq, q⟩ | ⟨z, rfl, q⟩ | ⟨d, o, kvs, rfl, hd, q⟩ | ⟨d, o, kvs, rfl, hd, q⟩ | ⟨d, kvs, rfl, hd, q⟩ | ⟨d, kvs, rfl, hd, q⟩
  · cases rx
    obtain ⟨its, _, p, _⟩ := I.list hq
    exact wpAny_pyIter_list p.isList (pi_one (tk := s.toks) I _ (turn_list a _) ⟨_, Heap.get?_push_size _ rfl, rfl, rfl⟩ q)
  · cases rx
    obtain ⟨its, _, p, _⟩ := I.tuple hq
    exact wpAny_pyIter_tuple (show s.heap.IsTuple a its.toArray from p) (pi_one (tk := s.toks) I _ (turn_tuple a _) ⟨_, Heap.get?_push_size _ rfl, rfl, rfl⟩ q)
  · obtain ⟨t, rfl⟩ := rx
    cases hz : z.cps.all (· < 128)
    · exact wpAny_pyIter_wide hz (pi_one (tk := s.toks) I _ (turn_str _ z t "str_iterator" (.inr rfl)) ⟨_, Heap.get?_push_size _ rfl, rfl, rfl⟩ q)
    · exact wpAny_pyIter_ascii hz (pi_one (tk := s.toks) I _ (turn_str _ z t "str_ascii_iterator" (.inl rfl)) ⟨_, Heap.get?_push_size _ rfl, rfl, rfl⟩ q)
  · cases rx
    exact any_keys I hd q
  · cases rx
    exact any_keysT I hd q
  · cases rx
    obtain ⟨od, I2⟩ := I.lock hd trivial
    exact any_keys I2 upd_same (q od)
  · cases rx
    obtain ⟨od, I2⟩ := I.lock hd trivial
    exact any_keysT I2 upd_same (q od)
end
/-! ### walks of data -/
section
variable {Y : At} {w : Wd} {H : Hp} {h : Hm}
/-- a fixed list -/
theorem walks_lst {K : PySem.W.Frag} {a : Addr} {l : List D} {vs : List V} (e : H a = some (.lst vs)) (off : Off w a) (r : Reps Y w H l vs) : Walks Y w H (Itl K a) [] l := by
  refine ⟨fun H => H a = some (.lst vs), YAt vs, ?_, fun w' H' h' ev _ _ => (ev.rd_lst off e).2, fun i x w1 H1 h1 H1' hi ev hs _ y => ?_⟩
  · rw [r.length]
    exact (walk_list (K := K) (a := a) (xs := vs)).mono (fun H e => .inl (.inl e)) fun _ _ _ _ _ _ y => y
  · obtain ⟨rfl, hx⟩ := y
    have hl := r.length
    obtain ⟨v, hv, rv⟩ := r.get (List.getElem?_eq_getElem hi)
    rw [hx] at hv; cases hv
    exact ⟨_, List.getElem?_eq_getElem hi, Evo.refl _ _, hs, rv.mono ev⟩
/-- a list that may turn -/
theorem walks_ref {K : PySem.W.Frag} {n : Nat} {a : Addr} {l : List D} (e1 : w.ph[n]? = some a) : Walks Y w H (Itl K a) [(n, .lst l)] l := by
  have key : ∀ w' H' h', Evo w H w' H' → HSim Y w' H' h' → still [(n, .lst l)] h' → ∃ vs, H' a = some (.lst vs) ∧ Reps Y w' H' l vs := fun w' H' h' ev s' st => by
    obtain ⟨a', e2, os⟩ := s'.get (st _ List.mem_cons_self)
    rw [ev.ph e1] at e2; cases e2
    exact os
  refine ⟨fun H => ∃ vs : List V, H a = some (.lst vs) ∧ vs.length = l.length, fun i H x H' => H' = H ∧ ∀ vs, H a = some (.lst vs) → vs[i]? = some x, ⟨fun i H hi g => ?_, fun H g => ?_, fun i H x H' hi g y => ?_⟩, fun w' H' h' ev s' st => ?_, fun i x w1 H1 h1 H1' hi ev s1 st y => ?_⟩
  · obtain ⟨vs, g1, g2⟩ := g
    exact ⟨vs, vs[i]'(by omega), .inl (.inl g1), List.getElem?_eq_getElem (by omega)⟩
  · obtain ⟨vs, g1, g2⟩ := g
    exact ⟨vs, .inl (.inl g1), by omega⟩
  · exact ⟨y.1, fun vs g => y.2 vs (.inl (.inl g))⟩
  · obtain ⟨vs, g1, g2⟩ := key w' H' h' ev s' st
    exact ⟨vs, g1, g2.length.symm⟩
  · obtain ⟨rfl, hx⟩ := y
    obtain ⟨vs, g1, g2⟩ := key w1 H1' h1 ev s1 st
    obtain ⟨v, hv, rv⟩ := g2.get (List.getElem?_eq_getElem hi)
    rw [hx vs g1] at hv; cases hv
    exact ⟨_, List.getElem?_eq_getElem hi, Evo.refl _ _, s1, rv⟩
theorem walks_tup {K : PySem.W.Frag} {a : Addr} {l : List D} {vs : List V} (e : SqT K H a vs) (r : Reps Y w H l vs) : Walks Y w H (Itt K a) [] l := by
  refine ⟨fun H => SqT K H a vs, YAt vs, ?_, fun w' H' h' ev _ _ => ev.sqT e, fun i x w1 H1 h1 H1' hi ev hs _ y => ?_⟩
  · rw [r.length]
    exact walk_tup
  · obtain ⟨rfl, hx⟩ := y
    obtain ⟨v, hv, rv⟩ := r.get (List.getElem?_eq_getElem hi)
    rw [hx] at hv; cases hv
    exact ⟨_, List.getElem?_eq_getElem hi, Evo.refl _ _, hs, rv.mono ev⟩
theorem walks_str (x : List Nat) : Walks Y w H (Its (sV x)) [] (x.map fun c => .str [c]) := by
  refine ⟨fun _ => True, fun i H v H' => H' = H ∧ ∃ c, (sV x).cps[i]? = some c ∧ v = .str ⟨#[c]⟩, ?_, fun _ _ _ _ _ _ => trivial, fun i v w1 H1 h1 H1' hi ev hs _ y => ?_⟩
  · have e : (x.map fun c => D.str [c]).length = (sV x).cps.size := by rw [List.length_map]; exact (sV_len x).symm
    rw [e]
    exact walk_str
  · obtain ⟨rfl, c, hc, rfl⟩ := y
    have hc' : x[i]? = some c := by
      have : (sV x).cps[i]? = (sV x).cps.toList[i]? := by simp
      rw [this, sV_cps] at hc
      exact hc
    exact ⟨.str [c], by rw [List.getElem?_map, hc']; rfl, Evo.refl _ _, hs, rfl⟩
theorem walks_rng (lo : Int) (n : Nat) : Walks Y w H (Itr lo n) [] ((List.range n).map fun (i : Nat) => .int (lo + i)) := by
  refine ⟨fun _ => True, YFn fun i => .int (lo + i), ?_, fun _ _ _ _ _ _ => trivial, fun i v w1 H1 h1 H1' hi ev hs _ y => ?_⟩
  · rw [List.length_map, List.length_range]
    exact walk_range
  · obtain ⟨rfl, rfl⟩ := y
    rw [List.length_map, List.length_range] at hi
    exact ⟨.int (lo + i), by simp [hi], Evo.refl _ _, hs, rfl⟩
theorem repK_get {l : List (K × D)} {vs : List (Key × V)} (r : RepK Y w H l vs) : ∀ {i : Nat} {k : Key} {v : V}, vs[i]? = some (k, v) → ∃ q d, l[i]? = some (q, d) ∧ k = keyV q ∧ Rep Y w H d v := by
  induction l generalizing vs with
  | nil => cases (show vs = [] from r); intro i k v e; cases i <;> cases e
  | cons p l ih =>
    obtain ⟨q, d⟩ := p
    obtain ⟨v0, r0, rfl, h2, h3⟩ := r
    intro i k v e
    cases i with
    | zero => cases e; exact ⟨q, d, rfl, rfl, h2⟩
    | succ i => exact ih h3 e
theorem repT_get {l : List (List K × D)} {vs : List (List Key × V)} (r : RepT Y w H l vs) : ∀ {i : Nat} {k : List Key} {v : V}, vs[i]? = some (k, v) → ∃ q d, l[i]? = some (q, d) ∧ k = q.map keyV ∧ Rep Y w H d v := by
  induction l generalizing vs with
  | nil => cases (show vs = [] from r); intro i k v e; cases i <;> cases e
  | cons p l ih =>
    obtain ⟨q, d⟩ := p
    obtain ⟨v0, r0, rfl, h2, h3⟩ := r
    intro i k v e
    cases i with
    | zero => cases e; exact ⟨q, d, rfl, rfl, h2⟩
    | succ i => exact ih h3 e
theorem kD_rep (q : K) : Rep Y w H (kD q) (kV (keyV q)) := by cases q <;> rfl
theorem kDs_rep : ∀ (q : List K), Reps Y w H (q.map kD) ((q.map keyV).map kV)
  | [] => rfl
  | a :: q => ⟨_, _, rfl, kD_rep a, kDs_rep q⟩
theorem Evo.frzK {w' : Wd} {H' : Hp} {d : Addr} {o : Obj} {k : List (Key × V)} (ev : Evo w H w' H') (off : Off w d) (e : H d = some (.frz o (.dK k))) : H' d = some (.frz o (.dK k)) := by
  obtain ⟨_, o', e', s⟩ := ev.keep d _ off.1 e (fun _ z => nomatch z)
  rw [e', s.eq (fun _ z => nomatch z) (fun _ z => nomatch z)]
theorem Evo.frzT {w' : Wd} {H' : Hp} {d : Addr} {o : Obj} {k : List (List Key × V)} (ev : Evo w H w' H') (off : Off w d) (e : H d = some (.frz o (.dT k))) : H' d = some (.frz o (.dT k)) := by
  obtain ⟨_, o', e', s⟩ := ev.keep d _ off.1 e (fun _ z => nomatch z)
  rw [e', s.eq (fun _ z => nomatch z) (fun _ z => nomatch z)]
theorem walks_dK {a : Addr} {o : Obj} {l : List (K × D)} {kvs : List (Key × V)} (e : H a = some (.frz o (.dK kvs))) (off : Off w a) (r : RepK Y w H l kvs) : Walks Y w H (Itk a o kvs) [] (l.map fun p => kD p.1) := by
  refine ⟨fun H => H a = some (.frz o (.dK kvs)), fun i H x H' => H' = H ∧ ∃ k v, kvs[i]? = some (k, v) ∧ x = kV k, ?_, fun w' H' h' ev _ _ => ev.frzK off e, fun i x w1 H1 h1 H1' hi ev hs _ y => ?_⟩
  · rw [List.length_map, r.length]
    exact walk_keys
  · obtain ⟨rfl, k, v, hk, rfl⟩ := y
    obtain ⟨q, d, e1, rfl, _⟩ := repK_get r hk
    exact ⟨kD q, by rw [List.getElem?_map, e1]; rfl, Evo.refl _ _, hs, kD_rep q⟩
theorem walks_dT {a : Addr} {o : Obj} {l : List (List K × D)} {kvs : List (List Key × V)} (e : H a = some (.frz o (.dT kvs))) (off : Off w a) (r : RepT Y w H l kvs) : Walks Y w H (Itkt a o kvs) [] (l.map fun p => .tup (p.1.map kD)) := by
  refine ⟨fun H => H a = some (.frz o (.dT kvs)), fun i H x H' => H' = H ∧ ∃ (k : List Key) (v : V) (q : Addr), kvs[i]? = some (k, v) ∧ x = .ref q ∧ H q = some (.tup (k.map kV)), ?_, fun w' H' h' ev _ _ => ev.frzT off e, fun i x w1 H1 h1 H1' hi ev hs _ y => ?_⟩
  · rw [List.length_map, r.length]
    exact walk_keysT
  · obtain ⟨rfl, k, v, q, hk, rfl, hq⟩ := y
    obtain ⟨q', d, e1, rfl, _⟩ := repT_get r hk
    exact ⟨.tup (q'.map kD), by rw [List.getElem?_map, e1]; rfl, Evo.refl _ _, hs, q, _, rfl, hq, kDs_rep q'⟩
/-- a lock -/
theorem Evo.lockK {a : Addr} {o : Obj} {kvs : List (Key × V)} (na : a ∉ w.av) (e : H a = some (.dK kvs)) : Evo w H w (upd H a (.frz o (.dK kvs))) := by
  have ne : ∀ {b : Addr} {u : HO}, H b = some u → u ≠ .dK kvs → upd H a (.frz o (.dK kvs)) b = some u := fun {b u} q n => by
    rw [upd_ne (fun z => n (by rw [z, e] at q; exact (Option.some.inj q).symm))]; exact q
  refine ⟨⟨[], by simp⟩, rfl, rfl, fun b u hb q n => ⟨hb, ?_⟩, fun b p q => ne q (fun z => nomatch z), fun b u q t => ne q (by rcases t with ⟨xs, rfl | ⟨_, rfl⟩ | ⟨_, rfl⟩⟩ <;> exact fun z => nomatch z), fun b o' y q => ne q (fun z => nomatch z), fun b fv q => ne q (fun z => nomatch z), fun b hb _ u q n => (upd_ne (fun z : b = a => na (z ▸ hb))).trans q⟩
  by_cases z : b = a
  · subst z
    rw [e] at q; cases q
    exact ⟨_, upd_same, .inr (.inl ⟨_, _, rfl, rfl⟩)⟩
  · exact ⟨u, by rw [upd_ne z]; exact q, .inl rfl⟩
theorem Evo.lockT {a : Addr} {o : Obj} {kvs : List (List Key × V)} (na : a ∉ w.av) (e : H a = some (.dT kvs)) : Evo w H w (upd H a (.frz o (.dT kvs))) := by
  have ne : ∀ {b : Addr} {u : HO}, H b = some u → u ≠ .dT kvs → upd H a (.frz o (.dT kvs)) b = some u := fun {b u} q n => by
    rw [upd_ne (fun z => n (by rw [z, e] at q; exact (Option.some.inj q).symm))]; exact q
  refine ⟨⟨[], by simp⟩, rfl, rfl, fun b u hb q n => ⟨hb, ?_⟩, fun b p q => ne q (fun z => nomatch z), fun b u q t => ne q (by rcases t with ⟨xs, rfl | ⟨_, rfl⟩ | ⟨_, rfl⟩⟩ <;> exact fun z => nomatch z), fun b o' y q => ne q (fun z => nomatch z), fun b fv q => ne q (fun z => nomatch z), fun b hb _ u q n => (upd_ne (fun z : b = a => na (z ▸ hb))).trans q⟩
  by_cases z : b = a
  · subst z
    rw [e] at q; cases q
    exact ⟨_, upd_same, .inr (.inr ⟨_, _, rfl, rfl⟩)⟩
  · exact ⟨u, by rw [upd_ne z]; exact q, .inl rfl⟩
theorem HSim.evo_off (s : HSim Y w H h) {a : Addr} (na : a ∉ w.ph) {u : HO} (nu : ∀ p, H a ≠ some (.ext p)) (nt : ∀ p, H a ≠ some (.tbl p)) (nc : NC u) (e : Evo w H w (upd H a u)) : HSim Y w (upd H a u) h := by
  refine ⟨s.len, s.nd, fun n b d e1 e2 => ?_, fun b m => ⟨(s.av b m).1, ?_⟩, Y.tabK H _ (fun b p q => e.ext b p q) (fun b p q => ?_) s.tab⟩
  · exact (s.at_ n b d e1 e2).mono e (upd_ne fun z => na (z ▸ List.mem_of_getElem? e1))
  · obtain ⟨o, q, n2⟩ := (s.av b m).2
    by_cases z : b = a
    · exact ⟨u, by rw [z]; exact upd_same, nc⟩
    · exact ⟨o, by rw [upd_ne z]; exact q, n2⟩
  · rw [upd_ne (fun z => nt p (by rw [← z]; exact q))]; exact q
end
/-! ### the rules -/
section
variable {X : Cx} {F : Fr} {tg e e2 : Expr} {ee ee2 : E}
theorem ok_itE (hK : X.K = F.Y.K) (he : PE X e (tE F ee)) : PI X tg e (tIt F (.e ee)) :=
  (pi_any he).imp fun σ H R ⟨w, env, h, Qd, Xd, hs, es, hd, o, ox⟩ => by
    refine ⟨w, env, h, _, Xd, hs, es, hd, fun w1 H1 v1 d1 h1 e1 s1 r1 q1 => ?_, ox⟩
    obtain ⟨l, hl, q⟩ := q1
    have key : ∀ d : D, d ≠ d → False := fun d n => n rfl
    cases d1 with
    | tup l' =>
      cases hl
      obtain ⟨a, vs, rfl, k1, k2⟩ := r1
      exact .inr (.inl ⟨a, vs, rfl, SqT.of k1, o _ _ _ _ _ _ e1 s1 (fun P hP => walks_tup (SqT.of k1) (k2.shys hP)) q⟩)
    | wt l' =>
      cases hl
      obtain ⟨a, vs, rfl, k1, k2⟩ := r1
      have z : SqT X.K H1 a vs := by rw [hK]; exact k1.sq
      exact .inr (.inl ⟨a, vs, rfl, z, o _ _ _ _ _ _ e1 s1 (fun P hP => walks_tup z (k2.shys hP)) q⟩)
    | lst l' =>
      cases hl
      obtain ⟨a, vs, rfl, off, k1, k2⟩ := r1
      exact .inl ⟨a, vs, rfl, .inl (.inl k1), o _ _ _ _ _ _ e1 s1 (fun P hP => walks_lst k1 (off.shys k1 hP) (k2.shys hP)) q⟩
    | str x =>
      cases (show v1 = .str (sV x) from r1)
      have hl : (if x.length ≤ LINE then some (x.map fun c => D.str [c]) else none) = some l := hl
      split at hl
      · cases hl
        exact .inr (.inr (.inl ⟨_, rfl, o _ _ _ _ _ _ e1 s1 (fun P hP => walks_str x) q⟩))
      · cases hl
    | dK l' =>
      cases hl
      obtain ⟨a, kvs, rfl, off, k1 | ⟨ob, k1⟩, k2⟩ := r1
      · refine .inr (.inr (.inr (.inr (.inr (.inl ⟨a, kvs, rfl, k1, fun ob => ?_⟩)))))
        have ev := Evo.lockK (w := w1) (o := ob) off.2 k1
        have s2 := s1.evo_off off.1 (by rw [k1]; exact fun _ z => nomatch z) (by rw [k1]; exact fun _ z => nomatch z) (by exact ⟨fun _ z => (nomatch z), fun _ _ z => (nomatch z)⟩) ev
        exact o _ _ _ _ _ _ (e1.trans ev) s2 (fun P hP => walks_dK upd_same (off.shys (H := upd H1 a (.frz ob (.dK kvs))) upd_same hP) ((k2.mono ev).shys hP)) q
      · exact .inr (.inr (.inr (.inl ⟨a, ob, kvs, rfl, k1, o _ _ _ _ _ _ e1 s1 (fun P hP => walks_dK k1 (off.shys k1 hP) (k2.shys hP)) q⟩)))
    | dT l' =>
      cases hl
      obtain ⟨a, kvs, rfl, off, k1 | ⟨ob, k1⟩, k2⟩ := r1
      · refine .inr (.inr (.inr (.inr (.inr (.inr ⟨a, kvs, rfl, k1, fun ob => ?_⟩)))))
        have ev := Evo.lockT (w := w1) (o := ob) off.2 k1
        have s2 := s1.evo_off off.1 (by rw [k1]; exact fun _ z => nomatch z) (by rw [k1]; exact fun _ z => nomatch z) (by exact ⟨fun _ z => (nomatch z), fun _ _ z => (nomatch z)⟩) ev
        exact o _ _ _ _ _ _ (e1.trans ev) s2 (fun P hP => walks_dT upd_same (off.shys (H := upd H1 a (.frz ob (.dT kvs))) upd_same hP) ((k2.mono ev).shys hP)) q
      · exact .inr (.inr (.inr (.inr (.inl ⟨a, ob, kvs, rfl, k1, o _ _ _ _ _ _ e1 s1 (fun P hP => walks_dT k1 (off.shys k1 hP) (k2.shys hP)) q⟩))))
    | ref n =>
      obtain ⟨a, e2, rfl⟩ := r1
      obtain ⟨c, ec, os⟩ := s1.get' e2
      have hc : h1.getD n .non = c := by rw [List.getD_eq_getElem?_getD, ec]; rfl
      have hq : Qd [(n, c)] l h1 := by rw [← hc]; exact q
      replace hl : (match h1.getD n .non with | .lst l => some l | _ => none) = some l := hl
      rw [hc] at hl
      cases c with
      | lst l' =>
        cases hl
        obtain ⟨vs, k1, k2⟩ := os
        exact .inl ⟨a, vs, rfl, .inl (.inl k1), o _ _ _ _ _ _ e1 s1 (fun P hP => walks_ref (w := w1.shys P) e2) hq⟩
      | dK l' => cases hl
      | dT l' => cases hl
      | ins c fs => cases hl
      | _ => exact os.elim
    | rng lo hi => cases hl
    | _ => cases hl
theorem ok_range {p pos : Pos} (hg : Gl X "range") (hm : X.mg "range" = none) (he : PE X e (tE F ee)) (hs1 : starEach (e :: []) X.env = (false, eval e X.env) :: starEach [] X.env) (hs : starEach [e] X.env = [(false, eval e X.env)]) :
    PI X tg (.Call (.Name "range" p) [e] [] pos) (tIt F (.range ee)) :=
  (pi_range1 hg hm (pa_cons he pa_nil hs1) hs).imp fun σ H R ⟨w, env, h, Qd, Xd, hs, es, hd, o, ox⟩ => by
    refine ⟨w, env, h, _, Xd, hs, es, hd, fun w1 H1 v1 d1 h1 e1 s1 r1 q1 => ?_, ox⟩
    obtain ⟨n, rfl, hl, q⟩ := q1
    have hn : LINE = 16777216 := rfl
    refine ⟨n, by rw [show v1 = .int n from r1], by omega, by omega, o _ _ _ _ _ _ e1 s1 ?_ q⟩
    intro P hP
    have := walks_rng (Y := F.Y) (w := w1.shys P) (H := H1) 0 n.toNat
    simpa only [Int.zero_add] using this
theorem ok_range2 {p pos : Pos} (hg : Gl X "range") (hm : X.mg "range" = none) (he : PE X e (tE F ee)) (he2 : PE X e2 (tE F ee2)) (hs1 : starEach (e :: [e2]) X.env = (false, eval e X.env) :: starEach [e2] X.env) (hs2 : starEach (e2 :: []) X.env = (false, eval e2 X.env) :: starEach [] X.env)
    (hs : starEach [e, e2] X.env = [(false, eval e X.env), (false, eval e2 X.env)]) (hs3 : starEach [e2] X.env = [(false, eval e2 X.env)]) :
    PI X tg (.Call (.Name "range" p) [e, e2] [] pos) (tIt F (.range2 ee ee2)) :=
  (pi_range2 hg hm (pa_cons he (pa_cons he2 pa_nil hs2) hs1) hs hs3).imp fun σ H R ⟨w, env, h, Qd, Xd, hs, es, hd, o, ox⟩ => by
    refine ⟨w, env, h, _, Xd, hs, es, hd, fun w1 H1 v1 d1 h1 e1 s1 r1 q1 => ?_, ox⟩
    refine ⟨w1, env, h1, _, Xd, s1, es.mono e1, q1, fun w2 H2 v2 d2 h2 e2 s2 r2 q2 => ?_, ox.evo e1⟩
    obtain ⟨m, n, rfl, rfl, l1, l2, l3, q⟩ := q2
    have hn : LINE = 16777216 := rfl
    refine ⟨m, n, by rw [show v1 = .int m from r1, show v2 = .int n from r2], by omega, o _ _ _ _ _ _ (e1.trans e2) s2 (fun P hP => walks_rng m _) q⟩
/-- new pairs -/
theorem pair_new {Y : At} {w : Wd} {H : Hp} {h : Hm} {T : Addr} {a b : D} {x y : V} (s : HSim Y w H h) (hT : H T = none) (ra : Rep Y w H a x) (rb : Rep Y w H b y) : Evo w H w (upd H T (.tup [x, y])) ∧ HSim Y w (upd H T (.tup [x, y])) h ∧ Rep Y w (upd H T (.tup [x, y])) (.tup [a, b]) (.ref T) :=
  ⟨Evo.new hT, s.new hT, T, _, rfl, upd_same, _, _, rfl, ra.mono (Evo.new hT), _, _, rfl, rb.mono (Evo.new hT), rfl⟩
theorem enum_get : ∀ (l : List D) (k i : Nat) {d : D}, l[i]? = some d → (enumFrom k l)[i]? = some (.tup [.int ((k + i : Nat) : Int), d])
  | [], k, i, d, e => by cases i <;> cases e
  | a :: l, k, 0, d, e => by cases e; rfl
  | a :: l, k, i + 1, d, e => by
    have := enum_get l (k + 1) i (d := d) e
    rw [show k + (i + 1) = k + 1 + i by omega]
    exact this
theorem enum_len : ∀ (l : List D) (k : Nat), (enumFrom k l).length = l.length
  | [], _ => rfl
  | _ :: l, k => congrArg (· + 1) (enum_len l (k + 1))
/-- the list that stands at a, now and later -/
theorem lst_src {Y : At} {w : Wd} {H : Hp} {h : Hm} {d : D} {v : V} {l : List D} (r : Rep Y w H d v) (e : cont h d = .lst l) : ∃ a, v = .ref a ∧ ∀ w' H' h', Evo w H w' H' → HSim Y w' H' h' → still (src h d) h' → ∃ vs, H' a = some (.lst vs) ∧ Reps Y w' H' l vs := by
  cases d with
  | lst l' =>
    cases e
    obtain ⟨a, vs, rfl, off, k1, k2⟩ := r
    exact ⟨a, rfl, fun w' H' h' ev _ _ => ⟨vs, (ev.rd_lst off k1).2, k2.mono ev⟩⟩
  | ref n =>
    obtain ⟨a, e2, rfl⟩ := r
    refine ⟨a, rfl, fun w' H' h' ev s' st => ?_⟩
    have st : h'[n]? = some (h.getD n .non) := st _ List.mem_cons_self
    rw [show h.getD n .non = .lst l from e] at st
    obtain ⟨a', e3, os⟩ := s'.get st
    rw [ev.ph e2] at e3; cases e3
    exact os
  | _ => cases e
theorem tup_src {Y : At} {w : Wd} {H : Hp} {h : Hm} {d : D} {v : V} {l : List D} (s : HSim Y w H h) (r : Rep Y w H d v) (e : cont h d = .tup l) : src h d = [] ∧ ∃ a vs, v = .ref a ∧ SqT Y.K H a vs ∧ Reps Y w H l vs := by
  have c := cont_rep s r
  rw [e] at c
  obtain ⟨a, vs, rfl, k1, k2⟩ := c.tup
  refine ⟨?_, a, vs, rfl, k1, k2⟩
  cases d with
  | ref n =>
    obtain ⟨a', e2, _⟩ := r
    obtain ⟨c', ec, os⟩ := s.get' e2
    have : h.getD n .non = c' := by rw [List.getD_eq_getElem?_getD, ec]; rfl
    rw [show h.getD n .non = .tup l from e] at this
    subst this
    exact os.elim
  | _ => rfl
theorem walks_enum {K : PySem.W.Frag} {Y : At} {w : Wd} {H : Hp} {st : List (Nat × D)} {a : Addr} {l : List D} (key : ∀ w' H' h', Evo w H w' H' → HSim Y w' H' h' → still st h' → ∃ vs, H' a = some (.lst vs) ∧ Reps Y w' H' l vs) : Walks Y w H (Ite K a) st (enumFrom 0 l) := by
  refine ⟨fun H => ∃ vs : List V, H a = some (.lst vs) ∧ vs.length = l.length, fun i H v H' => ∃ T x, v = .ref T ∧ H T = none ∧ H' = upd H T (.tup [.int (i : Nat), x]) ∧ ∀ vs, H a = some (.lst vs) → vs[i]? = some x, ⟨fun i H hi g => ?_, fun H g => ?_, fun i H x H' hi g y => ?_⟩, fun w' H' h' ev s' st => ?_, fun i x w1 H1 h1 H1' hi ev s1 st y => ?_⟩
  · rw [enum_len] at hi
    obtain ⟨vs, g1, g2⟩ := g
    exact ⟨vs, vs[i]'(by omega), .inl (.inl g1), List.getElem?_eq_getElem (by omega)⟩
  · rw [enum_len]
    obtain ⟨vs, g1, g2⟩ := g
    exact ⟨vs, .inl (.inl g1), by omega⟩
  · obtain ⟨T, x, y1, y2, y3, y4⟩ := y
    exact ⟨T, x, y1, y2, y3, fun vs g => y4 vs (.inl (.inl g))⟩
  · obtain ⟨vs, g1, g2⟩ := key w' H' h' ev s' st
    exact ⟨vs, g1, g2.length.symm⟩
  · rw [enum_len] at hi
    obtain ⟨T, x, rfl, y2, rfl, y4⟩ := y
    obtain ⟨vs, g1, g2⟩ := key w1 H1 h1 ev s1 st
    obtain ⟨v, hv, rv⟩ := g2.get (List.getElem?_eq_getElem hi)
    rw [y4 vs g1] at hv; cases hv
    obtain ⟨p1, p2, p3⟩ := pair_new (a := .int (i : Nat)) s1 y2 rfl rv
    refine ⟨_, enum_get l 0 i (List.getElem?_eq_getElem hi), p1, p2, ?_⟩
    rw [Nat.zero_add]
    exact p3
end
end Pv
end

section
set_option maxRecDepth 100000
set_option maxHeartbeats 4000000
namespace PySem
open Sem (wp)
set_option maxHeartbeats 1000000 in
theorem pv_enum_new {v : Value} {o : Obj} {G : Heap → Prop} (B : Begins v o G) :
    Meets (Builtin.«enumerate.__new__» ⟨[.type "enumerate", v], []⟩) (fun _ R s => G s.heap ∧
      R (.ok (.ret (.ref (s.heap.push o).objs.size))) { s with heap := (s.heap.push o).push { cls := .type "enumerate", data := .fields #[.none, .bool false, .ref s.heap.objs.size, rawInt 0, .none, .none] } }) :=
  .of_wp fun prog w A R s hh => by
    obtain ⟨hp, gs, dr, tk, os⟩ := s
    obtain ⟨g1, r⟩ := hh
    have esub := sub_enumerate
    have go : ∀ {A' : Around} {E : Value → Shared → Prop} {Q : Value → Shared → Prop}, Q (.ref hp.objs.size) ⟨hp.push o, gs, dr, tk, os⟩ → wpAny (model prog w) A' (pyIter v) Q E ⟨hp, gs, dr, tk, os⟩ :=
      fun q => B.iter prog w _ _ ⟨hp, gs, dr, tk, os⟩ _ g1 q
    wp_walk using go
    refine wpAny_stack_any fun _ => wpAny_pure ?_
    split
    · rename_i cc _ _ _ _ _
      cases (cc == Value.type "enumerate")
      · wp_walk using go
        exact ⟨_, rfl, r⟩
      · wp_walk using go
        exact ⟨_, rfl, r⟩
    · wp_walk using go
      exact ⟨_, rfl, r⟩
theorem pv_enum_call {prog : Program} {w : World} {A : Around} {E : Value → Shared → Prop} {s : Shared} {v : Value} {o : Obj} {G : Heap → Prop} {Q : Value → Shared → Prop} (B : Begins v o G) (g1 : G s.heap)
    (k : ∀ h', IsEnum h' (s.heap.objs.size + 1) s.heap.objs.size 0 .none → h'.get? s.heap.objs.size = some o → (∀ b u, s.heap.get? b = some u → h'.get? b = some u) → Q (.ref (s.heap.objs.size + 1)) { s with heap := h' }) :
    wpAny (model prog w) A (call (.type "enumerate") [v]) Q E s := by
  refine callType_new F.called_enumerate (by decide) (F.typeCall_enumerate_1 _) (F.newCall_enumerate_1 _) (fun obj => F.args_object_init_2 obj _) F.entry_enumerate_new (pv_enum_new B) ⟨g1, ?_⟩
  have hz : (s.heap.push o).objs.size = s.heap.objs.size + 1 := Heap.size_push ..
  show _ ∧ _
  rw [hz]
  have he := Heap.get?_push_size (s.heap.push o) (o := { cls := .type "enumerate", data := .fields #[.none, .bool false, .ref s.heap.objs.size, rawInt 0, .none, .none] }) rfl
  rw [hz] at he
  exact ⟨⟨_, he, rfl⟩, k _ he (Heap.get?_push_of_some _ (Heap.get?_push_size _ B.free)) fun b u x => Heap.get?_push_of_some _ (Heap.get?_push_of_some _ x)⟩
theorem pv_enum_end {prog : Program} {w : World} {A : Around} {E : Value → Shared → Prop} {s : Shared} {e it a : Addr} {i : Nat} {c : Int} {old : Value} {its : Array Value} {Q : Option Value → Shared → Prop} (hh : A.handled = none) (he : IsEnum s.heap e it c old)
    (st : s.heap.IsTupleIter it a i) (p : s.heap.IsTuple a its) (hx : its[i]? = none) (k : ∀ h', Heap.ExtBut it s.heap h' → Q none { s with heap := h' }) : wpAny (model prog w) A (pyNext (.ref e)) Q E s := by
  have ty : s.TypeIs (.ref e) "enumerate" := ⟨_, he, rfl⟩
  unfold pyNext
  refine wpAny_bind (wpAny_attempt (wpAny_callSpecial?_slot (name := Str.ofString "__next__") ty F.slot_enumerate_next (wpAny_call_entry F.slot_enumerate_next ty F.entry_enumerate_next ?_ (F.args_enumerate_next_1 _))))
  show wpAny _ _ (field (.ref e) 2 >>= _) _ _ _
  refine wpAny_bind (wpAny_field he rfl (x := .ref it) rfl (wpAny_bind (wpAny_nextOf_tuple_end hh st p hx fun h' x e1 e2 => ?_)))
  obtain ⟨o, ho, hc⟩ := e2
  exact wpAny_bind (wpAny_isInstance (T := "StopIteration") (b := true) ⟨o, ho, hc⟩ isSubtype_stop (wpAny_pure (k _ e1)))
end PySem
namespace Pv
open PySem PySem.Spec PyProof.Rows L2
/-- the tuple at a, numbered -/
def IteT (K : PySem.W.Frag) (a : Addr) : L2.It :=
  ⟨fun i H => ∃ (xs : List V) (x : V), SqT K H a xs ∧ xs[i]? = some x, fun i H v H' => ∃ T x, v = .ref T ∧ H T = none ∧ H' = upd H T (.tup [.int (i : Nat), x]) ∧ ∀ xs, SqT K H a xs → xs[i]? = some x,
    fun i H => ∃ xs : List V, SqT K H a xs ∧ xs.length ≤ i⟩
theorem turn_enumT {P : Program} {w : World} {K : PySem.W.Frag} {elts : List Expr} {kk : Nat} {tpos : Pos} (a e it : Addr) :
    Turn P w K (.Tuple elts kk tpos) (IteT K a) [e, it] e (fun i h => (∃ old, IsEnum h e it ((i : Nat) : Int) old) ∧ h.IsTupleIter it a i ∧ e ≠ it ∧ e ≠ a ∧ it ≠ a) where
  mem := by simp
  obj := fun i h st b hb => by
    obtain ⟨⟨old, he⟩, ⟨o, ho, hc, hd⟩, _⟩ := st
    have eb : b = e ∨ b = it := by simpa using hb
    rcases eb with z | z
    · subst z; exact ⟨_, he, fun v q => nomatch q⟩
    · subst z; exact ⟨o, ho, fun v q => by rw [hd] at q; cases q⟩
  keep := fun i h h' st k => by
    obtain ⟨⟨old, he⟩, hi, hne⟩ := st
    exact ⟨⟨old, k e (by simp) _ he⟩, hi.at fun o q => k it (by simp) o q, hne⟩
  item := by
    intro X hP hw hK hc i pins s σ H E I hf st hg
    subst hP hw hK
    obtain ⟨⟨old, he⟩, hit, hne, hea, hia⟩ := st
    obtain ⟨xs, x, hq, hx⟩ := hg
    obtain ⟨its, rv, p, hz⟩ := I.tuple hq
    obtain ⟨u, hu, ru⟩ := rv.get hx
    have hel : e < s.heap.objs.size := Heap.lt_size he
    have hil : it < s.heap.objs.size := by obtain ⟨_, q, _⟩ := hit; exact Heap.lt_size q
    have Dr := Draws.tuple (prog := X.prog) (w := X.w) (A := X.A.in1) (I.ok.hd hc) it a (Ne.symm hia) its.toArray
    have hlt : i < its.toArray.size := by
      have := (List.getElem?_eq_some_iff.mp hu).1
      simpa using this
    refine wpAny_pyNext_enum_itemD Dr he ⟨hit, p⟩ hlt hne (by simp [hne, hea]) fun y h' tk hy ho hs' hT hsz hk => ?_
    obtain rfl : y = u := by
      have : its.toArray[i]? = some u := by simpa using hu
      rw [this] at hy
      exact (Option.some.inj hy).symm
    refine ⟨_, rfl, wpAny_letOwnedTupleGo_enum (s := { s with heap := h', toks := tk + 1 }) ho fun h2 he2 sb => ?_⟩
    have hT2 : h2.get? s.heap.objs.size = some { cls := .type "tuple", data := .seq #[.int i tk, y] } := (sb.2 _ (Nat.ne_of_gt hel)).trans hT
    have new : ObjOk X.prog X.w (upd H s.heap.objs.size (.tup [.int (i : Nat), x])) h2 s.heap.objs.size (.tup [.int (i : Nat), x]) :=
      ⟨by show 2 ≤ sizeLine; decide, [.int i tk, y], .cons ⟨_, rfl⟩ (.cons ru .nil), ⟨_, hT2, rfl, _, rfl⟩⟩
    have I1 : Inv X pins σ (upd H s.heap.objs.size (.tup [.int (i : Nat), x])) { s with heap := h2, toks := tk + 1 } :=
      I.turnedNew (ch := [e, it]) (fun b ob hb q => (sb.2 b (fun z => hb (by simp [z]))).trans (hk b ob (fun z => hb (by simp [z])) (fun z => hb (by simp [z])) q)) hf (Nat.le_refl _) new
    have c1 : ((i + 1 : Nat) : Int) = (i : Int) + 1 := by omega
    refine ⟨.ref s.heap.objs.size, _, I1, rfl, ⟨_, x, rfl, I.hok.fresh (Nat.le_refl _), rfl, fun ys hy => by rw [I.tuple_inj hy hq]; exact hx⟩, ⟨⟨y, ?_⟩, hs'.1.at fun o q => (sb.2 it (Ne.symm hne)).trans q, hne, hea, hia⟩, fun b hb => ?_⟩
    · rw [c1]; exact he2
    · have hb' : b < s.heap.objs.size := by
        have eb : b = e ∨ b = it := by simpa using hb
        rcases eb with z | z
        · rw [z]; exact hel
        · rw [z]; exact hil
      rw [upd_ne (Nat.ne_of_lt hb')]
      exact (hf b hb).1
  done := by
    intro X hP hw hK hc i pins s σ H E I hf st hg
    subst hP hw hK
    obtain ⟨⟨old, he⟩, hit, hne, hea, hia⟩ := st
    obtain ⟨xs, hq, hx⟩ := hg
    obtain ⟨its, rv, p, hz⟩ := I.tuple hq
    obtain ⟨f0, f1, f2, f3, f4, f5⟩ := hf it (by simp)
    have hl := rv.length
    exact pv_enum_end (I.ok.hd hc) he hit (show s.heap.IsTuple a its.toArray from p) (by simp; omega) fun h' eb => ⟨rfl, I.turned (t' := s.toks) (fun b o hb q => eb b o hb q) f0 f1 f3 f4 f5⟩
  self := fun A i s Q E st h => let ⟨⟨_, he⟩, _⟩ := st; wpAny_pyIter_enum he h
/-- enumerate of a list or a tuple -/
def iEnumA (K : PySem.W.Frag) (ta : TA) : TI := fun σ H R => ta σ H fun vs H1 => ∃ a, vs = [.ref a] ∧ ((∃ xs, SqL K H1 a xs ∧ R (Ite K a) H1) ∨ ∃ xs, SqT K H1 a xs ∧ R (IteT K a) H1)
theorem pi_enumA {X : Cx} {e : Expr} {ta : TA} {p pos tpos : Pos} {elts : List Expr} {kk : Nat} (hg : Gl X "enumerate") (hm : X.mg "enumerate" = none) (ha : PA X [e] ta) (hs : starEach [e] X.env = [(false, eval e X.env)]) :
    PI X (.Tuple elts kk tpos) (.Call (.Name "enumerate" p) [e] [] pos) (iEnumA X.K ta) := by
  constructor
  intro pins s0 σ H0 R I0 h
  refine Call_ (ld_blt I0 hg hm boot_enumerate (PyProof.Rows.callWith_type1 (thn (ha.run pos pins s0 σ H0 _ I0 h) fun us s ⟨vs, H, I, r1, a, ex, q⟩ => ?_) hs rfl))
  · subst ex
    cases r1 with
    | cons r rr =>
      cases rr
      cases r
      have two : ∀ b, b ∈ [s.heap.objs.size + 1, s.heap.objs.size] → FpOk X pins H b := fun b hb => by
        have eb : b = s.heap.objs.size + 1 ∨ b = s.heap.objs.size := by simpa using hb
        have hle : s.heap.objs.size ≤ b := by
          rcases eb with z | z
          · rw [z]; exact Nat.le_add_right _ _
          · rw [z]; exact Nat.le_refl _
        exact I.fpOk hle (I.hok.fresh hle)
      rcases q with ⟨xs, hq, q⟩ | ⟨xs, hq, q⟩
      · obtain ⟨its, rv, p', hz⟩ := I.list hq
        exact call_enumerate_list p'.isList fun h' he' hit hsz hk => wpAny_pyIter_enum he' ⟨s.heap.objs.size + 1, [s.heap.objs.size + 1, s.heap.objs.size], _, _, H, rfl, I.kept (t' := s.toks) hk, turn_enum a (s.heap.objs.size + 1) s.heap.objs.size, ⟨⟨.none, he'⟩, hit, Nat.succ_ne_self _⟩, two, q⟩
      · obtain ⟨its, rv, p', hz⟩ := I.tuple hq
        have lt : a < s.heap.objs.size := by obtain ⟨_, z, _⟩ := id p'; exact Heap.lt_size z
        refine pv_enum_call (begins_tuple a its.toArray) (show s.heap.IsTuple a its.toArray from p') fun h' he' hit hk => wpAny_pyIter_enum he' ⟨s.heap.objs.size + 1, [s.heap.objs.size + 1, s.heap.objs.size], _, _, H, rfl, I.kept (t' := s.toks) hk, turn_enumT a (s.heap.objs.size + 1) s.heap.objs.size, ⟨⟨.none, he'⟩, ⟨_, hit, rfl, rfl⟩, Nat.succ_ne_self _, ?_, ?_⟩, two, q⟩
        · exact Nat.ne_of_gt (Nat.lt_succ_of_lt lt)
        · exact Nat.ne_of_gt lt
theorem walks_enumT {K : PySem.W.Frag} {Y : At} {w : Wd} {H : Hp} {a : Addr} {l : List D} {vs : List V} (e : SqT K H a vs) (r : Reps Y w H l vs) : Walks Y w H (IteT K a) [] (enumFrom 0 l) := by
  refine ⟨fun H => SqT K H a vs, fun i H v H' => ∃ T x, v = .ref T ∧ H T = none ∧ H' = upd H T (.tup [.int (i : Nat), x]) ∧ vs[i]? = some x, ⟨fun i H hi g => ?_, fun H g => ?_, fun i H x H' hi g y => ?_⟩, fun w' H' h' ev s' st => ev.sqT e, fun i x w1 H1 h1 H1' hi ev s1 st y => ?_⟩
  · rw [enum_len] at hi
    have := r.length
    exact ⟨vs, vs[i]'(by omega), g, List.getElem?_eq_getElem (by omega)⟩
  · rw [enum_len]
    exact ⟨vs, g, by have := r.length; omega⟩
  · obtain ⟨T, x, y1, y2, y3, y4⟩ := y
    exact ⟨T, x, y1, y2, y3, y4 vs g⟩
  · rw [enum_len] at hi
    obtain ⟨T, x, rfl, y2, rfl, y4⟩ := y
    obtain ⟨v, hv, rv⟩ := r.get (List.getElem?_eq_getElem hi)
    rw [y4] at hv; cases hv
    obtain ⟨p1, p2, p3⟩ := pair_new (a := .int (i : Nat)) s1 y2 rfl (rv.mono ev)
    refine ⟨_, enum_get l 0 i (List.getElem?_eq_getElem hi), p1, p2, ?_⟩
    rw [Nat.zero_add]
    exact p3
section
variable {X : Cx} {F : Fr} {tg e e2 : Expr} {ee ee2 : E}
theorem ok_enum {p pos tpos : Pos} {elts : List Expr} {kk : Nat} (hK : X.K = F.Y.K) (hg : Gl X "enumerate") (hm : X.mg "enumerate" = none) (he : PE X e (tE F ee)) (hs1 : starEach (e :: []) X.env = (false, eval e X.env) :: starEach [] X.env) (hs : starEach [e] X.env = [(false, eval e X.env)]) :
    PI X (.Tuple elts kk tpos) (.Call (.Name "enumerate" p) [e] [] pos) (tIt F (.enum ee)) :=
  (pi_enumA hg hm (pa_cons he pa_nil hs1) hs).imp fun σ H R ⟨w, env, h, Qd, Xd, hs, es, hd, o, ox⟩ => by
    refine ⟨w, env, h, _, Xd, hs, es, hd, fun w1 H1 v1 d1 h1 e1 s1 r1 q1 => ?_, ox⟩
    obtain ⟨l, hl, q⟩ := q1
    cases hc : cont h1 d1 with
    | lst l' =>
      unfold seqD at hl; rw [hc] at hl; cases hl
      have c := cont_rep s1 r1
      rw [hc] at c
      obtain ⟨a', vs, z, k1, k2⟩ := c.lst
      refine ⟨a', by rw [z], .inl ⟨vs, .inl k1, o _ _ _ _ _ _ e1 s1 (fun P hP => ?_) q⟩⟩
      obtain ⟨a, z', key⟩ := lst_src (r1.shys hP) hc
      rw [z] at z'; cases z'
      exact walks_enum key
    | tup l' =>
      unfold seqD at hl; rw [hc] at hl; cases hl
      obtain ⟨z, a, vs, rfl, k1, k2⟩ := tup_src s1 r1 hc
      have k1 : SqT X.K H1 a vs := by rw [hK]; exact k1
      exact ⟨a, rfl, .inr ⟨vs, k1, o _ _ _ _ _ _ e1 s1 (fun P hP => walks_enumT k1 (k2.shys hP)) (by rw [← z]; exact q)⟩⟩
    | _ => unfold seqD at hl; rw [hc] at hl; cases hl
end
end Pv
end

section
set_option maxRecDepth 100000
set_option maxHeartbeats 4000000
namespace Pv
open PySem PySem.Spec PyProof.Rows L2
theorem zip_len : ∀ l m : List D, (zip2 l m).length = min l.length m.length
  | [], m => by simp [zip2]
  | a :: l, [] => by simp [zip2]
  | a :: l, b :: m => by
    show (zip2 l m).length + 1 = _
    rw [zip_len l m, List.length_cons, List.length_cons]
    omega
theorem zip_get : ∀ (l m : List D) (i : Nat) {a b : D}, l[i]? = some a → m[i]? = some b → (zip2 l m)[i]? = some (.tup [a, b])
  | [], _, i, a, b, e, _ => by cases i <;> cases e
  | _ :: _, [], i, a, b, _, e => by cases i <;> cases e
  | x :: l, y :: m, 0, a, b, e1, e2 => by cases e1; cases e2; rfl
  | x :: l, y :: m, i + 1, a, b, e1, e2 => zip_get l m i (a := a) (b := b) e1 e2
theorem still_app {s t : List (Nat × D)} {h : Hm} (q : still (s ++ t) h) : still s h ∧ still t h := ⟨fun p m => q p (List.mem_append_left _ m), fun p m => q p (List.mem_append_right _ m)⟩
section
variable {Y : At} {w : Wd} {H : Hp}
theorem walks_zip {K : PySem.W.Frag} {st : List (Nat × D)} {a b : Addr} {l m : List D} (ka : ∀ w' H' h', Evo w H w' H' → HSim Y w' H' h' → still st h' → ∃ vs, H' a = some (.lst vs) ∧ Reps Y w' H' l vs)
    (kb : ∀ w' H' h', Evo w H w' H' → HSim Y w' H' h' → still st h' → ∃ vs, H' b = some (.lst vs) ∧ Reps Y w' H' m vs) : Walks Y w H (Itz K a b) st (zip2 l m) := by
  refine ⟨fun H => (∃ vs : List V, H a = some (.lst vs) ∧ vs.length = l.length) ∧ ∃ vs : List V, H b = some (.lst vs) ∧ vs.length = m.length,
    fun i H v H' => ∃ T x y, v = .ref T ∧ H T = none ∧ H' = upd H T (.tup [x, y]) ∧ (∀ vs, H a = some (.lst vs) → vs[i]? = some x) ∧ ∀ vs, H b = some (.lst vs) → vs[i]? = some y, ⟨fun i H hi g => ?_, fun H g => ?_, fun i H x H' hi g y => ?_⟩, fun w' H' h' ev s' st => ?_, fun i x w1 H1 h1 H1' hi ev s1 st y => ?_⟩
  · rw [zip_len] at hi
    obtain ⟨⟨vs, g1, g2⟩, us, g3, g4⟩ := g
    exact ⟨vs, us, vs[i]'(by omega), us[i]'(by omega), .inl (.inl g1), .inl (.inl g3), List.getElem?_eq_getElem (by omega), List.getElem?_eq_getElem (by omega)⟩
  · rw [zip_len]
    obtain ⟨⟨vs, g1, g2⟩, us, g3, g4⟩ := g
    exact ⟨vs, us, .inl (.inl g1), .inl (.inl g3), by omega⟩
  · obtain ⟨T, x, z, y1, y2, y3, y4, y5⟩ := y
    exact ⟨T, x, z, y1, y2, y3, fun vs g => y4 vs (.inl (.inl g)), fun vs g => y5 vs (.inl (.inl g))⟩
  · obtain ⟨vs, g1, g2⟩ := ka w' H' h' ev s' st
    obtain ⟨us, g3, g4⟩ := kb w' H' h' ev s' st
    exact ⟨⟨vs, g1, g2.length.symm⟩, us, g3, g4.length.symm⟩
  · rw [zip_len] at hi
    obtain ⟨T, x, z, rfl, y2, rfl, y4, y5⟩ := y
    obtain ⟨vs, g1, g2⟩ := ka w1 H1 h1 ev s1 st
    obtain ⟨us, g3, g4⟩ := kb w1 H1 h1 ev s1 st
    have hl : i < l.length := by omega
    have hm : i < m.length := by omega
    obtain ⟨v, hv, rv⟩ := g2.get (List.getElem?_eq_getElem hl)
    obtain ⟨u, hu, ru⟩ := g4.get (List.getElem?_eq_getElem hm)
    rw [y4 vs g1] at hv; cases hv
    rw [y5 us g3] at hu; cases hu
    obtain ⟨p1, p2, p3⟩ := pair_new s1 y2 rv ru
    exact ⟨_, zip_get l m i (List.getElem?_eq_getElem hl) (List.getElem?_eq_getElem hm), p1, p2, p3⟩
theorem walks_zipT {K : PySem.W.Frag} {a b : Addr} {l m : List D} {vs us : List V} (ea : SqT K H a vs) (ra : Reps Y w H l vs) (eb : SqT K H b us) (rb : Reps Y w H m us) : Walks Y w H (RZ.ItzT K a b) [] (zip2 l m) := by
  refine ⟨fun H => SqT K H a vs ∧ SqT K H b us, fun i H v H' => ∃ T x y, v = .ref T ∧ H T = none ∧ H' = upd H T (.tup [x, y]) ∧ vs[i]? = some x ∧ us[i]? = some y, ⟨fun i H hi g => ?_, fun H g => ?_, fun i H x H' hi g y => ?_⟩, fun w' H' h' ev s' st => ⟨ev.sqT ea, ev.sqT eb⟩, fun i x w1 H1 h1 H1' hi ev s1 st y => ?_⟩
  · rw [zip_len] at hi
    have h1 := ra.length
    have h2 := rb.length
    exact ⟨vs, us, vs[i]'(by omega), us[i]'(by omega), g.1, g.2, List.getElem?_eq_getElem (by omega), List.getElem?_eq_getElem (by omega)⟩
  · rw [zip_len]
    have h1 := ra.length
    have h2 := rb.length
    exact ⟨vs, us, g.1, g.2, by omega⟩
  · obtain ⟨T, x, z, y1, y2, y3, y4, y5⟩ := y
    exact ⟨T, x, z, y1, y2, y3, y4 vs g.1, y5 us g.2⟩
  · rw [zip_len] at hi
    obtain ⟨T, x, z, rfl, y2, rfl, y4, y5⟩ := y
    have hl : i < l.length := by omega
    have hm : i < m.length := by omega
    obtain ⟨v, hv, rv⟩ := ra.get (List.getElem?_eq_getElem hl)
    obtain ⟨u, hu, ru⟩ := rb.get (List.getElem?_eq_getElem hm)
    rw [y4] at hv; cases hv
    rw [y5] at hu; cases hu
    obtain ⟨p1, p2, p3⟩ := pair_new s1 y2 (rv.mono ev) (ru.mono ev)
    exact ⟨_, zip_get l m i (List.getElem?_eq_getElem hl) (List.getElem?_eq_getElem hm), p1, p2, p3⟩
end
section
variable {X : Cx} {F : Fr} {tg e e2 : Expr} {ee ee2 : E}
theorem ok_zip {p pos tpos : Pos} {elts : List Expr} {kk : Nat} (hK : X.K = F.Y.K) (hg : Gl X "zip") (hm : X.mg "zip" = none) (he : PE X e (tE F ee)) (he2 : PE X e2 (tE F ee2)) (hs1 : starEach (e :: [e2]) X.env = (false, eval e X.env) :: starEach [e2] X.env) (hs2 : starEach (e2 :: []) X.env = (false, eval e2 X.env) :: starEach [] X.env)
    (hpl : (backTo pos (starEach [e2] X.env)).any (·.1) = false) : PI X (.Tuple elts kk tpos) (.Call (.Name "zip" p) [e, e2] [] pos) (tIt F (.zip ee ee2)) :=
  (RZ.pi_zipA hg hm (pa_cons he (pa_cons he2 pa_nil hs2) hs1) hs1 hpl).imp fun σ H R ⟨w, env, h, Qd, Xd, hs, es, hd, o, ox⟩ => by
    refine ⟨w, env, h, _, Xd, hs, es, hd, fun w1 H1 v1 d1 h1 e1 s1 r1 q1 => ?_, ox⟩
    refine ⟨w1, env, h1, _, Xd, s1, es.mono e1, q1, fun w2 H2 v2 d2 h2 e2 s2 r2 q2 => ?_, ox.evo e1⟩
    obtain ⟨l, m, hl, q⟩ := q2
    have rx := r1.mono e2
    unfold seq2D at hl
    split at hl
    · rename_i l' m' c1 c2
      cases hl
      obtain ⟨z1, a, vs, rfl, k1, k2⟩ := tup_src s2 rx c1
      obtain ⟨z2, b, us, rfl, k3, k4⟩ := tup_src s2 r2 c2
      rw [z1, z2] at q
      have k1 : SqT X.K H2 a vs := by rw [hK]; exact k1
      have k3 : SqT X.K H2 b us := by rw [hK]; exact k3
      exact ⟨a, b, vs, us, rfl, .inr ⟨k1, k3, o _ _ _ _ _ _ (e1.trans e2) s2 (fun P hP => walks_zipT k1 (k2.shys hP) k3 (k4.shys hP)) q⟩⟩
    · rename_i l' m' c1 c2
      cases hl
      have x1 := cont_rep s2 rx
      rw [c1] at x1
      obtain ⟨a, vs, z1, k1, k2⟩ := x1.lst
      have x2 := cont_rep s2 r2
      rw [c2] at x2
      obtain ⟨b, us, z2, k3, k4⟩ := x2.lst
      refine ⟨a, b, vs, us, by rw [z1, z2], .inl ⟨.inl k1, .inl k3, o _ _ _ _ _ _ (e1.trans e2) s2 (fun P hP => ?_) q⟩⟩
      obtain ⟨a', y1, ka⟩ := lst_src (rx.shys hP) c1
      obtain ⟨b', y2, kb⟩ := lst_src (r2.shys hP) c2
      rw [z1] at y1; cases y1
      rw [z2] at y2; cases y2
      exact walks_zip (fun w' H' h' ev s' st => ka w' H' h' ev s' (still_app st).1) (fun w' H' h' ev s' st => kb w' H' h' ev s' (still_app st).2)
    · cases hl
end
end Pv
end

section
set_option maxRecDepth 100000
set_option maxHeartbeats 4000000
namespace Pv
open PySem PySem.Spec PyProof.Rows L2
section
variable {Y : At} {w w' : Wd} {H H' : Hp} {h : Hm}
theorem box_ne {p a : Addr} {b o : HO} (hq : H p = some b ∧ Box b) (e : H a = some o) (n : ¬ Box o) : a ≠ p := fun z => by
  rw [z, hq.1] at e; cases e; exact n hq.2
theorem off_ne {p a : Addr} (hp : p ∈ w.av) (o : Off w a) : a ≠ p := fun z => o.2 (z ▸ hp)
theorem rd_upd {p a : Addr} {u k : HO} (n : a ≠ p) (r : Rd H a k) : Rd (upd H p u) a k := r.imp (fun e => by rw [upd_ne n]; exact e) fun ⟨o, e⟩ => ⟨o, by rw [upd_ne n]; exact e⟩
mutual
/-- fewer places to keep off; the same references -/
theorem Rep.updAv {p : Addr} {u b : HO} (hp : p ∈ w.av) (hq : H p = some b ∧ Box b) : ∀ {d : D} {v : V}, Rep Y w H d v → Rep Y w (upd H p u) d v
  | .non, v, h => h
  | .bl _, v, h => h
  | .int _, v, h => h
  | .str _, v, h => h
  | .tup l, v, h => by
    obtain ⟨a, vs, h1, h2, h3⟩ := h
    exact ⟨a, vs, h1, by rw [upd_ne (box_ne hq h2 (fun z => by rcases z with ⟨_, z⟩ | ⟨_, z⟩ | ⟨_, z⟩ | ⟨_, _, _, z⟩ <;> cases z))]; exact h2, Reps.updAv hp hq h3⟩
  | .wt l, v, h => by
    obtain ⟨a, vs, h1, h2, h3⟩ := h
    exact ⟨a, vs, h1, h2, Reps.updAv hp hq h3⟩
  | .lst l, v, h => by
    obtain ⟨a, vs, h1, h2, h3, h4⟩ := h
    exact ⟨a, vs, h1, h2, by rw [upd_ne (off_ne hp h2)]; exact h3, Reps.updAv hp hq h4⟩
  | .dK l, v, h => by
    obtain ⟨a, vs, h1, h2, h3, h4⟩ := h
    exact ⟨a, vs, h1, h2, rd_upd (off_ne hp h2) h3, RepK.updAv hp hq h4⟩
  | .dT l, v, h => by
    obtain ⟨a, vs, h1, h2, h3, h4⟩ := h
    exact ⟨a, vs, h1, h2, rd_upd (off_ne hp h2) h3, RepT.updAv hp hq h4⟩
  | .rng lo hi, v, h => by
    obtain ⟨a, h1, h2, h3⟩ := h
    exact ⟨a, h1, h2, by rw [upd_ne (off_ne hp h2)]; exact h3⟩
  | .ins c fs, v, h => by
    obtain ⟨a, dx, fv, h1, h2, h3, h4⟩ := h
    exact ⟨a, dx, fv, h1, h2, by rw [upd_ne (off_ne hp h2)]; exact h3, RepF.updAv hp hq h4⟩
  | .ref n, v, h => by
    obtain ⟨a, h1, h2⟩ := h
    exact ⟨a, h1, h2⟩
  | .fn _, v, h => h
  | .cls _, v, h => h
  | .clo i caps, v, h => by
    obtain ⟨f, vs, h1, h3, h4⟩ := h
    exact ⟨f, vs, h1, h3.mono (fun _ z => z) (fun c q e => by rw [upd_ne (box_ne hq e (fun z => by rcases z with ⟨_, z⟩ | ⟨_, z⟩ | ⟨_, z⟩ | ⟨_, _, _, z⟩ <;> cases z))]; exact e) (fun c o y e => by rw [upd_ne (box_ne hq e (fun z => by rcases z with ⟨_, z⟩ | ⟨_, z⟩ | ⟨_, z⟩ | ⟨_, _, _, z⟩ <;> cases z))]; exact e), Reps.updAv hp hq h4⟩
  | .exc _ _, v, h => h.elim
  | .scr l, v, h => by
    obtain ⟨a, h1, h2⟩ := h
    exact ⟨a, h1, h2.imp (fun ⟨o, q⟩ => ⟨o, by rw [upd_ne (box_ne hq q (fun z => by rcases z with ⟨_, z⟩ | ⟨_, z⟩ | ⟨_, z⟩ | ⟨_, _, _, z⟩ <;> cases z))]; exact q⟩) id⟩
theorem Reps.updAv {p : Addr} {u b : HO} (hp : p ∈ w.av) (hq : H p = some b ∧ Box b) : ∀ {l : List D} {vs : List V}, Reps Y w H l vs → Reps Y w (upd H p u) l vs
  | [], vs, h => h
  | d :: l, vs, h => by
    obtain ⟨v, r, h1, h2, h3⟩ := h
    exact ⟨v, r, h1, Rep.updAv hp hq h2, Reps.updAv hp hq h3⟩
theorem RepK.updAv {p : Addr} {u b : HO} (hp : p ∈ w.av) (hq : H p = some b ∧ Box b) : ∀ {l : List (K × D)} {vs : List (Key × V)}, RepK Y w H l vs → RepK Y w (upd H p u) l vs
  | [], vs, h => h
  | (k, d) :: l, vs, h => by
    obtain ⟨v, r, h1, h2, h3⟩ := h
    exact ⟨v, r, h1, Rep.updAv hp hq h2, RepK.updAv hp hq h3⟩
theorem RepT.updAv {p : Addr} {u b : HO} (hp : p ∈ w.av) (hq : H p = some b ∧ Box b) : ∀ {l : List (List K × D)} {vs : List (List Key × V)}, RepT Y w H l vs → RepT Y w (upd H p u) l vs
  | [], vs, h => h
  | (k, d) :: l, vs, h => by
    obtain ⟨v, r, h1, h2, h3⟩ := h
    exact ⟨v, r, h1, Rep.updAv hp hq h2, RepT.updAv hp hq h3⟩
theorem RepF.updAv {p : Addr} {u b : HO} (hp : p ∈ w.av) (hq : H p = some b ∧ Box b) : ∀ {l : List (Nat × D)} {vs : List (Str × V)}, RepF Y w H l vs → RepF Y w (upd H p u) l vs
  | [], vs, h => h
  | (k, d) :: l, vs, h => by
    obtain ⟨v, r, h1, h2, h3⟩ := h
    exact ⟨v, r, h1, Rep.updAv hp hq h2, RepF.updAv hp hq h3⟩
end

theorem OSim.updAv {p a : Addr} {u b : HO} {d : D} (hp : p ∈ w.av) (hq : H p = some b ∧ Box b) (n : a ≠ p) (s : OSim Y w H a d) : OSim Y w (upd H p u) a d := by
  cases d with
  | lst l => obtain ⟨vs, e1, r⟩ := s; exact ⟨vs, by rw [upd_ne n]; exact e1, r.updAv hp hq⟩
  | dK l => obtain ⟨vs, e1, r⟩ := s; exact ⟨vs, by rw [upd_ne n]; exact e1, r.updAv hp hq⟩
  | dT l => obtain ⟨vs, e1, r⟩ := s; exact ⟨vs, by rw [upd_ne n]; exact e1, r.updAv hp hq⟩
  | ins c fs => obtain ⟨dx, fv, e1, r⟩ := s; exact ⟨dx, fv, by rw [upd_ne n]; exact e1, r.updAv hp hq⟩
  | _ => exact s.elim
theorem HSim.updAv {p : Addr} {u b : HO} (nc : NC u) (s : HSim Y w H h) (hp : p ∈ w.av) (hq : H p = some b ∧ Box b) : HSim Y w (upd H p u) h := by
  refine ⟨s.len, s.nd, fun n a d e1 e2 => (s.at_ n a d e1 e2).updAv hp hq (fun z => (s.av p hp).1 (z ▸ List.mem_of_getElem? e1)), fun a m => ⟨(s.av a m).1, ?_⟩, Y.tabK H _ (fun c q e => ?_) (fun c q e => ?_) s.tab⟩
  · obtain ⟨o, e, n2⟩ := (s.av a m).2
    by_cases z : a = p
    · exact ⟨u, by rw [z]; exact upd_same, nc⟩
    · exact ⟨o, by rw [upd_ne z]; exact e, n2⟩
  · rw [upd_ne (box_ne hq e (fun z => by rcases z with ⟨_, z⟩ | ⟨_, z⟩ | ⟨_, z⟩ | ⟨_, _, _, z⟩ <;> cases z))]; exact e
  · rw [upd_ne (box_ne hq e (fun z => by rcases z with ⟨_, z⟩ | ⟨_, z⟩ | ⟨_, z⟩ | ⟨_, _, _, z⟩ <;> cases z))]; exact e
theorem Box.nc {u : HO} (b : Box u) : NC u := ⟨b.nt, fun o y z => by
  subst z
  rcases b with ⟨_, z⟩ | ⟨_, z⟩ | ⟨_, z⟩ | ⟨_, _, _, z⟩ <;> cases z⟩
/-- a place laid now, turning behind the world's back -/
theorem HSim.shyNew {p : Addr} {o : HO} (nc : NC o) (s : HSim Y w H h) (hp : H p = none) : HSim Y (w.shy p) (upd H p o) h := by
  have s1 := s.new (o := o) hp
  refine ⟨s.len, s.nd, fun n a d e1 e2 => ?_, fun a m => ?_, s1.tab⟩
  · have os := s.at_ n a d e1 e2
    obtain ⟨u, eu, _⟩ := os.box
    exact (os.shy hp).mono (w := w.shy p) (Evo.new hp) (upd_ne (ne_of_none eu hp))
  · rcases List.mem_cons.mp m with rfl | m
    · exact ⟨s.not_ph hp, o, upd_same, nc⟩
    · obtain ⟨n1, u, e, n2⟩ := s.av a m
      exact ⟨n1, u, by rw [upd_ne (ne_of_none e hp)]; exact e, n2⟩
/-- the world behind a loop that filled p -/
structure Fill (w1 : Wd) (H1 : Hp) (p : Addr) (w2 : Wd) (H2 : Hp) : Prop where
  ev : Evo (w1.shy p) H1 w2 H2
  no : H1 p = none
theorem Fill.start {p : Addr} {o : HO} (hp : H p = none) : Fill w H p (w.shy p) (upd H p o) := ⟨Evo.new hp, hp⟩
theorem Fill.step {w1 w2 w3 : Wd} {H1 H2 H3 : Hp} {p : Addr} (f : Fill w1 H1 p w2 H2) (e : Evo w2 H2 w3 H3) : Fill w1 H1 p w3 H3 := ⟨f.ev.trans e, f.no⟩
theorem Fill.av {w1 w2 : Wd} {H1 H2 : Hp} {p : Addr} (f : Fill w1 H1 p w2 H2) : p ∈ w2.av := by rw [f.ev.av]; exact List.mem_cons_self
theorem Fill.put {w1 w2 : Wd} {H1 H2 : Hp} {p : Addr} {u : HO} (f : Fill w1 H1 p w2 H2) : Fill w1 H1 p w2 (upd H2 p u) := by
  refine ⟨⟨f.ev.pre, f.ev.av, f.ev.cl, fun a o ha e n => ?_, fun a q e => ?_, fun a q e t => ?_, fun a o y e => ?_, fun a fv e => ?_, fun a ha np o e n => ?_⟩, f.no⟩
  · obtain ⟨h1, o', h2, h3⟩ := f.ev.keep a o ha e n
    exact ⟨h1, o', by rw [upd_ne (ne_of_none e f.no)]; exact h2, h3⟩
  · rw [upd_ne (ne_of_none e f.no)]; exact f.ev.ext a q e
  · rw [upd_ne (ne_of_none e f.no)]; exact f.ev.tup a q e t
  · rw [upd_ne (ne_of_none e f.no)]; exact f.ev.fzo a o y e
  · rw [upd_ne (ne_of_none e f.no)]; exact f.ev.xdk a fv e
  · rw [upd_ne (ne_of_none e f.no)]; exact f.ev.avk a ha np o e n
mutual
/-- fewer places to keep off; the same references -/
theorem Rep.move (hp : ∃ more, w'.ph = w.ph ++ more) (ha : ∀ a, Off w a → Off w' a) (hc : ∀ p ∈ w.cl, p ∈ w'.cl) : ∀ {d : D} {v : V}, Rep Y w H d v → Rep Y w' H d v
  | .non, v, h => h
  | .bl _, v, h => h
  | .int _, v, h => h
  | .str _, v, h => h
  | .tup l, v, h => by
    obtain ⟨a, vs, h1, h2, h3⟩ := h
    exact ⟨a, vs, h1, h2, Reps.move hp ha hc h3⟩
  | .wt l, v, h => by
    obtain ⟨a, vs, h1, h2, h3⟩ := h
    exact ⟨a, vs, h1, h2, Reps.move hp ha hc h3⟩
  | .lst l, v, h => by
    obtain ⟨a, vs, h1, h2, h3, h4⟩ := h
    exact ⟨a, vs, h1, ha _ h2, h3, Reps.move hp ha hc h4⟩
  | .dK l, v, h => by
    obtain ⟨a, vs, h1, h2, h3, h4⟩ := h
    exact ⟨a, vs, h1, ha _ h2, h3, RepK.move hp ha hc h4⟩
  | .dT l, v, h => by
    obtain ⟨a, vs, h1, h2, h3, h4⟩ := h
    exact ⟨a, vs, h1, ha _ h2, h3, RepT.move hp ha hc h4⟩
  | .rng lo hi, v, h => by
    obtain ⟨a, h1, h2, h3⟩ := h
    exact ⟨a, h1, ha _ h2, h3⟩
  | .ins c fs, v, h => by
    obtain ⟨a, dx, fv, h1, h2, h3, h4⟩ := h
    exact ⟨a, dx, fv, h1, ha _ h2, h3, RepF.move hp ha hc h4⟩
  | .ref n, v, h => by
    obtain ⟨a, h1, h2⟩ := h
    exact ⟨a, by obtain ⟨mr, q⟩ := hp; rw [q, List.getElem?_append_left (List.getElem?_eq_some_iff.mp h1).1]; exact h1, h2⟩
  | .fn _, v, h => h
  | .cls _, v, h => h
  | .clo i caps, v, h => by
    obtain ⟨f, vs, h1, h3, h4⟩ := h
    exact ⟨f, vs, h1, h3.mono hc (fun _ _ z => z) (fun _ _ _ z => z), Reps.move hp ha hc h4⟩
  | .exc _ _, v, h => h.elim
  | .scr _, v, h => h
theorem Reps.move (hp : ∃ more, w'.ph = w.ph ++ more) (ha : ∀ a, Off w a → Off w' a) (hc : ∀ p ∈ w.cl, p ∈ w'.cl) : ∀ {l : List D} {vs : List V}, Reps Y w H l vs → Reps Y w' H l vs
  | [], vs, h => h
  | d :: l, vs, h => by
    obtain ⟨v, r, h1, h2, h3⟩ := h
    exact ⟨v, r, h1, Rep.move hp ha hc h2, Reps.move hp ha hc h3⟩
theorem RepK.move (hp : ∃ more, w'.ph = w.ph ++ more) (ha : ∀ a, Off w a → Off w' a) (hc : ∀ p ∈ w.cl, p ∈ w'.cl) : ∀ {l : List (K × D)} {vs : List (Key × V)}, RepK Y w H l vs → RepK Y w' H l vs
  | [], vs, h => h
  | (k, d) :: l, vs, h => by
    obtain ⟨v, r, h1, h2, h3⟩ := h
    exact ⟨v, r, h1, Rep.move hp ha hc h2, RepK.move hp ha hc h3⟩
theorem RepT.move (hp : ∃ more, w'.ph = w.ph ++ more) (ha : ∀ a, Off w a → Off w' a) (hc : ∀ p ∈ w.cl, p ∈ w'.cl) : ∀ {l : List (List K × D)} {vs : List (List Key × V)}, RepT Y w H l vs → RepT Y w' H l vs
  | [], vs, h => h
  | (k, d) :: l, vs, h => by
    obtain ⟨v, r, h1, h2, h3⟩ := h
    exact ⟨v, r, h1, Rep.move hp ha hc h2, RepT.move hp ha hc h3⟩
theorem RepF.move (hp : ∃ more, w'.ph = w.ph ++ more) (ha : ∀ a, Off w a → Off w' a) (hc : ∀ p ∈ w.cl, p ∈ w'.cl) : ∀ {l : List (Nat × D)} {vs : List (Str × V)}, RepF Y w H l vs → RepF Y w' H l vs
  | [], vs, h => h
  | (k, d) :: l, vs, h => by
    obtain ⟨v, r, h1, h2, h3⟩ := h
    exact ⟨v, r, h1, Rep.move hp ha hc h2, RepF.move hp ha hc h3⟩
end

theorem OSim.move (hp : ∃ more, w'.ph = w.ph ++ more) (ha : ∀ a, Off w a → Off w' a) (hc : ∀ p ∈ w.cl, p ∈ w'.cl) {a : Addr} {d : D} (s : OSim Y w H a d) : OSim Y w' H a d := by
  cases d with
  | lst l => obtain ⟨vs, e1, r⟩ := s; exact ⟨vs, e1, r.move hp ha hc⟩
  | dK l => obtain ⟨vs, e1, r⟩ := s; exact ⟨vs, e1, r.move hp ha hc⟩
  | dT l => obtain ⟨vs, e1, r⟩ := s; exact ⟨vs, e1, r.move hp ha hc⟩
  | ins c fs => obtain ⟨dx, fv, e1, r⟩ := s; exact ⟨dx, fv, e1, r.move hp ha hc⟩
  | _ => exact s.elim
/-- the filled thing d stands at p: it is told as it is, or as one that may change -/
theorem Fill.fin {w1 w2 : Wd} {H1 H2 : Hp} {h1 h2 : Hm} {p : Addr} {d : D} {b : Bool} {Q : QD} {Qv : VK} (f : Fill w1 H1 p w2 H2) (s0 : HSim Y w1 H1 h1) (s : HSim Y w2 H2 h2) (os : OSim Y w2 H2 p d) (hr : ∀ w' : Wd, Off w' p → OSim Y w' H2 p d → Rep Y w' H2 d (.ref p))
    (o : OutE Y w1 H1 Q Qv) (q : pinQ b d h2 Q) : Qv (.ref p) H2 := by
  have npav : p ∉ w1.av := s0.not_av f.no
  have npph : p ∉ w2.ph := (s.av p f.av).1
  cases b with
  | false =>
    have mo : ∀ a, Off w2 a → Off ⟨w2.ph, w1.av, w2.cl⟩ a := fun a oa => ⟨oa.1, fun m => oa.2 (by rw [f.ev.av]; exact List.mem_cons_of_mem _ m)⟩
    have mp : ∃ more, (⟨w2.ph, w1.av, w2.cl⟩ : Wd).ph = w2.ph ++ more := ⟨[], by simp⟩
    have s2 : HSim Y ⟨w2.ph, w1.av, w2.cl⟩ H2 h2 := ⟨s.len, s.nd, fun n a e z1 z2 => (s.at_ n a e z1 z2).move mp mo (fun _ z => z), fun a m => s.av a (by rw [f.ev.av]; exact List.mem_cons_of_mem _ m), s.tab⟩
    have e2 : Evo w1 H1 ⟨w2.ph, w1.av, w2.cl⟩ H2 := ⟨f.ev.pre, rfl, f.ev.cl, f.ev.keep, f.ev.ext, f.ev.tup, f.ev.fzo, f.ev.xdk, fun a ha np o e n => f.ev.avk a (List.mem_cons_of_mem _ ha) np o e n⟩
    exact o _ _ _ d h2 e2 s2 (hr _ ⟨npph, npav⟩ (os.move mp mo fun _ z => z)) q
  | true =>
    have mo : ∀ a, Off w2 a → Off ⟨w2.ph ++ [p], w1.av, w2.cl⟩ a := fun a oa => ⟨by
      simp only [List.mem_append, List.mem_singleton, not_or]
      exact ⟨oa.1, fun z => oa.2 (z ▸ f.av)⟩, fun m => oa.2 (by rw [f.ev.av]; exact List.mem_cons_of_mem _ m)⟩
    have mp : ∃ more, (⟨w2.ph ++ [p], w1.av, w2.cl⟩ : Wd).ph = w2.ph ++ more := ⟨[p], rfl⟩
    have s2 : HSim Y ⟨w2.ph ++ [p], w1.av, w2.cl⟩ H2 (h2 ++ [d]) := by
      refine ⟨by simp [s.len], ?_, fun n a e z1 z2 => ?_, fun a m => ⟨?_, (s.av a (by rw [f.ev.av]; exact List.mem_cons_of_mem _ m)).2⟩, s.tab⟩
      · refine List.nodup_append.mpr ⟨s.nd, by simp, fun a ha b hb => ?_⟩
        simp only [List.mem_singleton] at hb
        subst hb
        exact fun z => npph (z ▸ ha)
      · by_cases hn : n < w2.ph.length
        · have z1 : w2.ph[n]? = some a := by rw [← List.getElem?_append_left (l₂ := [p]) hn]; exact z1
          have z2 : h2[n]? = some e := by rw [← List.getElem?_append_left (l₂ := [d]) (by rw [← s.len]; exact hn)]; exact z2
          exact (s.at_ n a e z1 z2).move mp mo fun _ z => z
        · have z1 : ([p] : List Addr)[n - w2.ph.length]? = some a := by rw [← List.getElem?_append_right (by omega)]; exact z1
          have z2 : ([d] : List D)[n - h2.length]? = some e := by rw [← List.getElem?_append_right (by rw [← s.len]; omega)]; exact z2
          have zn : n - w2.ph.length = 0 := by
            have := (List.getElem?_eq_some_iff.mp z1).1
            simp at this
            omega
          rw [zn] at z1
          rw [← s.len, zn] at z2
          cases z1
          cases z2
          exact os.move mp mo fun _ z => z
      · simp only [List.mem_append, List.mem_singleton, not_or]
        exact ⟨(s.av a (by rw [f.ev.av]; exact List.mem_cons_of_mem _ m)).1, fun z => npav (z ▸ m)⟩
    have e2 : Evo w1 H1 ⟨w2.ph ++ [p], w1.av, w2.cl⟩ H2 := by
      obtain ⟨mr, q⟩ := f.ev.pre
      refine ⟨⟨mr ++ [p], by show w2.ph ++ [p] = _; rw [q, List.append_assoc]⟩, rfl, f.ev.cl, fun a o ha e n => ?_, f.ev.ext, f.ev.tup, f.ev.fzo, f.ev.xdk, fun a ha np o e n => f.ev.avk a (List.mem_cons_of_mem _ ha) np o e n⟩
      obtain ⟨z1, o', z2, z3⟩ := f.ev.keep a o ha e n
      refine ⟨?_, o', z2, z3⟩
      simp only [List.mem_append, List.mem_singleton, not_or]
      exact ⟨z1, ne_of_none e f.no⟩
    have hl : (w2.ph ++ [p])[h2.length]? = some p := by rw [← s.len]; simp
    exact o _ _ _ (.ref h2.length) _ e2 s2 ⟨p, hl, rfl⟩ q
end
end Pv
end

section
set_option maxRecDepth 100000
set_option maxHeartbeats 4000000
namespace Pv
open PySem PySem.Spec PyProof.Rows L2
/-! ### targets -/
def tsLen : Ts → Nat
  | .nil => 0
  | .cons _ r => tsLen r + 1
theorem setTs_len : ∀ {ts : Ts} {l : List D} {v v' : Env}, setTs ts l v = some v' → l.length = tsLen ts
  | .nil, [], _, _, _ => rfl
  | .nil, _ :: _, _, _, e => by cases e
  | .cons t ts, [], _, _, e => by cases e
  | .cons t ts, d :: l, v, v', e => by
    obtain ⟨v1, _, e2⟩ := Option.bind_eq_some_iff.mp e
    show l.length + 1 = tsLen ts + 1
    rw [setTs_len e2]
def tG (F : Fr) (t : T) : TG := fun x σ H K => ∃ (w : Wd) (env : Env) (d : D) (env' : Env), EnvSim F.Y w H F.bad F.ce F.lk env σ ∧ Rep F.Y w H d x ∧ setT t d env = some env' ∧
  ∀ σ', EnvSim F.Y w H F.bad F.ce F.lk env' σ' → (∀ j, j ∉ slotsT t → σ'[j]? = σ[j]?) → K σ' H
def tGs (F : Fr) (t : Ts) : TGs := fun xs σ H K => ∃ (w : Wd) (env : Env) (ds : List D) (env' : Env), EnvSim F.Y w H F.bad F.ce F.lk env σ ∧ Reps F.Y w H ds xs ∧ setTs t ds env = some env' ∧
  ∀ σ', EnvSim F.Y w H F.bad F.ce F.lk env' σ' → (∀ j, j ∉ slotsTs t → σ'[j]? = σ[j]?) → K σ' H
theorem _root_.L2.PG.imp {X : Cx} {e : Expr} {t t' : TG} (h : PG X e t) (i : ∀ v σ H Q, t' v σ H Q → t v σ H Q) : PG X e t' := ⟨fun pins s σ H v u Q I r q => h.run pins s σ H v u Q I r (i v σ H Q q)⟩
theorem _root_.L2.PGs.imp {X : Cx} {e : List Expr} {t t' : TGs} (h : PGs X e t) (i : ∀ v σ H Q, t' v σ H Q → t v σ H Q) : PGs X e t' := ⟨fun pins s σ H v u Q I r q => h.run pins s σ H v u Q I r (i v σ H Q q)⟩
section
variable {Y : At} {w : Wd} {H : Hp} {bad : Option Bad} {ce : Nat → Option Addr} {lk : List Nat} {env : Env} {σ : L2.St}
theorem EnvSim.set {i : Nat} {d : D} {x : V} (s : EnvSim Y w H bad ce lk env σ) (r : Rep Y w H d x) (hi : i ∉ lk) : EnvSim Y w H bad ce lk (env.set i (some d)) (σ.set i (some x)) := by
  refine ⟨by rw [List.length_set, List.length_set]; exact s.len, fun j e h1 h2 => ?_, fun b hb y fs q => ?_, fun c v m => ?_, fun j hj v e => ?_⟩
  · by_cases z : i = j
    · subst z
      have hl : i < env.length := by
        have := (List.getElem?_eq_some_iff.mp h1).1
        rwa [List.length_set] at this
      rw [List.getElem?_set_self hl] at h1
      cases h1
      exact ⟨x, List.getElem?_set_self (by rw [← s.len]; exact hl), r⟩
    · rw [List.getElem?_set_ne z] at h1 ⊢
      exact s.at_ j e h1 h2
  · by_cases z : i = b.i
    · subst z
      have hl : b.i < env.length := by
        have := (List.getElem?_eq_some_iff.mp q).1
        rwa [List.length_set] at this
      rw [List.getElem?_set_self hl] at q
      cases q
      exact r.elim
    · rw [List.getElem?_set_ne z] at q ⊢
      exact s.be b hb y fs q
  · obtain ⟨j, hj, e1, e2⟩ := s.cin c v m
    exact ⟨j, hj, e1, by rw [List.getElem?_set_ne (fun z : i = j => hi (z ▸ hj))]; exact e2⟩
  · rw [List.getElem?_set_ne (fun z : i = j => hi (z ▸ hj))] at e
    exact s.cup j hj v e
end
section
variable {X : Cx} {F : Fr} {pos : Pos}
theorem ok_gname {i : Nat} {x : Str} (hN : X.N.Nodup) (hi : X.N[i]? = some x) (hx : Loc X.env.scope x) (hf : X.fn x = true ∨ X.env.scope.names.lookup x = some .local) (hl : i ∉ F.lk) : PG X (.Name x pos) (tG F (.slot i)) :=
  (pg_name hN hi hx hf).imp fun v σ H Q ⟨w, env, d, env', es, r, e, k⟩ => by
    cases e
    exact k _ (es.set r hl) fun j hj => List.getElem?_set_ne (fun z => hj (by rw [← z]; exact List.mem_cons_self))
theorem ok_gnil : PGs X [] (tGs F .nil) := pgs_nil.imp fun vs σ H Q ⟨w, env, ds, env', es, r, e, k⟩ => by
  cases ds with
  | nil => cases e; exact ⟨r, k _ es fun _ _ => rfl⟩
  | cons d ds => cases e
theorem ok_gcons {e : Expr} {es : List Expr} {t : T} {ts : Ts} (h : PG X e (tG F t)) (hs : PGs X es (tGs F ts)) (hst : (assignEach (e :: es) X.env).map (·.2) = assign e X.env :: (assignEach es X.env).map (·.2)) : PGs X (e :: es) (tGs F (.cons t ts)) := by
  exact (pgs_cons h hs hst).imp fun vs σ H Q ⟨w, env, ds, env', es', rs, e, k⟩ => by
    cases ds with
    | nil => cases e
    | cons d ds =>
      obtain ⟨v, vs', rfl, r1, r2⟩ := rs
      obtain ⟨env1, e1, e2⟩ := Option.bind_eq_some_iff.mp e
      refine ⟨v, vs', rfl, w, env, d, env1, es', r1, e1, fun σ1 es1 k1 => ⟨w, env1, ds, env', es1, r2, e2, fun σ2 es2 k2 => k σ2 es2 fun j hj => ?_⟩⟩
      exact (k2 j fun z => hj (List.mem_append_right _ z)).trans (k1 j fun z => hj (List.mem_append_left _ z))
theorem ok_gtup {es : List Expr} {k n : Nat} {ts : Ts} (hK : X.K = F.Y.K) (hc : X.calm = true) (h : PGs X es (tGs F ts)) (hn : (assignEach es X.env).length = n) (hst : (assignEach es X.env).findIdx? (·.1) = none) (hts : tsLen ts = n) : PG X (.Tuple es k pos) (tG F (.tup ts)) :=
  (pg_tup hc h hn hst).imp fun v σ H Q ⟨w, env, d, env', es, r, e, k⟩ => by
    cases d with
    | tup l =>
      obtain ⟨a, vs, rfl, k1, k2⟩ := r
      exact ⟨a, vs, rfl, SqT.of k1, by rw [← k2.length, setTs_len e, hts], w, env, l, env', es, k2, e, k⟩
    | wt l =>
      obtain ⟨a, vs, rfl, k1, k2⟩ := r
      exact ⟨a, vs, rfl, by rw [hK]; exact k1.sq, by rw [← k2.length, setTs_len e, hts], w, env, l, env', es, k2, e, k⟩
    | _ => cases e
end
/-! ### new containers -/
section
variable {Y : At} {w : Wd} {H : Hp} {h : Hm}
theorem mk_lst {b : Bool} {l : List D} {vs : List V} {Q : QD} {Qv : VK} (s : HSim Y w H h) (r : Reps Y w H l vs) (o : OutE Y w H Q Qv) (q : pinQ b (.lst l) h Q) : ∀ p, H p = none → Qv (.ref p) (upd H p (.lst vs)) := fun p hp => by
  cases b with
  | false => exact new_lst s r (fun w' H' v e s' r' => o w' H' v _ h e s' r' q) p hp
  | true =>
    have hl : (w.ph ++ [p])[h.length]? = some p := by rw [← s.len]; simp
    exact o _ _ _ (.ref h.length) _ (Evo.pin hp) (s.pin (d := .lst l) hp ⟨vs, upd_same, r.mono (Evo.pin hp)⟩) ⟨p, hl, rfl⟩ q
end
section
variable {X : Cx} {F : Fr} {a e : Expr} {es : List Expr} {ea ee : E} {ees : Es} {pos : Pos} {b : Bool}
theorem ok_lst (ha : PA X es (tEs F ees)) : PE X (.List es pos) (tE F (.mk b (.lst ees))) :=
  (pe_lst ha).imp fun σ H Q ⟨w, env, h, Qd, Xd, hs, es, hd, o, ox⟩ =>
    ⟨w, env, h, _, Xd, hs, es, hd, fun w1 H1 vs l h1 e1 s1 r1 q1 => by
      refine ⟨by rw [← r1.length, ← lineEq]; exact q1.1, mk_lst s1 r1 (o.evo e1) q1.2⟩, ox⟩
/-! ### comprehensions -/
abbrev Fr.cmp (F : Fr) : Fr := { F with W := fun _ _ _ _ => False }
/-- tests of a comprehension -/
def tTs (F : Fr) (ifs : Es) : TT := fun σ H Qv => ∃ (w : Wd) (env : Env) (h : Hm) (Q : Bool → Hm → Prop), HSim F.Y w H h ∧ EnvSim F.Y w H F.bad F.ce F.lk env σ ∧ dTests F.P F.C ifs env h Q ∧ ∀ w' H' b h', Evo w H w' H' → HSim F.Y w' H' h' → Q b h' → Qv b H'
theorem _root_.L2.PTs.imp {X : Cx} {e : List Expr} {t t' : TT} (h : PTs X e t) (i : ∀ σ H Q, t' σ H Q → t σ H Q) : PTs X e t' := ⟨fun pins s σ H Q I q => h.run pins s σ H Q I (i σ H Q q)⟩
theorem ok_ts0 : PTs X [] (tTs F .nil) := pts_nil.imp fun σ H Q ⟨w, env, h, Qd, hs, es, hd, o⟩ => o w H true h (Evo.refl _ _) hs hd
theorem ok_ts1 {c : Expr} {ec : E} (h : PT X c (tT F ec)) : PTs X [c] (tTs F (.cons ec .nil)) := (pts_one h).imp fun σ H Q ⟨w, env, h, Qd, hs, es, hd, o⟩ => by
  refine ⟨w, env, h, Qd, fun _ _ => False, hs, es, ?_, o, fun _ _ _ _ _ _ _ _ _ z => z.elim⟩
  have e : (fun (d : D) (h1 : Hm) => ∃ b, d = .bl b ∧ if b = true then Qd true h1 else Qd false h1) = fun d h1 => ∃ b, d = .bl b ∧ Qd b h1 := by
    funext d h1
    refine propext ⟨fun ⟨b, e, q⟩ => ⟨b, e, ?_⟩, fun ⟨b, e, q⟩ => ⟨b, e, ?_⟩⟩
    · cases b <;> exact q
    · cases b <;> exact q
  exact e ▸ hd
theorem wipe_same {σ σ2 : L2.St} (hl : σ2.length = σ.length) : ∀ (vs : List Nat), (∀ j, j ∉ vs → σ2[j]? = σ[j]?) → L2.wipe σ2 vs = L2.wipe σ vs := fun vs h => by
  refine List.ext_getElem? fun j => ?_
  have key : ∀ (τ : L2.St) (ws : List Nat), (L2.wipe τ ws)[j]? = if j ∈ ws ∧ j < τ.length then some none else τ[j]? := by
    intro τ ws
    induction ws with
    | nil => simp [L2.wipe]
    | cons a ws ih =>
      show ((L2.wipe τ ws).set a none)[j]? = _
      by_cases z : a = j
      · subst z
        by_cases zl : a < τ.length
        · rw [List.getElem?_set_self (by rw [wipe_length]; exact zl), if_pos ⟨List.mem_cons_self, zl⟩]
        · rw [if_neg (fun q => zl q.2), List.getElem?_eq_none (by rw [List.length_set, wipe_length]; omega), List.getElem?_eq_none (by omega)]
      · rw [List.getElem?_set_ne z, ih]
        have : (j ∈ a :: ws ∧ j < τ.length) ↔ (j ∈ ws ∧ j < τ.length) := by simp [Ne.symm z]
        by_cases q : j ∈ ws ∧ j < τ.length
        · rw [if_pos q, if_pos (this.mpr q)]
        · rw [if_neg q, if_neg (fun y => q (this.mp y))]
  rw [key, key, hl]
  by_cases z : j ∈ vs
  · by_cases zl : j < σ.length
    · rw [if_pos ⟨z, zl⟩, if_pos ⟨z, zl⟩]
    · rw [if_neg (fun q => zl q.2), if_neg (fun q => zl q.2), List.getElem?_eq_none (by omega), List.getElem?_eq_none (by omega)]
  · rw [if_neg (fun q => z q.1), if_neg (fun q => z q.1)]
    exact h j z
theorem envsim_wipe {Y : At} {w : Wd} {H : Hp} {bad : Option Bad} {ce : Nat → Option Addr} {env : Env} {σ : L2.St} (s : EnvSim Y w H bad ce [] env σ) : ∀ js : List Nat, EnvSim Y w H bad ce [] (Pv.wipe env js) (L2.wipe σ js)
  | [] => s
  | j :: js => by
    have q := envsim_wipe s js
    refine ⟨?_, fun i d h1 h2 => ?_, fun b hb y fs e => ?_, fun c v m => ?_, fun i m => absurd m (by simp)⟩
    · show ((Pv.wipe env js).set j none).length = ((L2.wipe σ js).set j none).length
      rw [List.length_set, List.length_set]
      exact q.len
    · have h1 : ((Pv.wipe env js).set j none)[i]? = some (some d) := h1
      show ∃ v, ((L2.wipe σ js).set j none)[i]? = some (some v) ∧ _
      by_cases z : j = i
      · subst z
        have hl : j < (Pv.wipe env js).length := by
          have := (List.getElem?_eq_some_iff.mp h1).1
          rwa [List.length_set] at this
        rw [List.getElem?_set_self hl] at h1
        cases h1
      · rw [List.getElem?_set_ne z] at h1 ⊢
        exact q.at_ i d h1 h2
    · have e : ((Pv.wipe env js).set j none)[b.i]? = some (some (.exc y fs)) := e
      show ((L2.wipe σ js).set j none)[b.i]? = _ ∧ _
      by_cases z : j = b.i
      · have hl : j < (Pv.wipe env js).length := by
          have := (List.getElem?_eq_some_iff.mp e).1
          rw [List.length_set, ← z] at this
          exact this
        rw [← z, List.getElem?_set_self hl] at e
        cases e
      · rw [List.getElem?_set_ne z] at e ⊢
        exact q.be b hb y fs e
    · obtain ⟨j, hj, _⟩ := q.cin c v m
      cases hj
theorem repX_shy {Y : At} {w : Wd} {H : Hp} {p : Addr} (hp : H p = none) {x : Ex} {cls : Value} {dd : Option Addr} (r : RepX Y w H x cls dd) : RepX Y (w.shy p) H x cls dd := by
  unfold RepX at r ⊢
  split
  · rename_i c z
    rw [z] at r
    exact ⟨r.1, r.2.imp id fun ⟨a, fv, r3, r4, r5⟩ => ⟨a, fv, r3, r4, r5.shy hp⟩⟩
  · rename_i n z
    rw [z] at r
    exact r
theorem EnvSim.shyFill {Y : At} {w1 w2 : Wd} {H1 H2 : Hp} {p : Addr} {bad : Option Bad} {ce : Nat → Option Addr} {lk : List Nat} {env : Env} {σ : L2.St} (s : EnvSim Y w1 H1 bad ce lk env σ) (f : Fill w1 H1 p w2 H2) : EnvSim Y w2 H2 bad ce lk env σ :=
  ⟨s.len, fun i d h1 h2 => let ⟨v, h3, h4⟩ := s.at_ i d h1 h2; ⟨v, h3, (h4.shy f.no).mono f.ev⟩, fun b hb y fs q => let ⟨q1, q2⟩ := s.be b hb y fs q; ⟨q1, (repX_shy f.no q2).mono f.ev⟩, by rw [f.ev.cl]; exact s.cin, by rw [f.ev.cl]; exact s.cup⟩
theorem wipe_out (σ : L2.St) {js : List Nat} : ∀ {j : Nat}, j ∉ js → (L2.wipe σ js)[j]? = σ[j]? := by
  induction js with
  | nil => intro j _; rfl
  | cons a js ih =>
    intro j hj
    show ((L2.wipe σ js).set a none)[j]? = _
    rw [List.getElem?_set_ne (fun z : a = j => hj (by rw [z]; exact List.mem_cons_self))]
    exact ih fun z => hj (List.mem_cons_of_mem _ z)
theorem wipe_len (env : Env) : ∀ js : List Nat, (Pv.wipe env js).length = env.length
  | [] => rfl
  | j :: js => by
    show ((Pv.wipe env js).set j none).length = _
    rw [List.length_set, wipe_len env js]
mutual
theorem setT_len : ∀ (t : T) {d : D} {v v' : Env}, setT t d v = some v' → v'.length = v.length
  | .slot i, d, v, v', e => by cases e; exact List.length_set
  | .tup ts, .tup l, v, v', e => setTs_vlen ts e
  | .tup ts, .wt l, v, v', e => setTs_vlen ts e
  | .tup ts, .non, v, v', e => by cases e
  | .tup ts, .bl _, v, v', e => by cases e
  | .tup ts, .int _, v, v', e => by cases e
  | .tup ts, .str _, v, v', e => by cases e
  | .tup ts, .lst _, v, v', e => by cases e
  | .tup ts, .dK _, v, v', e => by cases e
  | .tup ts, .dT _, v, v', e => by cases e
  | .tup ts, .rng _ _, v, v', e => by cases e
  | .tup ts, .ins _ _, v, v', e => by cases e
  | .tup ts, .ref _, v, v', e => by cases e
  | .tup ts, .fn _, v, v', e => by cases e
  | .tup ts, .cls _, v, v', e => by cases e
  | .tup ts, .clo _ _, v, v', e => by cases e
  | .tup ts, .exc _ _, v, v', e => by cases e
  | .tup ts, .scr _, v, v', e => by cases e
theorem setTs_vlen : ∀ (ts : Ts) {l : List D} {v v' : Env}, setTs ts l v = some v' → v'.length = v.length
  | .nil, [], v, v', e => by cases e; rfl
  | .nil, _ :: _, v, v', e => by cases e
  | .cons t ts, [], v, v', e => by cases e
  | .cons t ts, d :: l, v, v', e => by
    obtain ⟨v1, e1, e2⟩ := Option.bind_eq_some_iff.mp e
    exact (setTs_vlen ts e2).trans (setT_len t e1)
end
/-- what stands at a place that is kept off stays -/
theorem Evo.lstAv {Y : At} {w w' : Wd} {H H' : Hp} {h : Hm} {p : Addr} {vs : List V} (e : Evo w H w' H') (s : HSim Y w H h) (hp : p ∈ w.av) (k : H p = some (.lst vs)) : H' p = some (.lst vs) := by
  obtain ⟨_, o', k', l⟩ := e.keep p _ (s.av p hp).1 k (fun _ z => nomatch z)
  rw [k', l.eq (fun _ z => nomatch z) (fun _ z => nomatch z)]
theorem tE_comp {t : T} {it : It} {ifs' : Es} (hlk : F.lk = []) {js : List Nat} (hown : js = slotsT t) {σ : L2.St} {H : Hp} {Q : VK} (z : tE F (.mk b (.comp ee (.mk t it ifs'))) σ H Q) : tLc (tIt F it) (tG F.cmp t) (tTs F.cmp ifs') (tE F.cmp ee) js σ H Q := by
    obtain ⟨w, env, h, Qd, Xd, hs, es, hd, o, ox⟩ := z
    refine ⟨w, env, h, _, Xd, hs, es, hd, fun w1 H1 J st l h1 e1 s1 wk q p hp => ?_, ox⟩
    obtain ⟨hl, q⟩ := q
    obtain ⟨G, Yv, wlk, hG, hY⟩ := wk [p] (fun a m => by rw [List.mem_singleton.mp m]; exact hp)
    have es1 := es.mono e1
    rw [hlk] at es1
    refine lc_it wlk (fun i H2 => ∃ w2 h2 acc vs, Fill w1 H1 p w2 H2 ∧ HSim F.Y w2 H2 h2 ∧ H2 p = some (.lst vs) ∧ Reps F.Y w2 H2 acc vs ∧ acc.length ≤ i ∧
      loopQ (fun x acc h k => ∃ v', setT t x (Pv.wipe env (slotsT t)) = some v' ∧ dTests F.P F.C ifs' v' h (fun b h' => if b = true then dE F.P F.C ee v' h' (fun d h'' => k (acc ++ [d]) h'') (fun _ _ => False) else k acc h')) st (l.drop i) acc h2 (fun acc h2 => pinQ b (.lst acc) h2 Qd))
      ⟨w1.shy p, h1, [], [], Fill.start hp, s1.shyNew ⟨fun _ z => (nomatch z), fun _ _ z => (nomatch z)⟩ hp, upd_same, rfl, Nat.le_refl _, q⟩ ?_ ?_ ?_
    · rintro i H2 _ ⟨w2, h2, acc, vs, f, s2, k1, k2, k3, lq⟩
      refine hG w2 H2 h2 f.ev s2 ?_
      cases hdr : l.drop i with
      | nil => rw [hdr] at lq; exact lq.1
      | cons x xs => rw [hdr] at lq; exact lq.1
    · rintro i x H2 H3 hi2 ⟨w2, h2, acc, vs, f, s2, k1, k2, k3, lq⟩ y
      rw [List.drop_eq_getElem_cons hi2] at lq
      obtain ⟨st2, env', hset, lq⟩ := lq
      obtain ⟨d, hd2, ev, s3, rd⟩ := hY i x w2 H2 h2 H3 hi2 f.ev s2 st2 y
      rw [List.getElem?_eq_getElem hi2] at hd2
      cases hd2
      have f3 := f.step ev
      have es3 : EnvSim F.Y w2 H3 F.bad F.ce [] (Pv.wipe env (slotsT t)) (L2.wipe σ (slotsT t)) := envsim_wipe (es1.shyFill f3) _
      rw [hown]
      refine ⟨w2, Pv.wipe env (slotsT t), l[i], env', by rw [hlk]; exact es3, rd, hset, fun σ2 es4 hj => ?_⟩
      have hlen : σ2.length = σ.length := by
        rw [← es4.len, ← es1.len]
        exact (setT_len t hset).trans (wipe_len env _)
      refine ⟨wipe_same hlen _ fun j hj2 => (hj j hj2).trans (wipe_out σ hj2), w2, env', h2, _, s3, es4, lq, fun w4 H4 bb h4 ev4 s4 q4 => ?_⟩
      have f4 := f3.step ev4
      have k14 : H4 p = some (.lst vs) := by
        have hp2 := f3.av
        have z3 : H3 p = some (.lst vs) := (ev.lstAv s2 f.av k1)
        exact ev4.lstAv s3 f3.av z3
      cases bb with
      | false =>
        exact ⟨w4, h4, acc, vs, f4, s4, k14, (k2.mono ev).mono ev4, by omega, q4⟩
      | true =>
        refine ⟨w4, env', h4, _, fun _ _ => False, s4, es4.mono ev4, q4, fun w5 H5 v5 d5 h5 ev5 s5 r5 q5 => ?_, fun _ _ _ _ _ _ _ _ _ z => z.elim⟩
        have f5 := f4.step ev5
        have k15 : H5 p = some (.lst vs) := ev5.lstAv s4 f4.av k14
        have hv : vs.length = acc.length := k2.length.symm
        have bx : H5 p = some (.lst vs) ∧ Box (.lst vs) := ⟨k15, .inl ⟨_, rfl⟩⟩
        refine ⟨vs, k15, by rw [← lineEq]; omega, w5, h5, acc ++ [d5], vs ++ [v5], f5.put, s5.updAv ⟨fun _ z => (nomatch z), fun _ _ z => (nomatch z)⟩ f5.av bx, upd_same, ?_, by rw [List.length_append]; simp; omega, q5⟩
        exact Reps.updAv f5.av bx ((((k2.mono ev).mono ev4).mono ev5).append ⟨v5, [], rfl, r5, rfl⟩)
    · rintro H2 ⟨w2, h2, acc, vs, f, s2, k1, k2, k3, lq⟩
      rw [List.drop_length] at lq
      exact f.fin s1 s2 (d := .lst acc) ⟨vs, k1, k2⟩ (fun w' off os => by
        obtain ⟨vs', z1, z2⟩ := os
        exact ⟨p, vs', rfl, off, z1, z2⟩) (o.evo e1) lq.2
theorem ok_comp {elt tg iter : Expr} {ifs : List Expr} {scope : Scope} {own : List (Str × Nat)} {t : T} {it : It} {ifs' : Es} (hlk : F.lk = []) (hc : X.calm = true) (hN : X.N.Nodup) (hi : PI X tg iter (tIt F it)) (ok : BlkOk X.N X.env.scope scope own) (hown : own.map (·.2) = slotsT t)
    (hg : ∀ (s : Shared) (H : Hp) (C : Addr) (cl : List (Str × Addr)) (fp : List Addr), PG (X.blk s H scope (compEnvC scope cl C X.env) fp) tg (tG F.cmp t)) (ht : ∀ (s : Shared) (H : Hp) (C : Addr) (cl : List (Str × Addr)) (fp : List Addr), PTs (X.blk s H scope (compEnvC scope cl C X.env) fp) ifs (tTs F.cmp ifs'))
    (he : ∀ (s : Shared) (H : Hp) (C : Addr) (cl : List (Str × Addr)) (fp : List Addr), PE (X.blk s H scope (compEnvC scope cl C X.env) fp) elt (tE F.cmp ee)) (hs : ∀ x, foldedSetIterable iter X.env x = pure x) :
    PE X (.ListComp elt [⟨tg, iter, ifs, 0⟩] scope pos) (tE F (.mk b (.comp ee (.mk t it ifs')))) :=
  (pe_lc hc hN hi ok hg ht he hs).imp fun _ _ _ z => tE_comp hlk hown z
theorem tS_slot {e : E} {i : Nat} (hl : i ∉ F.lk) {D : L2.Ends} {σ : L2.St} {H : Hp} (z : ∃ (w : Wd) (env : Env) (h : Hm) (Qd : QD) (Xd : QX), HSim F.Y w H h ∧ EnvSim F.Y w H F.bad F.ce F.lk env σ ∧ dE F.P F.C e env h Qd Xd ∧ (∀ w' H' v d h', Evo w H w' H' → HSim F.Y w' H' h' → Rep F.Y w' H' d v → EnvSim F.Y w' H' F.bad F.ce F.lk (env.set i (some d)) (σ.set i (some v)) → Qd d h' → D.nx (σ.set i (some v)) H') ∧ OutX F.Y w H Xd fun c d H' => F.W c d σ H') : tE F e σ H (fun x H1 => gName i x σ H1 D.nx) := by
  obtain ⟨w, env, h, Qd, Xd, hs, es, hd, o, ox⟩ := z
  exact ⟨w, env, h, Qd, Xd, hs, es, hd, fun w1 H1 v1 d1 h1 e1 s1 r1 q1 => o w1 H1 v1 d1 h1 e1 s1 r1 ((es.mono e1).set r1 hl) q1, ox⟩
end
end Pv
end

section
set_option maxRecDepth 100000
set_option maxHeartbeats 4000000
namespace Pv
open PySem PySem.Spec PyProof.Rows L2
/-! ### statements -/
structure OutS (F : Fr) (w : Wd) (H : Hp) (DD : Pv.Ends) (D : L2.Ends) : Prop where
  nx : ∀ w' H' env' h' σ', Evo w H w' H' → HSim F.Y w' H' h' → EnvSim F.Y w' H' F.bad F.ce F.lk env' σ' → DD.nx env' h' → D.nx σ' H'
  rt : ∀ w' H' v d h', Evo w H w' H' → HSim F.Y w' H' h' → Rep F.Y w' H' d v → DD.rt d h' → D.rt v H'
  bk : ∀ w' H' env' h' σ', Evo w H w' H' → HSim F.Y w' H' h' → EnvSim F.Y w' H' F.bad F.ce F.lk env' σ' → DD.bk env' h' → D.bk σ' H'
  ct : ∀ w' H' env' h' σ', Evo w H w' H' → HSim F.Y w' H' h' → EnvSim F.Y w' H' F.bad F.ce F.lk env' σ' → DD.ct env' h' → D.ct σ' H'
  ex : ∀ w' H' env' h' σ' x cls dd, Evo w H w' H' → HSim F.Y w' H' h' → EnvSim F.Y w' H' F.bad F.ce F.lk env' σ' → RepX F.Y w' H' x cls dd → DD.ex env' x h' → F.W cls dd σ' H'
theorem OutS.evo {F : Fr} {w w1 : Wd} {H H1 : Hp} {DD : Pv.Ends} {D : L2.Ends} (o : OutS F w H DD D) (e : Evo w H w1 H1) : OutS F w1 H1 DD D :=
  ⟨fun w' H' env' h' σ' e2 => o.nx w' H' env' h' σ' (e.trans e2), fun w' H' v d h' e2 => o.rt w' H' v d h' (e.trans e2), fun w' H' env' h' σ' e2 => o.bk w' H' env' h' σ' (e.trans e2), fun w' H' env' h' σ' e2 => o.ct w' H' env' h' σ' (e.trans e2),
    fun w' H' env' h' σ' x c d e2 => o.ex w' H' env' h' σ' x c d (e.trans e2)⟩
/-- an expression's errors within a statement -/
theorem OutS.outX {F : Fr} {w : Wd} {H : Hp} {DD : Pv.Ends} {D : L2.Ends} {env : Env} {σ : L2.St} (o : OutS F w H DD D) (es : EnvSim F.Y w H F.bad F.ce F.lk env σ) : OutX F.Y w H (DD.ex env) fun c d H' => F.W c d σ H' :=
  fun w' H' x cls dd h' e s r q => o.ex w' H' env h' σ x cls dd e s (es.mono e) r q
def tS (F : Fr) (s : S) : TS := fun D σ H => ∃ (w : Wd) (env : Env) (h : Hm) (DD : Pv.Ends), HSim F.Y w H h ∧ EnvSim F.Y w H F.bad F.ce F.lk env σ ∧ dS F.P F.C s DD env h ∧ OutS F w H DD D
def tSs (F : Fr) (ss : Ss) : TS := fun D σ H => ∃ (w : Wd) (env : Env) (h : Hm) (DD : Pv.Ends), HSim F.Y w H h ∧ EnvSim F.Y w H F.bad F.ce F.lk env σ ∧ dSs F.P F.C ss DD env h ∧ OutS F w H DD D
section
variable {X : Cx} {F : Fr} {st : Stmt} {rest : List Stmt} {s : S} {ss sa sb : Ss} {a e c : Expr} {ee ea ec : E} {t : T} {pos : Pos}
theorem ok_snil : PSs X [] (tSs F .nil) := pss_nil.imp fun D σ H ⟨w, env, h, DD, hs, es, hd, o⟩ => o.nx w H env h σ (Evo.refl _ _) hs es hd
theorem ok_scons (h1 : PS X st (tS F s)) (h2 : PSs X rest (tSs F ss)) : PSs X (st :: rest) (tSs F (.cons s ss)) :=
  (pss_cons h1 h2).imp fun D σ H ⟨w, env, h, DD, hs, es, hd, o⟩ =>
    ⟨w, env, h, { DD with nx := fun v' h' => dSs F.P F.C ss DD v' h' }, hs, es, hd, fun w' H' env' h' σ' e s' es' q => ⟨w', env', h', DD, s', es', q, o.evo e⟩, o.rt, o.bk, o.ct, o.ex⟩
theorem ok_pass : PS X (.Pass pos) (tS F .pass_) := ps_pass.imp fun D σ H ⟨w, env, h, DD, hs, es, hd, o⟩ => o.nx w H env h σ (Evo.refl _ _) hs es hd
theorem ok_brk : PS X (.Break pos) (tS F .brk) := ps_break.imp fun D σ H ⟨w, env, h, DD, hs, es, hd, o⟩ => o.bk w H env h σ (Evo.refl _ _) hs es hd
theorem ok_cnt : PS X (.Continue pos) (tS F .cnt) := ps_continue.imp fun D σ H ⟨w, env, h, DD, hs, es, hd, o⟩ => o.ct w H env h σ (Evo.refl _ _) hs es hd
theorem ok_expr (he : PE X e (tE F ee)) (hsw : swapsWith e none pos.line X.env = pure false) : PS X (.Expr e pos) (tS F (.expr ee)) :=
  (ps_expr he hsw).imp fun D σ H ⟨w, env, h, DD, hs, es, hd, o⟩ =>
    ⟨w, env, h, _, DD.ex env, hs, es, hd, fun w1 H1 v1 d1 h1 e1 s1 r1 q1 => o.nx w1 H1 env h1 σ e1 s1 (es.mono e1) q1, o.outX es⟩
theorem ok_ret (he : PE X e (tE F ee)) : PS X (.Return (some e) pos) (tS F (.ret ee)) :=
  (ps_ret he).imp fun D σ H ⟨w, env, h, DD, hs, es, hd, o⟩ => ⟨w, env, h, DD.rt, DD.ex env, hs, es, hd, fun w1 H1 v1 d1 h1 e1 s1 r1 q1 => o.rt w1 H1 v1 d1 h1 e1 s1 r1 q1, o.outX es⟩
theorem ok_retN : PS X (.Return none pos) (tS F .retN) := ps_retN.imp fun D σ H ⟨w, env, h, DD, hs, es, hd, o⟩ => o.rt w H .non .non h (Evo.refl _ _) hs rfl hd
theorem ok_iff {ba bb : List Stmt} (hc : PT X c (tT F ec)) (ha : PSs X ba (tSs F sa)) (hb : PSs X bb (tSs F sb)) : PS X (.If c ba bb pos) (tS F (.iff ec sa sb)) :=
  (ps_if hc ha hb).imp fun D σ H ⟨w, env, h, DD, hs, es, hd, o⟩ => by
    refine ⟨w, env, h, fun k h1 => if k = true then dSs F.P F.C sa DD env h1 else dSs F.P F.C sb DD env h1, DD.ex env, hs, es, hd, fun w1 H1 k h1 e1 s1 q1 => ?_, o.outX es⟩
    cases k with
    | true => exact ⟨w1, env, h1, DD, s1, es.mono e1, q1, o.evo e1⟩
    | false => exact ⟨w1, env, h1, DD, s1, es.mono e1, q1, o.evo e1⟩
theorem ok_asg {tg : Expr} (he : PE X e (tE F ee)) (hg : PG X tg (tG F t)) (hs : swapsWithSole [tg] e pos.line X.env = pure false) (hw : swappedStores [tg] e X.env = pure none) (h1 : (assignEach [tg] X.env).map (·.2) = [assign tg X.env]) :
    PS X (.Assign [tg] e pos) (tS F (.asg t ee)) :=
  (ps_asg he hg hs hw h1).imp fun D σ H ⟨w, env, h, DD, hs, es, hd, o⟩ =>
    ⟨w, env, h, _, DD.ex env, hs, es, hd, fun w1 H1 v1 d1 h1 e1 s1 r1 ⟨env', hset, q1⟩ => ⟨w1, env, d1, env', es.mono e1, r1, hset, fun σ' es' _ => o.nx w1 H1 env' h1 σ' e1 s1 es' q1⟩, o.outX es⟩
/-- x = e -/
theorem ok_set {i : Nat} {x : Str} {px : Pos} (hN : X.N.Nodup) (hi : X.N[i]? = some x) (hx : Loc X.env.scope x) (hl : i ∉ F.lk) (he : PE X e (tE F ee)) (hs : swapsWith e (some (.Name x px)) pos.line X.env = pure false) (hf : X.fn x = true ∨ X.env.scope.names.lookup x = some .local) :
    PS X (.Assign [.Name x px] e pos) (tS F (.asg (.slot i) ee)) :=
  (ps_set hN hi hx he hs hf).imp fun D σ H ⟨w, env, h, DD, hs, es, hd, o⟩ =>
    ⟨w, env, h, _, DD.ex env, hs, es, hd, fun w1 H1 v1 d1 h1 e1 s1 r1 ⟨env', hset, q1⟩ => by
      cases hset
      exact o.nx w1 H1 _ h1 _ e1 s1 ((es.mono e1).set r1 hl) q1, o.outX es⟩
/-- a, b = x, y -/
theorem ok_par {i j : Nat} {x y : Str} {b : Expr} {ees : Es} {px py pt : Pos} {kt k2 pt2} (hc : X.calm = true) (hN : X.N.Nodup) (hi : X.N[i]? = some x) (hj : X.N[j]? = some y) (hij : i ≠ j) (hli : i ∉ F.lk) (hlj : j ∉ F.lk)
    (hx : X.env.scope.names.lookup x = some .local) (hy : X.env.scope.names.lookup y = some .local) (ha : PA X [a, b] (tEs F ees)) (h : PS X (.Assign [.Tuple [.Name x px, .Name y py] kt pt] (.Tuple [a, b] k2 pt2) pos) (tPar i j (tEs F ees))) :
    PS X (.Assign [.Tuple [.Name x px, .Name y py] kt pt] (.Tuple [a, b] k2 pt2) pos) (tS F (.asg (.tup (.cons (.slot i) (.cons (.slot j) .nil))) (.tup ees))) :=
  h.imp fun D σ H ⟨w, env, h, DD, hs, es, hd, o⟩ => by
    refine ⟨w, env, h, _, DD.ex env, hs, es, hd, fun w1 H1 vs l h1 e1 s1 r1 q1 => ?_, o.outX es⟩
    obtain ⟨_, env', hset, q1⟩ := q1
    match l, r1, hset with
    | [d1, d2], r1, hset =>
      obtain ⟨v1, v2, rfl, ra, rb⟩ := reps2 r1
      cases hset
      exact ⟨v1, v2, rfl, o.nx w1 H1 _ h1 _ e1 s1 (((es.mono e1).set ra hli).set rb hlj) q1⟩
    | [], _, hset => cases hset
    | [_], _, hset => cases hset
    | _ :: _ :: _ :: _, _, hset => cases hset
/-! ### for -/
theorem ok_for {tg iter : Expr} {body : List Stmt} {it : It} (hp : PassesOwn (model X.prog X.w) X.A X.env X.xe) (hc : X.calm = true) (hi : PI X tg iter (tIt F it)) (hg : PG X tg (tG F t)) (hb : PSs X body (tSs F ss)) (hfs : ∀ x, foldedSetIterable iter X.env x = pure x) :
    PS X (.For tg iter body [] pos) (tS F (.for_ t it ss)) :=
  (ps_for hp hc hi hg hb hfs).imp fun D σ H ⟨w, env, h, DD, hs, es, hd, o⟩ => by
    refine ⟨w, env, h, _, DD.ex env, hs, es, hd, fun w1 H1 J st l h1 e1 s1 wk q => ?_, o.outX es⟩
    obtain ⟨G, Yv, wlk, hG, hY⟩ := wk [] (fun a m => by cases m)
    refine for_it wlk (fun i σ2 H2 => ∃ w2 h2 env2, Evo w1 H1 w2 H2 ∧ HSim F.Y w2 H2 h2 ∧ EnvSim F.Y w2 H2 F.bad F.ce F.lk env2 σ2 ∧
      loopQ (fun x v h k => ∃ v', setT t x v = some v' ∧ dSs F.P F.C ss { DD with nx := k, ct := k, bk := DD.nx } v' h) st (l.drop i) env2 h2 DD.nx) ⟨w1, h1, env, Evo.refl _ _, s1, es.mono e1, q⟩ ?_ ?_ ?_
    · rintro i σ2 H2 _ ⟨w2, h2, env2, e2, s2, es2, lq⟩
      refine hG w2 H2 h2 e2 s2 ?_
      cases hdr : l.drop i with
      | nil => rw [hdr] at lq; exact lq.1
      | cons x xs => rw [hdr] at lq; exact lq.1
    · rintro i x σ2 H2 H3 hi2 ⟨w2, h2, env2, e2, s2, es2, lq⟩ y
      rw [List.drop_eq_getElem_cons hi2] at lq
      obtain ⟨st2, env', hset, lq⟩ := lq
      obtain ⟨d, hd2, ev, s3, rd⟩ := hY i x w2 H2 h2 H3 hi2 e2 s2 st2 y
      rw [List.getElem?_eq_getElem hi2] at hd2
      cases hd2
      have e13 := e2.trans ev
      have e03 := e1.trans e13
      refine ⟨w2, env2, l[i], env', es2.mono ev, rd, hset, fun σ3 es3 _ => ?_⟩
      refine ⟨w2, env', h2, _, s3, es3, lq, ⟨?_, ?_, ?_, ?_, ?_⟩⟩
      · exact fun w' H' env4 h' σ' e s' es' q => ⟨w', h', env4, e13.trans e, s', es', q⟩
      · exact fun w' H' v d h' e s' r q => o.rt w' H' v d h' (e03.trans e) s' r q
      · exact fun w' H' env4 h' σ' e s' es' q => o.nx w' H' env4 h' σ' (e03.trans e) s' es' q
      · exact fun w' H' env4 h' σ' e s' es' q => ⟨w', h', env4, e13.trans e, s', es', q⟩
      · exact fun w' H' env4 h' σ' x c dd e s' es' r q => o.ex w' H' env4 h' σ' x c dd (e03.trans e) s' es' r q
    · rintro σ2 H2 ⟨w2, h2, env2, e2, s2, es2, lq⟩
      rw [List.drop_length] at lq
      exact o.nx w2 H2 env2 h2 σ2 (e1.trans e2) s2 es2 lq.2
/-! ### stores -/
theorem repF_put {Y : At} {w : Wd} {H : Hp} {f : Nat} {d : D} {v : V} (rv : Rep Y w H d v) : ∀ {fs : List (Nat × D)} {fv : List (Str × V)}, RepF Y w H fs fv → RepF Y w H (Pv.putF fs f d) (L2.putF (Y.fn f) v fv)
  | [], fv, r => by cases (show fv = [] from r); exact ⟨v, [], rfl, rv, rfl⟩
  | (k, e) :: l, fv, r => by
    obtain ⟨u, t, rfl, h2, h3⟩ := r
    show RepF Y w H (if k = f then (k, d) :: l else (k, e) :: Pv.putF l f d) (if Y.fn k = Y.fn f then (Y.fn k, v) :: t else (Y.fn k, u) :: L2.putF (Y.fn f) v t)
    by_cases z : k = f
    · rw [if_pos z, if_pos (by rw [z])]
      exact ⟨v, t, rfl, rv, h3⟩
    · rw [if_neg z, if_neg (fun q => z (Y.fnI _ _ q))]
      exact ⟨u, _, rfl, h2, repF_put rv h3⟩
theorem repF_length {Y : At} {w : Wd} {H : Hp} : ∀ {fs : List (Nat × D)} {fv : List (Str × V)}, RepF Y w H fs fv → fs.length = fv.length
  | [], fv, r => by cases (show fv = [] from r); rfl
  | (k, e) :: l, fv, r => by
    obtain ⟨u, t, rfl, h2, h3⟩ := r
    simp [repF_length h3]
theorem ok_asgF {f : Nat} {x : Str} {px : Pos} (k : ClsOk X.K F.Y F.P) (hx : x = F.Y.fn f) (ha : PE X a (tE F ea)) (he : PE X e (tE F ee)) (hsw : swapsWith e (some (.Attribute a x px)) pos.line X.env = pure false) : PS X (.Assign [.Attribute a x px] e pos) (tS F (.asgF ea f ee)) := by
  subst hx
  exact (ps_fld ha he hsw).imp fun D σ H ⟨w, env, h, DD, hs, es, hd, o⟩ => by
    refine ⟨w, env, h, _, DD.ex env, hs, es, hd, fun w1 H1 v1 d1 h1 e1 s1 r1 q1 => ?_, o.outX es⟩
    refine ⟨w1, env, h1, _, DD.ex env, s1, es.mono e1, q1, fun w2 H2 v2 d2 h2 e2 s2 r2 q2 => ?_, (o.outX es).evo e1⟩
    obtain ⟨n, c, fs, rfl, z1, z2, z3, z4⟩ := q2
    obtain ⟨p, e3, rfl⟩ := r2
    obtain ⟨c', ec, os⟩ := s2.get' e3
    rw [z1] at ec; cases ec
    obtain ⟨dx, fv, k1, k2⟩ := os
    have m : p ∈ w2.ph := List.mem_of_getElem? e3
    have ev := s2.evo_set m (.ins (F.Y.ca c) dx (L2.putF (F.Y.fn f) v1 fv))
    have rf := (repF_put (f := f) (r1.mono e2) k2).mono ev
    refine ⟨p, F.Y.ca c, dx, fv, rfl, k1, k.cls c f z2, k.no c f z2, by rw [← repF_length k2]; exact z3, ?_⟩
    exact o.nx w2 _ env _ σ ((e1.trans e2).trans ev) (s2.set (d := .ins c (Pv.putF fs f d1)) e3 ⟨dx, _, upd_same, rf⟩) (((es.mono e1).mono e2).mono ev) z4
def rSetA : TSet := fun o i v H Q => rSetL o i v H Q ∨ ∃ a H4, o = .ref a ∧ DPut H a i v H4 ∧ Q H4
theorem set_any (hu : X.A.units + 1 < cLine) : PSet X rSetA := fun pins s σ H o i v ov iv u Q I ro ri rv h => by
  rcases h with h | ⟨a, H4, rfl, g, q⟩
  · exact set_list pins s σ H o i v ov iv u Q I ro ri rv h
  · cases ro
    exact d_setItem hu I g ri rv fun s4 I4 => ⟨H4, I4, q⟩
theorem any_dec {α β : Type} [DecidableEq α] [DecidableEq β] {f : α → β} (inj : ∀ a b, f a = f b → a = b) (a b : α) : decide (a = b) = decide (f a = f b) := by
  by_cases h : a = b
  · rw [h]; simp
  · rw [decide_eq_false h, decide_eq_false (fun z => h (inj _ _ z))]
theorem repK_any {Y : At} {w : Wd} {H : Hp} (x : K) : ∀ {l : List (K × D)} {kvs : List (Key × V)}, RepK Y w H l kvs → (l.any fun p => decide (p.1 = x)) = (kvs.any fun p => decide (p.1 = keyV x))
  | [], kvs, r => by cases (show kvs = [] from r); rfl
  | (k, e) :: l, kvs, r => by
    obtain ⟨u, t, rfl, h2, h3⟩ := r
    rw [List.any_cons, List.any_cons, repK_any x h3, any_dec (f := keyV) (fun a b => keyV_inj)]
theorem repK_map {Y : At} {w : Wd} {H : Hp} {x : K} {d : D} {v : V} (rv : Rep Y w H d v) : ∀ {l : List (K × D)} {kvs : List (Key × V)}, RepK Y w H l kvs → RepK Y w H (l.map fun p => if p.1 = x then (p.1, d) else p) (kvs.map fun p => if p.1 = keyV x then (p.1, v) else p)
  | [], kvs, r => by cases (show kvs = [] from r); exact rfl
  | (k, e) :: l, kvs, r => by
    obtain ⟨u, t, rfl, h2, h3⟩ := r
    rw [List.map_cons, List.map_cons]
    by_cases z : k = x
    · rw [if_pos z, if_pos (show keyV k = keyV x by rw [z])]
      exact ⟨v, _, rfl, rv, repK_map rv h3⟩
    · rw [if_neg z, if_neg (show ¬ keyV k = keyV x from fun q => z (keyV_inj q))]
      exact ⟨u, _, rfl, h2, repK_map rv h3⟩
theorem repK_app {Y : At} {w : Wd} {H : Hp} {x : K} {d : D} {v : V} (rv : Rep Y w H d v) : ∀ {l : List (K × D)} {kvs : List (Key × V)}, RepK Y w H l kvs → RepK Y w H (l ++ [(x, d)]) (kvs ++ [(keyV x, v)])
  | [], kvs, r => by cases (show kvs = [] from r); exact ⟨v, [], rfl, rv, rfl⟩
  | (k, e) :: l, kvs, r => by
    obtain ⟨u, t, rfl, h2, h3⟩ := r
    exact ⟨u, _, rfl, h2, repK_app rv h3⟩
theorem repK_put {Y : At} {w : Wd} {H : Hp} {x : K} {d : D} {v : V} {l : List (K × D)} {kvs : List (Key × V)} (r : RepK Y w H l kvs) (rv : Rep Y w H d v) : RepK Y w H (put l x d) (putK kvs (keyV x) v) := by
  unfold put putK
  rw [repK_any x r]
  split
  · exact repK_map rv r
  · exact repK_app rv r
theorem mapKey_inj : ∀ {a b : List K}, a.map keyV = b.map keyV → a = b
  | [], [], _ => rfl
  | [], _ :: _, e => by cases e
  | _ :: _, [], e => by cases e
  | a :: l, b :: m, e => by
    rw [List.map_cons, List.map_cons] at e
    injection e with e1 e2
    rw [keyV_inj e1, mapKey_inj e2]
theorem repT_any {Y : At} {w : Wd} {H : Hp} (x : List K) : ∀ {l : List (List K × D)} {kvs : List (List Key × V)}, RepT Y w H l kvs → (l.any fun p => decide (p.1 = x)) = (kvs.any fun p => decide (p.1 = x.map keyV))
  | [], kvs, r => by cases (show kvs = [] from r); rfl
  | (k, e) :: l, kvs, r => by
    obtain ⟨u, t, rfl, h2, h3⟩ := r
    rw [List.any_cons, List.any_cons, repT_any x h3, any_dec (f := fun k : List K => k.map keyV) (fun a b => mapKey_inj)]
theorem repT_map {Y : At} {w : Wd} {H : Hp} {x : List K} {d : D} {v : V} (rv : Rep Y w H d v) : ∀ {l : List (List K × D)} {kvs : List (List Key × V)}, RepT Y w H l kvs → RepT Y w H (l.map fun p => if p.1 = x then (p.1, d) else p) (kvs.map fun p => if p.1 = x.map keyV then (p.1, v) else p)
  | [], kvs, r => by cases (show kvs = [] from r); exact rfl
  | (k, e) :: l, kvs, r => by
    obtain ⟨u, t, rfl, h2, h3⟩ := r
    rw [List.map_cons, List.map_cons]
    by_cases z : k = x
    · rw [if_pos z, if_pos (show k.map keyV = x.map keyV by rw [z])]
      exact ⟨v, _, rfl, rv, repT_map rv h3⟩
    · rw [if_neg z, if_neg (show ¬ k.map keyV = x.map keyV from fun q => z (mapKey_inj q))]
      exact ⟨u, _, rfl, h2, repT_map rv h3⟩
theorem repT_app {Y : At} {w : Wd} {H : Hp} {x : List K} {d : D} {v : V} (rv : Rep Y w H d v) : ∀ {l : List (List K × D)} {kvs : List (List Key × V)}, RepT Y w H l kvs → RepT Y w H (l ++ [(x, d)]) (kvs ++ [(x.map keyV, v)])
  | [], kvs, r => by cases (show kvs = [] from r); exact ⟨v, [], rfl, rv, rfl⟩
  | (k, e) :: l, kvs, r => by
    obtain ⟨u, t, rfl, h2, h3⟩ := r
    exact ⟨u, _, rfl, h2, repT_app rv h3⟩
theorem repT_put {Y : At} {w : Wd} {H : Hp} {x : List K} {d : D} {v : V} {l : List (List K × D)} {kvs : List (List Key × V)} (r : RepT Y w H l kvs) (rv : Rep Y w H d v) : RepT Y w H (put l x d) (putK kvs (x.map keyV) v) := by
  unfold put putK
  rw [repT_any x r]
  split
  · exact repT_map rv r
  · exact repT_app rv r
theorem ok_asgI {i : Expr} {ei : E} {px : Pos} (hu : X.A.units + 1 < cLine) (ha : PE X a (tE F ea)) (hi : PE X i (tE F ei)) (he : PE X e (tE F ee)) (hs : swapsWithSole [.Subscript a i px] e pos.line X.env = pure false) (hw : swappedStores [.Subscript a i px] e X.env = pure none)
    (h1 : (assignEach [.Subscript a i px] X.env).map (·.2) = [assign (.Subscript a i px) X.env])
    (h2 : ∀ v, assign (.Subscript a i px) X.env v = (do
      let ov ← holding [v] (eval a X.env)
      let iv ← holding [v, ov] (eval i X.env)
      standAt px
      holding [v, ov, iv] (setItem ov iv v)
      release [v, ov, iv] [])) : PS X (.Assign [.Subscript a i px] e pos) (tS F (.asgI ea ei ee)) :=
  (ps_asg he (pg_sub ha hi (set_any hu) h2) hs hw h1).imp fun D σ H ⟨w, env, h, DD, hs, es, hd, o⟩ => by
    refine ⟨w, env, h, _, DD.ex env, hs, es, hd, fun w1 H1 v1 d1 h1 e1 s1 r1 q1 => ?_, o.outX es⟩
    refine ⟨w1, env, h1, _, DD.ex env, s1, es.mono e1, q1, fun w2 H2 v2 d2 h2 e2 s2 r2 q2 => ?_, (o.outX es).evo e1⟩
    refine ⟨w2, env, h2, _, DD.ex env, s2, (es.mono e1).mono e2, q2, fun w3 H3 v3 d3 h3 e3 s3 r3 q3 => ?_, ((o.outX es).evo e1).evo e2⟩
    obtain ⟨n, ob, ob', rfl, z1, z2, z3⟩ := q3
    have rv := (r1.mono e2).mono e3
    have r2 := r2.mono e3
    obtain ⟨p, e4, rfl⟩ := r2
    obtain ⟨c', ec, os⟩ := s3.get' e4
    rw [z1] at ec; cases ec
    have m : p ∈ w3.ph := List.mem_of_getElem? e4
    have fin : ∀ u, OSim F.Y w3 (upd H3 p u) p ob' → D.nx σ (upd H3 p u) := fun u os' => by
      have ev := s3.evo_set m u
      exact o.nx w3 _ env _ σ (((e1.trans e2).trans e3).trans ev) (s3.set e4 os') ((((es.mono e1).mono e2).mono e3).mono ev) z3
    unfold dSet at z2
    split at z2
    · obtain ⟨j, y1, rfl⟩ := Option.map_eq_some_iff.mp z2
      obtain ⟨vs, k1, k2⟩ := os
      have ev := s3.evo_set m (.lst (vs.set j v1))
      exact .inl ⟨p, vs, _, j, rfl, by rw [show v3 = .int _ from r3], k1, by rw [← k2.length]; exact y1, fin _ ⟨_, upd_same, (k2.set j rv).mono ev⟩⟩
    · obtain ⟨q, y1, y2⟩ := Option.bind_eq_some_iff.mp z2
      split at y2
      · cases y2
        rename_i hl
        obtain ⟨kvs, k1, k2⟩ := os
        have ev := s3.evo_set m (.dK (putK kvs (keyV q) v1))
        have yk := keyV_ok r3 y1
        refine .inr ⟨p, _, rfl, by rw [yk]; exact DPut.k k1 (by rw [← k2.length, ← lineEq]; exact hl), fin _ ⟨_, upd_same, (repK_put k2 rv).mono ev⟩⟩
      · cases y2
    · obtain ⟨q, y1, y2⟩ := Option.bind_eq_some_iff.mp z2
      split at y2
      · cases y2
        rename_i hl
        obtain ⟨kvs, k1, k2⟩ := os
        have ev := s3.evo_set m (.dT (putK kvs (q.map keyV) v1))
        obtain ⟨b, rfl, hb⟩ := tkey_ok r3 y1
        refine .inr ⟨p, _, rfl, .inr ⟨kvs, _, b, k1, rfl, hb, by rw [← k2.length, ← lineEq]; exact hl, rfl⟩, fin _ ⟨_, upd_same, (repT_put k2 rv).mono ev⟩⟩
      · cases y2
    · cases z2
/-! ### while -/
theorem ok_while {body : List Stmt} (hp : PassesOwn (model X.prog X.w) X.A X.env X.xe) (hc : PT X c (tT F ec)) (hb : PSs X body (tSs F ss)) : PS X (.While c body [] pos) (tS F (.while_ ec ss)) :=
  (ps_while hp hc hb).imp fun D σ H ⟨w, env, h, DD, hs, es, hd, o⟩ => by
    obtain ⟨n, hd⟩ := hd
    refine ⟨fun m σ2 H2 => ∃ w2 h2 env2, Evo w H w2 H2 ∧ HSim F.Y w2 H2 h2 ∧ EnvSim F.Y w2 H2 F.bad F.ce F.lk env2 σ2 ∧
      whileQ (fun v h k => dE F.P F.C ec v h (fun x h1 => ∃ b, x = .bl b ∧ k b h1) (DD.ex v)) (fun k v h => dSs F.P F.C ss { DD with nx := k, ct := k, bk := DD.nx } v h) DD.nx m env2 h2,
      ⟨n, w, h, env, Evo.refl _ _, hs, es, hd⟩, ?_⟩
    rintro m σ2 H2 ⟨w2, h2, env2, e2, s2, es2, q⟩
    cases m with
    | zero => exact q.elim
    | succ m =>
      have o2 := o.evo e2
      refine ⟨w2, env2, h2, _, DD.ex env2, s2, es2, q, fun w3 H3 b h3 e3 s3 q3 => ?_, o2.outX es2⟩
      have o3 := o2.evo e3
      cases b with
      | false => exact o3.nx w3 H3 env2 h3 σ2 (Evo.refl _ _) s3 (es2.mono e3) q3
      | true =>
        have e13 := e2.trans e3
        refine ⟨fun σ4 H4 => ∃ w4 h4 env4, Evo w H w4 H4 ∧ HSim F.Y w4 H4 h4 ∧ EnvSim F.Y w4 H4 F.bad F.ce F.lk env4 σ4 ∧
          whileQ (fun v h k => dE F.P F.C ec v h (fun x h1 => ∃ b, x = .bl b ∧ k b h1) (DD.ex v)) (fun k v h => dSs F.P F.C ss { DD with nx := k, ct := k, bk := DD.nx } v h) DD.nx m env4 h4, fun σ4 H4 q4 => ⟨m, Nat.lt_succ_self m, q4⟩, ?_⟩
        refine ⟨w3, env2, h3, _, s3, es2.mono e3, q3, ⟨?_, ?_, ?_, ?_, ?_⟩⟩
        · exact fun w' H' env4 h' σ' e s' es' q => ⟨w', h', env4, e13.trans e, s', es', q⟩
        · exact fun w' H' v d h' e s' r q => o3.rt w' H' v d h' e s' r q
        · exact fun w' H' env4 h' σ' e s' es' q => o3.nx w' H' env4 h' σ' e s' es' q
        · exact fun w' H' env4 h' σ' e s' es' q => ⟨w', h', env4, e13.trans e, s', es', q⟩
        · exact fun w' H' env4 h' σ' x c dd e s' es' r q => o3.ex w' H' env4 h' σ' x c dd e s' es' r q
end
end Pv
end

section
set_option maxRecDepth 100000
set_option maxHeartbeats 4000000
namespace Pv
open PySem PySem.Spec PyProof.Rows L2
/-! ### dict comprehensions, the keys of any sort -/
theorem x_dictSet {X : Cx} {pins : List (Addr × Obj)} {σ : L2.St} {H H' : Hp} {s : Shared} {E : Value → Shared → Prop} {a : Addr} {y v : V} {u r : Value} {Q : Unit → Shared → Prop} (hu : X.A.units + 1 < cLine) (I : Inv X pins σ H s) (g : DPut H a y v H') (ry : RelV y u) (rv : L2.RelV v r)
    (h : ∀ s', Inv X pins σ H' s' → Q () s') : wpAny (model X.prog X.w) X.A (dictSet a u r) Q E s := by
  rcases g with ⟨kvs, k, e, ey, l, eH⟩ | ⟨kvs, k, b, e, ey, eb, l, eH⟩
  · subst ey eH
    obtain ⟨z, no, us, rel, isd⟩ := dk_of I.hok e
    have bd : (putK kvs k v).length ≤ sizeLine := Nat.le_trans (length_putK kvs k v) l
    refine wpAny_dictSet_pairs (hsz := by rw [← rel.length]; exact z) (kV_is ry) isd fun h2 d2 sb => h _ ?_
    obtain ⟨q, _, _, hq, _⟩ := id d2
    exact d_write I (by rw [e]; exact True.intro) sb ⟨q, hq⟩ (dk_new bd no (rel.put k rv) d2)
  · subst ey eH
    cases (show u = Value.ref b from ry)
    obtain ⟨z, no, us, rel, isd⟩ := dt_of I.hok e
    have bd : (putK kvs k v).length ≤ sizeLine := Nat.le_trans (length_putK kvs k v) l
    refine wpAny_dictSet_heap (hsz := by rw [← Paired.length rel]; exact z) (by simpa [tupleKind] using Nat.lt_of_succ_lt hu) (key_of I.hok eb) isd fun h2 d2 sb => h _ ?_
    obtain ⟨q, es, ep, hq, g2, g3, g4, _, g5⟩ := d2
    refine d_write I (by rw [e]; exact True.intro) sb ⟨q, hq⟩ ⟨bd, no, _, (rel.put k eb rv).keeps fun c ys ec => ?_, q, es, ep, hq, g2, g3, g4, g5⟩
    rw [upd_ne (ne_of ec e (fun z => nomatch z))]
    exact ec
section
variable {X : Cx}
/-- {k: v for t in it if ..}: o0 is the new dict -/
def tDcG (o0 : HO) (wi : TI) (g : TG) (tt : TT) (tk tv : TE) (vs : List Nat) : TE := fun σ H Q => wi σ H fun J M1 => ∀ D, M1 D = none →
  ∃ W : Nat → Nat → Hp → Prop, (∃ m, W 0 m (upd M1 D o0)) ∧ ∀ i m H, W i m H → (J.stop i H ∧ Q (.ref D) H) ∨
    (J.go i H ∧ ∃ Nx : Hp → Prop, (∀ H', Nx H' → ∃ m', m' < m ∧ W (i + 1) m' H') ∧ ∀ x H', J.yld i H x H' → g x (L2.wipe σ vs) H' fun σ2 M2 => L2.wipe σ2 vs = L2.wipe σ vs ∧ tt σ2 M2 fun b M3 =>
      if b = true then tk σ2 M3 fun y M4 => tv σ2 M4 fun z M5 => ∃ M6, DPut M5 D y z M6 ∧ Nx M6 else Nx M3)
theorem dcG_core {pins : List (Addr × Obj)} {s : Shared} {σ : L2.St} {H : Hp} {Q : VK} {kx vx tg iter : Expr} {ifs : List Expr} {scope : Scope} {own : List (Str × Nat)} {pos pos' : Pos} {wi : TI} {g : TG} {tt : TT} {tk tv : TE} {use : Option (Value → Sem Unit)} {Qf : Value → Shared → Prop}
    (o0 : HO) (hnw : ∀ (H : Hp) (h : Heap), sysModules < h.objs.size → ObjOk X.prog X.w H (h.push { cls := .type "dict", data := .dict #[] }) h.objs.size o0) (hu : X.A.units + 1 < cLine)
    (hc : X.calm = true) (hN : X.N.Nodup) (I : Inv X pins σ H s) (hi : PI X tg iter wi) (ok : BlkOk X.N X.env.scope scope own)
    (hg : ∀ (s : Shared) (H : Hp) (C : Addr) (cl : List (Str × Addr)) (fp : List Addr), PG (X.blk s H scope (compEnvC scope cl C X.env) fp) tg g) (ht : ∀ (s : Shared) (H : Hp) (C : Addr) (cl : List (Str × Addr)) (fp : List Addr), PTs (X.blk s H scope (compEnvC scope cl C X.env) fp) ifs tt)
    (hk : ∀ (s : Shared) (H : Hp) (C : Addr) (cl : List (Str × Addr)) (fp : List Addr), PE (X.blk s H scope (compEnvC scope cl C X.env) fp) kx tk)
    (he : ∀ (s : Shared) (H : Hp) (C : Addr) (cl : List (Str × Addr)) (fp : List Addr), PE (X.blk s H scope (compEnvC scope cl C X.env) fp) vx tv) (hs : ∀ x, foldedSetIterable iter X.env x = pure x)
    (h : tDcG o0 wi g tt tk tv (own.map (·.2)) σ H Q)
    (hRR : ∀ D C s' m H', Inv X pins σ H' s' → Q (.ref D) H' → s'.heap.Ns C m → FpOk X pins H' C → compPost (model X.prog X.w) X.A X.xe use Qf (.ref D) C (.ok .next) s') :
    wpAny (model X.prog X.w) X.A (comprehension (.DictComp kx vx [⟨tg, iter, ifs, 0⟩] scope pos) scope X.env pos' newDict false (eval iter X.env) use) Qf X.xe s := by
  have hfree : ∀ y ∈ scope.names, y.2 = .free → ∃ c, X.env.cells.lookup y.1 = some c := fun y hy e => by
    rcases ok.free y hy e with k | k
    · exact I.ok.has _ (.inl k)
    · exact I.ok.has _ (.inr k)
  refine wpAny_comprehension_free (use := use) rfl hs (closure_ok hfree) ok.kind (fun y hy e => by rw [ok.uniq y hy, e])
    (thn (hi.run pins s σ H _ I h) fun xv z1 hx => thn hx fun itv z2 h2 => ?_)
  obtain ⟨it, fp, tn, J, M2, e, j2, T, st2, g2, q⟩ := h2
  subst e
  refine wpAny_newObj_type (newEnv_comp ?_)
  generalize hD : z2.heap.objs.size = D
  have hDn : M2 D = none := j2.hok.fresh (Nat.le_of_eq hD)
  obtain ⟨W, ⟨m0, w0⟩, turn⟩ := q D hDn
  -- the new list
  generalize hs3 : ({ z2 with heap := z2.heap.push { cls := .type "dict", data := .dict #[] } } : Shared) = z3
  have j3 : Inv X pins σ (upd M2 D o0) z3 := by
    rw [← hs3]
    refine j2.laid (t' := z2.toks) (fun b o e => Heap.get?_push_of_some _ e) (Nat.le_of_eq hD) ?_
    rw [← hD]
    exact hnw _ _ j2.big
  have h3 : z3.heap = z2.heap.push { cls := .type "dict", data := .dict #[] } := by rw [← hs3]
  have sz : ∀ b ∈ fp, b < z2.heap.objs.size := fun b hb => by
    obtain ⟨o, e, _⟩ := T.obj _ _ st2 b hb
    exact Heap.lt_size e
  have g3 : ∀ b ∈ fp, FpOk X pins (upd M2 D o0) b ∧ b < z3.heap.objs.size := fun b hb => by
    have hlt := sz b hb
    refine ⟨⟨?_, (g2 b hb).2⟩, by rw [h3, Heap.size_push]; exact Nat.lt_succ_of_lt hlt⟩
    rw [upd_ne (by rw [← hD]; exact Nat.ne_of_lt hlt)]
    exact (g2 b hb).1
  have st3 : tn 0 z3.heap := T.keep _ _ _ st2 fun b _ o e => by rw [h3]; exact Heap.get?_push_of_some _ e
  have j4 := block_start j3 ok hN g3
  have pg := hg z3 (upd M2 D o0) z3.heap.objs.size (cellsFrom (z3.heap.objs.size + 1) scope.names (cloFrom X.env.cells scope.names [])) fp
  have pt := ht z3 (upd M2 D o0) z3.heap.objs.size (cellsFrom (z3.heap.objs.size + 1) scope.names (cloFrom X.env.cells scope.names [])) fp
  have pk := hk z3 (upd M2 D o0) z3.heap.objs.size (cellsFrom (z3.heap.objs.size + 1) scope.names (cloFrom X.env.cells scope.names [])) fp
  have pe := he z3 (upd M2 D o0) z3.heap.objs.size (cellsFrom (z3.heap.objs.size + 1) scope.names (cloFrom X.env.cells scope.names [])) fp
  show codeAny _ _ (.compStart (.DictComp kx vx [⟨tg, iter, ifs, 0⟩] scope pos) 0 (.ref it) (.ref D) (compEnvC scope (cellsFrom (z3.heap.objs.size + 1) scope.names (cloFrom X.env.cells scope.names [])) z3.heap.objs.size X.env)) (compPost (model X.prog X.w) X.A X.xe use Qf (.ref D) z3.heap.objs.size) { z3 with heap := pushCells (z3.heap.push { cls := .type "dict", data := .dict #[] }) scope.names }
  have nfp : ∀ b ∈ fp, (upd M2 D o0) b = none := fun b hb => (g3 b hb).1.1
  generalize hce : compEnvC scope (cellsFrom (z3.heap.objs.size + 1) scope.names (cloFrom X.env.cells scope.names [])) z3.heap.objs.size X.env = ce at j4 pg pt pk pe ⊢
  have cL : ce.locals = z3.heap.objs.size := by subst hce; rfl
  generalize hH3 : upd M2 D o0 = M3 at j3 j4 pg pt pk pe w0 nfp g3
  generalize hs4 : ({ z3 with heap := pushCells (z3.heap.push { cls := .type "dict", data := .dict #[] }) scope.names } : Shared) = z4 at j4 ⊢
  have st4 : tn 0 z4.heap := T.keep _ _ _ st3 fun b _ o e => by rw [← hs4]; exact pushCells_keeps _ _ _ _ (Heap.get?_push_of_some _ e)
  have stat : ∀ {σ' : L2.St} {H' : Hp} {s' : Shared}, Inv (X.blk z3 M3 scope ce fp) [] σ' H' s' → (∀ b ∈ fp, H' b = none) → ∀ b ∈ fp, FpOk (X.blk z3 M3 scope ce fp) [] H' b := fun {σ' H' s'} I' hn b hb =>
    ⟨hn b hb, (I'.ok.exf b hb).1, I'.ok.exfs b hb, .inl hb, fun x c e => (I'.ok.exf b hb).2 x c e, fun p hp => absurd (show p ∈ ([] : List (Addr × Obj)) ++ [] from hp) (by simp)⟩
  have loop : codeAny (model X.prog X.w) X.A (.compLoop (.DictComp kx vx [⟨tg, iter, ifs, 0⟩] scope pos) 0 (.ref it) (.ref D) ce) (compPost (model X.prog X.w) X.A X.xe use Qf (.ref D) z3.heap.objs.size) z4 := by
    refine compLoop_anyD (fun n s' => ∃ i H', Inv (X.blk z3 M3 scope ce fp) [] (L2.wipe σ (own.map (·.2))) H' s' ∧ tn i s'.heap ∧ (∀ b ∈ fp, H' b = none) ∧ W i n H') ?_ m0 ⟨0, M3, j4, st4, nfp, w0⟩
    rintro n z5 ⟨i, M5, j5, st5, n5, w5⟩
    rcases turn i n M5 w5 with ⟨stop, qq⟩ | ⟨go, Nx, hNx, step⟩
    · have td := T.done (X.blk z3 M3 scope ce fp) rfl rfl rfl hc i [] z5 _ M5 (fun _ _ => False) j5 (stat j5 n5) st5 stop
      refine thnF td fun r z6 ⟨hr, j6⟩ => ?_
      subst hr
      -- back in the def's context
      have j7 : Inv X pins σ M5 z6 := j3.call' (ch := fp) j6.os j6.base j6.hok j6.bare fun b hb => ⟨(g3 b hb).1.2.2.2.1, (g3 b hb).1.2.1, (g3 b hb).1.2.2.2.2.1, (g3 b hb).1.2.2.2.2.2⟩
      have nC : M5 z3.heap.objs.size = none := by
        have z : M5 ce.locals = none := j6.free
        rw [cL] at z
        exact z
      obtain ⟨m, hn, _⟩ := j6.loc
      have hn : z6.heap.Ns ce.locals m := hn
      rw [cL] at hn
      exact hRR D z3.heap.objs.size z6 m M5 j7 qq hn (j3.fpOk (Nat.le_refl _) nC)
    · have ti := T.item (X.blk z3 M3 scope ce fp) rfl rfl rfl hc i [] z5 _ M5 (fun _ _ => False) j5 (stat j5 n5) st5 go
      refine thnF ti fun r z6 ⟨u, hr, h6⟩ => ?_
      subst hr
      refine thnF h6 fun _ z7 ⟨x, M7, j7, r7, y7, st7, n7⟩ => ?_
      have j7' := j7.pinned (stat j7 n7) (T.obj _ _ st7)
      refine thnF (pg.run _ z7 _ M7 x u _ j7' r7 (step x M7 y7)) fun _ z8 ⟨σ8, M8, j8, hw8, q8⟩ => ?_
      refine thnF (pt.run _ z8 σ8 M8 _ j8 q8) fun b z9 ⟨M9, j9, q9⟩ => ?_
      -- the turn's end
      have fin : ∀ {s' : Shared} {H' : Hp}, Inv (X.blk z3 M3 scope ce fp) ([] ++ pinsAt fp z7.heap) σ8 H' s' → Nx H' → ∃ m, m < n ∧ ∃ i H', Inv (X.blk z3 M3 scope ce fp) [] (L2.wipe σ (own.map (·.2))) H' s' ∧ tn i s'.heap ∧ (∀ b ∈ fp, H' b = none) ∧ W i m H' := fun {s' H'} I' nx => by
        obtain ⟨m', hm, w'⟩ := hNx H' nx
        have pin' : ∀ b ∈ fp, ∀ o, z7.heap.get? b = some o → s'.heap.get? b = some o ∧ H' b = none := fun b hb o e =>
          let z := I'.pin (b, o) (List.mem_append_right _ (List.mem_append_right _ (mem_pinsAt hb e)))
          ⟨z.1, z.2.1⟩
        have hl : (L2.wipe σ (own.map (·.2))).length = σ8.length := by rw [← hw8, wipe_length]
        refine ⟨m', hm, i + 1, H', (I'.unpinned (pins := [])).weak hl (fun j v e => ?_), T.keep _ _ _ st7 fun b hb o e => (pin' b hb o e).1, fun b hb => ?_, w'⟩
        · rw [← hw8] at e
          exact (wipe_some e).1
        · obtain ⟨o, e, _⟩ := T.obj _ _ st7 b hb
          exact (pin' b hb o e).2
      cases b with
      | false =>
        simp only [Bool.false_eq_true, if_false] at q9 ⊢
        exact fin j9 q9
      | true =>
        simp only [if_true] at q9 ⊢
        refine thnF (pk.run _ z9 σ8 M9 _ j9 q9) fun z z10 ⟨yk, M10, j10, r10, q10⟩ => ?_
        refine thnF (pe.run _ z10 σ8 M10 _ j10 q10) fun q2 z11 ⟨yv, M11, j11, r11, M12, dp, nx⟩ => ?_
        exact x_dictSet (X := X.blk z3 M3 scope ce fp) hu j11 dp r10 r11 fun z12 j12 => fin j12 nx
  exact codeAny_compStart_dict loop (T.self X.A 0 _ _ _ st4 loop)
theorem pe_dcG {kx vx tg iter : Expr} {ifs : List Expr} {scope : Scope} {own : List (Str × Nat)} {pos : Pos} {wi : TI} {g : TG} {tt : TT} {tk tv : TE} (o0 : HO) (hnw : ∀ (H : Hp) (h : Heap), sysModules < h.objs.size → ObjOk X.prog X.w H (h.push { cls := .type "dict", data := .dict #[] }) h.objs.size o0)
    (hu : X.A.units + 1 < cLine) (hc : X.calm = true) (hN : X.N.Nodup) (hi : PI X tg iter wi) (ok : BlkOk X.N X.env.scope scope own)
    (hg : ∀ (s : Shared) (H : Hp) (C : Addr) (cl : List (Str × Addr)) (fp : List Addr), PG (X.blk s H scope (compEnvC scope cl C X.env) fp) tg g)
    (ht : ∀ (s : Shared) (H : Hp) (C : Addr) (cl : List (Str × Addr)) (fp : List Addr), PTs (X.blk s H scope (compEnvC scope cl C X.env) fp) ifs tt)
    (hk : ∀ (s : Shared) (H : Hp) (C : Addr) (cl : List (Str × Addr)) (fp : List Addr), PE (X.blk s H scope (compEnvC scope cl C X.env) fp) kx tk)
    (he : ∀ (s : Shared) (H : Hp) (C : Addr) (cl : List (Str × Addr)) (fp : List Addr), PE (X.blk s H scope (compEnvC scope cl C X.env) fp) vx tv) (hs : ∀ x, foldedSetIterable iter X.env x = pure x) :
    PE X (.DictComp kx vx [⟨tg, iter, ifs, 0⟩] scope pos) (tDcG o0 wi g tt tk tv (own.map (·.2))) := by
  refine ⟨fun pins s σ H Q I h => ?_⟩
  rw [arm_eval_DictComp]
  refine dcG_core o0 hnw hu hc hN I hi ok hg ht hk he hs h fun D C z m H' j q hn fo => ⟨m, hn, fun h2 sb => ?_⟩
  obtain ⟨a0, a1, a2, a3, a4, a5⟩ := fo
  exact ⟨.ref D, H', j.turned (t' := z.toks) (fun b o hb e => (sb.2 b hb).trans e) a0 a1 a3 a4 a5, rfl, q⟩
/-- name = {..} on one line, the name a local -/
theorem ps_setDc {i : Nat} {y : Str} {py : Pos} {kx vx tg iter : Expr} {ifs : List Expr} {scope : Scope} {own : List (Str × Nat)} {pos spos : Pos} {wi : TI} {g : TG} {tt : TT} {tk tv : TE} (o0 : HO) (hnw : ∀ (H : Hp) (h : Heap), sysModules < h.objs.size → ObjOk X.prog X.w H (h.push { cls := .type "dict", data := .dict #[] }) h.objs.size o0)
    (hu : X.A.units + 1 < cLine) (hc : X.calm = true) (hN : X.N.Nodup) (hy : X.N[i]? = some y) (hyl : X.env.scope.names.lookup y = some .local)
    (hsw : swapsWith (.DictComp kx vx [⟨tg, iter, ifs, 0⟩] scope pos) (some (.Name y py)) spos.line X.env = pure true) (hi : PI X tg iter wi) (ok : BlkOk X.N X.env.scope scope own)
    (hg : ∀ (s : Shared) (H : Hp) (C : Addr) (cl : List (Str × Addr)) (fp : List Addr), PG (X.blk s H scope (compEnvC scope cl C X.env) fp) tg g)
    (ht : ∀ (s : Shared) (H : Hp) (C : Addr) (cl : List (Str × Addr)) (fp : List Addr), PTs (X.blk s H scope (compEnvC scope cl C X.env) fp) ifs tt)
    (hk : ∀ (s : Shared) (H : Hp) (C : Addr) (cl : List (Str × Addr)) (fp : List Addr), PE (X.blk s H scope (compEnvC scope cl C X.env) fp) kx tk)
    (he : ∀ (s : Shared) (H : Hp) (C : Addr) (cl : List (Str × Addr)) (fp : List Addr), PE (X.blk s H scope (compEnvC scope cl C X.env) fp) vx tv) (hs : ∀ x, foldedSetIterable iter X.env x = pure x) :
    PS X (.Assign [.Name y py] (.DictComp kx vx [⟨tg, iter, ifs, 0⟩] scope pos) spos) (tAsg (tDcG o0 wi g tt tk tv (own.map (·.2))) (gName i)) := by
  refine ⟨fun pins s σ H D I h => ?_⟩
  rw [exec_Assign_Name_used _ _ _ _ hsw]
  refine wpAny_bind (wpAny_standAt (wpAny_bind ?_))
  show wpAny _ X.A (do let _ ← comprehension (.DictComp kx vx [⟨tg, iter, ifs, 0⟩] scope pos) scope X.env (firstIterPos [⟨tg, iter, ifs, 0⟩] pos) newDict false (eval iter X.env) (some (assign (.Name y py) X.env))) _ _ s
  have h : tDcG o0 wi g tt tk tv (own.map (·.2)) σ H (fun x H1 => gName i x σ H1 D.nx) := h
  refine wpAny_bind (thn (dcG_core (Qf := fun _ s' => SP X pins D .next s') o0 hnw hu hc hN I hi ok hg ht hk he hs h fun L C s' m H' I' q hn f => ?_) fun _ s' hq => wpAny_pure (wpAny_pure hq))
  show wpAny _ _ (assign (.Name y py) X.env (.ref L)) _ _ _
  refine wpAny_assign_Name (store_ok2 (v := V.ref L) I' hN hy (.inl hyl) rfl (fun s2 I2 ⟨a, sb, ha⟩ => ?_) (.inr hyl))
  obtain ⟨f0, f1, f2, f3, f4, f5⟩ := f
  have haC : C ≠ a := by
    rcases ha with z | z
    · rw [z]; exact f1
    · exact fun e => f4 y a z e.symm
  refine ⟨m, hn.sameBut sb haC, fun h3 sb3 => ?_⟩
  exact ⟨_, H', I2.turned (t' := s2.toks) (fun b o hb e => (sb3.2 b hb).trans e) f0 f1 f3 f4 f5, q⟩
theorem sw_trueD {kx vx : Expr} {gs : List Comprehension} {scope : Scope} {pos py : Pos} {y : Str} {l : Nat} {env : PySem.Env} (hk : env.scope.kind = .function) (hy : env.scope.names.lookup y = some .local) (hl : (py.line == pos.line) = true)
    (ha : (scope.names.any fun (n, k) => n == y && (k == .local || k == .cell)) = false) : swapsWith (.DictComp kx vx gs scope pos) (some (.Name y py)) l env = pure true := by
  have ky : env.kindOf y = some .local := hy
  have kb : env.blockKind = .function := by unfold PySem.Env.blockKind; rw [hk]; rfl
  unfold swapsWith
  simp only [kb, ky, ha, Expr.pos, hl]
  rfl
end
end Pv
end

section
set_option maxRecDepth 100000
set_option maxHeartbeats 4000000
namespace Pv
open PySem PySem.Spec PyProof.Rows L2
section
variable {Y : At} {w : Wd} {H : Hp} {h : Hm}
/-- what stands at a place that is kept off stays -/
theorem OSim.evoAv {w' : Wd} {H' : Hp} {p : Addr} {d : D} (s : OSim Y w H p d) (hs : HSim Y w H h) (e : Evo w H w' H') (hp : p ∈ w.av) : OSim Y w' H' p d := by
  obtain ⟨o, k, b⟩ := s.box
  exact s.mono e ((e.avk p hp (hs.av p hp).1 o k b.nt).trans k.symm)
/-- a dict's key set -/
theorem dSet_put {p : Addr} {acc acc' dk dv : D} {y z : V} (os : OSim Y w H p acc) (hp : p ∈ w.av) (rk : Rep Y w H dk y) (rv : Rep Y w H dv z) (e : dSet acc dk dv = some acc') (hl : ∀ l, acc ≠ .lst l) : ∃ u, DPut H p y z (upd H p u) ∧ OSim Y w (upd H p u) p acc' ∧ ∀ l, acc' ≠ .lst l := by
  have bx := os.box
  obtain ⟨o, k0, b0⟩ := bx
  unfold dSet at e
  split at e
  · exact absurd rfl (hl _)
  · obtain ⟨q, y1, y2⟩ := Option.bind_eq_some_iff.mp e
    split at y2
    · cases y2
      rename_i hz
      obtain ⟨kvs, k1, k2⟩ := os
      have yk := keyV_ok rk y1
      refine ⟨.dK (putK kvs (keyV q) z), by rw [yk]; exact DPut.k k1 (by rw [← k2.length, ← lineEq]; exact hz), ⟨_, upd_same, (repK_put k2 rv).updAv hp ⟨k0, b0⟩⟩, fun _ z => nomatch z⟩
    · cases y2
  · obtain ⟨q, y1, y2⟩ := Option.bind_eq_some_iff.mp e
    split at y2
    · cases y2
      rename_i hz
      obtain ⟨kvs, k1, k2⟩ := os
      obtain ⟨b, rfl, hb⟩ := tkey_ok rk y1
      refine ⟨.dT (putK kvs (q.map keyV) z), .inr ⟨kvs, _, b, k1, rfl, hb, by rw [← k2.length, ← lineEq]; exact hz, rfl⟩, ⟨_, upd_same, (repT_put k2 rv).updAv hp ⟨k0, b0⟩⟩, fun _ z => nomatch z⟩
    · cases y2
  · cases e
/-- a filled box is told -/
theorem OSim.rep {p : Addr} {d : D} (o : Off w p) (s : OSim Y w H p d) : Rep Y w H d (.ref p) := by
  cases d with
  | lst l => obtain ⟨vs, e1, r⟩ := s; exact ⟨p, vs, rfl, o, e1, r⟩
  | dK l => obtain ⟨vs, e1, r⟩ := s; exact ⟨p, vs, rfl, o, .inl e1, r⟩
  | dT l => obtain ⟨vs, e1, r⟩ := s; exact ⟨p, vs, rfl, o, .inl e1, r⟩
  | ins c fs => obtain ⟨dx, fv, e1, r⟩ := s; exact ⟨p, dx, fv, rfl, o, e1, r⟩
  | _ => exact s.elim
end
def emptyO (t : Bool) : HO := if t then .dT [] else .dK []
theorem emptyO_ok {P : Program} {w : World} (t : Bool) (H : Hp) (h : Heap) (hb : sysModules < h.objs.size) : ObjOk P w H (h.push { cls := .type "dict", data := .dict #[] }) h.objs.size (emptyO t) := by
  cases t
  · exact dk_empty h hb
  · exact dt_empty h hb
section
variable {X : Cx} {F : Fr} {a e : Expr} {es : List Expr} {ea ee ek ev : E} {ees : Es} {pos : Pos} {b tt : Bool}
theorem tE_dcomp {t : T} {it : It} {ifs' : Es} (hlk : F.lk = []) {js : List Nat} (hown : js = slotsT t) {σ : L2.St} {H : Hp} {Q : VK} (z : tE F (.mk b (.dcomp tt ek ev (.mk t it ifs'))) σ H Q) : tDcG (emptyO tt) (tIt F it) (tG F.cmp t) (tTs F.cmp ifs') (tE F.cmp ek) (tE F.cmp ev) js σ H Q := by
  obtain ⟨w, env, h, Qd, Xd, hs, es, hd, o, ox⟩ := z
  refine ⟨w, env, h, _, Xd, hs, es, hd, fun w1 H1 J st l h1 e1 s1 wk q p hp => ?_, ox⟩
  obtain ⟨hl, q⟩ := q
  obtain ⟨G, Yv, wlk, hG, hY⟩ := wk [p] (fun a m => by rw [List.mem_singleton.mp m]; exact hp)
  have es1 := es.mono e1
  rw [hlk] at es1
  have os0 : OSim F.Y (w1.shy p) (upd H1 p (emptyO tt)) p (emptyD tt) := by cases tt <;> exact ⟨[], upd_same, rfl⟩
  have ne0 : ∀ l, emptyD tt ≠ .lst l := by cases tt <;> exact fun l z => nomatch z
  let PI2 : Nat → Hp → Prop := fun i H2 => ∃ w2 h2 acc, Fill w1 H1 p w2 H2 ∧ HSim F.Y w2 H2 h2 ∧ OSim F.Y w2 H2 p acc ∧ (∀ l, acc ≠ .lst l) ∧
    loopQ (fun x acc h k => ∃ v', setT t x (Pv.wipe env (slotsT t)) = some v' ∧ dTests F.P F.C ifs' v' h (fun b h' => if b = true then dE F.P F.C ek v' h' (fun dk h'' => dE F.P F.C ev v' h'' (fun dv h3 => ∃ acc', dSet acc dk dv = some acc' ∧ k acc' h3) (fun _ _ => False)) (fun _ _ => False) else k acc h')) st (l.drop i) acc h2 (fun acc h2 => pinQ b acc h2 Qd)
  have hGP : ∀ i H2, i ≤ l.length → PI2 i H2 → G H2 := by
    rintro i H2 _ ⟨w2, h2, acc, f, s2, k1, k2, lq⟩
    refine hG w2 H2 h2 f.ev s2 ?_
    cases hdr : l.drop i with
    | nil => rw [hdr] at lq; exact lq.1
    | cons x xs => rw [hdr] at lq; exact lq.1
  refine ⟨fun i m H2 => m = l.length - i ∧ i ≤ l.length ∧ PI2 i H2, ⟨l.length, by simp, Nat.zero_le _, w1.shy p, h1, emptyD tt, Fill.start hp, s1.shyNew (by cases tt <;> exact ⟨fun _ z => (nomatch z), fun _ _ z => (nomatch z)⟩) hp, os0, ne0, q⟩, ?_⟩
  rintro i m H2 ⟨rfl, hi, pv⟩
  have g := hGP i H2 hi pv
  obtain ⟨w2, h2, acc, f, s2, k1, k2, lq⟩ := pv
  by_cases hi2 : i < l.length
  · refine .inr ⟨wlk.goes i H2 hi2 g, PI2 (i + 1), fun H' p' => ⟨_, by omega, rfl, hi2, p'⟩, fun x H3 y => ?_⟩
    replace y := wlk.yields i H2 x H3 hi2 g y
    rw [List.drop_eq_getElem_cons hi2] at lq
    obtain ⟨st2, env', hset, lq⟩ := lq
    obtain ⟨d, hd2, ev3, s3, rd⟩ := hY i x w2 H2 h2 H3 hi2 f.ev s2 st2 y
    rw [List.getElem?_eq_getElem hi2] at hd2
    cases hd2
    have f3 := f.step ev3
    have es3 : EnvSim F.Y w2 H3 F.bad F.ce [] (Pv.wipe env (slotsT t)) (L2.wipe σ (slotsT t)) := envsim_wipe (es1.shyFill f3) _
    rw [hown]
    refine ⟨w2, Pv.wipe env (slotsT t), l[i], env', by rw [hlk]; exact es3, rd, hset, fun σ2 es4 hj => ?_⟩
    have hlen : σ2.length = σ.length := by
      rw [← es4.len, ← es1.len]
      exact (setT_len t hset).trans (wipe_len env _)
    refine ⟨wipe_same hlen _ fun j hj2 => (hj j hj2).trans (wipe_out σ hj2), w2, env', h2, _, s3, es4, lq, fun w4 H4 bb h4 ev4 s4 q4 => ?_⟩
    have f4 := f3.step ev4
    have o3 := k1.evoAv s2 ev3 f.av
    have o4 := o3.evoAv s3 ev4 f3.av
    cases bb with
    | false => exact ⟨w4, h4, acc, f4, s4, o4, k2, q4⟩
    | true =>
      refine ⟨w4, env', h4, _, fun _ _ => False, s4, es4.mono ev4, q4, fun w5 H5 v5 d5 h5 ev5 s5 r5 q5 => ?_, fun _ _ _ _ _ _ _ _ _ z => z.elim⟩
      have f5 := f4.step ev5
      have o5 := o4.evoAv s4 ev5 f4.av
      refine ⟨w5, env', h5, _, fun _ _ => False, s5, (es4.mono ev4).mono ev5, q5, fun w6 H6 v6 d6 h6 ev6 s6 r6 q6 => ?_, fun _ _ _ _ _ _ _ _ _ z => z.elim⟩
      have f6 := f5.step ev6
      have o6 := o5.evoAv s5 ev6 f5.av
      obtain ⟨acc', ha, q6⟩ := q6
      obtain ⟨u, z1, z2, z3⟩ := dSet_put o6 f6.av (r5.mono ev6) r6 ha k2
      obtain ⟨ob, kb, bb⟩ := o6.box
      exact ⟨_, z1, w6, h6, acc', f6.put, s6.updAv (by obtain ⟨_, q1, q2⟩ := z2.box; rw [upd_same] at q1; cases q1; exact q2.nc) f6.av ⟨kb, bb⟩, z2, z3, q6⟩
  · have ei : i = l.length := by omega
    subst ei
    refine .inl ⟨wlk.stops H2 g, ?_⟩
    rw [List.drop_length] at lq
    exact f.fin s1 s2 (d := acc) k1 (fun w' off os => os.rep off) (o.evo e1) lq.2
theorem ok_dcomp {kx vx tg iter : Expr} {ifs : List Expr} {scope : Scope} {own : List (Str × Nat)} {t : T} {it : It} {ifs' : Es} (hlk : F.lk = []) (hu : X.A.units + 1 < cLine) (hc : X.calm = true) (hN : X.N.Nodup) (hi : PI X tg iter (tIt F it)) (ok : BlkOk X.N X.env.scope scope own) (hown : own.map (·.2) = slotsT t)
    (hg : ∀ (s : Shared) (H : Hp) (C : Addr) (cl : List (Str × Addr)) (fp : List Addr), PG (X.blk s H scope (compEnvC scope cl C X.env) fp) tg (tG F.cmp t)) (ht : ∀ (s : Shared) (H : Hp) (C : Addr) (cl : List (Str × Addr)) (fp : List Addr), PTs (X.blk s H scope (compEnvC scope cl C X.env) fp) ifs (tTs F.cmp ifs'))
    (hk : ∀ (s : Shared) (H : Hp) (C : Addr) (cl : List (Str × Addr)) (fp : List Addr), PE (X.blk s H scope (compEnvC scope cl C X.env) fp) kx (tE F.cmp ek))
    (he : ∀ (s : Shared) (H : Hp) (C : Addr) (cl : List (Str × Addr)) (fp : List Addr), PE (X.blk s H scope (compEnvC scope cl C X.env) fp) vx (tE F.cmp ev)) (hs : ∀ x, foldedSetIterable iter X.env x = pure x) :
    PE X (.DictComp kx vx [⟨tg, iter, ifs, 0⟩] scope pos) (tE F (.mk b (.dcomp tt ek ev (.mk t it ifs')))) :=
  (pe_dcG (emptyO tt) (emptyO_ok tt) hu hc hN hi ok hg ht hk he hs).imp fun _ _ _ z => tE_dcomp hlk hown z
/-- x = [..], x = {..} on one line -/
theorem tS_set {e : E} {i : Nat} (hl : i ∉ F.lk) {D : L2.Ends} {σ : L2.St} {H : Hp} (z : tS F (.asg (.slot i) e) D σ H) : tE F e σ H (fun x H1 => gName i x σ H1 D.nx) := by
  obtain ⟨w, env, h, DD, hs, es, hd, o⟩ := z
  refine ⟨w, env, h, _, DD.ex env, hs, es, hd, fun w1 H1 v1 d1 h1 e1 s1 r1 ⟨env', hset, q1⟩ => ?_, o.outX es⟩
  cases hset
  exact o.nx w1 H1 _ h1 _ e1 s1 ((es.mono e1).set r1 hl) q1
theorem ok_setLc {i : Nat} {y : Str} {py spos : Pos} {elt tg iter : Expr} {ifs : List Expr} {scope : Scope} {own : List (Str × Nat)} {t : T} {it : It} {ifs' : Es} (hlk : F.lk = []) (hc : X.calm = true) (hN : X.N.Nodup) (hy : X.N[i]? = some y) (hyl : X.env.scope.names.lookup y = some .local)
    (hsw : swapsWith (.ListComp elt [⟨tg, iter, ifs, 0⟩] scope pos) (some (.Name y py)) spos.line X.env = pure true) (hi : PI X tg iter (tIt F it)) (ok : BlkOk X.N X.env.scope scope own) (hown : own.map (·.2) = slotsT t)
    (hg : ∀ (s : Shared) (H : Hp) (C : Addr) (cl : List (Str × Addr)) (fp : List Addr), PG (X.blk s H scope (compEnvC scope cl C X.env) fp) tg (tG F.cmp t)) (ht : ∀ (s : Shared) (H : Hp) (C : Addr) (cl : List (Str × Addr)) (fp : List Addr), PTs (X.blk s H scope (compEnvC scope cl C X.env) fp) ifs (tTs F.cmp ifs'))
    (he : ∀ (s : Shared) (H : Hp) (C : Addr) (cl : List (Str × Addr)) (fp : List Addr), PE (X.blk s H scope (compEnvC scope cl C X.env) fp) elt (tE F.cmp ee)) (hs : ∀ x, foldedSetIterable iter X.env x = pure x) :
    PS X (.Assign [.Name y py] (.ListComp elt [⟨tg, iter, ifs, 0⟩] scope pos) spos) (tS F (.asg (.slot i) (.mk b (.comp ee (.mk t it ifs'))))) :=
  (ps_setLc hc hN hy hyl hsw hi ok hg ht he hs).imp fun D σ H z => tE_comp hlk hown (tS_set (by rw [hlk]; simp) z)
theorem ok_setDc {i : Nat} {y : Str} {py spos : Pos} {kx vx tg iter : Expr} {ifs : List Expr} {scope : Scope} {own : List (Str × Nat)} {t : T} {it : It} {ifs' : Es} (hlk : F.lk = []) (hu : X.A.units + 1 < cLine) (hc : X.calm = true) (hN : X.N.Nodup) (hy : X.N[i]? = some y) (hyl : X.env.scope.names.lookup y = some .local)
    (hsw : swapsWith (.DictComp kx vx [⟨tg, iter, ifs, 0⟩] scope pos) (some (.Name y py)) spos.line X.env = pure true) (hi : PI X tg iter (tIt F it)) (ok : BlkOk X.N X.env.scope scope own) (hown : own.map (·.2) = slotsT t)
    (hg : ∀ (s : Shared) (H : Hp) (C : Addr) (cl : List (Str × Addr)) (fp : List Addr), PG (X.blk s H scope (compEnvC scope cl C X.env) fp) tg (tG F.cmp t)) (ht : ∀ (s : Shared) (H : Hp) (C : Addr) (cl : List (Str × Addr)) (fp : List Addr), PTs (X.blk s H scope (compEnvC scope cl C X.env) fp) ifs (tTs F.cmp ifs'))
    (hk : ∀ (s : Shared) (H : Hp) (C : Addr) (cl : List (Str × Addr)) (fp : List Addr), PE (X.blk s H scope (compEnvC scope cl C X.env) fp) kx (tE F.cmp ek))
    (he : ∀ (s : Shared) (H : Hp) (C : Addr) (cl : List (Str × Addr)) (fp : List Addr), PE (X.blk s H scope (compEnvC scope cl C X.env) fp) vx (tE F.cmp ev)) (hs : ∀ x, foldedSetIterable iter X.env x = pure x) :
    PS X (.Assign [.Name y py] (.DictComp kx vx [⟨tg, iter, ifs, 0⟩] scope pos) spos) (tS F (.asg (.slot i) (.mk b (.dcomp tt ek ev (.mk t it ifs'))))) :=
  (ps_setDc (emptyO tt) (emptyO_ok tt) hu hc hN hy hyl hsw hi ok hg ht hk he hs).imp fun D σ H z => tE_dcomp hlk hown (tS_set (by rw [hlk]; simp) z)
end
end Pv
end

section
set_option maxRecDepth 100000
set_option maxHeartbeats 4000000
namespace Pv
open PySem PySem.Spec PyProof.Rows L2
/-! ### d.items() -/
/-- an entry each: a new pair of the key's own tuple and the value -/
def Itit (d : Addr) (o : Obj) (kvs : List (List Key × V)) : L2.It :=
  ⟨fun i H => H d = some (.frz o (.dT kvs)) ∧ i < kvs.length, fun i H x H' => ∃ (T : Addr) (k : List Key) (v : V) (q : Addr), kvs[i]? = some (k, v) ∧ x = .ref T ∧ H T = none ∧ H q = some (.tup (k.map kV)) ∧ H' = upd H T (.tup [.ref q, v]), fun i H => H d = some (.frz o (.dT kvs)) ∧ kvs.length ≤ i⟩
theorem frzT_ent {X : Cx} {pins : List (Addr × Obj)} {σ : L2.St} {H : Hp} {s : Shared} {d : Addr} {o : Obj} {kvs : List (List Key × V)} (I : Inv X pins σ H s) (h : H d = some (.frz o (.dT kvs))) :
    (d == sysModules) = false ∧ s.heap.get? d = some o ∧ o.ExactDict ∧ ∃ (es : Array DictEntry) (ep : Nat), o.data = .dict es ep ∧ es.size = kvs.length ∧
      ∀ (i : Nat) (k : List Key) (v : V), kvs[i]? = some (k, v) → ∃ (en : DictEntry) (q : Addr), es[i]? = some en ∧ en.key = .ref q ∧ H q = some (.tup (k.map kV)) ∧ L2.RelV v en.val := by
  obtain ⟨hd, z, hs, xs, pr, o', es, ep, ho, hx, hdt, he, _⟩ := I.hok d _ h
  rw [hd] at ho
  cases ho
  refine ⟨hs, hd, hx, es, ep, hdt, ?_, fun i k v e => ?_⟩
  · have l1 : es.size = xs.length := size_of_entries he
    have l2 : kvs.length = xs.length := Paired.length pr
    omega
  · obtain ⟨b, hb, e1, e2, e3⟩ := paired_get pr e
    have q := entry_at he i
    rw [hb] at q
    exact ⟨_, b.2.1, q, rfl, e2, e3⟩
section
variable {P : Program} {w : World} {K : PySem.W.Frag} {d : Addr} {o : Obj} {es : Array DictEntry} {ep : Nat}
theorem turn_itemsT {kvs : List (List Key × V)} {elts : List Expr} {kk : Nat} {tpos : Pos} (it : Addr) (hod : o.data = .dict es ep) :
    Turn P w K (.Tuple elts kk tpos) (Itit d o kvs) [it] it (fun i h => ∃ ok ov, IsItemIter h it d i kvs.length ep ok ov) where
  mem := List.mem_singleton.mpr rfl
  obj := fun i h st b hb => by
    obtain rfl : b = it := List.mem_singleton.mp hb
    obtain ⟨ok, ov, e⟩ := st
    exact ⟨_, e, fun v z => nomatch z⟩
  keep := fun i h h' st k => let ⟨ok, ov, e⟩ := st; ⟨ok, ov, k it (List.mem_singleton.mpr rfl) _ e⟩
  item := by
    intro X hP hw hK hc i pins s σ H E I hf st hg
    cases hP
    cases hw
    cases hK
    obtain ⟨hd, hi⟩ := hg
    obtain ⟨hs, hgd, hx, es', ep', hdt, hsz, ent⟩ := frzT_ent I hd
    obtain ⟨e1, e2⟩ := dict_ep hod hdt
    cases e1
    cases e2
    have hkv : kvs[i]? = some (kvs[i].1, kvs[i].2) := List.getElem?_eq_getElem hi
    obtain ⟨en, q, hen, hkey, hq, hval⟩ := ent i _ _ hkv
    obtain ⟨ok, ov, he⟩ := st
    rw [← hsz] at he hi
    have hen2 : es[i] = en := by rw [Array.getElem?_eq_getElem hi] at hen; exact Option.some.inj hen
    have hlt : it < s.heap.objs.size := Heap.lt_size he
    refine wpAny_pyNext_items_item_raw he ⟨o, hgd, hx, hdt⟩ hi fun h' ho hT hz hk => ?_
    refine ⟨_, rfl, wpAny_letOwnedTupleGo_items (s := { s with heap := h' }) ho fun h'' he' sb => ?_⟩
    have hT2 := (sb.2 _ (Nat.ne_of_gt hlt)).trans hT
    rw [hen2, hkey] at hT2
    have new : ObjOk X.prog X.w (upd H s.heap.objs.size (.tup [.ref q, kvs[i].2])) h'' s.heap.objs.size (.tup [.ref q, kvs[i].2]) :=
      ⟨by show 2 ≤ sizeLine; decide, [.ref q, en.val], .cons rfl (.cons hval .nil), ⟨_, hT2, rfl, _, rfl⟩⟩
    have I1 : Inv X pins σ (upd H s.heap.objs.size (.tup [.ref q, kvs[i].2])) { s with heap := h'' } :=
      I.turnedNew (t' := s.toks) (ch := [it]) (fun b ob hb e => (sb.2 b (fun z => hb (List.mem_singleton.mpr z))).trans (hk b ob (fun z => hb (List.mem_singleton.mpr z)) e)) hf (Nat.le_refl _) new
    refine ⟨.ref s.heap.objs.size, _, I1, rfl, ⟨_, _, _, q, hkv, rfl, I.hok.fresh (Nat.le_refl _), hq, rfl⟩, ⟨_, _, by rw [hsz] at he'; exact he'⟩, fun b hb => ?_⟩
    rw [List.mem_singleton.mp hb, upd_ne (Nat.ne_of_lt hlt)]
    exact (hf it (List.mem_singleton.mpr rfl)).1
  done := by
    intro X hP hw hK hc i pins s σ H E I hf st hg
    cases hP
    cases hw
    cases hK
    obtain ⟨hd, hi⟩ := hg
    obtain ⟨f0, f1, f2, f3, f4, f5⟩ := hf it (List.mem_singleton.mpr rfl)
    obtain ⟨hs, hgd, hx, es', ep', hdt, hsz, ent⟩ := frzT_ent I hd
    obtain ⟨e1, e2⟩ := dict_ep hod hdt
    cases e1
    cases e2
    obtain ⟨ok, ov, he⟩ := st
    rw [← hsz] at he hi
    exact wpAny_pyNext_items_end_raw (I.ok.hd hc) he ⟨o, hgd, hx, hdt⟩ hi fun h' eb => ⟨rfl, I.turned (t' := s.toks) (fun b ob hb e => eb b ob hb e) f0 f1 f3 f4 f5⟩
  self := fun A i s Q E st h => let ⟨_, _, e⟩ := st; PySem.W.kcp_self e h
end
/-- both sorts of dicts, locked or not -/
def iItemsA (te : TE) : TI := fun σ H R => te σ H fun x H1 =>
  (∃ d o kvs, x = .ref d ∧ H1 d = some (.frz o (.dK kvs)) ∧ R (Iti d o kvs) H1) ∨ (∃ d o kvs, x = .ref d ∧ H1 d = some (.frz o (.dT kvs)) ∧ R (Itit d o kvs) H1) ∨
  (∃ d kvs, x = .ref d ∧ H1 d = some (.dK kvs) ∧ ∀ o, R (Iti d o kvs) (upd H1 d (.frz o (.dK kvs)))) ∨ (∃ d kvs, x = .ref d ∧ H1 d = some (.dT kvs) ∧ ∀ o, R (Itit d o kvs) (upd H1 d (.frz o (.dT kvs))))
section
variable {X : Cx} {e : Expr} {te : TE} {cpos apos tpos : Pos} {elts : List Expr} {kk : Nat}
theorem items_at {pins : List (Addr × Obj)} {σ : L2.St} {H : Hp} {s : Shared} {R : L2.It → Hp → Prop} {d : Addr} {es : Array DictEntry} {ep : Nat} {J : L2.It} {n : Nat} (I : Inv X pins σ H s) (hd : (d == sysModules) = false) (m : s.heap.DictRaw d es ep)
    (tn : ∀ it, Turn X.prog X.w X.K (.Tuple elts kk tpos) J [it] it (fun i h => ∃ ok ov, IsItemIter h it d i es.size ep ok ov)) (q : R J H) :
    wpAny (model X.prog X.w) X.A (callWith cpos (.builtin "dict.items") [.ref d] [] []) (fun v s' => wpAny (model X.prog X.w) X.A (pyIter v) (PIE X pins σ (.Tuple elts kk tpos) R) X.xe s') X.xe s := by
  have I2 : Inv X pins σ H { s with heap := s.heap.push { cls := .type "dict_items", data := .fields #[.ref d] } } := I.kept (t' := s.toks) fun b ob q => Heap.get?_push_of_some _ q
  have m2 : (s.heap.push ({ cls := .type "dict_items", data := .fields #[.ref d] } : Obj)).DictRaw d es ep := m.at fun o e => Heap.get?_push_of_some _ e
  have fin : wpAny (model X.prog X.w) X.A (pyIter (.ref s.heap.objs.size)) (PIE X pins σ (.Tuple elts kk tpos) R) X.xe { s with heap := s.heap.push { cls := .type "dict_items", data := .fields #[.ref d] } } :=
    wpAny_pyIter_items_raw (d := d) ⟨_, Heap.get?_push_size _ rfl, rfl, rfl⟩ m2 (pi_one (tk := s.toks) I2 _ (tn _) ⟨.none, .none, Heap.get?_push_size _ rfl⟩ q)
  exact method_meetsIn PySem.F.slot_dict_items PySem.F.entry_dict_items rfl (PySem.evalArgs_none ⟨rfl, m.typeIs, PySem.F.args_dict_items_1 _, _, DT.meetsItems (es := es) (ep := ep) hd, ⟨m, fin⟩⟩)
theorem pi_itemsA (he : PE X e te) (hbase : attributeBase e "items" X.env (eval e X.env) = eval e X.env) (hline : (apos.endLine == cpos.line) = true) :
    PI X (.Tuple elts kk tpos) (.Call (.Attribute e "items" apos) [] [] cpos) (iItemsA te) := by
  refine ⟨fun pins s σ H R I h => ?_⟩
  refine wpAny_Call_method (T := "dict") (id := "dict.items") hbase rfl hline PySem.F.plainAttrs_dict PySem.F.slot_dict_items PySem.F.type_dict_items (thn (he.run pins s σ H _ I h) fun u s1 ⟨x, H1, I1, rx, q⟩ => ?_)
  rcases q with ⟨d, o, kvs, rfl, hd, q⟩ | ⟨d, o, kvs, rfl, hd, q⟩ | ⟨d, kvs, rfl, hd, q⟩ | ⟨d, kvs, rfl, hd, q⟩
  · obtain rfl : u = Value.ref d := rx
    obtain ⟨hs, hgd, hx, es, ep, vs, hdt, hsz, kv, hm⟩ := I1.frzK hd
    have raw : s1.heap.DictRaw d es ep := ⟨o, hgd, hx, hdt⟩
    exact ⟨raw.typeIs, hm.dictOf.mapOf.noDict, items_at (n := kvs.length) I1 hs raw (fun it => by rw [hsz]; exact turn_items it hdt) q⟩
  · obtain rfl : u = Value.ref d := rx
    obtain ⟨hs, hgd, hx, es, ep, hdt, hsz, _⟩ := frzT_ent I1 hd
    have raw : s1.heap.DictRaw d es ep := ⟨o, hgd, hx, hdt⟩
    exact ⟨raw.typeIs, fun a z => by cases z; exact ⟨o, hgd, hx.2.1⟩, items_at (n := kvs.length) I1 hs raw (fun it => by rw [hsz]; exact turn_itemsT it hdt) q⟩
  · obtain rfl : u = Value.ref d := rx
    obtain ⟨o, I2⟩ := I1.lock hd trivial
    obtain ⟨hs, hgd, hx, es, ep, vs, hdt, hsz, kv, hm⟩ := I2.frzK upd_same
    have raw : s1.heap.DictRaw d es ep := ⟨o, hgd, hx, hdt⟩
    exact ⟨raw.typeIs, hm.dictOf.mapOf.noDict, items_at (n := kvs.length) I2 hs raw (fun it => by rw [hsz]; exact turn_items it hdt) (q o)⟩
  · obtain rfl : u = Value.ref d := rx
    obtain ⟨o, I2⟩ := I1.lock hd trivial
    obtain ⟨hs, hgd, hx, es, ep, hdt, hsz, _⟩ := frzT_ent I2 upd_same
    have raw : s1.heap.DictRaw d es ep := ⟨o, hgd, hx, hdt⟩
    exact ⟨raw.typeIs, fun a z => by cases z; exact ⟨o, hgd, hx.2.1⟩, items_at (n := kvs.length) I2 hs raw (fun it => by rw [hsz]; exact turn_itemsT it hdt) (q o)⟩
end
/-! ### walks of items -/
section
variable {Y : At} {w : Wd} {H : Hp} {h : Hm}
theorem walks_iK {a : Addr} {o : Obj} {l : List (K × D)} {kvs : List (Key × V)} (e : H a = some (.frz o (.dK kvs))) (off : Off w a) (r : RepK Y w H l kvs) : Walks Y w H (Iti a o kvs) [] (l.map fun p => .tup [kD p.1, p.2]) := by
  refine ⟨fun H => H a = some (.frz o (.dK kvs)), YPair (fun i => kvs[i]?.map fun kv => kV kv.1) (fun i => kvs[i]?.map Prod.snd), ?_, fun w' H' h' ev _ _ => ev.frzK off e, fun i x w1 H1 h1 H1' hi ev hs _ y => ?_⟩
  · rw [List.length_map, r.length]
    exact walk_items
  · obtain ⟨T, x, z, rfl, hT, rfl, hx, hz⟩ := y
    obtain ⟨⟨k, v⟩, hk, rfl⟩ := Option.map_eq_some_iff.mp hx
    replace hz : kvs[i]?.map Prod.snd = some z := hz
    rw [hk] at hz
    cases hz
    obtain ⟨q, d, e1, rfl, rv⟩ := repK_get r hk
    have e2 := Evo.new (w := w1) (o := .tup [kV (keyV q), v]) hT
    exact ⟨.tup [kD q, d], by rw [List.getElem?_map, e1]; rfl, e2, hs.new hT, T, _, rfl, upd_same, ⟨_, _, rfl, kD_rep q, ⟨_, _, rfl, (rv.mono ev).mono e2, rfl⟩⟩⟩
theorem walks_iT {a : Addr} {o : Obj} {l : List (List K × D)} {kvs : List (List Key × V)} (e : H a = some (.frz o (.dT kvs))) (off : Off w a) (r : RepT Y w H l kvs) : Walks Y w H (Itit a o kvs) [] (l.map fun p => .tup [.tup (p.1.map kD), p.2]) := by
  refine ⟨fun H => H a = some (.frz o (.dT kvs)), fun i H x H' => ∃ (T : Addr) (k : List Key) (v : V) (q : Addr), kvs[i]? = some (k, v) ∧ x = .ref T ∧ H T = none ∧ H q = some (.tup (k.map kV)) ∧ H' = upd H T (.tup [.ref q, v]), ⟨fun i H hi q => ⟨q, by rw [List.length_map, r.length] at hi; exact hi⟩, fun H q => ⟨q, by rw [List.length_map, r.length]; exact Nat.le_refl _⟩, fun i H x H' _ _ y => y⟩, fun w' H' h' ev _ _ => ev.frzT off e, fun i x w1 H1 h1 H1' hi ev hs _ y => ?_⟩
  · obtain ⟨T, k, v, q, hk, rfl, hT, hq, rfl⟩ := y
    obtain ⟨q', d, e1, rfl, rv⟩ := repT_get r hk
    have e2 := Evo.new (w := w1) (o := .tup [.ref q, v]) hT
    have hq2 : upd H1 T (.tup [.ref q, v]) q = some (.tup ((q'.map keyV).map kV)) := (upd_ne (ne_of_none hq hT)).trans hq
    exact ⟨.tup [.tup (q'.map kD), d], by rw [List.getElem?_map, e1]; rfl, e2, hs.new hT, T, _, rfl, upd_same, ⟨_, _, rfl, ⟨q, _, rfl, hq2, kDs_rep q'⟩, ⟨_, _, rfl, (rv.mono ev).mono e2, rfl⟩⟩⟩
end
section
variable {X : Cx} {F : Fr} {e : Expr} {ee : E} {cpos apos tpos : Pos} {elts : List Expr} {kk : Nat}
theorem ok_items (he : PE X e (tE F ee)) (hbase : attributeBase e "items" X.env (eval e X.env) = eval e X.env) (hline : (apos.endLine == cpos.line) = true) :
    PI X (.Tuple elts kk tpos) (.Call (.Attribute e "items" apos) [] [] cpos) (tIt F (.items ee)) :=
  (pi_itemsA he hbase hline).imp fun σ H Q ⟨w, env, h, Qd, Xd, hs, es, hd, o, ox⟩ => by
    refine ⟨w, env, h, _, Xd, hs, es, hd, fun w1 H1 v1 d1 h1 e1 s1 r1 q1 => ?_, ox⟩
    obtain ⟨l, hl, q⟩ := q1
    unfold pairs at hl
    split at hl
    · cases hl
      obtain ⟨a, kvs, rfl, off, k1 | ⟨ob, k1⟩, k2⟩ := r1
      · refine .inr (.inr (.inl ⟨a, kvs, rfl, k1, fun ob => ?_⟩))
        have ev := Evo.lockK (w := w1) (o := ob) off.2 k1
        have s2 := s1.evo_off off.1 (by rw [k1]; exact fun _ z => nomatch z) (by rw [k1]; exact fun _ z => nomatch z) (by exact ⟨fun _ z => (nomatch z), fun _ _ z => (nomatch z)⟩) ev
        exact o _ _ _ _ _ _ (e1.trans ev) s2 (fun P hP => walks_iK upd_same (off.shys (H := upd H1 a (.frz ob (.dK kvs))) upd_same hP) ((k2.mono ev).shys hP)) q
      · exact .inl ⟨a, ob, kvs, rfl, k1, o _ _ _ _ _ _ e1 s1 (fun P hP => walks_iK k1 (off.shys k1 hP) (k2.shys hP)) q⟩
    · cases hl
      obtain ⟨a, kvs, rfl, off, k1 | ⟨ob, k1⟩, k2⟩ := r1
      · refine .inr (.inr (.inr ⟨a, kvs, rfl, k1, fun ob => ?_⟩))
        have ev := Evo.lockT (w := w1) (o := ob) off.2 k1
        have s2 := s1.evo_off off.1 (by rw [k1]; exact fun _ z => nomatch z) (by rw [k1]; exact fun _ z => nomatch z) (by exact ⟨fun _ z => (nomatch z), fun _ _ z => (nomatch z)⟩) ev
        exact o _ _ _ _ _ _ (e1.trans ev) s2 (fun P hP => walks_iT upd_same (off.shys (H := upd H1 a (.frz ob (.dT kvs))) upd_same hP) ((k2.mono ev).shys hP)) q
      · exact .inr (.inl ⟨a, ob, kvs, rfl, k1, o _ _ _ _ _ _ e1 s1 (fun P hP => walks_iT k1 (off.shys k1 hP) (k2.shys hP)) q⟩)
    · cases hl
end
end Pv
end

section
set_option maxRecDepth 100000
set_option maxHeartbeats 4000000
namespace Pv
open PySem PySem.Spec PyProof.Rows L2 PySem.W PySem.Calls
/-! ### what is collected -/
theorem kdl_raw {prog : Program} {w : World} {d : Addr} {es : Array DictEntry} {ep : Nat} (lo : (d == sysModules) = false) : KdlSrc prog w "dict" d d es.size (fun i v => ∃ hi : i < es.size, v = es[i].key) (fun h => h.DictRaw d es ep) where
  type := fun _ m => m.typeIs
  there := fun _ m => by obtain ⟨o, ho, _⟩ := m; exact ⟨Heap.lt_size ho, Heap.lt_size ho⟩
  keep := fun _ _ m k => m.at fun o e => k d (.inl rfl) o e
  notList := by decide
  notTuple := by decide
  hint := fun _ _ _ _ m q => kdl_hint_dict m.typeIs q
  iter := fun _ s hh m => by
    have hlt : d < s.heap.objs.size := by obtain ⟨o, ho, _⟩ := id m; exact Heap.lt_size ho
    exact ⟨_, _, (fun _ _ hq => wpAny_pyIter_dict_raw lo m hq), Walks.rawKeys hh _ d (Nat.ne_of_lt hlt) es ep, ⟨⟨_, Heap.get?_push_size _ rfl, rfl, rfl⟩, m.at fun o e => Heap.get?_push_of_some _ e⟩⟩
section
variable {prog : Program} {w : World} {A : Around} {E : Value → Shared → Prop} {s : Shared}
theorem collect_tup {l : Addr} {vs : List Value} {Q : List Value → Shared → Prop} (hl : IsTup s.heap l vs.toArray)
    (h : Q vs { s with heap := (s.heap.push (seqObj "list" #[] 0)).update s.heap.objs.size (Obj.mapSeq (· ++ vs.toArray)) }) (hsz : vs.length ≤ sizeLine) :
    wpAny (model prog w) A (collect (.ref l)) Q E s := by
  obtain ⟨o, ho, hc, n, hd⟩ := id hl
  have ho' : (s.heap.push (seqObj "list" #[] 0)).get? l = some o := Heap.get?_push_of_some _ ho
  have hN : (s.heap.push (seqObj "list" #[] 0)).get? s.heap.objs.size = some (seqObj "list" #[] 0) := Heap.get?_push_size _ rfl
  unfold collect
  refine wpAny_bind (wpAny_runValue (codeAny_builtin entry_proto_collect' ?_))
  show wpAny _ _ (newList [] >>= fun l' => again (.builtin "list.__iadd__" ⟨[l', .ref l], []⟩)) _ _ s
  refine wpAny_bind (wpAny_newList (wpAny_pure ⟨Code.quiet_builtin _ (by decide +kernel), codeAny_builtin entry_list_iadd' ?_⟩))
  show wpAny _ _ (Builtin.List.listExtendWith (.ref s.heap.objs.size) (.ref l) (.ref s.heap.objs.size)) _ _ { s with heap := s.heap.push (seqObj "list" #[] 0) }
  unfold Builtin.List.listExtendWith
  refine wpAny_bind (wpAny_typeOf (T := "tuple") ⟨o, ho', hc⟩ ?_)
  rw [if_pos (by rw [show (Value.type "tuple" == Value.type "tuple") = true from rfl]; simp)]
  refine wpAny_bind (listItems_at ho' hd (wpAny_bind (listItems_at hN rfl ?_)))
  rw [if_neg (by simp)]
  refine wpAny_bind (listUpdate_at hN rfl ?_ (Nat.zero_le _) (by show (#[] ++ vs.toArray).size ≤ sizeLine + 1; simp only [Array.size_append, List.size_toArray, List.length_nil]; omega))
  refine wpAny_pure ?_
  show wpAny (model prog w) A (load s.heap.objs.size >>= fun o => match o.data with | .seq xs _ => pure xs.toList | _ => unsupported "internal:collect") Q E { s with heap := (s.heap.push (seqObj "list" #[] 0)).update s.heap.objs.size (Obj.mapSeq (· ++ vs.toArray)) }
  refine wpAny_bind (wpAny_load (get?_update_seq hN _) ?_)
  show wpAny _ _ (pure ((#[] : Array Value) ++ vs.toArray).toList) Q E _
  rw [show ((#[] : Array Value) ++ vs.toArray).toList = vs by simp]
  exact wpAny_pure h
theorem cellect_keep {vs : List Value} {b : Addr} {o : Obj} (e : s.heap.get? b = some o) : ((s.heap.push (seqObj "list" #[] 0)).update s.heap.objs.size (Obj.mapSeq (· ++ vs.toArray))).get? b = some o := by
  rw [Heap.get?_update_ne _ _ _ _ (Nat.ne_of_lt (Heap.lt_size e))]
  exact Heap.get?_push_of_some _ e
end
section
variable {X : Cx} {pins : List (Addr × Obj)} {σ : L2.St} {H : Hp} {s : Shared} {E : Value → Shared → Prop} {Y : At} {w : Wd}
theorem dt_ent {d : Addr} {kvs : List (List Key × V)} (I : Inv X pins σ H s) (h : Rd H d (.dT kvs)) :
    (d == sysModules) = false ∧ ∃ (es : Array DictEntry) (ep : Nat), s.heap.DictRaw d es ep ∧ es.size = kvs.length ∧
      ∀ (i : Nat) (k : List Key) (v : V), kvs[i]? = some (k, v) → ∃ (en : DictEntry) (q : Addr), es[i]? = some en ∧ en.key = .ref q ∧ H q = some (.tup (k.map kV)) ∧ L2.RelV v en.val := by
  rcases h with h | ⟨o, h⟩
  · obtain ⟨z, hs, xs, pr, o', es, ep, ho, hx, hdt, he, _⟩ := I.hok d _ h
    refine ⟨hs, es, ep, ⟨o', ho, hx, hdt⟩, ?_, fun i k v e => ?_⟩
    · have l1 : es.size = xs.length := size_of_entries he
      have l2 : kvs.length = xs.length := Paired.length pr
      omega
    · obtain ⟨b, hb, e1, e2, e3⟩ := paired_get pr e
      have q := entry_at he i
      rw [hb] at q
      exact ⟨_, b.2.1, q, rfl, e2, e3⟩
  · obtain ⟨hs, hgd, hx, es, ep, hdt, hsz, ent⟩ := frzT_ent I h
    exact ⟨hs, es, ep, ⟨o, hgd, hx, hdt⟩, hsz, ent⟩
theorem vr_build : ∀ {us : List Value} {l : List D}, us.length = l.length → (∀ (i : Nat) (u : Value) (d : D), us[i]? = some u → l[i]? = some d → ∃ v, L2.RelV v u ∧ Rep Y w H d v) → ∃ ys, Vals ys us ∧ Reps Y w H l ys
  | [], [], _, _ => ⟨[], .nil, rfl⟩
  | [], _ :: _, h, _ => by cases h
  | _ :: _, [], h, _ => by cases h
  | u :: us, d :: l, h, g => by
    obtain ⟨v, r1, r2⟩ := g 0 u d rfl rfl
    obtain ⟨ys, q1, q2⟩ := vr_build (us := us) (l := l) (Nat.succ.inj h) fun i u' d' e1 e2 => g (i + 1) u' d' e1 e2
    exact ⟨v :: ys, .cons r1 q1, v, ys, rfl, r2, q2⟩
/-- the items, collected -/
theorem coll_go {A : Around} {a : Addr} {d : D} {l : List D} {Q : List Value → Shared → Prop} (I : Inv X pins σ H s) (hK : Y.K = X.K) (hh : A.handled = none) (r : CRep Y w H d (.ref a)) (e : collD d = some l) (hl : l.length ≤ sizeLine)
    (h : ∀ (h' : Heap) (tk : Nat) (ys : List V) (us : List Value), (∀ b o, s.heap.get? b = some o → h'.get? b = some o) → Vals ys us → Reps Y w H l ys → Q us { s with heap := h', toks := tk }) :
    wpAny (model X.prog X.w) A (collect (.ref a)) Q E s := by
  unfold collD at e
  split at e
  · cases e
    obtain ⟨p, vs, hp, k1, k2⟩ := r.tup
    cases hp
    rw [hK] at k1
    obtain ⟨its, rv, pt, hz⟩ := I.tuple k1
    exact collect_tup (l := a) (vs := its) pt (h _ _ vs its (fun b o q => cellect_keep q) rv k2) (by rw [← rv.length]; exact hz)
  · cases e
    obtain ⟨p, vs, hp, k1, k2⟩ := r.lst
    cases hp
    obtain ⟨its, rv, pt, hz⟩ := I.list (.inl k1)
    exact collect_list pt.isList (h _ _ vs its (fun b o q => cellect_keep q) rv k2) (by rw [← rv.length]; exact hz)
  · rename_i kvs
    cases e
    obtain ⟨p, kv, hp, k1, k2⟩ := r.dK
    cases hp
    obtain ⟨z, lo, vs, rel, dd⟩ := dk_rd I.hok k1
    obtain ⟨ep, hat⟩ := dd.dictAt
    have h1 : kv.length = vs.length := Paired.length rel
    have h2 := k2.length
    rw [List.length_map] at hl
    refine kdu_collect (kdl_dict (knd := mixKind X.prog X.w) (kvs := vs) (ep := ep) lo) hh hat (by omega) fun h' tk acc hk hacc => ?_
    obtain ⟨ys, q1, q2⟩ := vr_build (Y := Y) (w := w) (H := H) (us := acc.toList) (l := kvs.map fun p => kD p.1) (by rw [Array.length_toList, hacc.1, List.length_map]; omega) fun i u d e1 e2 => by
      obtain ⟨k, x, e3, e4⟩ := hacc.2 i u (by rw [← Array.getElem?_toList]; exact e1)
      obtain ⟨⟨q, dq⟩, e5, rfl⟩ := Option.map_eq_some_iff.mp (by rw [List.getElem?_map] at e2; exact e2)
      have e6 : (vs.map (·.1))[i]? = some k := by rw [List.getElem?_map, e3]; rfl
      rw [← rel.keys, List.getElem?_map] at e6
      obtain ⟨⟨k', v'⟩, e7, e8⟩ := Option.map_eq_some_iff.mp e6
      obtain ⟨q', d', e9, e10, _⟩ := repK_get k2 e7
      rw [e5] at e9
      cases e9
      have e8 : k' = k := e8
      subst e8 e10
      exact ⟨_, relV_key e4, kD_rep q⟩
    exact h h' tk ys _ hk q1 q2
  · rename_i kvs
    cases e
    obtain ⟨p, kv, hp, k1, k2⟩ := r.dT
    cases hp
    obtain ⟨lo, es, ep, raw, hsz, ent⟩ := dt_ent I k1
    have h2 := k2.length
    rw [List.length_map] at hl
    refine kdu_collect (kdl_raw (es := es) (ep := ep) lo) hh raw (by omega) fun h' tk acc hk hacc => ?_
    obtain ⟨ys, q1, q2⟩ := vr_build (Y := Y) (w := w) (H := H) (us := acc.toList) (l := kvs.map fun p => .tup (p.1.map kD)) (by rw [Array.length_toList, hacc.1, List.length_map]; omega) fun i u d e1 e2 => by
      obtain ⟨hi, e3⟩ := hacc.2 i u (by rw [← Array.getElem?_toList]; exact e1)
      obtain ⟨⟨q, dq⟩, e5, rfl⟩ := Option.map_eq_some_iff.mp (by rw [List.getElem?_map] at e2; exact e2)
      have hi2 : i < kv.length := by omega
      obtain ⟨en, t, e6, e7, e8, _⟩ := ent i _ _ (List.getElem?_eq_getElem hi2)
      obtain ⟨q', d', e9, e10, _⟩ := repT_get k2 (List.getElem?_eq_getElem hi2)
      rw [e5] at e9
      cases e9
      rw [Array.getElem?_eq_getElem hi] at e6
      cases e6
      rw [e7] at e3
      subst e3
      rw [e10] at e8
      exact ⟨.ref t, rfl, t, _, rfl, e8, kDs_rep q⟩
    exact h h' tk ys _ hk q1 q2
  · cases e
end
/-! ### sorting -/
mutual
def lfP : PyData → Bool
  | .list _ | .dict _ => false
  | .tuple l => lfPs l
  | _ => true
def lfPs : List PyData → Bool
  | [] => true
  | a :: l => lfP a && lfPs l
end
mutual
theorem lf_none {h : Heap} : ∀ (p : PyData) {v : Value} {as : List Addr}, lfP p = true → Reads h v p as → as = []
  | .none, v, as, _, r => by cases r; rfl
  | .bool b, v, as, _, r => by cases r; rfl
  | .int b, v, as, _, r => by cases r; rfl
  | .str b, v, as, _, r => by cases r; rfl
  | .tuple l, v, as, f, r => by
    cases r with
    | tuple _ _ _ ra => exact lfs_none l f ra
  | .list _, _, _, f, _ => by cases f
  | .dict _, _, _, f, _ => by cases f
theorem lfs_none {h : Heap} : ∀ (p : List PyData) {v : List Value} {as : List Addr}, lfPs p = true → ReadsAll h v p as → as = []
  | [], v, as, _, r => by cases r; rfl
  | a :: l, v, as, f, r => by
    obtain ⟨f1, f2⟩ := Bool.and_eq_true_iff.mp f
    cases r with
    | cons h1 h2 => rw [lf_none a f1 h1, lfs_none l f2 h2]; rfl
end
theorem toPy_ints (a : List Int) : toPys (a.map .int) = a.map .int := by
  rw [toPys_map, List.map_map]; rfl
theorem cmpE_py {a b : D} (h : cmpE a b = true) : alike (toPy a) (toPy b) = true ∧ lfP (toPy a) = true ∧ dataLt (toPy a) (toPy b) = slt a b ∧ PyData.eqv (toPy a) (toPy b) = deq a b := by
  unfold cmpE at h
  split at h
  · rename_i i j
    exact ⟨rfl, rfl, dataLt_int i j, rfl⟩
  · rename_i x y
    refine ⟨rfl, rfl, ?_, ?_⟩
    · show dataLt (.str (sV x)) (.str (sV y)) = ltNats x y
      rw [dataLt_str, sV_cps, sV_cps, ltNats_eq]
    · show (sV x == sV y) = (x == y)
      rw [Bool.eq_iff_iff, beq_iff_eq, beq_iff_eq]
      exact ⟨sV_inj, fun e => by rw [e]⟩
  · rename_i l m
    obtain ⟨h1, h2⟩ := Bool.and_eq_true_iff.mp h
    obtain ⟨p, hp⟩ := Option.isSome_iff_exists.mp h1
    obtain ⟨q, hq⟩ := Option.isSome_iff_exists.mp h2
    have e1 := intsOf_eq hp
    have e2 := intsOf_eq hq
    subst e1 e2
    have lf : ∀ a : List Int, lfPs (a.map .int) = true := fun a => by
      induction a with
      | nil => rfl
      | cons i a ih => exact ih
    have ev : ∀ a b : List Int, PyData.eqvAll (a.map .int) (b.map .int) = decide (a = b) := fun a => by
      induction a with
      | nil => intro b; cases b <;> rfl
      | cons i a ih =>
        intro b
        cases b with
        | nil => rfl
        | cons j b =>
          show (i == j && PyData.eqvAll (a.map .int) (b.map .int)) = _
          rw [ih b, Bool.eq_iff_iff]
          simp
    have t1 : toPy (.tup (p.map .int)) = .tuple (p.map .int) := by show PyData.tuple (toPys _) = _; rw [toPy_ints]
    have t2 : toPy (.tup (q.map .int)) = .tuple (q.map .int) := by show PyData.tuple (toPys _) = _; rw [toPy_ints]
    rw [t1, t2]
    refine ⟨alike_ints p q, lf p, ?_, ?_⟩
    · rw [dataLt_tuple]
      show rowLt (p.map .int) (q.map .int) = slts (p.map .int) (q.map .int)
      rw [dataLt_ints, slts_ints]
      clear t1 t2 h1 h2 hp hq h
      induction p generalizing q with
      | nil => cases q <;> simp [lexL]
      | cons i p ih =>
        cases q with
        | nil => simp [lexL]
        | cons j q =>
          rw [ltE_cons, ← ih q, Bool.eq_iff_iff]
          by_cases e : i = j
          · subst e; simp [List.cons_lt_cons_iff]
          · simp [List.cons_lt_cons_iff, e, ltZ]
    · show PyData.eqvAll (p.map .int) (q.map .int) = deqs (p.map .int) (q.map .int)
      rw [ev, deqs_ints]
  · cases h
theorem cmpEs_py : ∀ {l m : List D}, cmpEs l m = true → alikeAll (toPys l) (toPys m) = true ∧ rowLt (toPys l) (toPys m) = slts l m
  | [], [], _ => ⟨rfl, by unfold rowLt; exact lex_irrefl _⟩
  | [], b :: m, _ => ⟨rfl, by
    show rowLt [] (toPy b :: toPys m) = true
    unfold rowLt
    rw [toks_all_cons]
    show PyProof.Rows.lexLt itemOrd [.inl 0] _ = true
    rw [lex_diff (O := itemOrd) (by simp)]
    rfl⟩
  | a :: l, [], _ => ⟨rfl, by
    show rowLt (toPy a :: toPys l) [] = false
    unfold rowLt
    rw [toks_all_cons]
    show PyProof.Rows.lexLt itemOrd _ [.inl 0] = false
    rw [lex_diff (O := itemOrd) (by simp)]
    rfl⟩
  | a :: l, b :: m, h => by
    obtain ⟨h1, h2⟩ := Bool.and_eq_true_iff.mp h
    obtain ⟨f1, f2, f3, f4⟩ := cmpE_py h1
    obtain ⟨g1, g2⟩ := cmpEs_py h2
    refine ⟨?_, ?_⟩
    · show alikeAll (toPy a :: toPys l) (toPy b :: toPys m) = true
      rw [alikeAll, f1, g1]; rfl
    · show rowLt (toPy a :: toPys l) (toPy b :: toPys m) = if deq a b = true then slts l m else slt a b
      unfold rowLt at g2 ⊢
      rw [dataLt_cons f1, f4, g2, f3]
theorem lfEs : ∀ {l : List D}, cmpEs l l = true → lfPs (toPys l) = true
  | [], _ => rfl
  | a :: l, h => by
    obtain ⟨h1, h2⟩ := Bool.and_eq_true_iff.mp h
    show (lfP (toPy a) && lfPs (toPys l)) = true
    rw [(cmpE_py h1).2.1, lfEs h2]; rfl
theorem cmpOk_py {a b : D} (h : cmpOk a b = true) : alike (toPy a) (toPy b) = true ∧ dataLt (toPy a) (toPy b) = slt a b := by
  unfold cmpOk at h
  split at h
  · exact ⟨rfl, dataLt_int _ _⟩
  · rename_i x y
    have := cmpE_py (a := .str x) (b := .str y) rfl
    exact ⟨this.1, this.2.2.1⟩
  · obtain ⟨g1, g2⟩ := cmpEs_py h
    refine ⟨g1, ?_⟩
    show dataLt (.tuple _) (.tuple _) = _
    rw [dataLt_tuple]
    exact g2
  · cases h
theorem cmpOk_lf {a : D} (h : cmpOk a a = true) : lfP (toPy a) = true := by
  cases a with
  | int i => rfl
  | str x => rfl
  | tup l =>
    cases l with
    | nil => rfl
    | cons b l => exact lfEs (l := b :: l) h
  | _ => cases h
theorem depth_cmpE {a : D} (h : cmpE a a = true) : (toPy a).depth ≤ 1 := by
  cases a with
  | int i => exact Nat.zero_le _
  | str x => exact Nat.zero_le _
  | tup l =>
    obtain ⟨p, hp⟩ := Option.isSome_iff_exists.mp (Bool.and_eq_true_iff.mp h).1
    rw [intsOf_eq hp]
    show PyData.depthAll (toPys (p.map .int)) + 1 ≤ 1
    rw [toPy_ints, depth_ints]
    exact Nat.le_refl _
  | _ => cases h
theorem depth_cmpEs : ∀ {l : List D}, cmpEs l l = true → PyData.depthAll (toPys l) ≤ 1
  | [], _ => Nat.zero_le _
  | a :: l, h => by
    obtain ⟨h1, h2⟩ := Bool.and_eq_true_iff.mp h
    show max (toPy a).depth (PyData.depthAll (toPys l)) ≤ 1
    have := depth_cmpE h1
    have := depth_cmpEs h2
    omega
theorem depth_cmpOk {a : D} (h : cmpOk a a = true) : (toPy a).depth ≤ 2 := by
  cases a with
  | int i => exact Nat.zero_le _
  | str x => exact Nat.zero_le _
  | tup l =>
    cases l with
    | nil => show PyData.depthAll [] + 1 ≤ 2; simp [PyData.depthAll]
    | cons b l =>
      show PyData.depthAll (toPys (b :: l)) + 1 ≤ 2
      have := depth_cmpEs (l := b :: l) h
      omega
  | _ => cases h
theorem sort_eq {l : List D} (h : sortable l = true) : l.mergeSort (dataLe false toPy) = sortD l := by
  have c := sortable_cmp h
  have p := List.mergeSort_perm l (dataLe false toPy)
  refine sortD_uniq h p ?_
  have q := sort_pairwise (le := dataLe false toPy) (sortLe_total (listOrd itemOrd) false fun b => keyToks (toPy b)) l
  refine List.Pairwise.imp_of_mem (fun {a b} ha hb z => ?_) q
  have z : (!dataLt (toPy b) (toPy a)) = true := z
  rw [(cmpOk_py (c b (p.mem_iff.mp hb) a (p.mem_iff.mp ha))).2] at z
  simpa using z
def rSortD (K : PySem.W.Frag) : List V → Hp → VK → Prop := fun xs H Q => ∃ (Y : At) (w : Wd) (a : Addr) (d : D) (l : List D), Y.K = K ∧ xs = [.ref a] ∧ CRep Y w H d (.ref a) ∧ collD d = some l ∧ l.length ≤ sizeLine ∧ sortable l = true ∧
  ∀ ys p, Reps Y w H (sortD l) ys → H p = none → Q (.ref p) (upd H p (.lst ys))
theorem each_vals {Y : At} {w : Wd} {H : Hp} : ∀ {us : List Value} {l : List D}, EachIs (fun u d => ∃ v, L2.RelV v u ∧ Rep Y w H d v) us l → ∃ ys, Vals ys us ∧ Reps Y w H l ys
  | _, _, .nil => ⟨[], .nil, rfl⟩
  | _, _, .cons ⟨v, r1, r2⟩ t => by
    obtain ⟨ys, q1, q2⟩ := each_vals t
    exact ⟨v :: ys, .cons r1 q1, v, ys, rfl, r2, q2⟩
theorem vals_each {Y : At} {w : Wd} {H : Hp} {R : Value → D → Prop} (hR : ∀ u v d, L2.RelV v u → Rep Y w H d v → R u d) : ∀ {us : List Value} {ys : List V} {l : List D}, Vals ys us → Reps Y w H l ys → EachIs R us l
  | _, _, [], r, q => by cases (show _ = [] from q); cases r; exact .nil
  | _, _, d :: l, r, q => by
    obtain ⟨v, ys, rfl, q1, q2⟩ := q
    cases r with
    | cons r1 r2 => exact .cons (hR _ _ _ r1 q1) (vals_each hR r2 q2)
theorem isData_of {l : List D} (h : areData l = true) : ∀ d ∈ l, isData d = true := by
  induction l with
  | nil => intro d hd; cases hd
  | cons a l ih =>
    obtain ⟨f1, f2⟩ := Bool.and_eq_true_iff.mp h
    intro d hd
    rcases List.mem_cons.mp hd with rfl | hd
    · exact f1
    · exact ih f2 d hd
theorem sortable_kinds {l : List D} (c : ∀ a ∈ l, ∀ b ∈ l, cmpOk a b = true) : PySem.W.Sortable (l.map toPy) := by
  cases l with
  | nil => exact .inl fun d hd => by cases hd
  | cons a l =>
    cases a with
    | tup m =>
      refine .inl fun d hd => ?_
      obtain ⟨e, he, rfl⟩ := List.mem_map.mp hd
      have := c _ List.mem_cons_self e he
      cases e with
      | tup k =>
        cases k with
        | nil => cases m <;> cases this
        | cons x k => exact ⟨toPy x, toPys k, rfl⟩
      | _ => cases m <;> cases this
    | _ =>
      refine .inr fun d hd => ?_
      obtain ⟨e, he, rfl⟩ := List.mem_map.mp hd
      have := c _ List.mem_cons_self e he
      cases e <;> first | (cases this; done) | exact ⟨(fun z => nomatch z), (fun _ z => nomatch z)⟩
section
variable {X : Cx}
theorem cr_sortD (hc : X.calm = true) (hu : X.A.units + 67 < cLine) : CallR X (.builtin "sorted") (rSortD X.K) := by
  intro pins s σ H xs us Q I r h
  obtain ⟨Y, w, a, d, l, hK, rfl, hr, hd, hz, hs, q⟩ := h
  obtain ⟨u, rfl, ru⟩ := vals1 r
  cases ru
  have c := sortable_cmp hs
  have hdat := isData_of (Bool.and_eq_true_iff.mp hs).1
  refine call_function_entry kind_sorted plain_sorted entry_sorted (args_sorted1 _) ?_
  unfold Builtin.«sorted»
  refine wpAny_bind (m := checkCount "sorted" 1 1 _) (wpAny_pure ?_)
  refine wpAny_bind (coll_go I hK (I.ok.hd hc) hr hd hz fun h' tk ys vs hk rv ry => ?_)
  have I1 : Inv X pins σ H { s with heap := h', toks := tk } := I.kept hk
  have hlen : vs.length = l.length := by rw [← rv.length, ← ry.length]
  refine wpAny_bind (wpAny_newList ?_ (by rw [hlen]; exact hz))
  have hoL : (h'.push (seqObj "list" vs.toArray 0)).get? h'.objs.size = some (seqObj "list" vs.toArray 0) := Heap.get?_push_size _ rfl
  show wpAny _ _ _ _ _ { s with heap := h'.push (seqObj "list" vs.toArray 0), toks := tk }
  have e1 : EachIs (fun u d => ∃ v, L2.RelV v u ∧ Rep Y w H d v) vs l := vals_each (fun u v d r1 r2 => ⟨v, r1, r2⟩) rv ry
  have e2 : EachIs (fun v b => ∃ as, Reads (h'.push (seqObj "list" vs.toArray 0)) v (toPy b) as ∧ h'.objs.size ∉ as) vs l := by
    refine (each_mem e1).mono fun u b ⟨⟨v, r1, r2⟩, hb⟩ => ?_
    have hdp := data_dp (hdat b hb) r2
    rw [hK] at hdp
    obtain ⟨as, rd⟩ := Dp.reads I1 _ _ _ hdp r1
    have e := lf_none _ (cmpOk_lf (c b hb b hb)) rd
    subst e
    exact ⟨[], PyProof.Rows.Reads.keeps (fun b o z => Heap.get?_push_of_some _ z) rd, fun z => nomatch z⟩
  refine wpAny_bind (wpAny_holding (list_sort_data (enc := toPy) (s := { s with heap := h'.push (seqObj "list" vs.toArray 0), toks := tk }) hoL e1 e2 (fun x hx y hy => ?_) (sortable_kinds c) hz (fun b hb => ?_) fun out hout eo => ?_))
  · obtain ⟨b, hb, rfl⟩ := List.mem_map.mp hx
    obtain ⟨b', hb', rfl⟩ := List.mem_map.mp hy
    exact (cmpOk_py (c b hb b' hb')).1
  · have := depth_cmpOk (c b hb b hb)
    show X.A.units + 1 + 1 + _ < _
    omega
  · rw [sort_eq hs] at eo
    obtain ⟨zs, g1, g2⟩ := each_vals eo
    obtain ⟨ep, he'⟩ := PyProof.Rows.sortedHeap_at (vs := vs) (out := out.toArray) hoL
    refine wpAny_pure ⟨_, rfl, .ref h'.objs.size, upd H h'.objs.size (.lst zs), I1.laid (t' := tk) (fun b u e => ?_) (Nat.le_refl _) ⟨?_, out, ep, g1, he'⟩, rfl, q zs _ g2 (I1.hok.fresh (Nat.le_refl _))⟩
    · have hb : b < h'.objs.size := Heap.lt_size e
      rw [PyProof.Rows.sortedHeap_old (Nat.ne_of_lt hb) (by rw [size_push']; exact Nat.lt_succ_of_lt hb)]
      exact Heap.get?_push_of_some _ e
    · rw [g1.length, hout]; exact hz
/-- list(x) -/
def rListD (K : PySem.W.Frag) : List V → Hp → VK → Prop := fun xs H Q => ∃ (Y : At) (w : Wd) (a : Addr) (d : D) (l : List D), Y.K = K ∧ xs = [.ref a] ∧ CRep Y w H d (.ref a) ∧ collD d = some l ∧ l.length ≤ sizeLine ∧
  ∀ ys p, Reps Y w H l ys → H p = none → Q (.ref p) (upd H p (.lst ys))
theorem cr_listD (hc : X.calm = true) : CallR X (.type "list") (rListD X.K) := by
  intro pins s σ H xs us Q I r h
  obtain ⟨Y, w, a, d, l, hK, rfl, hr, hd, hz, q⟩ := h
  unfold collD at hd
  split at hd
  · cases hd
    obtain ⟨p, vs, hp, k1, k2⟩ := hr.tup
    cases hp
    rw [hK] at k1
    exact call_list_of pins s σ H _ us Q I r ⟨a, vs, rfl, .inr k1, fun p hp => q vs p k2 hp⟩
  · cases hd
    obtain ⟨p, vs, hp, k1, k2⟩ := hr.lst
    cases hp
    exact call_list_of pins s σ H _ us Q I r ⟨a, vs, rfl, .inl (.inl k1), fun p hp => q vs p k2 hp⟩
  · rename_i kvs
    cases hd
    obtain ⟨p, kv, hp, k1, k2⟩ := hr.dK
    cases hp
    have hreps : Reps Y w H (kvs.map fun p => kD p.1) (kv.map fun p => kV p.1) := by
      clear hr k1 q hz
      induction kvs generalizing kv with
      | nil => cases (show kv = [] from k2); rfl
      | cons b kvs ih =>
        obtain ⟨v, r, rfl, h2, h3⟩ := k2
        exact ⟨_, _, rfl, kD_rep _, ih _ h3⟩
    exact call_listD hc pins s σ H _ us Q I r ⟨a, kv, rfl, k1, fun p hp => q _ p hreps hp⟩
  · rename_i kvs
    cases hd
    obtain ⟨p, kv, hp, k1, k2⟩ := hr.dT
    cases hp
    obtain ⟨u, rfl, ru⟩ := vals1 r
    cases ru
    obtain ⟨lo, es, ep, raw, hsz, ent⟩ := dt_ent I k1
    have h2 := k2.length
    rw [List.length_map] at hz
    refine kdl_call (kdl_raw (es := es) (ep := ep) lo) (I.ok.hd hc) raw (by omega) fun h' tk acc c' hk hD hacc => ?_
    obtain ⟨ys, q1, q2⟩ := vr_build (Y := Y) (w := w) (H := H) (us := acc.toList) (l := kvs.map fun p => .tup (p.1.map kD)) (by rw [Array.length_toList, hacc.1, List.length_map]; omega) fun i u d e1 e2 => by
      obtain ⟨hi, e3⟩ := hacc.2 i u (by rw [← Array.getElem?_toList]; exact e1)
      obtain ⟨⟨q, dq⟩, e5, rfl⟩ := Option.map_eq_some_iff.mp (by rw [List.getElem?_map] at e2; exact e2)
      have hi2 : i < kv.length := by omega
      obtain ⟨en, t, e6, e7, e8, _⟩ := ent i _ _ (List.getElem?_eq_getElem hi2)
      obtain ⟨q', d', e9, e10, _⟩ := repT_get k2 (List.getElem?_eq_getElem hi2)
      rw [e5] at e9
      cases e9
      rw [Array.getElem?_eq_getElem hi] at e6
      cases e6
      rw [e7] at e3
      subst e3
      rw [e10] at e8
      exact ⟨.ref t, rfl, t, _, rfl, e8, kDs_rep q⟩
    refine ⟨.ref s.heap.objs.size, upd H s.heap.objs.size (.lst ys), I.laid (t' := tk) hk (Nat.le_refl _) ⟨?_, acc.toList, c', q1, by rw [Array.toArray_toList]; exact hD⟩, rfl, q ys _ q2 (I.hok.fresh (Nat.le_refl _))⟩
    rw [q1.length, Array.length_toList, hacc.1, hsz, ← h2]
    exact hz
  · cases hd
end
section
variable {X : Cx} {F : Fr} {a e b2 : Expr} {es : List Expr} {ea ee eb : E} {ees : Es} {pos : Pos} {b : Bool}
theorem crep_ref {Y : At} {w : Wd} {H : Hp} {h : Hm} {d : D} {v : V} {l : List D} (s : HSim Y w H h) (r : Rep Y w H d v) (e : collD (cont h d) = some l) : ∃ a, v = .ref a ∧ CRep Y w H (cont h d) (.ref a) := by
  have c := cont_rep s r
  generalize cont h d = k at c e
  unfold collD at e
  split at e
  · obtain ⟨a, vs, rfl, _⟩ := c.tup; exact ⟨a, rfl, c⟩
  · obtain ⟨a, vs, rfl, _⟩ := c.lst; exact ⟨a, rfl, c⟩
  · obtain ⟨a, vs, rfl, _⟩ := c.dK; exact ⟨a, rfl, c⟩
  · obtain ⟨a, vs, rfl, _⟩ := c.dT; exact ⟨a, rfl, c⟩
  · cases e
theorem ok_sorted {p : Pos} (hK : X.K = F.Y.K) (hc : X.calm = true) (hu : X.A.units + 67 < cLine) (hg : Gl X "sorted") (hm : X.mg "sorted" = none) (ha : PE X e (tE F ee))
    (hs1 : starEach (e :: []) X.env = (false, eval e X.env) :: starEach [] X.env) (hpl : (backTo pos (starEach [] X.env)).any (·.1) = false) :
    PE X (.Call (.Name "sorted" p) [e] [] pos) (tE F (.mk b (.sorted ee))) :=
  (pe_callB (cr_sortD hc hu) hg hm (by decide +kernel) (pa_cons ha pa_nil hs1) (by decide) (by decide) hs1 hpl).imp fun σ H Q ⟨w, env, h, Qd, Xd, hs, es, hd, o, ox⟩ => by
    refine ⟨w, env, h, _, Xd, hs, es, hd, fun w1 H1 v1 d1 h1 e1 s1 r1 q1 => ?_, ox⟩
    obtain ⟨l, k1, k2, k3, q⟩ := q1
    obtain ⟨a, rfl, cr⟩ := crep_ref s1 r1 k1
    exact ⟨F.Y, w1, a, _, l, hK.symm, rfl, cr, k1, by rw [← lineEq]; exact k2, k3, fun ys p ry hp => mk_lst s1 ry (o.evo e1) q p hp⟩
theorem ok_list {p : Pos} (hK : X.K = F.Y.K) (hc : X.calm = true) (hg : Gl X "list") (hm : X.mg "list" = none) (ha : PE X e (tE F ee))
    (hs1 : starEach (e :: []) X.env = (false, eval e X.env) :: starEach [] X.env) (hpl : (backTo pos (starEach [] X.env)).any (·.1) = false) :
    PE X (.Call (.Name "list" p) [e] [] pos) (tE F (.mk b (.list ee))) :=
  (pe_callTy (cr_listD hc) hg hm (by decide +kernel) (pa_cons ha pa_nil hs1) (by decide) (by decide) hs1 hpl).imp fun σ H Q ⟨w, env, h, Qd, Xd, hs, es, hd, o, ox⟩ => by
    refine ⟨w, env, h, _, Xd, hs, es, hd, fun w1 H1 v1 d1 h1 e1 s1 r1 q1 => ?_, ox⟩
    obtain ⟨l, k1, k2, q⟩ := q1
    obtain ⟨a, rfl, cr⟩ := crep_ref s1 r1 k1
    exact ⟨F.Y, w1, a, _, l, hK.symm, rfl, cr, k1, by rw [← lineEq]; exact k2, fun ys p ry hp => mk_lst s1 ry (o.evo e1) q p hp⟩
/-- xs + ys, xs * n of lists -/
theorem ok_cat (ha : PE X a (tE F ea)) (hb : PE X b2 (tE F eb)) : PE X (.BinOp a .Add b2 pos) (tE F (.mk b (.cat ea eb))) :=
  (pe_op op_cat ha hb).imp fun σ H Q ⟨w, env, h, Qd, Xd, hs, es, hd, o, ox⟩ => by
    refine ⟨w, env, h, _, Xd, hs, es, hd, fun w1 H1 v1 d1 h1 e1 s1 r1 q1 => ?_, ox⟩
    refine ⟨w1, env, h1, _, Xd, s1, es.mono e1, q1, fun w2 H2 v2 d2 h2 e2 s2 r2 q2 => ?_, ox.evo e1⟩
    obtain ⟨l, m, k1, k2, k3, q⟩ := q2
    have c1 := cont_rep s2 (r1.mono e2)
    have c2 := cont_rep s2 r2
    rw [k1] at c1
    rw [k2] at c2
    obtain ⟨p1, vs, rfl, j1, j2⟩ := c1.lst'
    obtain ⟨p2, us, rfl, j3, j4⟩ := c2.lst'
    exact ⟨p1, p2, vs, us, rfl, rfl, j1, j3, by rw [← j2.length, ← j4.length, ← lineEq]; exact k3, mk_lst s2 (j2.append j4) (o.evo (e1.trans e2)) q⟩
theorem ok_rep (ha : PE X a (tE F ea)) (hb : PE X b2 (tE F eb)) : PE X (.BinOp a .Mult b2 pos) (tE F (.mk b (.rep ea eb))) :=
  (pe_op op_rep ha hb).imp fun σ H Q ⟨w, env, h, Qd, Xd, hs, es, hd, o, ox⟩ => by
    refine ⟨w, env, h, _, Xd, hs, es, hd, fun w1 H1 v1 d1 h1 e1 s1 r1 q1 => ?_, ox⟩
    refine ⟨w1, env, h1, _, Xd, s1, es.mono e1, q1, fun w2 H2 v2 d2 h2 e2 s2 r2 q2 => ?_, ox.evo e1⟩
    obtain ⟨l, j, k1, rfl, k2, k3, q⟩ := q2
    have c1 := cont_rep s2 (r1.mono e2)
    rw [k1] at c1
    obtain ⟨p1, vs, rfl, j1, j2⟩ := c1.lst'
    refine ⟨p1, j, vs, rfl, by rw [show v2 = .int _ from r2], j1, by omega, by omega, by rw [← j2.length, ← lineEq]; exact k3, ?_⟩
    rw [rep_flat]
    exact mk_lst s2 (reps_rep j2 _) (o.evo (e1.trans e2)) q
end
end Pv
end

section
set_option maxRecDepth 100000
set_option maxHeartbeats 4000000
namespace PvX
open PySem PySem.W PySem.Calls PyProof.Rows PySem.Spec
section
variable {prog : Program} {w : World} {A : Around} {E : Value → Shared → Prop} {s : Shared} {K : Frag} {x y C f : Addr} {ox oy : Obj} {od od' : Option Obj}
/-- what the written part says of a class that tells == by its own def f, and tells != by it -/
structure NeC (K : Frag) (C f : Addr) : Prop where
  eq : findIn K (.ref C) "__eq__" = some (some (.ref f))
  ne : findIn K (.ref C) "__ne__" = some (some (.builtin "object.__ne__"))
  fn : isFn K (.ref f) = true
  ob : mroIn K C (.type "object") = some true
theorem ne_entry {Q : PySem.Fin → Shared → Prop} (N : NeC K C f) (X : K.In s.heap) (I : InstAt s.heap x ox C od) (hu : A.units < cLine)
    (hcall : wpAny (model prog w) A (call (.ref f) [.ref x, .ref y]) (fun v s' => ∃ b, v = .bool b ∧ Q (.done (.ret (.bool (!b)))) s') E s) :
    wpAny (model prog w) A (Builtin.«object.__ne__» ⟨[.ref x, .ref y], []⟩) Q E s := by
  unfold Builtin.«object.__ne__»
  refine wpAny_bind (wpAny_of_eq (a := ((Value.ref x : Value), [Value.ref y])) (by first | rfl | (simp only [slotArgs]; rfl)) ?_)
  refine wpAny_bind (wpAny_cRoomFor hu ?_)
  refine wpAny_bind (ifBound_K X I N.eq N.fn (wpAny_mono hcall (fun v s' hv => ?_) fun _ _ e => e))
  obtain ⟨b, rfl, hq⟩ := hv
  exact wpAny_bind (wpAny_truthy_bool (wpAny_pure hq))
theorem ne_K {Q : Value → Shared → Prop} (N : NeC K C f) (X : K.In s.heap) (I : InstAt s.heap x ox C od) (J : InstAt s.heap y oy C od') (hu : A.units + 1 < cLine)
    (hcall : wpAny (model prog w) A.in1 (call (.ref f) [.ref x, .ref y]) (fun v s' => ∃ b, v = .bool b ∧ Q (.bool (!b)) s') E s) :
    wpAny (model prog w) A (richCompare .NotEq (.ref x) (.ref y)) Q E s := by
  have S := PySem.F.cmp_object.ne
  have sub : Looks (model prog w) s.heap (isInstance (.ref x) (.type "object")) true := I.type.andThen (looks_mroIn X N.ob)
  have body : wpAny (model prog w) A (call (.builtin "object.__ne__") [.ref x, .ref y]) (fun v s' => ∃ b, v = .bool b ∧ Q (.bool b) s') E s := by
    refine wpAny_call (codeAny_call_builtin S.plain PySem.F.cmpEntry_ne (check_slot PySem.F.cmpKind_ne PySem.F.cmpSplit_ne sub (PySem.F.cmpArgs_ne _ _) ?_))
    refine ne_entry (A := A.in1) N X I (by show A.units + 1 < _; exact hu) (wpAny_mono hcall (fun v s' hv => ?_) fun _ _ e => e)
    obtain ⟨b, rfl, hq⟩ := hv
    exact ⟨b, rfl, _, rfl, hq⟩
  unfold richCompare
  simp only [oneThing_ref]
  refine wpAny_holding (wpAny_bind (wpAny_cRoomFor (Nat.lt_of_succ_lt hu) ?_))
  rw [cmpInfo_NotEq]
  dsimp only
  refine wpAny_bind (I.type.here (wpAny_bind (J.type.here ?_)))
  rw [show (Value.ref C != Value.ref C) = false by simp]
  simp only [Bool.false_eq_true, if_false]
  refine wpAny_bind (wpAny_pure ?_)
  simp only [Bool.false_eq_true, if_false]
  have fin : wpAny (model prog w) A (tryCompare (.ref x) "__ne__" (.ref y)) (fun r s' => ∃ b, r = some (.bool b) ∧ Q (.bool b) s') E s := by
    unfold tryCompare
    simp only [callSpecialIfBound?, bindSpecialIfBound?]
    refine wpAny_bind (wpAny_holding (wpAny_bind (wpAny_bind (wpAny_bind (I.type.here ((looks_findIn X N.ne).here ?_))))))
    simp only [S.bind]
    refine wpAny_bind (wpAny_askSetting (wpAny_ite ?_))
    have last : wpAny (model prog w) A (call (.builtin "object.__ne__") ([.ref x] ++ [.ref y]) >>= fun v => pure (some v)) (fun r s' => wpAny (model prog w) A (match r with | some .notImplemented | none => pure none | some r => pure (some r)) (fun r s' => ∃ b, r = some (.bool b) ∧ Q (.bool b) s') E s') E s :=
      wpAny_bind (wpAny_mono body (fun v s' ⟨b, e, q⟩ => by subst e; exact wpAny_pure (wpAny_pure ⟨b, rfl, q⟩)) fun _ _ e => e)
    split
    · exact wpAny_bind (wpAny_pure (wpAny_pure last))
    · exact wpAny_tryCatch (wpAny_bind (wpAny_pure (wpAny_pure last)))
  refine wpAny_bind (wpAny_mono fin (fun r s' ⟨b, e, q⟩ => by subst e; exact wpAny_pure q) fun _ _ e => e)
end
end PvX
namespace Pv
open PySem PySem.Spec PyProof.Rows L2
section
variable {X : Cx} {F : Fr} {a b : Expr} {ea eb : E} {pos : Pos}
/-- x == y, x != y of two things of a class that tells == itself -/
structure EqOk (X : Cx) (Y : At) (C : Calls) (c i : Nat) : Prop where
  ok : ∃ k fd ps, FnOk X.prog X.w X.K X.mg X.base (L2.CX X.prog X.w) k (Y.fa i) fd ps (spC Y C i) ∧ Room (k + 1) X.A ∧ Binds X.K fd ps []
  ne : PvX.NeC X.K (Y.ca c) (Y.fa i)
def EqR (F : Fr) (c i : Nat) (neg : Bool) (w : Wd) (env : Env) (H : Hp) (Qd : QD) (Xd : QX) (vx vy : V) (H2 : Hp) : Prop :=
  ∃ w2 h2 x y, Evo w H w2 H2 ∧ HSim F.Y w2 H2 h2 ∧ Rep F.Y w2 H2 x vx ∧ Rep F.Y w2 H2 y vy ∧ (∃ fs, cont h2 x = .ins c fs) ∧ (∃ gs, cont h2 y = .ins c gs) ∧ F.C i [x, y] h2 (fun d h3 => ∃ k, d = .bl k ∧ Qd (.bl (if neg then !k else k)) h3) Xd
theorem eqO_args {neg : Bool} {c i : Nat} {σ : L2.St} {w : Wd} {env : Env} {H : Hp} {h : Hm} {Qd : QD} {Xd : QX} (hs : HSim F.Y w H h) (ev : EnvSim F.Y w H F.bad F.ce F.lk env σ) (hd : dE F.P F.C (.eqO neg c i ea eb) env h Qd Xd) (ox : OutX F.Y w H Xd fun c d H' => F.W c d σ H') :
    tE F ea σ H fun x H1 => tE F eb σ H1 fun y H2 => EqR F c i neg w env H Qd Xd x y H2 := by
  refine ⟨w, env, h, _, Xd, hs, ev, hd, fun w1 H1 v1 d1 h1 e1 s1 r1 q1 => ?_, ox⟩
  refine ⟨w1, env, h1, _, Xd, s1, ev.mono e1, q1, fun w2 H2 v2 d2 h2 e2 s2 r2 q2 => ?_, ox.evo e1⟩
  exact ⟨w2, h2, d1, d2, e1.trans e2, s2, r1.mono e2, r2, q2⟩
theorem eqO_go {neg : Bool} {op : CmpOp} {c i : Nat} {pins : List (Addr × Obj)} {s2 : Shared} {σ : L2.St} {w : Wd} {env : Env} {H H2 : Hp} {Qd : QD} {Xd : QX} {x y : V} {v u : Value} {Q : VK} (hop : (op = .Eq ∧ neg = false) ∨ (op = .NotEq ∧ neg = true)) (fk : FrOk X F) (d : EqOk X F.Y F.C c i) (hu : X.A.units + 1 < cLine) (tk : Takes X F.W)
    (ev : EnvSim F.Y w H F.bad F.ce F.lk env σ) (I2 : Inv X pins σ H2 s2) (rx : L2.RelV x v) (ry : L2.RelV y u) (q : EqR F c i neg w env H Qd Xd x y H2) (ox : OutX F.Y w H Xd fun c d H' => F.W c d σ H')
    (o : ∀ w' H' (k : Bool) h', Evo w H w' H' → HSim F.Y w' H' h' → Qd (.bl k) h' → Q (.bl k) H') : wpAny (model X.prog X.w) X.A (compareOp op v u) (EP X pins σ fun z H' => ∃ k, z = .bl k ∧ Q (.bl k) H') X.xe s2 := by
  obtain ⟨w2, h2, x', y', e2, t2, r1, r2, ⟨fs, c1⟩, ⟨gs, c2⟩, q⟩ := q
  have x1 := cont_rep t2 r1
  have x2 := cont_rep t2 r2
  rw [c1] at x1
  rw [c2] at x2
  obtain ⟨p1, dx, fv, rfl, k1, _⟩ := x1.ins
  obtain ⟨p2, dy, gv, rfl, k2, _⟩ := x2.ins
  cases rx
  cases ry
  obtain ⟨mA, J, _⟩ := ins_get I2.hok k1
  obtain ⟨mB, J', _⟩ := ins_get I2.hok k2
  obtain ⟨od, J, _⟩ := J.look
  obtain ⟨od', J', _⟩ := J'.look
  obtain ⟨k, fd, ps, Fn, hr, hb⟩ := d.ok
  have rs : Reps F.Y w2 H2 [x', y'] [.ref p1, .ref p2] := ⟨_, _, rfl, r1, _, _, rfl, r2, rfl⟩
  have rv : Vals [V.ref p1, V.ref p2] [Value.ref p1, Value.ref p2] := .cons rfl (.cons rfl .nil)
  rcases hop with ⟨rfl, rfl⟩ | ⟨rfl, rfl⟩
  · obtain ⟨m, hF⟩ := I2.fr
    refine PySem.W.cmp_K (op := .Eq) (tb := .ref (F.Y.ca c)) (by omega) hF I2.ok.mod.kin J J'.type (by simp [PySem.W.notFirst]) d.ne.eq d.ne.fn ?_
    refine wpAny_mono (call_goA (A := X.A) rfl (Q := fun v H' => ∃ kk : Bool, v = .bl kk ∧ Q (.bl kk) H') fk ⟨k, fd, ps, Fn, hr.mono (Nat.le_succ _), hb⟩ tk I2 rv t2 (ev.mono e2) rs q (fun w' H' v d h' e' s' r' q' => ?_) (ox.evo e2)) (fun v s' hv => ?_) fun _ _ z => z
    · obtain ⟨kk, rfl, q'⟩ := q'
      exact ⟨kk, r', o w' H' kk h' (e2.trans e') s' q'⟩
    · obtain ⟨z, H', I', rz, kk, rfl, qz⟩ := hv
      cases (show v = .bool kk from rz)
      exact ⟨.bl kk, H', I', rfl, kk, rfl, qz⟩
  · refine PvX.ne_K d.ne I2.kIn J J' hu ?_
    refine wpAny_mono (call_goA (A := X.A.in1) rfl (Q := fun v H' => ∃ kk : Bool, v = .bl kk ∧ Q (.bl (!kk)) H') fk ⟨k, fd, ps, Fn, hr.in1, hb⟩ tk I2 rv t2 (ev.mono e2) rs q (fun w' H' v d h' e' s' r' q' => ?_) (ox.evo e2)) (fun v s' hv => ?_) fun _ _ z => z
    · obtain ⟨kk, rfl, q'⟩ := q'
      exact ⟨kk, r', o w' H' (!kk) h' (e2.trans e') s' q'⟩
    · obtain ⟨z, H', I', rz, kk, rfl, qz⟩ := hv
      cases (show v = .bool kk from rz)
      exact ⟨kk, rfl, .bl !kk, H', I', rfl, !kk, rfl, qz⟩
theorem ok_eqO {neg : Bool} {op : CmpOp} {c i : Nat} (hop : (op = .Eq ∧ neg = false) ∨ (op = .NotEq ∧ neg = true)) (fk : FrOk X F) (d : EqOk X F.Y F.C c i) (hu : X.A.units + 1 < cLine) (tk : Takes X F.W) (ha : PE X a (tE F ea)) (hb : PE X b (tE F eb)) (hm : behindInMarks op b = false) : PE X (.Compare a [op] [b] pos) (tE F (.eqO neg c i ea eb)) := by
  refine ⟨fun pins s σ H Q I hh => ?_⟩
  obtain ⟨w, env, h, Qd, Xd, hs, ev, hd, o, ox⟩ := hh
  refine wpAny_Compare1 (binT (R := EqR F c i neg w env H Qd Xd) ha hb I (eqO_args hs ev hd ox) fun v u s2 x y H2 I2 rx ry q => ?_) hm
  refine wpAny_mono (eqO_go (Q := Q) hop fk d hu tk ev I2 rx ry q ox fun w' H' k h' e' s' q' => o w' H' (.bl k) (.bl k) h' e' s' rfl q') (fun v s' hv => ?_) fun _ _ z => z
  obtain ⟨z, H', I', rz, kk, rfl, qz⟩ := hv
  exact ⟨_, H', I', rz, qz⟩
theorem ok_teqO {neg : Bool} {op : CmpOp} {c i : Nat} (hop : (op = .Eq ∧ neg = false) ∨ (op = .NotEq ∧ neg = true)) (fk : FrOk X F) (d : EqOk X F.Y F.C c i) (hu : X.A.units + 1 < cLine) (tk : Takes X F.W) (ha : PE X a (tE F ea)) (hb : PE X b (tE F eb)) (hm : behindInMarks op b = false) : PT X (.Compare a [op] [b] pos) (tT F (.eqO neg c i ea eb)) := by
  refine ⟨fun pins s σ H Q I hh => ?_⟩
  obtain ⟨w, env, h, Qd, Xd, hs, ev, hd, o, ox⟩ := hh
  refine wpAny_isTrue_Compare1 (thn (ha.run pins s σ H _ I (eqO_args hs ev hd ox)) fun v s1 ⟨x, H1, I1, r1, q1⟩ => thn (hb.run pins s1 σ H1 _ I1 q1) fun u s2 ⟨y, H2, I2, r2, q2⟩ => ?_) hm
  refine thn (eqO_go (Q := fun v H' => ∃ k, v = .bl k ∧ Q k H') hop fk d hu tk ev I2 r1 r2 q2 ox fun w' H' k h' e' s' ⟨b, eb, q'⟩ => ⟨k, rfl, o w' H' k h' e' s' (by injection eb with eb; rw [eb]; exact q')⟩) fun c s3 ⟨z, H3, I3, r3, k, e, k', e', q3⟩ => ?_
  subst e
  cases r3
  injection e' with e'
  subst e'
  exact wpAny_truthy_bool ⟨H3, I3, q3⟩
end
end Pv
end

section
set_option maxRecDepth 100000
set_option maxHeartbeats 4000000
namespace PvX
open PySem PySem.W PySem.Calls PyProof.Rows PySem.Spec
/-- the error's class at C, its __init__ at f says super().__init__(text): what the written part says -/
structure SupC (prog : Program) (K : Frag) (mg : Str → Option Value) (C : Addr) : Prop where
  cls : ∃ nm q N bs bm sn sub ab col dd k0 k1 k2 k3 k5, K.lookup C = some (excClassObj nm q C N bs bm true sn sub ab col dd k0 k1 k2 k3 k5 "ValueError.__new__") ∧ PySem.HandSPX.refsVE bm = true ∧ alongIn K "__init__" bm = some (some (.builtin "ValueError.__init__"))
  sub : mroIn K C (.ref C) = some true
  subV : subIn K (.ref C) (.type "ValueError") = some true
  opq : nsIn K cStatics "thirdparty.any" = some none
  noS : mg "super" = none
section
variable {prog : Program} {w : World} {A : Around} {E : Value → Shared → Prop} {s : Shared} {K : Frag} {mg mb m : Str → Option Value} {C x f cc cda L t0 : Addr}
theorem bw_call {u : Addr} {rest : List Value} {Q : Value → Shared → Prop} (S : SupC prog K mg C) (X : K.In s.heap) (he : s.heap.get? x = some (PySem.HandSPX.excO C t0)) (hu : s.heap.get? u = some (kxs_mw "ValueError.__init__" x)) (hrest : rest.length ≤ sizeLine)
    (hq : ∀ h' t1, (∀ b o, b ≠ x → s.heap.get? b = some o → h'.get? b = some o) → h'.get? x = some (PySem.HandSPX.excO C t1) → Q .none { s with heap := h' }) : wpAny (model prog w) A (call (.ref u) rest) Q E s := by
  obtain ⟨nm, q, N, bs, bm, sn, sub, ab, col, dd, k0, k1, k2, k3, k5, hC, hbm, _⟩ := S.cls
  obtain ⟨hh, g, d, tk, os⟩ := s
  refine wpAny_call (codeAny_of_tree ?_)
  show wpAny _ A.in1 (callAny (.ref u) ⟨rest, []⟩) _ _ _
  unfold callAny
  refine wpAny_bind (wpAny_load hu ?_)
  simp only [kxs_mw, show (Value.type "method-wrapper" == Value.type "method" || Value.type "method-wrapper" == Value.type "builtin_function_or_method" || Value.type "method-wrapper" == Value.type "method-wrapper") = true by decide, if_true]
  refine KFB.if_so (by decide) ?_
  refine wpAny_bind (PySem.W.check_bound_init F.excBase_ValueError.toExcCallFacts (X _ _ hC) he rfl ?_)
  refine wpAny_bind (wpAny_pure (wpAny_pure ⟨plainId_quiet F.excBase_ValueError.init.plain _, codeAny_builtin F.excBase_ValueError.initEntry ?_⟩))
  exact exc_init_tree (cls := .ref C) (t0 := t0) (dv := none) (c2 := .none) (c3 := .none) (b4 := .bool false) he hrest fun h' k e1 e2 => hq h' _ k e1
/-- super().__init__('..') in the __init__ of C -/
theorem super_eval {env : PySem.Env} {body : List Stmt} {of oc ol : Obj} {fd : FuncData} {ar : Arg} {vs : Array Value} {file : Str} {tf : Tok} {p0 p1 pa pk pc : Pos} {tx : Str} {j : Nat} {Q : Value → Shared → Prop} (S : SupC prog K mg C) (X : K.In s.heap)
    (gl : s.heap.Ns mainGlobals mg) (bl : s.heap.Ns builtinsNs mb) (hb : mb "super" = some (.type "super")) (eg : env.globals = mainGlobals) (eb : env.builtins = builtinsNs) (hk : env.scope.kind = .function)
    (hks : env.kindOf "super" = some .globalImplicit) (hkc : env.kindOf "__class__" = some .free) (hce : env.cells.lookup ("__class__" : Str) = some cc) (hcc : K.lookup cc = some ol) (hcd : ol.data = .cell (some (.ref C)))
    (hfu : env.func = some f) (hf : K.lookup f = some of) (hfd : of.data = .func fd) (hp : (fd.params.posonlyargs ++ fd.params.args).head? = some ar) (hka : env.kindOf ar.arg = some .local) (hns : s.heap.Ns env.locals m) (hv : m ar.arg = some (.ref x))
    (hco : env.code = .ref cda) (hda : K.lookup cda = some oc) (hoc : oc.data = .fields vs) (hvs : vs[2]? = some (.str file tf)) (hfile : ((prog.main.file : Str) == file) = true) (htop : (prog.main.scope.names.lookup ("super" : Str)).isSome = false)
    (hx : s.heap.get? x = some (PySem.HandSPX.excO C t0)) (hq : ∀ h' tk t1, (∀ b o, b ≠ x → s.heap.get? b = some o → h'.get? b = some o) → h'.get? x = some (PySem.HandSPX.excO C t1) → Q .none { s with heap := h', toks := tk })
    {pl : Sem Bool} (he : eval (.Call (.Attribute (.Call (.Name "super" p0) [] [] p1) "__init__" pa) [.Constant (.str tx) j pk] [] pc) env = (do
      let ov ← attributeBase (.Call (.Name "super" p0) [] [] p1) "__init__" env (eval (.Call (.Name "super" p0) [] [] p1) env)
      standAt pa.atName
      let (f, first) ← holding [ov] (getMethod ov "__init__" pl)
      callWith pc f first (backTo pc (starEach [.Constant (.str tx) j pk] env)) [])) :
    _root_.PySem.wpAt (model prog w) A (.func body env) (eval (.Call (.Attribute (.Call (.Name "super" p0) [] [] p1) "__init__" pa) [.Constant (.str tx) j pk] [] pc) env) Q E s := by
  obtain ⟨nm, q, N, bs, bm, sn, sub, ab, col, dd, k0, k1, k2, k3, k5, hC, hbm, hal⟩ := S.cls
  have cC : clsIn K C = some { name := nm, bases := bs, mro := .ref C :: bm, ns := N, qualname := q, hasDict := true, slotNames := sn, subclasses := sub, abstract := ab, collection := col, hasDel := false } := by
    unfold clsIn
    rw [hC]
  refine ks_wpAt_MethodCall (pl := pl) ?_ he
  refine ks_wpAt_super_base hks hkc (by decide) hfu (X _ _ hf) hfd hp hco (X _ _ hda) hoc hvs hfile htop ?_
  refine ks_loadName_global hk hks (loadGlobal_builtin (by rw [eg]; exact gl) S.noS (by rw [eb]; exact bl) hb ⟨rfl, ?_⟩)
  refine wpAny_loadName_free hk hkc hce ⟨_, X _ _ hcc, hcd⟩ ?_
  refine wpAny_loadName_local hk hka hns hv ?_
  refine ks_wpAny_isType_cls (X _ _ hC) rfl ⟨rfl, ?_⟩
  obtain ⟨hh, g, d, tk, os⟩ := s
  refine ks_wpAny_call_super (X _ _ hC) rfl hx rfl (fun c z => by cases z) (looks_mroIn X S.sub) fun h1 e1 kk => ?_
  have X1 : K.In h1 := X.keeps kk
  have nx : x ≠ C := by
    intro z
    have := X _ _ hC
    rw [← z] at this
    have hx' : hh.get? x = some (PySem.HandSPX.excO C t0) := hx
    rw [hx'] at this
    cases this
  have I1 : InstAt h1 x (PySem.HandSPX.excO C t0) C none := ⟨kk _ _ hx, rfl, rfl, trivial⟩
  refine kxs_getMethod kxs_ValueError e1 (looks_opaque X1 S.opq) (l₀ := .ref C :: bm) (fun A Q E s k q => wpAny_bind ((looks_clsIn X1 cC) A _ E s k (wpAny_pure q))) rfl X1 (by rw [List.dropWhile_cons]; simpa using hal) (I1.type.andThen (looks_subIn X1 S.subV)) nx (by decide) ?_
  have hu : (h1.push (kxs_mw "ValueError.__init__" x)).get? h1.objs.size = some (kxs_mw "ValueError.__init__" x) := Heap.get?_push_size _ rfl
  have k2 : ∀ b o, h1.get? b = some o → (h1.push (kxs_mw "ValueError.__init__" x)).get? b = some o := fun b o e => Heap.get?_push_of_some _ e
  refine kxs_callWith (i := "ValueError.__init__") (x := x) rfl ?_
  refine Calls.evalArgs_plain (Calls.spliced_cons ?_)
  show wpAny _ _ (eval (.Constant (.str tx) j pk) env) _ _ _
  refine Calls.Constant_str (Calls.spliced_nil ⟨hu, ?_⟩)
  refine bw_call (t0 := t0) S (X1.keeps k2) (k2 _ _ (kk _ _ hx)) hu (by rw [sizeLine_eq]; exact (by decide : 1 ≤ 16777216)) fun h' t1 k3 e3 => hq h' _ t1 (fun b o nb eb' => k3 b o nb (k2 _ _ (kk _ _ eb'))) e3
end
/-! ### the texts of __init__ -/
def args0 (p1 : Pos) : Arguments := { posonlyargs := [], args := [{ arg := "self", annotation := none, pos := p1 }], vararg := none, kwonlyargs := [], kw_defaults := [], kwarg := none, defaults := [] }
def args1 (f : Str) (p1 p2 : Pos) : Arguments := { posonlyargs := [], args := [{ arg := "self", annotation := none, pos := p1 }, { arg := f, annotation := none, pos := p2 }], vararg := none, kwonlyargs := [], kw_defaults := [], kwarg := none, defaults := [] }
def supS (tx : Str) (j : Nat) (p0 p1 pa pk pc pe : Pos) : Stmt := .Expr (.Call (.Attribute (.Call (.Name "super" p0) [] [] p1) "__init__" pa) [.Constant (.str tx) j pk] [] pc) pe
def setS (f : Str) (q1 q2 q3 q4 : Pos) : Stmt := .Assign [.Attribute (.Name "self" q1) f q2] (.Name f q3) q4
/-- what the written part says of an __init__ at f of the class at C -/
structure InitF (prog : Program) (K : Frag) (C f : Addr) (params : Arguments) (body : List Stmt) (scope : Scope) : Prop where
  fn : ∃ (oc : Value) (od : Option Addr) (doc pm : Value) (an : Option Addr) (cda : Addr) (ct : Value) (osl : Array (Option Value)) (cc : Addr) (nm qual : Str) (ol oco : Obj) (vs : Array Value) (file : Str) (tf : Tok),
    K.lookup f = some ⟨oc, od, .func (fnX nm qual params body scope [("__class__", cc)] .none .none doc pm an (.ref cda) ct), osl⟩ ∧ codeIn K (.ref cda) qual = true ∧ K.lookup cc = some ol ∧ ol.data = .cell (some (.ref C)) ∧
    K.lookup cda = some oco ∧ oco.data = .fields vs ∧ vs[2]? = some (.str file tf) ∧ ((prog.main.file : Str) == file) = true
  init : findIn K (.ref C) "__init__" = some (some (.ref f))
  typ : typeIn K (.ref f) = some (.type "function")
section
variable {prog : Program} {w : World} {A : Around} {R : Result → Shared → Prop} {s : Shared} {K : Frag} {mg mb : Str → Option Value} {C x f t0 : Addr}
theorem init_run {params : Arguments} {rest : List Stmt} {scope : Scope} {ar : Arg} {tx : Str} {j : Nat} {p0 p1 pa pk pc pe : Pos} {us : List Value} {binds : List (Str × Value)} (S : SupC prog K mg C) (T : InitF prog K C f params (supS tx j p0 p1 pa pk pc pe :: rest) scope) (X : K.In s.heap) (hlim : s.heap.NoLimit)
    (gl : s.heap.Ns mainGlobals mg) (bl : s.heap.Ns builtinsNs mb) (hb : mb "super" = some (.type "super")) (htop : (prog.main.scope.names.lookup ("super" : Str)).isSome = false) (hroom : A.depth < recursionLimit)
    (hx : s.heap.get? x = some (PySem.HandSPX.excO C t0)) (hp : (params.posonlyargs ++ params.args).head? = some ar) (hka : scope.names.lookup ar.arg = some .local) (hv : binds.reverse.lookup ar.arg = some (.ref x))
    (hks : scope.names.lookup ("super" : Str) = some .globalImplicit) (hkc : scope.names.lookup ("__class__" : Str) = some .free) (hkd : scope.kind = .function) (hcell : ∀ y ∈ scope.names, y.2 ≠ .cell) (hloc : ∀ y ∈ binds, scope.names.lookup y.1 = some .local)
    (hco : scope.isCoroutine = false) (hgen : scope.isGenerator = false)
    (hev : ∀ env : PySem.Env, ∃ pl : Sem Bool, eval (.Call (.Attribute (.Call (.Name "super" p0) [] [] p1) "__init__" pa) [.Constant (.str tx) j pk] [] pc) env = (do
      let ov ← attributeBase (.Call (.Name "super" p0) [] [] p1) "__init__" env (eval (.Call (.Name "super" p0) [] [] p1) env)
      standAt pa.atName
      let (f, first) ← holding [ov] (getMethod ov "__init__" pl)
      callWith pc f first (backTo pc (starEach [.Constant (.str tx) j pk] env)) []))
    (hsw : ∀ env : PySem.Env, swapsWith (.Call (.Attribute (.Call (.Name "super" p0) [] [] p1) "__init__" pa) [.Constant (.str tx) j pk] [] pc) none pe.line env = pure false)
    (hbind : ∀ (nm qual : Str) (cc : Addr) (doc pm : Value) (an : Option Addr) (cda : Addr) (ct : Value), bindArgs (fnX nm qual params (supS tx j p0 p1 pa pk pc pe :: rest) scope [("__class__", cc)] .none .none doc pm an (.ref cda) ct) ⟨us, []⟩ = pure binds)
    (hq : ∀ (env : PySem.Env) (h' : Heap) (tk : Nat) (t1 : Addr) (Q : Flow → Shared → Prop) (E : Value → Shared → Prop), (∀ b o, b ≠ x → s.heap.get? b = some o → h'.get? b = some o) → h'.get? x = some (PySem.HandSPX.excO C t1) → env.scope = scope → h'.Ns env.locals (fun y => binds.reverse.lookup y) →
      s.heap.objs.size ≤ env.locals → (∀ fl s', R (.ok (.ret (match fl with | .ret v => v | _ => .none))) s' → Q fl s') → wpAny (model prog w) (A.deeper env) (execs rest env) Q E { s with heap := h', toks := tk }) :
    codeAny (model prog w) A (.call (.ref f) ⟨us, []⟩) R s := by
  obtain ⟨oc, od, doc, pm, an, cda, ct, osl, cc, nm, qual, ol, oco, vs, file, tf, ho, hcd, hcc, hcl, hda, hoc, hvs, hfile⟩ := T.fn
  refine ks_codeAny_call_defAt hroom (X _ _ ho) rfl hlim (codeRec_of X hcd) rfl (BindsTo.of_eq (hbind nm qual cc doc pm an cda ct)) hcell hloc (fun h0 hns keep => ?_) hco hgen hkd
  have X0 : K.In h0 := X.keeps keep
  have hx0 := keep _ _ hx
  have xL : x ≠ s.heap.objs.size := Nat.ne_of_lt (Heap.lt_size hx)
  obtain ⟨pl, hpl⟩ := hev (callEnv (fnX nm qual params (supS tx j p0 p1 pa pk pc pe :: rest) scope [("__class__", cc)] .none .none doc pm an (.ref cda) ct) s.heap.objs.size f)
  refine ks_wpAt_execs_cons (ks_wpAt_Expr_any ?_ ?_ (hsw _))
  · refine super_eval (s := { s with heap := h0, toks := s.toks + binds.length }) (m := fun y => binds.reverse.lookup y) S X0 (gl.keeps keep) (bl.keeps keep) hb rfl rfl hkd hks hkc rfl hcc hcl rfl ho rfl hp hka hns hv rfl hda hoc hvs hfile htop hx0 (fun h' tk t1 k e => ?_) hpl
    · refine PySem.wpAt_of_wpAny (hq _ h' tk t1 _ _ (fun b o nb eb => k b o nb (keep b o eb)) e rfl ?_ (Nat.le_refl _) (fun fl s' r => r))
      exact hns.at fun o q => k _ o (Ne.symm xL) q
  · simp [interactive, PySem.callEnv, PySem.newEnv, hkd]
/-- what is looked at in an __init__'s text -/
structure Txt (params : Arguments) (ar : Arg) (binds : List Value → List (Str × Value)) (scope : Scope) (tx : Str) (j : Nat) (p0 p1 pa pk pc pe : Pos) (rest : List Stmt) (n : Nat) : Prop where
  hp : (params.posonlyargs ++ params.args).head? = some ar
  hka : scope.names.lookup ar.arg = some .local
  hks : scope.names.lookup ("super" : Str) = some .globalImplicit
  hkc : scope.names.lookup ("__class__" : Str) = some .free
  hkd : scope.kind = .function
  hcell : ∀ y ∈ scope.names, y.2 ≠ .cell
  hloc : ∀ us : List Value, us.length = n → ∀ y ∈ binds us, scope.names.lookup y.1 = some .local
  hco : scope.isCoroutine = false
  hgen : scope.isGenerator = false
  hev : ∀ env : PySem.Env, ∃ pl : Sem Bool, eval (.Call (.Attribute (.Call (.Name "super" p0) [] [] p1) "__init__" pa) [.Constant (.str tx) j pk] [] pc) env = (do
      let ov ← attributeBase (.Call (.Name "super" p0) [] [] p1) "__init__" env (eval (.Call (.Name "super" p0) [] [] p1) env)
      standAt pa.atName
      let (f, first) ← holding [ov] (getMethod ov "__init__" pl)
      callWith pc f first (backTo pc (starEach [.Constant (.str tx) j pk] env)) [])
  hsw : ∀ env : PySem.Env, swapsWith (.Call (.Attribute (.Call (.Name "super" p0) [] [] p1) "__init__" pa) [.Constant (.str tx) j pk] [] pc) none pe.line env = pure false
  hbind : ∀ (us : List Value) (nm qual : Str) (cc : Addr) (doc pm : Value) (an : Option Addr) (cda : Addr) (ct : Value), us.length = n → bindArgs (fnX nm qual params (supS tx j p0 p1 pa pk pc pe :: rest) scope [("__class__", cc)] .none .none doc pm an (.ref cda) ct) ⟨us, []⟩ = pure (binds us)
/-- what stands ahead of the making -/
structure Here (prog : Program) (K : Frag) (mg mb : Str → Option Value) (A : Around) (s : Shared) : Prop where
  X : K.In s.heap
  lim : s.heap.NoLimit
  gl : s.heap.Ns mainGlobals mg
  bl : s.heap.Ns builtinsNs mb
  hb : mb "super" = some (.type "super")
  top : (prog.main.scope.names.lookup ("super" : Str)).isSome = false
  room : A.depth + 1 < recursionLimit
theorem made0 {params : Arguments} {scope : Scope} {ar : Arg} {tx : Str} {j : Nat} {p0 p1 pa pk pc pe : Pos} (S : SupC prog K mg C) (T : InitF prog K C f params [supS tx j p0 p1 pa pk pc pe] scope) (W : Here prog K mg mb A s)
    (t : Txt params ar (fun us => (["self"] : List Str).zip us) scope tx j p0 p1 pa pk pc pe [] 1) (ha : ar.arg = "self")
    (hq : ∀ h' tk e t1, (∀ b o, s.heap.get? b = some o → h'.get? b = some o) → s.heap.objs.size ≤ e → h'.get? e = some (PySem.HandSPX.excO C t1) → R (.ok (.ret (.ref e))) { s with heap := h', toks := tk }) :
    codeAny (model prog w) A (.call (.ref C) ⟨[], []⟩) R s := by
  obtain ⟨nm, q, N, bs, bm, sn, sub, ab, col, dd, k0, k1, k2, k3, k5, hC, hbm, _⟩ := S.cls
  obtain ⟨X, lim, gl, bl, hb, top, room⟩ := W
  obtain ⟨hp, g, d, tk, os⟩ := s
  have k : ∀ b o, hp.get? b = some o → ((hp.push (kdv_tup [])).push (PySem.HandSPX.excO C hp.objs.size)).get? b = some o := fun b o e => Heap.get?_push_of_some _ (Heap.get?_push_of_some _ e)
  have hx : ((hp.push (kdv_tup [])).push (PySem.HandSPX.excO C hp.objs.size)).get? (hp.objs.size + 1) = some (PySem.HandSPX.excO C hp.objs.size) := by heap_get
  refine PySem.HandSPX.call_own F.excBase_ValueError (fun Y => PySem.HandSPX.refsVE_contains Y bm hbm) (X _ _ hC) (looks_findIn X T.init) (fun self => bind_fn X self T.typ) (by decide) ?_
  refine init_run (s := ⟨(hp.push (kdv_tup [])).push (PySem.HandSPX.excO C hp.objs.size), g, d, tk, os⟩) S T (X.keeps k) (lim.keeps k) (gl.keeps k) (bl.keeps k) hb top room hx t.hp t.hka (by rw [ha]; rfl) t.hks t.hkc t.hkd t.hcell (t.hloc _ rfl) t.hco t.hgen t.hev t.hsw (fun a b c d e f g h => t.hbind _ a b c d e f g h rfl) ?_
  intro env h' tk' t1 Q E k' e' _ _ _ fin
  refine wpAny_execs_nil (fin _ _ ⟨rfl, hq h' tk' _ t1 (fun b o eb => k' b o (Nat.ne_of_lt (Nat.lt_succ_of_lt (Heap.lt_size eb))) (k b o eb)) (Nat.le_succ _) e'⟩)
theorem made1 {params : Arguments} {scope : Scope} {ar : Arg} {tx fld : Str} {j : Nat} {p0 p1 pa pk pc pe q1 q2 q3 q4 : Pos} {v : Value} (S : SupC prog K mg C) (T : InitF prog K C f params [supS tx j p0 p1 pa pk pc pe, setS fld q1 q2 q3 q4] scope) (W : Here prog K mg mb A s)
    (t : Txt params ar (fun us => (["self", fld] : List Str).zip us) scope tx j p0 p1 pa pk pc pe [setS fld q1 q2 q3 q4] 2) (ha : ar.arg = "self") (hf1 : fld ≠ "self") (hf2 : (fld == ("__debug__" : Str)) = false) (hf3 : scope.names.lookup fld = some .local) (hf4 : scope.names.lookup ("self" : Str) = some .local)
    (sa : findIn K (.ref C) "__setattr__" = some (some (.builtin "object.__setattr__"))) (noN : findIn K (.ref C) fld = some none) (hsw : ∀ env : PySem.Env, swapsWith (.Name fld q3) (some (.Attribute (.Name "self" q1) fld q2)) q4.line env = pure false)
    (hq : ∀ h' tk e t1 d, (∀ b o, s.heap.get? b = some o → h'.get? b = some o) → s.heap.objs.size ≤ e → s.heap.objs.size ≤ d → d ≠ e → h'.get? e = some { cls := .ref C, dict := some d, data := .fields #[.ref t1, .none, .none, .none, .bool false, .none] } →
      h'.Ns1 d (fun y => if y = fld then some v else none) → R (.ok (.ret (.ref e))) { s with heap := h', toks := tk }) :
    codeAny (model prog w) A (.call (.ref C) ⟨[v], []⟩) R s := by
  obtain ⟨nm, q, N, bs, bm, sn, sub, ab, col, dd, k0, k1, k2, k3, k5, hC, hbm, _⟩ := S.cls
  have cC : clsIn K C = some { name := nm, bases := bs, mro := .ref C :: bm, ns := N, qualname := q, hasDict := true, slotNames := sn, subclasses := sub, abstract := ab, collection := col, hasDel := false } := by
    unfold clsIn
    rw [hC]
  obtain ⟨X, lim, gl, bl, hb, top, room⟩ := W
  obtain ⟨hp, g, d, tk, os⟩ := s
  have k : ∀ b o, hp.get? b = some o → ((hp.push (kdv_tup [v])).push (PySem.HandSPX.excO C hp.objs.size)).get? b = some o := fun b o e => Heap.get?_push_of_some _ (Heap.get?_push_of_some _ e)
  have hx : ((hp.push (kdv_tup [v])).push (PySem.HandSPX.excO C hp.objs.size)).get? (hp.objs.size + 1) = some (PySem.HandSPX.excO C hp.objs.size) := by heap_get
  refine PySem.HandSPX.call_own F.excBase_ValueError (fun Y => PySem.HandSPX.refsVE_contains Y bm hbm) (X _ _ hC) (looks_findIn X T.init) (fun self => bind_fn X self T.typ) (by show 1 ≤ sizeLine; rw [sizeLine_eq]; decide) ?_
  have look0 : ((["self", fld] : List Str).zip [Value.ref (hp.objs.size + 1), v]).reverse.lookup ("self" : Str) = some (Value.ref (hp.objs.size + 1)) := by
    show List.lookup ("self" : Str) [(fld, v), ("self", Value.ref (hp.objs.size + 1))] = _
    rw [List.lookup_cons, beq_eq_false_iff_ne.mpr (Ne.symm hf1)]
    rfl
  have look1 : ((["self", fld] : List Str).zip [Value.ref (hp.objs.size + 1), v]).reverse.lookup fld = some v := by
    show List.lookup fld [(fld, v), ("self", Value.ref (hp.objs.size + 1))] = _
    rw [List.lookup_cons, beq_self_eq_true]
  refine init_run (s := ⟨(hp.push (kdv_tup [v])).push (PySem.HandSPX.excO C hp.objs.size), g, d, tk, os⟩) S T (X.keeps k) (lim.keeps k) (gl.keeps k) (bl.keeps k) hb top room hx t.hp t.hka (by rw [ha]; exact look0) t.hks t.hkc t.hkd t.hcell (t.hloc _ rfl) t.hco t.hgen t.hev t.hsw (fun a b c d e f g h => t.hbind _ a b c d e f g h rfl) ?_
  intro env h' tk' t1 Q E k' e' es hns el fin
  have kk : ∀ b o, hp.get? b = some o → h'.get? b = some o := fun b o eb => k' b o (Nat.ne_of_lt (Nat.lt_succ_of_lt (Heap.lt_size eb))) (k b o eb)
  have X' : K.In h' := X.keeps kk
  refine wpAny_execs_cons (plainObj_wpAny_Assign_Attribute ?_ (hsw _))
  refine wpAny_Name (wpAny_loadName_local (by rw [es]; exact t.hkd) (by show env.scope.names.lookup fld = _; rw [es]; exact hf3) hns look1 ?_) hf2
  refine wpAny_Name (wpAny_loadName_local (by rw [es]; exact t.hkd) (by show env.scope.names.lookup ("self" : Str) = _; rw [es]; exact hf4) hns look0 ?_) (by decide)
  refine set_plain X' (ox := PySem.HandSPX.excO C t1) (od := none) ⟨e', rfl, rfl, trivial⟩ sa ?_
  refine PySem.HandSPX.exc_osa X' e' cC (show PySem.HandSPX.refsVE (.ref C :: bm) = true from hbm) rfl noN (fun h3 tk3 dx k3 dn dne hx3 hn3 => ?_)
  refine wpAny_execs_nil (fin _ _ ⟨rfl, hq h3 tk3 _ t1 dx (fun b o eb => k3 b o (Nat.ne_of_lt (Nat.lt_succ_of_lt (Heap.lt_size eb))) (kk b o eb)) (Nat.le_succ _) ?_ dne hx3 hn3⟩)
  have z : hp.objs.size + 1 < h'.objs.size := Heap.lt_size e'
  have dn' : h'.objs.size ≤ dx := dn
  show hp.objs.size ≤ dx
  omega
end
end PvX
namespace Pv
open PySem PySem.Spec PyProof.Rows L2
/-- an own error's class, made with what its __init__ takes -/
structure ErrC (X : Cx) (C f : Addr) : Prop where
  S : PvX.SupC X.prog X.K X.mg C
  gt : PySem.W.keepIn X.K (.ref C) = true
  r : Raises X (.ref C)
  top : (X.prog.main.scope.names.lookup ("super" : Str)).isSome = false
section
variable {X : Cx} {C f : Addr} {pins : List (Addr × Obj)} {σ : L2.St} {H : Hp} {s : Shared}
theorem here_of (I : Inv X pins σ H s) (top : (X.prog.main.scope.names.lookup ("super" : Str)).isSome = false) (hr : Room 1 X.A) : ∃ mb, PvX.Here X.prog X.K X.mg mb X.A s := by
  obtain ⟨mb, h1, h2⟩ := I.mod.blt
  exact ⟨mb, I.kIn, I.nolimit, I.mod.glob.keeps I.bk, h1.keeps I.bk, (h2 "super" (by decide)).trans (by decide +kernel), top, by have := hr.dp; omega⟩
theorem mkp_of {h' : Heap} {tk : Nat} {e t1 : Addr} {d : Option Addr} {H' : Hp} {Q : XK} (I : Inv X pins σ H s) (ec : Raises X (.ref C)) (k : ∀ b o, s.heap.get? b = some o → h'.get? b = some o) (le : s.heap.objs.size ≤ e)
    (he : h'.get? e = some { cls := .ref C, dict := d, data := .fields #[.ref t1, .none, .none, .none, .bool false, .none] })
    (J : ∀ G : Heap, (∀ b o, s.heap.get? b = some o → G.get? b = some o) → (∀ b, b ≠ e → G.get? b = h'.get? b) → Inv X pins σ H' { s with heap := G, toks := tk }) (hn : H' e = none) (q : Q (.ref C) d H') : MkP X pins σ Q (.ref e) { s with heap := h', toks := tk } := by
  obtain ⟨G, g1, g2⟩ := restrict h' fun b => decide (b ≠ e)
  have gk : ∀ b, b ≠ e → G.get? b = h'.get? b := fun b hb => g1 b (decide_eq_true hb)
  have ge : G.get? e = none := g2 e (by simp)
  have old : ∀ b o, s.heap.get? b = some o → G.get? b = some o := fun b o z => (gk b (Nat.ne_of_lt (Nat.lt_of_lt_of_le (Heap.lt_size z) le))).trans (k b o z)
  refine ⟨e, _, _, { s with heap := G, toks := tk }, H', .ref C, d, rfl, J G old gk, fun b o z => ?_, ge, he, ⟨rfl, rfl⟩, rfl, rfl, hn, rfl, I.bare, ec, q⟩
  by_cases hb : b = e
  · have z' : G.get? b = some o := z
    rw [hb, ge] at z'; cases z'
  · exact (gk b hb).symm.trans z
end
section
variable {X : Cx} {F : Fr} {pos pos2 p : Pos} {c f : Nat}
/-- the class c, its __init__ without and with a field -/
structure Err0 (X : Cx) (F : Fr) (c : Nat) : Prop where
  e : ∃ (fI : Addr) (params : Arguments) (scope : Scope) (ar : Arg) (tx : Str) (j : Nat) (p0 p1 pa pk pc pe : Pos), ErrC X (F.Y.ca c) fI ∧ PvX.InitF X.prog X.K (F.Y.ca c) fI params [PvX.supS tx j p0 p1 pa pk pc pe] scope ∧
    PvX.Txt params ar (fun us => (["self"] : List Str).zip us) scope tx j p0 p1 pa pk pc pe [] 1 ∧ ar.arg = "self"
  x : F.P.exf c = []
structure Err1 (X : Cx) (F : Fr) (c f : Nat) : Prop where
  e : ∃ (fI : Addr) (params : Arguments) (scope : Scope) (ar : Arg) (tx : Str) (j : Nat) (p0 p1 pa pk pc pe q1 q2 q3 q4 : Pos), ErrC X (F.Y.ca c) fI ∧ PvX.InitF X.prog X.K (F.Y.ca c) fI params [PvX.supS tx j p0 p1 pa pk pc pe, PvX.setS (F.Y.fn f) q1 q2 q3 q4] scope ∧
    PvX.Txt params ar (fun us => (["self", F.Y.fn f] : List Str).zip us) scope tx j p0 p1 pa pk pc pe [PvX.setS (F.Y.fn f) q1 q2 q3 q4] 2 ∧ ar.arg = "self" ∧ F.Y.fn f ≠ "self" ∧ (F.Y.fn f == ("__debug__" : Str)) = false ∧ scope.names.lookup (F.Y.fn f) = some .local ∧ scope.names.lookup ("self" : Str) = some .local ∧
    PySem.W.findIn X.K (.ref (F.Y.ca c)) "__setattr__" = some (some (.builtin "object.__setattr__")) ∧ PySem.W.findIn X.K (.ref (F.Y.ca c)) (F.Y.fn f) = some none ∧
    (∀ env : PySem.Env, swapsWith (.Name (F.Y.fn f) q3) (some (.Attribute (.Name "self" q1) (F.Y.fn f) q2)) q4.line env = pure false)
  x : F.P.exf c = [f]
theorem ok_raise0 {x : Str} {k : Nat} (hc : X.calm = true) (tk : Takes X F.W) (hr : Room (k + 1) X.A) (E : Err0 X F c) (hg : Gl X x) (hm : X.mg x = some (.ref (F.Y.ca c))) (hdb : (x == ("__debug__" : Str)) = false) : PS X (.Raise (some (.Call (.Name x p) [] [] pos)) none pos2) (tS F (.raise c .nil)) := by
  obtain ⟨fI, params, scope, ar, tx, j, p0, p1, pa, pk, pc, pe, ec, T, t, ha⟩ := E.e
  have mk : PMk X (.Call (.Name x p) [] [] pos) (fun σ H Q => Q (.ref (F.Y.ca c)) none H) := by
    intro pins s σ H Q I q
    refine wpAny_Call_Name_kw (ld_glob I hg hm ?_ hdb)
    refine PySem.W.callWith_K0 I.kIn ec.gt ?_
    obtain ⟨mb, W⟩ := here_of I ec.top (hr.mono (by omega))
    refine wpAny_call (PvX.made0 ec.S T W t ha fun h' tk' e t1 kk le he => ?_)
    exact mkp_of (t1 := t1) I ec.r kk le he (fun G old gk => I.kept (t' := tk') old) (I.hok.fresh le) q
  refine (ps_raise hc tk mk).imp fun D σ H ⟨w, env, h, DD, hs, es, hd, o⟩ => ?_
  obtain ⟨hl, hd⟩ := hd
  refine o.ex w H env h σ _ _ none (Evo.refl _ _) hs es ?_ hd
  refine ⟨rfl, .inl ⟨?_, rfl⟩⟩
  rw [E.x]
  rfl
theorem ok_raise1 {x : Str} {k : Nat} {a : Expr} {ea : E} (hc : X.calm = true) (tk : Takes X F.W) (hr : Room (k + 1) X.A) (E : Err1 X F c f) (hg : Gl X x) (hm : X.mg x = some (.ref (F.Y.ca c))) (hdb : (x == ("__debug__" : Str)) = false) (he : PE X a (tE F ea))
    (hst : starEach (a :: []) X.env = (false, eval a X.env) :: starEach [] X.env) (hpl : (backTo pos (starEach [] X.env)).any (·.1) = false) : PS X (.Raise (some (.Call (.Name x p) [a] [] pos)) none pos2) (tS F (.raise c (.cons ea .nil))) := by
  obtain ⟨fI, params, scope, ar, tx, j, p0, p1, pa, pk, pc, pe, q1, q2, q3, q4, ec, T, t, ha, hf1, hf2, hf3, hf4, sa, noN, hsw⟩ := E.e
  have mk : PMk X (.Call (.Name x p) [a] [] pos) (fun σ H Q => tEs F (.cons ea .nil) σ H fun vs H1 => ∃ v, vs = [v] ∧ ∀ d, H1 d = none → Q (.ref (F.Y.ca c)) (some d) (upd H1 d (.xd [(F.Y.fn f, v)]))) := by
    intro pins s0 σ H0 Q I0 q
    refine wpAny_Call_Name_kw (ld_glob I0 hg hm ?_ hdb)
    refine PySem.W.callWith_K (h₀ := X.base) I0.ok.mod.kin ec.gt (thn ((ok_cons he ok_nil hst).run pos pins s0 σ H0 _ I0 q) fun us s ⟨vs, H, I, r, v, ev, q⟩ => ⟨I.kIn, ?_⟩) hst hpl
    subst ev
    cases r with
    | cons ru rn =>
      cases rn
      obtain ⟨mb, W⟩ := here_of I ec.top (hr.mono (by omega))
      refine wpAny_call (PvX.made1 ec.S T W t ha hf1 hf2 hf3 hf4 sa noN hsw fun h' tk' e t1 d kk le ld ne he' hn => ?_)
      refine mkp_of (t1 := t1) I ec.r kk le he' (fun G old gk => ?_) (by rw [upd_ne (Ne.symm ne)]; exact I.hok.fresh le) (q d (I.hok.fresh ld))
      refine I.laid (t' := tk') old ld ⟨_, hn.at (fun o z => (gk d ne).trans z), fun g => ?_⟩
      by_cases hw : g = F.Y.fn f
      · subst hw
        rw [if_pos rfl, show List.lookup (F.Y.fn f) [(F.Y.fn f, v)] = some v by simp [List.lookup]]
        exact ru
      · have z : (g == F.Y.fn f) = false := by simpa using hw
        rw [if_neg hw, show List.lookup g [(F.Y.fn f, v)] = none by simp [List.lookup, z]]
        trivial
  refine (ps_raise hc tk mk).imp fun D σ H ⟨w, env, h, DD, hs, es, hd, o⟩ => ?_
  refine ⟨w, env, h, fun l h1 => l.length = (F.P.exf c).length ∧ DD.ex env ⟨.own c, (F.P.exf c).zip l⟩ h1, DD.ex env, hs, es, hd, fun w1 H1 vs l h1 e1 s1 r1 q1 => ?_, o.outX es⟩
  obtain ⟨hl, q1⟩ := q1
  rw [E.x] at hl q1
  match l, r1, hl with
  | [d1], r1, _ =>
    obtain ⟨v, rfl, rv⟩ := reps1 r1
    refine ⟨v, rfl, fun dx hx => ?_⟩
    have ev := Evo.new (w := w1) (o := .xd [(F.Y.fn f, v)]) hx
    exact o.ex w1 _ env h1 σ ⟨.own c, [(f, d1)]⟩ _ (some dx) (e1.trans ev) (s1.new hx) ((es.mono e1).mono ev) ⟨rfl, .inr ⟨dx, _, rfl, upd_same, v, [], rfl, rv.mono ev, rfl⟩⟩ q1
  | [], _, hl => cases hl
  | _ :: _ :: _, _, hl => cases hl
end
end Pv
end

section
set_option maxRecDepth 100000
set_option maxHeartbeats 4000000
namespace PvX
open PySem PySem.W PySem.Calls PyProof.Rows PySem.Spec
section
variable {prog : Program} {w : World} {A : Around} {E : Value → Shared → Prop} {s : Shared} {K : Frag} {x D : Addr} {ox : Obj} {od : Option Obj}
theorem cls_found {a g : Value} (hc : (clsIn K D).isSome = true) (ha : findIn K (.ref D) "__class__" = some (some a)) (hg : specialIn K a "__get__" = some (some g)) (ht : takesIn K a = some true) : findObj K D od "__class__" = some (.bind g a) := by
  obtain ⟨cd, hc⟩ := Option.isSome_iff_exists.mp hc
  simp [findObj, hc, ha, hg, ht]
theorem cls_asked {Q : Option Value → Shared → Prop} (C : L2.ExcC K D) (X : K.In s.heap) (I : InstAt s.heap x ox D od) (h : Q (some (.ref D)) { s with toks := s.toks + 1 }) : wpAny (model prog w) A (getAttr? (.ref x) "__class__") Q E s := by
  obtain ⟨cd, hcd, _⟩ := any_some C.hd
  have hf : findObj K D od "__class__" = some (.bind (.builtin "getset_descriptor.__get__") (.builtin "object.__class__")) := cls_found (by rw [hcd]; rfl) C.ha C.hn C.ht
  obtain ⟨hp, g, d, t, os⟩ := s
  have l0 := I.type (M := model prog w); have l1 := looks_findIn (M := model prog w) X C.hg
  have l2 := looks_findIn (M := model prog w) X C.hk; have l3 := looks_find (M := model prog w) X I hf
  have sb : Looks (model prog w) hp (isInstance (.ref x) (.type "BaseException")) true := l0.andThen (looks_subIn X C.hs)
  have nb : (onTheHeap (Value.ref D) && Value.builtin "BaseException.__getattribute__" == Value.builtin "object.__getattribute__") = false := by
    rw [show (Value.builtin "BaseException.__getattribute__" == Value.builtin "object.__getattribute__") = false by decide +kernel, Bool.and_false]
  unfold getAttr? getAttrBy? getAttrBy
  refine wpAny_bind (wpAny_mkText (wpAny_bind (wpAny_attempt (wpAny_holding (wpAny_bind (l0.at (wpAny_bind (l1.at ?_))))))))
  show wpAny _ _ (if (onTheHeap (Value.ref D) && Value.builtin "BaseException.__getattribute__" == Value.builtin "object.__getattribute__") = true then _ else _) _ _ _
  rw [nb, if_neg Bool.false_ne_true]
  unfold getAttrByItsOwn hookBefore
  refine wpAny_bind ?_
  rw [if_pos (show onTheHeap (Value.ref D) = true from rfl)]
  refine l2.at (wpAny_bind (wpAny_attempt (wpAny_holding ?_)))
  unfold callGetattribute
  rw [show (false && onTheHeap (Value.builtin "BaseException.__getattribute__")) = false from rfl, if_neg Bool.false_ne_true]
  unfold boundAndCalled
  rw [PySem.F.excAttr_ValueError.ga.bind (.ref x)]
  refine wpAny_bind (wpAny_pure ?_)
  show wpAny _ _ (call (.builtin "BaseException.__getattribute__") [.ref x, .str "__class__" t]) _ _ _
  refine wpAny_call (codeAny_call_builtin PySem.F.excAttr_ValueError.ga.plain PySem.F.entry_bexc_ga (@check_slot (model prog w) _ _ ⟨hp, g, d, t + 1, os⟩ "BaseException.__getattribute__" "BaseException" "__getattribute__" (.ref x) [.str "__class__" t] [] _ (by decide +kernel) (by decide +kernel) sb (PySem.F.args_bexc_ga (.ref x) (.str "__class__" t)) ?_))
  unfold Builtin.«object.__getattribute__»
  refine wpAny_bind (wpAny_of_eq (a := ((Value.ref x : Value), [Value.str "__class__" t])) (by first | rfl | (simp only [slotArgs]; rfl)) (wpAny_bind (wpAny_pure (wpAny_bind (l0.at (wpAny_bind (l3.at ?_)))))))
  show wpAny _ _ (holding [Value.builtin "object.__class__"] (call (.builtin "getset_descriptor.__get__") [.builtin "object.__class__", .ref x, .ref D]) >>= ret) _ _ _
  refine wpAny_bind (wpAny_holding (wpAny_call (class_get (s := ⟨hp, g, d, t + 1, os⟩) (ox := ox) (od := od) X I C.hm (wpAny_pure ?_))))
  show wpAny _ _ (handedOut (.ref D)) _ _ _
  rw [handedOut_of (v := .ref D) rfl]
  first | exact wpAny_pure (wpAny_pure h) | exact wpAny_pure h | exact wpAny_pure (wpAny_bind (wpAny_pure (wpAny_pure h)))
theorem kit_exc (C : L2.ExcC K D) : KitX K (.ref x) (.ref D) (fun h => InstAt h x ox D od) where
  ty := fun _ _ _ I => I.type
  it := fun _ _ X _ => by
    obtain ⟨cd, hcd, _⟩ := any_some C.hd
    unfold clsIn at hcd
    split at hcd
    · rename_i ho
      exact fun A' Q' E' s' k q => by unfold isType loadHead; exact wpAny_bind (wpAny_loadPart (k _ _ (X _ _ ho)) (wpAny_pure q))
    · cases hcd
  ne := fun h tp dd its n sl X htp => by
    obtain ⟨cd, hcd, _⟩ := any_some C.hd
    refine Bool.eq_false_iff.mpr fun q => ?_
    obtain rfl : D = tp := Value.ref.inj (beq_iff_eq.mp q)
    unfold clsIn at hcd
    split at hcd
    · rename_i ho
      cases (X _ _ ho).symm.trans htp
    · cases hcd
  ca := fun X I k => cls_asked C X I k
end
end PvX
namespace Pv
open PySem PySem.Spec PyProof.Rows L2
section
variable {X : Cx} {F : Fr} {a C : Addr} {oe : Obj} {cls : Value} {dd : Option Addr} {pn : List (Addr × Obj)} {p q pos : Pos} {i : Nat}
/-- isinstance(e, c) of the error that the suite holds -/
def rIsX (K : PySem.W.Frag) (a D : Addr) (dd : Option Addr) : List V → Hp → VK → Prop := fun xs H Q => ∃ (c : V) (cv : Value) (b : Bool), xs = [.ref a, c] ∧ (dd = none ∨ ∃ dx fv, dd = some dx ∧ H dx = some (.xd fv)) ∧ (∀ u, L2.RelV c u → u = cv) ∧ PySem.W.kitOne K (.ref D) cv = some b ∧ Q (.bl b) H
theorem call_isX {D : Addr} (C : ExcC X.K D) (hz : Zc (.ref D) dd oe) (hf : ∃ vs, oe.data = .fields vs) : CallR (X.suite a ((a, oe) :: pn)) (.builtin "isinstance") (rIsX X.K a D dd) := by
  intro pins s σ H xs us Q I r h
  obtain ⟨c, cv, b, rfl, hd, hcv, e, q⟩ := h
  cases r with
  | cons rx rr =>
    cases rr with
    | cons rt rr =>
      cases rr
      cases rx
      obtain rfl := hcv _ rt
      obtain ⟨hget, _⟩ := I.pin (a, oe) (List.mem_append.mpr (.inl List.mem_cons_self))
      obtain ⟨vs, hv⟩ := hf
      obtain ⟨od, J⟩ : ∃ od, PySem.W.InstAt s.heap a oe D od := by
        obtain ⟨oc, od', oda, osl⟩ := oe
        obtain ⟨h1, h2⟩ := hz
        dsimp only at h1 h2 hv
        subst h1 h2 hv
        rcases hd with rfl | ⟨dx, fv, rfl, hx⟩
        · exact ⟨none, hget, rfl, rfl, trivial⟩
        · obtain ⟨_, ⟨o, _, _, eo, _⟩, _⟩ := I.hok dx _ hx
          exact ⟨some o, hget, rfl, rfl, eo⟩
      exact PySem.W.kia_one (PvX.kit_exc C) I.kIn J e (fun z => nomatch z) fun tk => ⟨.bl b, H, I.kept (t' := tk) fun _ _ z => z, rfl, q⟩
theorem call_isY (hz : Zc cls dd oe) (hf : ∃ vs, oe.data = .fields vs) : CallR (X.suite a ((a, oe) :: pn)) (.builtin "isinstance") (fun xs H Q => ∃ D, cls = .ref D ∧ ExcC X.K D ∧ rIsX X.K a D dd xs H Q) :=
  fun pins s σ H xs us Q I r ⟨D, e, C, h⟩ => by subst e; exact call_isX C hz hf pins s σ H xs us Q I r h
/-- what the written part says of the error classes -/
structure ErrKit (K : PySem.W.Frag) (Y : At) (P : Cls) (used : Cl → Bool) : Prop where
  ok : ∀ c, P.isx c = true → ExcC K (Y.ca c)
  kit : ∀ c cl, P.isx c = true → used cl = true → PySem.W.kitOne K (.ref (Y.ca c)) (clsU Y cl) = some (exIsC P (.own c) cl)
theorem ok_exIs {used : Cl → Bool} {c : Cl} {err : Str} {ce : Expr} {b : Bad} (hz : Zc b.cls b.dd oe) (hf : ∃ vs, oe.data = .fields vs) (ha : b.a = a) (hb : F.bad = some b) (hi : b.i = i) (k : ErrKit X.K F.Y F.P used) (hu : used c = true)
    (hN : X.N[i]? = some err) (hv : Vis X.env.scope err) (hd : (err == ("__debug__" : Str)) = false) (hcd : (err == ("__classdict__" : Str)) = false) (hg : Gl X "isinstance") (hm : X.mg "isinstance" = none) (hc : PE (X.suite a ((a, oe) :: pn)) ce (tC (clsV F.Y c)))
    (he : starEach (.Name err q :: [ce]) X.env = (false, eval (.Name err q) X.env) :: starEach [ce] X.env) (he2 : starEach (ce :: []) X.env = (false, eval ce X.env) :: starEach [] X.env) (hpl : (backTo pos (starEach [ce] X.env)).any (·.1) = false) :
    PE (X.suite a ((a, oe) :: pn)) (.Call (.Name "isinstance" p) (.Name err q :: [ce]) [] pos) (tE F (.exIs i c)) :=
  (pe_callB (X := X.suite a ((a, oe) :: pn)) (call_isY hz hf) hg hm (by decide +kernel) (pa_cons (pe_var hN hv hd hcd) (pa_cons hc pa_nil he2) he) (by decide) (by decide) he hpl).imp fun σ H Q ⟨w, env, h, Qd, Xd, hs, es, hd, o, ox⟩ => by
    obtain ⟨c', fs, e1, hx', q1⟩ := hd
    obtain ⟨e2, r⟩ := es.be b hb _ fs (by rw [hi]; exact e1)
    rw [hi, ha] at e2
    refine ⟨.ref a, e2, ?_⟩
    · obtain ⟨r1, r2⟩ := r
      refine ⟨F.Y.ca c', r1, k.ok c' hx', clsV F.Y c, clsU F.Y c, _, rfl, ?_, fun u ru => ?_, k.kit c' c hx' hu, o w H (.bl _) (.bl _) h (Evo.refl _ _) hs rfl q1⟩
      · rcases r2 with ⟨_, z⟩ | ⟨dx, fv, z, z2, _⟩
        · exact .inl z
        · exact .inr ⟨dx, fv, z, z2⟩
      · have := clsV_U F.Y c
        cases c <;> exact ru
theorem ok_exFld {f : Nat} {n err : Str} {b : Bad} (hz : Zc b.cls b.dd oe) (hf : ∃ vs, oe.data = .fields vs) (ha : b.a = a) (hb : F.bad = some b) (hi : b.i = i) (hn : n = F.Y.fn f) (T : ∀ c, F.P.isx c = true → XfC X.K (F.Y.ca c) ∧ PySem.W.findIn X.K (.ref (F.Y.ca c)) n = some none)
    (hN : X.N[i]? = some err) (hv : Vis X.env.scope err) (hd : (err == ("__debug__" : Str)) = false) (hcd : (err == ("__classdict__" : Str)) = false) (hba : attributeBase (.Name err q) n X.env (eval (.Name err q) X.env) = eval (.Name err q) X.env) :
    PE (X.suite a ((a, oe) :: pn)) (.Attribute (.Name err q) n pos) (tE F (.exFld i f)) := by
  by_cases hc : ∃ c, b.cls = .ref (F.Y.ca c) ∧ F.P.isx c = true
  · obtain ⟨c, e, hx⟩ := hc
    obtain ⟨T1, T2⟩ := T c hx
    refine (pe_xf T1 T2 hz hf (pe_var (X := X.suite a ((a, oe) :: pn)) hN hv hd hcd) hba).imp fun σ H Q ⟨w, env, h, Qd, Xd, hs, es, hd, o, ox⟩ => ?_
    obtain ⟨c', fs, d, e1, hx', hl, q1⟩ := hd
    obtain ⟨e2, r⟩ := es.be b hb _ fs (by rw [hi]; exact e1)
    rw [hi, ha] at e2
    obtain ⟨r1, r2⟩ := r
    rcases r2 with ⟨z, _⟩ | ⟨dx, fv, z, z2, z3⟩
    · have z : fs = [] := z
      rw [z] at hl; cases hl
    · obtain ⟨v, k1, k2⟩ := repF_look z3 hl
      refine ⟨.ref a, e2, rfl, e, dx, fv, v, z, z2, by rw [hn]; exact k1, o w H v d h (Evo.refl _ _) hs k2 q1⟩
  · refine ⟨fun pins s σ H Q I ⟨w, env, h, Qd, Xd, hs, es, hd, o, ox⟩ => ?_⟩
    obtain ⟨c', fs, d, e1, hx', hl, q1⟩ := hd
    obtain ⟨e2, r⟩ := es.be b hb _ fs (by rw [hi]; exact e1)
    exact absurd ⟨c', r.1, hx'⟩ hc
end
end Pv
end

section
set_option maxRecDepth 100000
set_option maxHeartbeats 4000000
namespace Pv
open PySem PySem.Spec PyProof.Rows L2
section
variable {X : Cx} {F : Fr} {x n : Str} {i c : Nat} {body suite : List Stmt} {b0 : Stmt} {np pos pos' : Pos} {sb ss : Ss}
theorem EnvSim.badSet {Y : At} {w : Wd} {H : Hp} {ce : Nat → Option Addr} {lk : List Nat} {env : Env} {σ : L2.St} {i : Nat} {a : Addr} {cls : Value} {dd : Option Addr} {e : Ex} (s : EnvSim Y w H none ce lk env σ) (hi : i ∉ lk) (r : RepX Y w H e cls dd) :
    EnvSim Y w H (some ⟨i, a, cls, dd⟩) ce lk (env.set i (some (.exc e.c e.fs))) (σ.set i (some (.ref a))) := by
  refine ⟨by rw [List.length_set, List.length_set]; exact s.len, fun j d h1 h2 => ?_, fun b hb y fs q => ?_, fun c v m => ?_, fun j hj v q => ?_⟩
  · have z : i ≠ j := fun z => h2 (by rw [z]; rfl)
    rw [List.getElem?_set_ne z] at h1 ⊢
    exact s.at_ j d h1 (by simp)
  · cases hb
    have hl : i < env.length := by
      have := (List.getElem?_eq_some_iff.mp q).1
      rwa [List.length_set] at this
    have q' : (env.set i (some (.exc e.c e.fs)))[i]? = some (some (.exc y fs)) := q
    rw [List.getElem?_set_self hl] at q'
    cases q'
    exact ⟨List.getElem?_set_self (by rw [← s.len]; exact hl), r⟩
  · obtain ⟨j, hj, e1, e2⟩ := s.cin c v m
    exact ⟨j, hj, e1, by rw [List.getElem?_set_ne (fun z : i = j => hi (z ▸ hj))]; exact e2⟩
  · rw [List.getElem?_set_ne (fun z : i = j => hi (z ▸ hj))] at q
    exact s.cup j hj v q
theorem EnvSim.badOut {Y : At} {w : Wd} {H : Hp} {ce : Nat → Option Addr} {lk : List Nat} {env : Env} {σ : L2.St} {b : Bad} (s : EnvSim Y w H (some b) ce lk env σ) (hi : b.i ∉ lk) : EnvSim Y w H none ce lk (env.set b.i none) (σ.set b.i none) := by
  refine ⟨by rw [List.length_set, List.length_set]; exact s.len, fun j d h1 h2 => ?_, fun b hb => (nomatch hb), fun c v m => ?_, fun j hj v q => ?_⟩
  · by_cases z : b.i = j
    · have hl : b.i < env.length := by
        have := (List.getElem?_eq_some_iff.mp h1).1
        rw [List.length_set, ← z] at this
        exact this
      rw [← z, List.getElem?_set_self hl] at h1
      cases h1
    · rw [List.getElem?_set_ne z] at h1 ⊢
      exact s.at_ j d h1 (fun q => z (Option.some.inj q))
  · obtain ⟨j, hj, e1, e2⟩ := s.cin c v m
    exact ⟨j, hj, e1, by rw [List.getElem?_set_ne (fun z : b.i = j => hi (z ▸ hj))]; exact e2⟩
  · rw [List.getElem?_set_ne (fun z : b.i = j => hi (z ▸ hj))] at q
    exact s.cup j hj v q
theorem ok_try_as (hs : X.stack = X.env :: X.outer) (hf : X.env.frame = some X.env.locals) (hN : X.N.Nodup) (hi : X.N[i]? = some n) (hln : X.env.kindOf n = some .local) (hc : Names X x (.ref (F.Y.ca c))) (tk : Takes X F.W) (hbad : F.bad = none) (hl : i ∉ F.lk)
    (hex : ∀ (e : Ex) (cls : Value) (dd : Option Addr) (w : Wd) (H : Hp), RepX F.Y w H e cls dd → PySem.W.exmOne X.K cls (.ref (F.Y.ca c)) = some (exCatch F.P e.c [.own c]))
    (hb : ∀ (W : WX) (pn : List (Addr × Obj)) (xe : Value → Shared → Prop), Takes (X.tr pn xe) W → PassesOwn (model X.prog X.w) X.A X.env xe → PSs (X.tr pn xe) body (tSs { F with W := W } sb))
    (hsu : ∀ (a : Addr) (oe : Obj) (cls : Value) (d : Option Addr) (pn : List (Addr × Obj)), Zc cls d oe → (∃ vs, oe.data = .fields vs) → PSs (X.suite a ((a, oe) :: pn)) (b0 :: suite) (tSs { F with bad := some ⟨i, a, cls, d⟩, W := fun _ _ _ _ => False } ss)) :
    PS X (.Try body [.ExceptHandler (some (.Name x np)) (some n) (b0 :: suite) pos'] [] [] pos) (tS F (.try_ sb (.cons [.own c] (some i) ss .nil))) :=
  (ps_try_as (tb := fun W => tSs { F with W := W } sb) (ts := fun a cls d => tSs { F with bad := some ⟨i, a, cls, d⟩, W := fun _ _ _ _ => False } ss) hs hf hN hi hln hc tk hb hsu).imp fun D σ H ⟨w, env, h, DD, hs, es, hd, o⟩ => by
    refine ⟨w, env, h, { DD with ex := fun v' e h' => dHs F.P F.C (.cons [.own c] (some i) ss .nil) DD v' e h' }, hs, es, hd, ⟨o.nx, o.rt, o.bk, o.ct, fun w' H' env' h' σ' e cls dd ev s' es' r q => ?_⟩⟩
    refine ⟨_, hex e cls dd w' H' r, fun hk a ha => ?_, fun hk => ?_⟩
    · have q : dHs F.P F.C (.cons [.own c] (some i) ss .nil) DD env' e h' := q
      unfold dHs at q
      rw [if_pos hk] at q
      rw [hbad] at es'
      have o2 := o.evo ev
      refine ⟨w', _, h', _, s', es'.badSet hl r, q, ⟨?_, ?_, ?_, ?_, ?_⟩⟩
      · exact fun w4 H4 env4 h4 σ4 e4 s4 es4 q4 => o2.nx w4 H4 _ h4 _ e4 s4 (by rw [hbad]; exact es4.badOut hl) q4
      · exact fun w4 H4 v d h4 e4 s4 r4 q4 => o2.rt w4 H4 v d h4 e4 s4 r4 q4
      · exact fun w4 H4 env4 h4 σ4 e4 s4 es4 q4 => o2.bk w4 H4 _ h4 _ e4 s4 (by rw [hbad]; exact es4.badOut hl) q4
      · exact fun w4 H4 env4 h4 σ4 e4 s4 es4 q4 => o2.ct w4 H4 _ h4 _ e4 s4 (by rw [hbad]; exact es4.badOut hl) q4
      · exact fun _ _ _ _ _ _ _ _ _ _ _ _ q4 => q4
    · have q : dHs F.P F.C (.cons [.own c] (some i) ss .nil) DD env' e h' := q
      unfold dHs at q
      rw [if_neg (by rw [hk]; exact Bool.false_ne_true)] at q
      exact o.ex w' H' env' h' σ' e cls dd ev s' es' r q
end
end Pv
end

section
set_option maxRecDepth 100000
set_option maxHeartbeats 4000000
namespace Pv
open PySem PySem.Spec PyProof.Rows L2 LamX NdefX
/-! ### functions made within a def -/
/-- the names that a function captures, as its cells stand -/
def capNames (names : List (Str × NameKind)) : List Str := ((names.filter fun y => y.2 == .free).map (·.1)).reverse
theorem cloFrom_caps (cells : List (Str × Addr)) : ∀ (names : List (Str × NameKind)) (acc : List (Str × Addr)), cloFrom cells names acc = (capNames names).map (fun n => (n, (cells.lookup n).getD 0)) ++ acc
  | [], acc => rfl
  | (n, k) :: r, acc => by
    unfold cloFrom
    by_cases e : (k == .free) = true
    · rw [if_pos e, cloFrom_caps cells r]
      unfold capNames
      rw [List.filter_cons_of_pos (by exact e), List.map_cons, List.reverse_cons, List.map_append, List.append_assoc]
      rfl
    · rw [if_neg e, cloFrom_caps cells r]
      unfold capNames
      rw [List.filter_cons_of_neg (by exact e)]
section
variable {X : Cx} {pins : List (Addr × Obj)} {σ : L2.St} {H : Hp} {s : Shared}
theorem fnG_ne {f : Addr} {n : Nf} {cs : List (Str × Addr)} {c : Addr} (ps : Array Value) : FnG f n cs c ≠ .tbl ps := fun z => by unfold FnG at z; cases z
theorem fnG_at {P : Program} {w : World} {h : Heap} {f : Addr} {n : Nf} {cs : List (Str × Addr)} {c : Addr} (hok : HOk P w H h) (e : H f = some (FnG f n cs c)) : ∃ (od : Option Addr) (sl : Array (Option Value)) (doc pm ct : Value), h.get? f = some (⟨.type "function", od, .func { name := n.name, qualname := n.qual, params := n.params, body := n.body, scope := n.scope, globals := mainGlobals, closure := cs, defaults := .none, kwdefaults := .none, doc := doc, pyModule := pm, annotations := none, code := .ref c, closureTuple := ct, builtins := builtinsNs }, sl⟩ : Obj) := by
  obtain ⟨z, _, _⟩ := hok f _ e
  exact z
/-- a new function's object is known -/
theorem inv_fnG {n : Nf} {cs : List (Str × Addr)} {c : Addr} {t' : Nat} {doc pm ct : Value} (I : Inv X pins σ H s) :
    Inv X pins σ (upd H s.heap.objs.size (FnG s.heap.objs.size n cs c)) { s with heap := s.heap.push { cls := .type "function", data := .func { name := n.name, qualname := n.qual, params := n.params, body := n.body, scope := n.scope, globals := mainGlobals, closure := cs, defaults := .none, kwdefaults := .none, doc := doc, pyModule := pm, annotations := none, code := .ref c, closureTuple := ct, builtins := builtinsNs } }, toks := t' } := by
  refine I.laid (fun b u e => Heap.get?_push_of_some _ e) (Nat.le_refl _) ⟨⟨_, _, doc, pm, ct, Heap.get?_push_size _ rfl⟩, ⟨_, Heap.get?_push_size _ rfl⟩, fun h1 h2 ⟨od, sl, d, p, t, z⟩ st => ⟨od, sl, d, p, t, st _ z⟩⟩
/-- lambda ..: its object, its code, the table -/
theorem lam_made {T : List NTab} {nm : Nat → Nat → Str} {c P : Addr} {params : Arguments} {body : Expr} {scope : Scope} {pos : Pos} {E : Value → Shared → Prop} {Q : Value → Shared → Prop} (I : Inv X pins σ H s) (TB : TabB X.base X.mg c P) (hcode : X.env.code = .ref c)
    (hm : (P, nm) ∈ T) (hn : nm pos.line pos.col = X.env.qual ++ "<lambda>") (hu : ∀ p ∈ T, p.1 = P → p.2 = nm) (hT : TabsN T H) (hdef : defaultsOf params X.env = ([], [])) (hfree : ∀ y ∈ scope.names, y.2 = .free → ∃ c, X.env.cells.lookup y.1 = some c)
    (h : ∀ (f c' : Addr) (H1 : Hp) (s' : Shared), Inv X pins σ H1 s' → ExtN H H1 → (∀ b, H1 b = Option.none → H b = Option.none) → TabsN T H1 → H f = none → H1 f = some (FnG f ⟨"<lambda>", X.env.qual ++ "<lambda>", params, .expr body, scope, capNames scope.names⟩ (cloFrom X.env.cells scope.names []) c') → H1 c' = some (CodeO c' (X.env.qual ++ "<lambda>")) → Q (.ref f) s') :
    wpAny (model X.prog X.w) X.A (eval (.Lambda params body scope pos) X.env) Q E s := by
  obtain ⟨ps, hP, ht, ha⟩ := (show TabN H P nm from hT _ hm)
  have bP : s.heap.BuiltinsAt X.mg P := TB.bm.keeps I.bk
  have hP' : s.heap.get? P = some { cls := .none, data := .fields ps } := I.hok P _ hP
  refine PySem.W.kla_eval hdef ?_
  cases hc : codeAmong pos ps.toList with
  | some cv =>
    obtain ⟨c', rfl, hco⟩ := ha pos cv hc
    rw [hn] at hco
    refine PySem.W.kla_makeFunctionHit (c := c) (closure_ok hfree) I.ok.glob (I.mod.glob.keeps I.bk) hcode (TB.code.keeps I.bk) hP' ht hc bP fun ct h' tk hx hsz => ?_
    have J : Inv X pins σ H { s with heap := h', toks := tk } := I.kept hx
    have nF : H h'.objs.size = none := J.hok.fresh (Nat.le_refl _)
    have up : ∀ {b o}, H b = some o → upd H h'.objs.size (FnG h'.objs.size ⟨"<lambda>", X.env.qual ++ "<lambda>", params, .expr body, scope, capNames scope.names⟩ (cloFrom X.env.cells scope.names []) c') b = some o := fun {b o} e => (upd_ne (ne_of_none e nF)).trans e
    exact h _ c' _ _ (inv_fnG (n := ⟨"<lambda>", X.env.qual ++ "<lambda>", params, .expr body, scope, capNames scope.names⟩) (t' := tk) J) (fun b o e _ => up e) (fun b e => NdefX.upd_none e) (hT.ext fun b o e => up e) nF upd_same (up hco)
  | none =>
    refine PySem.W.kla_makeFunction (c := c) (closure_ok hfree) I.ok.glob (I.mod.glob.keeps I.bk) hcode (TB.code.keeps I.bk) hP' ht hc TB.gP bP fun c' ct h' tk hx hge hlt hrec htb => ?_
    obtain ⟨_, oc, vs, t, e2, hoc, hd, hv⟩ := hrec
    cases e2
    have nC : H c' = none := I.hok.fresh hge
    have J1 := inv_table (t' := tk) (h' := h') I hP (fun b o hb e => hx b o hb e) htb hge ⟨oc, vs, t, hoc, hd, hv⟩
    have nF := J1.hok.fresh (Nat.le_refl _)
    have nF0 : H h'.objs.size = none := I.hok.fresh (Nat.le_trans hge (Nat.le_of_lt hlt))
    have e1 : ∀ {b o}, H b = some o → (∀ ps, o ≠ .tbl ps) → upd (upd H P (.tbl (ps ++ #[rawInt pos.line, rawInt pos.col, .ref c']))) c' (CodeO c' (X.env.qual ++ "<lambda>")) b = some o := fun {b o} e n => by
      rw [upd_ne (ne_of_none e nC), upd_ne fun z => ?_]
      · exact e
      · rw [z, hP] at e; exact n ps (Option.some.inj e).symm
    have T1 : TabsN T (upd (upd H P (.tbl (ps ++ #[rawInt pos.line, rawInt pos.col, .ref c']))) c' (CodeO c' (X.env.qual ++ "<lambda>"))) := fun p hp => by
      by_cases hb : p.1 = P
      · rw [hu p hp hb, hb]
        have eL : (ps ++ #[rawInt pos.line, rawInt pos.col, .ref c']).toList = ps.toList ++ [rawInt pos.line, rawInt pos.col, .ref c'] := by simp
        refine ⟨_, (upd_ne (ne_of_none hP nC)).trans upd_same, by rw [eL]; exact PySem.TriplesOk_snoc _ _ _ _ ht, fun p' cv hcv => ?_⟩
        rw [eL] at hcv
        rcases among_app2 _ ht hcv with z | ⟨z, z1, z2⟩
        · obtain ⟨c0, q1, q2⟩ := ha p' cv z
          exact ⟨c0, q1, e1 q2 codeO_ne⟩
        · exact ⟨c', z, by rw [← z1, ← z2, hn]; exact upd_same⟩
      · obtain ⟨ps', a1, a2, a3⟩ := hT p hp
        refine ⟨ps', (upd_ne (ne_of_none a1 nC)).trans ((upd_ne hb).trans a1), a2, fun p' cv hcv => ?_⟩
        obtain ⟨c0, q1, q2⟩ := a3 p' cv hcv
        exact ⟨c0, q1, e1 q2 codeO_ne⟩
    exact h _ c' _ _ (inv_fnG (n := ⟨"<lambda>", X.env.qual ++ "<lambda>", params, .expr body, scope, capNames scope.names⟩) (t' := tk) J1) (fun b o e n => (upd_ne (ne_of_none (e1 e n) nF)).trans (e1 e n)) (fun b e => NdefX.upd_none (NdefX.upd_none (NdefX.upd_none e)))
      (T1.ext fun b o e => (upd_ne (ne_of_none e nF)).trans e) nF0 upd_same ((upd_ne (Nat.ne_of_lt hlt)).trans upd_same)
end
section
variable {X : Cx} {F : Fr} {pos : Pos}
/-- the captured values -/
theorem caps_ok {w : Wd} {H : Hp} {env : Env} {σ : L2.St} (fk : FrOk X F) (es : EnvSim F.Y w H F.bad F.ce F.lk env σ) : ∀ {js : List Nat} {ns : List Str} {ds : List D}, js.map (fun j => X.N[j]?) = ns.map some → (∀ j ∈ js, j ∈ F.lk ∧ F.bad.map (·.i) ≠ some j) → js.map (fun j => env[j]?) = ds.map (fun d => some (some d)) →
    ∃ vs, Reps F.Y w H ds vs ∧ Paired (CelOk w H) (ns.map fun n => (X.env.cells.lookup n).getD 0) vs
  | [], [], [], _, _, _ => ⟨[], rfl, .nil⟩
  | [], [], _ :: _, _, _, e => by cases e
  | [], _ :: _, _, e, _, _ => by cases e
  | _ :: _, [], _, e, _, _ => by cases e
  | _ :: _, _ :: _, [], _, _, e => by cases e
  | j :: js, n :: ns, d :: ds, e1, hl, e2 => by
    rw [List.map_cons, List.map_cons] at e1 e2
    injection e1 with a1 a2
    injection e2 with b1 b2
    obtain ⟨vs, r1, r2⟩ := caps_ok fk es a2 (fun j hj => hl j (List.mem_cons_of_mem _ hj)) b2
    obtain ⟨hj, hb⟩ := hl j List.mem_cons_self
    obtain ⟨v, s1, s2⟩ := es.at_ j d b1 hb
    obtain ⟨c, c1, c2⟩ := es.cup j hj v s1
    obtain ⟨x, n1, n2, _⟩ := fk.cell j hj c c1
    rw [a1] at n1
    cases n1
    refine ⟨v :: vs, ⟨v, vs, rfl, s2, r1⟩, ?_⟩
    rw [List.map_cons, n2]
    exact .cons (.inl c2) r2
theorem caps_nodup (ok : X.Ok) : ∀ {ns : List Str}, ns.Nodup → (∀ n ∈ ns, ∃ c, X.env.cells.lookup n = some c) → (ns.map ((fun p : Str × Addr => p.2) ∘ fun n => (n, (X.env.cells.lookup n).getD 0))).Nodup
  | [], _, _ => List.nodup_nil
  | n :: ns, nd, h => by
    obtain ⟨n1, n2⟩ := List.nodup_cons.mp nd
    rw [List.map_cons]
    refine List.nodup_cons.mpr ⟨fun m => ?_, caps_nodup ok n2 fun x hx => h x (List.mem_cons_of_mem _ hx)⟩
    obtain ⟨x, hx, e⟩ := List.mem_map.mp m
    obtain ⟨c1, h1⟩ := h n List.mem_cons_self
    obtain ⟨c2, h2⟩ := h x (List.mem_cons_of_mem _ hx)
    have e : (X.env.cells.lookup x).getD 0 = (X.env.cells.lookup n).getD 0 := e
    rw [h1, h2] at e
    have e : c2 = c1 := e
    subst e
    exact n1 (ok.inj _ _ _ h1 h2 ▸ hx)
theorem ok_lam {i : Nat} {js : List Nat} {T : List NTab} {nm : Nat → Nat → Str} {c P : Addr} {params : Arguments} {body : Expr} {scope : Scope} (fk : FrOk X F) (TB : TabB X.base X.mg c P) (hcode : X.env.code = .ref c) (hm : (P, nm) ∈ T) (hn : nm pos.line pos.col = X.env.qual ++ "<lambda>") (hu : ∀ p ∈ T, p.1 = P → p.2 = nm)
    (ht : ∀ H, F.Y.tab H ↔ TabsN T H) (hdef : defaultsOf params X.env = ([], [])) (hfr : ∀ y ∈ scope.names, y.2 = .free → X.env.scope.names.lookup y.1 = some .cell ∨ X.env.scope.names.lookup y.1 = some .free)
    (hnf : F.Y.nf i = some ⟨"<lambda>", X.env.qual ++ "<lambda>", params, .expr body, scope, capNames scope.names⟩) (hjs : js.map (fun j => X.N[j]?) = (capNames scope.names).map some) (hnd : (capNames scope.names).Nodup) (hin : ∀ j ∈ js, j ∈ F.lk ∧ F.bad.map (·.i) ≠ some j) :
    PE X (.Lambda params body scope pos) (tE F (.lam i js)) := by
  refine ⟨fun pins s σ H Q I hh => ?_⟩
  obtain ⟨w, env, h, Qd, Xd, hs, es, ⟨ds, hd, q⟩, o, ox⟩ := hh
  have hfree : ∀ y ∈ scope.names, y.2 = .free → ∃ c, X.env.cells.lookup y.1 = some c := fun y hy e => (hfr y hy e).elim (fun z => I.ok.has _ (.inl z)) fun z => I.ok.has _ (.inr z)
  refine lam_made I TB hcode hm hn hu ((ht H).mp hs.tab) hdef hfree fun f c' H1 s' I1 eN nn T1 f0 f1 c1 => ?_
  have ev : Evo w H w H1 := Evo.same' eN
  have hs1 : HSim F.Y w H1 h := by
    refine ⟨hs.len, hs.nd, fun n a d e1 e2 => ?_, fun a m => ⟨(hs.av a m).1, ?_⟩, (ht H1).mpr T1⟩
    · obtain ⟨o, k, b⟩ := (hs.at_ n a d e1 e2).box
      exact (hs.at_ n a d e1 e2).mono ev ((eN a o k b.nt).trans k.symm)
    · obtain ⟨o, k, nc⟩ := (hs.av a m).2
      exact ⟨o, eN a o k nc.1, nc⟩
  have es1 := es.mono ev
  obtain ⟨vs, r1, r2⟩ := caps_ok fk es1 hjs hin hd
  have hcs := cloFrom_caps X.env.cells scope.names []
  rw [List.append_nil] at hcs
  refine ⟨.ref f, H1, I1, rfl, o w H1 (.ref f) (.clo i ds) h ev hs1 ⟨f, vs, rfl, ⟨_, _, c', hnf, f1, c1, ?_, ?_, ?_⟩, r1⟩ q⟩
  · rw [hcs, List.map_map]
    show List.map (fun n => n) _ = _
    rw [List.map_id']
  · rw [hcs, List.map_map]
    exact r2
  · rw [hcs, List.map_map]
    refine caps_nodup I1.ok hnd fun n hn => ?_
    obtain ⟨y, hy, e⟩ := List.mem_map.mp (List.mem_reverse.mp hn)
    obtain ⟨hy, e2⟩ := List.mem_filter.mp hy
    rw [← e]
    exact hfree y hy (by simpa using e2)
end
end Pv
end

section
set_option maxRecDepth 100000
set_option maxHeartbeats 4000000
namespace Pv
open PySem PySem.Spec PyProof.Rows L2
/-! ### what was made within is let go -/
section
variable {Y : At} {w : Wd} {H : Hp} {h : Hm}
theorem OutE.trunc {Q : QD} {Qv : VK} (s0 : HSim Y w H h) (o : OutE Y w H Q Qv) : OutE Y w H (fun d h' => Pv.trunc h.length h h' d Q) Qv := fun w' H' v d h' e s r ⟨c, d', q1, q2⟩ => by
  obtain ⟨t1, t2⟩ := s0.trunc s e c
  exact o _ _ v d' _ t2 t1 (Rep.reify s 4 q1 r) q2
theorem repF_vals : ∀ {fs : List (Nat × D)} {fv : List (Str × V)}, RepF Y w H fs fv → Reps Y w H (fs.map (·.2)) (fv.map (·.2))
  | [], fv, r => by cases (show fv = [] from r); rfl
  | (k, d) :: l, fv, r => by
    obtain ⟨v, t, rfl, h2, h3⟩ := r
    exact ⟨v, _, rfl, h2, repF_vals h3⟩
theorem repF_zip {w' : Wd} : ∀ {fs : List (Nat × D)} {fv : List (Str × V)} {l : List D}, RepF Y w H fs fv → Reps Y w' H l (fv.map (·.2)) → RepF Y w' H ((fs.map (·.1)).zip l) fv
  | [], fv, l, r, q => by cases (show fv = [] from r); rfl
  | (k, d) :: fs, fv, l, r, q => by
    obtain ⟨v, t, rfl, h2, h3⟩ := r
    cases l with
    | nil => cases (show _ = [] from q)
    | cons x l =>
      obtain ⟨u, t', e, q1, q2⟩ := q
      rw [List.map_cons] at e
      injection e with e1 e2
      subst e1
      rw [← e2] at q2
      exact ⟨_, t, rfl, q1, repF_zip h3 q2⟩
/-- reification of a tuple's items alone -/
theorem reify_tup (s : HSim Y w H h) {n : Nat} {f : Nat} {ds l : List D} {vs : List V} (e : reify n h f (.tup ds) = some (.tup l)) (r : Reps Y w H ds vs) : Reps Y (w.cutAt n) H l vs := by
  have key : ∀ (g : Nat → Option D), (∀ m d v, g m = some d → Rep Y w H (.ref m) v → Rep Y (w.cutAt n) H d v) → sub g (.tup ds) = some (.tup l) → Reps Y (w.cutAt n) H l vs := fun g hg e => by
    have e : (subs g ds).map D.tup = some (D.tup l) := e
    obtain ⟨l', e1, e2⟩ := Option.map_eq_some_iff.mp e
    injection e2 with e2
    subst e2
    exact Reps.sub hg e1 r
  cases f with
  | zero =>
    refine key _ (fun m d v q r => ?_) e
    split at q
    · cases q
      obtain ⟨a, e1, e2⟩ := r
      exact ⟨a, at_take (by assumption) e1, e2⟩
    · cases q
  | succ f =>
    refine key _ (fun m d v q r => ?_) e
    have := Rep.reify s (n := n) (f + 1) (d := .ref m) (d' := d) (v := v) q r
    exact this
theorem OutX.trunc {X : QX} {W : Value → Option Addr → Hp → Prop} (s0 : HSim Y w H h) (o : OutX Y w H X W) : OutX Y w H (fun e h' => Pv.trunc h.length h h' (.tup (e.fs.map (·.2))) fun d h2 => ∃ l, d = .tup l ∧ X ⟨e.c, (e.fs.map (·.1)).zip l⟩ h2) W := fun w' H' x cls dd h' e s r z => by
  obtain ⟨c, d', q1, l, rfl, q2⟩ := z
  obtain ⟨t1, t2⟩ := s0.trunc s e c
  refine o _ _ _ cls dd _ t2 t1 ?_ q2
  unfold RepX at r ⊢
  split
  · rename_i k z
    have z : x.c = .own k := z
    rw [z] at r
    refine ⟨r.1, r.2.imp (fun ⟨a, b⟩ => ⟨by show (x.fs.map (·.1)).zip l = []; rw [a]; rfl, b⟩) fun ⟨a, fv, r3, r4, r5⟩ => ⟨a, fv, r3, r4, ?_⟩⟩
    exact repF_zip r5 (reify_tup s q1 (repF_vals r5))
  · rename_i k z
    have z : x.c = .bi k := z
    rw [z] at r
    exact ⟨r.1, by show (x.fs.map (·.1)).zip l = []; rw [r.2]; rfl⟩
/-- a def's body -/
def BodyRes (Y : At) (w : Wd) (H : Hp) (P : Cls) (C : Calls) (f : Fn) (l : List D) (h : Hm) (Qv : VK) (W : XK) : Prop :=
  l.length = f.params ∧ ∃ (Q : QD) (X : QX), dSs P C f.body { nx := fun _ h' => Q .non h', rt := Q, ex := fun _ e h' => X e h' } (l.map some ++ List.replicate (f.slots - l.length) none) h ∧ OutE Y w H Q Qv ∧ OutX Y w H X W
theorem call_body {P : Cls} {Fs : Nat → Option Fn} {k i : Nat} {l : List D} {Q : QD} {X : QX} {Qv : VK} {W : XK} (s0 : HSim Y w H h) (hc : callAt P Fs (k + 1) i l h Q X) (o : OutE Y w H Q Qv) (ox : OutX Y w H X W) : ∃ f, Fs i = some f ∧ BodyRes Y w H P (callAt P Fs k) f l h Qv W := by
  obtain ⟨f, e, hc⟩ := hc
  refine ⟨f, e, ?_⟩
  by_cases ht : f.tr = true
  · rw [if_pos ht] at hc
    exact ⟨hc.1, _, _, hc.2, o.trunc s0, ox.trunc s0⟩
  · rw [if_neg ht] at hc
    exact ⟨hc.1, _, _, hc.2, o, ox⟩
end
end Pv
namespace Pv
open PySem PySem.Spec PyProof.Rows L2
/-! ### a def by its body -/
def F0 (Y : At) (P : Cls) (C : Calls) (E : XK) : Fr := { Y := Y, P := P, C := C, bad := none, ce := fun _ => none, lk := [], W := fun cls d _ H' => E cls d H' }
theorem F0.ok {X : Cx} {Y : At} {P : Cls} {C : Calls} {E : XK} (hK : X.K = Y.K) : FrOk X (F0 Y P C E) := ⟨hK, fun j hj => absurd hj (by simp [F0]), fun _ j hj => absurd hj (by simp [F0])⟩
section
variable {prog : Program} {wd : World} {K : PySem.W.Frag} {mg : Str → Option Value} {base : Heap} {Y : At} {P : Cls} {Fs : Nat → Option Fn}
theorem start_env {w : Wd} {H : Hp} {l : List D} {vs : List V} {N : List Str} {ce : Nat → Option Addr} {slots : Nat} (hs : slots = N.length) (r : Reps Y w H l vs) (hl : vs.length ≤ N.length) (hc : w.cl = []) : EnvSim Y w H none ce [] (l.map some ++ List.replicate (slots - l.length) none) (L2.start N vs) := by
  have e := r.length
  refine ⟨?_, fun i d h1 _ => ?_, fun b hb => (nomatch hb), fun c v m => (by rw [hc] at m; cases m), fun j hj => absurd hj (by simp)⟩
  · unfold L2.start
    simp only [List.length_append, List.length_map, List.length_replicate]
    omega
  · unfold L2.start
    by_cases hi : i < l.length
    · rw [List.getElem?_append_left (by rw [List.length_map]; exact hi), List.getElem?_map] at h1
      obtain ⟨d', e1, e2⟩ := Option.map_eq_some_iff.mp h1
      injection e2 with e2
      subst e2
      obtain ⟨v, hv, rv⟩ := r.get e1
      exact ⟨v, by rw [List.getElem?_append_left (by rw [List.length_map]; omega), List.getElem?_map, hv]; rfl, rv⟩
    · rw [List.getElem?_append_right (by rw [List.length_map]; omega), List.getElem?_replicate] at h1
      split at h1 <;> cases h1
theorem def_of {d k i : Nat} {fn : Fn} {f : Addr} {name qual : Str} {params : Arguments} {body : List Stmt} {scope : Scope} {dV kV doc pm cdv ct oc : Value} {an od : Option Addr} {osl : Array (Option Value)} {N ps : List Str}
    (lk : K.lookup f = some ⟨oc, od, .func (PySem.W.fnOf name qual params body scope dV kV doc pm an cdv ct), osl⟩) (hcd : PySem.W.codeIn K cdv qual = true) (S : FnScope N ps scope) (hF : Fs i = some fn) (hp : fn.params = ps.length) (hs : fn.slots = N.length)
    (hbody : ∀ (A : Around) (outer : List PySem.Env) (s : Shared) (H : Hp) (E : XK), Room k (A.deeper (envOfC qual scope s.heap.objs.size f cdv)) →
      PSs (cxOf (L2.CX prog wd) prog wd K mg base N qual scope f cdv A outer s H E) body (tSs (F0 Y P (callAt P Fs d) E) fn.body)) :
    FnOk prog wd K mg base (L2.CX prog wd) (k + 1) f (PySem.W.fnOf name qual params body scope dV kV doc pm an cdv ct) ps (spC Y (callAt P Fs (d + 1)) i) := by
  have hlen : ∀ vs H Q E, spC Y (callAt P Fs (d + 1)) i vs H Q E → vs.length = ps.length := fun vs H Q E ⟨w, h, l, Qd, Xd, _, _, r, c, _⟩ => by
    obtain ⟨f', e, c⟩ := c
    rw [hF] at e
    cases e
    have hl : l.length = fn.params := by split at c <;> exact c.1
    rw [← r.length, hl, hp]
  refine fn_of lk hcd S hlen fun A outer s H vs Q E hr hsp => ?_
  refine ⟨_, hbody A outer s H E hr, ?_⟩
  have hl := hlen _ _ _ _ hsp
  obtain ⟨w, h, l, Qd, Xd, hc, hsim, r, c, o, ox⟩ := hsp
  obtain ⟨f', e, hb⟩ := call_body hsim c o ox
  rw [hF] at e
  cases e
  obtain ⟨_, Q', X', hd, o', ox'⟩ := hb
  have hN : vs.length ≤ N.length := by
    have q := congrArg List.length S.pre
    rw [List.length_take] at q
    omega
  refine ⟨w, _, h, _, hsim, start_env hs r hN hc, hd, ⟨fun w' H' env' h' σ' e s' es q => o' w' H' .non .non h' e s' rfl q, fun w' H' v d h' e s' r q => o' w' H' v d h' e s' r q, fun _ _ _ _ _ _ _ _ q => q.elim, fun _ _ _ _ _ _ _ _ q => q.elim, fun w' H' env' h' σ' x cls dd e s' es r q => ox' w' H' x cls dd h' e s' r q⟩⟩
end
end Pv
end

section
set_option maxRecDepth 100000
set_option maxHeartbeats 4000000
namespace Pv
open PySem PySem.Spec PyProof.Rows L2 LamX NdefX
/-! ### a function made within a def, by its body -/
/-- what is told of the cells in C, put back -/
noncomputable def bk (C : List Addr) (U H' : Hp) : Hp := fun a => if a ∈ C then U a else H' a
theorem bk_in {C : List Addr} {U H' : Hp} {a : Addr} (h : a ∈ C) : bk C U H' a = U a := if_pos h
theorem bk_out {C : List Addr} {U H' : Hp} {a : Addr} (h : a ∉ C) : bk C U H' a = H' a := if_neg h
section
variable {P : Program} {w : World} {outer : List PySem.Env} {H U H' : Hp} {s s' : Shared} {C : List Addr} {h h' : Heap}
/-- they stand as they did -/
theorem hok_bk (hok : HOk P w H' h') (u : UpC C h H U) (k : ∀ b ∈ C, ∀ o, h.get? b = some o → h'.get? b = some o) (n : ∀ b ∈ C, H' b = none) : HOk P w (bk C U H') h' := fun a o e => by
  by_cases hb : a ∈ C
  · obtain ⟨_, o', y, e1, e2⟩ := u.cin a hb
    rw [bk_in hb, e2] at e
    cases e
    exact ⟨k a hb o' e1, ⟨_, k a hb o' e1⟩⟩
  · rw [bk_out hb] at e
    have ne : ∀ b o, H' b = some o → bk C U H' b = some o := fun b o q => by
      rw [bk_out]
      · exact q
      · intro m; rw [n b m] at q; cases q
    exact (hok a o e).stay (fun _ _ _ z => z) (fun b q => ne b _ q) (fun b xs q => ne b _ q)
theorem un_bk {fs : List Addr} (u : UpC C h H U) (un : Un fs [] H H' h h') (hn : ∀ b ∈ C, b ∉ fs) : Un fs [] U (bk C U H') h h' ∧ (∀ b ∈ C, ∀ o, h.get? b = some o → h'.get? b = some o) ∧ ∀ b ∈ C, H' b = none := by
  have k1 : ∀ b ∈ C, ∀ o, h.get? b = some o → h'.get? b = some o := fun b hb o e => un.keep b o e (u.cin b hb).1 (hn b hb) (by simp)
  have k2 : ∀ b ∈ C, H' b = none := fun b hb => by
    obtain ⟨n, o, _, e, _⟩ := u.cin b hb
    exact un.free b o e n (by simp)
  have out : ∀ b, U b = none → b ∉ C ∧ H b = none := fun b e => by
    have hb : b ∉ C := fun m => by obtain ⟨_, o, y, _, e2⟩ := u.cin b m; rw [e] at e2; cases e2
    exact ⟨hb, (u.out b hb).symm.trans e⟩
  refine ⟨⟨fun b o e n => un.keep b o e (out b n).2, fun b o e n => un.slot b o e (out b n).2, fun b o e n hx => by rw [bk_out (out b n).1]; exact un.free b o e (out b n).2 hx, un.there, fun b xs e => ?_, fun b o x e => ?_, fun b ps e => ?_⟩, k1, k2⟩
  · by_cases hb : b ∈ C
    · rw [bk_in hb]; exact e
    · rw [bk_out hb]; exact un.tups b xs ((u.out b hb).symm.trans e)
  · by_cases hb : b ∈ C
    · rw [bk_in hb]; exact e
    · rw [bk_out hb]; exact un.frzs b o x ((u.out b hb).symm.trans e)
  · by_cases hb : b ∈ C
    · rw [bk_in hb]; exact ⟨#[], by rw [e]; simp⟩
    · rw [bk_out hb]; exact un.tbls b ps ((u.out b hb).symm.trans e)
theorem ub_bk {fs : List Addr} {B : Heap} (u : UpC C h H U) (un : UB fs H H' h B h') (hn : ∀ b ∈ C, b ∉ fs) : UB fs U (bk C U H') h B h' ∧ (∀ b ∈ C, ∀ o, h.get? b = some o → B.get? b = some o) ∧ ∀ b ∈ C, H' b = none := by
  have k1 : ∀ b ∈ C, ∀ o, h.get? b = some o → B.get? b = some o := fun b hb o e => un.keep b o e (u.cin b hb).1 (hn b hb)
  have k2 : ∀ b ∈ C, H' b = none := fun b hb => by
    obtain ⟨n, o, _, e, _⟩ := u.cin b hb
    exact un.free b o e n
  have out : ∀ b, U b = none → b ∉ C ∧ H b = none := fun b e => by
    have hb : b ∉ C := fun m => by obtain ⟨_, o, y, _, e2⟩ := u.cin b m; rw [e] at e2; cases e2
    exact ⟨hb, (u.out b hb).symm.trans e⟩
  refine ⟨⟨fun b o e n => un.keep b o e (out b n).2, un.slot, fun b o e n => by rw [bk_out (out b n).1]; exact un.free b o e (out b n).2, un.there, fun b xs e => ?_, fun b o x e => ?_, fun b ps e => ?_⟩, k1, k2⟩
  · by_cases hb : b ∈ C
    · rw [bk_in hb]; exact e
    · rw [bk_out hb]; exact un.tups b xs ((u.out b hb).symm.trans e)
  · by_cases hb : b ∈ C
    · rw [bk_in hb]; exact e
    · rw [bk_out hb]; exact un.frzs b o x ((u.out b hb).symm.trans e)
  · by_cases hb : b ∈ C
    · rw [bk_in hb]; exact ⟨#[], by rw [e]; simp⟩
    · rw [bk_out hb]; exact un.tbls b ps ((u.out b hb).symm.trans e)
/-- a call without the cells, looked at with them -/
theorem cr_bk {Q : VK} {E : XK} {r : Result} (u : UpC C s.heap H U) (hn : ∀ b ∈ C, b ∉ frs outer)
    (c : CR (L2.CX P w) outer P w H s (fun v H' => (∀ b ∈ C, H' b = none) → Q v (bk C U H')) (fun c d H' => (∀ b ∈ C, H' b = none) → E c d (bk C U H')) r s') : CR (L2.CX P w) outer P w U s Q E r s' := by
  cases r with
  | error e =>
    obtain ⟨a, B, H', cls, d, h1, h2, hok, ub, h5, h6, h7, h8⟩ := c
    obtain ⟨g1, g2, g3⟩ := ub_bk u ub hn
    refine ⟨a, B, bk C U H', cls, d, h1, h2, hok_bk hok u g2 g3, g1, ?_, h6, h7, h8 g3⟩
    by_cases hb : a ∈ C
    · exfalso
      obtain ⟨_, o, y, e1, _⟩ := u.cin a hb
      have z := g2 a hb o e1
      rw [h2.2.1] at z
      cases z
    · rw [bk_out hb]; exact h5
  | ok fl =>
    cases fl with
    | ret v =>
      obtain ⟨x, H', h1, h2, un, hok, h3, h4⟩ := c
      obtain ⟨g1, g2, g3⟩ := un_bk u un hn
      exact ⟨x, bk C U H', h1, h2, g1, hok_bk hok u g2 g3, h3, h4 g3⟩
    | next => exact c
    | brk => exact c
    | cont => exact c
end
/-- a made function runs as its def says -/
def CloRun (prog : Program) (wd : World) (K : PySem.W.Frag) (mg : Str → Option Value) (base : Heap) (Y : At) (C : Calls) (k i : Nat) : Prop :=
  ∀ (n : Nf), Y.nf i = some n → ∀ (A : Around) (outer : List PySem.Env) (s : Shared) (H : Hp) (us : List Value) (vs : List V) (f c' : Addr) (cs : List (Str × Addr)) (w : Wd) (h : Hm) (l caps : List D) (cv : List V) (Q : VK) (E : XK) (Qd : QD) (Xd : QX),
    Room k A → Env0 prog wd K mg base A outer s H → H f = some (FnG f n cs c') → H c' = some (CodeO c' n.qual) → cs.map (·.1) = n.caps → (cs.map (·.2)).Nodup → w.cl = [] → Paired (CelOk w H) (cs.map (·.2)) cv → HSim Y w H h → Reps Y w H l vs → Reps Y w H caps cv → Vals vs us →
    C i (l ++ caps) h Qd Xd → OutE Y w H Qd Q → OutX Y w H Xd E → codeAny (model prog wd) A (.call (.ref f) ⟨us, []⟩) (CR (L2.CX prog wd) outer prog wd H s Q E) s
def nfOf (n : Nf) (cs : List (Str × Addr)) (c' : Addr) : NF := ⟨n.name, n.qual, n.params, [], n.scope, cs, c'⟩
/-- its frame -/
def F1 (Y : At) (P : Cls) (C : Calls) (E : XK) (m : Nat) (cs : List (Str × Addr)) : Fr := { Y := Y, P := P, C := C, bad := none, ce := fun j => if m ≤ j then (cs[j - m]?).map (·.2) else none, lk := (List.range cs.length).map (m + ·), W := fun cls d _ H' => E cls d H' }
theorem F1.lk {Y : At} {P : Cls} {C : Calls} {E : XK} {m : Nat} {cs : List (Str × Addr)} {j : Nat} : j ∈ (F1 Y P C E m cs).lk ↔ m ≤ j ∧ j - m < cs.length := by
  show j ∈ (List.range cs.length).map (m + ·) ↔ _
  rw [List.mem_map]
  constructor
  · rintro ⟨x, hx, rfl⟩
    rw [List.mem_range] at hx
    omega
  · rintro ⟨h1, h2⟩
    exact ⟨j - m, List.mem_range.mpr h2, by omega⟩
theorem F1.ce {Y : At} {P : Cls} {C : Calls} {E : XK} {m : Nat} {cs : List (Str × Addr)} {j : Nat} (h : m ≤ j) : (F1 Y P C E m cs).ce j = (cs[j - m]?).map (·.2) := by
  show (if m ≤ j then _ else _) = _
  rw [if_pos h]
section
variable {prog : Program} {wd : World} {K : PySem.W.Frag} {mg : Str → Option Value} {base : Heap} {Y : At} {P : Cls} {Fs : Nat → Option Fn} {N ps : List Str} {n : Nf}
theorem look_at : ∀ {cs : List (Str × Addr)} {i : Nat} {y : Str} {c : Addr}, (cs.map (·.1)).Nodup → cs[i]? = some (y, c) → cs.lookup y = some c
  | [], i, y, c, _, e => by simp at e
  | (x, a) :: cs, 0, y, c, _, e => by
    simp only [List.getElem?_cons_zero, Option.some.injEq, Prod.mk.injEq] at e
    rw [e.1, e.2]
    simp [List.lookup]
  | (x, a) :: cs, i + 1, y, c, nd, e => by
    rw [List.map_cons] at nd
    obtain ⟨n1, n2⟩ := List.nodup_cons.mp nd
    have e : cs[i]? = some (y, c) := e
    have hy : y ∈ cs.map (·.1) := List.mem_map.mpr ⟨(y, c), List.mem_of_getElem? e, rfl⟩
    rw [List.lookup_cons, show (y == x) = false from beq_eq_false_iff_ne.mpr fun z => n1 (by rw [← z]; exact hy)]
    exact look_at n2 e
theorem at_look {cs : List (Str × Addr)} {y : Str} {c : Addr} (h : cs.lookup y = some c) : ∃ i : Nat, cs[i]? = some (y, c) := by
  obtain ⟨i, e⟩ := List.mem_iff_getElem?.mp (PySem.mem_of_lookup h)
  exact ⟨i, e⟩
theorem clo_F1 {f c' : Addr} {A : Around} {outer : List PySem.Env} {s : Shared} {H H0 : Hp} {E E' : XK} {C : Calls} {cs : List (Str × Addr)} (hK : K = Y.K) (S : NScope N ps n.caps n.scope) (hcn : n.caps.Nodup) (hcs : cs.map (·.1) = n.caps) (e0 : Env0 prog wd K mg base A outer s H0) (hc : ∀ c ∈ cs.map (·.2), c < s.heap.objs.size ∧ H0 c ≠ none) :
    FrOk (ncx (L2.CX prog wd) prog wd K mg base N (nfOf n cs c') f A outer s H E) (F1 Y P C E' ps.length cs) := by
  have hl : cs.length = n.caps.length := by rw [← hcs, List.length_map]
  refine ⟨hK, fun j hj c e => ?_, fun _ j hj c e => ?_⟩
  · obtain ⟨h1, h2⟩ := F1.lk.mp hj
    rw [F1.ce h1] at e
    obtain ⟨⟨y, c2⟩, e1, e2⟩ := Option.map_eq_some_iff.mp e
    have e2 : c2 = c := e2
    subst e2
    have ey : n.caps[j - ps.length]? = some y := by rw [← hcs, List.getElem?_map, e1]; rfl
    have hN : N[j]? = some y := by
      have q : (N.take (ps.length + n.caps.length))[j]? = some y := by
        rw [S.pre, List.getElem?_append_right h1, ey]
      rw [List.getElem?_take_of_lt (by omega)] at q
      exact q
    have fk := S.frk y (List.mem_of_getElem? ey)
    exact ⟨y, hN, look_at (cs := cs) (by rw [hcs]; exact hcn) e1, .inr (.inr fk), .inr fk⟩
  · obtain ⟨h1, h2⟩ := F1.lk.mp hj
    rw [F1.ce h1] at e
    obtain ⟨⟨y, c2⟩, e1, e2⟩ := Option.map_eq_some_iff.mp e
    have e2 : c2 = c := e2
    subst e2
    obtain ⟨g1, g2⟩ := hc c2 (List.mem_map.mpr ⟨_, List.mem_of_getElem? e1, rfl⟩)
    refine ⟨?_, fun m => ?_⟩
    · cases z : base.get? c2 with
      | none => exact z
      | some o => exact absurd (e0.bs _ _ z).2 g2
    · have m : c2 ∈ frs (envF (nfOf n cs c') f s.heap.objs.size :: outer) := m
      have q : frs (envF (nfOf n cs c') f s.heap.objs.size :: outer) = s.heap.objs.size :: frs outer := rfl
      rw [q] at m
      rcases List.mem_cons.mp m with rfl | m
      · exact Nat.lt_irrefl _ g1
      · exact g2 (e0.frf _ m)
theorem relV_right {v : V} {u u' : Value} {o : Obj} (a : o.data = .cell (some u)) (b : o.data = .cell (some u')) : u = u' := by
  rw [a] at b
  injection b with b
  injection b
/-- what the cells tell, at the entry -/
theorem clo_in {A : Around} {outer : List PySem.Env} {s : Shared} {H : Hp} {cs : List (Str × Addr)} {w : Wd} {h : Hm} {l caps : List D} {vs cv : List V} (e0 : Env0 prog wd K mg base A outer s H) (S : NScope N ps n.caps n.scope) (hcn : n.caps.Nodup) (hcs : cs.map (·.1) = n.caps) (hnd : (cs.map (·.2)).Nodup) (hcl : w.cl = []) (hp : Paired (CelOk w H) (cs.map (·.2)) cv)
    (hs : HSim Y w H h) (r : Reps Y w H l vs) (rc : Reps Y w H caps cv) (hl : vs.length = ps.length) :
    UpC (cs.map (·.2)) s.heap (dn (cs.map (·.2)) H) H ∧ CellsAt cs n.caps (cv.map some) s.heap (dn (cs.map (·.2)) H) ∧ HSim Y ⟨w.ph, w.av, (cs.map (·.2)).zip cv⟩ (dn (cs.map (·.2)) H) h ∧ Mv w H ⟨w.ph, w.av, (cs.map (·.2)).zip cv⟩ (dn (cs.map (·.2)) H) ∧
    EnvSim Y ⟨w.ph, w.av, (cs.map (·.2)).zip cv⟩ (dn (cs.map (·.2)) H) none (F1 Y P (callAt P Fs 0) (fun _ _ _ => False) ps.length cs).ce (F1 Y P (callAt P Fs 0) (fun _ _ _ => False) ps.length cs).lk ((l ++ caps).map some ++ List.replicate (N.length - (l ++ caps).length) none) (startF N vs (cv.map some)) := by
  have hlc : cs.length = n.caps.length := by rw [← hcs, List.length_map]
  have hcv : cv.length = cs.length := by have := Paired.length hp; rw [List.length_map] at this; exact this.symm
  -- each cell
  have cell : ∀ (i : Nat) (y : Str) (c : Addr), cs[i]? = some (y, c) → ∃ v o u z, cv[i]? = some v ∧ H c = some (.frz o (.own z)) ∧ s.heap.get? c = some o ∧ o.data = .cell (some u) ∧ L2.RelV v u := fun i y c e => by
    have e2 : (cs.map (·.2))[i]? = some c := by rw [List.getElem?_map, e]; rfl
    obtain ⟨v, hv, k⟩ := paired_get hp e2
    rcases k with m | ⟨o, u, z, k1, k2, k3⟩
    · rw [hcl] at m; cases m
    · exact ⟨v, o, u, z, hv, k1, (e0.hok c _ k1).1, k2, k3⟩
  have mem : ∀ c ∈ cs.map (·.2), ∃ (i : Nat) (y : Str), cs[i]? = some (y, c) := fun c m => by
    obtain ⟨⟨y, c'⟩, m', rfl⟩ := List.mem_map.mp m
    obtain ⟨i, e⟩ := List.mem_iff_getElem?.mp m'
    exact ⟨i, y, e⟩
  have up : UpC (cs.map (·.2)) s.heap (dn (cs.map (·.2)) H) H := ⟨fun b hb => by
    obtain ⟨i, y, e⟩ := mem b hb
    obtain ⟨v, o, u, z, _, k1, k2, _⟩ := cell i y b e
    exact ⟨dn_in hb, o, z, k2, k1⟩, fun b hb => (dn_out hb).symm⟩
  have cells : CellsAt cs n.caps (cv.map some) s.heap (dn (cs.map (·.2)) H) := by
    refine ⟨by rw [List.length_map, hcv, hlc], fun y c e => ?_, fun x y c e1 e2 => ?_, fun i y e => ?_⟩
    · obtain ⟨i, e⟩ := at_look e
      obtain ⟨v, o, u, z, _, k1, k2, k3, _⟩ := cell i y c e
      exact ⟨dn_in (List.mem_map.mpr ⟨_, List.mem_of_getElem? e, rfl⟩), some u, o, k2, k3⟩
    · obtain ⟨i, e1⟩ := at_look e1
      obtain ⟨j, e2⟩ := at_look e2
      have z : i = j := nodup_get hnd (x := c) (by rw [List.getElem?_map, e1]; rfl) (by rw [List.getElem?_map, e2]; rfl)
      subst z
      rw [e1] at e2
      injection e2 with e2
      injection e2
    · rw [← hcs, List.getElem?_map] at e
      obtain ⟨⟨y', c⟩, e1, e2⟩ := Option.map_eq_some_iff.mp e
      have e2 : y' = y := e2
      subst e2
      obtain ⟨v, o, u, z, hv, k1, k2, k3, k4⟩ := cell i y' c e1
      refine ⟨c, look_at (by rw [hcs]; exact hcn) e1, fun v' e3 => ?_⟩
      rw [List.getElem?_map, hv] at e3
      cases e3
      exact ⟨u, k4, o, k2, k3⟩
  have inz : ∀ (i : Nat) (y : Str) (c : Addr) (v : V), cs[i]? = some (y, c) → cv[i]? = some v → (c, v) ∈ (cs.map (·.2)).zip cv := fun i y c v e1 e2 => by
    refine List.mem_of_getElem? (i := i) ?_
    rw [List.getElem?_zip_eq_some]
    exact ⟨by rw [List.getElem?_map, e1]; rfl, e2⟩
  have mv : Mv w H ⟨w.ph, w.av, (cs.map (·.2)).zip cv⟩ (dn (cs.map (·.2)) H) := by
    refine ⟨rfl, rfl, fun a o e ne => ?_, fun c v k => ?_⟩
    · rw [dn_out]
      · exact e
      · intro m
        obtain ⟨i, y, e1⟩ := mem a m
        obtain ⟨v, o', u, z, _, k1, _⟩ := cell i y a e1
        rw [e] at k1
        cases k1
        exact ne _ _ rfl
    · rcases k with m | ⟨o, u, z, k1, k2, k3⟩
      · rw [hcl] at m; cases m
      · by_cases m : c ∈ cs.map (·.2)
        · obtain ⟨i, y, e1⟩ := mem c m
          obtain ⟨v', o', u', z', hv, g1, g2, g3, g4⟩ := cell i y c e1
          rw [k1] at g1
          cases g1
          have := relV_right (v := v) k2 g3
          subst this
          have := relV_left k3 g4
          subst this
          exact .inl (inz i y c _ e1 hv)
        · exact .inr ⟨o, u, z, (dn_out m).trans k1, k2, k3⟩
  have tabs : Y.tab (dn (cs.map (·.2)) H) := by
    refine Y.tabK H _ (fun b p e => ?_) (fun b p e => ?_) hs.tab
    · exact mv.keep b _ e (fun _ _ z => nomatch z)
    · exact mv.keep b _ e (fun _ _ z => nomatch z)
  have hs2 : HSim Y ⟨w.ph, w.av, (cs.map (·.2)).zip cv⟩ (dn (cs.map (·.2)) H) h := hs.mv mv (fun a m => by
    obtain ⟨o, e, nc⟩ := (hs.av a m).2
    refine ⟨o, mv.keep a o e nc.2, nc⟩) tabs
  refine ⟨up, cells, hs2, mv, ?_⟩
  have rl := r.length
  have rcl := rc.length
  have both : Reps Y ⟨w.ph, w.av, (cs.map (·.2)).zip cv⟩ (dn (cs.map (·.2)) H) (l ++ caps) (vs ++ cv) := (r.mv mv).append (rc.mv mv)
  have hN : vs.length + cv.length ≤ N.length := by
    have q := congrArg List.length S.pre
    rw [List.length_take, List.length_append] at q
    omega
  have hst : startF N vs (cv.map some) = (vs ++ cv).map some ++ List.replicate (N.length - vs.length - cv.length) none := by
    unfold startF
    rw [List.map_append, List.append_assoc, List.length_map]
  have sget : ∀ i, i < cv.length → (startF N vs (cv.map some))[ps.length + i]? = some (cv[i]?) := fun i hi => by
    rw [hst, List.getElem?_append_left (by rw [List.length_map, List.length_append]; omega), List.getElem?_map, List.getElem?_append_right (by omega), show ps.length + i - vs.length = i by omega]
    cases e : cv[i]? with
    | some v => rfl
    | none => rw [List.getElem?_eq_none_iff] at e; omega
  refine ⟨?_, fun i d h1 _ => ?_, fun b hb => (nomatch hb), fun c v m => ?_, fun j hj v e => ?_⟩
  · rw [hst]
    simp only [List.length_append, List.length_map, List.length_replicate]
    omega
  · rw [hst]
    by_cases hi : i < (l ++ caps).length
    · rw [List.getElem?_append_left (by rw [List.length_map]; exact hi), List.getElem?_map] at h1
      obtain ⟨d', e1, e2⟩ := Option.map_eq_some_iff.mp h1
      injection e2 with e2
      subst e2
      obtain ⟨v, hv, rv⟩ := both.get e1
      exact ⟨v, by rw [List.getElem?_append_left (by rw [List.length_map]; have := both.length; omega), List.getElem?_map, hv]; rfl, rv⟩
    · rw [List.getElem?_append_right (by rw [List.length_map]; omega), List.getElem?_replicate] at h1
      split at h1 <;> cases h1
  · obtain ⟨i, e⟩ := List.mem_iff_getElem?.mp m
    obtain ⟨e1, e2⟩ := List.getElem?_zip_eq_some.mp e
    have hi := (List.getElem?_eq_some_iff.mp e2).1
    refine ⟨ps.length + i, F1.lk.mpr ⟨by omega, by omega⟩, ?_, ?_⟩
    · rw [F1.ce (by omega), show ps.length + i - ps.length = i by omega, ← List.getElem?_map]
      exact e1
    · rw [sget i hi, e2]
  · obtain ⟨h1, h2⟩ := F1.lk.mp hj
    obtain ⟨⟨y, c⟩, e1⟩ : ∃ p, cs[j - ps.length]? = some p := ⟨_, List.getElem?_eq_getElem h2⟩
    have z := sget (j - ps.length) (by omega)
    rw [show ps.length + (j - ps.length) = j by omega, e] at z
    injection z with z
    exact ⟨c, by rw [F1.ce h1, e1]; rfl, inz _ y c v e1 z.symm⟩
/-- the way back out of its body -/
theorem bk_back {H H' : Hp} {w w' : Wd} {h' : Hm} {C : List Addr} {cv : List V} (hcl : w.cl = []) (hp : Paired (CelOk w H) C cv) (hz : ∀ b ∈ C, H' b = none) (e : Evo ⟨w.ph, w.av, C.zip cv⟩ (dn C H) w' H') (s' : HSim Y w' H' h') :
    Evo w H ⟨w'.ph, w'.av, []⟩ (bk C H H') ∧ HSim Y ⟨w'.ph, w'.av, []⟩ (bk C H H') h' ∧ Mv w' H' ⟨w'.ph, w'.av, []⟩ (bk C H H') := by
  have ot : ∀ a o, H' a = some o → a ∉ C := fun a o q m => by rw [hz a m] at q; cases q
  have mv : Mv w' H' ⟨w'.ph, w'.av, []⟩ (bk C H H') := by
    refine ⟨rfl, rfl, fun a o q _ => (bk_out (ot a o q)).trans q, fun c v k => ?_⟩
    rcases k with m | ⟨o, u, y, k1, k2, k3⟩
    · rw [show w'.cl = C.zip cv from e.cl] at m
      obtain ⟨i, q⟩ := List.mem_iff_getElem?.mp m
      obtain ⟨q1, q2⟩ := List.getElem?_zip_eq_some.mp q
      obtain ⟨v', hv, k⟩ := paired_get hp q1
      rw [q2] at hv
      cases hv
      rcases k with m | ⟨o, u, y, k1, k2, k3⟩
      · rw [hcl] at m; cases m
      · exact .inr ⟨o, u, y, (bk_in (List.mem_of_getElem? q1)).trans k1, k2, k3⟩
    · exact .inr ⟨o, u, y, (bk_out (ot _ _ k1)).trans k1, k2, k3⟩
  refine ⟨⟨e.pre, e.av, hcl.symm, fun a o ha q n => ?_, fun a p q => ?_, fun a u q t => ?_, fun a o y q => ?_, fun a fv q => ?_, fun a ha np o q n => ?_⟩, s'.mv mv (fun a m => ?_) (Y.tabK H' _ (fun b p q => mv.keep b _ q (fun _ _ z => nomatch z)) (fun b p q => mv.keep b _ q (fun _ _ z => nomatch z)) s'.tab), mv⟩
  · by_cases m : a ∈ C
    · refine ⟨fun z => ?_, o, (bk_in m).trans q, .inl rfl⟩
      obtain ⟨u, k, _⟩ := s'.box z
      exact ot a u k m
    · obtain ⟨h1, o', h2, h3⟩ := e.keep a o ha ((dn_out m).trans q) n
      exact ⟨h1, o', (bk_out m).trans h2, h3⟩
  · by_cases m : a ∈ C
    · exact (bk_in m).trans q
    · exact (bk_out m).trans (e.ext a p ((dn_out m).trans q))
  · by_cases m : a ∈ C
    · exact (bk_in m).trans q
    · exact (bk_out m).trans (e.tup a u ((dn_out m).trans q) t)
  · by_cases m : a ∈ C
    · exact (bk_in m).trans q
    · exact (bk_out m).trans (e.fzo a o y ((dn_out m).trans q))
  · by_cases m : a ∈ C
    · exact (bk_in m).trans q
    · exact (bk_out m).trans (e.xdk a fv ((dn_out m).trans q))
  · by_cases m : a ∈ C
    · exact (bk_in m).trans q
    · exact (bk_out m).trans (e.avk a ha np o ((dn_out m).trans q) n)
  · obtain ⟨o, q, nc⟩ := (s'.av a m).2
    exact ⟨o, mv.keep a o q nc.2, nc⟩
/-- what is asked of it, asked of its body -/
theorem clo_ask {A : Around} {outer : List PySem.Env} {s : Shared} {H : Hp} {cs : List (Str × Addr)} {w : Wd} {h : Hm} {l caps : List D} {vs cv : List V} {Q : VK} {E : XK} {Qd : QD} {Xd : QX} {d i : Nat} {fn : Fn} (e0 : Env0 prog wd K mg base A outer s H) (S : NScope N ps n.caps n.scope) (hcn : n.caps.Nodup) (hcs : cs.map (·.1) = n.caps) (hnd : (cs.map (·.2)).Nodup) (hcl : w.cl = []) (hp : Paired (CelOk w H) (cs.map (·.2)) cv)
    (hs : HSim Y w H h) (r : Reps Y w H l vs) (rc : Reps Y w H caps cv) (hF : Fs i = some fn) (hpar : fn.params = ps.length + n.caps.length) (hsl : fn.slots = N.length) (hd : callAt P Fs (d + 1) i (l ++ caps) h Qd Xd) (o : OutE Y w H Qd Q) (ox : OutX Y w H Xd E) :
    vs.length = ps.length ∧ UpC (cs.map (·.2)) s.heap (dn (cs.map (·.2)) H) H ∧ CellsAt cs n.caps (cv.map some) s.heap (dn (cs.map (·.2)) H) ∧
    ∃ (Q' : QD) (X' : QX), HSim Y ⟨w.ph, w.av, (cs.map (·.2)).zip cv⟩ (dn (cs.map (·.2)) H) h ∧
      EnvSim Y ⟨w.ph, w.av, (cs.map (·.2)).zip cv⟩ (dn (cs.map (·.2)) H) none (F1 Y P (callAt P Fs d) E ps.length cs).ce (F1 Y P (callAt P Fs d) E ps.length cs).lk ((l ++ caps).map some ++ List.replicate (fn.slots - (l ++ caps).length) none) (startF N vs (cv.map some)) ∧
      dSs P (callAt P Fs d) fn.body { nx := fun _ h' => Q' .non h', rt := Q', ex := fun _ e h' => X' e h' } ((l ++ caps).map some ++ List.replicate (fn.slots - (l ++ caps).length) none) h ∧
      OutE Y ⟨w.ph, w.av, (cs.map (·.2)).zip cv⟩ (dn (cs.map (·.2)) H) Q' (fun v H' => (∀ b ∈ cs.map (·.2), H' b = none) → Q v (bk (cs.map (·.2)) H H')) ∧
      OutX Y ⟨w.ph, w.av, (cs.map (·.2)).zip cv⟩ (dn (cs.map (·.2)) H) X' (fun c d H' => (∀ b ∈ cs.map (·.2), H' b = none) → E c d (bk (cs.map (·.2)) H H')) := by
  have hl : vs.length = ps.length := by
    obtain ⟨f', e, c⟩ := id hd
    rw [hF] at e
    cases e
    have z : (l ++ caps).length = fn.params := by split at c <;> exact c.1
    have q1 := rc.length
    have q2 := Paired.length hp
    have q3 := congrArg List.length hcs
    rw [List.length_map] at q2 q3
    rw [List.length_append, hpar] at z
    rw [← r.length]
    omega
  obtain ⟨g1, g2, g3, mv, g4⟩ := clo_in (P := P) (Fs := Fs) e0 S hcn hcs hnd hcl hp hs r rc hl
  have o1 : OutE Y ⟨w.ph, w.av, (cs.map (·.2)).zip cv⟩ (dn (cs.map (·.2)) H) Qd (fun v H' => (∀ b ∈ cs.map (·.2), H' b = none) → Q v (bk (cs.map (·.2)) H H')) := fun w' H' v d h' e s' r q hz => by
    obtain ⟨z1, z2, z3⟩ := bk_back hcl hp hz e s'
    exact o _ _ v d h' z1 z2 (r.mv z3) q
  have o2 : OutX Y ⟨w.ph, w.av, (cs.map (·.2)).zip cv⟩ (dn (cs.map (·.2)) H) Xd (fun c d H' => (∀ b ∈ cs.map (·.2), H' b = none) → E c d (bk (cs.map (·.2)) H H')) := fun w' H' x cls dd h' e s' r q hz => by
    obtain ⟨z1, z2, z3⟩ := bk_back hcl hp hz e s'
    exact ox _ _ x cls dd h' z1 z2 (repX_mv z3 r) q
  obtain ⟨f', e, hb⟩ := call_body g3 hd o1 o2
  rw [hF] at e
  cases e
  obtain ⟨_, Q', X', k1, k2, k3⟩ := hb
  exact ⟨hl, g1, g2, Q', X', g3, by rw [hsl]; exact g4, k1, k2, k3⟩
/-- its data, its cells named -/
abbrev fdOf (n : Nf) (cs : List (Str × Addr)) (c' : Addr) (doc pm ct : Value) : FuncData := { name := n.name, qualname := n.qual, params := n.params, body := n.body, scope := n.scope, globals := mainGlobals, closure := cs, defaults := .none, kwdefaults := .none, doc := doc, pyModule := pm, annotations := none, code := .ref c', closureTuple := ct, builtins := builtinsNs }
theorem clo_env {d : Nat} {A : Around} {outer : List PySem.Env} {s : Shared} {H : Hp} {cs : List (Str × Addr)} {f c' : Addr} (hK : K = Y.K) (S : NScope N ps n.caps n.scope) (hcn : n.caps.Nodup) (hcs : cs.map (·.1) = n.caps) (e0 : Env0 prog wd K mg base A outer s H) (g1 : UpC (cs.map (·.2)) s.heap (dn (cs.map (·.2)) H) H) (E : XK) :
    Env0 prog wd K mg base A outer s (dn (cs.map (·.2)) H) ∧ (∀ b ∈ cs.map (·.2), b ∉ frs outer) ∧ ∀ (H0 : Hp) (E0 E1 : XK), FrOk (ncx (L2.CX prog wd) prog wd K mg base N (nfOf n cs c') f A outer s H0 E0) (F1 Y P (callAt P Fs d) E1 ps.length cs) := by
  have has : ∀ b ∈ cs.map (·.2), ∃ o y, s.heap.get? b = some o ∧ H b = some (.frz o (.own y)) := fun b hb => by
    obtain ⟨_, o, y, z1, z2⟩ := g1.cin b hb
    exact ⟨o, y, z1, z2⟩
  refine ⟨⟨e0.frames, e0.mod, fun b o e => ⟨(e0.bs b o e).1, ?_⟩, e0.bsz, e0.funs, fun b m => ?_, hok_dn e0.hok fun b hb => ?_, e0.bare⟩, fun b hb m => ?_, fun H0 E0 E1 => clo_F1 hK S hcn hcs e0 fun c hc => ?_⟩
  · unfold dn
    split
    · rfl
    · exact (e0.bs b o e).2
  · unfold dn
    split
    · rfl
    · exact e0.frf b m
  · obtain ⟨o, y, _, z⟩ := has b hb
    exact ⟨o, y, z⟩
  · obtain ⟨o, y, _, z⟩ := has b hb
    rw [e0.frf b m] at z
    cases z
  · obtain ⟨o, y, z1, z2⟩ := has c hc
    exact ⟨Heap.lt_size z1, by rw [z2]; exact fun z => nomatch z⟩
/-- THE RULE: a made def by its body -/
theorem clo_of {d k i : Nat} {fn : Fn} {body : List Stmt} (hK : K = Y.K) (hn : Y.nf i = some n) (hb0 : n.body = .stmts body) (S : NScope N ps n.caps n.scope) (hcn : n.caps.Nodup) (hF : Fs i = some fn) (hp : fn.params = ps.length + n.caps.length) (hsl : fn.slots = N.length)
    (hb : ∀ (cs : List (Str × Addr)) (c' : Addr) (doc pm ct : Value) (us : List Value), us.length = ps.length → bindArgs (fdOf n cs c' doc pm ct) ⟨us, []⟩ = pure (ps.zip us))
    (hbody : ∀ (A : Around) (outer : List PySem.Env) (s : Shared) (H : Hp) (E : XK) (cs : List (Str × Addr)) (c' f : Addr), cs.map (·.1) = n.caps → FrOk (ncx (L2.CX prog wd) prog wd K mg base N (nfOf n cs c') f A outer s H E) (F1 Y P (callAt P Fs d) E ps.length cs) → Room k (A.deeper (envF (nfOf n cs c') f s.heap.objs.size)) →
      PSs (ncx (L2.CX prog wd) prog wd K mg base N (nfOf n cs c') f A outer s H E) body (tSs (F1 Y P (callAt P Fs d) E ps.length cs) fn.body)) :
    CloRun prog wd K mg base Y (callAt P Fs (d + 1)) (k + 1) i := fun n' hn' A outer s H us vs f c' cs w h l caps cv Q E Qd Xd hr e0 hf hc hcs hnd hcl hpr hs r rc rv hd o ox => by
  rw [hn] at hn'
  cases hn'
  obtain ⟨hl, g1, g2, Q', X', k1, k2, k3, k4, k5⟩ := clo_ask e0 S hcn hcs hnd hcl hpr hs r rc hF hp hsl hd o ox
  obtain ⟨e1, nfr, fk⟩ := clo_env (P := P) (Fs := Fs) (n := n) (cs := cs) (c' := c') (f := f) (d := d) hK S hcn hcs e0 g1 E
  have lim : s.heap.NoLimit := e0.mod.nolimit.keeps fun b o e => (e0.bs b o e).1
  obtain ⟨od, sl, doc, pm, ctv, ho⟩ := fnG_at e0.hok hf
  refine codeAny_mono (R := CR (L2.CX prog wd) outer prog wd (dn (cs.map (·.2)) H) s (fun v H' => (∀ b ∈ cs.map (·.2), H' b = none) → Q v (bk (cs.map (·.2)) H H')) (fun c d H' => (∀ b ∈ cs.map (·.2), H' b = none) → E c d (bk (cs.map (·.2)) H H'))) ?_ fun r s' c => cr_bk g1 nfr c
  refine codeAny_call_function hr.depth ho rfl S.co S.gen hb0 (codeO_at e0.hok hc) ?_
  rw [hb cs c' doc pm ctv us (by rw [← rv.length]; exact hl)]
  refine wpAny_pure (wpAny_newFunctionEnv S.nocell (fun ⟨n, _⟩ hy => S.par n (List.of_mem_zip hy).1) (fun h₁ hns hsb => ⟨lim.fresh _ hsb, ?_⟩) S.kind)
  show codeAny _ _ (.func body (envF (nfOf n cs c') f s.heap.objs.size)) _ _
  refine codeAny_func ?_
  have kp : ∀ b o, s.heap.get? b = some o → h₁.get? b = some o := fun b o e => hsb.extBut b o (Nat.ne_of_lt (Heap.lt_size e)) (Heap.get?_push_of_some _ e)
  have I := inv_startN (CX := L2.CX prog wd) (F := nfOf n cs c') (f := f) (E := fun c d H' => (∀ b ∈ cs.map (·.2), H' b = none) → E c d (bk (cs.map (·.2)) H H')) (tk := s.toks + (ps.zip us).length) S hr.hd e1 hl rv g2 hns kp
  have ht := hbody A outer s (dn (cs.map (·.2)) H) (fun c d H' => (∀ b ∈ cs.map (·.2), H' b = none) → E c d (bk (cs.map (·.2)) H H')) cs c' f hcs (fk _ _ _) (hr.deeper _)
  refine wpAny_mono (ht.run [] _ (startF N vs (cv.map some)) (dn (cs.map (·.2)) H) ⟨fun _ H' => (∀ b ∈ cs.map (·.2), H' b = none) → Q .non (bk (cs.map (·.2)) H H'), fun v H' => (∀ b ∈ cs.map (·.2), H' b = none) → Q v (bk (cs.map (·.2)) H H'), fun _ _ => False, fun _ _ => False⟩ I ?_) (fun fl s' hs => ?_) fun e s' hs => hs
  · exact ⟨_, _, h, _, k1, k2, k3, ⟨fun w' H' env' h' σ' e s' es q => k4 w' H' .non .non h' e s' rfl q, fun w' H' v d h' e s' r q => k4 w' H' v d h' e s' r q, fun _ _ _ _ _ _ _ _ q => q.elim, fun _ _ _ _ _ _ _ _ q => q.elim, fun w' H' env' h' σ' x cls dd e s' es r q => k5 w' H' x cls dd h' e s' r q⟩⟩
  · cases fl with
    | ret u =>
      obtain ⟨v, σ', H', J, rv, q⟩ := hs
      exact ⟨v, H', J.os, J.bare, J.base, J.hok, rv, q⟩
    | next =>
      obtain ⟨σ', H', J, q⟩ := hs
      exact ⟨V.non, H', J.os, J.bare, J.base, J.hok, rfl, q⟩
    | brk =>
      obtain ⟨_, _, _, q⟩ := hs
      exact False.elim q
    | cont =>
      obtain ⟨_, _, _, q⟩ := hs
      exact False.elim q
/-- .. a lambda's -/
theorem lam_of {d k i slots params : Nat} {ee : E} {tr : Bool} {body : Expr} (hK : K = Y.K) (hn : Y.nf i = some n) (hb0 : n.body = .expr body) (S : NScope N ps n.caps n.scope) (hcn : n.caps.Nodup) (hF : Fs i = some ⟨slots, params, tr, .cons (.ret ee) .nil⟩) (hp : params = ps.length + n.caps.length) (hsl : slots = N.length)
    (hb : ∀ (cs : List (Str × Addr)) (c' : Addr) (doc pm ct : Value) (us : List Value), us.length = ps.length → bindArgs (fdOf n cs c' doc pm ct) ⟨us, []⟩ = pure (ps.zip us))
    (hbody : ∀ (A : Around) (outer : List PySem.Env) (s : Shared) (H : Hp) (E : XK) (cs : List (Str × Addr)) (c' f : Addr), cs.map (·.1) = n.caps → FrOk (ncx (L2.CX prog wd) prog wd K mg base N (nfOf n cs c') f A outer s H E) (F1 Y P (callAt P Fs d) E ps.length cs) → Room k (A.deeper (envF (nfOf n cs c') f s.heap.objs.size)) →
      PE (ncx (L2.CX prog wd) prog wd K mg base N (nfOf n cs c') f A outer s H E) body (tE (F1 Y P (callAt P Fs d) E ps.length cs) ee)) :
    CloRun prog wd K mg base Y (callAt P Fs (d + 1)) (k + 1) i := fun n' hn' A outer s H us vs f c' cs w h l caps cv Q E Qd Xd hr e0 hf hc hcs hnd hcl hpr hs r rc rv hd o ox => by
  rw [hn] at hn'
  cases hn'
  obtain ⟨hl, g1, g2, Q', X', k1, k2, k3, k4, k5⟩ := clo_ask e0 S hcn hcs hnd hcl hpr hs r rc hF hp hsl hd o ox
  obtain ⟨e1, nfr, fk⟩ := clo_env (P := P) (Fs := Fs) (n := n) (cs := cs) (c' := c') (f := f) (d := d) hK S hcn hcs e0 g1 E
  have lim : s.heap.NoLimit := e0.mod.nolimit.keeps fun b o e => (e0.bs b o e).1
  obtain ⟨od, sl, doc, pm, ctv, ho⟩ := fnG_at e0.hok hf
  refine codeAny_mono (R := CR (L2.CX prog wd) outer prog wd (dn (cs.map (·.2)) H) s (fun v H' => (∀ b ∈ cs.map (·.2), H' b = none) → Q v (bk (cs.map (·.2)) H H')) (fun c d H' => (∀ b ∈ cs.map (·.2), H' b = none) → E c d (bk (cs.map (·.2)) H H'))) ?_ fun r s' c => cr_bk g1 nfr c
  refine PySem.W.kla_callFunE hr.depth ho rfl S.co S.gen hb0 (codeO_at e0.hok hc) ?_
  rw [hb cs c' doc pm ctv us (by rw [← rv.length]; exact hl)]
  refine wpAny_pure (wpAny_newFunctionEnv S.nocell (fun ⟨n, _⟩ hy => S.par n (List.of_mem_zip hy).1) (fun h₁ hns hsb => ⟨lim.fresh _ hsb, ?_⟩) S.kind)
  show codeAny _ _ (.expr body (envF (nfOf n cs c') f s.heap.objs.size)) _ _
  have kp : ∀ b o, s.heap.get? b = some o → h₁.get? b = some o := fun b o e => hsb.extBut b o (Nat.ne_of_lt (Heap.lt_size e)) (Heap.get?_push_of_some _ e)
  have I := inv_startN (CX := L2.CX prog wd) (F := nfOf n cs c') (f := f) (E := fun c d H' => (∀ b ∈ cs.map (·.2), H' b = none) → E c d (bk (cs.map (·.2)) H H')) (tk := s.toks + (ps.zip us).length) S hr.hd e1 hl rv g2 hns kp
  have ht := hbody A outer s (dn (cs.map (·.2)) H) (fun c d H' => (∀ b ∈ cs.map (·.2), H' b = none) → E c d (bk (cs.map (·.2)) H H')) cs c' f hcs (fk _ _ _) (hr.deeper _)
  refine PySem.W.kla_codeExpr (wpAny_mono (ht.run [] _ (startF N vs (cv.map some)) (dn (cs.map (·.2)) H) (fun v H' => (∀ b ∈ cs.map (·.2), H' b = none) → Q v (bk (cs.map (·.2)) H H')) I ?_) (fun v s' hq => ?_) fun e s' hq => hq)
  · exact ⟨_, _, h, _, _, k1, k2, k3, k4, k5⟩
  · obtain ⟨w', H', J', rv, q⟩ := hq
    exact ⟨w', H', J'.os, J'.bare, J'.base, J'.hok, rv, q⟩
end
end Pv
end

section
set_option maxRecDepth 100000
set_option maxHeartbeats 4000000
namespace Pv
open PySem PySem.Spec PyProof.Rows L2 LamX NdefX
/-! ### calls of what an expression gives -/
/-- every def of the table may be called, and every made one -/
structure CallsOk (X : Cx) (Y : At) (C : Calls) : Prop where
  def_ : ∀ i l h Q E, Y.nf i = none → C i l h Q E → DefOk X Y C i
  kp : ∀ i, Y.nf i = none → PySem.W.keepIn X.K (.ref (Y.fa i)) = true
  clo : ∀ i n, Y.nf i = some n → ∃ k, CloRun X.prog X.w X.K X.mg X.base Y C k i ∧ Room k X.A
section
variable {X : Cx} {F : Fr} {a e : Expr} {es : List Expr} {ea ee : E} {ees : Es} {pos : Pos}
theorem clo_go {i : Nat} {pins : List (Addr × Obj)} {σ : L2.St} {H : Hp} {s : Shared} {w : Wd} {env : Env} {h : Hm} {l caps : List D} {vs : List V} {us : List Value} {Qd : QD} {Xd : QX} {Q : VK} {f : Addr} (fk : FrOk X F) (co : CallsOk X F.Y F.C) (tk : Takes X F.W) (I : Inv X pins σ H s) (r : Vals vs us)
    (hs : HSim F.Y w H h) (ev : EnvSim F.Y w H F.bad F.ce F.lk env σ) (rs : Reps F.Y w H l vs) (rc : Rep F.Y w H (.clo i caps) (.ref f)) (hc : F.C i (l ++ caps) h Qd Xd) (o : OutE F.Y w H Qd Q) (ox : OutX F.Y w H Xd fun c d H' => F.W c d σ H') : wpAny (model X.prog X.w) X.A (call (.ref f) us) (EP X pins σ Q) X.xe s := by
  have u := fk.upC I ev
  have mv := fk.mv_up I ev
  obtain ⟨f', cv, e1, kc, rcv⟩ := Rep.mv mv rc
  cases e1
  obtain ⟨n, cs, c', hn, hf, hc', hnm, hp, hnd⟩ := kc
  obtain ⟨k, run, hr⟩ := co.clo i n hn
  refine wpAny_call (codeAny_mono (run n hn X.A X.stack s _ us vs f c' cs w.bare h l caps cv (fun v H' => Q v (dn (cells w) H')) (fun c d H' => F.W c d σ (dn (cells w) H')) Qd Xd hr (fk.env0 I ev) hf hc' hnm hnd rfl hp (fk.hsim_up I ev hs) (rs.mv mv) rcv r hc (fun w' H' v d h' e t r q => ?_) (fun w' H' x c dd h' e t r q => ?_)) fun r s' hq => ?_)
  · obtain ⟨e', t', m⟩ := fk.back I ev hs e t
    exact o _ _ v d h' e' t' (r.mv m) q
  · obtain ⟨e', t', m⟩ := fk.back I ev hs e t
    exact ox _ _ x c dd h' e' t' (repX_mv m r) q
  · have hq := cr_dn (Q := Q) (E := fun c d H' => F.W c d σ H') u (fun b hb hb' => by
      obtain ⟨⟨c, v⟩, m, rfl⟩ := List.mem_map.mp hb'
      exact (fk.up I ev c v m).2.2.1 hb) hq
    cases r with
    | error e => exact passAt tk σ pins H s e s' I hq
    | ok fl =>
      cases fl with
      | ret u => exact I.after hq
      | next => exact False.elim hq
      | brk => exact False.elim hq
      | cont => exact False.elim hq
theorem clo_at {w : Wd} {H : Hp} {pins : List (Addr × Obj)} {σ : L2.St} {s : Shared} {i : Nat} {caps : List D} {f : Addr} (I : Inv X pins σ H s) (r : Rep F.Y w H (.clo i caps) (.ref f)) : PySem.W.FnAt f s.heap := by
  obtain ⟨f', cv, e1, ⟨n, cs, c', hn, hf, _⟩, rcv⟩ := r
  cases e1
  obtain ⟨od, sl, doc, pm, ctv, ho⟩ := fnG_at I.hok hf
  exact ⟨_, od, _, sl, ho⟩
/-- f(..) -/
theorem ok_callv (fk : FrOk X F) (co : CallsOk X F.Y F.C) (tk : Takes X F.W) (ho : PE X a (tE F ea)) (ha : PA X (e :: es) (tEs F ees))
    (hst : starEach (e :: es) X.env = (false, eval e X.env) :: starEach es X.env) (hpl : (backTo pos (starEach es X.env)).any (·.1) = false)
    (ht : eval (.Call a (e :: es) [] pos) X.env = (do callWith pos (← eval a X.env) [] (backTo pos (starEach (e :: es) X.env)) (backToKw pos (keywordEach [] X.env)))) : PE X (.Call a (e :: es) [] pos) (tE F (.callv ea ees)) := by
  refine ⟨fun pins s σ H Q I hh => ?_⟩
  obtain ⟨w, env, h, Qd, Xd, hs, ev, hd, o, ox⟩ := hh
  rw [ht]
  refine wpAny_bind (thn (ho.run pins s σ H (fun x H1 => ∃ w1 h1 d1, Evo w H w1 H1 ∧ HSim F.Y w1 H1 h1 ∧ Rep F.Y w1 H1 d1 x ∧ (match d1 with
      | .fn i => dEs F.P F.C ees env h1 (fun l h2 => F.C i l h2 Qd Xd) Xd
      | .clo i caps => dEs F.P F.C ees env h1 (fun l h2 => F.C i (l ++ caps) h2 Qd Xd) Xd
      | _ => False)) I
    ⟨w, env, h, _, Xd, hs, ev, hd, fun w1 H1 v1 d1 h1 e1 s1 r1 q1 => ⟨w1, h1, d1, e1, s1, r1, q1⟩, ox⟩) fun u s1 ⟨x, H1, I1, rx, w1, h1, d1, e1, t1, r1, q1⟩ => ?_)
  cases d1 with
  | fn i =>
    obtain ⟨rfl, hn⟩ := r1
    obtain rfl : u = Value.ref (F.Y.fa i) := rx
    · refine PySem.W.callWith_K (first := []) (h₀ := X.base) I.ok.mod.kin (co.kp i hn) (thn (ha.run pos pins s1 σ H1 (fun vs H2 => ∃ w2 h2 l, Evo w1 H1 w2 H2 ∧ HSim F.Y w2 H2 h2 ∧ Reps F.Y w2 H2 l vs ∧ F.C i l h2 Qd Xd) I1
        ⟨w1, env, h1, _, Xd, t1, ev.mono e1, q1, fun w2 H2 vs l h2 e2 s2 r2 q2 => ⟨w2, h2, l, e2, s2, r2, q2⟩, ox.evo e1⟩) fun us s2 ⟨vs, H2, I2, r, w2, h2, l, e2, t2, r2, q2⟩ => ⟨I2.kIn, ?_⟩) hst hpl
      exact call_go fk (co.def_ i _ _ _ _ hn q2) tk I2 r t2 ((ev.mono e1).mono e2) r2 q2 (o.evo (e1.trans e2)) (ox.evo (e1.trans e2))
  | clo i caps =>
    obtain ⟨f, cv, e3, r3⟩ := id r1
    subst e3
    obtain rfl : u = Value.ref f := rx
    refine PySem.W.callWith_F (first := []) (clo_at I1 r1) (thn (ha.run pos pins s1 σ H1 (fun vs H2 => ∃ w2 h2 l, Evo w1 H1 w2 H2 ∧ HSim F.Y w2 H2 h2 ∧ Reps F.Y w2 H2 l vs ∧ F.C i (l ++ caps) h2 Qd Xd) I1
      ⟨w1, env, h1, _, Xd, t1, ev.mono e1, q1, fun w2 H2 vs l h2 e2 s2 r2 q2 => ⟨w2, h2, l, e2, s2, r2, q2⟩, ox.evo e1⟩) fun us s2 ⟨vs, H2, I2, r, w2, h2, l, e2, t2, r2, q2⟩ => ⟨clo_at I2 (r1.mono e2), ?_⟩) hst hpl
    exact clo_go fk co tk I2 r t2 ((ev.mono e1).mono e2) r2 (r1.mono e2) q2 (o.evo (e1.trans e2)) (ox.evo (e1.trans e2))
  | _ => exact q1.elim
/-- f() -/
theorem ok_callv0 (fk : FrOk X F) (co : CallsOk X F.Y F.C) (tk : Takes X F.W) (ho : PE X a (tE F ea))
    (ht : eval (.Call a [] [] pos) X.env = (do callWith pos (← eval a X.env) [] (backTo pos (starEach [] X.env)) (backToKw pos (keywordEach [] X.env)))) : PE X (.Call a [] [] pos) (tE F (.callv ea .nil)) := by
  refine ⟨fun pins s σ H Q I hh => ?_⟩
  obtain ⟨w, env, h, Qd, Xd, hs, ev, hd, o, ox⟩ := hh
  rw [ht]
  refine wpAny_bind (thn (ho.run pins s σ H (fun x H1 => ∃ w1 h1 d1, Evo w H w1 H1 ∧ HSim F.Y w1 H1 h1 ∧ Rep F.Y w1 H1 d1 x ∧ (match d1 with
      | .fn i => F.C i [] h1 Qd Xd
      | .clo i caps => F.C i ([] ++ caps) h1 Qd Xd
      | _ => False)) I
    ⟨w, env, h, _, Xd, hs, ev, hd, fun w1 H1 v1 d1 h1 e1 s1 r1 q1 => ⟨w1, h1, d1, e1, s1, r1, by cases d1 <;> exact q1⟩, ox⟩) fun u s1 ⟨x, H1, I1, rx, w1, h1, d1, e1, t1, r1, q1⟩ => ?_)
  cases d1 with
  | fn i =>
    obtain ⟨rfl, hn⟩ := r1
    obtain rfl : u = Value.ref (F.Y.fa i) := rx
    have d := co.def_ i _ _ _ _ hn q1
    exact PySem.W.callWith_K0 (first := []) I1.kIn d.kp (call_go (us := []) (vs := []) fk d tk I1 .nil t1 (ev.mono e1) (show Reps F.Y w1 H1 [] [] from rfl) q1 (o.evo e1) (ox.evo e1))
  | clo i caps =>
    obtain ⟨f, cv, e3, r3⟩ := id r1
    subst e3
    obtain rfl : u = Value.ref f := rx
    exact PySem.W.callWith_F0 (first := []) (clo_at I1 r1) (clo_go (us := []) (vs := []) fk co tk I1 .nil t1 (ev.mono e1) (show Reps F.Y w1 H1 [] [] from rfl) r1 q1 (o.evo e1) (ox.evo e1))
  | _ => exact q1.elim
end
end Pv
end

section
set_option maxRecDepth 100000
set_option maxHeartbeats 4000000
namespace Pv
open PySem PySem.Spec PyProof.Rows L2
/-! ### a stretch of a body within which cells are told -/
theorem wp_app {M : Model} {Γ : PySem.Ctx} {env : PySem.Env} {b : List Stmt} {E : Value → Pos → Shared → Prop} {Q : Flow → Pos → Shared → Prop} : ∀ (a : List Stmt) (p : Pos) (s : Shared),
    Sem.wp M Γ (execs a env) (fun f p' s' => match f with | .next => Sem.wp M Γ (execs b env) Q E p' s' | f => Q f p' s') E p s → Sem.wp M Γ (execs (a ++ b) env) Q E p s
  | [], p, s, h => h
  | st :: a, p, s, h => by
    rw [execs_cons, Sem.wp_bind'] at h
    show Sem.wp M Γ (execs (st :: (a ++ b)) env) Q E p s
    rw [execs_cons, Sem.wp_bind']
    refine Sem.wp_mono M Γ _ (fun f p' s' h' => ?_) (fun _ _ _ h' => h') _ _ h
    cases f with
    | next => exact wp_app a p' s' h'
    | _ => exact h'
section
variable {X : Cx} {F : Fr} {sts rest : List Stmt} {b ss : Ss} {js : List Nat}
theorem pss_app {t u : TS} (h1 : PSs X sts t) (h2 : PSs X rest u) : PSs X (sts ++ rest) (tSeq t u) := by
  refine ⟨fun pins s σ H D I h => ?_⟩
  have g := h1.run pins s σ H { D with nx := u D } I h
  intro Γ p hΓ
  refine wp_app _ _ _ (Sem.wp_mono _ _ _ (fun f p' s' q => ?_) (fun _ _ _ q => q) _ _ (g Γ p hΓ))
  cases f with
  | next =>
    obtain ⟨σ', H', I', q⟩ := q
    exact h2.run pins s' σ' H' D I' q Γ p' hΓ
  | _ => exact q
/-- the frame with its cells told -/
def Fr.told (F : Fr) (X : Cx) (js : List Nat) : Fr := { F with lk := js, ce := fun j => (X.N[j]?).bind fun x => X.env.cells.lookup x }
def toldQ (ce : Nat → Option Addr) (σ : L2.St) (js : List Nat) : List (Addr × V) := js.filterMap fun j => match ce j, σ[j]? with
  | some c, some (some v) => some (c, v)
  | _, _ => none
theorem mem_told {ce : Nat → Option Addr} {σ : L2.St} {c : Addr} {v : V} : (c, v) ∈ toldQ ce σ js ↔ ∃ j ∈ js, ce j = some c ∧ σ[j]? = some (some v) := by
  unfold toldQ
  rw [List.mem_filterMap]
  constructor
  · rintro ⟨j, hj, e⟩
    refine ⟨j, hj, ?_⟩
    split at e
    · rename_i h1 h2
      cases e
      exact ⟨h1, h2⟩
    · cases e
  · rintro ⟨j, hj, h1, h2⟩
    exact ⟨j, hj, by rw [h1, h2]⟩
theorem OutS.trunc {w : Wd} {H : Hp} {h : Hm} {DD : Pv.Ends} {DL : L2.Ends} {js : List Nat} {ce : Nat → Option Addr} {q : List (Addr × V)} {n2 : L2.St → Hp → Prop} {m2 : Env → Hm → Prop} (hlk : F.lk = []) (hbad : F.bad = none) (hcl : w.cl = []) (s0 : HSim F.Y w H h)
    (hn : ∀ w' H' env' h' σ', Evo w H w' H' → HSim F.Y w' H' h' → EnvSim F.Y w' H' F.bad F.ce F.lk env' σ' → m2 env' h' → n2 σ' H') (o : ∃ m, OutS F w H { DD with nx := m } DL) :
    OutS { F with lk := js, ce := ce } ⟨w.ph, w.av, q⟩ H { nx := fun v' h' => truncV h.length h h' v' m2, rt := fun d h' => truncC h.length h h' d DD.rt, bk := fun v' h' => truncV h.length h h' v' DD.bk, ct := fun v' h' => truncV h.length h h' v' DD.ct, ex := fun v' e h' => truncX h.length h h' e (DD.ex (cutE h.length v')) } { DL with nx := n2 } := by
  obtain ⟨m, o⟩ := o
  have hq : ∀ p ∈ w.cl, p ∈ q := by rw [hcl]; simp
  have cutA : ∀ {w' : Wd} {H' : Hp} {env' : Env} {σ' : L2.St} {n : Nat}, EnvSim F.Y w' H' F.bad ce js env' σ' → EnvSim F.Y ⟨w'.ph.take n, w'.av, w.cl⟩ H' F.bad F.ce F.lk (cutE n env') σ' := fun {w' H' env' σ' n} es => by
    refine ⟨by unfold cutE; rw [List.length_map]; exact es.len, fun i d h1 h2 => ?_, fun b hb => (by rw [hbad] at hb; cases hb), fun c v m => (by rw [hcl] at m; cases m), fun j hj => (by rw [hlk] at hj; cases hj)⟩
    unfold cutE at h1
    rw [List.getElem?_map] at h1
    obtain ⟨o, e1, e2⟩ := Option.map_eq_some_iff.mp h1
    cases o with
    | none => cases e2
    | some d' =>
      have e2 : (if frz n d' && noClo d' then some d' else none) = some d := e2
      split at e2
      · cases e2
        rename_i hc
        obtain ⟨c1, c2⟩ := Bool.and_eq_true_iff.mp hc
        obtain ⟨v, e3, r⟩ := es.at_ i d e1 h2
        exact ⟨v, e3, (r.cut c1).anyCl (w := w'.cutAt n) c2⟩
      · cases e2
  have rei : ∀ {w' : Wd} {H' : Hp} {h' : Hm} {n : Nat} {d d' : D} {v : V}, HSim F.Y w' H' h' → reify n h' 4 d = some d' → noClo d' = true → Rep F.Y w' H' d v → Rep F.Y ⟨w'.ph.take n, w'.av, w.cl⟩ H' d' v := fun {w' H' h' n d d' v} s' q1 q2 r => (Rep.reify s' 4 q1 r).anyCl (w := w'.cutAt n) q2
  refine ⟨fun w' H' env' h' σ' e s' es z => ?_, fun w' H' v d h' e s' r z => ?_, fun w' H' env' h' σ' e s' es z => ?_, fun w' H' env' h' σ' e s' es z => ?_, fun w' H' env' h' σ' x cls dd e s' es r z => ?_⟩
  · obtain ⟨c, z⟩ := z
    obtain ⟨t1, t2⟩ := s0.truncC hq s' e c
    exact hn _ _ _ _ _ t2 t1 (cutA es) z
  · obtain ⟨c, d', q1, q2, z⟩ := z
    obtain ⟨t1, t2⟩ := s0.truncC hq s' e c
    exact o.rt _ _ _ _ _ t2 t1 (rei s' q1 q2 r) z
  · obtain ⟨c, z⟩ := z
    obtain ⟨t1, t2⟩ := s0.truncC hq s' e c
    exact o.bk _ _ _ _ _ t2 t1 (cutA es) z
  · obtain ⟨c, z⟩ := z
    obtain ⟨t1, t2⟩ := s0.truncC hq s' e c
    exact o.ct _ _ _ _ _ t2 t1 (cutA es) z
  · obtain ⟨c, d', q1, q2, l, rfl, z⟩ := z
    obtain ⟨t1, t2⟩ := s0.truncC hq s' e c
    refine o.ex _ _ _ _ _ _ _ _ t2 t1 (cutA es) ?_ z
    unfold RepX at r ⊢
    split
    · rename_i k y
      have y : x.c = .own k := y
      rw [y] at r
      refine ⟨r.1, r.2.imp (fun ⟨a, b⟩ => ⟨by show (x.fs.map (·.1)).zip l = []; rw [a]; rfl, b⟩) fun ⟨a, fv, r3, r4, r5⟩ => ⟨a, fv, r3, r4, ?_⟩⟩
      exact repF_zip r5 ((reify_tup s' q1 (repF_vals r5)).anyCl (w := w'.cutAt h.length) q2)
    · rename_i k y
      have y : x.c = .bi k := y
      rw [y] at r
      exact ⟨r.1, by show (x.fs.map (·.1)).zip l = []; rw [r.2]; rfl⟩
theorem ok_blk (hlk : F.lk = []) (hbad : F.bad = none) (hj : ∀ j ∈ js, ∃ x, X.N[j]? = some x ∧ (X.env.kindOf x = some .cell ∨ X.env.kindOf x = some .free)) (hb : PSs X sts (tSs (F.told X js) b)) (hr : PSs X rest (tSs F ss)) : PSs X (sts ++ rest) (tSs F (.cons (.blk js b) ss)) := by
  refine ⟨fun pins s σ H D I z => ?_⟩
  obtain ⟨w, env, h, DD, hs, es, hd, o⟩ := z
  refine (pss_app hb hr).run pins s σ H D I ?_
  have hcl : w.cl = [] := by
    cases e : w.cl with
    | nil => rfl
    | cons p l =>
      obtain ⟨j, hj, _⟩ := es.cin p.1 p.2 (by rw [e]; exact List.mem_cons_self)
      rw [hlk] at hj
      cases hj
  let ce : Nat → Option Addr := fun j => (X.N[j]?).bind fun x => X.env.cells.lookup x
  have hq : ∀ p ∈ w.cl, p ∈ toldQ ce σ js := by rw [hcl]; simp
  have es1 : EnvSim F.Y ⟨w.ph, w.av, toldQ ce σ js⟩ H F.bad ce js env σ := by
    refine ⟨es.len, fun i d h1 h2 => ?_, fun b hb => (by rw [hbad] at hb; cases hb), fun c v m => mem_told.mp m, fun j hm v e => ?_⟩
    · obtain ⟨v, e, r⟩ := es.at_ i d h1 h2
      exact ⟨v, e, r.mv (Mv.more hq)⟩
    · obtain ⟨x, e1, e2⟩ := hj j hm
      obtain ⟨c, e3⟩ := I.ok.has x e2
      have e4 : ce j = some c := by show (X.N[j]?).bind _ = _; rw [e1]; exact e3
      exact ⟨c, e4, mem_told.mpr ⟨j, hm, e4, e⟩⟩
  refine ⟨⟨w.ph, w.av, toldQ ce σ js⟩, env, h, _, hs.moreCl hq hs.tab, es1, hd, ?_⟩
  exact OutS.trunc (n2 := tSs F ss D) (m2 := fun v' h' => dSs F.P F.C ss DD v' h') hlk hbad hcl hs (fun w' H' env' h' σ' e s' es q => ⟨w', env', h', DD, s', es, q, o.evo e⟩) ⟨DD.nx, o⟩
end
section
variable {prog : Program} {wd : World} {K : PySem.W.Frag} {mg : Str → Option Value} {base : Heap} {Y : At} {P : Cls}
theorem cf_ge : ∀ {names : List (Str × NameKind)} {n : Nat} {acc : List (Str × Addr)} {m : Nat} {x : Str} {c : Addr}, m ≤ n → (∀ p ∈ acc, m ≤ p.2) → (x, c) ∈ cellsFrom n names acc → m ≤ c
  | [], n, acc, m, x, c, _, h, e => h (x, c) e
  | (y, k) :: r, n, acc, m, x, c, hn, h, e => by
    unfold cellsFrom at e
    split at e
    · refine cf_ge (Nat.le_succ_of_le hn) (fun p hp => ?_) e
      rcases List.mem_cons.mp hp with rfl | hp
      · exact hn
      · exact h p hp
    · exact cf_ge hn h e
theorem fr_lt {h b : Heap} : ∀ {l : List PySem.Env} {a : Addr}, h.FunFrames b l → a ∈ frs l → a < h.objs.size
  | [], a, _, m => absurd m (by simp [frs])
  | env :: r, a, g, m => by
    obtain ⟨_, ⟨L, o, e1, _, e2, _⟩, g⟩ := g
    have m : a ∈ (env :: r).filterMap (·.frame) := m
    rw [List.filterMap_cons, e1] at m
    rcases List.mem_cons.mp m with rfl | m
    · exact Heap.lt_size e2
    · exact fr_lt g m
/-- a def's frame, its cells told -/
theorem told_ok {C : Calls} {E E' : XK} {N : List Str} {qual : Str} {scope : Scope} {f : Addr} {cdv : Value} {A : Around} {outer : List PySem.Env} {s : Shared} {H : Hp} {js : List Nat} (hK : K = Y.K) (hj : ∀ j ∈ js, ∃ x, N[j]? = some x ∧ scope.names.lookup x = some .cell) :
    FrOk (cxOf (L2.CX prog wd) prog wd K mg base N qual scope f cdv A outer s H E) ((F0 Y P C E').told (cxOf (L2.CX prog wd) prog wd K mg base N qual scope f cdv A outer s H E) js) := by
  refine ⟨hK, fun j hm c e => ?_, fun ok j hm c e => ?_⟩
  · obtain ⟨x, e1, e2⟩ := hj j hm
    have e : (N[j]?).bind (fun x => (cellsFrom (s.heap.objs.size + 1) scope.names []).lookup x) = some c := e
    rw [e1] at e
    exact ⟨x, e1, e, .inr (.inl e2), .inl e2⟩
  · obtain ⟨x, e1, e2⟩ := hj j hm
    have e : (N[j]?).bind (fun x => (cellsFrom (s.heap.objs.size + 1) scope.names []).lookup x) = some c := e
    rw [e1] at e
    have ge : s.heap.objs.size + 1 ≤ c := cf_ge (Nat.le_refl _) (fun _ z => absurd z (by simp)) (PySem.mem_of_lookup e)
    have bsz : base.objs.size ≤ s.heap.objs.size := ok.bsz
    refine ⟨?_, fun m => ?_⟩
    · show base.get? c = none
      cases z : base.get? c with
      | none => rfl
      | some o =>
        have q : c < base.objs.size := Heap.lt_size z
        have q2 : c < s.heap.objs.size := Nat.lt_of_lt_of_le q bsz
        exact absurd ge (Nat.not_le.mpr (Nat.lt_succ_of_lt q2))
    · have m : c ∈ frs (envOfC qual scope s.heap.objs.size f cdv :: outer) := m
      have q : frs (envOfC qual scope s.heap.objs.size f cdv :: outer) = s.heap.objs.size :: frs outer := rfl
      rw [q] at m
      rcases List.mem_cons.mp m with rfl | m
      · exact absurd ge (Nat.not_succ_le_self _)
      · exact absurd (fr_lt ok.funs m) (Nat.not_lt.mpr (Nat.le_of_succ_le ge))
end
end Pv
end

section
set_option maxRecDepth 100000
set_option maxHeartbeats 4000000
namespace Pv
open PySem PySem.Spec PyProof.Rows L2
/-! ### a program's table; what a text may lean on -/
/-- the program: where its defs stand, its classes, names of the builtins it uses, constants -/
structure Tb where
  fns : List (Str × Option Str)
  cls : List Str
  flds : List Str
  free : List Str
  iv : List (Str × Int)
  sv : List (Str × List Nat)
  mks : List (Nat × Nat)
  eqs : List (Nat × Nat)
  mts : List (Nat × Str × Nat)
  er0 : List Nat
  er1 : List (Nat × Nat)
  used : Pv.Cl → Bool
  P : Pv.Cls
/-- what stands fast of the program -/
structure Facts (T : Tb) (K : PySem.W.Frag) (mg : Str → Option Value) (Y : At) : Prop where
  hK : K = Y.K
  gfn : ∀ (i : Nat) (x : Str), T.fns[i]? = some (x, none) → mg x = some (.ref (Y.fa i)) ∧ (x == ("__debug__" : Str)) = false
  gcl : ∀ (c : Nat) (x : Str), T.cls[c]? = some x → mg x = some (.ref (Y.ca c)) ∧ (x == ("__debug__" : Str)) = false
  gno : ∀ (i : Nat) (x : Str), T.free[i]? = some x → mg x = none ∧ (x == ("__debug__" : Str)) = false ∧ x ≠ "__name__"
  gint : ∀ (i : Nat) (x : Str) (n : Int), T.iv[i]? = some (x, n) → (∃ t, mg x = some (.int n t)) ∧ (x == ("__debug__" : Str)) = false
  gstr : ∀ (i : Nat) (x : Str) (z : List Nat), T.sv[i]? = some (x, z) → (∃ t, mg x = some (.str (sV z) t)) ∧ (x == ("__debug__" : Str)) = false
  fn : ∀ (f : Nat) (x : Str), T.flds[f]? = some x → Y.fn f = x
  ckit : ClsOk K Y T.P
  kit : KitOk K Y T.P T.used
  ekit : ErrKit K Y T.P T.used
  mkc : ∀ (j c i : Nat), T.mks[j]? = some (c, i) → Mk K (Y.ca c) (Y.fa i)
  eqc : ∀ (j c i : Nat), T.eqs[j]? = some (c, i) → PvX.NeC K (Y.ca c) (Y.fa i)
  mt : ∀ (j c i : Nat) (m : Str), T.mts[j]? = some (c, m, i) → L2.Cls K (Y.ca c) ∧ Meth K (Y.ca c) m (Y.fa i) ∧ ∀ f, Y.fn f ≠ m
  xf : ∀ (c : Nat), T.P.isx c = true → XfC K (Y.ca c)
  xn : ∀ (c f : Nat) (x : Str), T.P.isx c = true → T.flds[f]? = some x → PySem.W.findIn K (.ref (Y.ca c)) x = some none
  xm : ∀ (c d : Nat), T.P.isx d = true → PySem.W.exmOne K (.ref (Y.ca c)) (.ref (Y.ca d)) = some (T.P.sub c d)
  xb : ∀ (n d : Nat), T.P.isx d = true → PySem.W.exmOne K (.type (exName n)) (.ref (Y.ca d)) = some false
  kp : ∀ i, Y.nf i = none → PySem.W.keepIn K (.ref (Y.fa i)) = true
/-- what a text of the program leans on where it stands -/
structure Cb (T : Tb) (X : Cx) (F : Fr) : Prop where
  fc : Facts T X.K X.mg F.Y
  P : F.P = T.P
  fk : FrOk X F
  nd : X.N.Nodup
  nu : ∀ x ∈ X.N, (x == ("__debug__" : Str)) = false ∧ (x == ("__classdict__" : Str)) = false
  hu : X.A.units + 68 < cLine
/-- .. and calls -/
structure Ct (T : Tb) (X : Cx) (F : Fr) : Prop extends Cb T X F where
  tk : Takes X F.W
  df : ∀ i, i < T.fns.length → ∃ k fd ps, FnOk X.prog X.w X.K X.mg X.base (L2.CX X.prog X.w) k (F.Y.fa i) fd ps (spC F.Y F.C i) ∧ Room (k + 1) X.A ∧ Binds X.K fd ps []
  out : ∀ i l h Q E, F.C i l h Q E → F.Y.nf i = none → i < T.fns.length
  nn : ∀ i, i < T.fns.length → F.Y.nf i = none
  clo : ∀ i n, F.Y.nf i = some n → ∃ k, CloRun X.prog X.w X.K X.mg X.base F.Y F.C k i ∧ Room k X.A
  er0 : ∀ (j c : Nat), T.er0[j]? = some c → Err0 X F c
  er1 : ∀ (j c f : Nat), T.er1[j]? = some (c, f) → Err1 X F c f
  rm : Room 8 X.A
def badB : Option Nat → Nat → Bool
  | none, _ => true
  | some j, i => !(Nat.beq j i)
theorem badB_ok {o : Option Nat} {i : Nat} (h : badB o i = true) : o ≠ some i := by
  rintro rfl
  have h : (!(Nat.beq i i)) = true := h
  rw [Nat.beq_refl] at h
  cases h
def lkB : List Nat → Nat → Bool
  | [], _ => true
  | j :: l, i => !(Nat.beq j i) && lkB l i
theorem lkB_ok {i : Nat} : ∀ {l : List Nat}, lkB l i = true → i ∉ l
  | [], _, m => nomatch m
  | j :: l, h, m => by
    obtain ⟨h1, h2⟩ := Bool.and_eq_true_iff.mp h
    rcases List.mem_cons.mp m with rfl | m
    · rw [Nat.beq_refl] at h1
      cases h1
    · exact lkB_ok h2 m
theorem takes_no {X : Cx} : Takes X fun _ _ _ _ => False := fun u s' ⟨_, _, _, _, _, _, _, _, _, _, _, _, _, _, _, _, z⟩ => z.elim
section
variable {T : Tb} {X : Cx} {F : Fr}
theorem Ct.defOk (c : Ct T X F) {i : Nat} (h : i < T.fns.length) : DefOk X F.Y F.C i :=
  ⟨let ⟨k, fd, ps, h1, h2, h3⟩ := c.df i h; ⟨k, fd, ps, h1, h2.mono (Nat.le_succ _), h3⟩, c.fc.kp i (c.nn i h)⟩
theorem Ct.calls (c : Ct T X F) : CallsOk X F.Y F.C := ⟨fun i l h Q E n q => c.defOk (c.out i l h Q E q n), c.fc.kp, c.clo⟩
theorem Ct.mkOk (c : Ct T X F) {j k i : Nat} (h : T.mks[j]? = some (k, i)) (hi : i < T.fns.length) : MkOk X F.Y F.C k i := ⟨c.fc.mkc j k i h, c.df i hi⟩
theorem Ct.eqOk (c : Ct T X F) {j k i : Nat} (h : T.eqs[j]? = some (k, i)) (hi : i < T.fns.length) : EqOk X F.Y F.C k i := ⟨c.df i hi, c.fc.eqc j k i h⟩
theorem ltB {i : Nat} {n : Nat} (h : Nat.blt i n = true) : i < n := Nat.le_of_ble_eq_true h
/-- within a comprehension -/
theorem Ct.blk (c : Ct T X F) (hl : F.lk = []) (s : Shared) (H : Hp) (scope : Scope) (cenv : PySem.Env) (fp : List Addr) : Ct T (X.blk s H scope cenv fp) F.cmp :=
  ⟨⟨c.fc, c.P, ⟨c.fk.hK, fun j hj => absurd hj (by show j ∉ F.lk; rw [hl]; simp), fun _ j hj => absurd hj (by show j ∉ F.lk; rw [hl]; simp)⟩, c.nd, c.nu, c.hu⟩, takes_no, c.df, c.out, c.nn, c.clo, fun j k h => ⟨(c.er0 j k h).e.imp fun f z => by
    obtain ⟨a, b, d, e, g, i, l, m, n, o, p, q, r, t⟩ := z
    exact ⟨a, b, d, e, g, i, l, m, n, o, p, ⟨q.S, q.gt, q.r, q.top⟩, r, t⟩, (c.er0 j k h).x⟩, fun j k f h => ⟨(c.er1 j k f h).e.imp fun f z => by
    obtain ⟨a, b, d, e, g, i, l, m, n, o, p, q1, q2, q3, q4, q, r, t⟩ := z
    exact ⟨a, b, d, e, g, i, l, m, n, o, p, q1, q2, q3, q4, ⟨q.S, q.gt, q.r, q.top⟩, r, t⟩, (c.er1 j k f h).x⟩, c.rm⟩
/-- with cells told -/
theorem Ct.told (c : Ct T X F) {js : List Nat} (fk : FrOk X (F.told X js)) : Ct T X (F.told X js) := ⟨⟨c.fc, c.P, fk, c.nd, c.nu, c.hu⟩, c.tk, c.df, c.out, c.nn, c.clo, fun j k h => ⟨(c.er0 j k h).e, (c.er0 j k h).x⟩, fun j k f h => ⟨(c.er1 j k f h).e, (c.er1 j k f h).x⟩, c.rm⟩
/-- within a try -/
theorem Ct.try_ (c : Ct T X F) {W : WX} {pn : List (Addr × Obj)} {xe : Value → Shared → Prop} (tk : Takes (X.tr pn xe) W) : Ct T (X.tr pn xe) { F with W := W } :=
  ⟨⟨c.fc, c.P, ⟨c.fk.hK, c.fk.cell, fun ok => c.fk.off ok.ofTry⟩, c.nd, c.nu, c.hu⟩, tk, c.df, c.out, c.nn, c.clo, fun j k h => ⟨(c.er0 j k h).e.imp fun f z => by
    obtain ⟨a, b, d, e, g, i, l, m, n, o, p, q, r, t⟩ := z
    exact ⟨a, b, d, e, g, i, l, m, n, o, p, ⟨q.S, q.gt, q.r, q.top⟩, r, t⟩, (c.er0 j k h).x⟩, fun j k f h => ⟨(c.er1 j k f h).e.imp fun f z => by
    obtain ⟨a, b, d, e, g, i, l, m, n, o, p, q1, q2, q3, q4, q, r, t⟩ := z
    exact ⟨a, b, d, e, g, i, l, m, n, o, p, q1, q2, q3, q4, ⟨q.S, q.gt, q.r, q.top⟩, r, t⟩, (c.er1 j k f h).x⟩, c.rm⟩
theorem mark_units {A : Around} {v : Option Value} : (A.mark v).units = A.units := by
  first | rfl | (unfold Around.mark Around.units; rfl)
/-- within a suite -/
theorem Cb.suite (c : Cb T X F) (hlk : F.lk = []) (a : Addr) (pn : List (Addr × Obj)) (b : Option Bad) : Cb T (X.suite a pn) { F with bad := b, W := fun _ _ _ _ => False } :=
  ⟨c.fc, c.P, ⟨c.fk.hK, fun j hj => absurd hj (by show j ∉ F.lk; rw [hlk]; simp), fun _ j hj => absurd hj (by show j ∉ F.lk; rw [hlk]; simp)⟩, c.nd, c.nu, by
    show (X.A.mark _).units + 68 < cLine
    rw [mark_units]
    exact c.hu⟩
end
end Pv
end

section
set_option maxRecDepth 100000
set_option maxHeartbeats 4000000
namespace Pv
open PySem PySem.Spec PyProof.Rows L2
section
variable {T : Tb} {X : Cx} {F : Fr} {a b c e : Expr} {es : List Expr} {ea eb ec ee : E} {ees : Es} {pos p : Pos}
/-! ### names, constants -/
theorem w_nu (B : Cb T X F) {i : Nat} {x : Str} (h : X.N[i]? = some x) : (x == ("__debug__" : Str)) = false ∧ (x == ("__classdict__" : Str)) = false := B.nu x (List.mem_of_getElem? h)
theorem w_loc (B : Cb T X F) (i : Nat) {x : Str} (hN : X.N[i]? = some x := by kernel_rfl) (hv : X.env.scope.names.lookup x = some .local := by kernel_rfl) (hb : badB (F.bad.map (·.i)) i = true := by kernel_rfl) : PE X (.Name x pos) (tE F (.slot i)) :=
  ok_slot hN (.inl hv) (badB_ok hb) (w_nu B hN).1 (w_nu B hN).2
theorem w_cel (B : Cb T X F) (i : Nat) {x : Str} (hN : X.N[i]? = some x := by kernel_rfl) (hv : X.env.scope.names.lookup x = some .cell := by kernel_rfl) (hb : badB (F.bad.map (·.i)) i = true := by kernel_rfl) : PE X (.Name x pos) (tE F (.slot i)) :=
  ok_slot hN (.inr (.inl hv)) (badB_ok hb) (w_nu B hN).1 (w_nu B hN).2
theorem w_fre (B : Cb T X F) (i : Nat) {x : Str} (hN : X.N[i]? = some x := by kernel_rfl) (hv : X.env.scope.names.lookup x = some .free := by kernel_rfl) (hb : badB (F.bad.map (·.i)) i = true := by kernel_rfl) : PE X (.Name x pos) (tE F (.slot i)) :=
  ok_slot hN (.inr (.inr hv)) (badB_ok hb) (w_nu B hN).1 (w_nu B hN).2
theorem w_int {i : Int} {j} : PE X (.Constant (.int i) j pos) (tE F (.cst (.int i))) := ok_cst pe_int fun _ _ => rfl
theorem w_bl {b : Bool} {j} : PE X (.Constant (.bool b) j pos) (tE F (.cst (.bl b))) := ok_cst pe_bl fun _ _ => rfl
theorem w_non {j} : PE X (.Constant .none j pos) (tE F (.cst .non)) := ok_cst pe_non fun _ _ => rfl
theorem w_str (z : List Nat) {x : Str} {j} (h : x = sV z := by rfl) : PE X (.Constant (.str x) j pos) (tE F (.cst (.str z))) := ok_cst pe_str fun _ _ => by rw [h]; rfl
theorem w_gint (B : Cb T X F) (i : Nat) {x : Str} {n : Int} (h : T.iv[i]? = some (x, n) := by kernel_rfl) (hg : Gl X x := by (show _ = _; kernel_rfl)) : PE X (.Name x pos) (tE F (.cst (.int n))) :=
  ok_cst (v := .int n) (let ⟨t, e⟩ := (B.fc.gint i x n h).1; pe_glob hg e ⟨t, rfl⟩ (B.fc.gint i x n h).2) fun _ _ => rfl
theorem w_gstr (B : Cb T X F) (i : Nat) {x : Str} {z : List Nat} (h : T.sv[i]? = some (x, z) := by kernel_rfl) (hg : Gl X x := by (show _ = _; kernel_rfl)) : PE X (.Name x pos) (tE F (.cst (.str z))) :=
  ok_cst (v := .str (sV z)) (let ⟨t, e⟩ := (B.fc.gstr i x z h).1; pe_glob hg e ⟨t, rfl⟩ (B.fc.gstr i x z h).2) fun _ _ => rfl
theorem w_gfn (C : Ct T X F) (i : Nat) {x : Str} (h : T.fns[i]? = some (x, none) := by kernel_rfl) (hg : Gl X x := by (show _ = _; kernel_rfl)) : PE X (.Name x pos) (tE F (.cst (.fn i))) :=
  ok_cst (v := .ref (F.Y.fa i)) (pe_glob hg (C.fc.gfn i x h).1 rfl (C.fc.gfn i x h).2) fun _ _ => ⟨rfl, C.nn i (List.getElem?_eq_some_iff.mp h).1⟩
/-! ### operators -/
theorem w_add (B : Cb T X F) (ha : PE X a (tE F ea)) (hb : PE X b (tE F eb)) : PE X (.BinOp a .Add b pos) (tE F (.op .add ea eb)) := ok_bin ops_add ha hb
theorem w_sub (B : Cb T X F) (ha : PE X a (tE F ea)) (hb : PE X b (tE F eb)) : PE X (.BinOp a .Sub b pos) (tE F (.op .sub ea eb)) := ok_bin ops_sub ha hb
theorem w_mul (B : Cb T X F) (ha : PE X a (tE F ea)) (hb : PE X b (tE F eb)) : PE X (.BinOp a .Mult b pos) (tE F (.op .mul ea eb)) := ok_bin ops_mul ha hb
theorem w_fdiv (B : Cb T X F) (ha : PE X a (tE F ea)) (hb : PE X b (tE F eb)) : PE X (.BinOp a .FloorDiv b pos) (tE F (.op .fdiv ea eb)) := ok_bin ops_fdiv ha hb
theorem w_mod (B : Cb T X F) (ha : PE X a (tE F ea)) (hb : PE X b (tE F eb)) : PE X (.BinOp a .Mod b pos) (tE F (.op .mod ea eb)) := ok_bin ops_mod ha hb
theorem w_pow (B : Cb T X F) (ha : PE X a (tE F ea)) (hb : PE X b (tE F eb)) : PE X (.BinOp a .Pow b pos) (tE F (.op .pow ea eb)) := ok_bin ops_pow ha hb
def cOp : Op → CmpOp
  | .eq => .Eq
  | .ne => .NotEq
  | .lt => .Lt
  | .le => .LtE
  | .gt => .Gt
  | .ge => .GtE
  | .in_ => .In
  | _ => .NotIn
def isCmp : Op → Bool
  | .eq | .ne | .lt | .le | .gt | .ge | .in_ | .notin => true
  | _ => false
noncomputable def opsC (B : Cb T X F) : ∀ (o : Op), isCmp o = true → OpS X F.Y (compareOp (cOp o)) o
  | .eq, _ => ops_eq B.fc.hK (by have := B.hu; omega)
  | .ne, _ => ops_ne B.fc.hK (by have := B.hu; omega)
  | .lt, _ => ops_lt (by have := B.hu; omega)
  | .le, _ => ops_le (by have := B.hu; omega)
  | .gt, _ => ops_gt
  | .ge, _ => ops_ge
  | .in_, _ => ops_in B.fc.hK (by have := B.hu; omega)
  | .notin, _ => ops_notin B.fc.hK (by have := B.hu; omega)
theorem w_cmp (B : Cb T X F) (o : Op) (ha : PE X a (tE F ea)) (hb : PE X b (tE F eb)) (ho : isCmp o = true := by kernel_rfl) (hm : behindInMarks (cOp o) b = false := by rfl) : PE X (.Compare a [cOp o] [b] pos) (tE F (.op o ea eb)) := ok_cmp (opsC B o ho) ha hb hm
theorem w_tcmp (B : Cb T X F) (o : Op) (ha : PE X a (tE F ea)) (hb : PE X b (tE F eb)) (ho : isCmp o = true := by kernel_rfl) (hm : behindInMarks (cOp o) b = false := by rfl) : PT X (.Compare a [cOp o] [b] pos) (tT F (.op o ea eb)) := ok_tcmp (opsC B o ho) ha hb hm
theorem w_chain (B : Cb T X F) (o o' : Op) (ha : PE X a (tE F ea)) (hb : PE X b (tE F eb)) (hc : PE X c (tE F ec)) (ho : isCmp o = true := by kernel_rfl) (ho' : isCmp o' = true := by kernel_rfl) (hm : lastMarks [cOp o, cOp o'] [b, c] = false := by rfl) : PE X (.Compare a [cOp o, cOp o'] [b, c] pos) (tE F (.chain o o' ea eb ec)) :=
  ok_chain (opsC B o ho) (opsC B o' ho') ha hb hc hm
theorem w_tchain (B : Cb T X F) (o o' : Op) (ha : PE X a (tE F ea)) (hb : PE X b (tE F eb)) (hc : PE X c (tE F ec)) (ho : isCmp o = true := by kernel_rfl) (ho' : isCmp o' = true := by kernel_rfl) (hm : lastMarks [cOp o, cOp o'] [b, c] = false := by rfl) : PT X (.Compare a [cOp o, cOp o'] [b, c] pos) (tT F (.chain o o' ea eb ec)) :=
  ok_tchain (opsC B o ho) (opsC B o' ho') ha hb hc hm
theorem w_eqO (C : Ct T X F) (j k i : Nat) (ha : PE X a (tE F ea)) (hb : PE X b (tE F eb)) (hj : T.eqs[j]? = some (k, i) := by kernel_rfl) (hi : Nat.blt i T.fns.length = true := by kernel_rfl) (hm : behindInMarks .Eq b = false := by rfl) : PE X (.Compare a [.Eq] [b] pos) (tE F (.eqO false k i ea eb)) :=
  ok_eqO (.inl ⟨rfl, rfl⟩) C.fk (C.eqOk hj (ltB hi)) (by have := C.hu; omega) C.tk ha hb hm
theorem w_neO (C : Ct T X F) (j k i : Nat) (ha : PE X a (tE F ea)) (hb : PE X b (tE F eb)) (hj : T.eqs[j]? = some (k, i) := by kernel_rfl) (hi : Nat.blt i T.fns.length = true := by kernel_rfl) (hm : behindInMarks .NotEq b = false := by rfl) : PE X (.Compare a [.NotEq] [b] pos) (tE F (.eqO true k i ea eb)) :=
  ok_eqO (.inr ⟨rfl, rfl⟩) C.fk (C.eqOk hj (ltB hi)) (by have := C.hu; omega) C.tk ha hb hm
theorem w_teqO (C : Ct T X F) (j k i : Nat) (ha : PE X a (tE F ea)) (hb : PE X b (tE F eb)) (hj : T.eqs[j]? = some (k, i) := by kernel_rfl) (hi : Nat.blt i T.fns.length = true := by kernel_rfl) (hm : behindInMarks .Eq b = false := by rfl) : PT X (.Compare a [.Eq] [b] pos) (tT F (.eqO false k i ea eb)) :=
  ok_teqO (.inl ⟨rfl, rfl⟩) C.fk (C.eqOk hj (ltB hi)) (by have := C.hu; omega) C.tk ha hb hm
theorem w_tneO (C : Ct T X F) (j k i : Nat) (ha : PE X a (tE F ea)) (hb : PE X b (tE F eb)) (hj : T.eqs[j]? = some (k, i) := by kernel_rfl) (hi : Nat.blt i T.fns.length = true := by kernel_rfl) (hm : behindInMarks .NotEq b = false := by rfl) : PT X (.Compare a [.NotEq] [b] pos) (tT F (.eqO true k i ea eb)) :=
  ok_teqO (.inr ⟨rfl, rfl⟩) C.fk (C.eqOk hj (ltB hi)) (by have := C.hu; omega) C.tk ha hb hm
/-! ### what is looked at -/
theorem w_test (h : PE X e (tE F ee)) (he : ∀ whole, isTrue e X.env whole = (do let v ← whole; standAt e.pos; holding [v] (truthy v)) := by exact fun _ => rfl) : PT X e (tT F ee) := ok_test h he
theorem w_fld (B : Cb T X F) (f : Nat) {x : Str} (ha : PE X a (tE F ea)) (hf : T.flds[f]? = some x := by kernel_rfl) (hb : attributeBase a x X.env (eval a X.env) = eval a X.env := by kernel_rfl) : PE X (.Attribute a x pos) (tE F (.fld ea f)) := ok_fld (by rw [B.P]; exact B.fc.ckit) (B.fc.fn f x hf).symm ha hb
theorem w_idx (B : Cb T X F) (ha : PE X a (tE F ea)) (hb : PE X b (tE F eb)) (hs : PlainIx b := by exact fun _ _ => rfl) : PE X (.Subscript a b pos) (tE F (.idx ea eb)) := ok_idx B.fc.hK (by have := B.hu; omega) ha hb hs
theorem w_slice (B : Cb T X F) {lo hi : Option Expr} {elo ehi : Eo} {p2 : Pos} (ha : PE X a (tE F ea)) (hl : PO X lo (tEo F elo)) (hh : PO X hi (tEo F ehi)) : PE X (.Subscript a (.Slice lo hi none p2) pos) (tE F (.slice ea elo ehi)) := ok_slice B.fc.hK ha hl hh
theorem w_cons (ha : PE X e (tE F ee)) (hr : PA X es (tEs F ees)) (hs : starEach (e :: es) X.env = (false, eval e X.env) :: starEach es X.env := by rfl) : PA X (e :: es) (tEs F (.cons ee ees)) := ok_cons ha hr hs
/-! ### calls -/
theorem w_call (C : Ct T X F) (i : Nat) {x : Str} (ha : PA X (e :: es) (tEs F ees)) (hx : T.fns[i]? = some (x, none) := by kernel_rfl) (hg : Gl X x := by (show _ = _; kernel_rfl)) (he : starEach (e :: es) X.env = (false, eval e X.env) :: starEach es X.env := by rfl) (hpl : (backTo pos (starEach es X.env)).any (·.1) = false := by rfl) :
    PE X (.Call (.Name x p) (e :: es) [] pos) (tE F (.call i ees)) := ok_call C.fk (C.defOk (List.getElem?_eq_some_iff.mp hx).1) C.tk hg (C.fc.gfn i x hx).1 ha (C.fc.gfn i x hx).2 he hpl
theorem w_call0 (C : Ct T X F) (i : Nat) {x : Str} (hx : T.fns[i]? = some (x, none) := by kernel_rfl) (hg : Gl X x := by (show _ = _; kernel_rfl)) : PE X (.Call (.Name x p) [] [] pos) (tE F (.call i .nil)) := ok_call0 C.fk (C.defOk (List.getElem?_eq_some_iff.mp hx).1) C.tk hg (C.fc.gfn i x hx).1 (C.fc.gfn i x hx).2
theorem w_callv (C : Ct T X F) (ho : PE X a (tE F ea)) (ha : PA X (e :: es) (tEs F ees)) (hst : starEach (e :: es) X.env = (false, eval e X.env) :: starEach es X.env := by rfl) (hpl : (backTo pos (starEach es X.env)).any (·.1) = false := by rfl)
    (ht : eval (.Call a (e :: es) [] pos) X.env = (do callWith pos (← eval a X.env) [] (backTo pos (starEach (e :: es) X.env)) (backToKw pos (keywordEach [] X.env))) := by rfl) : PE X (.Call a (e :: es) [] pos) (tE F (.callv ea ees)) := ok_callv C.fk C.calls C.tk ho ha hst hpl ht
theorem w_callv0 (C : Ct T X F) (ho : PE X a (tE F ea)) (ht : eval (.Call a [] [] pos) X.env = (do callWith pos (← eval a X.env) [] (backTo pos (starEach [] X.env)) (backToKw pos (keywordEach [] X.env))) := by rfl) : PE X (.Call a [] [] pos) (tE F (.callv ea .nil)) := ok_callv0 C.fk C.calls C.tk ho ht
theorem w_new (C : Ct T X F) (j k i : Nat) {x : Str} (ha : PA X (e :: es) (tEs F ees)) (hj : T.mks[j]? = some (k, i) := by kernel_rfl) (hi : Nat.blt i T.fns.length = true := by kernel_rfl) (hx : T.cls[k]? = some x := by kernel_rfl) (hg : Gl X x := by (show _ = _; kernel_rfl)) (he : starEach (e :: es) X.env = (false, eval e X.env) :: starEach es X.env := by rfl) (hpl : (backTo pos (starEach es X.env)).any (·.1) = false := by rfl) :
    PE X (.Call (.Name x p) (e :: es) [] pos) (tE F (.new k i ees)) := ok_new C.fk (C.mkOk hj (ltB hi)) C.tk hg (C.fc.gcl k x hx).1 ha (C.fc.gcl k x hx).2 he hpl
theorem w_new0 (C : Ct T X F) (j k i : Nat) {x : Str} (hj : T.mks[j]? = some (k, i) := by kernel_rfl) (hi : Nat.blt i T.fns.length = true := by kernel_rfl) (hx : T.cls[k]? = some x := by kernel_rfl) (hg : Gl X x := by (show _ = _; kernel_rfl)) : PE X (.Call (.Name x p) [] [] pos) (tE F (.new k i .nil)) := ok_new0 C.fk (C.mkOk hj (ltB hi)) C.tk hg (C.fc.gcl k x hx).1 (C.fc.gcl k x hx).2
theorem w_meth (C : Ct T X F) (j k i : Nat) {m : Str} {apos : Pos} {pl : Sem Bool} (ho : PE X a (tE F ea)) (ha : PA X (e :: es) (tEs F ees)) (hj : T.mts[j]? = some (k, m, i) := by kernel_rfl) (hi : Nat.blt i T.fns.length = true := by kernel_rfl)
    (hst : starEach (e :: es) X.env = (false, eval e X.env) :: starEach es X.env := by rfl) (hpl : (backTo pos (starEach es X.env)).any (·.1) = false := by rfl)
    (ht : eval (.Call (.Attribute a m apos) (e :: es) [] pos) X.env = (do
      let ov ← eval a X.env
      standAt apos.atName
      let (f, first) ← holding [ov] (getMethod ov m pl)
      callWith pos f first (backTo pos (starEach (e :: es) X.env)) (backToKw pos (keywordEach [] X.env))) := by rfl) :
    PE X (.Call (.Attribute a m apos) (e :: es) [] pos) (tE F (.meth ea k i ees)) := ok_meth C.fk (C.defOk (ltB hi)) C.tk (C.fc.mt j k i m hj).1 (C.fc.mt j k i m hj).2.1 (C.fc.mt j k i m hj).2.2 ho ha hst hpl ht
theorem w_meth0 (C : Ct T X F) (j k i : Nat) {m : Str} {apos : Pos} {pl : Sem Bool} (ho : PE X a (tE F ea)) (hj : T.mts[j]? = some (k, m, i) := by kernel_rfl) (hi : Nat.blt i T.fns.length = true := by kernel_rfl)
    (ht : eval (.Call (.Attribute a m apos) [] [] pos) X.env = (do
      let ov ← eval a X.env
      standAt apos.atName
      let (f, first) ← holding [ov] (getMethod ov m pl)
      callWith pos f first (backTo pos (starEach [] X.env)) (backToKw pos (keywordEach [] X.env))) := by rfl) :
    PE X (.Call (.Attribute a m apos) [] [] pos) (tE F (.meth ea k i .nil)) := ok_meth0 C.fk (C.defOk (ltB hi)) C.tk (C.fc.mt j k i m hj).1 (C.fc.mt j k i m hj).2.1 (C.fc.mt j k i m hj).2.2 ho ht
/-! ### builtins -/
theorem w_biB (B : Cb T X F) (j : Nat) {bi : Bi} {id : String} {x : Str} (S : BiS X F.Y (.builtin id) bi) (ha : PA X (e :: es) (tEs F ees)) (hv : bootBuiltins x = some (.builtin id)) (hj : T.free[j]? = some x := by kernel_rfl) (hg : Gl X x := by (show _ = _; kernel_rfl))
    (he : starEach (e :: es) X.env = (false, eval e X.env) :: starEach es X.env := by rfl) (hpl : (backTo pos (starEach es X.env)).any (·.1) = false := by rfl) : PE X (.Call (.Name x p) (e :: es) [] pos) (tE F (.bi bi ees)) :=
  ok_biB S hg (B.fc.gno j x hj).1 hv ha (B.fc.gno j x hj).2.2 (B.fc.gno j x hj).2.1 he hpl
theorem w_biT (B : Cb T X F) (j : Nat) {bi : Bi} {id : String} {x : Str} (S : BiS X F.Y (.type id) bi) (ha : PA X (e :: es) (tEs F ees)) (hv : bootBuiltins x = some (.type id)) (hj : T.free[j]? = some x := by kernel_rfl) (hg : Gl X x := by (show _ = _; kernel_rfl))
    (he : starEach (e :: es) X.env = (false, eval e X.env) :: starEach es X.env := by rfl) (hpl : (backTo pos (starEach es X.env)).any (·.1) = false := by rfl) : PE X (.Call (.Name x p) (e :: es) [] pos) (tE F (.bi bi ees)) :=
  ok_biT S hg (B.fc.gno j x hj).1 hv ha (B.fc.gno j x hj).2.2 (B.fc.gno j x hj).2.1 he hpl
theorem bt_len : bootBuiltins "len" = some (.builtin "len") := boot_len
theorem bt_abs : bootBuiltins "abs" = some (.builtin "abs") := by decide +kernel
theorem bt_min : bootBuiltins "min" = some (.builtin "min") := by decide +kernel
theorem bt_max : bootBuiltins "max" = some (.builtin "max") := by decide +kernel
theorem bt_all : bootBuiltins "all" = some (.builtin "all") := by decide +kernel
theorem bt_any : bootBuiltins "any" = some (.builtin "any") := by decide +kernel
theorem bt_int : bootBuiltins "int" = some (.type "int") := by decide +kernel
theorem bt_str : bootBuiltins "str" = some (.type "str") := by decide +kernel
theorem bt_tuple : bootBuiltins "tuple" = some (.type "tuple") := by decide +kernel
theorem bt_list : bootBuiltins "list" = some (.type "list") := by decide +kernel
theorem bt_dict : bootBuiltins "dict" = some (.type "dict") := by decide +kernel
theorem bt_bool : bootBuiltins "bool" = some (.type "bool") := by decide +kernel
theorem bt_VE : bootBuiltins "ValueError" = some (.type "ValueError") := by decide +kernel
/-- a builtin's class by name -/
theorem c_ty (B : Cb T X F) (j : Nat) {n : String} {x : Str} (hv : bootBuiltins x = some (.type n)) (hj : T.free[j]? = some x := by kernel_rfl) (hg : Gl X x := by (show _ = _; kernel_rfl)) : PE X (.Name x pos) (tC (.ty n)) := pe_bltn hg (B.fc.gno j x hj).1 hv rfl (B.fc.gno j x hj).2.2 (B.fc.gno j x hj).2.1
theorem c_own (B : Cb T X F) (k : Nat) {x : Str} (hx : T.cls[k]? = some x := by kernel_rfl) (hg : Gl X x := by (show _ = _; kernel_rfl)) : PE X (.Name x pos) (tC (clsV F.Y (.own k))) := pe_glob hg (B.fc.gcl k x hx).1 rfl (B.fc.gcl k x hx).2
theorem w_isin1 (B : Cb T X F) (j : Nat) {k : Pv.Cl} {ce : Expr} (ha : PE X a (tE F ea)) (hc : PE X ce (tC (clsV F.Y k))) (hu : T.used k = true := by kernel_rfl) (hk : k ≠ .valueError := by exact fun z => nomatch z) (hj : T.free[j]? = some "isinstance" := by kernel_rfl) (hg : Gl X "isinstance" := by (show _ = _; kernel_rfl))
    (he : starEach (a :: [ce]) X.env = (false, eval a X.env) :: starEach [ce] X.env := by rfl) (he2 : starEach (ce :: []) X.env = (false, eval ce X.env) :: starEach [] X.env := by rfl) (hpl : (backTo pos (starEach [ce] X.env)).any (·.1) = false := by rfl) :
    PE X (.Call (.Name "isinstance" p) (a :: [ce]) [] pos) (tE F (.isin ea [k])) := ok_isin1 B.fc.hK (by rw [B.P]; exact B.fc.kit) hu hk hg (B.fc.gno j _ hj).1 ha hc he he2 hpl
theorem w_isinT (B : Cb T X F) (j : Nat) {ks : List Pv.Cl} {ces : List Expr} {tp : Pos} {n : Nat} (ha : PE X a (tE F ea)) (hc : PA X ces (tCls F.Y ks)) (hu : ∀ k ∈ ks, T.used k = true ∧ k ≠ .valueError) (hl : ks.length ≤ 100 := by decide) (hj : T.free[j]? = some "isinstance" := by kernel_rfl) (hg : Gl X "isinstance" := by (show _ = _; kernel_rfl))
    (he : starEach (a :: [.Tuple ces n tp]) X.env = (false, eval a X.env) :: starEach [.Tuple ces n tp] X.env := by rfl) (he2 : starEach (.Tuple ces n tp :: []) X.env = (false, eval (.Tuple ces n tp) X.env) :: starEach [] X.env := by rfl) (hpl : (backTo pos (starEach [.Tuple ces n tp] X.env)).any (·.1) = false := by rfl) :
    PE X (.Call (.Name "isinstance" p) (a :: [.Tuple ces n tp]) [] pos) (tE F (.isin ea ks)) := ok_isinT B.fc.hK (by rw [B.P]; exact B.fc.kit) hu hl hg (B.fc.gno j _ hj).1 ha hc he he2 hpl
/-! ### methods -/
section
variable {cpos apos : Pos} {f : Expr} {ef : E}
theorem w_bm {m : Bm} {TT id : String} {name : Str} (S : BmS X F.Y TT id m) (pa : PlainAttrs TT) (slot : Slot TT name id) (hty : typeOf (.builtin id) = pure (.type "method_descriptor")) (ho : PE X a (tE F ea)) (ha : PA X (e :: es) (tEs F ees)) (hbase : attributeBase a name X.env (eval a X.env) = eval a X.env := by rfl)
    (hfew : ((backTo cpos (starEach (e :: es) X.env)).all (fun x => !x.1) && (backToKw cpos (keywordEach [] X.env)).all (fun x => x.1.isSome)
      && decide ((e :: es).length + ([] : List Keyword).length + (if ([] : List Keyword).isEmpty then 0 else 1) < 30)) = true := by rfl)
    (hline : (apos.endLine == cpos.line) = true := by rfl) (hs : starEach (e :: es) X.env = (false, eval e X.env) :: starEach es X.env := by rfl) (hplain : (backTo cpos (starEach es X.env)).any (·.1) = false := by rfl) :
    PE X (.Call (.Attribute a name apos) (e :: es) [] cpos) (tE F (.bm m ea ees)) := ok_bm S pa slot hty ho ha hbase hfew hline hs hplain
theorem w_bm0 {m : Bm} {TT id : String} {name : Str} (S : BmS X F.Y TT id m) (pa : PlainAttrs TT) (slot : Slot TT name id) (hty : typeOf (.builtin id) = pure (.type "method_descriptor")) (ho : PE X a (tE F ea)) (hbase : attributeBase a name X.env (eval a X.env) = eval a X.env := by rfl) (hline : (apos.endLine == cpos.line) = true := by rfl) :
    PE X (.Call (.Attribute a name apos) [] [] cpos) (tE F (.bm m ea .nil)) := ok_bm0 S pa slot hty ho hbase hline
theorem w_get1 (B : Cb T X F) (ho : PE X a (tE F ea)) (he : PE X e (tE F ee)) (m : M1 X a "get" apos e cpos := by exact ⟨rfl, rfl, rfl, rfl⟩) : PE X (.Call (.Attribute a "get" apos) [e] [] cpos) (tE F (.bm .get ea (.cons ee .nil))) := ok_get1 (by have := B.hu; omega) ho he m
theorem w_get2 (B : Cb T X F) (ho : PE X a (tE F ea)) (he : PE X e (tE F ee)) (hf : PE X f (tE F ef)) (m : M2 X a "get" apos e f cpos := by exact ⟨rfl, rfl, rfl, rfl⟩) : PE X (.Call (.Attribute a "get" apos) [e, f] [] cpos) (tE F (.bm .get ea (.cons ee (.cons ef .nil)))) := ok_get2 (by have := B.hu; omega) ho he hf m
end
end
end Pv
end

section
set_option maxRecDepth 100000
set_option maxHeartbeats 4000000
namespace Pv
open PySem PySem.Spec PyProof.Rows L2
section
variable {T : Tb} {X : Cx} {F : Fr} {a b c e iter tg : Expr} {es ifs : List Expr} {ea eb ec ee : E} {ees ifs' : Es} {it : It} {t : Pv.T} {pos p pos' : Pos} {pin : Bool}
theorem w_cls0 : PA X [] (tCls F.Y []) := pa_nil
theorem w_clsc {k : Pv.Cl} {ks : List Pv.Cl} (h : PE X e (tC (clsV F.Y k))) (r : PA X es (tCls F.Y ks)) (hs : starEach (e :: es) X.env = (false, eval e X.env) :: starEach es X.env := by rfl) : PA X (e :: es) (tCls F.Y (k :: ks)) := pa_cons h r hs
/-! ### what is made -/
theorem w_lst (ha : PA X es (tEs F ees)) : PE X (.List es pos) (tE F (.mk pin (.lst ees))) := ok_lst ha
theorem w_sorted (B : Cb T X F) (j : Nat) (ha : PE X e (tE F ee)) (hc : X.calm = true := by rfl) (hj : T.free[j]? = some "sorted" := by kernel_rfl) (hg : Gl X "sorted" := by (show _ = _; kernel_rfl)) (hs1 : starEach (e :: []) X.env = (false, eval e X.env) :: starEach [] X.env := by rfl) (hpl : (backTo pos (starEach [] X.env)).any (·.1) = false := by rfl) :
    PE X (.Call (.Name "sorted" p) [e] [] pos) (tE F (.mk pin (.sorted ee))) := ok_sorted B.fc.hK hc (by have := B.hu; omega) hg (B.fc.gno j _ hj).1 ha hs1 hpl
theorem w_list (B : Cb T X F) (j : Nat) (ha : PE X e (tE F ee)) (hc : X.calm = true := by rfl) (hj : T.free[j]? = some "list" := by kernel_rfl) (hg : Gl X "list" := by (show _ = _; kernel_rfl)) (hs1 : starEach (e :: []) X.env = (false, eval e X.env) :: starEach [] X.env := by rfl) (hpl : (backTo pos (starEach [] X.env)).any (·.1) = false := by rfl) :
    PE X (.Call (.Name "list" p) [e] [] pos) (tE F (.mk pin (.list ee))) := ok_list B.fc.hK hc hg (B.fc.gno j _ hj).1 ha hs1 hpl
theorem w_cat (ha : PE X a (tE F ea)) (hb : PE X b (tE F eb)) : PE X (.BinOp a .Add b pos) (tE F (.mk pin (.cat ea eb))) := ok_cat ha hb
theorem w_rep (ha : PE X a (tE F ea)) (hb : PE X b (tE F eb)) : PE X (.BinOp a .Mult b pos) (tE F (.mk pin (.rep ea eb))) := ok_rep ha hb
/-! ### walks -/
theorem w_itE (B : Cb T X F) (he : PE X e (tE F ee)) : PI X tg e (tIt F (.e ee)) := ok_itE B.fc.hK he
theorem w_range (B : Cb T X F) (j : Nat) (he : PE X e (tE F ee)) (hj : T.free[j]? = some "range" := by kernel_rfl) (hg : Gl X "range" := by (show _ = _; kernel_rfl)) (hs1 : starEach (e :: []) X.env = (false, eval e X.env) :: starEach [] X.env := by rfl) (hs : starEach [e] X.env = [(false, eval e X.env)] := by rfl) :
    PI X tg (.Call (.Name "range" p) [e] [] pos) (tIt F (.range ee)) := ok_range hg (B.fc.gno j _ hj).1 he hs1 hs
theorem w_range2 (B : Cb T X F) (j : Nat) (he : PE X a (tE F ea)) (he2 : PE X b (tE F eb)) (hj : T.free[j]? = some "range" := by kernel_rfl) (hg : Gl X "range" := by (show _ = _; kernel_rfl)) (hs1 : starEach (a :: [b]) X.env = (false, eval a X.env) :: starEach [b] X.env := by rfl) (hs2 : starEach (b :: []) X.env = (false, eval b X.env) :: starEach [] X.env := by rfl)
    (hs : starEach [a, b] X.env = [(false, eval a X.env), (false, eval b X.env)] := by rfl) (hs3 : starEach [b] X.env = [(false, eval b X.env)] := by rfl) :
    PI X tg (.Call (.Name "range" p) [a, b] [] pos) (tIt F (.range2 ea eb)) := ok_range2 hg (B.fc.gno j _ hj).1 he he2 hs1 hs2 hs hs3
theorem w_enum (B : Cb T X F) (j : Nat) {tpos : Pos} {elts : List Expr} {kk : Nat} (he : PE X e (tE F ee)) (hj : T.free[j]? = some "enumerate" := by kernel_rfl) (hg : Gl X "enumerate" := by (show _ = _; kernel_rfl)) (hs1 : starEach (e :: []) X.env = (false, eval e X.env) :: starEach [] X.env := by rfl) (hs : starEach [e] X.env = [(false, eval e X.env)] := by rfl) :
    PI X (.Tuple elts kk tpos) (.Call (.Name "enumerate" p) [e] [] pos) (tIt F (.enum ee)) := ok_enum B.fc.hK hg (B.fc.gno j _ hj).1 he hs1 hs
theorem w_zip (B : Cb T X F) (j : Nat) {tpos : Pos} {elts : List Expr} {kk : Nat} (he : PE X a (tE F ea)) (he2 : PE X b (tE F eb)) (hj : T.free[j]? = some "zip" := by kernel_rfl) (hg : Gl X "zip" := by (show _ = _; kernel_rfl)) (hs1 : starEach (a :: [b]) X.env = (false, eval a X.env) :: starEach [b] X.env := by rfl) (hs2 : starEach (b :: []) X.env = (false, eval b X.env) :: starEach [] X.env := by rfl)
    (hpl : (backTo pos (starEach [b] X.env)).any (·.1) = false := by rfl) : PI X (.Tuple elts kk tpos) (.Call (.Name "zip" p) [a, b] [] pos) (tIt F (.zip ea eb)) := ok_zip B.fc.hK hg (B.fc.gno j _ hj).1 he he2 hs1 hs2 hpl
theorem w_items {tpos apos cpos : Pos} {elts : List Expr} {kk : Nat} (he : PE X e (tE F ee)) (hbase : attributeBase e "items" X.env (eval e X.env) = eval e X.env := by rfl) (hline : (apos.endLine == cpos.line) = true := by rfl) :
    PI X (.Tuple elts kk tpos) (.Call (.Attribute e "items" apos) [] [] cpos) (tIt F (.items ee)) := ok_items he hbase hline
/-! ### targets -/
theorem w_gname (B : Cb T X F) (i : Nat) {x : Str} (hN : X.N[i]? = some x := by kernel_rfl) (hv : X.env.scope.names.lookup x = some .local := by kernel_rfl) (hl : lkB F.lk i = true := by kernel_rfl) : PG X (.Name x pos) (tG F (.slot i)) := ok_gname B.nd hN (.inl hv) (.inr hv) (lkB_ok hl)
theorem w_gnameC (B : Cb T X F) (i : Nat) {x : Str} (hN : X.N[i]? = some x := by kernel_rfl) (hv : X.env.scope.names.lookup x = some .cell := by kernel_rfl) (hf : X.fn x = true := by rfl) (hl : lkB F.lk i = true := by kernel_rfl) : PG X (.Name x pos) (tG F (.slot i)) := ok_gname B.nd hN (.inr hv) (.inl hf) (lkB_ok hl)
theorem w_gcons {t : Pv.T} {ts : Ts} (h : PG X e (tG F t)) (hs : PGs X es (tGs F ts)) (hst : (assignEach (e :: es) X.env).map (·.2) = assign e X.env :: (assignEach es X.env).map (·.2) := by rfl) : PGs X (e :: es) (tGs F (.cons t ts)) := ok_gcons h hs hst
theorem w_gtup (B : Cb T X F) {k : Nat} (n : Nat) {ts : Ts} (h : PGs X es (tGs F ts)) (hc : X.calm = true := by rfl) (hn : (assignEach es X.env).length = n := by rfl) (hst : (assignEach es X.env).findIdx? (·.1) = none := by rfl) (hts : tsLen ts = n := by rfl) : PG X (.Tuple es k pos) (tG F (.tup ts)) := ok_gtup B.fc.hK hc h hn hst hts
/-! ### comprehensions -/
theorem w_lc (C : Ct T X F) {elt : Expr} {scope : Scope} (own : List (Str × Nat)) (hi : PI X tg iter (tIt F it))
    (hg : ∀ (s : Shared) (H : Hp) (cc : Addr) (cl : List (Str × Addr)) (fp : List Addr), Ct T (X.blk s H scope (compEnvC scope cl cc X.env) fp) F.cmp → PG (X.blk s H scope (compEnvC scope cl cc X.env) fp) tg (tG F.cmp t))
    (ht : ∀ (s : Shared) (H : Hp) (cc : Addr) (cl : List (Str × Addr)) (fp : List Addr), Ct T (X.blk s H scope (compEnvC scope cl cc X.env) fp) F.cmp → PTs (X.blk s H scope (compEnvC scope cl cc X.env) fp) ifs (tTs F.cmp ifs'))
    (he : ∀ (s : Shared) (H : Hp) (cc : Addr) (cl : List (Str × Addr)) (fp : List Addr), Ct T (X.blk s H scope (compEnvC scope cl cc X.env) fp) F.cmp → PE (X.blk s H scope (compEnvC scope cl cc X.env) fp) elt (tE F.cmp ee))
    (hlk : F.lk = [] := by rfl) (hc : X.calm = true := by rfl) (ok : blkC X.N X.env.scope scope own = true := by kernel_rfl) (hown : own.map (·.2) = slotsT t := by rfl) (hs : ∀ x, foldedSetIterable iter X.env x = pure x := by exact fun _ => rfl) :
    PE X (.ListComp elt [⟨tg, iter, ifs, 0⟩] scope pos) (tE F (.mk pin (.comp ee (.mk t it ifs')))) :=
  ok_comp hlk hc C.nd hi (blkOk_by ok) hown (fun s H cc cl fp => hg s H cc cl fp (C.blk hlk s H scope _ fp)) (fun s H cc cl fp => ht s H cc cl fp (C.blk hlk s H scope _ fp)) (fun s H cc cl fp => he s H cc cl fp (C.blk hlk s H scope _ fp)) hs
theorem w_setLc (C : Ct T X F) (i : Nat) {y : Str} {py spos : Pos} {elt : Expr} {scope : Scope} (own : List (Str × Nat)) (hi : PI X tg iter (tIt F it))
    (hg : ∀ (s : Shared) (H : Hp) (cc : Addr) (cl : List (Str × Addr)) (fp : List Addr), Ct T (X.blk s H scope (compEnvC scope cl cc X.env) fp) F.cmp → PG (X.blk s H scope (compEnvC scope cl cc X.env) fp) tg (tG F.cmp t))
    (ht : ∀ (s : Shared) (H : Hp) (cc : Addr) (cl : List (Str × Addr)) (fp : List Addr), Ct T (X.blk s H scope (compEnvC scope cl cc X.env) fp) F.cmp → PTs (X.blk s H scope (compEnvC scope cl cc X.env) fp) ifs (tTs F.cmp ifs'))
    (he : ∀ (s : Shared) (H : Hp) (cc : Addr) (cl : List (Str × Addr)) (fp : List Addr), Ct T (X.blk s H scope (compEnvC scope cl cc X.env) fp) F.cmp → PE (X.blk s H scope (compEnvC scope cl cc X.env) fp) elt (tE F.cmp ee))
    (hy : X.N[i]? = some y := by kernel_rfl) (hyl : X.env.scope.names.lookup y = some .local := by kernel_rfl) (hk : X.env.scope.kind = .function := by rfl) (hli : (py.line == pos.line) = true := by kernel_rfl) (hl2 : spos.line = pos.line := by rfl) (hnn : (scope.names.any fun (n, k) => n == y && (k == .local || k == .cell)) = false := by kernel_rfl)
    (hlk : F.lk = [] := by rfl) (hc : X.calm = true := by rfl) (ok : blkC X.N X.env.scope scope own = true := by kernel_rfl) (hown : own.map (·.2) = slotsT t := by rfl) (hs : ∀ x, foldedSetIterable iter X.env x = pure x := by exact fun _ => rfl) :
    PS X (.Assign [.Name y py] (.ListComp elt [⟨tg, iter, ifs, 0⟩] scope pos) spos) (tS F (.asg (.slot i) (.mk pin (.comp ee (.mk t it ifs'))))) :=
  ok_setLc hlk hc C.nd hy hyl (by first | exact sw_true hk hyl hli hnn | (rw [hl2]; exact sw_true hk hyl hli hnn)) hi (blkOk_by ok) hown (fun s H cc cl fp => hg s H cc cl fp (C.blk hlk s H scope _ fp)) (fun s H cc cl fp => ht s H cc cl fp (C.blk hlk s H scope _ fp)) (fun s H cc cl fp => he s H cc cl fp (C.blk hlk s H scope _ fp)) hs
theorem w_dc (C : Ct T X F) {kx vx : Expr} {ek ev : E} {tt : Bool} {scope : Scope} (own : List (Str × Nat)) (hi : PI X tg iter (tIt F it))
    (hg : ∀ (s : Shared) (H : Hp) (cc : Addr) (cl : List (Str × Addr)) (fp : List Addr), Ct T (X.blk s H scope (compEnvC scope cl cc X.env) fp) F.cmp → PG (X.blk s H scope (compEnvC scope cl cc X.env) fp) tg (tG F.cmp t))
    (ht : ∀ (s : Shared) (H : Hp) (cc : Addr) (cl : List (Str × Addr)) (fp : List Addr), Ct T (X.blk s H scope (compEnvC scope cl cc X.env) fp) F.cmp → PTs (X.blk s H scope (compEnvC scope cl cc X.env) fp) ifs (tTs F.cmp ifs'))
    (hk : ∀ (s : Shared) (H : Hp) (cc : Addr) (cl : List (Str × Addr)) (fp : List Addr), Ct T (X.blk s H scope (compEnvC scope cl cc X.env) fp) F.cmp → PE (X.blk s H scope (compEnvC scope cl cc X.env) fp) kx (tE F.cmp ek))
    (he : ∀ (s : Shared) (H : Hp) (cc : Addr) (cl : List (Str × Addr)) (fp : List Addr), Ct T (X.blk s H scope (compEnvC scope cl cc X.env) fp) F.cmp → PE (X.blk s H scope (compEnvC scope cl cc X.env) fp) vx (tE F.cmp ev))
    (hlk : F.lk = [] := by rfl) (hc : X.calm = true := by rfl) (ok : blkC X.N X.env.scope scope own = true := by kernel_rfl) (hown : own.map (·.2) = slotsT t := by rfl) (hs : ∀ x, foldedSetIterable iter X.env x = pure x := by exact fun _ => rfl) :
    PE X (.DictComp kx vx [⟨tg, iter, ifs, 0⟩] scope pos) (tE F (.mk pin (.dcomp tt ek ev (.mk t it ifs')))) :=
  ok_dcomp hlk (by have := C.hu; omega) hc C.nd hi (blkOk_by ok) hown (fun s H cc cl fp => hg s H cc cl fp (C.blk hlk s H scope _ fp)) (fun s H cc cl fp => ht s H cc cl fp (C.blk hlk s H scope _ fp)) (fun s H cc cl fp => hk s H cc cl fp (C.blk hlk s H scope _ fp)) (fun s H cc cl fp => he s H cc cl fp (C.blk hlk s H scope _ fp)) hs
/-! ### statements -/
variable {st : Stmt} {rest body ba bb : List Stmt} {s : S} {ss sa sb : Ss}
theorem w_expr (he : PE X e (tE F ee)) (hsw : swapsWith e none pos.line X.env = pure false := by rfl) : PS X (.Expr e pos) (tS F (.expr ee)) := ok_expr he hsw
theorem w_asg (he : PE X e (tE F ee)) (hg : PG X tg (tG F t)) (hs : swapsWithSole [tg] e pos.line X.env = pure false := by rfl) (hw : swappedStores [tg] e X.env = pure none := by rfl) (h1 : (assignEach [tg] X.env).map (·.2) = [assign tg X.env] := by rfl) : PS X (.Assign [tg] e pos) (tS F (.asg t ee)) := ok_asg he hg hs hw h1
theorem w_set (B : Cb T X F) (i : Nat) {x : Str} {px : Pos} (he : PE X e (tE F ee)) (hN : X.N[i]? = some x := by kernel_rfl) (hv : X.env.scope.names.lookup x = some .local := by kernel_rfl) (hl : lkB F.lk i = true := by kernel_rfl) (hs : swapsWith e (some (.Name x px)) pos.line X.env = pure false := by rfl) : PS X (.Assign [.Name x px] e pos) (tS F (.asg (.slot i) ee)) := ok_set B.nd hN (.inl hv) (lkB_ok hl) he hs (.inr hv)
theorem w_setC (B : Cb T X F) (i : Nat) {x : Str} {px : Pos} (he : PE X e (tE F ee)) (hN : X.N[i]? = some x := by kernel_rfl) (hv : X.env.scope.names.lookup x = some .cell := by kernel_rfl) (hf : X.fn x = true := by rfl) (hl : lkB F.lk i = true := by kernel_rfl) (hs : swapsWith e (some (.Name x px)) pos.line X.env = pure false := by rfl) : PS X (.Assign [.Name x px] e pos) (tS F (.asg (.slot i) ee)) := ok_set B.nd hN (.inr hv) (lkB_ok hl) he hs (.inl hf)
theorem w_par (B : Cb T X F) (i j : Nat) {x y : Str} {px py pt : Pos} {kt k2 pt2} (ha : PA X [a, b] (tEs F ees)) (hi : X.N[i]? = some x := by kernel_rfl) (hj : X.N[j]? = some y := by kernel_rfl) (hij : i ≠ j := by decide) (hli : lkB F.lk i = true := by kernel_rfl) (hlj : lkB F.lk j = true := by kernel_rfl) (hc : X.calm = true := by rfl)
    (hx : X.env.scope.names.lookup x = some .local := by kernel_rfl) (hy : X.env.scope.names.lookup y = some .local := by kernel_rfl) (hw : swappedStores [.Tuple [.Name x px, .Name y py] kt pt] (.Tuple [a, b] k2 pt2) X.env = pure (some [x, y]) := by rfl) (hs : swapsWithSole [.Tuple [.Name x px, .Name y py] kt pt] (.Tuple [a, b] k2 pt2) pos.line X.env = pure false := by rfl) :
    PS X (.Assign [.Tuple [.Name x px, .Name y py] kt pt] (.Tuple [a, b] k2 pt2) pos) (tS F (.asg (.tup (.cons (.slot i) (.cons (.slot j) .nil))) (.tup ees))) :=
  ok_par hc B.nd hi hj hij (lkB_ok hli) (lkB_ok hlj) hx hy ha (ps_par hc B.nd hi hj hij hx hy ha hw hs)
theorem w_asgF (B : Cb T X F) (f : Nat) {x : Str} {px : Pos} (ha : PE X a (tE F ea)) (he : PE X e (tE F ee)) (hf : T.flds[f]? = some x := by kernel_rfl) (hsw : swapsWith e (some (.Attribute a x px)) pos.line X.env = pure false := by rfl) : PS X (.Assign [.Attribute a x px] e pos) (tS F (.asgF ea f ee)) :=
  ok_asgF (by rw [B.P]; exact B.fc.ckit) (B.fc.fn f x hf).symm ha he hsw
theorem w_asgI (B : Cb T X F) {i : Expr} {ei : E} {px : Pos} (ha : PE X a (tE F ea)) (hi : PE X i (tE F ei)) (he : PE X e (tE F ee)) (hs : swapsWithSole [.Subscript a i px] e pos.line X.env = pure false := by rfl) (hw : swappedStores [.Subscript a i px] e X.env = pure none := by rfl)
    (h1 : (assignEach [.Subscript a i px] X.env).map (·.2) = [assign (.Subscript a i px) X.env] := by rfl)
    (h2 : ∀ v, assign (.Subscript a i px) X.env v = (do
      let ov ← holding [v] (eval a X.env)
      let iv ← holding [v, ov] (eval i X.env)
      standAt px
      holding [v, ov, iv] (setItem ov iv v)
      release [v, ov, iv] []) := by exact fun _ => rfl) : PS X (.Assign [.Subscript a i px] e pos) (tS F (.asgI ea ei ee)) := ok_asgI (by have := B.hu; omega) ha hi he hs hw h1 h2
theorem w_for (po : PassesOwn (model X.prog X.w) X.A X.env X.xe) (hi : PI X tg iter (tIt F it)) (hg : PG X tg (tG F t)) (hb : PSs X body (tSs F ss)) (hc : X.calm = true := by rfl) (hfs : ∀ x, foldedSetIterable iter X.env x = pure x := by exact fun _ => rfl) : PS X (.For tg iter body [] pos) (tS F (.for_ t it ss)) := ok_for po hc hi hg hb hfs
theorem w_while (po : PassesOwn (model X.prog X.w) X.A X.env X.xe) (hc : PT X c (tT F ec)) (hb : PSs X body (tSs F ss)) : PS X (.While c body [] pos) (tS F (.while_ ec ss)) := ok_while po hc hb
theorem w_raise0 (C : Ct T X F) (j k : Nat) {x : Str} {pos2 : Pos} (hj : T.er0[j]? = some k := by kernel_rfl) (hx : T.cls[k]? = some x := by kernel_rfl) (hg : Gl X x := by (show _ = _; kernel_rfl)) (hc : X.calm = true := by rfl) : PS X (.Raise (some (.Call (.Name x p) [] [] pos)) none pos2) (tS F (.raise k .nil)) :=
  ok_raise0 (k := 7) hc C.tk C.rm (C.er0 j k hj) hg (C.fc.gcl k x hx).1 (C.fc.gcl k x hx).2
theorem w_raise1 (C : Ct T X F) (j k f : Nat) {x : Str} {pos2 : Pos} (he : PE X a (tE F ea)) (hj : T.er1[j]? = some (k, f) := by kernel_rfl) (hx : T.cls[k]? = some x := by kernel_rfl) (hg : Gl X x := by (show _ = _; kernel_rfl)) (hc : X.calm = true := by rfl) (hst : starEach (a :: []) X.env = (false, eval a X.env) :: starEach [] X.env := by rfl) (hpl : (backTo pos (starEach [] X.env)).any (·.1) = false := by rfl) :
    PS X (.Raise (some (.Call (.Name x p) [a] [] pos)) none pos2) (tS F (.raise k (.cons ea .nil))) := ok_raise1 (k := 7) hc C.tk C.rm (C.er1 j k f hj) hg (C.fc.gcl k x hx).1 (C.fc.gcl k x hx).2 he hst hpl
end
end Pv
end

section
set_option maxRecDepth 100000
set_option maxHeartbeats 4000000
namespace Pv
open PySem PySem.Spec PyProof.Rows L2 LamX NdefX
def ndB : List Str → Bool
  | [] => true
  | x :: l => !(l.contains x) && ndB l
theorem ndB_ok : ∀ {l : List Str}, ndB l = true → l.Nodup
  | [], _ => .nil
  | x :: l, h => by
    obtain ⟨h1, h2⟩ := Bool.and_eq_true_iff.mp h
    refine List.nodup_cons.mpr ⟨fun m => ?_, ndB_ok h2⟩
    rw [List.contains_iff_mem.mpr m] at h1
    cases h1
section
variable {T : Tb} {X : Cx} {F : Fr} {body suite sts rest : List Stmt} {b0 : Stmt} {sb ss : Ss} {np pos pos' p q : Pos}
theorem w_try (C : Ct T X F) (i c : Nat) {x n : Str}
    (hb : ∀ (W : WX) (pn : List (Addr × Obj)) (xe : Value → Shared → Prop), Ct T (X.tr pn xe) { F with W := W } → PassesOwn (model X.prog X.w) X.A X.env xe → PSs (X.tr pn xe) body (tSs { F with W := W } sb))
    (hsu : ∀ (a : Addr) (oe : Obj) (cls : Value) (d : Option Addr) (pn : List (Addr × Obj)), Zc cls d oe → (∃ vs, oe.data = .fields vs) → Cb T (X.suite a ((a, oe) :: pn)) { F with bad := some ⟨i, a, cls, d⟩, W := fun _ _ _ _ => False } → PSs (X.suite a ((a, oe) :: pn)) (b0 :: suite) (tSs { F with bad := some ⟨i, a, cls, d⟩, W := fun _ _ _ _ => False } ss))
    (hx : T.cls[c]? = some x := by kernel_rfl) (hg : Gl X x := by (show _ = _; kernel_rfl)) (hi : X.N[i]? = some n := by kernel_rfl) (hln : X.env.kindOf n = some .local := by kernel_rfl) (hisx : T.P.isx c = true := by kernel_rfl) (hlk : F.lk = [] := by rfl) (hbad : F.bad = none := by rfl) (hs : X.stack = X.env :: X.outer := by rfl) (hf : X.env.frame = some X.env.locals := by rfl) :
    PS X (.Try body [.ExceptHandler (some (.Name x np)) (some n) (b0 :: suite) pos'] [] [] pos) (tS F (.try_ sb (.cons [.own c] (some i) ss .nil))) :=
  ok_try_as hs hf C.nd hi hln ⟨hg, (C.fc.gcl c x hx).2, .inl (C.fc.gcl c x hx).1⟩ C.tk hbad (by rw [hlk]; simp) (fun e cls dd w H r => by
    obtain ⟨ec, fs⟩ := e
    cases ec with
    | own k =>
      obtain ⟨r1, _⟩ := r
      rw [r1, C.fc.xm k c hisx, C.P]
      simp [exCatch, exIsC]
    | bi n =>
      obtain ⟨r1, _⟩ := r
      rw [r1, C.fc.xb n c hisx]
      simp [exCatch, exIsC]) (fun W pn xe tk po => hb W pn xe (C.try_ tk) po) (fun a oe cls d pn z f => hsu a oe cls d pn z f (C.toCb.suite hlk _ _ _))
theorem w_exIs {a : Addr} {oe : Obj} {pn : List (Addr × Obj)} {ce : Expr} {c : Pv.Cl} {err : Str} {b : Bad} (B : Cb T (X.suite a ((a, oe) :: pn)) F) (i j : Nat) (hz : Zc b.cls b.dd oe) (hf : ∃ vs, oe.data = .fields vs) (hc : PE (X.suite a ((a, oe) :: pn)) ce (tC (clsV F.Y c))) (hb : F.bad = some b := by rfl) (ha : b.a = a := by rfl) (hi : b.i = i := by rfl) (hu : T.used c = true := by kernel_rfl)
    (hN : X.N[i]? = some err := by kernel_rfl) (hv : X.env.scope.names.lookup err = some .local := by kernel_rfl) (hj : T.free[j]? = some "isinstance" := by kernel_rfl) (hg : Gl X "isinstance" := by (show _ = _; kernel_rfl))
    (he : starEach (.Name err q :: [ce]) X.env = (false, eval (.Name err q) X.env) :: starEach [ce] X.env := by rfl) (he2 : starEach (ce :: []) X.env = (false, eval ce X.env) :: starEach [] X.env := by rfl) (hpl : (backTo pos (starEach [ce] X.env)).any (·.1) = false := by rfl) :
    PE (X.suite a ((a, oe) :: pn)) (.Call (.Name "isinstance" p) (.Name err q :: [ce]) [] pos) (tE F (.exIs i c)) :=
  ok_exIs hz hf ha hb hi (by rw [B.P]; exact B.fc.ekit) hu hN (.inl hv) (w_nu B hN).1 (w_nu B hN).2 hg (B.fc.gno j _ hj).1 hc he he2 hpl
theorem w_exFld {a : Addr} {oe : Obj} {pn : List (Addr × Obj)} {n err : Str} {b : Bad} (B : Cb T (X.suite a ((a, oe) :: pn)) F) (i f : Nat) (hz : Zc b.cls b.dd oe) (hf : ∃ vs, oe.data = .fields vs) (hb : F.bad = some b := by rfl) (ha : b.a = a := by rfl) (hi : b.i = i := by rfl)
    (hfn : T.flds[f]? = some n := by kernel_rfl) (hN : X.N[i]? = some err := by kernel_rfl) (hv : X.env.scope.names.lookup err = some .local := by kernel_rfl) (hba : attributeBase (.Name err q) n X.env (eval (.Name err q) X.env) = eval (.Name err q) X.env := by rfl) :
    PE (X.suite a ((a, oe) :: pn)) (.Attribute (.Name err q) n pos) (tE F (.exFld i f)) :=
  ok_exFld hz hf ha hb hi (B.fc.fn f n hfn).symm (fun c h => by rw [B.P] at h; exact ⟨B.fc.xf c h, B.fc.xn c f n h hfn⟩) hN (.inl hv) (w_nu B hN).1 (w_nu B hN).2 hba
/-- lambda: .. -/
theorem w_lam (C : Ct T X F) (i : Nat) (js : List Nat) {TT : List NTab} {nm : Nat → Nat → Str} {c P : Addr} {params : Arguments} {bd : Expr} {scope : Scope} (TB : TabB X.base X.mg c P) (hcode : X.env.code = .ref c) (hm : (P, nm) ∈ TT) (hu : ∀ p ∈ TT, p.1 = P → p.2 = nm) (ht : ∀ H, F.Y.tab H ↔ TabsN TT H) {nf : Nf} (hnf : F.Y.nf i = some nf) (hq : nf = ⟨"<lambda>", X.env.qual ++ "<lambda>", params, .expr bd, scope, capNames scope.names⟩ := by rfl)
    (hn : nm pos.line pos.col = X.env.qual ++ "<lambda>" := by rfl) (hdef : defaultsOf params X.env = ([], []) := by rfl) (hfr : ndefB X.env.scope scope [] = true := by kernel_rfl) (hjs : js.map (fun j => X.N[j]?) = (capNames scope.names).map some := by kernel_rfl) (hnd : ndB (capNames scope.names) = true := by kernel_rfl) (hin : js.all (fun j => F.lk.contains j) = true := by kernel_rfl) (hbad : F.bad = none := by rfl) :
    PE X (.Lambda params bd scope pos) (tE F (.lam i js)) := ok_lam C.fk TB hcode hm hn hu ht hdef (ndef_free hfr) (by rw [hnf, hq]) hjs (ndB_ok hnd) (fun j hj => ⟨by
      have z := List.all_eq_true.mp hin j hj
      exact List.contains_iff_mem.mp z, by rw [hbad]; exact fun z => nomatch z⟩)
end
/-! ### ways into a text -/
def sVal : Stmt → Expr
  | .Assign _ v _ => v
  | .Expr v _ => v
  | .Return (some v) _ => v
  | _ => default
def sIn (k : Nat) : Stmt → List Stmt
  | .For _ _ b e _ => if k = 0 then b else e
  | .While _ b e _ => if k = 0 then b else e
  | .If _ b e _ => if k = 0 then b else e
  | .Try b _ e f _ => if k = 0 then b else if k = 1 then e else f
  | .FunctionDef _ _ b _ _ _ _ _ _ _ => b
  | _ => []
def sAt (l : List Stmt) (i : Nat) : Stmt := l.getD i (.Pass ⟨0, 0, 0, 0⟩)
def eAt (i : Nat) : Expr → Expr
  | .Call _ as _ _ => as.getD i default
  | .List es _ => es.getD i default
  | .Tuple es _ _ => es.getD i default
  | _ => default
def lamP : Expr → Arguments
  | .Lambda a _ _ _ => a
  | _ => default
def lamB : Expr → Expr
  | .Lambda _ b _ _ => b
  | _ => default
def lamS : Expr → Scope
  | .Lambda _ _ s _ => s
  | _ => { kind := .function, names := [], isGenerator := false, isCoroutine := false }
/-- the lambda e of the def q -/
def lamN (q : Str) (e : Expr) : Nf := ⟨"<lambda>", (q ++ ".<locals>.") ++ "<lambda>", lamP e, .expr (lamB e), lamS e, capNames (lamS e).names⟩
def celB (N : List Str) (sc : Scope) (js : List Nat) : Bool := js.all fun j => match N[j]? with
  | some x => decide (sc.names.lookup x = some .cell)
  | none => false
theorem celB_ok {N : List Str} {sc : Scope} {js : List Nat} (h : celB N sc js = true) : ∀ j ∈ js, ∃ x, N[j]? = some x ∧ sc.names.lookup x = some .cell := fun j hj => by
  have z := List.all_eq_true.mp h j hj
  split at z
  · rename_i x e
    exact ⟨x, e, of_decide_eq_true z⟩
  · cases z
section
variable {Tt : Tb} {prog : Program} {wd : World} {K : PySem.W.Frag} {mg : Str → Option Value} {base : Heap} {Y : At} {P : Pv.Cls} {Cc : Calls} {f : Addr} {cdv : Value} {A : Around} {outer : List PySem.Env} {s : Shared} {H : Hp} {E E' : XK} {N : List Str} {qual : Str} {scope : Scope} {sts rest : List Stmt} {b ss : Ss}
/-- a stretch of a def within which cells are told -/
theorem w_blk (C : Ct Tt (cxOf (L2.CX prog wd) prog wd K mg base N qual scope f cdv A outer s H E) (F0 Y P Cc E')) (js : List Nat) (hb : Ct Tt (cxOf (L2.CX prog wd) prog wd K mg base N qual scope f cdv A outer s H E) ((F0 Y P Cc E').told (cxOf (L2.CX prog wd) prog wd K mg base N qual scope f cdv A outer s H E) js) → PSs (cxOf (L2.CX prog wd) prog wd K mg base N qual scope f cdv A outer s H E) sts (tSs ((F0 Y P Cc E').told (cxOf (L2.CX prog wd) prog wd K mg base N qual scope f cdv A outer s H E) js) b))
    (hr : PSs (cxOf (L2.CX prog wd) prog wd K mg base N qual scope f cdv A outer s H E) rest (tSs (F0 Y P Cc E') ss)) (hj : celB N scope js = true := by kernel_rfl) : PSs (cxOf (L2.CX prog wd) prog wd K mg base N qual scope f cdv A outer s H E) (sts ++ rest) (tSs (F0 Y P Cc E') (.cons (.blk js b) ss)) :=
  ok_blk rfl rfl (fun j h => let ⟨x, h1, h2⟩ := celB_ok hj j h; ⟨x, h1, .inl h2⟩) (hb (C.told (told_ok C.fc.hK (celB_ok hj)))) hr
end
end Pv
end

section
set_option maxRecDepth 100000
set_option maxHeartbeats 4000000
namespace Pv
open PySem PySem.Spec PyProof.Rows L2 LamX NdefX
/-! ### all defs, by the depth of calls -/
def Lv (d : Nat) : Nat := 2 * d + 8
abbrev psOf (d : He.DefD) : List Str := d.params.args.map (·.arg)
abbrev FunI (K : PySem.W.Frag) (d : He.DefD) (f : Addr) (fd : FuncData) : Prop := FunD K d.name d.qual d.params d.body d.scope [] [] f fd
/-- an own error's class with what stands fast of it -/
structure Er (prog : Program) (K : PySem.W.Frag) (mg : Str → Option Value) (C : Addr) : Prop where
  S : PvX.SupC prog K mg C
  gt : PySem.W.keepIn K (.ref C) = true
  r1 : PySem.W.subIn K (.ref C) (.type "BaseException") = some true
  r2 : PySem.W.typeIn K (.ref C) = some (.type "type")
  top : (prog.main.scope.names.lookup ("super" : Str)).isSome = false
theorem Er.at_ {X : Cx} {C f : Addr} (e : Er X.prog X.K X.mg C) : ErrC X C f := ⟨e.S, e.gt, raises_own e.r1 e.r2, e.top⟩
structure Er0 (prog : Program) (K : PySem.W.Frag) (mg : Str → Option Value) (Y : At) (P : Pv.Cls) (c : Nat) : Prop where
  e : ∃ (fI : Addr) (params : Arguments) (scope : Scope) (ar : Arg) (tx : Str) (j : Nat) (p0 p1 pa pk pc pe : Pos), Er prog K mg (Y.ca c) ∧ PvX.InitF prog K (Y.ca c) fI params [PvX.supS tx j p0 p1 pa pk pc pe] scope ∧
    PvX.Txt params ar (fun us => (["self"] : List Str).zip us) scope tx j p0 p1 pa pk pc pe [] 1 ∧ ar.arg = "self"
  x : P.exf c = []
structure Er1 (prog : Program) (K : PySem.W.Frag) (mg : Str → Option Value) (Y : At) (P : Pv.Cls) (c f : Nat) : Prop where
  e : ∃ (fI : Addr) (params : Arguments) (scope : Scope) (ar : Arg) (tx : Str) (j : Nat) (p0 p1 pa pk pc pe q1 q2 q3 q4 : Pos), Er prog K mg (Y.ca c) ∧ PvX.InitF prog K (Y.ca c) fI params [PvX.supS tx j p0 p1 pa pk pc pe, PvX.setS (Y.fn f) q1 q2 q3 q4] scope ∧
    PvX.Txt params ar (fun us => (["self", Y.fn f] : List Str).zip us) scope tx j p0 p1 pa pk pc pe [PvX.setS (Y.fn f) q1 q2 q3 q4] 2 ∧ ar.arg = "self" ∧ Y.fn f ≠ "self" ∧ (Y.fn f == ("__debug__" : Str)) = false ∧ scope.names.lookup (Y.fn f) = some .local ∧ scope.names.lookup ("self" : Str) = some .local ∧
    PySem.W.findIn K (.ref (Y.ca c)) "__setattr__" = some (some (.builtin "object.__setattr__")) ∧ PySem.W.findIn K (.ref (Y.ca c)) (Y.fn f) = some none ∧
    (∀ env : PySem.Env, swapsWith (.Name (Y.fn f) q3) (some (.Attribute (.Name "self" q1) (Y.fn f) q2)) q4.line env = pure false)
  x : P.exf c = [f]
/-- the program, its table, what the written part says -/
structure Sta (T : Tb) (ds : List He.DefD) (Fs : Nat → Option Fn) (prog : Program) (K : PySem.W.Frag) (mg : Str → Option Value) (Y : At) : Prop where
  fc : Facts T K mg Y
  fd : ∀ i d, ds[i]? = some d → ∃ fd, FunI K d (Y.fa i) fd
  bd : ∀ i d fd, ds[i]? = some d → FunI K d (Y.fa i) fd → Binds K fd (psOf d) []
  len : ds.length = T.fns.length
  out : ∀ i fn, Fs i = some fn → Y.nf i = none → i < T.fns.length
  nn : ∀ i, i < T.fns.length → Y.nf i = none
  er0 : ∀ (j c : Nat), T.er0[j]? = some c → Er0 prog K mg Y T.P c
  er1 : ∀ (j c f : Nat), T.er1[j]? = some (c, f) → Er1 prog K mg Y T.P c f
section
variable {T : Tb} {ds : List He.DefD} {Fs : Nat → Option Fn} {prog : Program} {wd : World} {K : PySem.W.Frag} {mg : Str → Option Value} {base : Heap} {Y : At}
structure All (T : Tb) (ds : List He.DefD) (Fs : Nat → Option Fn) (prog : Program) (wd : World) (K : PySem.W.Frag) (mg : Str → Option Value) (base : Heap) (Y : At) (d : Nat) : Prop where
  fn : ∀ i dd fd, ds[i]? = some dd → FunI K dd (Y.fa i) fd → FnOk prog wd K mg base (L2.CX prog wd) (Lv d) (Y.fa i) fd (psOf dd) (spC Y (callAt T.P Fs d) i)
  clo : ∀ i n, Y.nf i = some n → CloRun prog wd K mg base Y (callAt T.P Fs d) (Lv d) i
theorem All.zero : All T ds Fs prog wd K mg base Y 0 := by
  refine ⟨fun i dd fd _ _ => ⟨fun vs H Q E h => ?_, fun A outer s H args us vs Q E _ _ _ _ h => ?_⟩, fun i n hn n' hn' A outer s H us vs f c' cs w h l caps cv Q E Qd Xd _ _ _ _ _ _ _ _ _ _ _ _ hc => hc.elim⟩
  · obtain ⟨_, _, _, _, _, _, _, _, c, _⟩ := h
    exact c.elim
  · obtain ⟨_, _, _, _, _, _, _, _, c, _⟩ := h
    exact c.elim
theorem All.out (S : Sta T ds Fs prog K mg Y) {d : Nat} : ∀ i l h Q E, callAt T.P Fs d i l h Q E → Y.nf i = none → i < T.fns.length := fun i l h Q E c n => by
  cases d with
  | zero => exact c.elim
  | succ d =>
    obtain ⟨fn, e, _⟩ := c
    exact S.out i fn e n
theorem All.df (S : Sta T ds Fs prog K mg Y) {d : Nat} (a : All T ds Fs prog wd K mg base Y d) {A : Around} (hr : Room (Lv d + 1) A) : ∀ i, i < T.fns.length → ∃ k fd ps, FnOk prog wd K mg base (L2.CX prog wd) k (Y.fa i) fd ps (spC Y (callAt T.P Fs d) i) ∧ Room (k + 1) A ∧ Binds K fd ps [] := fun i hi => by
  rw [← S.len] at hi
  have e : ds[i]? = some ds[i] := List.getElem?_eq_getElem hi
  obtain ⟨fd, F⟩ := S.fd i _ e
  exact ⟨Lv d, fd, _, a.fn i _ fd e F, hr, S.bd i _ fd e F⟩
def nuB : List Str → Bool
  | [] => true
  | x :: l => !(x == ("__debug__" : Str)) && !(x == ("__classdict__" : Str)) && nuB l
theorem nuB_ok : ∀ {l : List Str}, nuB l = true → ∀ x ∈ l, (x == ("__debug__" : Str)) = false ∧ (x == ("__classdict__" : Str)) = false
  | [], _, x, m => nomatch m
  | y :: l, h, x, m => by
    obtain ⟨h1, h2⟩ := Bool.and_eq_true_iff.mp h
    rcases List.mem_cons.mp m with rfl | m
    · obtain ⟨h3, h4⟩ := Bool.and_eq_true_iff.mp h1
      exact ⟨by simpa using h3, by simpa using h4⟩
    · exact nuB_ok h2 x m
/-- where a def's body stands -/
theorem ctx0 {N : List Str} {qual : Str} {scope : Scope} {f : Addr} {cdv : Value} {A : Around} {outer : List PySem.Env} {s : Shared} {H : Hp} {E : XK} {d : Nat} (S : Sta T ds Fs prog K mg Y) (a : All T ds Fs prog wd K mg base Y d) (hr : Room (Lv d + 1) (A.deeper (envOfC qual scope s.heap.objs.size f cdv))) (nd : N.Nodup) (nu : nuB N = true) :
    Ct T (cxOf (L2.CX prog wd) prog wd K mg base N qual scope f cdv A outer s H E) (F0 Y T.P (callAt T.P Fs d) E) :=
  ⟨⟨S.fc, rfl, F0.ok S.fc.hK, nd, nuB_ok nu, by have h1 := hr.un; have h2 : Lv d + 1 = 2 * d + 9 := rfl; show (A.deeper (envOfC qual scope s.heap.objs.size f cdv)).units + 68 < cLine; rw [h2] at h1; omega⟩, takes_of rfl rfl rfl rfl, All.df S a hr, All.out S, S.nn,
    fun i n h => ⟨_, a.clo i n h, hr.mono (Nat.le_succ _)⟩, fun j c h => ⟨by
      obtain ⟨fI, x1, x2, x3, x4, x5, x6, x7, x8, x9, x10, x11, e, i, t⟩ := (S.er0 j c h).e
      exact ⟨fI, x1, x2, x3, x4, x5, x6, x7, x8, x9, x10, x11, Er.at_ e, i, t⟩, (S.er0 j c h).x⟩, fun j c g h => ⟨by
      obtain ⟨fI, x1, x2, x3, x4, x5, x6, x7, x8, x9, x10, x11, y1, y2, y3, y4, e, i, t⟩ := (S.er1 j c g h).e
      exact ⟨fI, x1, x2, x3, x4, x5, x6, x7, x8, x9, x10, x11, y1, y2, y3, y4, Er.at_ e, i, t⟩, (S.er1 j c g h).x⟩, hr.mono (by show 8 ≤ 2 * d + 8 + 1; omega)⟩
/-- where a made def's body stands -/
theorem ctx1 {N : List Str} {nf : NF} {f : Addr} {A : Around} {outer : List PySem.Env} {s : Shared} {H : Hp} {E : XK} {d m : Nat} {cs : List (Str × Addr)} (S : Sta T ds Fs prog K mg Y) (a : All T ds Fs prog wd K mg base Y d) (hr : Room (Lv d + 1) (A.deeper (envF nf f s.heap.objs.size))) (nd : N.Nodup) (nu : nuB N = true)
    (fk : FrOk (ncx (L2.CX prog wd) prog wd K mg base N nf f A outer s H E) (F1 Y T.P (callAt T.P Fs d) E m cs)) : Ct T (ncx (L2.CX prog wd) prog wd K mg base N nf f A outer s H E) (F1 Y T.P (callAt T.P Fs d) E m cs) :=
  ⟨⟨S.fc, rfl, fk, nd, nuB_ok nu, by have h1 := hr.un; have h2 : Lv d + 1 = 2 * d + 9 := rfl; show (A.deeper (envF nf f s.heap.objs.size)).units + 68 < cLine; rw [h2] at h1; omega⟩, takes_of rfl rfl rfl rfl, All.df S a hr, All.out S, S.nn,
    fun i n h => ⟨_, a.clo i n h, hr.mono (Nat.le_succ _)⟩, fun j c h => ⟨by
      obtain ⟨fI, x1, x2, x3, x4, x5, x6, x7, x8, x9, x10, x11, e, i, t⟩ := (S.er0 j c h).e
      exact ⟨fI, x1, x2, x3, x4, x5, x6, x7, x8, x9, x10, x11, Er.at_ e, i, t⟩, (S.er0 j c h).x⟩, fun j c g h => ⟨by
      obtain ⟨fI, x1, x2, x3, x4, x5, x6, x7, x8, x9, x10, x11, y1, y2, y3, y4, e, i, t⟩ := (S.er1 j c g h).e
      exact ⟨fI, x1, x2, x3, x4, x5, x6, x7, x8, x9, x10, x11, y1, y2, y3, y4, Er.at_ e, i, t⟩, (S.er1 j c g h).x⟩, hr.mono (by show 8 ≤ 2 * d + 8 + 1; omega)⟩
/-- a def, one call deeper -/
theorem step_fn {i d : Nat} {fn : Fn} {dd : He.DefD} {fd : FuncData} {N : List Str} (S : Sta T ds Fs prog K mg Y) (a : All T ds Fs prog wd K mg base Y d) (F : FunI K dd (Y.fa i) fd) (sc : FnScope N (psOf dd) dd.scope) (hF : Fs i = some fn) (hp : fn.params = (psOf dd).length) (hs : fn.slots = N.length) (nu : nuB N = true)
    (hb : ∀ (cdv : Value) (A : Around) (outer : List PySem.Env) (s : Shared) (H : Hp) (E : XK), PySem.W.codeIn K cdv dd.qual = true → (∃ (oc : Value) (od : Option Addr) (dV kV doc pm : Value) (an : Option Addr) (ct : Value) (osl : Array (Option Value)), K.lookup (Y.fa i) = some ⟨oc, od, .func (PySem.W.fnOf dd.name dd.qual dd.params dd.body dd.scope dV kV doc pm an cdv ct), osl⟩) → Ct T (cxOf (L2.CX prog wd) prog wd K mg base N dd.qual dd.scope (Y.fa i) cdv A outer s H E) (F0 Y T.P (callAt T.P Fs d) E) →
      PSs (cxOf (L2.CX prog wd) prog wd K mg base N dd.qual dd.scope (Y.fa i) cdv A outer s H E) dd.body (tSs (F0 Y T.P (callAt T.P Fs d) E) fn.body)) :
    FnOk prog wd K mg base (L2.CX prog wd) (Lv (d + 1)) (Y.fa i) fd (psOf dd) (spC Y (callAt T.P Fs (d + 1)) i) := by
  obtain ⟨oc, od, dV, kV, doc, pm, an, cdv, ct, osl, rfl, lk, hcd, _, _⟩ := F.ex
  exact def_of (k := Lv d + 1) lk hcd sc hF hp hs fun A outer s H E hr => hb cdv A outer s H E hcd ⟨oc, od, dV, kV, doc, pm, an, ct, osl, lk⟩ (ctx0 S a hr sc.nd nu)
/-- a lambda, one call deeper -/
theorem step_lam {i d slots params : Nat} {ee : E} {tr : Bool} {q : Str} {e : Expr} {N ps : List Str} (S : Sta T ds Fs prog K mg Y) (a : All T ds Fs prog wd K mg base Y d) (hn : Y.nf i = some (lamN q e)) (sc : NScope N ps (lamN q e).caps (lamS e)) (hcn : ndB (lamN q e).caps = true) (hF : Fs i = some ⟨slots, params, tr, .cons (.ret ee) .nil⟩) (hp : params = ps.length + (lamN q e).caps.length) (hs : slots = N.length) (nu : nuB N = true)
    (hb : ∀ (cs : List (Str × Addr)) (c' : Addr) (doc pm ct : Value) (us : List Value), us.length = ps.length → bindArgs (fdOf (lamN q e) cs c' doc pm ct) ⟨us, []⟩ = pure (ps.zip us))
    (hbody : ∀ (A : Around) (outer : List PySem.Env) (s : Shared) (H : Hp) (E : XK) (cs : List (Str × Addr)) (c' f : Addr), Ct T (ncx (L2.CX prog wd) prog wd K mg base N (nfOf (lamN q e) cs c') f A outer s H E) (F1 Y T.P (callAt T.P Fs d) E ps.length cs) →
      PE (ncx (L2.CX prog wd) prog wd K mg base N (nfOf (lamN q e) cs c') f A outer s H E) (lamB e) (tE (F1 Y T.P (callAt T.P Fs d) E ps.length cs) ee)) :
    CloRun prog wd K mg base Y (callAt T.P Fs (d + 1)) (Lv (d + 1)) i :=
  lam_of (k := Lv d + 1) S.fc.hK hn rfl sc (ndB_ok hcn) hF hp hs hb fun A outer s H E cs c' f _ fk hr => hbody A outer s H E cs c' f (ctx1 S a hr sc.nd nu fk)
end
end Pv
end

section
set_option maxRecDepth 100000
set_option maxHeartbeats 4000000
namespace Pv
open PySem PySem.Spec PyProof.Rows L2 LamX NdefX
/-! ### the program's table as lists; what the top's end must say -/
structure Tl where
  fns : List (Str × Option Str)
  cls : List Str
  flds : List Str
  free : List Str
  iv : List (Str × Int)
  sv : List (Str × List Nat)
  mks : List (Nat × Nat)
  eqs : List (Nat × Nat)
  mts : List (Nat × Str × Nat)
  er0 : List Nat
  er1 : List (Nat × Nat)
  used : List Pv.Cl
  exf : List (List Nat)
  sub : List (List Bool)
  isx : List Bool
  isC : List Bool
  fld : List (List Bool)
def Tl.cix (t : Tl) (c : Nat) : Nat := if c < t.cls.length then c else 0
def Tl.P (t : Tl) : Pv.Cls where
  exf := fun c => t.exf.getD c []
  sub := fun a b => (t.sub.getD (t.cix a) []).getD b false
  isx := fun c => t.isx.getD c false
  isC := fun c => t.isC.getD c false
  fld := fun c f => (t.fld.getD c []).getD f false
def Tl.tb (t : Tl) : Tb := { fns := t.fns, cls := t.cls, flds := t.flds, free := t.free, iv := t.iv, sv := t.sv, mks := t.mks, eqs := t.eqs, mts := t.mts, er0 := t.er0, er1 := t.er1, used := fun c => t.used.contains c, P := t.P }
def padS (f : Nat) : Str := sV (List.replicate (f + 64) 122)
def fldS (l : List Str) (f : Nat) : Str := match l[f]? with
  | some x => x
  | none => padS f
def fldsB (l : List Str) : Bool := ndB l && l.all fun x => Nat.blt x.length 64
theorem pad_len (f : Nat) : (padS f).length = f + 64 := by
  unfold padS
  rw [sV_len, List.length_replicate]
theorem fldS_inj {l : List Str} (h : fldsB l = true) : ∀ a b, fldS l a = fldS l b → a = b := fun a b e => by
  obtain ⟨h1, h2⟩ := Bool.and_eq_true_iff.mp h
  have nd := ndB_ok h1
  have sm : ∀ x ∈ l, x.length < 64 := fun x m => Nat.le_of_ble_eq_true (List.all_eq_true.mp h2 x m)
  unfold fldS at e
  cases ea : l[a]? with
  | none =>
    rw [ea] at e
    cases eb : l[b]? with
    | none =>
      rw [eb] at e
      have e : padS a = padS b := e
      have z := congrArg Str.length e
      rw [pad_len, pad_len] at z
      omega
    | some y =>
      rw [eb] at e
      have e : padS a = y := e
      have z := congrArg Str.length e
      rw [pad_len] at z
      have := sm y (List.mem_of_getElem? eb)
      omega
  | some x =>
    rw [ea] at e
    cases eb : l[b]? with
    | none =>
      rw [eb] at e
      have e : x = padS b := e
      have z := congrArg Str.length e
      rw [pad_len] at z
      have := sm x (List.mem_of_getElem? ea)
      omega
    | some y =>
      rw [eb] at e
      have e : x = y := e
      subst e
      obtain ⟨q1, w1⟩ := List.getElem?_eq_some_iff.mp ea
      obtain ⟨q2, w2⟩ := List.getElem?_eq_some_iff.mp eb
      exact (List.getElem_inj nd).mp (w1.trans w2.symm)
/-- where the program's things stand, by the written part -/
def Tl.at_ (t : Tl) (hf : fldsB t.flds = true) (nf : Nat → Option Nf) (tt : List (He.Defn × (Nat → Nat → Str))) (K : PySem.W.Frag) : At where
  K := K
  fa := fun i => He.fAd K (t.fns.getD i (t.fns.headD ("", none)))
  ca := fun c => He.ga K (t.cls.getD c (t.cls.headD ""))
  fn := fldS t.flds
  fnI := fldS_inj hf
  nf := nf
  tab := TabsN (tt.map fun p => ((He.cT K p.1).2, p.2))
  tabK := fun H H' h1 h2 h p hp => by
    obtain ⟨ps, q1, q2, q3⟩ := h p hp
    refine ⟨ps, h2 _ _ q1, q2, fun pos cv hc => ?_⟩
    obtain ⟨c, e1, e2⟩ := q3 pos cv hc
    exact ⟨c, e1, h1 _ _ e2⟩
end Pv
end

section
set_option maxRecDepth 100000
set_option maxHeartbeats 4000000
namespace Pv
open PySem PySem.Spec PyProof.Rows L2 LamX NdefX
open He (eqO eqO_ok ba)
/-! ### what is asked of the written part, as one Bool -/
def dbgB (x : Str) : Bool := !(x == ("__debug__" : Str))
theorem dbgB_ok {x : Str} (h : dbgB x = true) : (x == ("__debug__" : Str)) = false := by
  unfold dbgB at h
  simpa using h
def Tl.fa (t : Tl) (K : PySem.W.Frag) (i : Nat) : Addr := He.fAd K (t.fns.getD i (t.fns.headD ("", none)))
def Tl.ca (t : Tl) (K : PySem.W.Frag) (c : Nat) : Addr := He.ga K (t.cls.getD c (t.cls.headD ""))
def rng (n : Nat) (p : Nat → Bool) : Bool := (List.range n).all p
theorem rng_ok {n : Nat} {p : Nat → Bool} (h : rng n p = true) {i : Nat} (hi : i < n) : p i = true := List.all_eq_true.mp h i (List.mem_range.mpr hi)
theorem getD_true {l : List Bool} {i : Nat} (h : l.getD i false = true) : i < l.length := by
  by_cases q : i < l.length
  · exact q
  · rw [List.getD_eq_getElem?_getD, List.getElem?_eq_none (Nat.le_of_not_lt q)] at h
    cases h
def clsB (K : PySem.W.Frag) (C : Addr) : Bool := PySem.W.plainGet K C Str.empty && (PySem.W.hasDictIn K C && (PySem.W.plainOver K C && eqO (PySem.W.findIn K (.ref C) "__setattr__") (some (some (.builtin "object.__setattr__")))))
theorem clsB_ok {K : PySem.W.Frag} {C : Addr} (h : clsB K C = true) : L2.Cls K C := by
  obtain ⟨h1, h⟩ := ba h
  obtain ⟨h2, h⟩ := ba h
  obtain ⟨h3, h4⟩ := ba h
  exact ⟨h1, h2, h3, eqO_ok h4⟩
def namB (K : PySem.W.Frag) (t : Tl) : Bool :=
  (t.fns.all fun p => match p.2 with
    | none => (He.Fa.glo p.1).ok K && dbgB p.1
    | some _ => true) &&
  ((t.cls.all fun x => (He.Fa.glo x).ok K && dbgB x) &&
  ((t.free.all fun x => (He.Fa.free x).ok K && (dbgB x && !(x == ("__name__" : Str)))) &&
  ((t.iv.all fun p => (He.Fa.int p.1 p.2).ok K && dbgB p.1) && t.sv.all fun p => (He.Fa.str p.1 (sV p.2)).ok K && dbgB p.1)))
def fldK (K : PySem.W.Frag) (t : Tl) : Bool := rng t.fld.length fun c => rng (t.fld.getD c []).length fun f => !((t.fld.getD c []).getD f false) || (clsB K (t.ca K c) && eqO (PySem.W.findIn K (.ref (t.ca K c)) (fldS t.flds f)) (some none))
def clU (K : PySem.W.Frag) (t : Tl) : Pv.Cl → Value
  | .own c => .ref (t.ca K c)
  | c => .type (clsName c)
def objB (K : PySem.W.Frag) (C : Addr) : Bool := eqO (PySem.W.findIn K (.ref C) "__class__") (some (some (.builtin "object.__class__"))) && (eqO (PySem.W.specialIn K (.builtin "object.__class__") "__get__") (some (some (.builtin "getset_descriptor.__get__"))) && (decide (PySem.W.takesIn K (.builtin "object.__class__") = some true) && decide (PySem.W.mroIn K C (.type "object") = some true)))
def kitB (K : PySem.W.Frag) (t : Tl) : Bool :=
  (rng t.isC.length fun c => !(t.isC.getD c false) || (clsB K (t.ca K c) && objB K (t.ca K c))) &&
  ((rng t.isC.length fun c => !(t.isC.getD c false) || t.used.all fun k => decide (PySem.W.kitOne K (.ref (t.ca K c)) (clU K t k) = some (isInst (.ins c []) k))) &&
  t.used.all fun k => match k with
    | .own c => ["NoneType", "bool", "int", "str", "list", "tuple", "dict"].all fun T => decide (PySem.W.kitOne K (.type T) (.ref (t.ca K c)) = some false)
    | _ => true)
def excB (K : PySem.W.Frag) (C : Addr) : Bool := xfB K C && (objB K C && eqO (PySem.W.findIn K (.ref C) "__setattr__") (some (some (.builtin "object.__setattr__"))))
def ekB (K : PySem.W.Frag) (t : Tl) : Bool := rng t.isx.length fun c => !(t.isx.getD c false) || (excB K (t.ca K c) && ((t.used.all fun k => decide (PySem.W.kitOne K (.ref (t.ca K c)) (clU K t k) = some (exIsC t.P (.own c) k))) && t.flds.all fun x => eqO (PySem.W.findIn K (.ref (t.ca K c)) x) (some none)))
def mkB (K : PySem.W.Frag) (t : Tl) : Bool := t.mks.all fun p => PySem.W.makesIn K (t.ca K p.1) && (eqO (PySem.W.findIn K (.ref (t.ca K p.1)) "__init__") (some (some (.ref (t.fa K p.2)))) && (PySem.W.isFn K (.ref (t.fa K p.2)) && PySem.W.keepIn K (.ref (t.ca K p.1))))
def eqB (K : PySem.W.Frag) (t : Tl) : Bool := t.eqs.all fun p => eqO (PySem.W.findIn K (.ref (t.ca K p.1)) "__eq__") (some (some (.ref (t.fa K p.2)))) && (eqO (PySem.W.findIn K (.ref (t.ca K p.1)) "__ne__") (some (some (.builtin "object.__ne__"))) && (PySem.W.isFn K (.ref (t.fa K p.2)) && decide (PySem.W.mroIn K (t.ca K p.1) (.type "object") = some true)))
def mtB (K : PySem.W.Frag) (t : Tl) : Bool := t.mts.all fun p => clsB K (t.ca K p.1) && (eqO (PySem.W.findIn K (.ref (t.ca K p.1)) p.2.1) (some (some (.ref (t.fa K p.2.2)))) && (PySem.W.isFn K (.ref (t.fa K p.2.2)) && (PySem.W.keepIn K (.ref (t.fa K p.2.2)) && (!(t.flds.contains p.2.1) && Nat.blt p.2.1.length 64))))
def xmB (K : PySem.W.Frag) (t : Tl) : Bool := rng t.isx.length fun d => !(t.isx.getD d false) || ((rng t.cls.length fun c => decide (PySem.W.exmOne K (.ref (t.ca K c)) (.ref (t.ca K d)) = some (t.P.sub c d))) && (decide (PySem.W.exmOne K (.type "ZeroDivisionError") (.ref (t.ca K d)) = some false) && decide (PySem.W.exmOne K (.type "Exception") (.ref (t.ca K d)) = some false)))
def kpB (K : PySem.W.Frag) (t : Tl) : Bool := rng (t.fns.length + 1) fun i => PySem.W.keepIn K (.ref (t.fa K i))
def sizB (t : Tl) : Bool := Nat.blt 0 t.cls.length && (Nat.blt 0 t.fns.length && fldsB t.flds)
/-- all of it -/
def okB (K : PySem.W.Frag) (t : Tl) : Bool := namB K t && (fldK K t && (kitB K t && (ekB K t && (mkB K t && (eqB K t && (mtB K t && (xmB K t && (kpB K t && sizB t))))))))
theorem bor {a b : Bool} (h : (!a || b) = true) (ha : a = true) : b = true := by
  rw [ha] at h
  exact h
theorem objB_ok {K : PySem.W.Frag} {C : Addr} (h : objB K C = true) : PySem.W.findIn K (.ref C) "__class__" = some (some (.builtin "object.__class__")) ∧ PySem.W.specialIn K (.builtin "object.__class__") "__get__" = some (some (.builtin "getset_descriptor.__get__")) ∧ PySem.W.takesIn K (.builtin "object.__class__") = some true ∧ PySem.W.mroIn K C (.type "object") = some true := by
  obtain ⟨h1, h⟩ := ba h
  obtain ⟨h2, h⟩ := ba h
  obtain ⟨h3, h4⟩ := ba h
  exact ⟨eqO_ok h1, eqO_ok h2, of_decide_eq_true h3, of_decide_eq_true h4⟩
theorem facts_of {t : Tl} {K : PySem.W.Frag} {hp : Heap} {mg : Str → Option Value} {hf : fldsB t.flds = true} {nf : Nat → Option Nf} {tt : List (He.Defn × (Nat → Nat → Str))} (X : K.In hp) (G : hp.Ns mainGlobals mg) (h : okB K t = true) : Facts t.tb K mg (t.at_ hf nf tt K) := by
  obtain ⟨hn, h⟩ := ba h
  obtain ⟨hfl, h⟩ := ba h
  obtain ⟨hk, h⟩ := ba h
  obtain ⟨he, h⟩ := ba h
  obtain ⟨hm, h⟩ := ba h
  obtain ⟨hq, h⟩ := ba h
  obtain ⟨ht, h⟩ := ba h
  obtain ⟨hx, h⟩ := ba h
  obtain ⟨hkp, hz⟩ := ba h
  obtain ⟨n1, hn⟩ := ba hn
  obtain ⟨n2, hn⟩ := ba hn
  obtain ⟨n3, hn⟩ := ba hn
  obtain ⟨n4, n5⟩ := ba hn
  obtain ⟨z1, hz⟩ := ba hz
  obtain ⟨z2, z3⟩ := ba hz
  obtain ⟨k1, hk⟩ := ba hk
  obtain ⟨k2, k3⟩ := ba hk
  have getF : ∀ {i : Nat} {p : Str × Option Str}, t.fns[i]? = some p → t.fns.getD i (t.fns.headD ("", none)) = p := fun {i p} e => by rw [List.getD_eq_getElem?_getD, e]; rfl
  have getC : ∀ {i : Nat} {p : Str}, t.cls[i]? = some p → t.cls.getD i (t.cls.headD "") = p := fun {i p} e => by rw [List.getD_eq_getElem?_getD, e]; rfl
  have own_of : ∀ {c : Nat}, t.used.contains (Pv.Cl.own c) = true → Pv.Cl.own c ∈ t.used := fun z => List.contains_iff_mem.mp z
  refine ⟨rfl, fun i x e => ?_, fun c x e => ?_, fun i x e => ?_, fun i x n e => ?_, fun i x z e => ?_, fun f x e => ?_, ⟨fun c f e => ?_, fun c f e => ?_⟩, ⟨fun c e => ?_, fun c k e u => ?_, fun T c hT u => ?_⟩, ⟨fun c e => ?_, fun c k e u => ?_⟩, fun j c i e => ?_, fun j c i e => ?_, fun j c i m e => ?_, fun c e => ?_, fun c f x e1 e2 => ?_, fun c d e => ?_, fun n d e => ?_, fun i e => ?_⟩
  · have q := List.all_eq_true.mp n1 _ (List.mem_of_getElem? e)
    obtain ⟨q1, q2⟩ := ba q
    refine ⟨(He.glo_ok X G q1).trans ?_, dbgB_ok q2⟩
    show _ = some (Value.ref (He.fAd K (t.fns.getD i _)))
    rw [getF e] <;> rfl
  · obtain ⟨q1, q2⟩ := ba (List.all_eq_true.mp n2 _ (List.mem_of_getElem? e))
    refine ⟨(He.glo_ok X G q1).trans ?_, dbgB_ok q2⟩
    show _ = some (Value.ref (He.ga K (t.cls.getD c _)))
    rw [getC e]
  · obtain ⟨q1, q2⟩ := ba (List.all_eq_true.mp n3 _ (List.mem_of_getElem? e))
    obtain ⟨q2, q3⟩ := ba q2
    exact ⟨He.free_ok X G q1, dbgB_ok q2, by
      intro z
      rw [z] at q3
      simp at q3⟩
  · obtain ⟨q1, q2⟩ := ba (List.all_eq_true.mp n4 _ (List.mem_of_getElem? e))
    exact ⟨He.int_ok X G q1, dbgB_ok q2⟩
  · obtain ⟨q1, q2⟩ := ba (List.all_eq_true.mp n5 _ (List.mem_of_getElem? e))
    exact ⟨He.str_ok X G q1, dbgB_ok q2⟩
  · show fldS t.flds f = x
    unfold fldS
    rw [show t.flds[f]? = some x from e]
  · have e : (t.fld.getD c []).getD f false = true := e
    have l2 := getD_true e
    have l1 : c < t.fld.length := by
      by_cases q : c < t.fld.length
      · exact q
      · rw [List.getD_eq_getElem?_getD, List.getElem?_eq_none (Nat.le_of_not_lt q)] at l2
        exact absurd l2 (by simp)
    exact clsB_ok (ba (bor (rng_ok (rng_ok hfl l1) l2) e)).1
  · have e : (t.fld.getD c []).getD f false = true := e
    have l2 := getD_true e
    have l1 : c < t.fld.length := by
      by_cases q : c < t.fld.length
      · exact q
      · rw [List.getD_eq_getElem?_getD, List.getElem?_eq_none (Nat.le_of_not_lt q)] at l2
        exact absurd l2 (by simp)
    exact eqO_ok (ba (bor (rng_ok (rng_ok hfl l1) l2) e)).2
  · have e : t.isC.getD c false = true := e
    obtain ⟨q1, q2⟩ := ba (bor (rng_ok k1 (getD_true e)) e)
    exact ⟨clsB_ok q1, objB_ok q2⟩
  · have e : t.isC.getD c false = true := e
    have q := List.all_eq_true.mp (bor (rng_ok k2 (getD_true e)) e) k (List.contains_iff_mem.mp u)
    have q := of_decide_eq_true q
    cases k <;> exact q
  · have q := List.all_eq_true.mp k3 _ (own_of u)
    have q := List.all_eq_true.mp q T hT
    exact of_decide_eq_true q
  · have e : t.isx.getD c false = true := e
    obtain ⟨q1, _⟩ := ba (bor (rng_ok he (getD_true e)) e)
    obtain ⟨x1, x2⟩ := ba q1
    have x := xfB_ok x1
    obtain ⟨o1, o2, o3, o4⟩ := objB_ok (ba x2).1
    exact ⟨x.ga, x.gg, x.exC, x.hdC, o1, o2, o3, o4⟩
  · have e : t.isx.getD c false = true := e
    obtain ⟨_, q⟩ := ba (bor (rng_ok he (getD_true e)) e)
    have q := of_decide_eq_true (List.all_eq_true.mp (ba q).1 k (List.contains_iff_mem.mp u))
    cases k <;> exact q
  · obtain ⟨q1, q⟩ := ba (List.all_eq_true.mp hm _ (List.mem_of_getElem? e))
    obtain ⟨q2, q⟩ := ba q
    obtain ⟨q3, q4⟩ := ba q
    exact ⟨q1, eqO_ok q2, q3, q4⟩
  · obtain ⟨q1, q⟩ := ba (List.all_eq_true.mp hq _ (List.mem_of_getElem? e))
    obtain ⟨q2, q⟩ := ba q
    obtain ⟨q3, q4⟩ := ba q
    exact ⟨eqO_ok q1, eqO_ok q2, q3, of_decide_eq_true q4⟩
  · obtain ⟨q1, q⟩ := ba (List.all_eq_true.mp ht _ (List.mem_of_getElem? e))
    obtain ⟨q2, q⟩ := ba q
    obtain ⟨q3, q⟩ := ba q
    obtain ⟨q4, q⟩ := ba q
    obtain ⟨q5, q6⟩ := ba q
    refine ⟨clsB_ok q1, ⟨eqO_ok q2, q3, q4⟩, fun f z => ?_⟩
    have z : fldS t.flds f = m := z
    have q6 : m.length < 64 := Nat.le_of_ble_eq_true q6
    unfold fldS at z
    cases ef : t.flds[f]? with
    | none =>
      rw [ef] at z
      have z : padS f = m := z
      rw [← z, pad_len] at q6
      omega
    | some y =>
      rw [ef] at z
      have z : y = m := z
      have q5 : (!(t.flds.contains m)) = true := q5
      rw [List.contains_iff_mem.mpr (z ▸ List.mem_of_getElem? ef)] at q5
      cases q5
  · have e : t.isx.getD c false = true := e
    obtain ⟨q1, _⟩ := ba (bor (rng_ok he (getD_true e)) e)
    exact xfB_ok (ba q1).1
  · have e1 : t.isx.getD c false = true := e1
    obtain ⟨_, q⟩ := ba (bor (rng_ok he (getD_true e1)) e1)
    exact eqO_ok (List.all_eq_true.mp (ba q).2 x (List.mem_of_getElem? e2))
  · have e : t.isx.getD d false = true := e
    obtain ⟨q, _⟩ := ba (bor (rng_ok hx (getD_true e)) e)
    by_cases hc : c < t.cls.length
    · exact of_decide_eq_true (rng_ok q hc)
    · have w : t.cls.getD c (t.cls.headD "") = t.cls.getD 0 (t.cls.headD "") := by
        rw [List.getD_eq_getElem?_getD, List.getElem?_eq_none (Nat.le_of_not_lt hc)]
        cases t.cls <;> rfl
      have w2 : t.P.sub c d = t.P.sub 0 d := by
        show (t.sub.getD (t.cix c) []).getD d false = (t.sub.getD (t.cix 0) []).getD d false
        unfold Tl.cix
        rw [if_neg hc]
        split <;> rfl
      have q0 := of_decide_eq_true (rng_ok q (Nat.le_of_ble_eq_true z1))
      show PySem.W.exmOne K (.ref (He.ga K (t.cls.getD c _))) _ = some (t.P.sub c d)
      rw [w, w2]
      exact q0
  · have e : t.isx.getD d false = true := e
    obtain ⟨_, q⟩ := ba (bor (rng_ok hx (getD_true e)) e)
    obtain ⟨q1, q2⟩ := ba q
    cases n with
    | zero => exact of_decide_eq_true q1
    | succ n => exact of_decide_eq_true q2
  · by_cases hi : i < t.fns.length + 1
    · exact rng_ok hkp hi
    · have q0 := rng_ok hkp (Nat.lt_succ_self t.fns.length)
      have w : t.fns.getD i (t.fns.headD ("", none)) = t.fns.getD t.fns.length (t.fns.headD ("", none)) := by
        rw [List.getD_eq_getElem?_getD, List.getD_eq_getElem?_getD, List.getElem?_eq_none (by omega), List.getElem?_eq_none (Nat.le_refl _)]
      show PySem.W.keepIn K (.ref (He.fAd K (t.fns.getD i _))) = true
      rw [w]
      exact q0
theorem er_all {t : Tl} {K : PySem.W.Frag} (h : okB K t = true) {c : Nat} (e : t.isx.getD c false = true) : excB K (t.ca K c) = true ∧ (t.flds.all fun x => eqO (PySem.W.findIn K (.ref (t.ca K c)) x) (some none)) = true := by
  obtain ⟨_, h⟩ := ba h
  obtain ⟨_, h⟩ := ba h
  obtain ⟨_, h⟩ := ba h
  obtain ⟨he, h⟩ := ba h
  obtain ⟨q1, q2⟩ := ba (bor (rng_ok he (getD_true e)) e)
  exact ⟨q1, (ba q2).2⟩
theorem er_set {t : Tl} {K : PySem.W.Frag} (h : okB K t = true) {c : Nat} (e : t.isx.getD c false = true) : PySem.W.findIn K (.ref (t.ca K c)) "__setattr__" = some (some (.builtin "object.__setattr__")) := eqO_ok (ba (ba (er_all h e).1).2).2
theorem er_no {t : Tl} {K : PySem.W.Frag} (h : okB K t = true) {c f : Nat} {x : Str} (e : t.isx.getD c false = true) (hf : t.flds[f]? = some x) : PySem.W.findIn K (.ref (t.ca K c)) (fldS t.flds f) = some none := by
  have q := eqO_ok (List.all_eq_true.mp (er_all h e).2 x (List.mem_of_getElem? hf))
  unfold fldS
  rw [hf]
  exact q
end Pv
end

section
set_option maxRecDepth 100000
set_option maxHeartbeats 4000000
namespace Pv
open PySem PySem.Spec PyProof.Rows L2 LamX NdefX
open He (eqO eqO_ok ba)
/-! ### own errors' classes -/
def supB (K : PySem.W.Frag) (C : Addr) : Bool := (match K.lookup C with
  | some ⟨.type T, _, .cls cd, sl⟩ => (match cd.mro, sl.toList with
    | .ref D :: bm, [_, _, _, _, some (.builtin n), _] => decide (T = "type") && (decide (D = C) && (decide (n = "ValueError.__new__") && (!cd.hasDel && (cd.hasDict && (PySem.HandSPX.refsVE bm && eqO (PySem.W.alongIn K "__init__" bm) (some (some (.builtin "ValueError.__init__"))))))))
    | _, _ => false)
  | _ => false) && (decide (PySem.W.mroIn K C (.ref C) = some true) && (decide (PySem.W.subIn K (.ref C) (.type "ValueError") = some true) && (eqO (PySem.W.nsIn K cStatics "thirdparty.any") (some none) && (PySem.W.keepIn K (.ref C) && (decide (PySem.W.subIn K (.ref C) (.type "BaseException") = some true) && decide (PySem.W.typeIn K (.ref C) = some (.type "type")))))))
theorem supB_ok {prog : Program} {K : PySem.W.Frag} {mg : Str → Option Value} {C : Addr} (h : supB K C = true) (hs : mg "super" = none) (ht : (prog.main.scope.names.lookup ("super" : Str)).isSome = false) : Er prog K mg C := by
  obtain ⟨h0, h⟩ := ba h
  obtain ⟨h1, h⟩ := ba h
  obtain ⟨h2, h⟩ := ba h
  obtain ⟨h3, h⟩ := ba h
  obtain ⟨h4, h⟩ := ba h
  obtain ⟨h5, h6⟩ := ba h
  refine ⟨⟨?_, of_decide_eq_true h1, of_decide_eq_true h2, eqO_ok h3, hs⟩, h4, of_decide_eq_true h5, of_decide_eq_true h6, ht⟩
  split at h0
  · rename_i T dd cd sl ho
    split at h0
    · rename_i D bm k0 k1 k2 k3 n k5 hm hsl
      obtain ⟨e1, h0⟩ := ba h0
      obtain ⟨e2, h0⟩ := ba h0
      obtain ⟨e3, h0⟩ := ba h0
      obtain ⟨e4, h0⟩ := ba h0
      obtain ⟨e5, h0⟩ := ba h0
      obtain ⟨e6, e7⟩ := ba h0
      obtain ⟨c1, c2, c3, c4, c5, c6, c7, c8, c9, c10, c11⟩ := cd
      obtain ⟨sl⟩ := sl
      have hsl : sl = [k0, k1, k2, k3, some (.builtin n), k5] := hsl
      cases of_decide_eq_true e1
      cases of_decide_eq_true e2
      cases of_decide_eq_true e3
      subst hsl
      have hm : c3 = .ref C :: bm := hm
      have g4 : c11 = false := by simpa using e4
      have g5 : c6 = true := e5
      subst hm g4 g5
      exact ⟨_, _, _, _, bm, _, _, _, _, _, k0, k1, k2, k3, k5, ho, e6, eqO_ok e7⟩
    · cases h0
  · cases h0
/-- an own error: its class, its __init__ -/
structure EI where
  c : Nat
  st : Stmt
  qual : Str
abbrev FnE : Type := Option (Str × Str × Arguments × FuncBody × Scope × Addr × List Str × Addr)
def fnE (K : PySem.W.Frag) (C : Addr) : FnE := match K.lookup (He.ma K C "__init__") with
  | some ⟨_, _, .func fd, _⟩ => some (fd.name, fd.qualname, fd.params, fd.body, fd.scope, fd.globals, fd.closure.map (·.1), fd.builtins)
  | _ => none
def EI.val (e : EI) : FnE := some ("__init__", e.qual, defArgs e.st, .stmts (defBody e.st), defScope e.st, mainGlobals, ["__class__"], builtinsNs)
def iniB (prog : Program) (K : PySem.W.Frag) (C : Addr) : Bool := eqO (PySem.W.findIn K (.ref C) "__init__") (some (some (.ref (He.ma K C "__init__")))) && (decide (PySem.W.typeIn K (.ref (He.ma K C "__init__")) = some (.type "function")) && (match K.lookup (He.ma K C "__init__") with
  | some ⟨_, _, .func fd, _⟩ => (match fd.closure, fd.code, fd.defaults, fd.kwdefaults with
    | [(_, cc)], .ref cda, .none, .none => PySem.W.codeIn K (.ref cda) fd.qualname && ((match K.lookup cc with
      | some ⟨_, _, .cell (some (.ref D)), _⟩ => decide (D = C)
      | _ => false) && (match K.lookup cda with
      | some ⟨_, _, .fields vs, _⟩ => (match ((vs : Array Value)[2]? : Option Value) with
        | some (.str file _) => ((prog.main.file : Str) == file)
        | _ => false)
      | _ => false))
    | _, _, _, _ => false)
  | _ => false))
theorem iniB_ok {prog : Program} {K : PySem.W.Frag} {C : Addr} {e : EI} (h : iniB prog K C = true) (q : fnE K C = e.val) : PvX.InitF prog K C (He.ma K C "__init__") (defArgs e.st) (defBody e.st) (defScope e.st) := by
  obtain ⟨h1, h⟩ := ba h
  obtain ⟨h2, h⟩ := ba h
  refine ⟨?_, eqO_ok h1, of_decide_eq_true h2⟩
  unfold fnE at q
  split at h
  · rename_i oc od fd sl ho
    rw [ho] at q
    split at h
    · rename_i x cc cda hcl hco hd hkd
      obtain ⟨e1, h⟩ := ba h
      obtain ⟨e2, e3⟩ := ba h
      split at e2
      · rename_i a b D c hcc
        cases of_decide_eq_true e2
        split at e3
        · rename_i a2 b2 vs c2 hda
          split at e3
          · rename_i file tf hv
            obtain ⟨n1, n2, n3, n4, n5, n6, n7, n8, n9, n10, n11, n12, n13, n14, n15⟩ := fd
            have q : (some (n1, n2, n3, n4, n5, n6, n7.map (·.1), n15) : FnE) = (some (("__init__" : Str), e.qual, defArgs e.st, FuncBody.stmts (defBody e.st), defScope e.st, mainGlobals, (["__class__"] : List Str), builtinsNs) : FnE) := q
            simp only [Option.some.injEq, Prod.mk.injEq] at q
            obtain ⟨w1, w2, w3, w4, w5, w6, w7, w8⟩ := q
            have hcl : n7 = [(x, cc)] := hcl
            have hco : n13 = .ref cda := hco
            have hd : n8 = .none := hd
            have hkd : n9 = .none := hkd
            subst hcl hco hd hkd w1 w2 w3 w4 w5 w6 w8
            have w7 : ([x] : List Str) = [("__class__" : Str)] := w7
            injection w7 with w7
            subst w7
            exact ⟨oc, od, n10, n11, n12, cda, n14, sl, cc, _, _, _, _, vs, file, tf, ho, e1, hcc, rfl, hda, rfl, hv, e3⟩
          · cases e3
        · cases e3
      · cases e2
    · cases h
  · cases h
def locB (sc : Scope) (l : List Str) : Bool := l.all fun x => decide (sc.names.lookup x = some .local)
def txtB (sc : Scope) (l : List Str) : Bool := locB sc l && (decide (sc.names.lookup ("super" : Str) = some .globalImplicit) && (decide (sc.names.lookup ("__class__" : Str) = some .free) && (decide (sc.kind = .function) && ((sc.names.all fun y => !decide (y.2 = .cell)) && (!sc.isCoroutine && !sc.isGenerator)))))
theorem loc_zip {sc : Scope} {l : List Str} (h : locB sc l = true) (us : List Value) : ∀ y ∈ l.zip us, sc.names.lookup y.1 = some .local := fun ⟨a, b⟩ hy => of_decide_eq_true (List.all_eq_true.mp h a (List.of_mem_zip hy).1)
theorem txt_of {params : Arguments} {ar : Arg} {l : List Str} {scope : Scope} {tx : Str} {j : Nat} {p0 p1 pa pk pc pe : Pos} {rest : List Stmt} {n : Nat} (h : txtB scope l = true) (hp : (params.posonlyargs ++ params.args).head? = some ar) (ha : ar.arg ∈ l)
    (hev : ∀ env : PySem.Env, ∃ pl : Sem Bool, eval (.Call (.Attribute (.Call (.Name "super" p0) [] [] p1) "__init__" pa) [.Constant (.str tx) j pk] [] pc) env = (do
      let ov ← attributeBase (.Call (.Name "super" p0) [] [] p1) "__init__" env (eval (.Call (.Name "super" p0) [] [] p1) env)
      standAt pa.atName
      let (f, first) ← holding [ov] (getMethod ov "__init__" pl)
      callWith pc f first (backTo pc (starEach [.Constant (.str tx) j pk] env)) []))
    (hsw : ∀ env : PySem.Env, swapsWith (.Call (.Attribute (.Call (.Name "super" p0) [] [] p1) "__init__" pa) [.Constant (.str tx) j pk] [] pc) none pe.line env = pure false)
    (hbind : ∀ (us : List Value) (nm qual : Str) (cc : Addr) (doc pm : Value) (an : Option Addr) (cda : Addr) (ct : Value), us.length = n → bindArgs (PySem.W.fnX nm qual params (PvX.supS tx j p0 p1 pa pk pc pe :: rest) scope [("__class__", cc)] .none .none doc pm an (.ref cda) ct) ⟨us, []⟩ = pure (l.zip us)) :
    PvX.Txt params ar (fun us => l.zip us) scope tx j p0 p1 pa pk pc pe rest n := by
  obtain ⟨h1, h⟩ := ba h
  obtain ⟨h2, h⟩ := ba h
  obtain ⟨h3, h⟩ := ba h
  obtain ⟨h4, h⟩ := ba h
  obtain ⟨h5, h⟩ := ba h
  obtain ⟨h6, h7⟩ := ba h
  exact ⟨hp, of_decide_eq_true (List.all_eq_true.mp h1 _ ha), of_decide_eq_true h2, of_decide_eq_true h3, of_decide_eq_true h4, (fun y hy z => by
    have q := List.all_eq_true.mp h5 y hy
    rw [decide_eq_true z] at q
    cases q), fun us _ => loc_zip h1 us, by simpa using h6, by simpa using h7, hev, hsw, hbind⟩
/-! ### the Hook -/
def allK (n : Nat) (g : Addr → Option Obj) : PySem.W.Frag := He.frT g (He.asD g n ++ [cStatics])
abbrev AlP : Type := Bool × (List He.FnW × List FnE)
def obsP (n : Nat) (t : Tl) (prog : Program) (ds : List He.DefD) (es : List EI) (tf : List He.Defn) (g : Addr → Option Obj) : AlP :=
  (okB (allK n g) t && ((ds.all fun d => d.ok (allK n g)) && ((es.all fun e => supB (allK n g) (t.ca (allK n g) e.c) && iniB prog (allK n g) (t.ca (allK n g) e.c)) && He.tabsB g tf (allK n g))), ds.map (fun d => He.fnW (allK n g) d.at_), es.map fun e => fnE (allK n g) (t.ca (allK n g) e.c))
def valP (ds : List He.DefD) (es : List EI) : AlP := (true, ds.map He.DefD.val, es.map EI.val)
structure SaysP (t : Tl) (prog : Program) (ds : List He.DefD) (es : List EI) (tf : List He.Defn) (h : Heap) (K : PySem.W.Frag) : Prop where
  ok : okB K t = true
  fd : ∀ (i : Nat) (d : He.DefD), ds[i]? = some d → ∃ fd, FunI K d (He.fAd K d.at_) fd
  er : ∀ e ∈ es, supB K (t.ca K e.c) = true ∧ PvX.InitF prog K (t.ca K e.c) (He.ma K (t.ca K e.c) "__init__") (defArgs e.st) (defBody e.st) (defScope e.st)
  hd : ∀ p ∈ tf, PySem.W.codeHdIn K (He.cT K p).1 (He.cT K p).2 = true
  out : ∀ p ∈ tf, K.lookup (He.cT K p).2 = none
  emp : ∀ p ∈ tf, h.get? (He.cT K p).2 = some { cls := .none, data := .fields #[] }
theorem map_at {α β : Type} {l : List α} {f g : α → β} (e : l.map f = l.map g) : ∀ x ∈ l, f x = g x := fun x m => by
  obtain ⟨i, hi⟩ := List.mem_iff_getElem?.mp m
  have q : (l.map f)[i]? = (l.map g)[i]? := by rw [e]
  rw [List.getElem?_map, List.getElem?_map, hi] at q
  exact Option.some.inj q
theorem saysP_of {n : Nat} {t : Tl} {prog : Program} {ds : List He.DefD} {es : List EI} {tf : List He.Defn} {h : Heap} (hn : ds.all (fun d => d.dfl.isEmpty && d.kwd.isEmpty) = true) (e : obsP n t prog ds es tf h.get? = valP ds es) : SaysP t prog ds es tf h (allK n h.get?) := by
  have e1 := congrArg (fun z : AlP => z.1) e
  have e2 : ds.map (fun d => He.fnW (allK n h.get?) d.at_) = ds.map He.DefD.val := congrArg (fun z : AlP => z.2.1) e
  have e3 : es.map (fun e => fnE (allK n h.get?) (t.ca (allK n h.get?) e.c)) = es.map EI.val := congrArg (fun z : AlP => z.2.2) e
  obtain ⟨h1, e1⟩ := ba e1
  obtain ⟨h2, e1⟩ := ba e1
  obtain ⟨h3, h4⟩ := ba e1
  have tab : ∀ p ∈ tf, PySem.W.codeHdIn (allK n h.get?) (He.cT (allK n h.get?) p).1 (He.cT (allK n h.get?) p).2 = true ∧ ∃ o, h.get? (He.cT (allK n h.get?) p).2 = some o ∧ He.emptyTab o = true := fun p hp => by
    obtain ⟨q1, q2⟩ := ba (List.all_eq_true.mp h4 p hp)
    refine ⟨q1, ?_⟩
    cases z : h.get? (He.cT (allK n h.get?) p).2 with
    | none => rw [z] at q2; cases q2
    | some o => rw [z] at q2; exact ⟨o, rfl, q2⟩
  refine ⟨h1, fun i d hd => ?_, fun x hx => ?_, fun p hp => (tab p hp).1, fun p hp => ?_, fun p hp => ?_⟩
  · have m := List.mem_of_getElem? hd
    obtain ⟨fd, F⟩ := He.DefD.funD (map_at e2 d m) (List.all_eq_true.mp h2 d m)
    obtain ⟨z1, z2⟩ := ba (List.all_eq_true.mp hn d m)
    refine ⟨fd, ?_⟩
    have w1 : d.dvs (allK n h.get?) = [] := by unfold He.DefD.dvs; rw [List.isEmpty_iff.mp z1]; rfl
    have w2 : d.kws (allK n h.get?) = [] := by unfold He.DefD.kws; rw [List.isEmpty_iff.mp z2]; rfl
    rw [w1, w2] at F
    exact F
  · obtain ⟨q1, q2⟩ := ba (List.all_eq_true.mp h3 x hx)
    exact ⟨q1, iniB_ok q2 (map_at e3 x hx)⟩
  · obtain ⟨_, o, q, z⟩ := tab p hp
    exact He.frT_none q z
  · obtain ⟨_, o, q, z⟩ := tab p hp
    rw [q, He.emptyTab_eq z]
def hookP (n : Nat) (t : Tl) (prog : Program) (ds : List He.DefD) (es : List EI) (tf : List He.Defn) (hn : ds.all (fun d => d.dfl.isEmpty && d.kwd.isEmpty) = true) : PySem.W.Hook where
  α := AlP
  obs := fun s => obsP n t prog ds es tf s.heap.get?
  val := fun _ => valP ds es
  says := fun _ h => ∃ K : PySem.W.Frag, K.In h ∧ SaysP t prog ds es tf h K
  of := fun _ _ e => ⟨_, He.frT_in, saysP_of hn e⟩
  keeps := fun _ _ _ ⟨K, hK, c⟩ k => ⟨K, PySem.W.Frag.In.keeps hK k, ⟨c.ok, c.fd, c.er, c.hd, c.out, fun p hp => k _ _ (c.emp p hp)⟩⟩
theorem obsP_eq {n : Nat} {t : Tl} {prog : Program} {ds : List He.DefD} {es : List EI} {tf : List He.Defn} {hn : ds.all (fun d => d.dfl.isEmpty && d.kwd.isEmpty) = true} {g : Addr → Option Obj} {s : Shared} (h : ∀ a, g a = s.heap.get? a) : obsP n t prog ds es tf g = (hookP n t prog ds es tf hn).obs s := by
  have e : g = s.heap.get? := funext h
  rw [e]
  rfl
end Pv
end

section
set_option maxRecDepth 100000
set_option maxHeartbeats 4000000
namespace Pv
open PySem PySem.Spec PyProof.Rows L2 LamX NdefX
open He (eqO eqO_ok ba)
/-- what is printed of a law's program -/
structure Prn (t : Tl) (hf : fldsB t.flds = true) (nf : Nat → Option Nf) (tt : List (He.Defn × (Nat → Nat → Str))) (ds : List He.DefD) (es : List EI) (Fs : Nat → Option Fn) (prog : Program) : Prop where
  bd : ∀ (K : PySem.W.Frag) (i : Nat) (d : He.DefD) (fd : FuncData), ds[i]? = some d → FunI K d ((t.at_ hf nf tt K).fa i) fd → Binds K fd (psOf d) []
  at_ : ∀ (i : Nat) (d : He.DefD), ds[i]? = some d → t.fns[i]? = some d.at_
  len : ds.length = t.fns.length
  out : ∀ i fn, Fs i = some fn → nf i = none → i < t.fns.length
  nn : ∀ i, i < t.fns.length → nf i = none
  er0 : ∀ (j c : Nat), t.er0[j]? = some c → ∃ e ∈ es, e.c = c ∧ ∀ (K : PySem.W.Frag) (mg : Str → Option Value), Er prog K mg (t.ca K c) → PvX.InitF prog K (t.ca K c) (He.ma K (t.ca K c) "__init__") (defArgs e.st) (defBody e.st) (defScope e.st) → Er0 prog K mg (t.at_ hf nf tt K) t.P c
  er1 : ∀ (j c f : Nat), t.er1[j]? = some (c, f) → ∃ e ∈ es, e.c = c ∧ ∀ (K : PySem.W.Frag) (mg : Str → Option Value), okB K t = true → Er prog K mg (t.ca K c) → PvX.InitF prog K (t.ca K c) (He.ma K (t.ca K c) "__init__") (defArgs e.st) (defBody e.st) (defScope e.st) → Er1 prog K mg (t.at_ hf nf tt K) t.P c f
  sup : ∃ j : Nat, t.free[j]? = some ("super" : Str)
  top : (prog.main.scope.names.lookup ("super" : Str)).isSome = false
section
variable {t : Tl} {hf : fldsB t.flds = true} {nf : Nat → Option Nf} {tt : List (He.Defn × (Nat → Nat → Str))} {ds : List He.DefD} {es : List EI} {Fs : Nat → Option Fn} {prog : Program} {wd : World} {K : PySem.W.Frag} {mg : Str → Option Value} {base hp : Heap}
theorem sta_of (R : Prn t hf nf tt ds es Fs prog) (X : K.In hp) (G : hp.Ns mainGlobals mg) {tf : List He.Defn} {h0 : Heap} (S : SaysP t prog ds es tf h0 K) : Sta t.tb ds Fs prog K mg (t.at_ hf nf tt K) := by
  have fc : Facts t.tb K mg (t.at_ hf nf tt K) := facts_of X G S.ok
  obtain ⟨j, hj⟩ := R.sup
  have er : ∀ e ∈ es, Er prog K mg (t.ca K e.c) := fun e he => supB_ok (S.er e he).1 (fc.gno j _ hj).1 R.top
  refine ⟨fc, fun i d e => ?_, R.bd K, R.len, R.out, R.nn, fun j c e => ?_, fun j c f e => ?_⟩
  · obtain ⟨fd, F⟩ := S.fd i d e
    refine ⟨fd, ?_⟩
    have w : (t.at_ hf nf tt K).fa i = He.fAd K d.at_ := by
      show He.fAd K (t.fns.getD i _) = _
      rw [List.getD_eq_getElem?_getD, R.at_ i d e]
      rfl
    rw [w]
    exact F
  · obtain ⟨x, hx, rfl, q⟩ := R.er0 j c e
    exact q K mg (er x hx) (S.er x hx).2
  · obtain ⟨x, hx, rfl, q⟩ := R.er1 j c f e
    exact q K mg S.ok (er x hx) (S.er x hx).2
/-- the tables, at the law's entry -/
theorem tabs_start {H : Hp} (h : ∀ p ∈ tt, H (He.cT K p.1).2 = some (.tbl #[])) : (t.at_ hf nf tt K).tab H := fun p hp => by
  obtain ⟨q, hq, rfl⟩ := List.mem_map.mp hp
  refine ⟨#[], h q hq, by first | trivial | exact .nil | simp [TriplesOk], fun pos cv hc => ?_⟩
  cases hc
/-- the script -/
def IsScr (d : D) (ns : List Int) : Prop := d = .scr ns ∨ d = .lst (ns.map .int)
theorem rep_scr {Y : At} {H : Hp} {a : Addr} {ns : List Int} (hK : K = Y.K) (h : SqL K H a (ns.map V.int)) : ∃ d, IsScr d ns ∧ Rep Y ⟨[], [], []⟩ H d (.ref a) := by
  rcases h with (h | ⟨o, h⟩) | h
  · exact ⟨_, .inr rfl, a, _, rfl, ⟨by simp, by simp⟩, h, reps_ints ns⟩
  · exact ⟨_, .inl rfl, a, rfl, .inl ⟨o, h⟩⟩
  · exact ⟨_, .inl rfl, a, rfl, .inr (by rw [← hK]; exact h)⟩
/-- the law's promise at its entry -/
theorem law_sp {Y : At} {C : Calls} {i : Nat} {H : Hp} {a : Addr} {ns : List Int} (hK : K = Y.K) (ht : Y.tab H) (h : SqL K H a (ns.map V.int)) (law : ∀ d, IsScr d ns → C i [d] [] (fun r _ => r = .bl true) fun _ _ => False) : spC Y C i [.ref a] H (fun v _ => v = .bl true) fun _ _ _ => False := by
  obtain ⟨d, hd, r⟩ := rep_scr hK h
  refine ⟨⟨[], [], []⟩, [], [d], _, _, rfl, ⟨rfl, .nil, fun n a d e => (by simp at e), fun a m => (by simp at m), ht⟩, ⟨_, [], rfl, r, rfl⟩, law d hd, fun w' H' v d' h' e s' r' q => ?_, fun _ _ _ _ _ _ _ _ _ q => q.elim⟩
  rw [q] at r'
  exact r'
/-- the end -/
theorem lawAt_of {l : PySem.W.OpenLaw} {w : World} {d i : Nat} {dd : He.DefD} {fa : Addr} {x : Str} (R : Prn t hf nf tt ds es Fs l.prog) (X : K.In hp) (G : hp.Ns mainGlobals mg) (S : SaysP t l.prog ds es (tt.map (·.1)) hp K) (hi : ds[i]? = some dd) (hfa : (t.at_ hf nf tt K).fa i = fa) (hx : psOf dd = [x])
    (hbind : ∀ (kV doc pm : Value) (an : Option Addr) (cdv ct : Value) (us : List Value), us.length = [x].length → bindArgs (PySem.W.fnOf dd.name dd.qual dd.params dd.body dd.scope .none kV doc pm an cdv ct) ⟨us, []⟩ = pure ([x].zip us))
    (step : ∀ (base : Heap) (d : Nat), base.Ns mainGlobals mg → (∀ p ∈ tt, TabB base mg (He.cT K p.1).1 (He.cT K p.1).2) → Sta t.tb ds Fs l.prog K mg (t.at_ hf nf tt K) → All t.tb ds Fs l.prog w K mg base (t.at_ hf nf tt K) d → All t.tb ds Fs l.prog w K mg base (t.at_ hf nf tt K) (d + 1))
    (law : ∀ (ns : List Int) (sc : D), ns.length ≤ 63 → (∀ z ∈ ns, Builtin.Int.intBits z ≤ 1048576) → IsScr sc ns → callAt t.P Fs d i [sc] [] (fun r _ => r = .bl true) fun _ _ => False) :
    LawAtS l w K (L2.CX l.prog w) (Lv d) 63 x mg fa hp := by
  have T := sta_of R X G S
  obtain ⟨fd, F⟩ := T.fd i dd hi
  refine ⟨fd, tt.map fun p => He.cT K p.1, spC (t.at_ hf nf tt K) (callAt t.P Fs d) i, fun p hp => ?_, fun p hp => ?_, fun p hp => ?_, fun s u => ?_, fun H a ns hl hb hT hS => ?_, fun base X2 G2 TB => ?_⟩
  · obtain ⟨q, hq, rfl⟩ := List.mem_map.mp hp
    exact S.emp q.1 (List.mem_map.mpr ⟨q, hq, rfl⟩)
  · obtain ⟨q, hq, rfl⟩ := List.mem_map.mp hp
    exact S.out q.1 (List.mem_map.mpr ⟨q, hq, rfl⟩)
  · obtain ⟨q, hq, rfl⟩ := List.mem_map.mp hp
    exact PySem.W.codeHd_of_K X (S.hd q.1 (List.mem_map.mpr ⟨q, hq, rfl⟩))
  · exact FunD.bindsA (ps := [x]) F hbind s [u] rfl
  · exact law_sp rfl (tabs_start fun p hp => hT _ (List.mem_map.mpr ⟨p, hp, rfl⟩)) hS fun sc hsc => law ns sc hl hb hsc
  · have T2 : Sta t.tb ds Fs l.prog K mg (t.at_ hf nf tt K) := sta_of R X2 G2 S
    have all : ∀ d, All t.tb ds Fs l.prog w K mg base (t.at_ hf nf tt K) d := fun d => by
      induction d with
      | zero => exact All.zero
      | succ d ih => exact step base d G2 (fun p hp => TB _ (List.mem_map.mpr ⟨p, hp, rfl⟩)) T2 ih
    have z := (all d).fn i dd fd hi F
    rw [hfa, hx] at z
    exact z
end
end Pv
end

section
set_option maxRecDepth 100000
set_option maxHeartbeats 4000000
namespace Pv
/-! ### plain lemmas for every law -/
section
variable {g : Nat → Option D} {n : Nat} (hg : ∀ m, m < n → g m = some (.ref m))
include hg
mutual
theorem sub_frz : ∀ {d : D}, frz n d = true → sub g d = some d
  | .non, _ => rfl
  | .bl _, _ => rfl
  | .int _, _ => rfl
  | .str _, _ => rfl
  | .tup l, h => by show (subs g l).map D.tup = _; rw [subs_frz (show frzs n l = true from h)]; rfl
  | .wt l, h => by show (subs g l).map D.wt = _; rw [subs_frz (show frzs n l = true from h)]; rfl
  | .lst l, h => by show (subs g l).map D.lst = _; rw [subs_frz (show frzs n l = true from h)]; rfl
  | .dK l, h => by show (subK g l).map D.dK = _; rw [subK_frz (show frzK n l = true from h)]; rfl
  | .dT l, h => by show (subT g l).map D.dT = _; rw [subT_frz (show frzT n l = true from h)]; rfl
  | .rng _ _, _ => rfl
  | .ins c fs, h => by show (subF g fs).map (D.ins c) = _; rw [subF_frz (show frzF n fs = true from h)]; rfl
  | .ref m, h => hg m (of_decide_eq_true (show decide (m < n) = true from h))
  | .fn _, _ => rfl
  | .cls _, _ => rfl
  | .clo i caps, h => by show (subs g caps).map (D.clo i) = _; rw [subs_frz (show frzs n caps = true from h)]; rfl
  | .exc _ _, h => by cases (show false = true from h)
  | .scr _, _ => rfl
theorem subs_frz : ∀ {l : List D}, frzs n l = true → subs g l = some l
  | [], _ => rfl
  | a :: l, h => by
    obtain ⟨h1, h2⟩ := Bool.and_eq_true_iff.mp (show (frz n a && frzs n l) = true from h)
    show (match sub g a, subs g l with | some b, some m => some (b :: m) | _, _ => none) = _
    rw [sub_frz h1, subs_frz h2]
theorem subK_frz : ∀ {l : List (K × D)}, frzK n l = true → subK g l = some l
  | [], _ => rfl
  | (k, a) :: l, h => by
    obtain ⟨h1, h2⟩ := Bool.and_eq_true_iff.mp (show (frz n a && frzK n l) = true from h)
    show (match sub g a, subK g l with | some b, some m => some ((k, b) :: m) | _, _ => none) = _
    rw [sub_frz h1, subK_frz h2]
theorem subT_frz : ∀ {l : List (List K × D)}, frzT n l = true → subT g l = some l
  | [], _ => rfl
  | (k, a) :: l, h => by
    obtain ⟨h1, h2⟩ := Bool.and_eq_true_iff.mp (show (frz n a && frzT n l) = true from h)
    show (match sub g a, subT g l with | some b, some m => some ((k, b) :: m) | _, _ => none) = _
    rw [sub_frz h1, subT_frz h2]
theorem subF_frz : ∀ {l : List (Nat × D)}, frzF n l = true → subF g l = some l
  | [], _ => rfl
  | (k, a) :: l, h => by
    obtain ⟨h1, h2⟩ := Bool.and_eq_true_iff.mp (show (frz n a && frzF n l) = true from h)
    show (match sub g a, subF g l with | some b, some m => some ((k, b) :: m) | _, _ => none) = _
    rw [sub_frz h1, subF_frz h2]
end
end
/-- what refers to nothing new is told as it is -/
theorem reify_frz {n : Nat} {h : Hm} {d : D} (f : Nat) (e : frz n d = true) : reify n h f d = some d := by
  cases f with
  | zero => exact sub_frz (fun m hm => if_pos hm) e
  | succ f => exact sub_frz (fun m hm => if_pos hm) e
/-- a new place, told -/
theorem reify_new {n : Nat} {h : Hm} {m : Nat} {d : D} (f : Nat) (hm : n ≤ m) (e : h[m]? = some d) (hd : frz n d = true) : reify n h (f + 1) (.ref m) = some d := by
  show (if m < n then some (D.ref m) else (h[m]?).bind (reify n h f)) = _
  rw [if_neg (by omega), e]
  exact reify_frz f hd
theorem trunc_same {n : Nat} {h0 h : Hm} {d d' : D} {Q : D → Hm → Prop} (hl : ∀ m, m < n → h[m]? = h0[m]? ∨ ∃ o, h[m]? = some o ∧ frz n o = true) (hr : reify n h 4 d = some d') (q : Q d' (h.take n)) : trunc n h0 h d Q := ⟨hl, d', hr, q⟩
/-- nothing was made but behind -/
theorem trunc_app {h more : Hm} {d d' : D} {Q : D → Hm → Prop} (hr : reify h.length (h ++ more) 4 d = some d') (q : Q d' h) : trunc h.length h (h ++ more) d Q :=
  trunc_same (fun m hm => .inl (List.getElem?_append_left hm)) hr (by rw [List.take_left']; exact q; rfl)
/-- the calls, shut -/
@[irreducible] def callI (P : Cls) (F : Nat → Option Fn) (k : Nat) : Calls := callAt P F k
theorem callI_eq (P : Cls) (F : Nat → Option Fn) (k : Nat) : callI P F k = callAt P F k := by
  unfold callI
  rfl
theorem call_fl {P : Cls} {Fs : Nat → Option Fn} {d i : Nat} {l : List D} {h : Hm} {Q : QD} {X : QX} {f : Fn} (e : Fs i = some f) (ht : f.tr = false) (hl : l.length = f.params) (q : dSs P (callI P Fs d) f.body { nx := fun _ h' => Q .non h', rt := Q, ex := fun _ e h' => X e h' } (l.map some ++ List.replicate (f.slots - l.length) none) h) : callI P Fs (d + 1) i l h Q X := by
  rw [callI_eq] at q ⊢
  exact ⟨f, e, by rw [if_neg (by rw [ht]; exact Bool.false_ne_true)]; exact ⟨hl, q⟩⟩
theorem call_tr {P : Cls} {Fs : Nat → Option Fn} {d i : Nat} {l : List D} {h : Hm} {Q : QD} {X : QX} {f : Fn} (e : Fs i = some f) (ht : f.tr = true) (hl : l.length = f.params) (q : dSs P (callI P Fs d) f.body { nx := fun _ h' => trunc h.length h h' .non Q, rt := fun d h' => trunc h.length h h' d Q, ex := fun _ e h' => trunc h.length h h' (.tup (e.fs.map (·.2))) fun d h2 => ∃ l, d = .tup l ∧ X ⟨e.c, (e.fs.map (·.1)).zip l⟩ h2 } (l.map some ++ List.replicate (f.slots - l.length) none) h) : callI P Fs (d + 1) i l h Q X := by
  rw [callI_eq] at q ⊢
  exact ⟨f, e, by rw [if_pos ht]; exact ⟨hl, q⟩⟩
/-! figures -/
theorem num_lt {n : Nat} (h : n < 10) : numN n = [48 + n] := by
  unfold numN
  rw [Nat.toDigits_of_lt_base h]
  have : ∀ n : Fin 10, (Nat.digitChar n.1).toNat = 48 + n.1 := by decide
  simp [this ⟨n, h⟩]
theorem num_ge {n : Nat} (h : 10 ≤ n) : numN n = numN (n / 10) ++ [48 + n % 10] := by
  unfold numN
  rw [Nat.toDigits_of_base_le (by decide) h, List.map_append]
  have : ∀ n : Fin 10, (Nat.digitChar n.1).toNat = 48 + n.1 := by decide
  simp [this ⟨n % 10, Nat.mod_lt _ (by decide)⟩]
theorem num_ind {P : Nat → Prop} (h1 : ∀ n, n < 10 → P n) (h2 : ∀ n, 10 ≤ n → P (n / 10) → P n) : ∀ n, P n := fun n => by
  induction n using Nat.strongRecOn with
  | ind n ih =>
    by_cases h : n < 10
    · exact h1 n h
    · exact h2 n (by omega) (ih _ (by omega))
theorem num_dig : ∀ n, ∀ c ∈ numN n, 48 ≤ c ∧ c ≤ 57 := by
  refine num_ind (fun n h c hc => ?_) (fun n h ih c hc => ?_)
  · rw [num_lt h] at hc
    rw [List.mem_singleton.mp hc]
    omega
  · rw [num_ge h] at hc
    rcases List.mem_append.mp hc with hc | hc
    · exact ih c hc
    · rw [List.mem_singleton.mp hc]
      omega
theorem num_len : ∀ (k n : Nat), n < 10 ^ (k + 1) → (numN n).length ≤ k + 1
  | 0, n, h => by rw [num_lt (by simpa using h)]; simp
  | k + 1, n, h => by
    by_cases q : n < 10
    · rw [num_lt q]; simp
    · rw [num_ge (by omega)]
      have e : 10 ^ (k + 1 + 1) = 10 ^ (k + 1) * 10 := rfl
      have := num_len k (n / 10) (by rw [e] at h; omega)
      simp
      omega
theorem num_pos : ∀ n, 1 ≤ (numN n).length := by
  refine num_ind (fun n h => ?_) (fun n h ih => ?_)
  · rw [num_lt h]; simp
  · rw [num_ge h]; simp
theorem num_head : ∀ n, 0 < n → ∃ c r, numN n = c :: r ∧ c ≠ 48 := by
  refine num_ind (fun n h p => ?_) (fun n h ih p => ?_)
  · exact ⟨48 + n, [], num_lt h, by omega⟩
  · obtain ⟨c, r, e, q⟩ := ih (by omega)
    exact ⟨c, r ++ [48 + n % 10], by rw [num_ge h, e]; rfl, q⟩
theorem num_val : ∀ n, digitsVal (numN n) = n := by
  refine num_ind (fun n h => ?_) (fun n h ih => ?_)
  · rw [num_lt h]
    simp [digitsVal]
  · rw [num_ge h]
    unfold digitsVal at ih ⊢
    rw [List.foldl_append, ih]
    simp
    omega
/-! splitting -/
theorem split_no {c : Nat} : ∀ (l acc : List Nat), c ∉ l → splitAt1 c acc l = [acc ++ l]
  | [], acc, _ => by simp [splitAt1]
  | a :: l, acc, h => by
    simp only [splitAt1]
    rw [if_neg (fun e => h (by rw [e]; exact List.mem_cons_self)), split_no l _ (fun m => h (List.mem_cons_of_mem _ m))]
    simp
theorem split_at {c : Nat} {r : List Nat} : ∀ (l acc : List Nat), c ∉ l → splitAt1 c acc (l ++ c :: r) = (acc ++ l) :: splitAt1 c [] r
  | [], acc, _ => by simp [splitAt1]
  | a :: l, acc, h => by
    show splitAt1 c acc (a :: (l ++ c :: r)) = _
    simp only [splitAt1]
    rw [if_neg (fun e => h (by rw [e]; exact List.mem_cons_self)), split_at l _ (fun m => h (List.mem_cons_of_mem _ m))]
    simp
theorem part_at {c : Nat} {r : List Nat} : ∀ (l acc : List Nat), c ∉ l → splitMax c 1 acc (l ++ c :: r) = [acc ++ l, r]
  | [], acc, _ => by
    show (if c = c then acc :: splitMax c 0 [] r else _) = _
    rw [if_pos rfl]
    cases r <;> simp [splitMax]
  | a :: l, acc, h => by
    show (if a = c then _ else splitMax c 1 (acc ++ [a]) (l ++ c :: r)) = _
    rw [if_neg (fun e => h (by rw [e]; exact List.mem_cons_self)), part_at l _ (fun m => h (List.mem_cons_of_mem _ m))]
    simp
end Pv
end

section
set_option maxRecDepth 100000
set_option maxHeartbeats 4000000
namespace K65
open PySem PySem.Spec PyProof.Rows L2 LamX NdefX Pv
/-! ### the program's table -/
def top (i : Nat) : Stmt := PySem.Challenge.pw_handles_k65_whole_stores_read.main.body.getD i (.Pass ⟨0, 0, 0, 0⟩)
def inCls (s : Stmt) (k : Nat) : Stmt := match s with
  | .ClassDef _ _ _ b _ _ _ _ _ _ _ => b.getD k (.Pass ⟨0, 0, 0, 0⟩)
  | _ => .Pass ⟨0, 0, 0, 0⟩
abbrev mth (i k : Nat) : Stmt := inCls (top i) k
def clsTab : List Str := ["HandleError", "BadStore", "NoMember", "BadText", "Store"]
def fnTab : List (Str × Option Str) := [("is_integer", none), ("is_within", none), ("is_triple", none), ("are_rights", none), ("is_member", none), ("check_member", none), ("are_kinds", none), ("is_handle", none), ("Store", some "__init__"), ("Store", some "fill"), ("Store", some "__eq__"), ("rights_in", none), ("rights_of", none), ("are_some_rights", none), ("store_text", none), ("number_of", none), ("kinds_of", none), ("handle_of", none), ("lines_read", none), ("read_store", none), ("_law_hand", none), ("_law_draw", none), ("_law_any", none), ("_law_some_rights", none), ("_law_is_plain", none), ("_law_is_store", none), ("_law_rows", none), ("_law_part", none), ("_law_told", none), ("_law_written", none), ("_law_is_right", none), ("law", none)]
def fldTab : List Str := ["part", "line", "kinds", "held", "handles"]
def tl : Tl := { fns := fnTab, cls := clsTab, flds := fldTab, free := ["isinstance", "int", "bool", "tuple", "len", "str", "all", "enumerate", "sorted", "min", "abs", "list", "zip", "range", "ValueError", "super"], iv := [("MOST_MEMBERS", 16), ("MOST_HANDLES", 60), ("MOST_FIGURES", 9)], sv := [("RIGHTS", [103, 114, 116, 119, 120]), ("KINDS", [68, 84]), ("FIGURES", [48, 49, 50, 51, 52, 53, 54, 55, 56, 57])], mks := [(4, 8)], eqs := [(4, 10)], mts := [(4, "fill", 9)], er0 := [2], er1 := [(1, 0), (3, 1)], used := [.int, .bool, .tuple, .str, (.own 4), .list, .valueError, (.own 1), (.own 3)], exf := [[], [0], [], [1], []], sub := [[true, false, false, false, false], [true, true, false, false, false], [true, false, true, false, false], [true, false, false, true, false], [false, false, false, false, true]], isx := [true, true, true, true, false], isC := [false, false, false, false, true], fld := [[false, false, false, false, false], [false, false, false, false, false], [false, false, false, false, false], [false, false, false, false, false], [false, false, true, true, true]] }
abbrev T : Tb := tl.tb
/-! ### the texts -/
abbrev NF0 : Nat := 32
abbrev NF1 : Nat := 33
def nf0 : Nf := lamN "_law_is_right" (eAt 0 (sVal (sAt (defBody (top 44)) 2)))
def nf1 : Nf := lamN "_law_is_right" (eAt 0 (sVal (sAt (defBody (top 44)) 1)))
def nm__law_is_right : Nat → Nat → Str := fun _ _ => (("_law_is_right" : Str) ++ ".<locals>.") ++ "<lambda>"
def N__law_is_right_lam0 : List Str := ["rows", "kinds"]
def x__law_is_right_lam0 : E := (.new 4 8 (.cons (.slot 1) (.cons (.bi .tuple (.cons (.slot 0) .nil)) .nil)))
def N__law_is_right_lam1 : List Str := ["text"]
def x__law_is_right_lam1 : E := (.call 19 (.cons (.slot 0) .nil))
def N_is_integer : List Str := ["thing"]
def b_is_integer : Ss := (.cons (.ret (.and_ (.isin (.slot 0) [.int]) (.not_ (.isin (.slot 0) [.bool])))) .nil)
def N_is_within : List Str := ["thing", "least", "most"]
def b_is_within : Ss := (.cons (.ret (.and_ (.call 0 (.cons (.slot 0) .nil)) (.chain .le .le (.slot 1) (.slot 0) (.slot 2)))) .nil)
def N_is_triple : List Str := ["thing"]
def b_is_triple : Ss := (.cons (.ret (.and_ (.isin (.slot 0) [.tuple]) (.op .eq (.bi .len (.cons (.slot 0) .nil)) (.cst (.int 3))))) .nil)
def N_are_rights : List Str := ["thing", "right"]
def b_are_rights : Ss := (.cons (.ret (.and_ (.isin (.slot 0) [.str]) (.op .eq (.slot 0) (.bm .join (.cst (.str [])) (.cons (.mk false (.comp (.slot 1) (.mk (.slot 1) (.e (.cst (.str [103, 114, 116, 119, 120]))) (.cons (.op .in_ (.slot 1) (.slot 0)) .nil)))) .nil))))) .nil)
def N_is_member : List Str := ["store", "thing"]
def b_is_member : Ss := (.cons (.ret (.call 1 (.cons (.slot 1) (.cons (.cst (.int 0)) (.cons (.op .sub (.bi .len (.cons (.fld (.slot 0) 2) .nil)) (.cst (.int 1))) .nil))))) .nil)
def N_check_member : List Str := ["store", "thing"]
def b_check_member : Ss := (.cons (.iff (.not_ (.call 4 (.cons (.slot 0) (.cons (.slot 1) .nil)))) (.cons (.raise 2 .nil) .nil) .nil) .nil)
def N_are_kinds : List Str := ["thing", "most", "sign"]
def b_are_kinds : Ss := (.cons (.ret (.and_ (.isin (.slot 0) [.str]) (.and_ (.chain .le .le (.cst (.int 1)) (.bi .len (.cons (.slot 0) .nil)) (.slot 1)) (.bi .all (.cons (.mk false (.comp (.op .in_ (.slot 2) (.cst (.str [68, 84]))) (.mk (.slot 2) (.e (.slot 0)) .nil))) .nil))))) .nil)
def N_is_handle : List Str := ["many", "thing"]
def b_is_handle : Ss := (.cons (.iff (.or_ (.not_ (.call 2 (.cons (.slot 1) .nil))) (.or_ (.not_ (.call 1 (.cons (.idx (.slot 1) (.cst (.int 0))) (.cons (.cst (.int 0)) (.cons (.op .sub (.slot 0) (.cst (.int 1))) .nil))))) (.not_ (.call 1 (.cons (.idx (.slot 1) (.cst (.int 1))) (.cons (.cst (.int 0)) (.cons (.op .sub (.slot 0) (.cst (.int 1))) .nil))))))) (.cons (.ret (.cst (.bl false))) .nil) .nil) (.cons (.ret (.and_ (.op .ne (.idx (.slot 1) (.cst (.int 0))) (.idx (.slot 1) (.cst (.int 1)))) (.and_ (.call 3 (.cons (.idx (.slot 1) (.cst (.int 2))) .nil)) (.op .ne (.idx (.slot 1) (.cst (.int 2))) (.cst (.str [])))))) .nil))
def N_Store___init__ : List Str := ["self", "kinds", "handles", "number", "item", "a", "b", "rights"]
def b_Store___init__ : Ss := (.cons (.iff (.not_ (.call 6 (.cons (.slot 1) (.cons (.cst (.int 16)) .nil)))) (.cons (.raise 1 (.cons (.cst (.str [107, 105, 110, 100, 115])) .nil)) .nil) .nil) (.cons (.iff (.or_ (.not_ (.isin (.slot 2) [.tuple])) (.op .gt (.bi .len (.cons (.slot 2) .nil)) (.cst (.int 60)))) (.cons (.raise 1 (.cons (.cst (.str [104, 97, 110, 100, 108, 101, 115])) .nil)) .nil) .nil) (.cons (.for_ (.tup (.cons (.slot 3) (.cons (.slot 4) .nil))) (.enum (.slot 2)) (.cons (.iff (.or_ (.not_ (.call 7 (.cons (.bi .len (.cons (.slot 1) .nil)) (.cons (.slot 4) .nil)))) (.and_ (.op .gt (.slot 3) (.cst (.int 0))) (.op .le (.slice (.slot 4) .none (.some (.cst (.int 2)))) (.slice (.idx (.slot 2) (.op .sub (.slot 3) (.cst (.int 1)))) .none (.some (.cst (.int 2))))))) (.cons (.raise 1 (.cons (.slot 3) .nil)) .nil) .nil) .nil)) (.cons (.expr (.meth (.slot 0) 4 9 (.cons (.slot 1) (.cons (.mk false (.dcomp true (.tup (.cons (.slot 5) (.cons (.slot 6) .nil))) (.slot 7) (.mk (.tup (.cons (.slot 5) (.cons (.slot 6) (.cons (.slot 7) .nil)))) (.e (.slot 2)) .nil))) .nil)))) .nil))))
def N_Store_fill : List Str := ["self", "kinds", "held", "pair", "rights"]
def b_Store_fill : Ss := (.cons (.asgF (.slot 0) 2 (.slot 1)) (.cons (.asgF (.slot 0) 3 (.mk false (.dcomp true (.slot 3) (.idx (.slot 2) (.slot 3)) (.mk (.slot 3) (.e (.mk false (.sorted (.slot 2)))) (.cons (.op .ne (.idx (.slot 2) (.slot 3)) (.cst (.str []))) .nil))))) (.cons (.asgF (.slot 0) 4 (.bi .tuple (.cons (.mk false (.comp (.op .add (.slot 3) (.tup (.cons (.slot 4) .nil))) (.mk (.tup (.cons (.slot 3) (.cons (.slot 4) .nil))) (.items (.fld (.slot 0) 3)) .nil))) .nil))) .nil)))
def N_Store___eq__ : List Str := ["self", "other"]
def b_Store___eq__ : Ss := (.cons (.ret (.and_ (.isin (.slot 1) [(.own 4)]) (.and_ (.op .eq (.fld (.slot 0) 2) (.fld (.slot 1) 2)) (.op .eq (.fld (.slot 0) 4) (.fld (.slot 1) 4))))) .nil)
def N_rights_in : List Str := ["store", "a", "b"]
def b_rights_in : Ss := (.cons (.ret (.bm .get (.fld (.slot 0) 3) (.cons (.tup (.cons (.slot 1) (.cons (.slot 2) .nil))) (.cons (.cst (.str [])) .nil)))) .nil)
def N_rights_of : List Str := ["store", "a", "b"]
def b_rights_of : Ss := (.cons (.expr (.call 5 (.cons (.slot 0) (.cons (.slot 1) .nil)))) (.cons (.expr (.call 5 (.cons (.slot 0) (.cons (.slot 2) .nil)))) (.cons (.ret (.call 11 (.cons (.slot 0) (.cons (.slot 1) (.cons (.slot 2) .nil))))) .nil)))
def N_are_some_rights : List Str := ["thing"]
def b_are_some_rights : Ss := (.cons (.ret (.and_ (.call 3 (.cons (.slot 0) .nil)) (.op .ne (.slot 0) (.cst (.str []))))) .nil)
def N_store_text : List Str := ["store", "lines", "a", "b", "rights", "line"]
def b_store_text : Ss := (.cons (.asg (.slot 1) (.mk true (.lst (.cons (.op .add (.cst (.str [107, 105, 110, 100, 115, 32])) (.fld (.slot 0) 2)) .nil)))) (.cons (.expr (.bm .extend (.slot 1) (.cons (.mk false (.comp (.op .add (.op .add (.op .add (.op .add (.bi .str (.cons (.slot 2) .nil)) (.cst (.str [32]))) (.bi .str (.cons (.slot 3) .nil))) (.cst (.str [32]))) (.slot 4)) (.mk (.tup (.cons (.slot 2) (.cons (.slot 3) (.cons (.slot 4) .nil)))) (.e (.fld (.slot 0) 4)) .nil))) .nil))) (.cons (.ret (.bm .join (.cst (.str [])) (.cons (.mk false (.comp (.op .add (.slot 5) (.cst (.str [10]))) (.mk (.slot 5) (.e (.slot 1)) .nil))) .nil))) .nil)))
def N_number_of : List Str := ["word", "sign"]
def b_number_of : Ss := (.cons (.iff (.or_ (.not_ (.chain .le .le (.cst (.int 1)) (.bi .len (.cons (.slot 0) .nil)) (.cst (.int 9)))) (.not_ (.bi .all (.cons (.mk false (.comp (.op .in_ (.slot 1) (.cst (.str [48, 49, 50, 51, 52, 53, 54, 55, 56, 57]))) (.mk (.slot 1) (.e (.slot 0)) .nil))) .nil)))) (.cons (.ret (.cst .non)) .nil) .nil) (.cons (.iff (.and_ (.op .gt (.bi .len (.cons (.slot 0) .nil)) (.cst (.int 1))) (.op .eq (.idx (.slot 0) (.cst (.int 0))) (.cst (.str [48])))) (.cons (.ret (.cst .non)) .nil) .nil) (.cons (.ret (.bi .strInt (.cons (.slot 0) .nil))) .nil)))
def N_kinds_of : List Str := ["line", "word", "blank", "kinds"]
def b_kinds_of : Ss := (.cons (.asg (.tup (.cons (.slot 1) (.cons (.slot 2) (.cons (.slot 3) .nil)))) (.bm .partition (.slot 0) (.cons (.cst (.str [32])) .nil))) (.cons (.ret (.ite (.and_ (.op .eq (.slot 1) (.cst (.str [107, 105, 110, 100, 115]))) (.call 6 (.cons (.slot 3) (.cons (.bi .len (.cons (.slot 3) .nil)) .nil)))) (.slot 3) (.cst .non))) .nil))
def N_handle_of : List Str := ["line", "words", "a", "b"]
def b_handle_of : Ss := (.cons (.asg (.slot 1) (.bm .split (.slot 0) (.cons (.cst (.str [32])) .nil))) (.cons (.iff (.or_ (.op .ne (.bi .len (.cons (.slot 1) .nil)) (.cst (.int 3))) (.not_ (.call 13 (.cons (.idx (.slot 1) (.cst (.int 2))) .nil)))) (.cons (.ret (.cst .non)) .nil) .nil) (.cons (.asg (.tup (.cons (.slot 2) (.cons (.slot 3) .nil))) (.tup (.cons (.call 15 (.cons (.idx (.slot 1) (.cst (.int 0))) .nil)) (.cons (.call 15 (.cons (.idx (.slot 1) (.cst (.int 1))) .nil)) .nil)))) (.cons (.ret (.ite (.or_ (.isNon (.slot 2)) (.isNon (.slot 3))) (.cst .non) (.tup (.cons (.slot 2) (.cons (.slot 3) (.cons (.idx (.slot 1) (.cst (.int 2))) .nil)))))) .nil))))
def N_lines_read : List Str := ["text", "readers", "lines", "found", "number", "line", "told"]
def b_lines_read : Ss := (.cons (.iff (.not_ (.isin (.slot 0) [.str])) (.cons (.raise 3 (.cons (.cst (.int 0)) .nil)) .nil) .nil) (.cons (.asg (.slot 2) (.bm .split (.slot 0) (.cons (.cst (.str [10])) .nil))) (.cons (.asg (.slot 3) (.mk true (.lst .nil))) (.cons (.for_ (.tup (.cons (.slot 4) (.cons (.slot 5) .nil))) (.enum (.slice (.slot 2) .none (.some (.neg (.cst (.int 1)))))) (.cons (.asg (.slot 6) (.callv (.idx (.slot 1) (.bi .min (.cons (.slot 4) (.cons (.op .sub (.bi .len (.cons (.slot 1) .nil)) (.cst (.int 1))) .nil)))) (.cons (.slot 5) .nil))) (.cons (.iff (.isNon (.slot 6)) (.cons (.raise 3 (.cons (.op .add (.slot 4) (.cst (.int 1))) .nil)) .nil) .nil) (.cons (.expr (.bm .append (.slot 3) (.cons (.slot 6) .nil))) .nil)))) (.cons (.iff (.op .ne (.idx (.slot 2) (.neg (.cst (.int 1)))) (.cst (.str []))) (.cons (.raise 3 (.cons (.bi .len (.cons (.slot 2) .nil)) .nil)) .nil) .nil) (.cons (.ret (.slot 3)) .nil))))))
def N_read_store : List Str := ["text", "found"]
def b_read_store : Ss := (.cons (.asg (.slot 1) (.call 18 (.cons (.slot 0) (.cons (.mk false (.lst (.cons (.cst (.fn 16)) (.cons (.cst (.fn 17)) .nil)))) .nil)))) (.cons (.iff (.op .eq (.bi .len (.cons (.slot 1) .nil)) (.cst (.int 0))) (.cons (.raise 3 (.cons (.cst (.int 1)) .nil)) .nil) .nil) (.cons (.ret (.new 4 8 (.cons (.idx (.slot 1) (.cst (.int 0))) (.cons (.bi .tuple (.cons (.slice (.slot 1) (.some (.cst (.int 1))) .none) .nil)) .nil)))) .nil)))
def N__law_hand : List Str := ["script", "cells", "cell"]
def b__law_hand : Ss := (.cons (.asg (.slot 1) (.mk false (.comp (.bi .abs (.cons (.bi .int (.cons (.slot 2) .nil)) .nil)) (.mk (.slot 2) (.e (.slice (.slot 0) .none (.some (.cst (.int 63))))) .nil)))) (.cons (.ret (.mk true (.lst (.cons (.slot 1) (.cons (.cst (.int 0)) (.cons (.cst (.int 0)) (.cons (.op .add (.cst (.int 719)) (.op .mul (.cst (.int 7)) (.bi .len (.cons (.slot 1) .nil)))) (.cons (.cst (.int 0)) .nil)))))))) .nil))
def N__law_draw : List Str := ["hand", "below", "cell", "digit", "number"]
def b__law_draw : Ss := (.cons (.iff (.and_ (.op .eq (.idx (.slot 0) (.cst (.int 2))) (.cst (.int 0))) (.op .lt (.idx (.slot 0) (.cst (.int 1))) (.bi .len (.cons (.idx (.slot 0) (.cst (.int 0))) .nil)))) (.cons (.asg (.slot 2) (.idx (.idx (.slot 0) (.cst (.int 0))) (.idx (.slot 0) (.cst (.int 1))))) (.cons (.asgI (.slot 0) (.cst (.int 1)) (.op .add (.idx (.slot 0) (.cst (.int 1))) (.cst (.int 1)))) (.cons (.asgI (.slot 0) (.cst (.int 3)) (.op .mod (.bi .int (.cons (.op .add (.op .add (.op .mul (.idx (.slot 0) (.cst (.int 3))) (.cst (.int 69621))) (.op .mul (.slot 2) (.cst (.int 40692)))) (.cst (.int 31))) .nil)) (.cst (.int 2147483629)))) (.cons (.iff (.op .ge (.slot 2) (.op .pow (.cst (.int 10)) (.cst (.int 18)))) (.cons (.asgI (.slot 0) (.cst (.int 2)) (.slot 2)) .nil) .nil) .nil)))) .nil) (.cons (.iff (.op .gt (.idx (.slot 0) (.cst (.int 2))) (.cst (.int 0))) (.cons (.asg (.slot 3) (.op .mod (.bi .int (.cons (.idx (.slot 0) (.cst (.int 2))) .nil)) (.slot 1))) (.cons (.asgI (.slot 0) (.cst (.int 2)) (.op .fdiv (.idx (.slot 0) (.cst (.int 2))) (.slot 1))) (.cons (.ret (.slot 3)) .nil))) .nil) (.cons (.asgI (.slot 0) (.cst (.int 4)) (.op .add (.idx (.slot 0) (.cst (.int 4))) (.cst (.int 1)))) (.cons (.asg (.slot 4) (.op .mod (.bi .int (.cons (.op .mul (.bi .int (.cons (.op .add (.idx (.slot 0) (.cst (.int 3))) (.op .mul (.cst (.int 7919)) (.idx (.slot 0) (.cst (.int 4))))) .nil)) (.cst (.int 48271))) .nil)) (.cst (.int 2147483647)))) (.cons (.asg (.slot 4) (.op .mod (.bi .int (.cons (.op .mul (.slot 4) (.op .add (.op .fdiv (.slot 4) (.cst (.int 1009))) (.cst (.int 69621)))) .nil)) (.cst (.int 2147483647)))) (.cons (.asg (.slot 4) (.op .mod (.bi .int (.cons (.op .mul (.slot 4) (.op .add (.op .fdiv (.slot 4) (.cst (.int 2003))) (.cst (.int 40014)))) .nil)) (.cst (.int 2147483563)))) (.cons (.ret (.op .mod (.bi .int (.cons (.op .fdiv (.slot 4) (.cst (.int 16))) .nil)) (.slot 1))) .nil)))))))
def N__law_any : List Str := ["hand", "some"]
def b__law_any : Ss := (.cons (.ret (.idx (.slot 1) (.call 21 (.cons (.slot 0) (.cons (.bi .len (.cons (.slot 1) .nil)) .nil))))) .nil)
def N__law_some_rights : List Str := ["hand", "found", "letter"]
def b__law_some_rights : Ss := (.cons (.asg (.slot 1) (.bm .join (.cst (.str [])) (.cons (.mk false (.comp (.slot 2) (.mk (.slot 2) (.e (.cst (.str [103, 114, 116, 119, 120]))) (.cons (.op .eq (.call 21 (.cons (.slot 0) (.cons (.cst (.int 3)) .nil))) (.cst (.int 0))) .nil)))) .nil))) (.cons (.ret (.ite (.op .ne (.slot 1) (.cst (.str []))) (.slot 1) (.idx (.cst (.str [103, 114, 116, 119, 120])) (.call 21 (.cons (.slot 0) (.cons (.cst (.int 5)) .nil)))))) .nil))
def N__law_is_plain : List Str := ["got", "due", "one", "other"]
def b__law_is_plain : Ss := (.cons (.iff (.isin (.slot 1) [.tuple, .list]) (.cons (.iff (.or_ (.not_ (.isin (.slot 0) [.tuple, .list])) (.or_ (.op .ne (.isin (.slot 0) [.tuple]) (.isin (.slot 1) [.tuple])) (.op .ne (.bi .len (.cons (.slot 0) .nil)) (.bi .len (.cons (.slot 1) .nil))))) (.cons (.ret (.cst (.bl false))) .nil) .nil) (.cons (.ret (.bi .all (.cons (.mk false (.comp (.call 24 (.cons (.slot 2) (.cons (.slot 3) .nil))) (.mk (.tup (.cons (.slot 2) (.cons (.slot 3) .nil))) (.zip (.slot 0) (.slot 1)) .nil))) .nil))) .nil)) .nil) (.cons (.iff (.isin (.slot 1) [.str]) (.cons (.ret (.and_ (.isin (.slot 0) [.str]) (.op .eq (.slot 0) (.slot 1)))) .nil) .nil) (.cons (.ret (.and_ (.isin (.slot 0) [.int]) (.and_ (.not_ (.isin (.slot 0) [.bool])) (.op .eq (.slot 0) (.slot 1))))) .nil)))
def N__law_is_store : List Str := ["got", "kinds", "handles"]
def b__law_is_store : Ss := (.cons (.ret (.and_ (.isin (.slot 0) [(.own 4)]) (.call 24 (.cons (.mk false (.lst (.cons (.fld (.slot 0) 2) (.cons (.fld (.slot 0) 4) .nil)))) (.cons (.mk false (.lst (.cons (.slot 1) (.cons (.slot 2) .nil)))) .nil))))) .nil)
def N__law_rows : List Str := ["hand", "kinds", "many", "found", "lap", "a", "b", "at", "one"]
def b__law_rows : Ss := (.cons (.asg (.tup (.cons (.slot 2) (.cons (.slot 3) .nil))) (.tup (.cons (.bi .len (.cons (.slot 1) .nil)) (.cons (.mk true (.lst .nil)) .nil)))) (.cons (.for_ (.slot 4) (.range (.call 22 (.cons (.slot 0) (.cons (.mk false (.lst (.cons (.cst (.int 0)) (.cons (.cst (.int 1)) (.cons (.cst (.int 3)) (.cons (.cst (.int 8)) (.cons (.cst (.int 20)) .nil))))))) .nil)))) (.cons (.asg (.tup (.cons (.slot 5) (.cons (.slot 6) .nil))) (.tup (.cons (.call 21 (.cons (.slot 0) (.cons (.slot 2) .nil))) (.cons (.call 21 (.cons (.slot 0) (.cons (.slot 2) .nil))) .nil)))) (.cons (.iff (.and_ (.op .ne (.slot 5) (.slot 6)) (.op .notin (.tup (.cons (.slot 5) (.cons (.slot 6) .nil))) (.mk false (.comp (.slice (.slot 8) .none (.some (.cst (.int 2)))) (.mk (.slot 8) (.e (.slot 3)) .nil))))) (.cons (.expr (.bm .append (.slot 3) (.cons (.tup (.cons (.slot 5) (.cons (.slot 6) (.cons (.call 23 (.cons (.slot 0) .nil)) .nil)))) .nil))) .nil) .nil) .nil))) (.cons (.asg (.slot 3) (.mk true (.sorted (.slot 3)))) (.cons (.for_ (.slot 4) (.range (.call 21 (.cons (.slot 0) (.cons (.cst (.int 3)) .nil)))) (.cons (.asg (.slot 7) (.call 21 (.cons (.slot 0) (.cons (.op .add (.bi .len (.cons (.slot 3) .nil)) (.cst (.int 1))) .nil)))) (.cons (.asg (.tup (.cons (.slot 5) (.cons (.slot 6) .nil))) (.tup (.cons (.call 21 (.cons (.slot 0) (.cons (.op .add (.slot 2) (.cst (.int 1))) .nil))) (.cons (.call 22 (.cons (.slot 0) (.cons (.mk false (.lst (.cons (.call 21 (.cons (.slot 0) (.cons (.op .add (.slot 2) (.cst (.int 1))) .nil))) (.cons (.slot 2) (.cons (.cst (.int 999999999)) .nil))))) .nil))) .nil)))) (.cons (.expr (.bm .insert (.slot 3) (.cons (.slot 7) (.cons (.call 22 (.cons (.slot 0) (.cons (.mk false (.lst (.cons (.tup (.cons (.slot 5) (.cons (.slot 6) (.cons (.cst (.str [103])) .nil)))) (.cons (.tup (.cons (.slot 5) (.cons (.slot 5) (.cons (.cst (.str [116])) .nil)))) (.cons (.tup (.cons (.slot 6) (.cons (.slot 5) (.cons (.cst (.str [120])) .nil)))) (.cons (.idx (.mk false (.cat (.slot 3) (.mk false (.lst (.cons (.tup (.cons (.cst (.int 0)) (.cons (.cst (.int 0)) (.cons (.cst (.str [119])) .nil)))) .nil))))) (.slot 7)) .nil)))))) .nil))) .nil)))) .nil)))) (.cons (.ret (.slot 3)) .nil)))))
def N__law_part : List Str := ["kinds", "rows", "at", "a", "b", "rights"]
def b__law_part : Ss := (.cons (.iff (.op .gt (.bi .len (.cons (.slot 0) .nil)) (.cst (.int 16))) (.cons (.ret (.cst (.str [107, 105, 110, 100, 115]))) .nil) .nil) (.cons (.iff (.op .gt (.bi .len (.cons (.slot 1) .nil)) (.cst (.int 60))) (.cons (.ret (.cst (.str [104, 97, 110, 100, 108, 101, 115]))) .nil) .nil) (.cons (.for_ (.tup (.cons (.slot 2) (.cons (.tup (.cons (.slot 3) (.cons (.slot 4) (.cons (.slot 5) .nil)))) .nil))) (.enum (.slot 1)) (.cons (.iff (.or_ (.op .eq (.slot 3) (.slot 4)) (.or_ (.op .ge (.slot 3) (.bi .len (.cons (.slot 0) .nil))) (.or_ (.op .ge (.slot 4) (.bi .len (.cons (.slot 0) .nil))) (.and_ (.op .gt (.slot 2) (.cst (.int 0))) (.op .le (.tup (.cons (.slot 3) (.cons (.slot 4) .nil))) (.slice (.idx (.slot 1) (.op .sub (.slot 2) (.cst (.int 1)))) .none (.some (.cst (.int 2))))))))) (.cons (.ret (.slot 2)) .nil) .nil) .nil)) (.cons (.ret (.cst .non)) .nil))))
def N__law_told : List Str := ["call", "found", "error"]
def b__law_told : Ss := (.cons (.asg (.slot 1) (.tup (.cons (.cst (.str [111, 116, 104, 101, 114])) (.cons (.cst .non) .nil)))) (.cons (.try_ (.cons (.asg (.slot 1) (.tup (.cons (.cst (.str [116, 111, 108, 100])) (.cons (.callv (.slot 0) .nil) .nil)))) .nil) (.cons [.own 0] (some 2) (.cons (.iff (.and_ (.exIs 2 .valueError) (.and_ (.exIs 2 (.own 1)) (.not_ (.exIs 2 (.own 3))))) (.cons (.asg (.slot 1) (.tup (.cons (.cst (.str [112, 97, 114, 116])) (.cons (.exFld 2 0) .nil)))) .nil) .nil) .nil) .nil)) (.cons (.ret (.slot 1)) .nil)))
def N__law_written : List Str := ["kinds", "rows", "a", "b", "rights"]
def b__law_written : Ss := (.cons (.ret (.op .add (.op .add (.op .add (.cst (.str [107, 105, 110, 100, 115, 32])) (.slot 0)) (.cst (.str [10]))) (.bm .join (.cst (.str [])) (.cons (.mk false (.comp (.op .add (.bm .join (.cst (.str [32])) (.cons (.mk false (.lst (.cons (.bi .str (.cons (.slot 2) .nil)) (.cons (.bi .str (.cons (.slot 3) .nil)) (.cons (.slot 4) .nil))))) .nil)) (.cst (.str [10]))) (.mk (.tup (.cons (.slot 2) (.cons (.slot 3) (.cons (.slot 4) .nil)))) (.e (.slot 1)) .nil))) .nil)))) .nil)
def N__law_is_right : List Str := ["kinds", "rows", "due", "calls", "call", "got", "store", "text", "a", "b", "rights"]
def b__law_is_right : Ss := (.cons (.asg (.tup (.cons (.slot 2) (.cons (.slot 7) .nil))) (.tup (.cons (.call 27 (.cons (.slot 0) (.cons (.slot 1) .nil))) (.cons (.call 29 (.cons (.slot 0) (.cons (.slot 1) .nil))) .nil)))) (.cons (.blk [0, 1, 7] (.cons (.asg (.slot 3) (.mk true (.lst (.cons (.lam NF1 [7]) .nil)))) (.cons (.expr (.bm .append (.slot 3) (.cons (.lam NF0 [1, 0]) .nil))) (.cons (.for_ (.slot 4) (.e (.slot 3)) (.cons (.asg (.slot 5) (.call 28 (.cons (.slot 4) .nil))) (.cons (.iff (.and_ (.isNon (.slot 2)) (.or_ (.op .ne (.idx (.slot 5) (.cst (.int 0))) (.cst (.str [116, 111, 108, 100]))) (.not_ (.call 25 (.cons (.idx (.slot 5) (.cst (.int 1))) (.cons (.slot 0) (.cons (.bi .tuple (.cons (.slot 1) .nil)) .nil))))))) (.cons (.ret (.cst (.bl false))) .nil) .nil) (.cons (.iff (.and_ (.notNon (.slot 2)) (.or_ (.op .ne (.idx (.slot 5) (.cst (.int 0))) (.cst (.str [112, 97, 114, 116]))) (.or_ (.isin (.idx (.slot 5) (.cst (.int 1))) [.bool]) (.op .ne (.idx (.slot 5) (.cst (.int 1))) (.slot 2))))) (.cons (.ret (.cst (.bl false))) .nil) .nil) .nil)))) .nil)))) (.cons (.iff (.notNon (.slot 2)) (.cons (.ret (.cst (.bl true))) .nil) .nil) (.cons (.asg (.slot 6) (.call 19 (.cons (.slot 7) .nil))) (.cons (.iff (.or_ (.eqO true 4 10 (.slot 6) (.new 4 8 (.cons (.slot 0) (.cons (.bi .tuple (.cons (.slot 1) .nil)) .nil)))) (.op .ne (.call 14 (.cons (.slot 6) .nil)) (.slot 7))) (.cons (.ret (.cst (.bl false))) .nil) .nil) (.cons (.ret (.bi .all (.cons (.mk false (.comp (.op .eq (.call 12 (.cons (.slot 6) (.cons (.slot 8) (.cons (.slot 9) .nil)))) (.slot 10)) (.mk (.tup (.cons (.slot 8) (.cons (.slot 9) (.cons (.slot 10) .nil)))) (.e (.slot 1)) .nil))) .nil))) .nil))))))
def N_law : List Str := ["script", "hand", "lap", "kinds", "pairs", "a", "rows", "member", "b"]
def b_law : Ss := (.cons (.asg (.slot 1) (.call 20 (.cons (.slot 0) .nil))) (.cons (.for_ (.slot 2) (.range (.cst (.int 6))) (.cons (.asg (.slot 3) (.bm .join (.cst (.str [])) (.cons (.mk false (.comp (.call 22 (.cons (.slot 1) (.cons (.mk false (.lst (.cons (.cst (.str [68])) (.cons (.cst (.str [84])) .nil)))) .nil))) (.mk (.slot 7) (.range (.op .add (.cst (.int 1)) (.call 21 (.cons (.slot 1) (.cons (.call 22 (.cons (.slot 1) (.cons (.mk false (.lst (.cons (.cst (.int 3)) (.cons (.cst (.int 9)) (.cons (.cst (.int 16)) .nil))))) .nil))) .nil))))) .nil))) .nil))) (.cons (.iff (.not_ (.call 30 (.cons (.slot 3) (.cons (.call 26 (.cons (.slot 1) (.cons (.slot 3) .nil))) .nil)))) (.cons (.ret (.cst (.bl false))) .nil) .nil) .nil))) (.cons (.asg (.slot 4) (.mk true (.lst .nil))) (.cons (.for_ (.slot 5) (.range (.cst (.int 16))) (.cons (.expr (.bm .extend (.slot 4) (.cons (.mk false (.comp (.tup (.cons (.slot 5) (.cons (.slot 8) .nil))) (.mk (.slot 8) (.range (.slot 5)) .nil))) .nil))) .nil)) (.cons (.asg (.slot 6) (.mk false (.comp (.tup (.cons (.slot 5) (.cons (.slot 8) (.cons (.call 23 (.cons (.slot 1) .nil)) .nil)))) (.mk (.tup (.cons (.slot 5) (.cons (.slot 8) .nil))) (.e (.slice (.slot 4) .none (.some (.op .add (.cst (.int 60)) (.call 21 (.cons (.slot 1) (.cons (.cst (.int 2)) .nil))))))) .nil)))) (.cons (.asg (.slot 3) (.op .add (.op .mul (.cst (.str [68, 84])) (.cst (.int 8))) (.op .mul (.cst (.str [84])) (.call 21 (.cons (.slot 1) (.cons (.cst (.int 2)) .nil)))))) (.cons (.ret (.and_ (.call 30 (.cons (.slot 3) (.cons (.slot 6) .nil))) (.call 30 (.cons (.op .mul (.cst (.str [84])) (.op .add (.cst (.int 17)) (.call 21 (.cons (.slot 1) (.cons (.cst (.int 200)) .nil))))) (.cons (.mk false (.lst (.cons (.tup (.cons (.cst (.int 0)) (.cons (.cst (.int 0)) (.cons (.cst (.str [103])) .nil)))) .nil))) .nil))))) .nil)))))))
def Fs : Nat → Option Fn := fun i => ([⟨1, 1, false, b_is_integer⟩, ⟨3, 3, false, b_is_within⟩, ⟨1, 1, false, b_is_triple⟩, ⟨2, 1, false, b_are_rights⟩, ⟨2, 2, false, b_is_member⟩, ⟨2, 2, false, b_check_member⟩, ⟨3, 2, false, b_are_kinds⟩, ⟨2, 2, false, b_is_handle⟩, ⟨8, 3, false, b_Store___init__⟩, ⟨5, 3, false, b_Store_fill⟩, ⟨2, 2, false, b_Store___eq__⟩, ⟨3, 3, false, b_rights_in⟩, ⟨3, 3, false, b_rights_of⟩, ⟨1, 1, false, b_are_some_rights⟩, ⟨6, 1, true, b_store_text⟩, ⟨2, 1, false, b_number_of⟩, ⟨4, 1, false, b_kinds_of⟩, ⟨4, 1, false, b_handle_of⟩, ⟨7, 2, true, b_lines_read⟩, ⟨2, 1, true, b_read_store⟩, ⟨3, 1, false, b__law_hand⟩, ⟨5, 2, false, b__law_draw⟩, ⟨2, 2, false, b__law_any⟩, ⟨3, 1, false, b__law_some_rights⟩, ⟨4, 2, false, b__law_is_plain⟩, ⟨3, 3, false, b__law_is_store⟩, ⟨9, 2, true, b__law_rows⟩, ⟨6, 2, false, b__law_part⟩, ⟨3, 1, false, b__law_told⟩, ⟨5, 2, false, b__law_written⟩, ⟨11, 2, true, b__law_is_right⟩, ⟨9, 1, false, b_law⟩, ⟨2, 2, true, .cons (.ret x__law_is_right_lam0) .nil⟩, ⟨1, 1, false, .cons (.ret x__law_is_right_lam1) .nil⟩] : List Fn)[i]?
end K65
end

section
set_option maxRecDepth 100000
set_option maxHeartbeats 4000000
namespace K65
open PySem PySem.Spec PyProof.Rows L2 LamX NdefX Pv
/-! ### each def runs as its text says -/
section
variable {prog : Program} {wd : World} {K : PySem.W.Frag} {mg : Str → Option Value} {base : Heap} {Y : At} {P : Pv.Cls} {Cc : Calls} {f : Addr} {cdv : Value} {A : Around} {outer : List PySem.Env} {s : Shared} {H : Hp} {E : XK}
abbrev X_is_integer (prog : Program) (wd : World) (K : PySem.W.Frag) (mg : Str → Option Value) (base : Heap) (f : Addr) (cdv : Value) (A : Around) (outer : List PySem.Env) (s : Shared) (H : Hp) (E : XK) : Cx := cxOf (L2.CX prog wd) prog wd K mg base N_is_integer "is_integer" (defScope (top 8)) f cdv A outer s H E
theorem w_is_integer (C : Ct T (X_is_integer prog wd K mg base f cdv A outer s H E) (F0 Y P Cc E)) : PSs (X_is_integer prog wd K mg base f cdv A outer s H E) (defBody (top 8)) (tSs (F0 Y P Cc E) b_is_integer) := by
  have po : PassesOwn (model prog wd) (X_is_integer prog wd K mg base f cdv A outer s H E).A (X_is_integer prog wd K mg base f cdv A outer s H E).env (X_is_integer prog wd K mg base f cdv A outer s H E).xe := passes_of rfl
  exact (ok_scons (ok_ret (ok_and (w_isin1 (k := .int) C.toCb 0 (w_loc C.toCb 0) (c_ty C.toCb 1 bt_int)) (pe_one (ok_not (w_isin1 (k := .bool) C.toCb 0 (w_loc C.toCb 0) (c_ty C.toCb 2 bt_bool)))))) ok_snil)
abbrev X_is_within (prog : Program) (wd : World) (K : PySem.W.Frag) (mg : Str → Option Value) (base : Heap) (f : Addr) (cdv : Value) (A : Around) (outer : List PySem.Env) (s : Shared) (H : Hp) (E : XK) : Cx := cxOf (L2.CX prog wd) prog wd K mg base N_is_within "is_within" (defScope (top 9)) f cdv A outer s H E
theorem w_is_within (C : Ct T (X_is_within prog wd K mg base f cdv A outer s H E) (F0 Y P Cc E)) : PSs (X_is_within prog wd K mg base f cdv A outer s H E) (defBody (top 9)) (tSs (F0 Y P Cc E) b_is_within) := by
  have po : PassesOwn (model prog wd) (X_is_within prog wd K mg base f cdv A outer s H E).A (X_is_within prog wd K mg base f cdv A outer s H E).env (X_is_within prog wd K mg base f cdv A outer s H E).xe := passes_of rfl
  exact (ok_scons (ok_ret (ok_and (w_call C 0 (w_cons (w_loc C.toCb 0) ok_nil)) (pe_one (w_chain C.toCb .le .le (w_loc C.toCb 1) (w_loc C.toCb 0) (w_loc C.toCb 2))))) ok_snil)
abbrev X_is_triple (prog : Program) (wd : World) (K : PySem.W.Frag) (mg : Str → Option Value) (base : Heap) (f : Addr) (cdv : Value) (A : Around) (outer : List PySem.Env) (s : Shared) (H : Hp) (E : XK) : Cx := cxOf (L2.CX prog wd) prog wd K mg base N_is_triple "is_triple" (defScope (top 10)) f cdv A outer s H E
theorem w_is_triple (C : Ct T (X_is_triple prog wd K mg base f cdv A outer s H E) (F0 Y P Cc E)) : PSs (X_is_triple prog wd K mg base f cdv A outer s H E) (defBody (top 10)) (tSs (F0 Y P Cc E) b_is_triple) := by
  have po : PassesOwn (model prog wd) (X_is_triple prog wd K mg base f cdv A outer s H E).A (X_is_triple prog wd K mg base f cdv A outer s H E).env (X_is_triple prog wd K mg base f cdv A outer s H E).xe := passes_of rfl
  exact (ok_scons (ok_ret (ok_and (w_isin1 (k := .tuple) C.toCb 0 (w_loc C.toCb 0) (c_ty C.toCb 3 bt_tuple)) (pe_one (w_cmp C.toCb .eq (w_biB C.toCb 4 (bi_len C.toCb.fc.hK) (w_cons (w_loc C.toCb 0) ok_nil) bt_len) w_int)))) ok_snil)
abbrev X_are_rights (prog : Program) (wd : World) (K : PySem.W.Frag) (mg : Str → Option Value) (base : Heap) (f : Addr) (cdv : Value) (A : Around) (outer : List PySem.Env) (s : Shared) (H : Hp) (E : XK) : Cx := cxOf (L2.CX prog wd) prog wd K mg base N_are_rights "are_rights" (defScope (top 11)) f cdv A outer s H E
theorem w_are_rights (C : Ct T (X_are_rights prog wd K mg base f cdv A outer s H E) (F0 Y P Cc E)) : PSs (X_are_rights prog wd K mg base f cdv A outer s H E) (defBody (top 11)) (tSs (F0 Y P Cc E) b_are_rights) := by
  have po : PassesOwn (model prog wd) (X_are_rights prog wd K mg base f cdv A outer s H E).A (X_are_rights prog wd K mg base f cdv A outer s H E).env (X_are_rights prog wd K mg base f cdv A outer s H E).xe := passes_of rfl
  exact (ok_scons (ok_ret (ok_and (w_isin1 (k := .str) C.toCb 0 (w_cel C.toCb 0) (c_ty C.toCb 5 bt_str)) (pe_one (w_cmp C.toCb .eq (w_cel C.toCb 0) (w_bm (bm_join C.toCb.fc.hK) F.plainAttrs_str F.slot_str_join rfl (w_str []) (w_cons (w_lc C [("right", 1)] (w_itE C.toCb (w_gstr C.toCb 0)) (fun _ _ _ _ _ C => (w_gname C.toCb 1)) (fun _ _ _ _ _ C => (ok_ts1 (w_tcmp C.toCb .in_ (w_loc C.toCb 1) (w_cel C.toCb 0)))) (fun _ _ _ _ _ C => (w_loc C.toCb 1))) ok_nil)))))) ok_snil)
abbrev X_is_member (prog : Program) (wd : World) (K : PySem.W.Frag) (mg : Str → Option Value) (base : Heap) (f : Addr) (cdv : Value) (A : Around) (outer : List PySem.Env) (s : Shared) (H : Hp) (E : XK) : Cx := cxOf (L2.CX prog wd) prog wd K mg base N_is_member "is_member" (defScope (top 12)) f cdv A outer s H E
theorem w_is_member (C : Ct T (X_is_member prog wd K mg base f cdv A outer s H E) (F0 Y P Cc E)) : PSs (X_is_member prog wd K mg base f cdv A outer s H E) (defBody (top 12)) (tSs (F0 Y P Cc E) b_is_member) := by
  have po : PassesOwn (model prog wd) (X_is_member prog wd K mg base f cdv A outer s H E).A (X_is_member prog wd K mg base f cdv A outer s H E).env (X_is_member prog wd K mg base f cdv A outer s H E).xe := passes_of rfl
  exact (ok_scons (ok_ret (w_call C 1 (w_cons (w_loc C.toCb 1) (w_cons w_int (w_cons (w_sub C.toCb (w_biB C.toCb 4 (bi_len C.toCb.fc.hK) (w_cons (w_fld C.toCb 2 (w_loc C.toCb 0)) ok_nil) bt_len) w_int) ok_nil))))) ok_snil)
abbrev X_check_member (prog : Program) (wd : World) (K : PySem.W.Frag) (mg : Str → Option Value) (base : Heap) (f : Addr) (cdv : Value) (A : Around) (outer : List PySem.Env) (s : Shared) (H : Hp) (E : XK) : Cx := cxOf (L2.CX prog wd) prog wd K mg base N_check_member "check_member" (defScope (top 13)) f cdv A outer s H E
theorem w_check_member (C : Ct T (X_check_member prog wd K mg base f cdv A outer s H E) (F0 Y P Cc E)) : PSs (X_check_member prog wd K mg base f cdv A outer s H E) (defBody (top 13)) (tSs (F0 Y P Cc E) b_check_member) := by
  have po : PassesOwn (model prog wd) (X_check_member prog wd K mg base f cdv A outer s H E).A (X_check_member prog wd K mg base f cdv A outer s H E).env (X_check_member prog wd K mg base f cdv A outer s H E).xe := passes_of rfl
  exact (ok_scons (ok_iff (ok_tnot (w_test (w_call C 4 (w_cons (w_loc C.toCb 0) (w_cons (w_loc C.toCb 1) ok_nil))))) (ok_scons (w_raise0 C 0 2) ok_snil) ok_snil) ok_snil)
abbrev X_are_kinds (prog : Program) (wd : World) (K : PySem.W.Frag) (mg : Str → Option Value) (base : Heap) (f : Addr) (cdv : Value) (A : Around) (outer : List PySem.Env) (s : Shared) (H : Hp) (E : XK) : Cx := cxOf (L2.CX prog wd) prog wd K mg base N_are_kinds "are_kinds" (defScope (top 17)) f cdv A outer s H E
theorem w_are_kinds (C : Ct T (X_are_kinds prog wd K mg base f cdv A outer s H E) (F0 Y P Cc E)) : PSs (X_are_kinds prog wd K mg base f cdv A outer s H E) (defBody (top 17)) (tSs (F0 Y P Cc E) b_are_kinds) := by
  have po : PassesOwn (model prog wd) (X_are_kinds prog wd K mg base f cdv A outer s H E).A (X_are_kinds prog wd K mg base f cdv A outer s H E).env (X_are_kinds prog wd K mg base f cdv A outer s H E).xe := passes_of rfl
  exact (ok_scons (ok_ret (ok_and (w_isin1 (k := .str) C.toCb 0 (w_loc C.toCb 0) (c_ty C.toCb 5 bt_str)) (ok_and (w_chain C.toCb .le .le w_int (w_biB C.toCb 4 (bi_len C.toCb.fc.hK) (w_cons (w_loc C.toCb 0) ok_nil) bt_len) (w_loc C.toCb 1)) (pe_one (w_biB C.toCb 6 (bi_all rfl) (w_cons (w_lc C [("sign", 2)] (w_itE C.toCb (w_loc C.toCb 0)) (fun _ _ _ _ _ C => (w_gname C.toCb 2)) (fun _ _ _ _ _ C => ok_ts0) (fun _ _ _ _ _ C => (w_cmp C.toCb .in_ (w_loc C.toCb 2) (w_gstr C.toCb 1)))) ok_nil) bt_all))))) ok_snil)
abbrev X_is_handle (prog : Program) (wd : World) (K : PySem.W.Frag) (mg : Str → Option Value) (base : Heap) (f : Addr) (cdv : Value) (A : Around) (outer : List PySem.Env) (s : Shared) (H : Hp) (E : XK) : Cx := cxOf (L2.CX prog wd) prog wd K mg base N_is_handle "is_handle" (defScope (top 18)) f cdv A outer s H E
theorem w_is_handle (C : Ct T (X_is_handle prog wd K mg base f cdv A outer s H E) (F0 Y P Cc E)) : PSs (X_is_handle prog wd K mg base f cdv A outer s H E) (defBody (top 18)) (tSs (F0 Y P Cc E) b_is_handle) := by
  have po : PassesOwn (model prog wd) (X_is_handle prog wd K mg base f cdv A outer s H E).A (X_is_handle prog wd K mg base f cdv A outer s H E).env (X_is_handle prog wd K mg base f cdv A outer s H E).xe := passes_of rfl
  exact (ok_scons (ok_iff (ok_tor (ok_tnot (w_test (w_call C 2 (w_cons (w_loc C.toCb 1) ok_nil)))) (ok_tor (ok_tnot (w_test (w_call C 1 (w_cons (w_idx C.toCb (w_loc C.toCb 1) w_int) (w_cons w_int (w_cons (w_sub C.toCb (w_loc C.toCb 0) w_int) ok_nil)))))) (pw_or1 (ok_tnot (w_test (w_call C 1 (w_cons (w_idx C.toCb (w_loc C.toCb 1) w_int) (w_cons w_int (w_cons (w_sub C.toCb (w_loc C.toCb 0) w_int) ok_nil))))))))).pt (ok_scons (ok_ret w_bl) ok_snil) ok_snil) (ok_scons (ok_ret (ok_and (w_cmp C.toCb .ne (w_idx C.toCb (w_loc C.toCb 1) w_int) (w_idx C.toCb (w_loc C.toCb 1) w_int)) (ok_and (w_call C 3 (w_cons (w_idx C.toCb (w_loc C.toCb 1) w_int) ok_nil)) (pe_one (w_cmp C.toCb .ne (w_idx C.toCb (w_loc C.toCb 1) w_int) (w_str [])))))) ok_snil))
abbrev X_Store___init__ (prog : Program) (wd : World) (K : PySem.W.Frag) (mg : Str → Option Value) (base : Heap) (f : Addr) (cdv : Value) (A : Around) (outer : List PySem.Env) (s : Shared) (H : Hp) (E : XK) : Cx := cxOf (L2.CX prog wd) prog wd K mg base N_Store___init__ "Store.__init__" (defScope (mth 19 0)) f cdv A outer s H E
theorem w_Store___init__ (C : Ct T (X_Store___init__ prog wd K mg base f cdv A outer s H E) (F0 Y P Cc E)) : PSs (X_Store___init__ prog wd K mg base f cdv A outer s H E) (defBody (mth 19 0)) (tSs (F0 Y P Cc E) b_Store___init__) := by
  have po : PassesOwn (model prog wd) (X_Store___init__ prog wd K mg base f cdv A outer s H E).A (X_Store___init__ prog wd K mg base f cdv A outer s H E).env (X_Store___init__ prog wd K mg base f cdv A outer s H E).xe := passes_of rfl
  exact (ok_scons (ok_iff (ok_tnot (w_test (w_call C 6 (w_cons (w_loc C.toCb 1) (w_cons (w_gint C.toCb 0) ok_nil))))) (ok_scons (w_raise1 C 0 1 0 (w_str [107, 105, 110, 100, 115])) ok_snil) ok_snil) (ok_scons (ok_iff (ok_tor (ok_tnot (w_test (w_isin1 (k := .tuple) C.toCb 0 (w_loc C.toCb 2) (c_ty C.toCb 3 bt_tuple)))) (pw_or1 (w_tcmp C.toCb .gt (w_biB C.toCb 4 (bi_len C.toCb.fc.hK) (w_cons (w_loc C.toCb 2) ok_nil) bt_len) (w_gint C.toCb 1)))).pt (ok_scons (w_raise1 C 0 1 0 (w_str [104, 97, 110, 100, 108, 101, 115])) ok_snil) ok_snil) (ok_scons (w_for po (w_enum C.toCb 7 (w_loc C.toCb 2)) (w_gtup C.toCb 2 (w_gcons (w_gname C.toCb 3) (w_gcons (w_gname C.toCb 4) ok_gnil))) (ok_scons (ok_iff (ok_tor (ok_tnot (w_test (w_call C 7 (w_cons (w_biB C.toCb 4 (bi_len C.toCb.fc.hK) (w_cons (w_loc C.toCb 1) ok_nil) bt_len) (w_cons (w_loc C.toCb 4) ok_nil))))) (pw_or1 (ok_tand (w_tcmp C.toCb .gt (w_loc C.toCb 3) w_int) (pw_and1 (w_tcmp C.toCb .le (w_slice C.toCb (w_loc C.toCb 4) ok_onone (ok_osome w_int)) (w_slice C.toCb (w_idx C.toCb (w_loc C.toCb 2) (w_sub C.toCb (w_loc C.toCb 3) w_int)) ok_onone (ok_osome w_int))))).pt)).pt (ok_scons (w_raise1 C 0 1 0 (w_loc C.toCb 3)) ok_snil) ok_snil) ok_snil)) (ok_scons (w_expr (w_meth C 0 4 9 (w_loc C.toCb 0) (w_cons (w_loc C.toCb 1) (w_cons (w_dc C [("a", 5), ("b", 6), ("rights", 7)] (w_itE C.toCb (w_loc C.toCb 2)) (fun _ _ _ _ _ C => (w_gtup C.toCb 3 (w_gcons (w_gname C.toCb 5) (w_gcons (w_gname C.toCb 6) (w_gcons (w_gname C.toCb 7) ok_gnil))))) (fun _ _ _ _ _ C => ok_ts0) (fun _ _ _ _ _ C => (ok_tup (w_cons (w_loc C.toCb 5) (w_cons (w_loc C.toCb 6) ok_nil)))) (fun _ _ _ _ _ C => (w_loc C.toCb 7))) ok_nil)))) ok_snil))))
abbrev X_Store_fill (prog : Program) (wd : World) (K : PySem.W.Frag) (mg : Str → Option Value) (base : Heap) (f : Addr) (cdv : Value) (A : Around) (outer : List PySem.Env) (s : Shared) (H : Hp) (E : XK) : Cx := cxOf (L2.CX prog wd) prog wd K mg base N_Store_fill "Store.fill" (defScope (mth 19 1)) f cdv A outer s H E
theorem w_Store_fill (C : Ct T (X_Store_fill prog wd K mg base f cdv A outer s H E) (F0 Y P Cc E)) : PSs (X_Store_fill prog wd K mg base f cdv A outer s H E) (defBody (mth 19 1)) (tSs (F0 Y P Cc E) b_Store_fill) := by
  have po : PassesOwn (model prog wd) (X_Store_fill prog wd K mg base f cdv A outer s H E).A (X_Store_fill prog wd K mg base f cdv A outer s H E).env (X_Store_fill prog wd K mg base f cdv A outer s H E).xe := passes_of rfl
  exact (ok_scons (w_asgF C.toCb 2 (w_loc C.toCb 0) (w_loc C.toCb 1)) (ok_scons (w_asgF C.toCb 3 (w_loc C.toCb 0) (w_dc C [("pair", 3)] (w_itE C.toCb (w_sorted C.toCb 8 (w_cel C.toCb 2))) (fun _ _ _ _ _ C => (w_gname C.toCb 3)) (fun _ _ _ _ _ C => (ok_ts1 (w_tcmp C.toCb .ne (w_idx C.toCb (w_cel C.toCb 2) (w_loc C.toCb 3)) (w_str [])))) (fun _ _ _ _ _ C => (w_loc C.toCb 3)) (fun _ _ _ _ _ C => (w_idx C.toCb (w_cel C.toCb 2) (w_loc C.toCb 3))))) (ok_scons (w_asgF C.toCb 4 (w_loc C.toCb 0) (w_biT C.toCb 3 (bi_tuple C.toCb.fc.hK) (w_cons (w_lc C [("pair", 3), ("rights", 4)] (w_items (w_fld C.toCb 3 (w_loc C.toCb 0))) (fun _ _ _ _ _ C => (w_gtup C.toCb 2 (w_gcons (w_gname C.toCb 3) (w_gcons (w_gname C.toCb 4) ok_gnil)))) (fun _ _ _ _ _ C => ok_ts0) (fun _ _ _ _ _ C => (w_add C.toCb (w_loc C.toCb 3) (ok_tup (w_cons (w_loc C.toCb 4) ok_nil))))) ok_nil) bt_tuple)) ok_snil)))
abbrev X_Store___eq__ (prog : Program) (wd : World) (K : PySem.W.Frag) (mg : Str → Option Value) (base : Heap) (f : Addr) (cdv : Value) (A : Around) (outer : List PySem.Env) (s : Shared) (H : Hp) (E : XK) : Cx := cxOf (L2.CX prog wd) prog wd K mg base N_Store___eq__ "Store.__eq__" (defScope (mth 19 2)) f cdv A outer s H E
theorem w_Store___eq__ (C : Ct T (X_Store___eq__ prog wd K mg base f cdv A outer s H E) (F0 Y P Cc E)) : PSs (X_Store___eq__ prog wd K mg base f cdv A outer s H E) (defBody (mth 19 2)) (tSs (F0 Y P Cc E) b_Store___eq__) := by
  have po : PassesOwn (model prog wd) (X_Store___eq__ prog wd K mg base f cdv A outer s H E).A (X_Store___eq__ prog wd K mg base f cdv A outer s H E).env (X_Store___eq__ prog wd K mg base f cdv A outer s H E).xe := passes_of rfl
  exact (ok_scons (ok_ret (ok_and (w_isin1 (k := (.own 4)) C.toCb 0 (w_loc C.toCb 1) (c_own C.toCb 4)) (ok_and (w_cmp C.toCb .eq (w_fld C.toCb 2 (w_loc C.toCb 0)) (w_fld C.toCb 2 (w_loc C.toCb 1))) (pe_one (w_cmp C.toCb .eq (w_fld C.toCb 4 (w_loc C.toCb 0)) (w_fld C.toCb 4 (w_loc C.toCb 1))))))) ok_snil)
abbrev X_rights_in (prog : Program) (wd : World) (K : PySem.W.Frag) (mg : Str → Option Value) (base : Heap) (f : Addr) (cdv : Value) (A : Around) (outer : List PySem.Env) (s : Shared) (H : Hp) (E : XK) : Cx := cxOf (L2.CX prog wd) prog wd K mg base N_rights_in "rights_in" (defScope (top 20)) f cdv A outer s H E
theorem w_rights_in (C : Ct T (X_rights_in prog wd K mg base f cdv A outer s H E) (F0 Y P Cc E)) : PSs (X_rights_in prog wd K mg base f cdv A outer s H E) (defBody (top 20)) (tSs (F0 Y P Cc E) b_rights_in) := by
  have po : PassesOwn (model prog wd) (X_rights_in prog wd K mg base f cdv A outer s H E).A (X_rights_in prog wd K mg base f cdv A outer s H E).env (X_rights_in prog wd K mg base f cdv A outer s H E).xe := passes_of rfl
  exact (ok_scons (ok_ret (w_get2 C.toCb (w_fld C.toCb 3 (w_loc C.toCb 0)) (ok_tup (w_cons (w_loc C.toCb 1) (w_cons (w_loc C.toCb 2) ok_nil))) (w_str []))) ok_snil)
abbrev X_rights_of (prog : Program) (wd : World) (K : PySem.W.Frag) (mg : Str → Option Value) (base : Heap) (f : Addr) (cdv : Value) (A : Around) (outer : List PySem.Env) (s : Shared) (H : Hp) (E : XK) : Cx := cxOf (L2.CX prog wd) prog wd K mg base N_rights_of "rights_of" (defScope (top 21)) f cdv A outer s H E
theorem w_rights_of (C : Ct T (X_rights_of prog wd K mg base f cdv A outer s H E) (F0 Y P Cc E)) : PSs (X_rights_of prog wd K mg base f cdv A outer s H E) (defBody (top 21)) (tSs (F0 Y P Cc E) b_rights_of) := by
  have po : PassesOwn (model prog wd) (X_rights_of prog wd K mg base f cdv A outer s H E).A (X_rights_of prog wd K mg base f cdv A outer s H E).env (X_rights_of prog wd K mg base f cdv A outer s H E).xe := passes_of rfl
  exact (ok_scons (w_expr (w_call C 5 (w_cons (w_loc C.toCb 0) (w_cons (w_loc C.toCb 1) ok_nil)))) (ok_scons (w_expr (w_call C 5 (w_cons (w_loc C.toCb 0) (w_cons (w_loc C.toCb 2) ok_nil)))) (ok_scons (ok_ret (w_call C 11 (w_cons (w_loc C.toCb 0) (w_cons (w_loc C.toCb 1) (w_cons (w_loc C.toCb 2) ok_nil))))) ok_snil)))
abbrev X_are_some_rights (prog : Program) (wd : World) (K : PySem.W.Frag) (mg : Str → Option Value) (base : Heap) (f : Addr) (cdv : Value) (A : Around) (outer : List PySem.Env) (s : Shared) (H : Hp) (E : XK) : Cx := cxOf (L2.CX prog wd) prog wd K mg base N_are_some_rights "are_some_rights" (defScope (top 23)) f cdv A outer s H E
theorem w_are_some_rights (C : Ct T (X_are_some_rights prog wd K mg base f cdv A outer s H E) (F0 Y P Cc E)) : PSs (X_are_some_rights prog wd K mg base f cdv A outer s H E) (defBody (top 23)) (tSs (F0 Y P Cc E) b_are_some_rights) := by
  have po : PassesOwn (model prog wd) (X_are_some_rights prog wd K mg base f cdv A outer s H E).A (X_are_some_rights prog wd K mg base f cdv A outer s H E).env (X_are_some_rights prog wd K mg base f cdv A outer s H E).xe := passes_of rfl
  exact (ok_scons (ok_ret (ok_and (w_call C 3 (w_cons (w_loc C.toCb 0) ok_nil)) (pe_one (w_cmp C.toCb .ne (w_loc C.toCb 0) (w_str []))))) ok_snil)
abbrev X_store_text (prog : Program) (wd : World) (K : PySem.W.Frag) (mg : Str → Option Value) (base : Heap) (f : Addr) (cdv : Value) (A : Around) (outer : List PySem.Env) (s : Shared) (H : Hp) (E : XK) : Cx := cxOf (L2.CX prog wd) prog wd K mg base N_store_text "store_text" (defScope (top 24)) f cdv A outer s H E
theorem w_store_text (C : Ct T (X_store_text prog wd K mg base f cdv A outer s H E) (F0 Y P Cc E)) : PSs (X_store_text prog wd K mg base f cdv A outer s H E) (defBody (top 24)) (tSs (F0 Y P Cc E) b_store_text) := by
  have po : PassesOwn (model prog wd) (X_store_text prog wd K mg base f cdv A outer s H E).A (X_store_text prog wd K mg base f cdv A outer s H E).env (X_store_text prog wd K mg base f cdv A outer s H E).xe := passes_of rfl
  exact (ok_scons (w_set C.toCb 1 (w_lst (w_cons (w_add C.toCb (w_str [107, 105, 110, 100, 115, 32]) (w_fld C.toCb 2 (w_loc C.toCb 0))) ok_nil))) (ok_scons (w_expr (w_bm bm_extend F.plainAttrs_list F.slot_list_extend rfl (w_loc C.toCb 1) (w_cons (w_lc C [("a", 2), ("b", 3), ("rights", 4)] (w_itE C.toCb (w_fld C.toCb 4 (w_loc C.toCb 0))) (fun _ _ _ _ _ C => (w_gtup C.toCb 3 (w_gcons (w_gname C.toCb 2) (w_gcons (w_gname C.toCb 3) (w_gcons (w_gname C.toCb 4) ok_gnil))))) (fun _ _ _ _ _ C => ok_ts0) (fun _ _ _ _ _ C => (w_add C.toCb (w_add C.toCb (w_add C.toCb (w_add C.toCb (w_biT C.toCb 5 bi_str (w_cons (w_loc C.toCb 2) ok_nil) bt_str) (w_str [32])) (w_biT C.toCb 5 bi_str (w_cons (w_loc C.toCb 3) ok_nil) bt_str)) (w_str [32])) (w_loc C.toCb 4)))) ok_nil))) (ok_scons (ok_ret (w_bm (bm_join C.toCb.fc.hK) F.plainAttrs_str F.slot_str_join rfl (w_str []) (w_cons (w_lc C [("line", 5)] (w_itE C.toCb (w_loc C.toCb 1)) (fun _ _ _ _ _ C => (w_gname C.toCb 5)) (fun _ _ _ _ _ C => ok_ts0) (fun _ _ _ _ _ C => (w_add C.toCb (w_loc C.toCb 5) (w_str [10])))) ok_nil))) ok_snil)))
abbrev X_number_of (prog : Program) (wd : World) (K : PySem.W.Frag) (mg : Str → Option Value) (base : Heap) (f : Addr) (cdv : Value) (A : Around) (outer : List PySem.Env) (s : Shared) (H : Hp) (E : XK) : Cx := cxOf (L2.CX prog wd) prog wd K mg base N_number_of "number_of" (defScope (top 28)) f cdv A outer s H E
theorem w_number_of (C : Ct T (X_number_of prog wd K mg base f cdv A outer s H E) (F0 Y P Cc E)) : PSs (X_number_of prog wd K mg base f cdv A outer s H E) (defBody (top 28)) (tSs (F0 Y P Cc E) b_number_of) := by
  have po : PassesOwn (model prog wd) (X_number_of prog wd K mg base f cdv A outer s H E).A (X_number_of prog wd K mg base f cdv A outer s H E).env (X_number_of prog wd K mg base f cdv A outer s H E).xe := passes_of rfl
  exact (ok_scons (ok_iff (ok_tor (ok_tnot (w_tchain C.toCb .le .le w_int (w_biB C.toCb 4 (bi_len C.toCb.fc.hK) (w_cons (w_loc C.toCb 0) ok_nil) bt_len) (w_gint C.toCb 2))) (pw_or1 (ok_tnot (w_test (w_biB C.toCb 6 (bi_all rfl) (w_cons (w_lc C [("sign", 1)] (w_itE C.toCb (w_loc C.toCb 0)) (fun _ _ _ _ _ C => (w_gname C.toCb 1)) (fun _ _ _ _ _ C => ok_ts0) (fun _ _ _ _ _ C => (w_cmp C.toCb .in_ (w_loc C.toCb 1) (w_gstr C.toCb 2)))) ok_nil) bt_all))))).pt (ok_scons (ok_ret w_non) ok_snil) ok_snil) (ok_scons (ok_iff (ok_tand (w_tcmp C.toCb .gt (w_biB C.toCb 4 (bi_len C.toCb.fc.hK) (w_cons (w_loc C.toCb 0) ok_nil) bt_len) w_int) (pw_and1 (w_tcmp C.toCb .eq (w_idx C.toCb (w_loc C.toCb 0) w_int) (w_str [48])))).pt (ok_scons (ok_ret w_non) ok_snil) ok_snil) (ok_scons (ok_ret (w_biT C.toCb 1 bi_strInt (w_cons (w_loc C.toCb 0) ok_nil) bt_int)) ok_snil)))
abbrev X_kinds_of (prog : Program) (wd : World) (K : PySem.W.Frag) (mg : Str → Option Value) (base : Heap) (f : Addr) (cdv : Value) (A : Around) (outer : List PySem.Env) (s : Shared) (H : Hp) (E : XK) : Cx := cxOf (L2.CX prog wd) prog wd K mg base N_kinds_of "kinds_of" (defScope (top 29)) f cdv A outer s H E
theorem w_kinds_of (C : Ct T (X_kinds_of prog wd K mg base f cdv A outer s H E) (F0 Y P Cc E)) : PSs (X_kinds_of prog wd K mg base f cdv A outer s H E) (defBody (top 29)) (tSs (F0 Y P Cc E) b_kinds_of) := by
  have po : PassesOwn (model prog wd) (X_kinds_of prog wd K mg base f cdv A outer s H E).A (X_kinds_of prog wd K mg base f cdv A outer s H E).env (X_kinds_of prog wd K mg base f cdv A outer s H E).xe := passes_of rfl
  exact (ok_scons (w_asg (w_bm bm_partition F.plainAttrs_str F.slot_str_partition rfl (w_loc C.toCb 0) (w_cons (w_str [32]) ok_nil)) (w_gtup C.toCb 3 (w_gcons (w_gname C.toCb 1) (w_gcons (w_gname C.toCb 2) (w_gcons (w_gname C.toCb 3) ok_gnil))))) (ok_scons (ok_ret (ok_ite (ok_tand (w_tcmp C.toCb .eq (w_loc C.toCb 1) (w_str [107, 105, 110, 100, 115])) (pw_and1 (w_test (w_call C 6 (w_cons (w_loc C.toCb 3) (w_cons (w_biB C.toCb 4 (bi_len C.toCb.fc.hK) (w_cons (w_loc C.toCb 3) ok_nil) bt_len) ok_nil)))))).pt (w_loc C.toCb 3) w_non)) ok_snil))
abbrev X_handle_of (prog : Program) (wd : World) (K : PySem.W.Frag) (mg : Str → Option Value) (base : Heap) (f : Addr) (cdv : Value) (A : Around) (outer : List PySem.Env) (s : Shared) (H : Hp) (E : XK) : Cx := cxOf (L2.CX prog wd) prog wd K mg base N_handle_of "handle_of" (defScope (top 30)) f cdv A outer s H E
theorem w_handle_of (C : Ct T (X_handle_of prog wd K mg base f cdv A outer s H E) (F0 Y P Cc E)) : PSs (X_handle_of prog wd K mg base f cdv A outer s H E) (defBody (top 30)) (tSs (F0 Y P Cc E) b_handle_of) := by
  have po : PassesOwn (model prog wd) (X_handle_of prog wd K mg base f cdv A outer s H E).A (X_handle_of prog wd K mg base f cdv A outer s H E).env (X_handle_of prog wd K mg base f cdv A outer s H E).xe := passes_of rfl
  exact (ok_scons (w_set C.toCb 1 (w_bm bm_split F.plainAttrs_str F.slot_str_split rfl (w_loc C.toCb 0) (w_cons (w_str [32]) ok_nil))) (ok_scons (ok_iff (ok_tor (w_tcmp C.toCb .ne (w_biB C.toCb 4 (bi_len C.toCb.fc.hK) (w_cons (w_loc C.toCb 1) ok_nil) bt_len) w_int) (pw_or1 (ok_tnot (w_test (w_call C 13 (w_cons (w_idx C.toCb (w_loc C.toCb 1) w_int) ok_nil)))))).pt (ok_scons (ok_ret w_non) ok_snil) ok_snil) (ok_scons (w_par C.toCb 2 3 (w_cons (w_call C 15 (w_cons (w_idx C.toCb (w_loc C.toCb 1) w_int) ok_nil)) (w_cons (w_call C 15 (w_cons (w_idx C.toCb (w_loc C.toCb 1) w_int) ok_nil)) ok_nil))) (ok_scons (ok_ret (ok_ite (ok_tor (ok_tisNon (w_loc C.toCb 2)) (pw_or1 (ok_tisNon (w_loc C.toCb 3)))).pt w_non (ok_tup (w_cons (w_loc C.toCb 2) (w_cons (w_loc C.toCb 3) (w_cons (w_idx C.toCb (w_loc C.toCb 1) w_int) ok_nil)))))) ok_snil))))
abbrev X_lines_read (prog : Program) (wd : World) (K : PySem.W.Frag) (mg : Str → Option Value) (base : Heap) (f : Addr) (cdv : Value) (A : Around) (outer : List PySem.Env) (s : Shared) (H : Hp) (E : XK) : Cx := cxOf (L2.CX prog wd) prog wd K mg base N_lines_read "lines_read" (defScope (top 31)) f cdv A outer s H E
theorem w_lines_read (C : Ct T (X_lines_read prog wd K mg base f cdv A outer s H E) (F0 Y P Cc E)) : PSs (X_lines_read prog wd K mg base f cdv A outer s H E) (defBody (top 31)) (tSs (F0 Y P Cc E) b_lines_read) := by
  have po : PassesOwn (model prog wd) (X_lines_read prog wd K mg base f cdv A outer s H E).A (X_lines_read prog wd K mg base f cdv A outer s H E).env (X_lines_read prog wd K mg base f cdv A outer s H E).xe := passes_of rfl
  exact (ok_scons (ok_iff (ok_tnot (w_test (w_isin1 (k := .str) C.toCb 0 (w_loc C.toCb 0) (c_ty C.toCb 5 bt_str)))) (ok_scons (w_raise1 C 1 3 1 w_int) ok_snil) ok_snil) (ok_scons (w_set C.toCb 2 (w_bm bm_split F.plainAttrs_str F.slot_str_split rfl (w_loc C.toCb 0) (w_cons (w_str [10]) ok_nil))) (ok_scons (w_set C.toCb 3 (w_lst ok_nil)) (ok_scons (w_for po (w_enum C.toCb 7 (w_slice C.toCb (w_loc C.toCb 2) ok_onone (ok_osome (ok_neg w_int)))) (w_gtup C.toCb 2 (w_gcons (w_gname C.toCb 4) (w_gcons (w_gname C.toCb 5) ok_gnil))) (ok_scons (w_set C.toCb 6 (w_callv C (w_idx C.toCb (w_loc C.toCb 1) (w_biB C.toCb 9 (bi_min rfl) (w_cons (w_loc C.toCb 4) (w_cons (w_sub C.toCb (w_biB C.toCb 4 (bi_len C.toCb.fc.hK) (w_cons (w_loc C.toCb 1) ok_nil) bt_len) w_int) ok_nil)) bt_min)) (w_cons (w_loc C.toCb 5) ok_nil))) (ok_scons (ok_iff (ok_tisNon (w_loc C.toCb 6)) (ok_scons (w_raise1 C 1 3 1 (w_add C.toCb (w_loc C.toCb 4) w_int)) ok_snil) ok_snil) (ok_scons (w_expr (w_bm bm_append F.plainAttrs_list F.slot_list_append rfl (w_loc C.toCb 3) (w_cons (w_loc C.toCb 6) ok_nil))) ok_snil)))) (ok_scons (ok_iff (w_tcmp C.toCb .ne (w_idx C.toCb (w_loc C.toCb 2) (ok_neg w_int)) (w_str [])) (ok_scons (w_raise1 C 1 3 1 (w_biB C.toCb 4 (bi_len C.toCb.fc.hK) (w_cons (w_loc C.toCb 2) ok_nil) bt_len)) ok_snil) ok_snil) (ok_scons (ok_ret (w_loc C.toCb 3)) ok_snil))))))
abbrev X_read_store (prog : Program) (wd : World) (K : PySem.W.Frag) (mg : Str → Option Value) (base : Heap) (f : Addr) (cdv : Value) (A : Around) (outer : List PySem.Env) (s : Shared) (H : Hp) (E : XK) : Cx := cxOf (L2.CX prog wd) prog wd K mg base N_read_store "read_store" (defScope (top 32)) f cdv A outer s H E
theorem w_read_store (C : Ct T (X_read_store prog wd K mg base f cdv A outer s H E) (F0 Y P Cc E)) : PSs (X_read_store prog wd K mg base f cdv A outer s H E) (defBody (top 32)) (tSs (F0 Y P Cc E) b_read_store) := by
  have po : PassesOwn (model prog wd) (X_read_store prog wd K mg base f cdv A outer s H E).A (X_read_store prog wd K mg base f cdv A outer s H E).env (X_read_store prog wd K mg base f cdv A outer s H E).xe := passes_of rfl
  exact (ok_scons (w_set C.toCb 1 (w_call C 18 (w_cons (w_loc C.toCb 0) (w_cons (w_lst (w_cons (w_gfn C 16) (w_cons (w_gfn C 17) ok_nil))) ok_nil)))) (ok_scons (ok_iff (w_tcmp C.toCb .eq (w_biB C.toCb 4 (bi_len C.toCb.fc.hK) (w_cons (w_loc C.toCb 1) ok_nil) bt_len) w_int) (ok_scons (w_raise1 C 1 3 1 w_int) ok_snil) ok_snil) (ok_scons (ok_ret (w_new C 0 4 8 (w_cons (w_idx C.toCb (w_loc C.toCb 1) w_int) (w_cons (w_biT C.toCb 3 (bi_tuple C.toCb.fc.hK) (w_cons (w_slice C.toCb (w_loc C.toCb 1) (ok_osome w_int) ok_onone) ok_nil) bt_tuple) ok_nil)))) ok_snil)))
abbrev X__law_hand (prog : Program) (wd : World) (K : PySem.W.Frag) (mg : Str → Option Value) (base : Heap) (f : Addr) (cdv : Value) (A : Around) (outer : List PySem.Env) (s : Shared) (H : Hp) (E : XK) : Cx := cxOf (L2.CX prog wd) prog wd K mg base N__law_hand "_law_hand" (defScope (top 34)) f cdv A outer s H E
theorem w__law_hand (C : Ct T (X__law_hand prog wd K mg base f cdv A outer s H E) (F0 Y P Cc E)) : PSs (X__law_hand prog wd K mg base f cdv A outer s H E) (defBody (top 34)) (tSs (F0 Y P Cc E) b__law_hand) := by
  have po : PassesOwn (model prog wd) (X__law_hand prog wd K mg base f cdv A outer s H E).A (X__law_hand prog wd K mg base f cdv A outer s H E).env (X__law_hand prog wd K mg base f cdv A outer s H E).xe := passes_of rfl
  exact (ok_scons (w_setLc C 1 [("cell", 2)] (w_itE C.toCb (w_slice C.toCb (w_loc C.toCb 0) ok_onone (ok_osome w_int))) (fun _ _ _ _ _ C => (w_gname C.toCb 2)) (fun _ _ _ _ _ C => ok_ts0) (fun _ _ _ _ _ C => (w_biB C.toCb 10 bi_abs (w_cons (w_biT C.toCb 1 bi_int (w_cons (w_loc C.toCb 2) ok_nil) bt_int) ok_nil) bt_abs))) (ok_scons (ok_ret (w_lst (w_cons (w_loc C.toCb 1) (w_cons w_int (w_cons w_int (w_cons (w_add C.toCb w_int (w_mul C.toCb w_int (w_biB C.toCb 4 (bi_len C.toCb.fc.hK) (w_cons (w_loc C.toCb 1) ok_nil) bt_len))) (w_cons w_int ok_nil))))))) ok_snil))
abbrev X__law_draw (prog : Program) (wd : World) (K : PySem.W.Frag) (mg : Str → Option Value) (base : Heap) (f : Addr) (cdv : Value) (A : Around) (outer : List PySem.Env) (s : Shared) (H : Hp) (E : XK) : Cx := cxOf (L2.CX prog wd) prog wd K mg base N__law_draw "_law_draw" (defScope (top 35)) f cdv A outer s H E
theorem w__law_draw (C : Ct T (X__law_draw prog wd K mg base f cdv A outer s H E) (F0 Y P Cc E)) : PSs (X__law_draw prog wd K mg base f cdv A outer s H E) (defBody (top 35)) (tSs (F0 Y P Cc E) b__law_draw) := by
  have po : PassesOwn (model prog wd) (X__law_draw prog wd K mg base f cdv A outer s H E).A (X__law_draw prog wd K mg base f cdv A outer s H E).env (X__law_draw prog wd K mg base f cdv A outer s H E).xe := passes_of rfl
  exact (ok_scons (ok_iff (ok_tand (w_tcmp C.toCb .eq (w_idx C.toCb (w_loc C.toCb 0) w_int) w_int) (pw_and1 (w_tcmp C.toCb .lt (w_idx C.toCb (w_loc C.toCb 0) w_int) (w_biB C.toCb 4 (bi_len C.toCb.fc.hK) (w_cons (w_idx C.toCb (w_loc C.toCb 0) w_int) ok_nil) bt_len)))).pt (ok_scons (w_set C.toCb 2 (w_idx C.toCb (w_idx C.toCb (w_loc C.toCb 0) w_int) (w_idx C.toCb (w_loc C.toCb 0) w_int))) (ok_scons (w_asgI C.toCb (w_loc C.toCb 0) w_int (w_add C.toCb (w_idx C.toCb (w_loc C.toCb 0) w_int) w_int)) (ok_scons (w_asgI C.toCb (w_loc C.toCb 0) w_int (w_mod C.toCb (w_biT C.toCb 1 bi_int (w_cons (w_add C.toCb (w_add C.toCb (w_mul C.toCb (w_idx C.toCb (w_loc C.toCb 0) w_int) w_int) (w_mul C.toCb (w_loc C.toCb 2) w_int)) w_int) ok_nil) bt_int) w_int)) (ok_scons (ok_iff (w_tcmp C.toCb .ge (w_loc C.toCb 2) (w_pow C.toCb w_int w_int)) (ok_scons (w_asgI C.toCb (w_loc C.toCb 0) w_int (w_loc C.toCb 2)) ok_snil) ok_snil) ok_snil)))) ok_snil) (ok_scons (ok_iff (w_tcmp C.toCb .gt (w_idx C.toCb (w_loc C.toCb 0) w_int) w_int) (ok_scons (w_set C.toCb 3 (w_mod C.toCb (w_biT C.toCb 1 bi_int (w_cons (w_idx C.toCb (w_loc C.toCb 0) w_int) ok_nil) bt_int) (w_loc C.toCb 1))) (ok_scons (w_asgI C.toCb (w_loc C.toCb 0) w_int (w_fdiv C.toCb (w_idx C.toCb (w_loc C.toCb 0) w_int) (w_loc C.toCb 1))) (ok_scons (ok_ret (w_loc C.toCb 3)) ok_snil))) ok_snil) (ok_scons (w_asgI C.toCb (w_loc C.toCb 0) w_int (w_add C.toCb (w_idx C.toCb (w_loc C.toCb 0) w_int) w_int)) (ok_scons (w_set C.toCb 4 (w_mod C.toCb (w_biT C.toCb 1 bi_int (w_cons (w_mul C.toCb (w_biT C.toCb 1 bi_int (w_cons (w_add C.toCb (w_idx C.toCb (w_loc C.toCb 0) w_int) (w_mul C.toCb w_int (w_idx C.toCb (w_loc C.toCb 0) w_int))) ok_nil) bt_int) w_int) ok_nil) bt_int) w_int)) (ok_scons (w_set C.toCb 4 (w_mod C.toCb (w_biT C.toCb 1 bi_int (w_cons (w_mul C.toCb (w_loc C.toCb 4) (w_add C.toCb (w_fdiv C.toCb (w_loc C.toCb 4) w_int) w_int)) ok_nil) bt_int) w_int)) (ok_scons (w_set C.toCb 4 (w_mod C.toCb (w_biT C.toCb 1 bi_int (w_cons (w_mul C.toCb (w_loc C.toCb 4) (w_add C.toCb (w_fdiv C.toCb (w_loc C.toCb 4) w_int) w_int)) ok_nil) bt_int) w_int)) (ok_scons (ok_ret (w_mod C.toCb (w_biT C.toCb 1 bi_int (w_cons (w_fdiv C.toCb (w_loc C.toCb 4) w_int) ok_nil) bt_int) (w_loc C.toCb 1))) ok_snil)))))))
abbrev X__law_any (prog : Program) (wd : World) (K : PySem.W.Frag) (mg : Str → Option Value) (base : Heap) (f : Addr) (cdv : Value) (A : Around) (outer : List PySem.Env) (s : Shared) (H : Hp) (E : XK) : Cx := cxOf (L2.CX prog wd) prog wd K mg base N__law_any "_law_any" (defScope (top 36)) f cdv A outer s H E
theorem w__law_any (C : Ct T (X__law_any prog wd K mg base f cdv A outer s H E) (F0 Y P Cc E)) : PSs (X__law_any prog wd K mg base f cdv A outer s H E) (defBody (top 36)) (tSs (F0 Y P Cc E) b__law_any) := by
  have po : PassesOwn (model prog wd) (X__law_any prog wd K mg base f cdv A outer s H E).A (X__law_any prog wd K mg base f cdv A outer s H E).env (X__law_any prog wd K mg base f cdv A outer s H E).xe := passes_of rfl
  exact (ok_scons (ok_ret (w_idx C.toCb (w_loc C.toCb 1) (w_call C 21 (w_cons (w_loc C.toCb 0) (w_cons (w_biB C.toCb 4 (bi_len C.toCb.fc.hK) (w_cons (w_loc C.toCb 1) ok_nil) bt_len) ok_nil))))) ok_snil)
abbrev X__law_some_rights (prog : Program) (wd : World) (K : PySem.W.Frag) (mg : Str → Option Value) (base : Heap) (f : Addr) (cdv : Value) (A : Around) (outer : List PySem.Env) (s : Shared) (H : Hp) (E : XK) : Cx := cxOf (L2.CX prog wd) prog wd K mg base N__law_some_rights "_law_some_rights" (defScope (top 37)) f cdv A outer s H E
theorem w__law_some_rights (C : Ct T (X__law_some_rights prog wd K mg base f cdv A outer s H E) (F0 Y P Cc E)) : PSs (X__law_some_rights prog wd K mg base f cdv A outer s H E) (defBody (top 37)) (tSs (F0 Y P Cc E) b__law_some_rights) := by
  have po : PassesOwn (model prog wd) (X__law_some_rights prog wd K mg base f cdv A outer s H E).A (X__law_some_rights prog wd K mg base f cdv A outer s H E).env (X__law_some_rights prog wd K mg base f cdv A outer s H E).xe := passes_of rfl
  exact (ok_scons (w_set C.toCb 1 (w_bm (bm_join C.toCb.fc.hK) F.plainAttrs_str F.slot_str_join rfl (w_str []) (w_cons (w_lc C [("letter", 2)] (w_itE C.toCb (w_str [103, 114, 116, 119, 120])) (fun _ _ _ _ _ C => (w_gname C.toCb 2)) (fun _ _ _ _ _ C => (ok_ts1 (w_tcmp C.toCb .eq (w_call C 21 (w_cons (w_cel C.toCb 0) (w_cons w_int ok_nil))) w_int))) (fun _ _ _ _ _ C => (w_loc C.toCb 2))) ok_nil))) (ok_scons (ok_ret (ok_ite (w_tcmp C.toCb .ne (w_loc C.toCb 1) (w_str [])) (w_loc C.toCb 1) (w_idx C.toCb (w_str [103, 114, 116, 119, 120]) (w_call C 21 (w_cons (w_cel C.toCb 0) (w_cons w_int ok_nil)))))) ok_snil))
abbrev X__law_is_plain (prog : Program) (wd : World) (K : PySem.W.Frag) (mg : Str → Option Value) (base : Heap) (f : Addr) (cdv : Value) (A : Around) (outer : List PySem.Env) (s : Shared) (H : Hp) (E : XK) : Cx := cxOf (L2.CX prog wd) prog wd K mg base N__law_is_plain "_law_is_plain" (defScope (top 38)) f cdv A outer s H E
theorem w__law_is_plain (C : Ct T (X__law_is_plain prog wd K mg base f cdv A outer s H E) (F0 Y P Cc E)) : PSs (X__law_is_plain prog wd K mg base f cdv A outer s H E) (defBody (top 38)) (tSs (F0 Y P Cc E) b__law_is_plain) := by
  have po : PassesOwn (model prog wd) (X__law_is_plain prog wd K mg base f cdv A outer s H E).A (X__law_is_plain prog wd K mg base f cdv A outer s H E).env (X__law_is_plain prog wd K mg base f cdv A outer s H E).xe := passes_of rfl
  exact (ok_scons (ok_iff (w_test (w_isinT C.toCb 0 (w_loc C.toCb 1) (w_clsc (k := .tuple) (c_ty C.toCb 3 bt_tuple) (w_clsc (k := .list) (c_ty C.toCb 11 bt_list) w_cls0)) (by decide))) (ok_scons (ok_iff (ok_tor (ok_tnot (w_test (w_isinT C.toCb 0 (w_loc C.toCb 0) (w_clsc (k := .tuple) (c_ty C.toCb 3 bt_tuple) (w_clsc (k := .list) (c_ty C.toCb 11 bt_list) w_cls0)) (by decide)))) (ok_tor (w_tcmp C.toCb .ne (w_isin1 (k := .tuple) C.toCb 0 (w_loc C.toCb 0) (c_ty C.toCb 3 bt_tuple)) (w_isin1 (k := .tuple) C.toCb 0 (w_loc C.toCb 1) (c_ty C.toCb 3 bt_tuple))) (pw_or1 (w_tcmp C.toCb .ne (w_biB C.toCb 4 (bi_len C.toCb.fc.hK) (w_cons (w_loc C.toCb 0) ok_nil) bt_len) (w_biB C.toCb 4 (bi_len C.toCb.fc.hK) (w_cons (w_loc C.toCb 1) ok_nil) bt_len))))).pt (ok_scons (ok_ret w_bl) ok_snil) ok_snil) (ok_scons (ok_ret (w_biB C.toCb 6 (bi_all rfl) (w_cons (w_lc C [("one", 2), ("other", 3)] (w_zip C.toCb 12 (w_loc C.toCb 0) (w_loc C.toCb 1)) (fun _ _ _ _ _ C => (w_gtup C.toCb 2 (w_gcons (w_gname C.toCb 2) (w_gcons (w_gname C.toCb 3) ok_gnil)))) (fun _ _ _ _ _ C => ok_ts0) (fun _ _ _ _ _ C => (w_call C 24 (w_cons (w_loc C.toCb 2) (w_cons (w_loc C.toCb 3) ok_nil))))) ok_nil) bt_all)) ok_snil)) ok_snil) (ok_scons (ok_iff (w_test (w_isin1 (k := .str) C.toCb 0 (w_loc C.toCb 1) (c_ty C.toCb 5 bt_str))) (ok_scons (ok_ret (ok_and (w_isin1 (k := .str) C.toCb 0 (w_loc C.toCb 0) (c_ty C.toCb 5 bt_str)) (pe_one (w_cmp C.toCb .eq (w_loc C.toCb 0) (w_loc C.toCb 1))))) ok_snil) ok_snil) (ok_scons (ok_ret (ok_and (w_isin1 (k := .int) C.toCb 0 (w_loc C.toCb 0) (c_ty C.toCb 1 bt_int)) (ok_and (ok_not (w_isin1 (k := .bool) C.toCb 0 (w_loc C.toCb 0) (c_ty C.toCb 2 bt_bool))) (pe_one (w_cmp C.toCb .eq (w_loc C.toCb 0) (w_loc C.toCb 1)))))) ok_snil)))
abbrev X__law_is_store (prog : Program) (wd : World) (K : PySem.W.Frag) (mg : Str → Option Value) (base : Heap) (f : Addr) (cdv : Value) (A : Around) (outer : List PySem.Env) (s : Shared) (H : Hp) (E : XK) : Cx := cxOf (L2.CX prog wd) prog wd K mg base N__law_is_store "_law_is_store" (defScope (top 39)) f cdv A outer s H E
theorem w__law_is_store (C : Ct T (X__law_is_store prog wd K mg base f cdv A outer s H E) (F0 Y P Cc E)) : PSs (X__law_is_store prog wd K mg base f cdv A outer s H E) (defBody (top 39)) (tSs (F0 Y P Cc E) b__law_is_store) := by
  have po : PassesOwn (model prog wd) (X__law_is_store prog wd K mg base f cdv A outer s H E).A (X__law_is_store prog wd K mg base f cdv A outer s H E).env (X__law_is_store prog wd K mg base f cdv A outer s H E).xe := passes_of rfl
  exact (ok_scons (ok_ret (ok_and (w_isin1 (k := (.own 4)) C.toCb 0 (w_loc C.toCb 0) (c_own C.toCb 4)) (pe_one (w_call C 24 (w_cons (w_lst (w_cons (w_fld C.toCb 2 (w_loc C.toCb 0)) (w_cons (w_fld C.toCb 4 (w_loc C.toCb 0)) ok_nil))) (w_cons (w_lst (w_cons (w_loc C.toCb 1) (w_cons (w_loc C.toCb 2) ok_nil))) ok_nil)))))) ok_snil)
abbrev X__law_rows (prog : Program) (wd : World) (K : PySem.W.Frag) (mg : Str → Option Value) (base : Heap) (f : Addr) (cdv : Value) (A : Around) (outer : List PySem.Env) (s : Shared) (H : Hp) (E : XK) : Cx := cxOf (L2.CX prog wd) prog wd K mg base N__law_rows "_law_rows" (defScope (top 40)) f cdv A outer s H E
theorem w__law_rows (C : Ct T (X__law_rows prog wd K mg base f cdv A outer s H E) (F0 Y P Cc E)) : PSs (X__law_rows prog wd K mg base f cdv A outer s H E) (defBody (top 40)) (tSs (F0 Y P Cc E) b__law_rows) := by
  have po : PassesOwn (model prog wd) (X__law_rows prog wd K mg base f cdv A outer s H E).A (X__law_rows prog wd K mg base f cdv A outer s H E).env (X__law_rows prog wd K mg base f cdv A outer s H E).xe := passes_of rfl
  exact (ok_scons (w_par C.toCb 2 3 (w_cons (w_biB C.toCb 4 (bi_len C.toCb.fc.hK) (w_cons (w_loc C.toCb 1) ok_nil) bt_len) (w_cons (w_lst ok_nil) ok_nil))) (ok_scons (w_for po (w_range C.toCb 13 (w_call C 22 (w_cons (w_loc C.toCb 0) (w_cons (w_lst (w_cons w_int (w_cons w_int (w_cons w_int (w_cons w_int (w_cons w_int ok_nil)))))) ok_nil)))) (w_gname C.toCb 4) (ok_scons (w_par C.toCb 5 6 (w_cons (w_call C 21 (w_cons (w_loc C.toCb 0) (w_cons (w_loc C.toCb 2) ok_nil))) (w_cons (w_call C 21 (w_cons (w_loc C.toCb 0) (w_cons (w_loc C.toCb 2) ok_nil))) ok_nil))) (ok_scons (ok_iff (ok_tand (w_tcmp C.toCb .ne (w_loc C.toCb 5) (w_loc C.toCb 6)) (pw_and1 (w_tcmp C.toCb .notin (ok_tup (w_cons (w_loc C.toCb 5) (w_cons (w_loc C.toCb 6) ok_nil))) (w_lc C [("one", 8)] (w_itE C.toCb (w_loc C.toCb 3)) (fun _ _ _ _ _ C => (w_gname C.toCb 8)) (fun _ _ _ _ _ C => ok_ts0) (fun _ _ _ _ _ C => (w_slice C.toCb (w_loc C.toCb 8) ok_onone (ok_osome w_int))))))).pt (ok_scons (w_expr (w_bm bm_append F.plainAttrs_list F.slot_list_append rfl (w_loc C.toCb 3) (w_cons (ok_tup (w_cons (w_loc C.toCb 5) (w_cons (w_loc C.toCb 6) (w_cons (w_call C 23 (w_cons (w_loc C.toCb 0) ok_nil)) ok_nil)))) ok_nil))) ok_snil) ok_snil) ok_snil))) (ok_scons (w_set C.toCb 3 (w_sorted C.toCb 8 (w_loc C.toCb 3))) (ok_scons (w_for po (w_range C.toCb 13 (w_call C 21 (w_cons (w_loc C.toCb 0) (w_cons w_int ok_nil)))) (w_gname C.toCb 4) (ok_scons (w_set C.toCb 7 (w_call C 21 (w_cons (w_loc C.toCb 0) (w_cons (w_add C.toCb (w_biB C.toCb 4 (bi_len C.toCb.fc.hK) (w_cons (w_loc C.toCb 3) ok_nil) bt_len) w_int) ok_nil)))) (ok_scons (w_par C.toCb 5 6 (w_cons (w_call C 21 (w_cons (w_loc C.toCb 0) (w_cons (w_add C.toCb (w_loc C.toCb 2) w_int) ok_nil))) (w_cons (w_call C 22 (w_cons (w_loc C.toCb 0) (w_cons (w_lst (w_cons (w_call C 21 (w_cons (w_loc C.toCb 0) (w_cons (w_add C.toCb (w_loc C.toCb 2) w_int) ok_nil))) (w_cons (w_loc C.toCb 2) (w_cons w_int ok_nil)))) ok_nil))) ok_nil))) (ok_scons (w_expr (w_bm bm_insert F.plainAttrs_list F.slot_list_insert rfl (w_loc C.toCb 3) (w_cons (w_loc C.toCb 7) (w_cons (w_call C 22 (w_cons (w_loc C.toCb 0) (w_cons (w_lst (w_cons (ok_tup (w_cons (w_loc C.toCb 5) (w_cons (w_loc C.toCb 6) (w_cons (w_str [103]) ok_nil)))) (w_cons (ok_tup (w_cons (w_loc C.toCb 5) (w_cons (w_loc C.toCb 5) (w_cons (w_str [116]) ok_nil)))) (w_cons (ok_tup (w_cons (w_loc C.toCb 6) (w_cons (w_loc C.toCb 5) (w_cons (w_str [120]) ok_nil)))) (w_cons (w_idx C.toCb (w_cat (w_loc C.toCb 3) (w_lst (w_cons (ok_tup (w_cons w_int (w_cons w_int (w_cons (w_str [119]) ok_nil)))) ok_nil))) (w_loc C.toCb 7)) ok_nil))))) ok_nil))) ok_nil)))) ok_snil)))) (ok_scons (ok_ret (w_loc C.toCb 3)) ok_snil)))))
abbrev X__law_part (prog : Program) (wd : World) (K : PySem.W.Frag) (mg : Str → Option Value) (base : Heap) (f : Addr) (cdv : Value) (A : Around) (outer : List PySem.Env) (s : Shared) (H : Hp) (E : XK) : Cx := cxOf (L2.CX prog wd) prog wd K mg base N__law_part "_law_part" (defScope (top 41)) f cdv A outer s H E
theorem w__law_part (C : Ct T (X__law_part prog wd K mg base f cdv A outer s H E) (F0 Y P Cc E)) : PSs (X__law_part prog wd K mg base f cdv A outer s H E) (defBody (top 41)) (tSs (F0 Y P Cc E) b__law_part) := by
  have po : PassesOwn (model prog wd) (X__law_part prog wd K mg base f cdv A outer s H E).A (X__law_part prog wd K mg base f cdv A outer s H E).env (X__law_part prog wd K mg base f cdv A outer s H E).xe := passes_of rfl
  exact (ok_scons (ok_iff (w_tcmp C.toCb .gt (w_biB C.toCb 4 (bi_len C.toCb.fc.hK) (w_cons (w_loc C.toCb 0) ok_nil) bt_len) w_int) (ok_scons (ok_ret (w_str [107, 105, 110, 100, 115])) ok_snil) ok_snil) (ok_scons (ok_iff (w_tcmp C.toCb .gt (w_biB C.toCb 4 (bi_len C.toCb.fc.hK) (w_cons (w_loc C.toCb 1) ok_nil) bt_len) w_int) (ok_scons (ok_ret (w_str [104, 97, 110, 100, 108, 101, 115])) ok_snil) ok_snil) (ok_scons (w_for po (w_enum C.toCb 7 (w_loc C.toCb 1)) (w_gtup C.toCb 2 (w_gcons (w_gname C.toCb 2) (w_gcons (w_gtup C.toCb 3 (w_gcons (w_gname C.toCb 3) (w_gcons (w_gname C.toCb 4) (w_gcons (w_gname C.toCb 5) ok_gnil)))) ok_gnil))) (ok_scons (ok_iff (ok_tor (w_tcmp C.toCb .eq (w_loc C.toCb 3) (w_loc C.toCb 4)) (ok_tor (w_tcmp C.toCb .ge (w_loc C.toCb 3) (w_biB C.toCb 4 (bi_len C.toCb.fc.hK) (w_cons (w_loc C.toCb 0) ok_nil) bt_len)) (ok_tor (w_tcmp C.toCb .ge (w_loc C.toCb 4) (w_biB C.toCb 4 (bi_len C.toCb.fc.hK) (w_cons (w_loc C.toCb 0) ok_nil) bt_len)) (pw_or1 (ok_tand (w_tcmp C.toCb .gt (w_loc C.toCb 2) w_int) (pw_and1 (w_tcmp C.toCb .le (ok_tup (w_cons (w_loc C.toCb 3) (w_cons (w_loc C.toCb 4) ok_nil))) (w_slice C.toCb (w_idx C.toCb (w_loc C.toCb 1) (w_sub C.toCb (w_loc C.toCb 2) w_int)) ok_onone (ok_osome w_int))))).pt)))).pt (ok_scons (ok_ret (w_loc C.toCb 2)) ok_snil) ok_snil) ok_snil)) (ok_scons (ok_ret w_non) ok_snil))))
abbrev X__law_told (prog : Program) (wd : World) (K : PySem.W.Frag) (mg : Str → Option Value) (base : Heap) (f : Addr) (cdv : Value) (A : Around) (outer : List PySem.Env) (s : Shared) (H : Hp) (E : XK) : Cx := cxOf (L2.CX prog wd) prog wd K mg base N__law_told "_law_told" (defScope (top 42)) f cdv A outer s H E
theorem w__law_told (C : Ct T (X__law_told prog wd K mg base f cdv A outer s H E) (F0 Y P Cc E)) : PSs (X__law_told prog wd K mg base f cdv A outer s H E) (defBody (top 42)) (tSs (F0 Y P Cc E) b__law_told) := by
  have po : PassesOwn (model prog wd) (X__law_told prog wd K mg base f cdv A outer s H E).A (X__law_told prog wd K mg base f cdv A outer s H E).env (X__law_told prog wd K mg base f cdv A outer s H E).xe := passes_of rfl
  exact (ok_scons (w_set C.toCb 1 (ok_tup (w_cons (w_str [111, 116, 104, 101, 114]) (w_cons w_non ok_nil)))) (ok_scons (w_try C 2 0 (fun _ _ _ C po => (ok_scons (w_set C.toCb 1 (ok_tup (w_cons (w_str [116, 111, 108, 100]) (w_cons (w_callv0 C (w_loc C.toCb 0)) ok_nil)))) ok_snil)) (fun _ _ _ _ _ hz hf B => (ok_scons (ok_iff (ok_tand (w_test (w_exIs (c := .valueError) B 2 0 hz hf (c_ty B 14 bt_VE))) (ok_tand (w_test (w_exIs (c := (.own 1)) B 2 0 hz hf (c_own B 1))) (pw_and1 (ok_tnot (w_test (w_exIs (c := (.own 3)) B 2 0 hz hf (c_own B 3))))))).pt (ok_scons (w_set B 1 (ok_tup (w_cons (w_str [112, 97, 114, 116]) (w_cons (w_exFld B 2 0 hz hf) ok_nil)))) ok_snil) ok_snil) ok_snil))) (ok_scons (ok_ret (w_loc C.toCb 1)) ok_snil)))
abbrev X__law_written (prog : Program) (wd : World) (K : PySem.W.Frag) (mg : Str → Option Value) (base : Heap) (f : Addr) (cdv : Value) (A : Around) (outer : List PySem.Env) (s : Shared) (H : Hp) (E : XK) : Cx := cxOf (L2.CX prog wd) prog wd K mg base N__law_written "_law_written" (defScope (top 43)) f cdv A outer s H E
theorem w__law_written (C : Ct T (X__law_written prog wd K mg base f cdv A outer s H E) (F0 Y P Cc E)) : PSs (X__law_written prog wd K mg base f cdv A outer s H E) (defBody (top 43)) (tSs (F0 Y P Cc E) b__law_written) := by
  have po : PassesOwn (model prog wd) (X__law_written prog wd K mg base f cdv A outer s H E).A (X__law_written prog wd K mg base f cdv A outer s H E).env (X__law_written prog wd K mg base f cdv A outer s H E).xe := passes_of rfl
  exact (ok_scons (ok_ret (w_add C.toCb (w_add C.toCb (w_add C.toCb (w_str [107, 105, 110, 100, 115, 32]) (w_loc C.toCb 0)) (w_str [10])) (w_bm (bm_join C.toCb.fc.hK) F.plainAttrs_str F.slot_str_join rfl (w_str []) (w_cons (w_lc C [("a", 2), ("b", 3), ("rights", 4)] (w_itE C.toCb (w_loc C.toCb 1)) (fun _ _ _ _ _ C => (w_gtup C.toCb 3 (w_gcons (w_gname C.toCb 2) (w_gcons (w_gname C.toCb 3) (w_gcons (w_gname C.toCb 4) ok_gnil))))) (fun _ _ _ _ _ C => ok_ts0) (fun _ _ _ _ _ C => (w_add C.toCb (w_bm (bm_join C.toCb.fc.hK) F.plainAttrs_str F.slot_str_join rfl (w_str [32]) (w_cons (w_lst (w_cons (w_biT C.toCb 5 bi_str (w_cons (w_loc C.toCb 2) ok_nil) bt_str) (w_cons (w_biT C.toCb 5 bi_str (w_cons (w_loc C.toCb 3) ok_nil) bt_str) (w_cons (w_loc C.toCb 4) ok_nil)))) ok_nil)) (w_str [10])))) ok_nil)))) ok_snil)
abbrev X__law_is_right (prog : Program) (wd : World) (K : PySem.W.Frag) (mg : Str → Option Value) (base : Heap) (f : Addr) (cdv : Value) (A : Around) (outer : List PySem.Env) (s : Shared) (H : Hp) (E : XK) : Cx := cxOf (L2.CX prog wd) prog wd K mg base N__law_is_right "_law_is_right" (defScope (top 44)) f cdv A outer s H E
theorem w__law_is_right {TT : List NTab} {PP cc : Addr} (TB : TabB base mg cc PP) (hcd : cdv = .ref cc) (hTT : (PP, nm__law_is_right) ∈ TT) (hTU : ∀ p ∈ TT, p.1 = PP → p.2 = nm__law_is_right) (hTN : ∀ H, Y.tab H ↔ TabsN TT H) (hnf0 : Y.nf NF0 = some nf0) (hnf1 : Y.nf NF1 = some nf1) (C : Ct T (X__law_is_right prog wd K mg base f cdv A outer s H E) (F0 Y P Cc E)) : PSs (X__law_is_right prog wd K mg base f cdv A outer s H E) (defBody (top 44)) (tSs (F0 Y P Cc E) b__law_is_right) := by
  have po : PassesOwn (model prog wd) (X__law_is_right prog wd K mg base f cdv A outer s H E).A (X__law_is_right prog wd K mg base f cdv A outer s H E).env (X__law_is_right prog wd K mg base f cdv A outer s H E).xe := passes_of rfl
  exact (ok_scons (w_asg (ok_tup (w_cons (w_call C 27 (w_cons (w_cel C.toCb 0) (w_cons (w_cel C.toCb 1) ok_nil))) (w_cons (w_call C 29 (w_cons (w_cel C.toCb 0) (w_cons (w_cel C.toCb 1) ok_nil))) ok_nil))) (w_gtup C.toCb 2 (w_gcons (w_gname C.toCb 2) (w_gcons (w_gnameC C.toCb 7) ok_gnil)))) (w_blk (sts := ((defBody (top 44)).drop 1).take 3) (rest := (defBody (top 44)).drop 4) C [0, 1, 7] (fun C => (ok_scons (w_set C.toCb 3 (w_lst (w_cons (w_lam C NF1 [7] (nm := nm__law_is_right) TB hcd hTT hTU hTN (nf := nf1) hnf1) ok_nil))) (ok_scons (w_expr (w_bm bm_append F.plainAttrs_list F.slot_list_append rfl (w_loc C.toCb 3) (w_cons (w_lam C NF0 [1, 0] (nm := nm__law_is_right) TB hcd hTT hTU hTN (nf := nf0) hnf0) ok_nil))) (ok_scons (w_for po (w_itE C.toCb (w_loc C.toCb 3)) (w_gname C.toCb 4) (ok_scons (w_set C.toCb 5 (w_call C 28 (w_cons (w_loc C.toCb 4) ok_nil))) (ok_scons (ok_iff (ok_tand (ok_tisNon (w_loc C.toCb 2)) (pw_and1 (ok_tor (w_tcmp C.toCb .ne (w_idx C.toCb (w_loc C.toCb 5) w_int) (w_str [116, 111, 108, 100])) (pw_or1 (ok_tnot (w_test (w_call C 25 (w_cons (w_idx C.toCb (w_loc C.toCb 5) w_int) (w_cons (w_cel C.toCb 0) (w_cons (w_biT C.toCb 3 (bi_tuple C.toCb.fc.hK) (w_cons (w_cel C.toCb 1) ok_nil) bt_tuple) ok_nil)))))))).pt)).pt (ok_scons (ok_ret w_bl) ok_snil) ok_snil) (ok_scons (ok_iff (ok_tand (ok_tnotNon (w_loc C.toCb 2)) (pw_and1 (ok_tor (w_tcmp C.toCb .ne (w_idx C.toCb (w_loc C.toCb 5) w_int) (w_str [112, 97, 114, 116])) (ok_tor (w_test (w_isin1 (k := .bool) C.toCb 0 (w_idx C.toCb (w_loc C.toCb 5) w_int) (c_ty C.toCb 2 bt_bool))) (pw_or1 (w_tcmp C.toCb .ne (w_idx C.toCb (w_loc C.toCb 5) w_int) (w_loc C.toCb 2))))).pt)).pt (ok_scons (ok_ret w_bl) ok_snil) ok_snil) ok_snil)))) ok_snil)))) (ok_scons (ok_iff (ok_tnotNon (w_loc C.toCb 2)) (ok_scons (ok_ret w_bl) ok_snil) ok_snil) (ok_scons (w_setC C.toCb 6 (w_call C 19 (w_cons (w_cel C.toCb 7) ok_nil))) (ok_scons (ok_iff (ok_tor (w_tneO C 0 4 10 (w_cel C.toCb 6) (w_new C 0 4 8 (w_cons (w_cel C.toCb 0) (w_cons (w_biT C.toCb 3 (bi_tuple C.toCb.fc.hK) (w_cons (w_cel C.toCb 1) ok_nil) bt_tuple) ok_nil)))) (pw_or1 (w_tcmp C.toCb .ne (w_call C 14 (w_cons (w_cel C.toCb 6) ok_nil)) (w_cel C.toCb 7)))).pt (ok_scons (ok_ret w_bl) ok_snil) ok_snil) (ok_scons (ok_ret (w_biB C.toCb 6 (bi_all rfl) (w_cons (w_lc C [("a", 8), ("b", 9), ("rights", 10)] (w_itE C.toCb (w_cel C.toCb 1)) (fun _ _ _ _ _ C => (w_gtup C.toCb 3 (w_gcons (w_gname C.toCb 8) (w_gcons (w_gname C.toCb 9) (w_gcons (w_gname C.toCb 10) ok_gnil))))) (fun _ _ _ _ _ C => ok_ts0) (fun _ _ _ _ _ C => (w_cmp C.toCb .eq (w_call C 12 (w_cons (w_cel C.toCb 6) (w_cons (w_loc C.toCb 8) (w_cons (w_loc C.toCb 9) ok_nil)))) (w_loc C.toCb 10)))) ok_nil) bt_all)) ok_snil))))))
abbrev X_law (prog : Program) (wd : World) (K : PySem.W.Frag) (mg : Str → Option Value) (base : Heap) (f : Addr) (cdv : Value) (A : Around) (outer : List PySem.Env) (s : Shared) (H : Hp) (E : XK) : Cx := cxOf (L2.CX prog wd) prog wd K mg base N_law "law" (defScope (top 45)) f cdv A outer s H E
theorem w_law (C : Ct T (X_law prog wd K mg base f cdv A outer s H E) (F0 Y P Cc E)) : PSs (X_law prog wd K mg base f cdv A outer s H E) (defBody (top 45)) (tSs (F0 Y P Cc E) b_law) := by
  have po : PassesOwn (model prog wd) (X_law prog wd K mg base f cdv A outer s H E).A (X_law prog wd K mg base f cdv A outer s H E).env (X_law prog wd K mg base f cdv A outer s H E).xe := passes_of rfl
  exact (ok_scons (w_setC C.toCb 1 (w_call C 20 (w_cons (w_loc C.toCb 0) ok_nil))) (ok_scons (w_for po (w_range C.toCb 13 w_int) (w_gname C.toCb 2) (ok_scons (w_set C.toCb 3 (w_bm (bm_join C.toCb.fc.hK) F.plainAttrs_str F.slot_str_join rfl (w_str []) (w_cons (w_lc C [("member", 7)] (w_range C.toCb 13 (w_add C.toCb w_int (w_call C 21 (w_cons (w_cel C.toCb 1) (w_cons (w_call C 22 (w_cons (w_cel C.toCb 1) (w_cons (w_lst (w_cons w_int (w_cons w_int (w_cons w_int ok_nil)))) ok_nil))) ok_nil))))) (fun _ _ _ _ _ C => (w_gname C.toCb 7)) (fun _ _ _ _ _ C => ok_ts0) (fun _ _ _ _ _ C => (w_call C 22 (w_cons (w_cel C.toCb 1) (w_cons (w_lst (w_cons (w_str [68]) (w_cons (w_str [84]) ok_nil))) ok_nil))))) ok_nil))) (ok_scons (ok_iff (ok_tnot (w_test (w_call C 30 (w_cons (w_loc C.toCb 3) (w_cons (w_call C 26 (w_cons (w_cel C.toCb 1) (w_cons (w_loc C.toCb 3) ok_nil))) ok_nil))))) (ok_scons (ok_ret w_bl) ok_snil) ok_snil) ok_snil))) (ok_scons (w_set C.toCb 4 (w_lst ok_nil)) (ok_scons (w_for po (w_range C.toCb 13 w_int) (w_gnameC C.toCb 5) (ok_scons (w_expr (w_bm bm_extend F.plainAttrs_list F.slot_list_extend rfl (w_loc C.toCb 4) (w_cons (w_lc C [("b", 8)] (w_range C.toCb 13 (w_cel C.toCb 5)) (fun _ _ _ _ _ C => (w_gname C.toCb 8)) (fun _ _ _ _ _ C => ok_ts0) (fun _ _ _ _ _ C => (ok_tup (w_cons (w_cel C.toCb 5) (w_cons (w_loc C.toCb 8) ok_nil))))) ok_nil))) ok_snil)) (ok_scons (w_setLc C 6 [("a", 5), ("b", 8)] (w_itE C.toCb (w_slice C.toCb (w_loc C.toCb 4) ok_onone (ok_osome (w_add C.toCb w_int (w_call C 21 (w_cons (w_cel C.toCb 1) (w_cons w_int ok_nil))))))) (fun _ _ _ _ _ C => (w_gtup C.toCb 2 (w_gcons (w_gname C.toCb 5) (w_gcons (w_gname C.toCb 8) ok_gnil)))) (fun _ _ _ _ _ C => ok_ts0) (fun _ _ _ _ _ C => (ok_tup (w_cons (w_loc C.toCb 5) (w_cons (w_loc C.toCb 8) (w_cons (w_call C 23 (w_cons (w_cel C.toCb 1) ok_nil)) ok_nil)))))) (ok_scons (w_set C.toCb 3 (w_add C.toCb (w_mul C.toCb (w_str [68, 84]) w_int) (w_mul C.toCb (w_str [84]) (w_call C 21 (w_cons (w_cel C.toCb 1) (w_cons w_int ok_nil)))))) (ok_scons (ok_ret (ok_and (w_call C 30 (w_cons (w_loc C.toCb 3) (w_cons (w_loc C.toCb 6) ok_nil))) (pe_one (w_call C 30 (w_cons (w_mul C.toCb (w_str [84]) (w_add C.toCb w_int (w_call C 21 (w_cons (w_cel C.toCb 1) (w_cons w_int ok_nil))))) (w_cons (w_lst (w_cons (ok_tup (w_cons w_int (w_cons w_int (w_cons (w_str [103]) ok_nil)))) ok_nil)) ok_nil)))))) ok_snil)))))))
theorem v__law_is_right_lam0 {cs : List (Str × Addr)} {c1 : Addr} (C : Ct T (ncx (L2.CX prog wd) prog wd K mg base N__law_is_right_lam0 (nfOf nf0 cs c1) f A outer s H E) (F1 Y P Cc E 0 cs)) : PE (ncx (L2.CX prog wd) prog wd K mg base N__law_is_right_lam0 (nfOf nf0 cs c1) f A outer s H E) (lamB (eAt 0 (sVal (sAt (defBody (top 44)) 2)))) (tE (F1 Y P Cc E 0 cs) x__law_is_right_lam0) := by
  exact (w_new C 0 4 8 (w_cons (w_fre C.toCb 1) (w_cons (w_biT C.toCb 3 (bi_tuple C.toCb.fc.hK) (w_cons (w_fre C.toCb 0) ok_nil) bt_tuple) ok_nil)))
theorem v__law_is_right_lam1 {cs : List (Str × Addr)} {c1 : Addr} (C : Ct T (ncx (L2.CX prog wd) prog wd K mg base N__law_is_right_lam1 (nfOf nf1 cs c1) f A outer s H E) (F1 Y P Cc E 0 cs)) : PE (ncx (L2.CX prog wd) prog wd K mg base N__law_is_right_lam1 (nfOf nf1 cs c1) f A outer s H E) (lamB (eAt 0 (sVal (sAt (defBody (top 44)) 1)))) (tE (F1 Y P Cc E 0 cs) x__law_is_right_lam1) := by
  exact (w_call C 19 (w_cons (w_fre C.toCb 0) ok_nil))
end
end K65
end

section
set_option maxRecDepth 100000
set_option maxHeartbeats 4000000
namespace K65
open PySem PySem.Spec PyProof.Rows L2 LamX NdefX Pv
/-! ### the table, by depth -/
theorem hfl : fldsB tl.flds = true := by kernel_rfl
def nfs : List Nf := [nf0, nf1]
def nfT (i : Nat) : Option Nf := if i < 32 then none else nfs[i - 32]?
def tt : List (He.Defn × (Nat → Nat → Str)) := [(("_law_is_right", none), nm__law_is_right)]
abbrev YK (K : PySem.W.Frag) : At := tl.at_ hfl nfT tt K
abbrev d_is_integer : He.DefD := ⟨("is_integer", none), "is_integer", "is_integer", defArgs (top 8), defBody (top 8), defScope (top 8), [], []⟩
abbrev d_is_within : He.DefD := ⟨("is_within", none), "is_within", "is_within", defArgs (top 9), defBody (top 9), defScope (top 9), [], []⟩
abbrev d_is_triple : He.DefD := ⟨("is_triple", none), "is_triple", "is_triple", defArgs (top 10), defBody (top 10), defScope (top 10), [], []⟩
abbrev d_are_rights : He.DefD := ⟨("are_rights", none), "are_rights", "are_rights", defArgs (top 11), defBody (top 11), defScope (top 11), [], []⟩
abbrev d_is_member : He.DefD := ⟨("is_member", none), "is_member", "is_member", defArgs (top 12), defBody (top 12), defScope (top 12), [], []⟩
abbrev d_check_member : He.DefD := ⟨("check_member", none), "check_member", "check_member", defArgs (top 13), defBody (top 13), defScope (top 13), [], []⟩
abbrev d_are_kinds : He.DefD := ⟨("are_kinds", none), "are_kinds", "are_kinds", defArgs (top 17), defBody (top 17), defScope (top 17), [], []⟩
abbrev d_is_handle : He.DefD := ⟨("is_handle", none), "is_handle", "is_handle", defArgs (top 18), defBody (top 18), defScope (top 18), [], []⟩
abbrev d_Store___init__ : He.DefD := ⟨("Store", some "__init__"), "__init__", "Store.__init__", defArgs (mth 19 0), defBody (mth 19 0), defScope (mth 19 0), [], []⟩
abbrev d_Store_fill : He.DefD := ⟨("Store", some "fill"), "fill", "Store.fill", defArgs (mth 19 1), defBody (mth 19 1), defScope (mth 19 1), [], []⟩
abbrev d_Store___eq__ : He.DefD := ⟨("Store", some "__eq__"), "__eq__", "Store.__eq__", defArgs (mth 19 2), defBody (mth 19 2), defScope (mth 19 2), [], []⟩
abbrev d_rights_in : He.DefD := ⟨("rights_in", none), "rights_in", "rights_in", defArgs (top 20), defBody (top 20), defScope (top 20), [], []⟩
abbrev d_rights_of : He.DefD := ⟨("rights_of", none), "rights_of", "rights_of", defArgs (top 21), defBody (top 21), defScope (top 21), [], []⟩
abbrev d_are_some_rights : He.DefD := ⟨("are_some_rights", none), "are_some_rights", "are_some_rights", defArgs (top 23), defBody (top 23), defScope (top 23), [], []⟩
abbrev d_store_text : He.DefD := ⟨("store_text", none), "store_text", "store_text", defArgs (top 24), defBody (top 24), defScope (top 24), [], []⟩
abbrev d_number_of : He.DefD := ⟨("number_of", none), "number_of", "number_of", defArgs (top 28), defBody (top 28), defScope (top 28), [], []⟩
abbrev d_kinds_of : He.DefD := ⟨("kinds_of", none), "kinds_of", "kinds_of", defArgs (top 29), defBody (top 29), defScope (top 29), [], []⟩
abbrev d_handle_of : He.DefD := ⟨("handle_of", none), "handle_of", "handle_of", defArgs (top 30), defBody (top 30), defScope (top 30), [], []⟩
abbrev d_lines_read : He.DefD := ⟨("lines_read", none), "lines_read", "lines_read", defArgs (top 31), defBody (top 31), defScope (top 31), [], []⟩
abbrev d_read_store : He.DefD := ⟨("read_store", none), "read_store", "read_store", defArgs (top 32), defBody (top 32), defScope (top 32), [], []⟩
abbrev d__law_hand : He.DefD := ⟨("_law_hand", none), "_law_hand", "_law_hand", defArgs (top 34), defBody (top 34), defScope (top 34), [], []⟩
abbrev d__law_draw : He.DefD := ⟨("_law_draw", none), "_law_draw", "_law_draw", defArgs (top 35), defBody (top 35), defScope (top 35), [], []⟩
abbrev d__law_any : He.DefD := ⟨("_law_any", none), "_law_any", "_law_any", defArgs (top 36), defBody (top 36), defScope (top 36), [], []⟩
abbrev d__law_some_rights : He.DefD := ⟨("_law_some_rights", none), "_law_some_rights", "_law_some_rights", defArgs (top 37), defBody (top 37), defScope (top 37), [], []⟩
abbrev d__law_is_plain : He.DefD := ⟨("_law_is_plain", none), "_law_is_plain", "_law_is_plain", defArgs (top 38), defBody (top 38), defScope (top 38), [], []⟩
abbrev d__law_is_store : He.DefD := ⟨("_law_is_store", none), "_law_is_store", "_law_is_store", defArgs (top 39), defBody (top 39), defScope (top 39), [], []⟩
abbrev d__law_rows : He.DefD := ⟨("_law_rows", none), "_law_rows", "_law_rows", defArgs (top 40), defBody (top 40), defScope (top 40), [], []⟩
abbrev d__law_part : He.DefD := ⟨("_law_part", none), "_law_part", "_law_part", defArgs (top 41), defBody (top 41), defScope (top 41), [], []⟩
abbrev d__law_told : He.DefD := ⟨("_law_told", none), "_law_told", "_law_told", defArgs (top 42), defBody (top 42), defScope (top 42), [], []⟩
abbrev d__law_written : He.DefD := ⟨("_law_written", none), "_law_written", "_law_written", defArgs (top 43), defBody (top 43), defScope (top 43), [], []⟩
abbrev d__law_is_right : He.DefD := ⟨("_law_is_right", none), "_law_is_right", "_law_is_right", defArgs (top 44), defBody (top 44), defScope (top 44), [], []⟩
abbrev d_law : He.DefD := ⟨("law", none), "law", "law", defArgs (top 45), defBody (top 45), defScope (top 45), [], []⟩
def ds : List He.DefD := [d_is_integer, d_is_within, d_is_triple, d_are_rights, d_is_member, d_check_member, d_are_kinds, d_is_handle, d_Store___init__, d_Store_fill, d_Store___eq__, d_rights_in, d_rights_of, d_are_some_rights, d_store_text, d_number_of, d_kinds_of, d_handle_of, d_lines_read, d_read_store, d__law_hand, d__law_draw, d__law_any, d__law_some_rights, d__law_is_plain, d__law_is_store, d__law_rows, d__law_part, d__law_told, d__law_written, d__law_is_right, d_law]
def es : List EI := [⟨1, mth 2 0, "BadStore.__init__"⟩, ⟨2, mth 3 0, "NoMember.__init__"⟩, ⟨3, mth 4 0, "BadText.__init__"⟩]
theorem p_is_integer : psOf d_is_integer = (["thing"] : List Str) := by kernel_rfl
theorem sc_is_integer : FnScope N_is_integer (psOf d_is_integer) d_is_integer.scope := by
  rw [p_is_integer]
  exact ⟨by kernel_rfl, by kernel_rfl, by kernel_rfl, by decide +kernel, by kernel_rfl, by decide +kernel, by decide +kernel⟩
theorem bd_is_integer {K : PySem.W.Frag} {f : Addr} {fd : FuncData} (F : FunI K d_is_integer f fd) : Binds K fd (psOf d_is_integer) [] := by
  rw [p_is_integer]
  exact FunD.bindsN F fun _ _ _ _ _ _ us hl => match us, hl with | [_], _ => rfl
theorem p_is_within : psOf d_is_within = (["thing", "least", "most"] : List Str) := by kernel_rfl
theorem sc_is_within : FnScope N_is_within (psOf d_is_within) d_is_within.scope := by
  rw [p_is_within]
  exact ⟨by kernel_rfl, by kernel_rfl, by kernel_rfl, by decide +kernel, by kernel_rfl, by decide +kernel, by decide +kernel⟩
theorem bd_is_within {K : PySem.W.Frag} {f : Addr} {fd : FuncData} (F : FunI K d_is_within f fd) : Binds K fd (psOf d_is_within) [] := by
  rw [p_is_within]
  exact FunD.bindsN F fun _ _ _ _ _ _ us hl => match us, hl with | [_, _, _], _ => rfl
theorem p_is_triple : psOf d_is_triple = (["thing"] : List Str) := by kernel_rfl
theorem sc_is_triple : FnScope N_is_triple (psOf d_is_triple) d_is_triple.scope := by
  rw [p_is_triple]
  exact ⟨by kernel_rfl, by kernel_rfl, by kernel_rfl, by decide +kernel, by kernel_rfl, by decide +kernel, by decide +kernel⟩
theorem bd_is_triple {K : PySem.W.Frag} {f : Addr} {fd : FuncData} (F : FunI K d_is_triple f fd) : Binds K fd (psOf d_is_triple) [] := by
  rw [p_is_triple]
  exact FunD.bindsN F fun _ _ _ _ _ _ us hl => match us, hl with | [_], _ => rfl
theorem p_are_rights : psOf d_are_rights = (["thing"] : List Str) := by kernel_rfl
theorem sc_are_rights : FnScope N_are_rights (psOf d_are_rights) d_are_rights.scope := by
  rw [p_are_rights]
  exact ⟨by kernel_rfl, by kernel_rfl, by kernel_rfl, by decide +kernel, by kernel_rfl, by decide +kernel, by decide +kernel⟩
theorem bd_are_rights {K : PySem.W.Frag} {f : Addr} {fd : FuncData} (F : FunI K d_are_rights f fd) : Binds K fd (psOf d_are_rights) [] := by
  rw [p_are_rights]
  exact FunD.bindsN F fun _ _ _ _ _ _ us hl => match us, hl with | [_], _ => rfl
theorem p_is_member : psOf d_is_member = (["store", "thing"] : List Str) := by kernel_rfl
theorem sc_is_member : FnScope N_is_member (psOf d_is_member) d_is_member.scope := by
  rw [p_is_member]
  exact ⟨by kernel_rfl, by kernel_rfl, by kernel_rfl, by decide +kernel, by kernel_rfl, by decide +kernel, by decide +kernel⟩
theorem bd_is_member {K : PySem.W.Frag} {f : Addr} {fd : FuncData} (F : FunI K d_is_member f fd) : Binds K fd (psOf d_is_member) [] := by
  rw [p_is_member]
  exact FunD.bindsN F fun _ _ _ _ _ _ us hl => match us, hl with | [_, _], _ => rfl
theorem p_check_member : psOf d_check_member = (["store", "thing"] : List Str) := by kernel_rfl
theorem sc_check_member : FnScope N_check_member (psOf d_check_member) d_check_member.scope := by
  rw [p_check_member]
  exact ⟨by kernel_rfl, by kernel_rfl, by kernel_rfl, by decide +kernel, by kernel_rfl, by decide +kernel, by decide +kernel⟩
theorem bd_check_member {K : PySem.W.Frag} {f : Addr} {fd : FuncData} (F : FunI K d_check_member f fd) : Binds K fd (psOf d_check_member) [] := by
  rw [p_check_member]
  exact FunD.bindsN F fun _ _ _ _ _ _ us hl => match us, hl with | [_, _], _ => rfl
theorem p_are_kinds : psOf d_are_kinds = (["thing", "most"] : List Str) := by kernel_rfl
theorem sc_are_kinds : FnScope N_are_kinds (psOf d_are_kinds) d_are_kinds.scope := by
  rw [p_are_kinds]
  exact ⟨by kernel_rfl, by kernel_rfl, by kernel_rfl, by decide +kernel, by kernel_rfl, by decide +kernel, by decide +kernel⟩
theorem bd_are_kinds {K : PySem.W.Frag} {f : Addr} {fd : FuncData} (F : FunI K d_are_kinds f fd) : Binds K fd (psOf d_are_kinds) [] := by
  rw [p_are_kinds]
  exact FunD.bindsN F fun _ _ _ _ _ _ us hl => match us, hl with | [_, _], _ => rfl
theorem p_is_handle : psOf d_is_handle = (["many", "thing"] : List Str) := by kernel_rfl
theorem sc_is_handle : FnScope N_is_handle (psOf d_is_handle) d_is_handle.scope := by
  rw [p_is_handle]
  exact ⟨by kernel_rfl, by kernel_rfl, by kernel_rfl, by decide +kernel, by kernel_rfl, by decide +kernel, by decide +kernel⟩
theorem bd_is_handle {K : PySem.W.Frag} {f : Addr} {fd : FuncData} (F : FunI K d_is_handle f fd) : Binds K fd (psOf d_is_handle) [] := by
  rw [p_is_handle]
  exact FunD.bindsN F fun _ _ _ _ _ _ us hl => match us, hl with | [_, _], _ => rfl
theorem p_Store___init__ : psOf d_Store___init__ = (["self", "kinds", "handles"] : List Str) := by kernel_rfl
theorem sc_Store___init__ : FnScope N_Store___init__ (psOf d_Store___init__) d_Store___init__.scope := by
  rw [p_Store___init__]
  exact ⟨by kernel_rfl, by kernel_rfl, by kernel_rfl, by decide +kernel, by kernel_rfl, by decide +kernel, by decide +kernel⟩
theorem bd_Store___init__ {K : PySem.W.Frag} {f : Addr} {fd : FuncData} (F : FunI K d_Store___init__ f fd) : Binds K fd (psOf d_Store___init__) [] := by
  rw [p_Store___init__]
  exact FunD.bindsN F fun _ _ _ _ _ _ us hl => match us, hl with | [_, _, _], _ => rfl
theorem p_Store_fill : psOf d_Store_fill = (["self", "kinds", "held"] : List Str) := by kernel_rfl
theorem sc_Store_fill : FnScope N_Store_fill (psOf d_Store_fill) d_Store_fill.scope := by
  rw [p_Store_fill]
  exact ⟨by kernel_rfl, by kernel_rfl, by kernel_rfl, by decide +kernel, by kernel_rfl, by decide +kernel, by decide +kernel⟩
theorem bd_Store_fill {K : PySem.W.Frag} {f : Addr} {fd : FuncData} (F : FunI K d_Store_fill f fd) : Binds K fd (psOf d_Store_fill) [] := by
  rw [p_Store_fill]
  exact FunD.bindsN F fun _ _ _ _ _ _ us hl => match us, hl with | [_, _, _], _ => rfl
theorem p_Store___eq__ : psOf d_Store___eq__ = (["self", "other"] : List Str) := by kernel_rfl
theorem sc_Store___eq__ : FnScope N_Store___eq__ (psOf d_Store___eq__) d_Store___eq__.scope := by
  rw [p_Store___eq__]
  exact ⟨by kernel_rfl, by kernel_rfl, by kernel_rfl, by decide +kernel, by kernel_rfl, by decide +kernel, by decide +kernel⟩
theorem bd_Store___eq__ {K : PySem.W.Frag} {f : Addr} {fd : FuncData} (F : FunI K d_Store___eq__ f fd) : Binds K fd (psOf d_Store___eq__) [] := by
  rw [p_Store___eq__]
  exact FunD.bindsN F fun _ _ _ _ _ _ us hl => match us, hl with | [_, _], _ => rfl
theorem p_rights_in : psOf d_rights_in = (["store", "a", "b"] : List Str) := by kernel_rfl
theorem sc_rights_in : FnScope N_rights_in (psOf d_rights_in) d_rights_in.scope := by
  rw [p_rights_in]
  exact ⟨by kernel_rfl, by kernel_rfl, by kernel_rfl, by decide +kernel, by kernel_rfl, by decide +kernel, by decide +kernel⟩
theorem bd_rights_in {K : PySem.W.Frag} {f : Addr} {fd : FuncData} (F : FunI K d_rights_in f fd) : Binds K fd (psOf d_rights_in) [] := by
  rw [p_rights_in]
  exact FunD.bindsN F fun _ _ _ _ _ _ us hl => match us, hl with | [_, _, _], _ => rfl
theorem p_rights_of : psOf d_rights_of = (["store", "a", "b"] : List Str) := by kernel_rfl
theorem sc_rights_of : FnScope N_rights_of (psOf d_rights_of) d_rights_of.scope := by
  rw [p_rights_of]
  exact ⟨by kernel_rfl, by kernel_rfl, by kernel_rfl, by decide +kernel, by kernel_rfl, by decide +kernel, by decide +kernel⟩
theorem bd_rights_of {K : PySem.W.Frag} {f : Addr} {fd : FuncData} (F : FunI K d_rights_of f fd) : Binds K fd (psOf d_rights_of) [] := by
  rw [p_rights_of]
  exact FunD.bindsN F fun _ _ _ _ _ _ us hl => match us, hl with | [_, _, _], _ => rfl
theorem p_are_some_rights : psOf d_are_some_rights = (["thing"] : List Str) := by kernel_rfl
theorem sc_are_some_rights : FnScope N_are_some_rights (psOf d_are_some_rights) d_are_some_rights.scope := by
  rw [p_are_some_rights]
  exact ⟨by kernel_rfl, by kernel_rfl, by kernel_rfl, by decide +kernel, by kernel_rfl, by decide +kernel, by decide +kernel⟩
theorem bd_are_some_rights {K : PySem.W.Frag} {f : Addr} {fd : FuncData} (F : FunI K d_are_some_rights f fd) : Binds K fd (psOf d_are_some_rights) [] := by
  rw [p_are_some_rights]
  exact FunD.bindsN F fun _ _ _ _ _ _ us hl => match us, hl with | [_], _ => rfl
theorem p_store_text : psOf d_store_text = (["store"] : List Str) := by kernel_rfl
theorem sc_store_text : FnScope N_store_text (psOf d_store_text) d_store_text.scope := by
  rw [p_store_text]
  exact ⟨by kernel_rfl, by kernel_rfl, by kernel_rfl, by decide +kernel, by kernel_rfl, by decide +kernel, by decide +kernel⟩
theorem bd_store_text {K : PySem.W.Frag} {f : Addr} {fd : FuncData} (F : FunI K d_store_text f fd) : Binds K fd (psOf d_store_text) [] := by
  rw [p_store_text]
  exact FunD.bindsN F fun _ _ _ _ _ _ us hl => match us, hl with | [_], _ => rfl
theorem p_number_of : psOf d_number_of = (["word"] : List Str) := by kernel_rfl
theorem sc_number_of : FnScope N_number_of (psOf d_number_of) d_number_of.scope := by
  rw [p_number_of]
  exact ⟨by kernel_rfl, by kernel_rfl, by kernel_rfl, by decide +kernel, by kernel_rfl, by decide +kernel, by decide +kernel⟩
theorem bd_number_of {K : PySem.W.Frag} {f : Addr} {fd : FuncData} (F : FunI K d_number_of f fd) : Binds K fd (psOf d_number_of) [] := by
  rw [p_number_of]
  exact FunD.bindsN F fun _ _ _ _ _ _ us hl => match us, hl with | [_], _ => rfl
theorem p_kinds_of : psOf d_kinds_of = (["line"] : List Str) := by kernel_rfl
theorem sc_kinds_of : FnScope N_kinds_of (psOf d_kinds_of) d_kinds_of.scope := by
  rw [p_kinds_of]
  exact ⟨by kernel_rfl, by kernel_rfl, by kernel_rfl, by decide +kernel, by kernel_rfl, by decide +kernel, by decide +kernel⟩
theorem bd_kinds_of {K : PySem.W.Frag} {f : Addr} {fd : FuncData} (F : FunI K d_kinds_of f fd) : Binds K fd (psOf d_kinds_of) [] := by
  rw [p_kinds_of]
  exact FunD.bindsN F fun _ _ _ _ _ _ us hl => match us, hl with | [_], _ => rfl
theorem p_handle_of : psOf d_handle_of = (["line"] : List Str) := by kernel_rfl
theorem sc_handle_of : FnScope N_handle_of (psOf d_handle_of) d_handle_of.scope := by
  rw [p_handle_of]
  exact ⟨by kernel_rfl, by kernel_rfl, by kernel_rfl, by decide +kernel, by kernel_rfl, by decide +kernel, by decide +kernel⟩
theorem bd_handle_of {K : PySem.W.Frag} {f : Addr} {fd : FuncData} (F : FunI K d_handle_of f fd) : Binds K fd (psOf d_handle_of) [] := by
  rw [p_handle_of]
  exact FunD.bindsN F fun _ _ _ _ _ _ us hl => match us, hl with | [_], _ => rfl
theorem p_lines_read : psOf d_lines_read = (["text", "readers"] : List Str) := by kernel_rfl
theorem sc_lines_read : FnScope N_lines_read (psOf d_lines_read) d_lines_read.scope := by
  rw [p_lines_read]
  exact ⟨by kernel_rfl, by kernel_rfl, by kernel_rfl, by decide +kernel, by kernel_rfl, by decide +kernel, by decide +kernel⟩
theorem bd_lines_read {K : PySem.W.Frag} {f : Addr} {fd : FuncData} (F : FunI K d_lines_read f fd) : Binds K fd (psOf d_lines_read) [] := by
  rw [p_lines_read]
  exact FunD.bindsN F fun _ _ _ _ _ _ us hl => match us, hl with | [_, _], _ => rfl
theorem p_read_store : psOf d_read_store = (["text"] : List Str) := by kernel_rfl
theorem sc_read_store : FnScope N_read_store (psOf d_read_store) d_read_store.scope := by
  rw [p_read_store]
  exact ⟨by kernel_rfl, by kernel_rfl, by kernel_rfl, by decide +kernel, by kernel_rfl, by decide +kernel, by decide +kernel⟩
theorem bd_read_store {K : PySem.W.Frag} {f : Addr} {fd : FuncData} (F : FunI K d_read_store f fd) : Binds K fd (psOf d_read_store) [] := by
  rw [p_read_store]
  exact FunD.bindsN F fun _ _ _ _ _ _ us hl => match us, hl with | [_], _ => rfl
theorem p__law_hand : psOf d__law_hand = (["script"] : List Str) := by kernel_rfl
theorem sc__law_hand : FnScope N__law_hand (psOf d__law_hand) d__law_hand.scope := by
  rw [p__law_hand]
  exact ⟨by kernel_rfl, by kernel_rfl, by kernel_rfl, by decide +kernel, by kernel_rfl, by decide +kernel, by decide +kernel⟩
theorem bd__law_hand {K : PySem.W.Frag} {f : Addr} {fd : FuncData} (F : FunI K d__law_hand f fd) : Binds K fd (psOf d__law_hand) [] := by
  rw [p__law_hand]
  exact FunD.bindsN F fun _ _ _ _ _ _ us hl => match us, hl with | [_], _ => rfl
theorem p__law_draw : psOf d__law_draw = (["hand", "below"] : List Str) := by kernel_rfl
theorem sc__law_draw : FnScope N__law_draw (psOf d__law_draw) d__law_draw.scope := by
  rw [p__law_draw]
  exact ⟨by kernel_rfl, by kernel_rfl, by kernel_rfl, by decide +kernel, by kernel_rfl, by decide +kernel, by decide +kernel⟩
theorem bd__law_draw {K : PySem.W.Frag} {f : Addr} {fd : FuncData} (F : FunI K d__law_draw f fd) : Binds K fd (psOf d__law_draw) [] := by
  rw [p__law_draw]
  exact FunD.bindsN F fun _ _ _ _ _ _ us hl => match us, hl with | [_, _], _ => rfl
theorem p__law_any : psOf d__law_any = (["hand", "some"] : List Str) := by kernel_rfl
theorem sc__law_any : FnScope N__law_any (psOf d__law_any) d__law_any.scope := by
  rw [p__law_any]
  exact ⟨by kernel_rfl, by kernel_rfl, by kernel_rfl, by decide +kernel, by kernel_rfl, by decide +kernel, by decide +kernel⟩
theorem bd__law_any {K : PySem.W.Frag} {f : Addr} {fd : FuncData} (F : FunI K d__law_any f fd) : Binds K fd (psOf d__law_any) [] := by
  rw [p__law_any]
  exact FunD.bindsN F fun _ _ _ _ _ _ us hl => match us, hl with | [_, _], _ => rfl
theorem p__law_some_rights : psOf d__law_some_rights = (["hand"] : List Str) := by kernel_rfl
theorem sc__law_some_rights : FnScope N__law_some_rights (psOf d__law_some_rights) d__law_some_rights.scope := by
  rw [p__law_some_rights]
  exact ⟨by kernel_rfl, by kernel_rfl, by kernel_rfl, by decide +kernel, by kernel_rfl, by decide +kernel, by decide +kernel⟩
theorem bd__law_some_rights {K : PySem.W.Frag} {f : Addr} {fd : FuncData} (F : FunI K d__law_some_rights f fd) : Binds K fd (psOf d__law_some_rights) [] := by
  rw [p__law_some_rights]
  exact FunD.bindsN F fun _ _ _ _ _ _ us hl => match us, hl with | [_], _ => rfl
theorem p__law_is_plain : psOf d__law_is_plain = (["got", "due"] : List Str) := by kernel_rfl
theorem sc__law_is_plain : FnScope N__law_is_plain (psOf d__law_is_plain) d__law_is_plain.scope := by
  rw [p__law_is_plain]
  exact ⟨by kernel_rfl, by kernel_rfl, by kernel_rfl, by decide +kernel, by kernel_rfl, by decide +kernel, by decide +kernel⟩
theorem bd__law_is_plain {K : PySem.W.Frag} {f : Addr} {fd : FuncData} (F : FunI K d__law_is_plain f fd) : Binds K fd (psOf d__law_is_plain) [] := by
  rw [p__law_is_plain]
  exact FunD.bindsN F fun _ _ _ _ _ _ us hl => match us, hl with | [_, _], _ => rfl
theorem p__law_is_store : psOf d__law_is_store = (["got", "kinds", "handles"] : List Str) := by kernel_rfl
theorem sc__law_is_store : FnScope N__law_is_store (psOf d__law_is_store) d__law_is_store.scope := by
  rw [p__law_is_store]
  exact ⟨by kernel_rfl, by kernel_rfl, by kernel_rfl, by decide +kernel, by kernel_rfl, by decide +kernel, by decide +kernel⟩
theorem bd__law_is_store {K : PySem.W.Frag} {f : Addr} {fd : FuncData} (F : FunI K d__law_is_store f fd) : Binds K fd (psOf d__law_is_store) [] := by
  rw [p__law_is_store]
  exact FunD.bindsN F fun _ _ _ _ _ _ us hl => match us, hl with | [_, _, _], _ => rfl
theorem p__law_rows : psOf d__law_rows = (["hand", "kinds"] : List Str) := by kernel_rfl
theorem sc__law_rows : FnScope N__law_rows (psOf d__law_rows) d__law_rows.scope := by
  rw [p__law_rows]
  exact ⟨by kernel_rfl, by kernel_rfl, by kernel_rfl, by decide +kernel, by kernel_rfl, by decide +kernel, by decide +kernel⟩
theorem bd__law_rows {K : PySem.W.Frag} {f : Addr} {fd : FuncData} (F : FunI K d__law_rows f fd) : Binds K fd (psOf d__law_rows) [] := by
  rw [p__law_rows]
  exact FunD.bindsN F fun _ _ _ _ _ _ us hl => match us, hl with | [_, _], _ => rfl
theorem p__law_part : psOf d__law_part = (["kinds", "rows"] : List Str) := by kernel_rfl
theorem sc__law_part : FnScope N__law_part (psOf d__law_part) d__law_part.scope := by
  rw [p__law_part]
  exact ⟨by kernel_rfl, by kernel_rfl, by kernel_rfl, by decide +kernel, by kernel_rfl, by decide +kernel, by decide +kernel⟩
theorem bd__law_part {K : PySem.W.Frag} {f : Addr} {fd : FuncData} (F : FunI K d__law_part f fd) : Binds K fd (psOf d__law_part) [] := by
  rw [p__law_part]
  exact FunD.bindsN F fun _ _ _ _ _ _ us hl => match us, hl with | [_, _], _ => rfl
theorem p__law_told : psOf d__law_told = (["call"] : List Str) := by kernel_rfl
theorem sc__law_told : FnScope N__law_told (psOf d__law_told) d__law_told.scope := by
  rw [p__law_told]
  exact ⟨by kernel_rfl, by kernel_rfl, by kernel_rfl, by decide +kernel, by kernel_rfl, by decide +kernel, by decide +kernel⟩
theorem bd__law_told {K : PySem.W.Frag} {f : Addr} {fd : FuncData} (F : FunI K d__law_told f fd) : Binds K fd (psOf d__law_told) [] := by
  rw [p__law_told]
  exact FunD.bindsN F fun _ _ _ _ _ _ us hl => match us, hl with | [_], _ => rfl
theorem p__law_written : psOf d__law_written = (["kinds", "rows"] : List Str) := by kernel_rfl
theorem sc__law_written : FnScope N__law_written (psOf d__law_written) d__law_written.scope := by
  rw [p__law_written]
  exact ⟨by kernel_rfl, by kernel_rfl, by kernel_rfl, by decide +kernel, by kernel_rfl, by decide +kernel, by decide +kernel⟩
theorem bd__law_written {K : PySem.W.Frag} {f : Addr} {fd : FuncData} (F : FunI K d__law_written f fd) : Binds K fd (psOf d__law_written) [] := by
  rw [p__law_written]
  exact FunD.bindsN F fun _ _ _ _ _ _ us hl => match us, hl with | [_, _], _ => rfl
theorem p__law_is_right : psOf d__law_is_right = (["kinds", "rows"] : List Str) := by kernel_rfl
theorem sc__law_is_right : FnScope N__law_is_right (psOf d__law_is_right) d__law_is_right.scope := by
  rw [p__law_is_right]
  exact ⟨by kernel_rfl, by kernel_rfl, by kernel_rfl, by decide +kernel, by kernel_rfl, by decide +kernel, by decide +kernel⟩
theorem bd__law_is_right {K : PySem.W.Frag} {f : Addr} {fd : FuncData} (F : FunI K d__law_is_right f fd) : Binds K fd (psOf d__law_is_right) [] := by
  rw [p__law_is_right]
  exact FunD.bindsN F fun _ _ _ _ _ _ us hl => match us, hl with | [_, _], _ => rfl
theorem p_law : psOf d_law = (["script"] : List Str) := by kernel_rfl
theorem sc_law : FnScope N_law (psOf d_law) d_law.scope := by
  rw [p_law]
  exact ⟨by kernel_rfl, by kernel_rfl, by kernel_rfl, by decide +kernel, by kernel_rfl, by decide +kernel, by decide +kernel⟩
theorem bd_law {K : PySem.W.Frag} {f : Addr} {fd : FuncData} (F : FunI K d_law f fd) : Binds K fd (psOf d_law) [] := by
  rw [p_law]
  exact FunD.bindsN F fun _ _ _ _ _ _ us hl => match us, hl with | [_], _ => rfl
theorem ns__law_is_right_lam0 : NScope N__law_is_right_lam0 [] nf0.caps nf0.scope := nscope_by (by kernel_rfl)
theorem ns__law_is_right_lam1 : NScope N__law_is_right_lam1 [] nf1.caps nf1.scope := nscope_by (by kernel_rfl)
section
variable {prog : Program} {wd : World} {K : PySem.W.Frag} {mg : Str → Option Value} {base : Heap} {d : Nat}
theorem s_is_integer (S : Sta T ds Fs prog K mg (YK K)) (a : All T ds Fs prog wd K mg base (YK K) d) {fd : FuncData} (F : FunI K d_is_integer ((YK K).fa 0) fd) : FnOk prog wd K mg base (L2.CX prog wd) (Lv (d + 1)) ((YK K).fa 0) fd (psOf d_is_integer) (spC (YK K) (callAt T.P Fs (d + 1)) 0) := by
  exact step_fn S a F sc_is_integer rfl (by kernel_rfl) (by kernel_rfl) (by kernel_rfl) fun _ _ _ _ _ _ _ _ C => w_is_integer C
theorem s_is_within (S : Sta T ds Fs prog K mg (YK K)) (a : All T ds Fs prog wd K mg base (YK K) d) {fd : FuncData} (F : FunI K d_is_within ((YK K).fa 1) fd) : FnOk prog wd K mg base (L2.CX prog wd) (Lv (d + 1)) ((YK K).fa 1) fd (psOf d_is_within) (spC (YK K) (callAt T.P Fs (d + 1)) 1) := by
  exact step_fn S a F sc_is_within rfl (by kernel_rfl) (by kernel_rfl) (by kernel_rfl) fun _ _ _ _ _ _ _ _ C => w_is_within C
theorem s_is_triple (S : Sta T ds Fs prog K mg (YK K)) (a : All T ds Fs prog wd K mg base (YK K) d) {fd : FuncData} (F : FunI K d_is_triple ((YK K).fa 2) fd) : FnOk prog wd K mg base (L2.CX prog wd) (Lv (d + 1)) ((YK K).fa 2) fd (psOf d_is_triple) (spC (YK K) (callAt T.P Fs (d + 1)) 2) := by
  exact step_fn S a F sc_is_triple rfl (by kernel_rfl) (by kernel_rfl) (by kernel_rfl) fun _ _ _ _ _ _ _ _ C => w_is_triple C
theorem s_are_rights (S : Sta T ds Fs prog K mg (YK K)) (a : All T ds Fs prog wd K mg base (YK K) d) {fd : FuncData} (F : FunI K d_are_rights ((YK K).fa 3) fd) : FnOk prog wd K mg base (L2.CX prog wd) (Lv (d + 1)) ((YK K).fa 3) fd (psOf d_are_rights) (spC (YK K) (callAt T.P Fs (d + 1)) 3) := by
  exact step_fn S a F sc_are_rights rfl (by kernel_rfl) (by kernel_rfl) (by kernel_rfl) fun _ _ _ _ _ _ _ _ C => w_are_rights C
theorem s_is_member (S : Sta T ds Fs prog K mg (YK K)) (a : All T ds Fs prog wd K mg base (YK K) d) {fd : FuncData} (F : FunI K d_is_member ((YK K).fa 4) fd) : FnOk prog wd K mg base (L2.CX prog wd) (Lv (d + 1)) ((YK K).fa 4) fd (psOf d_is_member) (spC (YK K) (callAt T.P Fs (d + 1)) 4) := by
  exact step_fn S a F sc_is_member rfl (by kernel_rfl) (by kernel_rfl) (by kernel_rfl) fun _ _ _ _ _ _ _ _ C => w_is_member C
theorem s_check_member (S : Sta T ds Fs prog K mg (YK K)) (a : All T ds Fs prog wd K mg base (YK K) d) {fd : FuncData} (F : FunI K d_check_member ((YK K).fa 5) fd) : FnOk prog wd K mg base (L2.CX prog wd) (Lv (d + 1)) ((YK K).fa 5) fd (psOf d_check_member) (spC (YK K) (callAt T.P Fs (d + 1)) 5) := by
  exact step_fn S a F sc_check_member rfl (by kernel_rfl) (by kernel_rfl) (by kernel_rfl) fun _ _ _ _ _ _ _ _ C => w_check_member C
theorem s_are_kinds (S : Sta T ds Fs prog K mg (YK K)) (a : All T ds Fs prog wd K mg base (YK K) d) {fd : FuncData} (F : FunI K d_are_kinds ((YK K).fa 6) fd) : FnOk prog wd K mg base (L2.CX prog wd) (Lv (d + 1)) ((YK K).fa 6) fd (psOf d_are_kinds) (spC (YK K) (callAt T.P Fs (d + 1)) 6) := by
  exact step_fn S a F sc_are_kinds rfl (by kernel_rfl) (by kernel_rfl) (by kernel_rfl) fun _ _ _ _ _ _ _ _ C => w_are_kinds C
theorem s_is_handle (S : Sta T ds Fs prog K mg (YK K)) (a : All T ds Fs prog wd K mg base (YK K) d) {fd : FuncData} (F : FunI K d_is_handle ((YK K).fa 7) fd) : FnOk prog wd K mg base (L2.CX prog wd) (Lv (d + 1)) ((YK K).fa 7) fd (psOf d_is_handle) (spC (YK K) (callAt T.P Fs (d + 1)) 7) := by
  exact step_fn S a F sc_is_handle rfl (by kernel_rfl) (by kernel_rfl) (by kernel_rfl) fun _ _ _ _ _ _ _ _ C => w_is_handle C
theorem s_Store___init__ (S : Sta T ds Fs prog K mg (YK K)) (a : All T ds Fs prog wd K mg base (YK K) d) {fd : FuncData} (F : FunI K d_Store___init__ ((YK K).fa 8) fd) : FnOk prog wd K mg base (L2.CX prog wd) (Lv (d + 1)) ((YK K).fa 8) fd (psOf d_Store___init__) (spC (YK K) (callAt T.P Fs (d + 1)) 8) := by
  exact step_fn S a F sc_Store___init__ rfl (by kernel_rfl) (by kernel_rfl) (by kernel_rfl) fun _ _ _ _ _ _ _ _ C => w_Store___init__ C
theorem s_Store_fill (S : Sta T ds Fs prog K mg (YK K)) (a : All T ds Fs prog wd K mg base (YK K) d) {fd : FuncData} (F : FunI K d_Store_fill ((YK K).fa 9) fd) : FnOk prog wd K mg base (L2.CX prog wd) (Lv (d + 1)) ((YK K).fa 9) fd (psOf d_Store_fill) (spC (YK K) (callAt T.P Fs (d + 1)) 9) := by
  exact step_fn S a F sc_Store_fill rfl (by kernel_rfl) (by kernel_rfl) (by kernel_rfl) fun _ _ _ _ _ _ _ _ C => w_Store_fill C
theorem s_Store___eq__ (S : Sta T ds Fs prog K mg (YK K)) (a : All T ds Fs prog wd K mg base (YK K) d) {fd : FuncData} (F : FunI K d_Store___eq__ ((YK K).fa 10) fd) : FnOk prog wd K mg base (L2.CX prog wd) (Lv (d + 1)) ((YK K).fa 10) fd (psOf d_Store___eq__) (spC (YK K) (callAt T.P Fs (d + 1)) 10) := by
  exact step_fn S a F sc_Store___eq__ rfl (by kernel_rfl) (by kernel_rfl) (by kernel_rfl) fun _ _ _ _ _ _ _ _ C => w_Store___eq__ C
theorem s_rights_in (S : Sta T ds Fs prog K mg (YK K)) (a : All T ds Fs prog wd K mg base (YK K) d) {fd : FuncData} (F : FunI K d_rights_in ((YK K).fa 11) fd) : FnOk prog wd K mg base (L2.CX prog wd) (Lv (d + 1)) ((YK K).fa 11) fd (psOf d_rights_in) (spC (YK K) (callAt T.P Fs (d + 1)) 11) := by
  exact step_fn S a F sc_rights_in rfl (by kernel_rfl) (by kernel_rfl) (by kernel_rfl) fun _ _ _ _ _ _ _ _ C => w_rights_in C
theorem s_rights_of (S : Sta T ds Fs prog K mg (YK K)) (a : All T ds Fs prog wd K mg base (YK K) d) {fd : FuncData} (F : FunI K d_rights_of ((YK K).fa 12) fd) : FnOk prog wd K mg base (L2.CX prog wd) (Lv (d + 1)) ((YK K).fa 12) fd (psOf d_rights_of) (spC (YK K) (callAt T.P Fs (d + 1)) 12) := by
  exact step_fn S a F sc_rights_of rfl (by kernel_rfl) (by kernel_rfl) (by kernel_rfl) fun _ _ _ _ _ _ _ _ C => w_rights_of C
theorem s_are_some_rights (S : Sta T ds Fs prog K mg (YK K)) (a : All T ds Fs prog wd K mg base (YK K) d) {fd : FuncData} (F : FunI K d_are_some_rights ((YK K).fa 13) fd) : FnOk prog wd K mg base (L2.CX prog wd) (Lv (d + 1)) ((YK K).fa 13) fd (psOf d_are_some_rights) (spC (YK K) (callAt T.P Fs (d + 1)) 13) := by
  exact step_fn S a F sc_are_some_rights rfl (by kernel_rfl) (by kernel_rfl) (by kernel_rfl) fun _ _ _ _ _ _ _ _ C => w_are_some_rights C
theorem s_store_text (S : Sta T ds Fs prog K mg (YK K)) (a : All T ds Fs prog wd K mg base (YK K) d) {fd : FuncData} (F : FunI K d_store_text ((YK K).fa 14) fd) : FnOk prog wd K mg base (L2.CX prog wd) (Lv (d + 1)) ((YK K).fa 14) fd (psOf d_store_text) (spC (YK K) (callAt T.P Fs (d + 1)) 14) := by
  exact step_fn S a F sc_store_text rfl (by kernel_rfl) (by kernel_rfl) (by kernel_rfl) fun _ _ _ _ _ _ _ _ C => w_store_text C
theorem s_number_of (S : Sta T ds Fs prog K mg (YK K)) (a : All T ds Fs prog wd K mg base (YK K) d) {fd : FuncData} (F : FunI K d_number_of ((YK K).fa 15) fd) : FnOk prog wd K mg base (L2.CX prog wd) (Lv (d + 1)) ((YK K).fa 15) fd (psOf d_number_of) (spC (YK K) (callAt T.P Fs (d + 1)) 15) := by
  exact step_fn S a F sc_number_of rfl (by kernel_rfl) (by kernel_rfl) (by kernel_rfl) fun _ _ _ _ _ _ _ _ C => w_number_of C
theorem s_kinds_of (S : Sta T ds Fs prog K mg (YK K)) (a : All T ds Fs prog wd K mg base (YK K) d) {fd : FuncData} (F : FunI K d_kinds_of ((YK K).fa 16) fd) : FnOk prog wd K mg base (L2.CX prog wd) (Lv (d + 1)) ((YK K).fa 16) fd (psOf d_kinds_of) (spC (YK K) (callAt T.P Fs (d + 1)) 16) := by
  exact step_fn S a F sc_kinds_of rfl (by kernel_rfl) (by kernel_rfl) (by kernel_rfl) fun _ _ _ _ _ _ _ _ C => w_kinds_of C
theorem s_handle_of (S : Sta T ds Fs prog K mg (YK K)) (a : All T ds Fs prog wd K mg base (YK K) d) {fd : FuncData} (F : FunI K d_handle_of ((YK K).fa 17) fd) : FnOk prog wd K mg base (L2.CX prog wd) (Lv (d + 1)) ((YK K).fa 17) fd (psOf d_handle_of) (spC (YK K) (callAt T.P Fs (d + 1)) 17) := by
  exact step_fn S a F sc_handle_of rfl (by kernel_rfl) (by kernel_rfl) (by kernel_rfl) fun _ _ _ _ _ _ _ _ C => w_handle_of C
theorem s_lines_read (S : Sta T ds Fs prog K mg (YK K)) (a : All T ds Fs prog wd K mg base (YK K) d) {fd : FuncData} (F : FunI K d_lines_read ((YK K).fa 18) fd) : FnOk prog wd K mg base (L2.CX prog wd) (Lv (d + 1)) ((YK K).fa 18) fd (psOf d_lines_read) (spC (YK K) (callAt T.P Fs (d + 1)) 18) := by
  exact step_fn S a F sc_lines_read rfl (by kernel_rfl) (by kernel_rfl) (by kernel_rfl) fun _ _ _ _ _ _ _ _ C => w_lines_read C
theorem s_read_store (S : Sta T ds Fs prog K mg (YK K)) (a : All T ds Fs prog wd K mg base (YK K) d) {fd : FuncData} (F : FunI K d_read_store ((YK K).fa 19) fd) : FnOk prog wd K mg base (L2.CX prog wd) (Lv (d + 1)) ((YK K).fa 19) fd (psOf d_read_store) (spC (YK K) (callAt T.P Fs (d + 1)) 19) := by
  exact step_fn S a F sc_read_store rfl (by kernel_rfl) (by kernel_rfl) (by kernel_rfl) fun _ _ _ _ _ _ _ _ C => w_read_store C
theorem s__law_hand (S : Sta T ds Fs prog K mg (YK K)) (a : All T ds Fs prog wd K mg base (YK K) d) {fd : FuncData} (F : FunI K d__law_hand ((YK K).fa 20) fd) : FnOk prog wd K mg base (L2.CX prog wd) (Lv (d + 1)) ((YK K).fa 20) fd (psOf d__law_hand) (spC (YK K) (callAt T.P Fs (d + 1)) 20) := by
  exact step_fn S a F sc__law_hand rfl (by kernel_rfl) (by kernel_rfl) (by kernel_rfl) fun _ _ _ _ _ _ _ _ C => w__law_hand C
theorem s__law_draw (S : Sta T ds Fs prog K mg (YK K)) (a : All T ds Fs prog wd K mg base (YK K) d) {fd : FuncData} (F : FunI K d__law_draw ((YK K).fa 21) fd) : FnOk prog wd K mg base (L2.CX prog wd) (Lv (d + 1)) ((YK K).fa 21) fd (psOf d__law_draw) (spC (YK K) (callAt T.P Fs (d + 1)) 21) := by
  exact step_fn S a F sc__law_draw rfl (by kernel_rfl) (by kernel_rfl) (by kernel_rfl) fun _ _ _ _ _ _ _ _ C => w__law_draw C
theorem s__law_any (S : Sta T ds Fs prog K mg (YK K)) (a : All T ds Fs prog wd K mg base (YK K) d) {fd : FuncData} (F : FunI K d__law_any ((YK K).fa 22) fd) : FnOk prog wd K mg base (L2.CX prog wd) (Lv (d + 1)) ((YK K).fa 22) fd (psOf d__law_any) (spC (YK K) (callAt T.P Fs (d + 1)) 22) := by
  exact step_fn S a F sc__law_any rfl (by kernel_rfl) (by kernel_rfl) (by kernel_rfl) fun _ _ _ _ _ _ _ _ C => w__law_any C
theorem s__law_some_rights (S : Sta T ds Fs prog K mg (YK K)) (a : All T ds Fs prog wd K mg base (YK K) d) {fd : FuncData} (F : FunI K d__law_some_rights ((YK K).fa 23) fd) : FnOk prog wd K mg base (L2.CX prog wd) (Lv (d + 1)) ((YK K).fa 23) fd (psOf d__law_some_rights) (spC (YK K) (callAt T.P Fs (d + 1)) 23) := by
  exact step_fn S a F sc__law_some_rights rfl (by kernel_rfl) (by kernel_rfl) (by kernel_rfl) fun _ _ _ _ _ _ _ _ C => w__law_some_rights C
theorem s__law_is_plain (S : Sta T ds Fs prog K mg (YK K)) (a : All T ds Fs prog wd K mg base (YK K) d) {fd : FuncData} (F : FunI K d__law_is_plain ((YK K).fa 24) fd) : FnOk prog wd K mg base (L2.CX prog wd) (Lv (d + 1)) ((YK K).fa 24) fd (psOf d__law_is_plain) (spC (YK K) (callAt T.P Fs (d + 1)) 24) := by
  exact step_fn S a F sc__law_is_plain rfl (by kernel_rfl) (by kernel_rfl) (by kernel_rfl) fun _ _ _ _ _ _ _ _ C => w__law_is_plain C
theorem s__law_is_store (S : Sta T ds Fs prog K mg (YK K)) (a : All T ds Fs prog wd K mg base (YK K) d) {fd : FuncData} (F : FunI K d__law_is_store ((YK K).fa 25) fd) : FnOk prog wd K mg base (L2.CX prog wd) (Lv (d + 1)) ((YK K).fa 25) fd (psOf d__law_is_store) (spC (YK K) (callAt T.P Fs (d + 1)) 25) := by
  exact step_fn S a F sc__law_is_store rfl (by kernel_rfl) (by kernel_rfl) (by kernel_rfl) fun _ _ _ _ _ _ _ _ C => w__law_is_store C
theorem s__law_rows (S : Sta T ds Fs prog K mg (YK K)) (a : All T ds Fs prog wd K mg base (YK K) d) {fd : FuncData} (F : FunI K d__law_rows ((YK K).fa 26) fd) : FnOk prog wd K mg base (L2.CX prog wd) (Lv (d + 1)) ((YK K).fa 26) fd (psOf d__law_rows) (spC (YK K) (callAt T.P Fs (d + 1)) 26) := by
  exact step_fn S a F sc__law_rows rfl (by kernel_rfl) (by kernel_rfl) (by kernel_rfl) fun _ _ _ _ _ _ _ _ C => w__law_rows C
theorem s__law_part (S : Sta T ds Fs prog K mg (YK K)) (a : All T ds Fs prog wd K mg base (YK K) d) {fd : FuncData} (F : FunI K d__law_part ((YK K).fa 27) fd) : FnOk prog wd K mg base (L2.CX prog wd) (Lv (d + 1)) ((YK K).fa 27) fd (psOf d__law_part) (spC (YK K) (callAt T.P Fs (d + 1)) 27) := by
  exact step_fn S a F sc__law_part rfl (by kernel_rfl) (by kernel_rfl) (by kernel_rfl) fun _ _ _ _ _ _ _ _ C => w__law_part C
theorem s__law_told (S : Sta T ds Fs prog K mg (YK K)) (a : All T ds Fs prog wd K mg base (YK K) d) {fd : FuncData} (F : FunI K d__law_told ((YK K).fa 28) fd) : FnOk prog wd K mg base (L2.CX prog wd) (Lv (d + 1)) ((YK K).fa 28) fd (psOf d__law_told) (spC (YK K) (callAt T.P Fs (d + 1)) 28) := by
  exact step_fn S a F sc__law_told rfl (by kernel_rfl) (by kernel_rfl) (by kernel_rfl) fun _ _ _ _ _ _ _ _ C => w__law_told C
theorem s__law_written (S : Sta T ds Fs prog K mg (YK K)) (a : All T ds Fs prog wd K mg base (YK K) d) {fd : FuncData} (F : FunI K d__law_written ((YK K).fa 29) fd) : FnOk prog wd K mg base (L2.CX prog wd) (Lv (d + 1)) ((YK K).fa 29) fd (psOf d__law_written) (spC (YK K) (callAt T.P Fs (d + 1)) 29) := by
  exact step_fn S a F sc__law_written rfl (by kernel_rfl) (by kernel_rfl) (by kernel_rfl) fun _ _ _ _ _ _ _ _ C => w__law_written C
theorem s__law_is_right (S : Sta T ds Fs prog K mg (YK K)) (a : All T ds Fs prog wd K mg base (YK K) d) (TB : ∀ p ∈ tt, TabB base mg (He.cT K p.1).1 (He.cT K p.1).2) {fd : FuncData} (F : FunI K d__law_is_right ((YK K).fa 30) fd) : FnOk prog wd K mg base (L2.CX prog wd) (Lv (d + 1)) ((YK K).fa 30) fd (psOf d__law_is_right) (spC (YK K) (callAt T.P Fs (d + 1)) 30) := by
  refine step_fn S a F sc__law_is_right rfl (by kernel_rfl) (by kernel_rfl) (by kernel_rfl) fun cdv A outer s H E hcd lk C => ?_
  obtain ⟨oc, od, dV, kV, doc, pm, an, ct, osl, lk⟩ := lk
  obtain ⟨cc, rfl⟩ := He.codeIn_ref hcd
  have e : He.codeOf K ("_law_is_right", none) = cc := He.codeOf_eq (p := ("_law_is_right", none)) lk rfl
  have tb := TB _ (List.mem_of_getElem? (i := 0) rfl)
  refine w__law_is_right (TT := tt.map fun p => ((He.cT K p.1).2, p.2)) (PP := (He.cT K ("_law_is_right", none)).2) (cc := cc) (by rw [← e]; exact tb) rfl (List.mem_map.mpr ⟨_, List.mem_of_getElem? (i := 0) rfl, rfl⟩) (fun p hp _ => ?_) (fun _ => Iff.rfl) rfl rfl C
  obtain ⟨q, hq, rfl⟩ := List.mem_map.mp hp
  rw [List.mem_singleton.mp hq]
theorem s_law (S : Sta T ds Fs prog K mg (YK K)) (a : All T ds Fs prog wd K mg base (YK K) d) {fd : FuncData} (F : FunI K d_law ((YK K).fa 31) fd) : FnOk prog wd K mg base (L2.CX prog wd) (Lv (d + 1)) ((YK K).fa 31) fd (psOf d_law) (spC (YK K) (callAt T.P Fs (d + 1)) 31) := by
  exact step_fn S a F sc_law rfl (by kernel_rfl) (by kernel_rfl) (by kernel_rfl) fun _ _ _ _ _ _ _ _ C => w_law C
theorem r__law_is_right_lam0 (S : Sta T ds Fs prog K mg (YK K)) (a : All T ds Fs prog wd K mg base (YK K) d) : CloRun prog wd K mg base (YK K) (callAt T.P Fs (d + 1)) (Lv (d + 1)) 32 := step_lam (N := N__law_is_right_lam0) (ps := []) S a rfl ns__law_is_right_lam0 (by kernel_rfl) rfl (by kernel_rfl) (by kernel_rfl) (by kernel_rfl) (fun _ _ _ _ _ us hl => match us, hl with | [], _ => rfl) fun _ _ _ _ _ _ _ _ C => v__law_is_right_lam0 C
theorem r__law_is_right_lam1 (S : Sta T ds Fs prog K mg (YK K)) (a : All T ds Fs prog wd K mg base (YK K) d) : CloRun prog wd K mg base (YK K) (callAt T.P Fs (d + 1)) (Lv (d + 1)) 33 := step_lam (N := N__law_is_right_lam1) (ps := []) S a rfl ns__law_is_right_lam1 (by kernel_rfl) rfl (by kernel_rfl) (by kernel_rfl) (by kernel_rfl) (fun _ _ _ _ _ us hl => match us, hl with | [], _ => rfl) fun _ _ _ _ _ _ _ _ C => v__law_is_right_lam1 C
theorem nf_in {i : Nat} {n : Nf} (h : nfT i = some n) : ∃ j : Nat, i = 32 + j ∧ nfs[j]? = some n := by
  unfold nfT at h
  split at h
  · cases h
  · exact ⟨i - 32, by omega, h⟩
theorem stepAll (S : Sta T ds Fs prog K mg (YK K)) (a : All T ds Fs prog wd K mg base (YK K) d) (TB : ∀ p ∈ tt, TabB base mg (He.cT K p.1).1 (He.cT K p.1).2) : All T ds Fs prog wd K mg base (YK K) (d + 1) := by
  refine ⟨fun i dd fd h F => ?_, fun i n h => ?_⟩
  · match i, h, F with
    | 0, h, F =>
      cases (show some d_is_integer = some dd from h)
      exact s_is_integer S a F
    | 1, h, F =>
      cases (show some d_is_within = some dd from h)
      exact s_is_within S a F
    | 2, h, F =>
      cases (show some d_is_triple = some dd from h)
      exact s_is_triple S a F
    | 3, h, F =>
      cases (show some d_are_rights = some dd from h)
      exact s_are_rights S a F
    | 4, h, F =>
      cases (show some d_is_member = some dd from h)
      exact s_is_member S a F
    | 5, h, F =>
      cases (show some d_check_member = some dd from h)
      exact s_check_member S a F
    | 6, h, F =>
      cases (show some d_are_kinds = some dd from h)
      exact s_are_kinds S a F
    | 7, h, F =>
      cases (show some d_is_handle = some dd from h)
      exact s_is_handle S a F
    | 8, h, F =>
      cases (show some d_Store___init__ = some dd from h)
      exact s_Store___init__ S a F
    | 9, h, F =>
      cases (show some d_Store_fill = some dd from h)
      exact s_Store_fill S a F
    | 10, h, F =>
      cases (show some d_Store___eq__ = some dd from h)
      exact s_Store___eq__ S a F
    | 11, h, F =>
      cases (show some d_rights_in = some dd from h)
      exact s_rights_in S a F
    | 12, h, F =>
      cases (show some d_rights_of = some dd from h)
      exact s_rights_of S a F
    | 13, h, F =>
      cases (show some d_are_some_rights = some dd from h)
      exact s_are_some_rights S a F
    | 14, h, F =>
      cases (show some d_store_text = some dd from h)
      exact s_store_text S a F
    | 15, h, F =>
      cases (show some d_number_of = some dd from h)
      exact s_number_of S a F
    | 16, h, F =>
      cases (show some d_kinds_of = some dd from h)
      exact s_kinds_of S a F
    | 17, h, F =>
      cases (show some d_handle_of = some dd from h)
      exact s_handle_of S a F
    | 18, h, F =>
      cases (show some d_lines_read = some dd from h)
      exact s_lines_read S a F
    | 19, h, F =>
      cases (show some d_read_store = some dd from h)
      exact s_read_store S a F
    | 20, h, F =>
      cases (show some d__law_hand = some dd from h)
      exact s__law_hand S a F
    | 21, h, F =>
      cases (show some d__law_draw = some dd from h)
      exact s__law_draw S a F
    | 22, h, F =>
      cases (show some d__law_any = some dd from h)
      exact s__law_any S a F
    | 23, h, F =>
      cases (show some d__law_some_rights = some dd from h)
      exact s__law_some_rights S a F
    | 24, h, F =>
      cases (show some d__law_is_plain = some dd from h)
      exact s__law_is_plain S a F
    | 25, h, F =>
      cases (show some d__law_is_store = some dd from h)
      exact s__law_is_store S a F
    | 26, h, F =>
      cases (show some d__law_rows = some dd from h)
      exact s__law_rows S a F
    | 27, h, F =>
      cases (show some d__law_part = some dd from h)
      exact s__law_part S a F
    | 28, h, F =>
      cases (show some d__law_told = some dd from h)
      exact s__law_told S a F
    | 29, h, F =>
      cases (show some d__law_written = some dd from h)
      exact s__law_written S a F
    | 30, h, F =>
      cases (show some d__law_is_right = some dd from h)
      exact s__law_is_right S a TB F
    | 31, h, F =>
      cases (show some d_law = some dd from h)
      exact s_law S a F
    | k + 32, h, F =>
      have z : ([] : List He.DefD)[k]? = some dd := h
      simp at z
  · obtain ⟨j, rfl, h2⟩ := nf_in h
    match j, h2 with
    | 0, h => exact r__law_is_right_lam0 S a
    | 1, h => exact r__law_is_right_lam1 S a
    | k + 2, h =>
      have z : ([] : List Nf)[k]? = some n := h
      simp at z
end
theorem prn : Prn tl hfl nfT tt ds es Fs PySem.Challenge.pw_handles_k65_whole_stores_read where
  bd := fun K i dd fd h F => by
    match i, h, F with
    | 0, h, F =>
      cases (show some d_is_integer = some dd from h)
      exact bd_is_integer F
    | 1, h, F =>
      cases (show some d_is_within = some dd from h)
      exact bd_is_within F
    | 2, h, F =>
      cases (show some d_is_triple = some dd from h)
      exact bd_is_triple F
    | 3, h, F =>
      cases (show some d_are_rights = some dd from h)
      exact bd_are_rights F
    | 4, h, F =>
      cases (show some d_is_member = some dd from h)
      exact bd_is_member F
    | 5, h, F =>
      cases (show some d_check_member = some dd from h)
      exact bd_check_member F
    | 6, h, F =>
      cases (show some d_are_kinds = some dd from h)
      exact bd_are_kinds F
    | 7, h, F =>
      cases (show some d_is_handle = some dd from h)
      exact bd_is_handle F
    | 8, h, F =>
      cases (show some d_Store___init__ = some dd from h)
      exact bd_Store___init__ F
    | 9, h, F =>
      cases (show some d_Store_fill = some dd from h)
      exact bd_Store_fill F
    | 10, h, F =>
      cases (show some d_Store___eq__ = some dd from h)
      exact bd_Store___eq__ F
    | 11, h, F =>
      cases (show some d_rights_in = some dd from h)
      exact bd_rights_in F
    | 12, h, F =>
      cases (show some d_rights_of = some dd from h)
      exact bd_rights_of F
    | 13, h, F =>
      cases (show some d_are_some_rights = some dd from h)
      exact bd_are_some_rights F
    | 14, h, F =>
      cases (show some d_store_text = some dd from h)
      exact bd_store_text F
    | 15, h, F =>
      cases (show some d_number_of = some dd from h)
      exact bd_number_of F
    | 16, h, F =>
      cases (show some d_kinds_of = some dd from h)
      exact bd_kinds_of F
    | 17, h, F =>
      cases (show some d_handle_of = some dd from h)
      exact bd_handle_of F
    | 18, h, F =>
      cases (show some d_lines_read = some dd from h)
      exact bd_lines_read F
    | 19, h, F =>
      cases (show some d_read_store = some dd from h)
      exact bd_read_store F
    | 20, h, F =>
      cases (show some d__law_hand = some dd from h)
      exact bd__law_hand F
    | 21, h, F =>
      cases (show some d__law_draw = some dd from h)
      exact bd__law_draw F
    | 22, h, F =>
      cases (show some d__law_any = some dd from h)
      exact bd__law_any F
    | 23, h, F =>
      cases (show some d__law_some_rights = some dd from h)
      exact bd__law_some_rights F
    | 24, h, F =>
      cases (show some d__law_is_plain = some dd from h)
      exact bd__law_is_plain F
    | 25, h, F =>
      cases (show some d__law_is_store = some dd from h)
      exact bd__law_is_store F
    | 26, h, F =>
      cases (show some d__law_rows = some dd from h)
      exact bd__law_rows F
    | 27, h, F =>
      cases (show some d__law_part = some dd from h)
      exact bd__law_part F
    | 28, h, F =>
      cases (show some d__law_told = some dd from h)
      exact bd__law_told F
    | 29, h, F =>
      cases (show some d__law_written = some dd from h)
      exact bd__law_written F
    | 30, h, F =>
      cases (show some d__law_is_right = some dd from h)
      exact bd__law_is_right F
    | 31, h, F =>
      cases (show some d_law = some dd from h)
      exact bd_law F
    | k + 32, h, F =>
      have z : ([] : List He.DefD)[k]? = some dd := h
      simp at z
  at_ := fun i dd h => by
    have e : ds.map (·.at_) = tl.fns := by kernel_rfl
    have z : (ds.map (·.at_))[i]? = some dd.at_ := by rw [List.getElem?_map, h]; rfl
    rw [← e]
    exact z
  len := by kernel_rfl
  out := fun i fn h n => by
    unfold nfT at n
    split at n
    · assumption
    · rename_i q
      have e : nfs.length = 2 := rfl
      have l1 := (List.getElem?_eq_some_iff.mp h).1
      have l2 := List.getElem?_eq_none_iff.mp n
      simp at l1
      omega
  nn := fun i h => by
    unfold nfT
    rw [if_pos (show i < 32 from h)]
  er0 := fun j c h => by
    match j, h with
    | 0, h =>
      cases (show some 2 = some c from h)
      exact ⟨_, List.mem_of_getElem? (i := 1) rfl, rfl, fun K mg E I => ⟨⟨_, _, _, _, _, _, _, _, _, _, _, _, E, I, txt_of (l := ["self"]) (by kernel_rfl) rfl (List.mem_cons_self) (fun _ => ⟨_, rfl⟩) (fun _ => rfl) (fun us _ _ _ _ _ _ _ _ hl => match us, hl with | [_], _ => rfl), rfl⟩, rfl⟩⟩
    | k + 1, h =>
      have z : ([] : List Nat)[k]? = some c := h
      simp at z
  er1 := fun j c f h => by
    match j, h with
    | 0, h =>
      cases (show some (1, 0) = some (c, f) from h)
      exact ⟨_, List.mem_of_getElem? (i := 0) rfl, rfl, fun K mg ok E I => ⟨⟨_, _, _, _, _, _, _, _, _, _, _, _, _, _, _, _, E, I, txt_of (l := ["self", "part"]) (by kernel_rfl) rfl (List.mem_cons_self) (fun _ => ⟨_, rfl⟩) (fun _ => rfl) (fun us _ _ _ _ _ _ _ _ hl => match us, hl with | [_, _], _ => rfl), rfl, (by show ("part" : Str) ≠ "self"; decide +kernel), (by show (("part" : Str) == ("__debug__" : Str)) = false; decide +kernel), by kernel_rfl, by kernel_rfl, er_set (c := 1) ok rfl, er_no (c := 1) (f := 0) (x := "part") ok rfl rfl, fun _ => rfl⟩, rfl⟩⟩
    | 1, h =>
      cases (show some (3, 1) = some (c, f) from h)
      exact ⟨_, List.mem_of_getElem? (i := 2) rfl, rfl, fun K mg ok E I => ⟨⟨_, _, _, _, _, _, _, _, _, _, _, _, _, _, _, _, E, I, txt_of (l := ["self", "line"]) (by kernel_rfl) rfl (List.mem_cons_self) (fun _ => ⟨_, rfl⟩) (fun _ => rfl) (fun us _ _ _ _ _ _ _ _ hl => match us, hl with | [_, _], _ => rfl), rfl, (by show ("line" : Str) ≠ "self"; decide +kernel), (by show (("line" : Str) == ("__debug__" : Str)) = false; decide +kernel), by kernel_rfl, by kernel_rfl, er_set (c := 3) ok rfl, er_no (c := 3) (f := 1) (x := "line") ok rfl rfl, fun _ => rfl⟩, rfl⟩⟩
    | k + 2, h =>
      have z : ([] : List (Nat × Nat))[k]? = some (c, f) := h
      simp at z
  sup := ⟨15, by kernel_rfl⟩
  top := by kernel_rfl
end K65
end

section
set_option maxRecDepth 100000
set_option maxHeartbeats 4000000
namespace K65
open PySem PySem.Spec PyProof.Rows L2 LamX NdefX Pv
/-! ### the row -/
abbrev R : PySem.W.OpenRow := PySem.W.OpenLaw.row PySem.Challenge.rw_handles_k65_whole_stores_read
def names0 : List PySem.Str := ["is_integer", "is_within", "is_triple", "are_rights", "is_member", "check_member", "are_kinds", "is_handle", "rights_in", "rights_of", "are_some_rights", "store_text", "number_of", "kinds_of", "handle_of", "lines_read", "read_store", "_law_hand", "_law_draw", "_law_any", "_law_some_rights", "_law_is_plain", "_law_is_store", "_law_rows", "_law_part", "_law_told", "_law_written", "_law_is_right", "HandleError", "BadStore"]
def names1 : List PySem.Str := ["NoMember", "BadText", "Store", "RIGHTS", "KINDS", "MOST_MEMBERS", "MOST_HANDLES", "MOST_FIGURES", "FIGURES"]
def names : List PySem.Str := names0 ++ names1
theorem hno : ds.all (fun d => d.dfl.isEmpty && d.kwd.isEmpty) = true := by kernel_rfl
abbrev hk : PySem.W.Hook := hookP 5 tl PySem.Challenge.pw_handles_k65_whole_stores_read ds es (tt.map (·.1)) hno
def ob (s : PySem.W.SharedT) : AlP := obsP 5 tl PySem.Challenge.pw_handles_k65_whole_stores_read ds es (tt.map (·.1)) (HandSHeadRun.getT s)
theorem ob_eq (s : PySem.W.SharedT) : ob s = hk.obs s.abs := obsP_eq (HandSHeadRun.getT_eq s)
theorem run (w : World) : HandSHeadRun.RunEq R (PySem.W.view R.prog [45]) hk ob 4000 names w := by
  intro os
  kernel_rfl
def LawIs : Prop := ∀ (ns : List Int) (sc : D), ns.length ≤ 63 → (∀ z ∈ ns, PySem.Builtin.Int.intBits z ≤ 1048576) → IsScr sc ns → callAt tl.P Fs 20 31 [sc] [] (fun r _ => r = .bl true) fun _ _ => False
open PySem PySem.W PySem.Calls PyProof.Rows
theorem row_holds (law : LawIs) : PySem.Challenge.rw_handles_k65_whole_stores_read.Holds := by
  w_on; o_law
  refine HandSHeadRun.head_any (r := OpenLaw.row PySem.Challenge.rw_handles_k65_whole_stores_read) (q := view (OpenLaw.row PySem.Challenge.rw_handles_k65_whole_stores_read).prog [45]) (H := hk) (ob := ob) (M := 4000) (loose := names) (d := HandSHeadRun.topDef (OpenLaw.row PySem.Challenge.rw_handles_k65_whole_stores_read).prog 45) (kwd := []) ob_eq (by kernel_rfl) (fun s => by kernel_rfl) run (by kernel_rfl) (by kernel_rfl) (by kernel_rfl) (by rfl) (by first | assumption | decide +kernel) (by decide +kernel) ⟨rfl, rfl, rfl, rfl, rfl, by decide +kernel⟩ ?hw ?hc
  case hw => w_witness2
  case hc =>
    refine LamX.walk_ofTsE (l := PySem.Challenge.rw_handles_k65_whole_stores_read) (n := 63) (k := Lv 20) (x := "script") (CX := fun w => L2.CX PySem.Challenge.pw_handles_k65_whole_stores_read w) rfl (by decide) (by kernel_rfl) ⟨rfl, by decide, by decide⟩ ?F ?X
    case X =>
      intro w H s e s2 c
      obtain ⟨_, _, _, _, _, _, _, _, _, _, _, _, z⟩ := c
      exact z
    intro w mg fa h Y G hmg0
    obtain ⟨K, KX, c⟩ := Y
    have fc := facts_of (hf := hfl) (nf := nfT) (tt := tt) KX G c.ok
    have e : (HandSHeadRun.topDef (OpenLaw.row PySem.Challenge.rw_handles_k65_whole_stores_read).prog 45).name = ("law" : PySem.Str) := by kernel_rfl
    rw [e] at hmg0
    have e2 := hmg0.symm.trans (fc.gfn 31 "law" (by kernel_rfl)).1
    injection e2 with e2
    injection e2 with e2
    exact ⟨K, KX, lawAt_of (d := 20) (i := 31) (dd := d_law) prn KX G c rfl e2.symm p_law (fun _ _ _ _ _ _ us hl => match us, hl with | [_], _ => rfl) (fun base d G2 TB S a => stepAll S a TB) law⟩
end K65
end

section
set_option maxRecDepth 100000
set_option maxHeartbeats 4000000
namespace K65
open Pv
theorem call_at {d i : Nat} {l : List D} {h : Hm} {Q : QD} {X : QX} {f : Fn} (e : Fs i = some f) (ht : f.tr = false) (hl : l.length = f.params) (q : dSs tl.P (callI tl.P Fs d) f.body { nx := fun _ h' => Q .non h', rt := Q, ex := fun _ e h' => X e h' } (l.map some ++ List.replicate (f.slots - l.length) none) h) : callI tl.P Fs (d + 1) i l h Q X :=
  call_fl e ht hl q
theorem loop_map {α : Type} {step : D → List D → Hm → (List D → Hm → Prop) → Prop} {st : List (Nat × D)} {h : Hm} {g f : α → D} {Q : List D → Hm → Prop} (hs : still st h) : ∀ (l : List α) (acc : List D), (∀ x ∈ l, ∀ acc k, k (acc ++ [f x]) h → step (g x) acc h k) → Q (acc ++ l.map f) h → loopQ step st (l.map g) acc h Q
  | [], acc, _, q => ⟨hs, by simpa using q⟩
  | x :: l, acc, hf, q => ⟨hs, hf x List.mem_cons_self acc _ (loop_map hs l _ (fun y hy => hf y (List.mem_cons_of_mem _ hy)) (by simpa using q))⟩
theorem loop_fil {α : Type} {step : D → List D → Hm → (List D → Hm → Prop) → Prop} {st : List (Nat × D)} {h : Hm} {g f : α → D} {p : α → Bool} {Q : List D → Hm → Prop} (hs : still st h) : ∀ (l : List α) (acc : List D), (∀ x ∈ l, ∀ acc k, (if p x = true then k (acc ++ [f x]) h else k acc h) → step (g x) acc h k) → Q (acc ++ (l.filter p).map f) h → loopQ step st (l.map g) acc h Q
  | [], acc, _, q => ⟨hs, by simpa using q⟩
  | x :: l, acc, hf, q => ⟨hs, hf x List.mem_cons_self acc _ (by
      by_cases hp : p x = true
      · rw [if_pos hp]
        exact loop_fil hs l _ (fun y hy => hf y (List.mem_cons_of_mem _ hy)) (by simpa [List.filter_cons, hp] using q)
      · rw [if_neg hp]
        exact loop_fil hs l _ (fun y hy => hf y (List.mem_cons_of_mem _ hy)) (by simpa [List.filter_cons, hp] using q))⟩
theorem still_nil {h : Hm} : still [] h := fun p m => nomatch m
theorem strs_map : ∀ (l : List (List Nat)), strsOf (l.map D.str) = some l
  | [] => rfl
  | a :: l => by simp [strsOf, strs_map l]
theorem bls_map : ∀ (l : List Bool), blsOf (l.map D.bl) = some l
  | [] => rfl
  | a :: l => by simp [blsOf, bls_map l]
theorem join_nil : ∀ (l : List (List Nat)), joinL [] l = l.flatten
  | [] => rfl
  | [a] => by simp [joinL]
  | a :: b :: l => by
    have := join_nil (b :: l)
    simp only [joinL, List.append_nil, this]
    simp
theorem c_int {d : Nat} {n : Int} {h : Hm} {Q : QD} {X : QX} (q : Q (.bl true) h) : callI tl.P Fs (d + 1) 0 [.int n] h Q X := by
  refine call_at (i := 0) rfl rfl rfl ?_
  show dSs _ _ b_is_integer _ _ _
  simp only [b_is_integer, dSs, dS, dE, dEs, dEo, dM, dIt, dTests, pinQ, Bool.false_eq_true, if_false, if_true]
  repeat (first | refine ⟨_, rfl, ?_⟩ | refine ⟨rfl, ?_⟩ | rw [if_pos rfl] | (rw [if_neg (by decide)]))
  exact q
theorem c_within {d : Nat} {n a b : Int} {h : Hm} {Q : QD} {X : QX} (q : Q (.bl (decide (a ≤ n ∧ n ≤ b))) h) : callI tl.P Fs (d + 2) 1 [.int n, .int a, .int b] h Q X := by
  refine call_at (i := 1) rfl rfl rfl ?_
  show dSs _ _ b_is_within _ _ _
  simp only [b_is_within, dSs, dS, dE, dEs, dEo, dM, dIt, dTests, pinQ, Bool.false_eq_true, if_false, if_true]
  repeat (first | refine ⟨_, rfl, ?_⟩ | refine ⟨rfl, ?_⟩ | rw [if_pos rfl] | (rw [if_neg (by decide)]))
  refine c_int ?_
  repeat (first | refine ⟨_, rfl, ?_⟩ | refine ⟨rfl, ?_⟩ | rw [if_pos rfl] | (rw [if_neg (by decide)]))
  by_cases h1 : n < a
  · rw [if_neg (by simpa using h1)]
    have : decide (a ≤ n ∧ n ≤ b) = false := by simp; omega
    rwa [this] at q
  · rw [if_pos (by simpa using h1)]
    repeat (first | refine ⟨_, rfl, ?_⟩ | refine ⟨rfl, ?_⟩ | rw [if_pos rfl] | (rw [if_neg (by decide)]))
    have : decide (a ≤ n ∧ n ≤ b) = !decide (b < n) := by
      by_cases h2 : b < n
      · simp [h2]
      · simp [h2]; omega
    rwa [this] at q
theorem c_triple {d : Nat} {a b c : D} {h : Hm} {Q : QD} {X : QX} (q : Q (.bl true) h) : callI tl.P Fs (d + 1) 2 [.tup [a, b, c]] h Q X := by
  refine call_at (i := 2) rfl rfl rfl ?_
  show dSs _ _ b_is_triple _ _ _
  simp only [b_is_triple, dSs, dS, dE, dEs, dEo, dM, dIt, dTests, pinQ, Bool.false_eq_true, if_false, if_true]
  repeat (first | refine ⟨_, rfl, ?_⟩ | refine ⟨rfl, ?_⟩ | rw [if_pos rfl] | (rw [if_neg (by decide)]))
  exact q
def RG : List Nat := [103, 114, 116, 119, 120]
def rtF (s : List Nat) : List Nat := RG.filter fun c => isSub [c] s
theorem flat_one (l : List Nat) : (l.map fun c => [c]).flatten = l := by
  induction l with
  | nil => rfl
  | cons a l ih => simp [ih]
theorem sum_one (l : List Nat) : ((l.map fun c => [c]).map (·.length)).sum = l.length := by
  induction l with
  | nil => rfl
  | cons a l ih => simp only [List.map_cons, List.sum_cons, List.length_cons, ih]; simp; omega
theorem join_ok {l : List (List Nat)} {h : Hm} (hl : (l.map (·.length)).sum ≤ LINE) : dBm h .join (.str []) [.lst (l.map .str)] = some (.str l.flatten) := by
  simp [dBm, cont, strs_map, join_nil, hl]
theorem c_rights {d : Nat} {s : List Nat} {h : Hm} {Q : QD} {X : QX} (q : Q (.bl (s == rtF s)) h) : callI tl.P Fs (d + 1) 3 [.str s] h Q X := by
  refine call_at (i := 3) rfl rfl rfl ?_
  show dSs _ _ b_are_rights _ _ _
  simp only [b_are_rights, dSs, dS, dE, dEs, dEo, dM, dIt, dTests, pinQ, Bool.false_eq_true, if_false, if_true]
  repeat (first | refine ⟨_, rfl, ?_⟩ | refine ⟨rfl, ?_⟩ | rw [if_pos rfl] | (rw [if_neg (by decide)]))
  refine ⟨by decide, loop_fil (α := Nat) (g := fun c => .str [c]) (f := fun c => .str [c]) (p := fun c => isSub [c] s) still_nil RG [] (fun c _ acc k hk => ?_) ?_⟩
  · repeat (first | refine ⟨_, rfl, ?_⟩ | refine ⟨rfl, ?_⟩ | rw [if_pos rfl] | (rw [if_neg (by decide)]))
    split
    · rename_i hp
      rw [if_pos hp] at hk
      repeat (first | refine ⟨_, rfl, ?_⟩ | refine ⟨rfl, ?_⟩ | rw [if_pos rfl] | (rw [if_neg (by decide)]))
      exact hk
    · rename_i hp
      rw [if_neg hp] at hk
      exact hk
  · left
    refine ⟨.str (rtF s), ?_, ?_⟩
    · have e : (([] : List D) ++ List.map (fun c => D.str [c]) (List.filter (fun c => isSub [c] s) RG)) = ((rtF s).map fun c => [c]).map D.str := by simp [rtF]
      rw [e, join_ok, flat_one]
      have : (rtF s).length ≤ 5 := List.length_filter_le _ _
      have e : ((List.map (fun c => [c]) (rtF s)).map (·.length)).sum = (rtF s).length := sum_one _
      rw [e]
      exact Nat.le_trans this (by decide)
    · repeat (first | refine ⟨_, rfl, ?_⟩ | refine ⟨rfl, ?_⟩ | rw [if_pos rfl] | (rw [if_neg (by decide)]))
      exact q
theorem loop_inv {α : Type} {step : D → α → Hm → (α → Hm → Prop) → Prop} {st : List (Nat × D)} {Q : α → Hm → Prop} (Inv : Nat → α → Hm → Prop) : ∀ (l : List D) (n : Nat) (a : α) (h : Hm), (∀ (i : Nat) x a h k, l[i]? = some x → Inv (n + i) a h → (∀ a' h', Inv (n + i + 1) a' h' → k a' h') → still st h ∧ step x a h k) → (∀ a h, Inv (n + l.length) a h → still st h ∧ Q a h) → Inv n a h → loopQ step st l a h Q
  | [], n, a, h, _, q, i => q a h i
  | x :: l, n, a, h, f, q, i => by
    have z := f 0 x a h (fun a' h' => loopQ step st l a' h' Q) rfl i fun a' h' i' => loop_inv Inv l (n + 1) a' h' (fun j y b g k e ib kk => f (j + 1) y b g k (by simpa using e) (by rw [show n + (j + 1) = n + 1 + j by omega]; exact ib) (fun b' g' w => kk b' g' (by rw [show n + 1 + j + 1 = n + (j + 1) + 1 by omega]; exact w))) (fun b g w => q b g (by rw [List.length_cons, show n + (l.length + 1) = n + 1 + l.length by omega]; exact w)) i'
    exact z
def Ks (k : List Nat) : Prop := ∀ c ∈ k, c = 68 ∨ c = 84
theorem c_kinds {d : Nat} {ks : List Nat} {m : Int} {h : Hm} {Q : QD} {X : QX} (hk : Ks ks) (hl : ks.length ≤ LINE) (q : Q (.bl (decide (1 ≤ ks.length ∧ (ks.length : Int) ≤ m))) h) : callI tl.P Fs (d + 1) 6 [.str ks, .int m] h Q X := by
  refine call_at (i := 6) rfl rfl rfl ?_
  show dSs _ _ b_are_kinds _ _ _
  simp only [b_are_kinds, dSs, dS, dE, dEs, dEo, dM, dIt, dTests, pinQ, Bool.false_eq_true, if_false, if_true]
  repeat (first | refine ⟨_, rfl, ?_⟩ | refine ⟨rfl, ?_⟩ | rw [if_pos rfl] | (rw [if_neg (by decide)]))
  refine ⟨.int ks.length, by simp [dBi, dLen, cont, hl], ?_⟩
  repeat (first | refine ⟨_, rfl, ?_⟩ | refine ⟨rfl, ?_⟩ | rw [if_pos rfl] | (rw [if_neg (by decide)]))
  by_cases h1 : (ks.length : Int) < 1
  · rw [if_neg (by simp; omega)]
    refine ⟨_, rfl, ?_⟩
    rw [if_neg (by decide)]
    have : decide (1 ≤ ks.length ∧ (ks.length : Int) ≤ m) = false := by simp; omega
    rwa [this] at q
  · rw [if_pos (by simp; omega)]
    repeat (first | refine ⟨_, rfl, ?_⟩ | refine ⟨rfl, ?_⟩ | rw [if_pos rfl] | (rw [if_neg (by decide)]))
    by_cases h2 : m < (ks.length : Int)
    · rw [if_neg (by simpa using h2)]
      have : decide (1 ≤ ks.length ∧ (ks.length : Int) ≤ m) = false := by simp; omega
      rwa [this] at q
    · rw [if_pos (by simpa using h2)]
      refine ⟨_, rfl, ks.map fun c => .str [c], by simp [walkD, items, cont, hl], by simpa using hl, ?_⟩
      refine loop_map (α := Nat) (g := fun c => .str [c]) (f := fun _ => .bl true) still_nil ks [] (fun c hc acc k hk2 => ?_) ?_
      · repeat (first | refine ⟨_, rfl, ?_⟩ | refine ⟨rfl, ?_⟩ | rw [if_pos rfl] | (rw [if_neg (by decide)]))
        have e : isSub [c] [68, 84] = true := by rcases hk c hc with rfl | rfl <;> decide
        rw [e]
        exact hk2
      · refine ⟨.bl true, ?_, ?_⟩
        · have e : (([] : List D) ++ List.map (fun _ => D.bl true) ks) = (ks.map fun _ => true).map D.bl := by simp
          rw [e]
          show (blsOf _).map _ = _
          rw [bls_map]
          simp
        · have : decide (1 ≤ ks.length ∧ (ks.length : Int) ≤ m) = true := by simp; omega
          rwa [this] at q
structure Rw where
  a : Nat
  b : Nat
  s : List Nat
def rowD (r : Rw) : D := .tup [.int r.a, .int r.b, .str r.s]
def Rt (s : List Nat) : Prop := s ≠ [] ∧ s = rtF s
def okR (n : Nat) (r : Rw) : Bool := decide (r.a < n ∧ r.b < n ∧ r.a ≠ r.b)
theorem c_handle {d n : Nat} {r : Rw} {h : Hm} {Q : QD} {X : QX} (hr : Rt r.s) (q : Q (.bl (okR n r)) h) : callI tl.P Fs (d + 3) 7 [.int n, rowD r] h Q X := by
  refine call_at (i := 7) rfl rfl rfl ?_
  show dSs _ _ b_is_handle _ _ _
  simp only [b_is_handle, dSs, dS, dE, dEs, dEo, dM, dIt, dTests, pinQ, Bool.false_eq_true, if_false, if_true]
  repeat (first | refine ⟨_, rfl, ?_⟩ | refine ⟨rfl, ?_⟩ | rw [if_pos rfl] | (rw [if_neg (by decide)]))
  refine c_triple ?_
  repeat (first | refine ⟨_, rfl, ?_⟩ | refine ⟨rfl, ?_⟩ | rw [if_pos rfl] | (rw [if_neg (by decide)]))
  refine c_within ?_
  have n1 : ((0 : Int) ≤ r.a ∧ (r.a : Int) ≤ n - 1) ↔ r.a < n := by omega
  have n2 : ((0 : Int) ≤ r.b ∧ (r.b : Int) ≤ n - 1) ↔ r.b < n := by omega
  by_cases h1 : r.a < n
  · rw [decide_eq_true (n1.mpr h1)]
    repeat (first | refine ⟨_, rfl, ?_⟩ | refine ⟨rfl, ?_⟩ | rw [if_pos rfl] | (rw [if_neg (by decide)]))
    refine c_within ?_
    by_cases h2 : r.b < n
    · rw [decide_eq_true (n2.mpr h2)]
      repeat (first | refine ⟨_, rfl, ?_⟩ | refine ⟨rfl, ?_⟩ | rw [if_pos rfl] | (rw [if_neg (by decide)]))
      by_cases h3 : r.a = r.b
      · rw [if_neg (by simp [deq, cont, h3])]
        have : okR n r = false := by simp [okR, h3]
        rwa [this] at q
      · rw [if_pos (by simp [deq, cont]; omega)]
        repeat (first | refine ⟨_, rfl, ?_⟩ | refine ⟨rfl, ?_⟩ | rw [if_pos rfl] | (rw [if_neg (by decide)]))
        refine c_rights ?_
        have e2 : (r.s == rtF r.s) = true := by rw [beq_iff_eq]; exact hr.2
        rw [e2]
        repeat (first | refine ⟨_, rfl, ?_⟩ | refine ⟨rfl, ?_⟩ | rw [if_pos rfl] | (rw [if_neg (by decide)]))
        have e3 : (r.s == []) = false := by rw [beq_eq_false_iff_ne]; exact hr.1
        show Q (.bl (!(r.s == []))) h
        rw [e3]
        have : okR n r = true := by simp [okR, h1, h2, h3]
        rwa [this] at q
    · rw [decide_eq_false (fun z => h2 (n2.mp z))]
      repeat (first | refine ⟨_, rfl, ?_⟩ | refine ⟨rfl, ?_⟩ | rw [if_pos rfl] | (rw [if_neg (by decide)]))
      have : okR n r = false := by simp [okR, h2]
      rwa [this] at q
  · rw [decide_eq_false (fun z => h1 (n1.mp z))]
    repeat (first | refine ⟨_, rfl, ?_⟩ | refine ⟨rfl, ?_⟩ | rw [if_pos rfl] | (rw [if_neg (by decide)]))
    have : okR n r = false := by simp [okR, h1]
    rwa [this] at q
/-! ### a store -/
def rowK (r : Rw) : List K × D := ([.inl r.a, .inl r.b], .str r.s)
def keyD (r : Rw) : D := .tup [.int r.a, .int r.b]
def storeF (ks : List Nat) (rows : List Rw) : List (Nat × D) := [(2, .str ks), (3, .dT (rows.map rowK)), (4, .tup (rows.map rowD))]
def lexlt (q r : Rw) : Prop := q.a < r.a ∨ (q.a = r.a ∧ q.b < r.b)
instance (q r : Rw) : Decidable (lexlt q r) := by unfold lexlt; infer_instance
def Srt (rows : List Rw) : Prop := rows.Pairwise lexlt
theorem put_new {pre : List Rw} {r : Rw} (h : ∀ q ∈ pre, lexlt q r) : put (pre.map rowK) [.inl (r.a : Int), .inl (r.b : Int)] (.str r.s) = (pre ++ [r]).map rowK := by
  unfold put
  rw [if_neg]
  · simp [rowK]
  · intro z
    rw [List.any_eq_true] at z
    obtain ⟨p, hp, e⟩ := z
    obtain ⟨q, hq, rfl⟩ := List.mem_map.mp hp
    have e := of_decide_eq_true e
    simp only [rowK] at e
    injection e with e1 e2
    injection e2 with e2
    injection e1 with e1
    injection e2 with e2
    have := h q hq
    unfold lexlt at this
    omega
theorem dset_row {pre : List Rw} {r : Rw} (h : ∀ q ∈ pre, lexlt q r) (hl : pre.length < LINE) : dSet (.dT (pre.map rowK)) (keyD r) (.str r.s) = some (.dT ((pre ++ [r]).map rowK)) := by
  have e : tkeyOf (keyD r) = some [.inl (r.a : Int), .inl (r.b : Int)] := rfl
  simp only [dSet, e, Option.bind_some]
  rw [if_pos (by simpa using hl), put_new h]
theorem loop_dict {step : D → D → Hm → (D → Hm → Prop) → Prop} {h : Hm} {g : Rw → D} {Q : D → Hm → Prop} : ∀ (l pre : List Rw), Srt (pre ++ l) → (pre ++ l).length ≤ LINE → (∀ r ∈ l, ∀ acc acc' k, dSet acc (keyD r) (.str r.s) = some acc' → k acc' h → step (g r) acc h k) → Q (.dT ((pre ++ l).map rowK)) h → loopQ step [] (l.map g) (.dT (pre.map rowK)) h Q
  | [], pre, _, _, _, q => ⟨still_nil, by simpa using q⟩
  | r :: l, pre, s, hl, f, q => by
    have hp : ∀ q ∈ pre, lexlt q r := fun q hq => (List.pairwise_append.mp s).2.2 q hq r List.mem_cons_self
    refine ⟨still_nil, f r List.mem_cons_self _ _ _ (dset_row hp (by simp at hl; omega)) ?_⟩
    refine loop_dict l (pre ++ [r]) (by simpa using s) (by simpa using hl) (fun y hy => f y (List.mem_cons_of_mem _ hy)) (by simpa using q)
theorem slt_key (q r : Rw) : slt (keyD q) (keyD r) = decide (lexlt q r) := by
  have e : slt (keyD q) (keyD r) = if deq (.int q.a) (.int r.a) = true then (if deq (.int q.b) (.int r.b) = true then false else decide ((q.b : Int) < r.b)) else decide ((q.a : Int) < r.a) := rfl
  rw [e]
  by_cases h1 : q.a = r.a
  · rw [if_pos (by simp [deq, h1])]
    by_cases h2 : q.b = r.b
    · rw [if_pos (by simp [deq, h2])]
      symm
      rw [decide_eq_false_iff_not]
      unfold lexlt
      omega
    · rw [if_neg (by simp [deq]; omega)]
      rw [decide_eq_decide]
      unfold lexlt
      omega
  · rw [if_neg (by simp [deq]; omega), decide_eq_decide]
    unfold lexlt
    omega
theorem sort_keys : ∀ {l : List Rw}, Srt l → sortD (l.map keyD) = l.map keyD
  | [], _ => rfl
  | r :: l, s => by
    obtain ⟨s1, s2⟩ := List.pairwise_cons.mp s
    show insD (keyD r) (sortD (l.map keyD)) = _
    rw [sort_keys s2]
    cases l with
    | nil => rfl
    | cons y l =>
      show (if slt (keyD y) (keyD r) then _ else _) = _
      rw [slt_key, if_neg]
      · rfl
      · have := s1 y List.mem_cons_self
        rw [decide_eq_true_eq]
        unfold lexlt at this ⊢
        omega
end K65
end

section
set_option maxRecDepth 100000
set_option maxHeartbeats 4000000
namespace K65
open Pv
theorem at_len {h : Hm} {p : Nat} {d : D} (e : h[p]? = some d) : p < h.length := (List.getElem?_eq_some_iff.mp e).1
theorem cont_ref {h : Hm} {p : Nat} {d : D} (e : h[p]? = some d) : cont h (.ref p) = d := by
  show h.getD p .non = d
  rw [List.getD_eq_getElem?_getD, e]; rfl
theorem sortable_keys (l : List Rw) : sortable (l.map keyD) = true := by
  have h1 : ∀ l : List Rw, areData (l.map keyD) = true := fun l => by
    induction l with
    | nil => rfl
    | cons r l ih => simp only [List.map_cons, areData, ih, Bool.and_true]; rfl
  unfold sortable
  rw [h1, Bool.true_and, List.all_eq_true]
  intro x hx
  rw [List.all_eq_true]
  intro y hy
  obtain ⟨a, _, rfl⟩ := List.mem_map.mp hx
  obtain ⟨b, _, rfl⟩ := List.mem_map.mp hy
  rfl
theorem look_row : ∀ {rows : List Rw}, Srt rows → ∀ r ∈ rows, look (rows.map rowK) [.inl (r.a : Int), .inl (r.b : Int)] = some (.str r.s)
  | q :: l, s, r, m => by
    obtain ⟨s1, s2⟩ := List.pairwise_cons.mp s
    show (if _ = _ then _ else _) = _
    rcases List.mem_cons.mp m with rfl | m
    · rw [if_pos rfl]
    · rw [if_neg]
      · exact look_row s2 r m
      · intro e
        have e : ([Sum.inl (q.a : Int), Sum.inl (q.b : Int)] : List K) = [.inl (r.a : Int), .inl (r.b : Int)] := e
        injection e with e1 e2
        injection e2 with e2
        injection e1 with e1
        injection e2 with e2
        have := s1 r m
        unfold lexlt at this
        omega
theorem c_fill {d p : Nat} {ks : List Nat} {rows : List Rw} {h : Hm} {Q : QD} {X : QX} (hp : h[p]? = some (.ins 4 [])) (s : Srt rows) (hr : ∀ r ∈ rows, Rt r.s) (hl : rows.length ≤ LINE) (q : Q .non (h.set p (.ins 4 (storeF ks rows)))) : callI tl.P Fs (d + 1) 9 [.ref p, .str ks, .dT (rows.map rowK)] h Q X := by
  have l := at_len hp
  refine call_at (i := 9) rfl rfl rfl ?_
  show dSs _ _ b_Store_fill _ _ _
  simp only [b_Store_fill, dSs, dS, dE, dEs, dEo, dM, dIt, dTests, pinQ, Bool.false_eq_true, if_false, if_true]
  repeat (first | refine ⟨_, rfl, ?_⟩ | refine ⟨rfl, ?_⟩ | rw [if_pos rfl] | (rw [if_neg (by decide)]))
  refine ⟨p, 4, [], rfl, hp, rfl, by decide, ?_⟩
  repeat (first | refine ⟨_, rfl, ?_⟩ | refine ⟨rfl, ?_⟩ | rw [if_pos rfl] | (rw [if_neg (by decide)]))
  have ek : (rows.map rowK).map (fun p => D.tup (p.1.map kD)) = rows.map keyD := by
    rw [List.map_map]
    rfl
  rw [ek]
  refine ⟨by simpa using hl, sortable_keys rows, ?_⟩
  rw [sort_keys s]
  refine ⟨_, rfl, by simpa using hl, ?_⟩
  refine loop_dict rows [] s hl (fun r hm acc acc' k e hk => ?_) ?_
  · refine ⟨_, rfl, _, rfl, _, rfl, .str r.s, ?_, ?_⟩
    · exact look_row s r hm
    · have e3 : (r.s == []) = false := by rw [beq_eq_false_iff_ne]; exact (hr r hm).1
      refine ⟨.bl true, ?_, true, rfl, ?_⟩
      · show some (D.bl (!(r.s == []))) = _
        rw [e3]; rfl
      · rw [if_pos rfl]
        refine ⟨_, rfl, _, rfl, _, rfl, .str r.s, look_row s r hm, ?_⟩
        exact ⟨acc', e, hk⟩
  · refine ⟨_, rfl, p, 4, _, rfl, List.getElem?_set_self l, rfl, by exact Nat.le_of_ble_eq_true rfl, _, rfl, 4, _, _, cont_ref (List.getElem?_set_self (by simpa using l)), rfl, rfl, ?_⟩
    rw [List.set_set]
    refine ⟨_, rfl, by simpa using hl, ?_⟩
    have e2 : ((([] : List Rw) ++ rows).map rowK).map (fun p => D.tup [.tup (p.1.map kD), p.2]) = rows.map fun r => .tup [keyD r, .str r.s] := by
      rw [List.nil_append, List.map_map]
      rfl
    rw [e2]
    refine loop_map (α := Rw) (g := fun r => .tup [keyD r, .str r.s]) (f := rowD) still_nil rows [] (fun r _ acc k hk => ?_) ?_
    · refine ⟨_, rfl, _, rfl, _, rfl, by exact Nat.le_of_ble_eq_true rfl, _, rfl, hk⟩
    · refine ⟨_, rfl, _, rfl, p, 4, _, rfl, List.getElem?_set_self l, rfl, by exact Nat.le_of_ble_eq_true rfl, ?_⟩
      rw [List.set_set]
      exact q
/-! ### Store(kinds, handles) -/
def badR (n : Nat) (prev : Option Rw) (r : Rw) : Bool := !(okR n r) || (match prev with
  | none => false
  | some q => !(decide (lexlt q r)))
def scan (n : Nat) : Nat → Option Rw → List Rw → Option Nat
  | _, _, [] => none
  | i, p, r :: l => if badR n p r = true then some i else scan n (i + 1) (some r) l
/-- what Store says of these things: the part that is wrong -/
def part (ks : List Nat) (rows : List Rw) : Option D :=
  if 16 < ks.length then some (.str [107, 105, 110, 100, 115])
  else if 60 < rows.length then some (.str [104, 97, 110, 100, 108, 101, 115])
  else (scan ks.length 0 none rows).map fun (i : Nat) => .int i
theorem scan_srt {n : Nat} : ∀ (l : List Rw) (i : Nat) (p : Option Rw), scan n i p l = none → Srt l ∧ (∀ r ∈ l, okR n r = true) ∧ ∀ q, p = some q → ∀ r ∈ l, lexlt q r
  | [], i, p, _ => ⟨.nil, fun r m => (nomatch m), fun q _ r m => (nomatch m)⟩
  | r :: l, i, p, e => by
    unfold scan at e
    split at e
    · cases e
    · rename_i hb
      obtain ⟨h1, h2, h3⟩ := scan_srt l (i + 1) (some r) e
      have hb2 : okR n r = true ∧ ∀ q, p = some q → lexlt q r := by
        unfold badR at hb
        rw [Bool.or_eq_true, not_or] at hb
        obtain ⟨b1, b2⟩ := hb
        refine ⟨by simpa using b1, fun q w => ?_⟩
        subst w
        simpa using b2
      refine ⟨List.pairwise_cons.mpr ⟨h3 r rfl, h1⟩, fun x hx => ?_, fun q w x hx => ?_⟩
      · rcases List.mem_cons.mp hx with rfl | hx
        · exact hb2.1
        · exact h2 x hx
      · rcases List.mem_cons.mp hx with rfl | hx
        · exact hb2.2 q w
        · have a := hb2.2 q w
          have b := h3 r rfl x hx
          unfold lexlt at *
          omega
theorem scan_cons {n i : Nat} {p : Option Rw} {r : Rw} {l : List Rw} : scan n i p (r :: l) = if badR n p r = true then some i else scan n (i + 1) (some r) l := rfl
theorem ix_nat {n i : Nat} (h : i < n) : ixOf n (i : Int) = some i := by
  unfold ixOf
  rw [if_pos (by omega), if_pos (by omega)]
  rfl
theorem dlt_key (q r : Rw) : dlt (keyD q) (keyD r) = some (decide (lexlt q r)) := by
  have e : dlt (keyD q) (keyD r) = some (if (q.a : Int) = r.a then (if (q.b : Int) = r.b then false else decide ((q.b : Int) < r.b)) else decide ((q.a : Int) < r.a)) := rfl
  rw [e]
  congr 1
  by_cases h1 : q.a = r.a
  · rw [if_pos (by omega)]
    by_cases h2 : q.b = r.b
    · rw [if_pos (by omega)]
      symm
      rw [decide_eq_false_iff_not]
      unfold lexlt
      omega
    · rw [if_neg (by omega), decide_eq_decide]
      unfold lexlt
      omega
  · rw [if_neg (by omega), decide_eq_decide]
    unfold lexlt
    omega
def prv (rows : List Rw) : Nat → Option Rw
  | 0 => none
  | i + 1 => rows[i]?
theorem enum_at : ∀ (l : List D) (n i : Nat), (enumFrom n l)[i]? = (l[i]?).map fun y => .tup [.int ((n + i : Nat) : Int), y]
  | [], n, i => by simp [enumFrom]
  | a :: l, n, 0 => by simp [enumFrom]
  | a :: l, n, i + 1 => by
    show (enumFrom (n + 1) l)[i]? = _
    rw [enum_at l (n + 1) i, show n + 1 + i = n + (i + 1) by omega]
    rfl
theorem c_init {d p : Nat} {ks : List Nat} {rows : List Rw} {h : Hm} {Q : QD} {X : QX} (hp : h[p]? = some (.ins 4 [])) (hk : Ks ks) (k1 : 1 ≤ ks.length) (kl : ks.length ≤ LINE) (hr : ∀ r ∈ rows, Rt r.s) (hl : rows.length ≤ LINE)
    (q : match part ks rows with
      | some w => X ⟨.own 1, [(0, w)]⟩ h
      | none => Q .non (h.set p (.ins 4 (storeF ks rows)))) : callI tl.P Fs (d + 4) 8 [.ref p, .str ks, .tup (rows.map rowD)] h Q X := by
  refine call_at (i := 8) rfl rfl rfl ?_
  show dSs _ _ b_Store___init__ _ _ _
  simp only [b_Store___init__, dSs, dS, dE, dEs, dEo, dM, dIt, dTests, pinQ, Bool.false_eq_true, if_false, if_true]
  repeat (first | refine ⟨_, rfl, ?_⟩ | refine ⟨rfl, ?_⟩ | rw [if_pos rfl] | (rw [if_neg (by decide)]))
  refine c_kinds hk kl ?_
  unfold part at q
  by_cases h1 : 16 < ks.length
  · rw [if_pos h1] at q
    rw [decide_eq_false (by omega)]
    repeat (first | refine ⟨_, rfl, ?_⟩ | refine ⟨rfl, ?_⟩ | rw [if_pos rfl] | (rw [if_neg (by decide)]))
    exact q
  · rw [if_neg h1] at q
    rw [decide_eq_true (by omega)]
    repeat (first | refine ⟨_, rfl, ?_⟩ | refine ⟨rfl, ?_⟩ | rw [if_pos rfl] | (rw [if_neg (by decide)]))
    by_cases h2 : 60 < rows.length
    · rw [if_pos h2] at q
      rw [if_pos (by simp; omega)]
      repeat (first | refine ⟨_, rfl, ?_⟩ | refine ⟨rfl, ?_⟩ | rw [if_pos rfl] | (rw [if_neg (by decide)]))
      exact q
    · rw [if_neg h2] at q
      rw [if_neg (by simp; omega)]
      refine ⟨_, rfl, _, rfl, ?_⟩
      refine loop_inv (fun i v h' => h' = h ∧ (∃ x3 x4, v = [some (.ref p), some (.str ks), some (.tup (rows.map rowD)), x3, x4, none, none, none]) ∧ scan ks.length i (prv rows i) (rows.drop i) = scan ks.length 0 none rows) _ 0 _ h (fun i x v h' k ei hv kk => ⟨still_nil, ?_⟩) (fun v h' hv => ⟨still_nil, ?_⟩) ⟨rfl, ⟨none, none, rfl⟩, rfl⟩
      · rw [Nat.zero_add] at hv kk
        obtain ⟨rfl, ⟨x3, x4, rfl⟩, hs⟩ := hv
        rw [enum_at, Option.map_eq_some_iff] at ei
        obtain ⟨y, ey, rfl⟩ := ei
        rw [List.getElem?_map, Option.map_eq_some_iff] at ey
        obtain ⟨r, er, rfl⟩ := ey
        have il := (List.getElem?_eq_some_iff.mp er).1
        have ed : rows.drop i = r :: rows.drop (i + 1) := by
          rw [List.drop_eq_getElem_cons il]
          rw [(List.getElem?_eq_some_iff.mp er).2]
        have rm : Rt r.s := hr r (List.mem_of_getElem? er)
        rw [ed, scan_cons] at hs
        rw [Nat.zero_add]
        refine ⟨_, rfl, _, rfl, .int ks.length, by simp [dBi, dLen, cont, kl], _, rfl, c_handle rm ?_⟩
        repeat (first | refine ⟨_, rfl, ?_⟩ | refine ⟨rfl, ?_⟩ | rw [if_pos rfl] | (rw [if_neg (by decide)]))
        have fin : badR ks.length (prv rows i) r = true → X ⟨.own 1, [(0, .int i)]⟩ h' := fun hb => by
          rw [if_pos hb] at hs
          rw [← hs] at q
          exact q
        have go : badR ks.length (prv rows i) r = false → k [some (.ref p), some (.str ks), some (.tup (rows.map rowD)), some (.int i), some (rowD r), none, none, none] h' := fun hb => by
          rw [if_neg (by rw [hb]; exact Bool.false_ne_true)] at hs
          exact kk _ _ ⟨rfl, ⟨_, _, rfl⟩, by rw [show prv rows (i + 1) = some r from er]; exact hs⟩
        cases ho : okR ks.length r with
        | false =>
          rw [if_pos (by rfl)]
          repeat (first | refine ⟨_, rfl, ?_⟩ | refine ⟨rfl, ?_⟩ | rw [if_pos rfl] | (rw [if_neg (by decide)]))
          exact fin (by unfold badR; rw [ho]; rfl)
        | true =>
          rw [if_neg (by decide)]
          refine ⟨_, rfl, _, rfl, _, rfl, ?_⟩
          cases i with
          | zero =>
            rw [if_neg (by decide)]
            repeat (first | refine ⟨_, rfl, ?_⟩ | refine ⟨rfl, ?_⟩ | rw [if_pos rfl] | (rw [if_neg (by decide)]))
            exact go (by unfold badR prv; rw [ho]; rfl)
          | succ j =>
            rw [if_pos (by simp)]
            obtain ⟨q', eq'⟩ : ∃ q', rows[j]? = some q' := ⟨_, List.getElem?_eq_getElem (by omega)⟩
            have ep : prv rows (j + 1) = some q' := eq'
            refine ⟨_, rfl, _, rfl, .tup [.int r.a, .int r.b], rfl, _, rfl, _, rfl, _, rfl, rowD q', ?_, _, rfl, .tup [.int q'.a, .int q'.b], rfl, .bl (!decide (lexlt q' r)), ?_, _, rfl, ?_⟩
            · show (ixOf (rows.map rowD).length (((j + 1 : Nat) : Int) - 1)).bind _ = _
              rw [show ((j + 1 : Nat) : Int) - 1 = (j : Int) by omega, ix_nat (by simp; omega)]
              show (rows.map rowD)[j]? = _
              rw [List.getElem?_map, eq']
              rfl
            · show Option.map (fun c => D.bl (!c)) (dlt (keyD q') (keyD r)) = _
              rw [dlt_key]
              rfl
            · by_cases hb : lexlt q' r
              · rw [decide_eq_true hb]
                repeat (first | refine ⟨_, rfl, ?_⟩ | refine ⟨rfl, ?_⟩ | rw [if_pos rfl] | (rw [if_neg (by decide)]))
                exact go (by unfold badR; rw [ho, ep]; simp [hb])
              · rw [decide_eq_false hb]
                repeat (first | refine ⟨_, rfl, ?_⟩ | refine ⟨rfl, ?_⟩ | rw [if_pos rfl] | (rw [if_neg (by decide)]))
                exact fin (by unfold badR; rw [ho, ep]; simp [hb])
      · obtain ⟨rfl, ⟨x3, x4, rfl⟩, hs⟩ := hv
        have el : (enumFrom 0 (rows.map rowD)).length = rows.length := by
          have : ∀ (l : List D) (n : Nat), (enumFrom n l).length = l.length := fun l => by
            induction l with
            | nil => intro n; rfl
            | cons a l ih => intro n; show (enumFrom (n + 1) l).length + 1 = _; rw [ih]; rfl
          rw [this]; simp
        rw [el, Nat.zero_add, List.drop_length] at hs
        have hs : scan ks.length 0 none rows = none := hs.symm
        rw [hs] at q
        obtain ⟨s1, _, _⟩ := scan_srt rows 0 none hs
        refine ⟨_, rfl, [], cont_ref hp, _, rfl, _, rfl, rows.map rowD, rfl, by simpa using hl, ?_⟩
        refine loop_dict (g := rowD) rows [] s1 hl (fun r hm acc acc' k e hk2 => ?_) ?_
        · exact ⟨_, rfl, _, rfl, _, rfl, by exact Nat.le_of_ble_eq_true rfl, _, rfl, acc', e, hk2⟩
        · exact c_fill hp s1 hr hl q
end K65
end

section
set_option maxRecDepth 100000
set_option maxHeartbeats 4000000
namespace K65
open Pv
theorem all_dig {w : List Nat} (h : ∀ c ∈ w, 48 ≤ c ∧ c ≤ 57) : ∀ c ∈ w, isSub [c] [48, 49, 50, 51, 52, 53, 54, 55, 56, 57] = true := fun c hc => by
  obtain ⟨h1, h2⟩ := h c hc
  have : ∀ k : Fin 10, isSub [48 + k.1] [48, 49, 50, 51, 52, 53, 54, 55, 56, 57] = true := by decide
  have e := this ⟨c - 48, by omega⟩
  rw [show 48 + (c - 48) = c by omega] at e
  exact e
theorem c_number {d n : Nat} {h : Hm} {Q : QD} {X : QX} (hn : n < 10 ^ 9) (q : Q (.int n) h) : callI tl.P Fs (d + 1) 15 [.str (numN n)] h Q X := by
  have l9 := num_len 8 n hn
  have l1 := num_pos n
  have dg := num_dig n
  have ll : (numN n).length ≤ LINE := Nat.le_trans l9 (by decide)
  refine call_at (i := 15) rfl rfl rfl ?_
  show dSs _ _ b_number_of _ _ _
  simp only [b_number_of, dSs, dS, dE, dEs, dEo, dM, dIt, dTests, pinQ, Bool.false_eq_true, if_false, if_true]
  refine ⟨_, rfl, .int (numN n).length, by simp [dBi, dLen, cont, ll], true, ?_, ?_⟩
  · show some (D.bl (!decide (((numN n).length : Int) < 1))) = _
    rw [decide_eq_false (by omega)]
    rfl
  rw [if_pos rfl]
  refine ⟨.bl true, ?_, true, rfl, false, rfl, ?_⟩
  · show some (D.bl (!decide ((9 : Int) < ((numN n).length : Int)))) = _
    rw [decide_eq_false (by omega)]
    rfl
  rw [if_neg (by decide)]
  refine ⟨_, rfl, (numN n).map fun c => .str [c], by simp [walkD, items, cont, ll], by simpa using ll, ?_⟩
  refine loop_map (α := Nat) (g := fun c => .str [c]) (f := fun _ => .bl true) still_nil (numN n) [] (fun c hc acc k hk => ?_) ?_
  · repeat (first | refine ⟨_, rfl, ?_⟩ | refine ⟨rfl, ?_⟩ | rw [if_pos rfl] | (rw [if_neg (by decide)]))
    rw [all_dig dg c hc]
    exact hk
  · have e : (([] : List D) ++ List.map (fun _ => D.bl true) (numN n)) = ((numN n).map fun _ => true).map D.bl := by simp
    rw [e]
    refine ⟨.bl true, ?_, true, rfl, false, rfl, ?_⟩
    · show (blsOf _).map _ = _
      rw [bls_map]
      simp
    · rw [if_neg (by decide)]
      refine ⟨_, rfl, .int (numN n).length, by simp [dBi, dLen, cont, ll], _, rfl, _, rfl, ?_⟩
      have fin : ∃ d_1, (List.map some [D.str (numN n)] ++ List.replicate (2 - [D.str (numN n)].length) none)[0]? = some (some d_1) ∧ ∃ z, dBi h Bi.strInt [d_1] = some z ∧ Q z h := by
        refine ⟨_, rfl, .int n, ?_, q⟩
        show (if numN n ≠ [] ∧ (numN n).length ≤ 640 ∧ (numN n).all (fun c => decide (48 ≤ c) && decide (c ≤ 57)) then some (D.int (digitsVal (numN n))) else none) = _
        rw [if_pos ⟨fun z => by rw [z] at l1; exact absurd l1 (by decide), by omega, List.all_eq_true.mpr fun c hc => by simpa using dg c hc⟩, num_val]
      by_cases h1 : 1 < (numN n).length
      · rw [if_pos (by simp; omega)]
        have np : 0 < n := by
          rcases Nat.eq_zero_or_pos n with rfl | p
          · rw [num_lt (by decide)] at h1
            exact absurd h1 (by decide)
          · exact p
        obtain ⟨c, r, e1, e2⟩ := num_head n np
        refine ⟨_, rfl, .str [c], ?_, .bl false, ?_, false, rfl, ?_⟩
        · show (if (numN n).length ≤ LINE then (ixOf (numN n).length 0).bind fun i => (numN n)[i]?.map fun c => D.str [c] else none) = _
          rw [if_pos ll, show (0 : Int) = ((0 : Nat) : Int) by rfl, ix_nat (by omega)]
          simp [e1]
        · show some (D.bl ([c] == [48])) = _
          have : ([c] == [48]) = false := by rw [beq_eq_false_iff_ne]; intro z; injection z with z; exact e2 z
          rw [this]
        · rw [if_neg (by decide)]
          exact fin
      · rw [if_neg (by simp; omega)]
        refine ⟨_, rfl, ?_⟩
        rw [if_neg (by decide)]
        exact fin
def kline (ks : List Nat) : List Nat := [107, 105, 110, 100, 115, 32] ++ ks
def rline (r : Rw) : List Nat := numN r.a ++ 32 :: (numN r.b ++ 32 :: r.s)
theorem c_kinds_of {d : Nat} {ks : List Nat} {h : Hm} {Q : QD} {X : QX} (hk : Ks ks) (k1 : 1 ≤ ks.length) (kl : ks.length ≤ 1000) (q : Q (.str ks) h) : callI tl.P Fs (d + 2) 16 [.str (kline ks)] h Q X := by
  refine call_at (i := 16) rfl rfl rfl ?_
  show dSs _ _ b_kinds_of _ _ _
  simp only [b_kinds_of, dSs, dS, dE, dEs, dEo, dM, dIt, dTests, pinQ, Bool.false_eq_true, if_false, if_true]
  repeat (first | refine ⟨_, rfl, ?_⟩ | refine ⟨rfl, ?_⟩ | rw [if_pos rfl] | (rw [if_neg (by decide)]))
  have e : dBm h .partition (.str (kline ks)) [.str [32]] = some (.tup [.str [107, 105, 110, 100, 115], .str [32], .str ks]) := by
    show (if (kline ks).length ≤ LINE ∧ 32 < 128 then (match splitMax 32 1 [] (kline ks) with | [a, b] => some (D.tup [.str a, .str [32], .str b]) | _ => some (D.tup [.str (kline ks), .str [], .str []])) else none) = _
    have l : (kline ks).length ≤ LINE := by
      unfold kline
      rw [List.length_append]
      exact Nat.le_trans (Nat.add_le_add_left kl _) (by decide)
    rw [if_pos ⟨l, by decide⟩]
    have s : splitMax 32 1 [] (kline ks) = [[107, 105, 110, 100, 115], ks] := part_at [107, 105, 110, 100, 115] [] (by decide)
    rw [s]
  left
  refine ⟨_, e, ?_⟩
  repeat (first | refine ⟨_, rfl, ?_⟩ | refine ⟨rfl, ?_⟩ | rw [if_pos rfl] | (rw [if_neg (by decide)]))
  refine ⟨.int ks.length, by simp [dBi, dLen, cont]; exact Nat.le_trans kl (by decide), c_kinds hk (Nat.le_trans kl (by decide)) ?_⟩
  rw [decide_eq_true ⟨k1, Int.le_refl _⟩]
  repeat (first | refine ⟨_, rfl, ?_⟩ | refine ⟨rfl, ?_⟩ | rw [if_pos rfl] | (rw [if_neg (by decide)]))
  exact q
theorem c_some_rights {d : Nat} {s : List Nat} {h : Hm} {Q : QD} {X : QX} (hs : Rt s) (q : Q (.bl true) h) : callI tl.P Fs (d + 2) 13 [.str s] h Q X := by
  refine call_at (i := 13) rfl rfl rfl ?_
  show dSs _ _ b_are_some_rights _ _ _
  simp only [b_are_some_rights, dSs, dS, dE, dEs, dEo, dM, dIt, dTests, pinQ, Bool.false_eq_true, if_false, if_true]
  repeat (first | refine ⟨_, rfl, ?_⟩ | refine ⟨rfl, ?_⟩ | rw [if_pos rfl] | (rw [if_neg (by decide)]))
  refine c_rights ?_
  have e2 : (s == rtF s) = true := by rw [beq_iff_eq]; exact hs.2
  have e3 : (s == []) = false := by rw [beq_eq_false_iff_ne]; exact hs.1
  rw [e2]
  refine ⟨true, rfl, ?_⟩
  rw [if_pos rfl]
  refine ⟨_, rfl, .bl true, ?_, q⟩
  show some (D.bl (!(s == []))) = _
  rw [e3]
  rfl
theorem rt_mem {s : List Nat} (hs : Rt s) : ∀ c ∈ s, c ∈ RG := fun c hc => by
  rw [hs.2] at hc
  exact (List.mem_filter.mp hc).1
theorem rt_len {s : List Nat} (hs : Rt s) : s.length ≤ 5 := by
  rw [hs.2]
  exact List.length_filter_le _ _
structure RwOk (r : Rw) : Prop where
  s : Rt r.s
  a : r.a < 10 ^ 9
  b : r.b < 10 ^ 9
theorem no_num {n c : Nat} (hc : c < 48) : c ∉ numN n := fun m => by
  have := num_dig n c m
  omega
theorem no_rt {s : List Nat} {c : Nat} (hs : Rt s) (hc : c < 100) : c ∉ s := fun m => by
  have := rt_mem hs c m
  have z : ∀ x ∈ RG, 100 ≤ x := by decide
  have := z c this
  omega
theorem rline_len {r : Rw} (hr : RwOk r) : (rline r).length ≤ 25 := by
  have := num_len 8 _ hr.a
  have := num_len 8 _ hr.b
  have := rt_len hr.s
  unfold rline
  simp
  omega
theorem c_handle_of {d : Nat} {r : Rw} {h : Hm} {Q : QD} {X : QX} (hr : RwOk r) (q : Q (rowD r) h) : callI tl.P Fs (d + 3) 17 [.str (rline r)] h Q X := by
  refine call_at (i := 17) rfl rfl rfl ?_
  show dSs _ _ b_handle_of _ _ _
  simp only [b_handle_of, dSs, dS, dE, dEs, dEo, dM, dIt, dTests, pinQ, Bool.false_eq_true, if_false, if_true]
  refine ⟨_, rfl, rfl, .inl ⟨.lst [.str (numN r.a), .str (numN r.b), .str r.s], ?_, ?_⟩⟩
  · show (if (rline r).length + 2 ≤ LINE ∧ 32 < 128 then some (D.lst ((splitAt1 32 [] (rline r)).map .str)) else none) = _
    rw [if_pos ⟨Nat.le_trans (Nat.add_le_add_right (rline_len hr) 2) (by decide), by decide⟩]
    unfold rline
    rw [split_at _ _ (no_num (by decide)), split_at _ _ (no_num (by decide)), split_no _ _ (no_rt hr.s (by decide))]
    rfl
  repeat (first | refine ⟨_, rfl, ?_⟩ | refine ⟨rfl, ?_⟩ | rw [if_pos rfl] | (rw [if_neg (by decide)]))
  refine c_some_rights hr.s ?_
  repeat (first | refine ⟨_, rfl, ?_⟩ | refine ⟨rfl, ?_⟩ | rw [if_pos rfl] | (rw [if_neg (by decide)]))
  refine c_number hr.a ?_
  repeat (first | refine ⟨_, rfl, ?_⟩ | refine ⟨rfl, ?_⟩ | rw [if_pos rfl] | (rw [if_neg (by decide)]))
  refine c_number hr.b ?_
  refine ⟨by exact Nat.le_of_ble_eq_true rfl, ?_⟩
  repeat (first | refine ⟨_, rfl, ?_⟩ | refine ⟨rfl, ?_⟩ | rw [if_pos rfl] | (rw [if_neg (by decide)]))
  exact ⟨by exact Nat.le_of_ble_eq_true rfl, q⟩
end K65
end

section
set_option maxRecDepth 100000
set_option maxHeartbeats 4000000
namespace K65
open Pv
def lns (ks : List Nat) (rows : List Rw) : List (List Nat) := kline ks :: rows.map rline
def ended (l : List (List Nat)) : List Nat := (l.map (· ++ [10])).flatten
def textOf (ks : List Nat) (rows : List Rw) : List Nat := ended (lns ks rows)
theorem split_ended : ∀ (l : List (List Nat)), (∀ x ∈ l, 10 ∉ x) → splitAt1 10 [] (ended l) = l ++ [[]]
  | [], _ => rfl
  | x :: l, h => by
    have e : ended (x :: l) = x ++ 10 :: ended l := by simp [ended]
    rw [e, split_at _ _ (h x List.mem_cons_self), split_ended l fun y hy => h y (List.mem_cons_of_mem _ hy)]
    rfl
theorem no_ks {ks : List Nat} (hk : Ks ks) {c : Nat} (hc : c < 60) : c ∉ ks := fun m => by
  rcases hk c m with z | z <;> omega
theorem lns_no {ks : List Nat} {rows : List Rw} (hk : Ks ks) (hr : ∀ r ∈ rows, RwOk r) : ∀ x ∈ lns ks rows, 10 ∉ x := fun x hx => by
  rcases List.mem_cons.mp hx with rfl | hx
  · unfold kline
    rw [List.mem_append, not_or]
    exact ⟨by decide, no_ks hk (by decide)⟩
  · obtain ⟨r, hm, rfl⟩ := List.mem_map.mp hx
    have o := hr r hm
    unfold rline
    have n1 := no_num (n := r.a) (c := 10) (by decide)
    have n2 := no_num (n := r.b) (c := 10) (by decide)
    have n3 := no_rt o.s (c := 10) (by decide)
    simp [n1, n2, n3]
theorem ended_len {k : Nat} : ∀ (l : List (List Nat)), (∀ x ∈ l, x.length ≤ k) → (ended l).length ≤ l.length * (k + 1)
  | [], _ => by simp [ended]
  | x :: l, h => by
    have := h x List.mem_cons_self
    have := ended_len l fun y hy => h y (List.mem_cons_of_mem _ hy)
    have e : ended (x :: l) = x ++ 10 :: ended l := by simp [ended]
    rw [e, List.length_append, List.length_cons, List.length_cons, Nat.succ_mul]
    omega
theorem text_len {ks : List Nat} {rows : List Rw} (kl : ks.length ≤ 1000) (hr : ∀ r ∈ rows, RwOk r) (hl : rows.length ≤ 1000) : (textOf ks rows).length ≤ 2000000 := by
  have h1 : ∀ x ∈ lns ks rows, x.length ≤ 1006 := fun x hx => by
    rcases List.mem_cons.mp hx with rfl | hx
    · unfold kline
      rw [List.length_append]
      have : [107, 105, 110, 100, 115, 32].length = 6 := rfl
      omega
    · obtain ⟨r, hm, rfl⟩ := List.mem_map.mp hx
      have := rline_len (hr r hm)
      omega
  have h2 := ended_len _ h1
  have h3 : (lns ks rows).length = rows.length + 1 := by simp [lns]
  unfold textOf
  rw [h3] at h2
  omega
def outD (ks : List Nat) (rows : List Rw) : List D := .str ks :: rows.map rowD
theorem frz_rows {n : Nat} : ∀ (l : List Rw), frzs n (l.map rowD) = true
  | [] => rfl
  | r :: l => by
    show (frz n (rowD r) && frzs n (l.map rowD)) = true
    rw [frz_rows l]
    rfl
theorem frz_out {n : Nat} {ks : List Nat} {rows : List Rw} : frz n (.lst (outD ks rows)) = true := by
  show (true && frzs n (rows.map rowD)) = true
  rw [frz_rows]
  rfl
theorem cut_last {α : Type} (l : List α) (a : α) : cut (l ++ [a]) none (some (-1)) = l := by
  unfold cut
  have e1 : clip (l ++ [a]).length 0 none = 0 := rfl
  have e2 : clip (l ++ [a]).length (l ++ [a]).length (some (-1)) = l.length := by
    show (if (0 : Int) ≤ -1 then min (-1 : Int).toNat (l ++ [a]).length else (-1 + ((l ++ [a]).length : Int)).toNat) = _
    rw [if_neg (by decide)]
    simp
    omega
  rw [e1, e2]
  simp
theorem c_lines {d : Nat} {ks : List Nat} {rows : List Rw} {h : Hm} {Q : QD} {X : QX} (hk : Ks ks) (k1 : 1 ≤ ks.length) (kl : ks.length ≤ 1000) (hr : ∀ r ∈ rows, RwOk r) (hl : rows.length ≤ 1000) (q : Q (.lst (outD ks rows)) h) :
    callI tl.P Fs (d + 4) 18 [.str (textOf ks rows), .lst [.fn 16, .fn 17]] h Q X := by
  have tlen := text_len kl hr hl
  refine call_tr (i := 18) rfl rfl rfl ?_
  show dSs _ _ b_lines_read _ _ _
  simp only [b_lines_read, dSs, dS, dE, dEs, dEo, dM, dIt, dTests, pinQ, Bool.false_eq_true, if_false, if_true]
  repeat (first | refine ⟨_, rfl, ?_⟩ | refine ⟨rfl, ?_⟩ | rw [if_pos rfl] | (rw [if_neg (by decide)]))
  refine .inl ⟨.lst ((lns ks rows ++ [[]]).map .str), ?_, ?_⟩
  · show (if (textOf ks rows).length + 2 ≤ LINE ∧ 10 < 128 then some (D.lst ((splitAt1 10 [] (textOf ks rows)).map .str)) else none) = _
    rw [if_pos ⟨Nat.le_trans (Nat.add_le_add_right tlen 2) (by decide), by decide⟩]
    unfold textOf
    rw [split_ended _ (lns_no hk hr)]
  refine ⟨_, rfl, by exact Nat.le_of_ble_eq_true rfl, _, rfl, _, rfl, 1, rfl, -1, rfl, .lst ((lns ks rows).map .str), ?_, (lns ks rows).map .str, rfl, ?_⟩
  · show some (D.lst (cut ((lns ks rows ++ [[]]).map .str) none (some (-1)))) = _
    rw [List.map_append]
    exact congrArg (fun l => some (D.lst l)) (cut_last _ _)
  have grow : ∀ (i : Nat) (x : D), (outD ks rows)[i]? = some x → (h ++ [D.lst ((outD ks rows).take i)]).set h.length (.lst ((outD ks rows).take i ++ [x])) = h ++ [.lst ((outD ks rows).take (i + 1))] := fun i x e => by
    rw [List.set_append_right _ _ (Nat.le_refl _), Nat.sub_self]
    have := (List.getElem?_eq_some_iff.mp e)
    rw [List.take_succ, e]
    rfl
  have here : ∀ i : Nat, (h ++ [D.lst ((outD ks rows).take i)])[h.length]? = some (.lst ((outD ks rows).take i)) := fun i => by
    rw [List.getElem?_append_right (Nat.le_refl _), Nat.sub_self]
    rfl
  have olen : (outD ks rows).length ≤ 1001 := by simp [outD]; exact hl
  have tk : ∀ i, ((outD ks rows).take i).length < LINE := fun i => Nat.lt_of_le_of_lt (List.length_take_le' _ _) (Nat.lt_of_le_of_lt olen (by decide))
  refine loop_inv (fun i v h' => h' = h ++ [.lst ((outD ks rows).take i)] ∧ ∃ x4 x5 x6, v = [some (.str (textOf ks rows)), some (.lst [.fn 16, .fn 17]), some (.lst ((lns ks rows ++ [[]]).map .str)), some (.ref h.length), x4, x5, x6]) _ 0 _ _ (fun i x v h' k ei hv kk => ⟨still_nil, ?_⟩) (fun v h' hv => ⟨still_nil, ?_⟩) ⟨rfl, none, none, none, rfl⟩
  · rw [Nat.zero_add] at hv kk
    obtain ⟨rfl, x4, x5, x6, rfl⟩ := hv
    rw [enum_at, Option.map_eq_some_iff] at ei
    obtain ⟨y, ey, rfl⟩ := ei
    rw [List.getElem?_map, Option.map_eq_some_iff] at ey
    obtain ⟨ln, el, rfl⟩ := ey
    rw [Nat.zero_add]
    have app : ∀ (x : D), (outD ks rows)[i]? = some x → ∀ vv, (∃ x4 x5 x6, vv = [some (.str (textOf ks rows)), some (.lst [.fn 16, .fn 17]), some (.lst ((lns ks rows ++ [[]]).map .str)), some (.ref h.length), x4, x5, x6]) →
        (∃ z, dBm (h ++ [D.lst ((outD ks rows).take i)]) Bm.append (.ref h.length) [x] = some z ∧ k vv (h ++ [D.lst ((outD ks rows).take i)])) ∨ ∃ n o z o', D.ref h.length = D.ref n ∧ (h ++ [D.lst ((outD ks rows).take i)])[n]? = some o ∧ dBmM (h ++ [D.lst ((outD ks rows).take i)]) Bm.append n o [x] = some (z, o') ∧ k vv ((h ++ [D.lst ((outD ks rows).take i)]).set n o') := fun x ex vv hvv => by
      refine .inr ⟨h.length, _, .non, .lst ((outD ks rows).take i ++ [x]), rfl, here i, ?_, ?_⟩
      · show (if _ then _ else _) = _
        rw [if_pos (tk i)]
      · rw [grow i x ex]
        exact kk _ _ ⟨rfl, hvv⟩
    cases i with
    | zero =>
      have e0 : ln = kline ks := by
        have : (lns ks rows)[0]? = some (kline ks) := rfl
        rw [this] at el
        cases el
        rfl
      subst e0
      refine ⟨_, rfl, _, rfl, _, rfl, _, rfl, _, rfl, _, rfl, .int 0, rfl, .fn 16, rfl, _, rfl, ?_⟩
      refine c_kinds_of hk k1 kl ?_
      repeat (first | refine ⟨_, rfl, ?_⟩ | refine ⟨rfl, ?_⟩ | rw [if_pos rfl] | (rw [if_neg (by decide)]))
      exact ⟨by rw [cont_ref (here 0)]; rfl, _, rfl, app _ rfl _ ⟨_, _, _, rfl⟩⟩
    | succ j =>
      have e1 : (rows.map rline)[j]? = some ln := el
      rw [List.getElem?_map, Option.map_eq_some_iff] at e1
      obtain ⟨r, er, rfl⟩ := e1
      have ro := hr r (List.mem_of_getElem? er)
      refine ⟨_, rfl, _, rfl, _, rfl, _, rfl, _, rfl, _, rfl, .int 1, ?_, .fn 17, rfl, _, rfl, ?_⟩
      · show some (D.int (if (2 - 1 : Int) < ((j + 1 : Nat) : Int) then (2 - 1 : Int) else ((j + 1 : Nat) : Int))) = _
        congr 2
        split <;> omega
      refine c_handle_of ro ?_
      repeat (first | refine ⟨_, rfl, ?_⟩ | refine ⟨rfl, ?_⟩ | rw [if_pos rfl] | (rw [if_neg (by decide)]))
      refine ⟨by rw [cont_ref (here (j + 1))]; rfl, _, rfl, app _ ?_ _ ⟨_, _, _, rfl⟩⟩
      show (rows.map rowD)[j]? = _
      rw [List.getElem?_map, er]
      rfl
  · obtain ⟨rfl, x4, x5, x6, rfl⟩ := hv
    have el : (0 + (enumFrom 0 ((lns ks rows).map D.str)).length) = (outD ks rows).length := by
      have : ∀ (l : List D) (n : Nat), (enumFrom n l).length = l.length := fun l => by
        induction l with
        | nil => intro n; rfl
        | cons a l ih => intro n; show (enumFrom (n + 1) l).length + 1 = _; rw [ih]; rfl
      rw [this]
      simp [outD, lns]
    rw [el, List.take_length]
    refine ⟨_, rfl, 1, rfl, .str [], ?_, .bl false, rfl, false, rfl, ?_⟩
    · show (ixOf ((lns ks rows ++ [[]]).map D.str).length (-1)).bind (fun n => ((lns ks rows ++ [[]]).map D.str)[n]?) = _
      have e1 : ixOf ((lns ks rows ++ [[]]).map D.str).length (-1) = some (lns ks rows).length := by
        unfold ixOf
        rw [if_neg (by decide), if_pos (by simp; omega)]
        simp
        omega
      rw [e1]
      show ((lns ks rows ++ [[]]).map D.str)[(lns ks rows).length]? = _
      simp
    · rw [if_neg (by decide)]
      refine ⟨_, rfl, ?_⟩
      refine trunc_app (reify_new 3 (Nat.le_refl _) ?_ frz_out) q
      rw [List.getElem?_append_right (Nat.le_refl _), Nat.sub_self]
      rfl
end K65
end

section
set_option maxRecDepth 100000
set_option maxHeartbeats 4000000
namespace K65
open Pv
theorem eq_int {h : Hm} {i j : Int} : dOp h .eq (.int i) (.int j) = some (.bl (i == j)) := rfl
theorem frzT_rows {n : Nat} : ∀ (l : List Rw), frzT n (l.map rowK) = true
  | [] => rfl
  | r :: l => by
    show (true && frzT n (l.map rowK)) = true
    rw [frzT_rows l]
    rfl
theorem frz_store {n : Nat} {ks : List Nat} {rows : List Rw} : frz n (.ins 4 (storeF ks rows)) = true := by
  show (true && (frzT n (rows.map rowK) && (frzs n (rows.map rowD) && true))) = true
  rw [frzT_rows, frz_rows]
  rfl
theorem part_frz {n : Nat} {ks : List Nat} {rows : List Rw} {w : D} (e : part ks rows = some w) : frz n w = true := by
  unfold part at e
  split at e
  · cases e; rfl
  · split at e
    · cases e; rfl
    · obtain ⟨i, _, rfl⟩ := Option.map_eq_some_iff.mp e
      rfl
/-- what Store(kinds, handles) does -/
def Made (ks : List Nat) (rows : List Rw) (Q : QD) (X : QX) (h : Hm) : Prop := match part ks rows with
  | some w => X ⟨.own 1, [(0, w)]⟩ h
  | none => Q (.ins 4 (storeF ks rows)) h
theorem rt_of {rows : List Rw} (hr : ∀ r ∈ rows, RwOk r) : ∀ r ∈ rows, Rt r.s := fun r m => (hr r m).s
/-- a new store within a def that lets go of it -/
theorem made_new {d : Nat} {ks : List Nat} {rows : List Rw} {h : Hm} {Q : QD} {X : QX} (hk : Ks ks) (k1 : 1 ≤ ks.length) (kl : ks.length ≤ 1000) (hr : ∀ r ∈ rows, RwOk r) (hl : rows.length ≤ 1000) (q : Made ks rows Q X h) :
    callI tl.P Fs (d + 4) 8 [.ref h.length, .str ks, .tup (rows.map rowD)] (h ++ [.ins 4 []]) (fun d h2 => d = .non ∧ trunc h.length h h2 (.ref h.length) Q)
      (fun e h1 => trunc h.length h h1 (.tup (e.fs.map (·.2))) fun d h2 => ∃ l, d = .tup l ∧ X ⟨e.c, (e.fs.map (·.1)).zip l⟩ h2) := by
  refine c_init (p := h.length) (by rw [List.getElem?_append_right (Nat.le_refl _), Nat.sub_self]; rfl) hk k1 (Nat.le_trans kl (by decide)) (rt_of hr) (Nat.le_trans hl (by decide)) ?_
  unfold Made at q
  cases e : part ks rows with
  | some w =>
    rw [e] at q
    refine trunc_app (d' := .tup [w]) (reify_frz 4 ?_) ⟨[w], rfl, q⟩
    show (frz h.length w && true) = true
    rw [part_frz e]
    rfl
  | none =>
    rw [e] at q
    have e2 : (h ++ [D.ins 4 []]).set h.length (.ins 4 (storeF ks rows)) = h ++ [.ins 4 (storeF ks rows)] := by
      rw [List.set_append_right _ _ (Nat.le_refl _), Nat.sub_self]
      rfl
    refine ⟨rfl, ?_⟩
    rw [e2]
    refine trunc_app (reify_new 3 (Nat.le_refl _) ?_ frz_store) q
    rw [List.getElem?_append_right (Nat.le_refl _), Nat.sub_self]
    rfl
theorem c_read {d : Nat} {ks : List Nat} {rows : List Rw} {h : Hm} {Q : QD} {X : QX} (hk : Ks ks) (k1 : 1 ≤ ks.length) (kl : ks.length ≤ 1000) (hr : ∀ r ∈ rows, RwOk r) (hl : rows.length ≤ 1000) (q : Made ks rows Q X h) : callI tl.P Fs (d + 5) 19 [.str (textOf ks rows)] h Q X := by
  refine call_tr (i := 19) rfl rfl rfl ?_
  show dSs _ _ b_read_store _ _ _
  simp only [b_read_store, dSs, dS, dE, dEs, dEo, dM, dIt, dTests, pinQ, Bool.false_eq_true, if_false, if_true]
  repeat (first | refine ⟨_, rfl, ?_⟩ | refine ⟨rfl, ?_⟩ | rw [if_pos rfl] | (rw [if_neg (by decide)]))
  refine ⟨by exact Nat.le_of_ble_eq_true rfl, c_lines hk k1 kl hr hl ?_⟩
  have ol : (outD ks rows).length = rows.length + 1 := by simp [outD]
  refine ⟨_, rfl, _, rfl, .int (outD ks rows).length, rfl, .bl false, ?_, false, rfl, ?_⟩
  · rw [eq_int]
    have : (((outD ks rows).length : Int) == 0) = false := by rw [beq_eq_false_iff_ne, ol]; omega
    rw [this]
  rw [if_neg (by decide)]
  refine ⟨_, rfl, .str ks, ?_, _, rfl, 1, rfl, .lst (rows.map rowD), ?_, .tup (rows.map rowD), rfl, made_new hk k1 kl hr hl q⟩
  · show (ixOf (outD ks rows).length ((0 : Nat) : Int)).bind (fun n => (outD ks rows)[n]?) = _
    rw [ix_nat (by omega)]
    rfl
  show some (D.lst (cut (outD ks rows) (some 1) none)) = _
  unfold cut
  have e1 : clip (outD ks rows).length 0 (some 1) = 1 := by
    show (if (0 : Int) ≤ 1 then min (1 : Int).toNat (outD ks rows).length else (1 + ((outD ks rows).length : Int)).toNat) = 1
    rw [if_pos (by decide), ol]
    simp
  have e2 : clip (outD ks rows).length (outD ks rows).length none = (outD ks rows).length := rfl
  rw [e1, e2]
  congr 2
  show (rows.map rowD).take _ = _
  rw [List.take_of_length_le]
  rw [ol]
  simp
end K65
end

section
set_option maxRecDepth 100000
set_option maxHeartbeats 4000000
namespace K65
open Pv
def partD (ks : List Nat) (rows : List Rw) : D := match part ks rows with
  | some w => w
  | none => .non
theorem enum_len : ∀ (l : List D) (n : Nat), (enumFrom n l).length = l.length
  | [], n => rfl
  | a :: l, n => by
    show (enumFrom (n + 1) l).length + 1 = _
    rw [enum_len l (n + 1)]
    rfl
theorem c_part {d : Nat} {ks : List Nat} {rows : List Rw} {h : Hm} {Q : QD} {X : QX} (kl : ks.length ≤ 1000) (hl : rows.length ≤ 1000) (q : Q (partD ks rows) h) : callI tl.P Fs (d + 1) 27 [.str ks, .lst (rows.map rowD)] h Q X := by
  have kL : ks.length ≤ LINE := Nat.le_trans kl (by decide)
  have lk : ∀ h : Hm, dBi h .len [.str ks] = some (.int ks.length) := fun h => by simp [dBi, dLen, cont, kL]
  refine call_at (i := 27) rfl rfl rfl ?_
  show dSs _ _ b__law_part _ _ _
  simp only [b__law_part, dSs, dS, dE, dEs, dEo, dM, dIt, dTests, pinQ, Bool.false_eq_true, if_false, if_true]
  unfold partD part at q
  refine ⟨_, rfl, _, lk h, .bl (decide ((16 : Int) < ks.length)), rfl, _, rfl, ?_⟩
  by_cases h1 : 16 < ks.length
  · rw [if_pos h1] at q
    rw [if_pos (by simp; omega)]
    exact q
  rw [if_neg h1] at q
  rw [if_neg (by simp; omega)]
  refine ⟨_, rfl, _, rfl, .bl (decide ((60 : Int) < (rows.map rowD).length)), rfl, _, rfl, ?_⟩
  by_cases h2 : 60 < rows.length
  · rw [if_pos h2] at q
    rw [if_pos (by simp; omega)]
    exact q
  rw [if_neg h2] at q
  rw [if_neg (by simp; omega)]
  refine ⟨_, rfl, rows.map rowD, rfl, ?_⟩
  refine loop_inv (fun i v h' => h' = h ∧ (∃ x2 x3 x4 x5, v = [some (.str ks), some (.lst (rows.map rowD)), x2, x3, x4, x5]) ∧ scan ks.length i (prv rows i) (rows.drop i) = scan ks.length 0 none rows) _ 0 _ h (fun i x v h' k ei hv kk => ⟨still_nil, ?_⟩) (fun v h' hv => ⟨still_nil, ?_⟩) ⟨rfl, ⟨none, none, none, none, rfl⟩, rfl⟩
  · rw [Nat.zero_add] at hv kk
    obtain ⟨rfl, ⟨x2, x3, x4, x5, rfl⟩, hs⟩ := hv
    rw [enum_at, Option.map_eq_some_iff] at ei
    obtain ⟨y, ey, rfl⟩ := ei
    rw [List.getElem?_map, Option.map_eq_some_iff] at ey
    obtain ⟨r, er, rfl⟩ := ey
    have il := (List.getElem?_eq_some_iff.mp er).1
    have ed : rows.drop i = r :: rows.drop (i + 1) := by
      rw [List.drop_eq_getElem_cons il]
      rw [(List.getElem?_eq_some_iff.mp er).2]
    rw [ed, scan_cons] at hs
    rw [Nat.zero_add]
    have fin : badR ks.length (prv rows i) r = true → Q (.int i) h' := fun hb => by
      rw [if_pos hb] at hs
      rw [← hs] at q
      exact q
    have go : badR ks.length (prv rows i) r = false → k [some (.str ks), some (.lst (rows.map rowD)), some (.int i), some (.int r.a), some (.int r.b), some (.str r.s)] h' := fun hb => by
      rw [if_neg (by rw [hb]; exact Bool.false_ne_true)] at hs
      exact kk _ _ ⟨rfl, ⟨_, _, _, _, rfl⟩, by rw [show prv rows (i + 1) = some r from er]; exact hs⟩
    refine ⟨_, rfl, _, rfl, _, rfl, .bl (decide (r.a = r.b)), ?_, _, rfl, ?_⟩
    · rw [eq_int]
      congr 2
      by_cases w : r.a = r.b
      · simp [w]
      · simp [w]
        omega
    by_cases e1 : r.a = r.b
    · rw [if_pos (by simp [e1])]
      repeat (first | refine ⟨_, rfl, ?_⟩ | refine ⟨rfl, ?_⟩ | rw [if_pos rfl] | (rw [if_neg (by decide)]))
      exact fin (by simp [badR, okR, e1])
    rw [if_neg (by simp [e1])]
    refine ⟨_, rfl, _, rfl, _, lk h', .bl (!decide ((r.a : Int) < ks.length)), rfl, _, rfl, ?_⟩
    by_cases e2 : ks.length ≤ r.a
    · rw [if_pos (by simp; omega)]
      repeat (first | refine ⟨_, rfl, ?_⟩ | refine ⟨rfl, ?_⟩ | rw [if_pos rfl] | (rw [if_neg (by decide)]))
      exact fin (by simp [badR, okR]; omega)
    rw [if_neg (by simp; omega)]
    refine ⟨_, rfl, _, rfl, _, lk h', .bl (!decide ((r.b : Int) < ks.length)), rfl, _, rfl, ?_⟩
    by_cases e3 : ks.length ≤ r.b
    · rw [if_pos (by simp; omega)]
      repeat (first | refine ⟨_, rfl, ?_⟩ | refine ⟨rfl, ?_⟩ | rw [if_pos rfl] | (rw [if_neg (by decide)]))
      exact fin (by simp [badR, okR]; omega)
    rw [if_neg (by simp; omega)]
    have ho : okR ks.length r = true := by simp [okR, e1]; omega
    refine ⟨_, rfl, .bl (decide ((0 : Int) < i)), rfl, _, rfl, ?_⟩
    cases i with
    | zero =>
      rw [if_neg (by decide)]
      repeat (first | refine ⟨_, rfl, ?_⟩ | refine ⟨rfl, ?_⟩ | rw [if_pos rfl] | (rw [if_neg (by decide)]))
      exact go (by unfold badR prv; rw [ho]; rfl)
    | succ j =>
      rw [if_pos (by simp)]
      obtain ⟨q', eq'⟩ : ∃ q', rows[j]? = some q' := ⟨_, List.getElem?_eq_getElem (by omega)⟩
      have ep : prv rows (j + 1) = some q' := eq'
      refine ⟨_, rfl, _, rfl, by exact Nat.le_of_ble_eq_true rfl, _, rfl, _, rfl, _, rfl, rowD q', ?_, _, rfl, .tup [.int q'.a, .int q'.b], rfl, .bl (!decide (lexlt q' r)), ?_, _, rfl, ?_⟩
      · show (ixOf (rows.map rowD).length (((j + 1 : Nat) : Int) - 1)).bind _ = _
        rw [show ((j + 1 : Nat) : Int) - 1 = (j : Int) by omega, ix_nat (by simp; omega)]
        show (rows.map rowD)[j]? = _
        rw [List.getElem?_map, eq']
        rfl
      · show Option.map (fun c => D.bl (!c)) (dlt (keyD q') (keyD r)) = _
        rw [dlt_key]
        rfl
      · by_cases hb : lexlt q' r
        · rw [if_neg (by simp [hb])]
          exact go (by unfold badR; rw [ho, ep]; simp [hb])
        · rw [if_pos (by simp [hb])]
          repeat (first | refine ⟨_, rfl, ?_⟩ | refine ⟨rfl, ?_⟩ | rw [if_pos rfl] | (rw [if_neg (by decide)]))
          exact fin (by unfold badR; rw [ho, ep]; simp [hb])
  · obtain ⟨rfl, _, hs⟩ := hv
    rw [enum_len, List.length_map, Nat.zero_add, List.drop_length] at hs
    have hs : scan ks.length 0 none rows = none := hs.symm
    rw [hs] at q
    exact q
end K65
end

section
set_option maxRecDepth 100000
set_option maxHeartbeats 4000000
namespace K65
open Pv
theorem str_int {h : Hm} {n : Nat} (hn : n < 10 ^ 9) : dBi h .str [.int n] = some (.str (numN n)) := by
  show (if 0 ≤ (n : Int) ∧ (n : Int).natAbs.log2 < 1920 then some (D.str (numN (n : Int).toNat)) else none) = _
  have l : (n : Int).natAbs.log2 < 1920 := by
    rw [Int.natAbs_natCast]
    by_cases z : n = 0
    · subst z; decide
    · have := (Nat.log2_lt z (k := 30)).mpr (Nat.lt_of_lt_of_le hn (by decide))
      omega
  rw [if_pos ⟨by omega, l⟩, Int.toNat_natCast]
theorem add_str {h : Hm} {x y : List Nat} (e : x.length + y.length ≤ LINE) : dOp h .add (.str x) (.str y) = some (.str (x ++ y)) := by
  show (if x.length + y.length ≤ LINE then some (D.str (x ++ y)) else none) = _
  rw [if_pos e]
theorem ended_cons (x : List Nat) (l : List (List Nat)) : ended (x :: l) = x ++ 10 :: ended l := by simp [ended]
theorem rows_len {rows : List Rw} (hr : ∀ r ∈ rows, RwOk r) (hl : rows.length ≤ 1000) : (ended (rows.map rline)).length ≤ 26000 := by
  have h1 : ∀ x ∈ rows.map rline, x.length ≤ 25 := fun x hx => by
    obtain ⟨r, hm, rfl⟩ := List.mem_map.mp hx
    exact rline_len (hr r hm)
  have h2 := ended_len _ h1
  rw [List.length_map] at h2
  omega
theorem join_sp {h : Hm} {r : Rw} (hr : RwOk r) : dBm h .join (.str [32]) [.lst [.str (numN r.a), .str (numN r.b), .str r.s]] = some (.str (rline r)) := by
  have l1 := num_len 8 _ hr.a
  have l2 := num_len 8 _ hr.b
  have l3 := rt_len hr.s
  show (if (([numN r.a, numN r.b, r.s] : List (List Nat)).map (·.length)).sum + 3 * 1 ≤ LINE then some (D.str (joinL [32] [numN r.a, numN r.b, r.s])) else none) = _
  rw [if_pos]
  · simp [joinL, rline]
  · refine Nat.le_trans (m := 26) ?_ (by decide)
    simp
    omega
theorem join_rows {h : Hm} {rows : List Rw} (hr : ∀ r ∈ rows, RwOk r) (hl : rows.length ≤ 1000) : dBm h .join (.str []) [.lst (rows.map fun r => .str (rline r ++ [10]))] = some (.str (ended (rows.map rline))) := by
  have e : (rows.map fun r => D.str (rline r ++ [10])) = ((rows.map rline).map (· ++ [10])).map D.str := by
    rw [List.map_map, List.map_map]
    rfl
  rw [e, join_ok]
  · rfl
  · have := rows_len hr hl
    have w : (((rows.map rline).map (· ++ [10])).map (·.length)).sum = (ended (rows.map rline)).length := by
      unfold ended
      rw [List.length_flatten]
    rw [w]
    exact Nat.le_trans this (by decide)
theorem c_written {d : Nat} {ks : List Nat} {rows : List Rw} {h : Hm} {Q : QD} {X : QX} (kl : ks.length ≤ 1000) (hr : ∀ r ∈ rows, RwOk r) (hl : rows.length ≤ 1000) (q : Q (.str (textOf ks rows)) h) : callI tl.P Fs (d + 1) 29 [.str ks, .lst (rows.map rowD)] h Q X := by
  have rl := rows_len hr hl
  refine call_at (i := 29) rfl rfl rfl ?_
  show dSs _ _ b__law_written _ _ _
  simp only [b__law_written, dSs, dS, dE, dEs, dEo, dM, dIt, dTests, pinQ, Bool.false_eq_true, if_false, if_true]
  have a1 : (6 : Nat) + ks.length ≤ LINE := Nat.le_trans (Nat.add_le_add_left kl 6) (by decide)
  have k7 : (kline ks).length = 6 + ks.length := by unfold kline; rw [List.length_append]; rfl
  refine ⟨_, rfl, .str (kline ks), add_str a1, .str (kline ks ++ [10]), add_str ?_, rfl, _, rfl, rows.map rowD, rfl, by simp; exact Nat.le_trans hl (by decide), ?_⟩
  · rw [k7]
    exact Nat.le_trans (Nat.add_le_add_right (Nat.add_le_add_left kl 6) 1) (by decide)
  refine loop_map (α := Rw) (g := rowD) (f := fun r => .str (rline r ++ [10])) still_nil rows [] (fun r hm acc k hk => ?_) ?_
  · have ro := hr r hm
    refine ⟨_, rfl, rfl, _, rfl, _, str_int ro.a, _, rfl, _, str_int ro.b, _, rfl, by exact Nat.le_of_ble_eq_true rfl, .inl ⟨_, join_sp ro, _, add_str ?_, hk⟩⟩
    have := rline_len ro
    exact Nat.le_trans (Nat.add_le_add_right this 1) (by decide)
  · refine .inl ⟨_, join_rows hr hl, .str (textOf ks rows), ?_, q⟩
    rw [add_str]
    · unfold textOf lns
      rw [ended_cons]
      simp
    · rw [List.length_append, k7]
      have : [10].length = 1 := rfl
      have z : 6 + ks.length + 1 + (ended (rows.map rline)).length ≤ 6 + 1000 + 1 + 26000 := by omega
      exact Nat.le_trans z (by decide)
end K65
end

section
set_option maxRecDepth 100000
set_option maxHeartbeats 4000000
namespace K65
open Pv
abbrev stD (ks : List Nat) (rows : List Rw) : D := .ins 4 (storeF ks rows)
/-! ### the same by plain looks -/
def Same (d : Nat) (h : Hm) (x : D) : Prop := ∀ (Q : QD) (X : QX), Q (.bl true) h → callI tl.P Fs d 24 [x, x] h Q X
theorem same_int {d : Nat} {h : Hm} {i : Int} : Same (d + 1) h (.int i) := fun Q X q => by
  refine call_at (i := 24) rfl rfl rfl ?_
  show dSs _ _ b__law_is_plain _ _ _
  simp only [b__law_is_plain, dSs, dS, dE, dEs, dEo, dM, dIt, dTests, pinQ, Bool.false_eq_true, if_false, if_true]
  repeat (first | refine ⟨_, rfl, ?_⟩ | refine ⟨rfl, ?_⟩ | rw [if_pos rfl] | (rw [if_neg (by decide)]))
  have : (i == i) = true := by simp
  show Q (.bl (deq (.int i) (.int i))) h
  show Q (.bl (i == i)) h
  rw [this]
  exact q
theorem same_str {d : Nat} {h : Hm} {s : List Nat} : Same (d + 1) h (.str s) := fun Q X q => by
  refine call_at (i := 24) rfl rfl rfl ?_
  show dSs _ _ b__law_is_plain _ _ _
  simp only [b__law_is_plain, dSs, dS, dE, dEs, dEo, dM, dIt, dTests, pinQ, Bool.false_eq_true, if_false, if_true]
  repeat (first | refine ⟨_, rfl, ?_⟩ | refine ⟨rfl, ?_⟩ | rw [if_pos rfl] | (rw [if_neg (by decide)]))
  show Q (.bl (s == s)) h
  rw [show (s == s) = true by simp]
  exact q
theorem zip2_self {l : List D} : zip2 l l = l.map fun x => .tup [x, x] := by
  induction l with
  | nil => rfl
  | cons a l ih => show D.tup [a, a] :: zip2 l l = _; rw [ih]; rfl
theorem same_tup {d : Nat} {h : Hm} {l : List D} (hl : l.length ≤ LINE) (f : ∀ x ∈ l, Same d h x) : Same (d + 1) h (.tup l) := fun Q X q => by
  refine call_at (i := 24) rfl rfl rfl ?_
  show dSs _ _ b__law_is_plain _ _ _
  simp only [b__law_is_plain, dSs, dS, dE, dEs, dEo, dM, dIt, dTests, pinQ, Bool.false_eq_true, if_false, if_true]
  repeat (first | refine ⟨_, rfl, ?_⟩ | refine ⟨rfl, ?_⟩ | rw [if_pos rfl] | (rw [if_neg (by decide)]))
  rw [if_neg (by show ¬ (!((l.length : Int) == (l.length : Int))) = true; simp)]
  refine ⟨_, rfl, _, rfl, _, _, rfl, ?_⟩
  rw [zip2_self]
  refine ⟨by simpa using hl, loop_map (α := D) (g := fun x => .tup [x, x]) (f := fun _ => .bl true) still_nil l [] (fun x hx acc k hk => ?_) ?_⟩
  · repeat (first | refine ⟨_, rfl, ?_⟩ | refine ⟨rfl, ?_⟩ | rw [if_pos rfl] | (rw [if_neg (by decide)]))
    exact f x hx _ _ hk
  · refine ⟨.bl true, ?_, q⟩
    have e : (([] : List D) ++ List.map (fun _ => D.bl true) l) = (l.map fun _ => true).map D.bl := by simp
    rw [e]
    show (blsOf _).map _ = _
    rw [bls_map]
    simp
theorem same_lst {d : Nat} {h : Hm} {l : List D} (hl : l.length ≤ LINE) (f : ∀ x ∈ l, Same d h x) : Same (d + 1) h (.lst l) := fun Q X q => by
  refine call_at (i := 24) rfl rfl rfl ?_
  show dSs _ _ b__law_is_plain _ _ _
  simp only [b__law_is_plain, dSs, dS, dE, dEs, dEo, dM, dIt, dTests, pinQ, Bool.false_eq_true, if_false, if_true]
  repeat (first | refine ⟨_, rfl, ?_⟩ | refine ⟨rfl, ?_⟩ | rw [if_pos rfl] | (rw [if_neg (by decide)]))
  rw [if_neg (by show ¬ (!((l.length : Int) == (l.length : Int))) = true; simp)]
  refine ⟨_, rfl, _, rfl, _, _, rfl, ?_⟩
  rw [zip2_self]
  refine ⟨by simpa using hl, loop_map (α := D) (g := fun x => .tup [x, x]) (f := fun _ => .bl true) still_nil l [] (fun x hx acc k hk => ?_) ?_⟩
  · repeat (first | refine ⟨_, rfl, ?_⟩ | refine ⟨rfl, ?_⟩ | rw [if_pos rfl] | (rw [if_neg (by decide)]))
    exact f x hx _ _ hk
  · refine ⟨.bl true, ?_, q⟩
    have e : (([] : List D) ++ List.map (fun _ => D.bl true) l) = (l.map fun _ => true).map D.bl := by simp
    rw [e]
    show (blsOf _).map _ = _
    rw [bls_map]
    simp
theorem same_row {d : Nat} {h : Hm} {r : Rw} : Same (d + 2) h (rowD r) := same_tup (by exact Nat.le_of_ble_eq_true rfl) fun x hx => by
  simp only [List.mem_cons, List.not_mem_nil, or_false] at hx
  rcases hx with rfl | rfl | rfl
  · exact same_int
  · exact same_int
  · exact same_str
theorem same_rows {d : Nat} {h : Hm} {rows : List Rw} (hl : rows.length ≤ LINE) : Same (d + 3) h (.tup (rows.map rowD)) := same_tup (by simpa using hl) fun x hx => by
  obtain ⟨r, _, rfl⟩ := List.mem_map.mp hx
  exact same_row
theorem c_is_store {d : Nat} {ks : List Nat} {rows : List Rw} {h : Hm} {Q : QD} {X : QX} (hl : rows.length ≤ LINE) (q : Q (.bl true) h) : callI tl.P Fs (d + 5) 25 [stD ks rows, .str ks, .tup (rows.map rowD)] h Q X := by
  refine call_at (i := 25) rfl rfl rfl ?_
  show dSs _ _ b__law_is_store _ _ _
  simp only [b__law_is_store, dSs, dS, dE, dEs, dEo, dM, dIt, dTests, pinQ, Bool.false_eq_true, if_false, if_true]
  repeat (first | refine ⟨_, rfl, ?_⟩ | refine ⟨rfl, ?_⟩ | rw [if_pos rfl] | (rw [if_neg (by decide)]))
  refine ⟨4, _, _, rfl, rfl, rfl, _, rfl, 4, _, _, rfl, rfl, rfl, by exact Nat.le_of_ble_eq_true rfl, _, rfl, _, rfl, by exact Nat.le_of_ble_eq_true rfl, ?_⟩
  refine same_lst (d := d + 3) (by exact Nat.le_of_ble_eq_true rfl) (fun x hx => ?_) _ _ q
  simp only [List.mem_cons, List.not_mem_nil, or_false] at hx
  rcases hx with rfl | rfl
  · exact same_str
  · exact same_rows hl
end K65
end

section
set_option maxRecDepth 100000
set_option maxHeartbeats 4000000
namespace K65
open Pv
theorem still_ref {h : Hm} {n : Nat} {d : D} (e : h[n]? = some d) : still [(n, d)] h := fun p m => by
  rw [List.mem_singleton.mp m]
  exact e
theorem c_store_text {d : Nat} {ks : List Nat} {rows : List Rw} {h : Hm} {Q : QD} {X : QX} (kl : ks.length ≤ 1000) (hr : ∀ r ∈ rows, RwOk r) (hl : rows.length ≤ 1000) (q : Q (.str (textOf ks rows)) h) : callI tl.P Fs (d + 1) 14 [stD ks rows] h Q X := by
  have k6 : (6 : Nat) + ks.length ≤ LINE := Nat.le_trans (Nat.add_le_add_left kl 6) (by decide)
  have k7 : (kline ks).length = 6 + ks.length := by unfold kline; rw [List.length_append]; rfl
  have hL : rows.length ≤ LINE := Nat.le_trans hl (by decide)
  refine call_tr (i := 14) rfl rfl rfl ?_
  show dSs _ _ b_store_text _ _ _
  simp only [b_store_text, dSs, dS, dE, dEs, dEo, dM, dIt, dTests, pinQ, Bool.false_eq_true, if_false, if_true]
  refine ⟨_, rfl, 4, _, _, rfl, rfl, rfl, .str (kline ks), add_str k6, by exact Nat.le_of_ble_eq_true rfl, _, rfl, ?_⟩
  have here : ∀ x : D, (h ++ [x])[h.length]? = some x := fun x => by
    rw [List.getElem?_append_right (Nat.le_refl _), Nat.sub_self]
    rfl
  refine ⟨_, rfl, by rw [cont_ref (here _)]; rfl, _, rfl, 4, _, _, rfl, rfl, rfl, rows.map rowD, rfl, by simpa using hL, ?_⟩
  refine loop_map (α := Rw) (g := rowD) (f := fun r => .str (rline r)) still_nil rows [] (fun r hm acc k hk => ?_) ?_
  · have ro := hr r hm
    have l1 := num_len 8 _ ro.a
    have l2 := num_len 8 _ ro.b
    have l3 := rt_len ro.s
    have e : rline r = (((numN r.a ++ [32]) ++ numN r.b) ++ [32]) ++ r.s := by simp [rline]
    have b1 : ([32] : List Nat).length = 1 := rfl
    refine ⟨_, rfl, _, rfl, _, str_int ro.a, _, add_str ?_, _, rfl, _, str_int ro.b, _, add_str ?_, _, add_str ?_, _, rfl, .str (rline r), ?_, hk⟩
    · exact Nat.le_trans (m := 10) (by omega) (by decide)
    · exact Nat.le_trans (m := 19) (by rw [List.length_append]; omega) (by decide)
    · exact Nat.le_trans (m := 20) (by rw [List.length_append, List.length_append]; omega) (by decide)
    · rw [add_str, ← e]
      exact Nat.le_trans (m := 25) (by rw [List.length_append, List.length_append, List.length_append]; omega) (by decide)
  · refine .inr ⟨h.length, _, .non, .lst ((lns ks rows).map .str), rfl, here _, ?_, ?_⟩
    · have w : [D.str (kline ks)].length + (([] : List D) ++ List.map (fun r => D.str (rline r)) rows).length ≤ LINE := by
        refine Nat.le_trans (m := 1001) ?_ (by decide)
        simp
        omega
      show (if [D.str (kline ks)].length + (([] : List D) ++ List.map (fun r => D.str (rline r)) rows).length ≤ LINE then some (D.non, D.lst ([D.str (kline ks)] ++ ([] ++ List.map (fun r => D.str (rline r)) rows))) else none) = _
      rw [if_pos w]
      simp [lns]
    · have e2 : (h ++ [D.lst [.str (kline ks)]]).set h.length (.lst ((lns ks rows).map .str)) = h ++ [.lst ((lns ks rows).map .str)] := by
        rw [List.set_append_right _ _ (Nat.le_refl _), Nat.sub_self]
        rfl
      rw [e2]
      have w : ((lns ks rows).map D.str).length ≤ LINE := by
        refine Nat.le_trans (m := 1001) ?_ (by decide)
        simp [lns]
        omega
      refine ⟨rfl, _, rfl, (lns ks rows).map .str, ?_, w, ?_⟩
      · show (match (h ++ [D.lst ((lns ks rows).map .str)]).getD h.length .non with | .lst l => some l | _ => none) = _
        rw [List.getD_eq_getElem?_getD, here]
        rfl
      have es : src (h ++ [D.lst ((lns ks rows).map .str)]) (.ref h.length) = [(h.length, .lst ((lns ks rows).map .str))] := by
        show [(h.length, (h ++ [D.lst ((lns ks rows).map .str)]).getD h.length .non)] = _
        rw [List.getD_eq_getElem?_getD, here]
        rfl
      rw [es]
      have ln : ∀ x ∈ lns ks rows, x.length ≤ 1006 := fun x hx => by
        rcases List.mem_cons.mp hx with rfl | hx
        · rw [k7]; omega
        · obtain ⟨r, hm, rfl⟩ := List.mem_map.mp hx
          have := rline_len (hr r hm)
          omega
      refine loop_map (α := List Nat) (g := D.str) (f := fun x => .str (x ++ [10])) (still_ref (here _)) (lns ks rows) [] (fun x hx acc k hk => ?_) ?_
      · refine ⟨_, rfl, _, rfl, _, add_str ?_, hk⟩
        exact Nat.le_trans (Nat.add_le_add_right (ln x hx) 1) (by decide)
      · refine .inl ⟨.str (textOf ks rows), ?_, trunc_app (reify_frz 4 rfl) q⟩
        have e3 : (([] : List D) ++ List.map (fun x => D.str (x ++ [10])) (lns ks rows)) = ((lns ks rows).map (· ++ [10])).map D.str := by
          rw [List.nil_append, List.map_map]
          rfl
        rw [e3, join_ok]
        · rfl
        · have w2 : (((lns ks rows).map (· ++ [10])).map (·.length)).sum = (textOf ks rows).length := by
            unfold textOf ended
            rw [List.length_flatten]
          rw [w2]
          exact Nat.le_trans (text_len kl hr hl) (by decide)
theorem data_rows : ∀ {rows : List Rw}, (∀ r ∈ rows, Rt r.s) → areData (rows.map rowD) = true
  | [], _ => rfl
  | r :: l, h => by
    have e : isData (.str r.s) = true := by
      show r.s.all (fun c => decide (c < 1114112)) = true
      rw [List.all_eq_true]
      intro c hc
      have := rt_mem (h r List.mem_cons_self) c hc
      have z : ∀ x ∈ RG, x < 1114112 := by decide
      exact decide_eq_true (z c this)
    show ((true && (true && (isData (.str r.s) && true))) && areData (l.map rowD)) = true
    rw [e, data_rows fun x hx => h x (List.mem_cons_of_mem _ hx)]
    rfl
theorem deq_rows : ∀ {rows : List Rw}, deqs (rows.map rowD) (rows.map rowD) = true
  | [] => rfl
  | r :: l => by
    have e : deq (rowD r) (rowD r) = true := by
      show (((r.a : Int) == r.a) && (((r.b : Int) == r.b) && ((r.s == r.s) && true))) = true
      simp
    show (deq (rowD r) (rowD r) && deqs (l.map rowD) (l.map rowD)) = true
    rw [e, deq_rows]
    rfl
theorem depth_rows : ∀ {rows : List Rw}, depths (rows.map rowD) ≤ 1
  | [] => by decide
  | r :: l => by
    show max (depth (rowD r)) (depths (l.map rowD)) ≤ 1
    have : depth (rowD r) = 1 := rfl
    have := depth_rows (rows := l)
    omega
theorem c_eq {d p : Nat} {ks : List Nat} {rows : List Rw} {h : Hm} {Q : QD} {X : QX} (hr : ∀ r ∈ rows, Rt r.s) (hp : h[p]? = some (stD ks rows)) (q : Q (.bl true) h) : callI tl.P Fs (d + 1) 10 [stD ks rows, .ref p] h Q X := by
  have cp := cont_ref hp
  refine call_at (i := 10) rfl rfl rfl ?_
  show dSs _ _ b_Store___eq__ _ _ _
  simp only [b_Store___eq__, dSs, dS, dE, dEs, dEo, dM, dIt, dTests, pinQ, Bool.false_eq_true, if_false, if_true]
  refine ⟨_, rfl, by rw [cp]; rfl, true, by rw [cp]; rfl, ?_⟩
  rw [if_pos rfl]
  refine ⟨_, rfl, 4, _, _, rfl, rfl, rfl, _, rfl, 4, _, _, cp, rfl, rfl, .bl true, ?_, true, rfl, ?_⟩
  · show some (D.bl (ks == ks)) = _
    simp
  rw [if_pos rfl]
  refine ⟨_, rfl, 4, _, _, rfl, rfl, rfl, _, rfl, 4, _, _, cp, rfl, rfl, .bl true, ?_, q⟩
  have hd : depth (.tup (rows.map rowD)) ≤ 64 := by
    show depths (rows.map rowD) + 1 ≤ 64
    have := depth_rows (rows := rows)
    omega
  show (if (areData (rows.map rowD) && areData (rows.map rowD) && decide (depth (.tup (rows.map rowD)) ≤ 64) && decide (depth (.tup (rows.map rowD)) ≤ 64)) = true then some (deqs (rows.map rowD) (rows.map rowD)) else none).map D.bl = _
  rw [data_rows hr, decide_eq_true hd, deq_rows]
  rfl
theorem c_check {d : Nat} {ks : List Nat} {rows : List Rw} {a : Nat} {h : Hm} {Q : QD} {X : QX} (kl : ks.length ≤ 1000) (ha : a < ks.length) (q : Q .non h) : callI tl.P Fs (d + 4) 5 [stD ks rows, .int a] h Q X := by
  refine call_at (i := 5) rfl rfl rfl ?_
  show dSs _ _ b_check_member _ _ _
  simp only [b_check_member, dSs, dS, dE, dEs, dEo, dM, dIt, dTests, pinQ, Bool.false_eq_true, if_false, if_true]
  repeat (first | refine ⟨_, rfl, ?_⟩ | refine ⟨rfl, ?_⟩ | rw [if_pos rfl] | (rw [if_neg (by decide)]))
  refine call_at (i := 4) rfl rfl rfl ?_
  show dSs _ _ b_is_member _ _ _
  simp only [b_is_member, dSs, dS, dE, dEs]
  refine ⟨_, rfl, _, rfl, 4, _, _, rfl, rfl, rfl, .int ks.length, by simp [dBi, dLen, cont]; exact Nat.le_trans kl (by decide), _, rfl, c_within ?_⟩
  rw [decide_eq_true (by omega)]
  repeat (first | refine ⟨_, rfl, ?_⟩ | refine ⟨rfl, ?_⟩ | rw [if_pos rfl] | (rw [if_neg (by decide)]))
  exact q
theorem c_rights_in {d : Nat} {ks : List Nat} {rows : List Rw} {r : Rw} {h : Hm} {Q : QD} {X : QX} (s : Srt rows) (m : r ∈ rows) (q : Q (.str r.s) h) : callI tl.P Fs (d + 1) 11 [stD ks rows, .int r.a, .int r.b] h Q X := by
  refine call_at (i := 11) rfl rfl rfl ?_
  show dSs _ _ b_rights_in _ _ _
  simp only [b_rights_in, dSs, dS, dE, dEs, dEo, dM, dIt, dTests, pinQ, Bool.false_eq_true, if_false, if_true]
  refine ⟨_, rfl, 4, _, _, rfl, rfl, rfl, rfl, _, rfl, _, rfl, by exact Nat.le_of_ble_eq_true rfl, .inl ⟨.str r.s, ?_, q⟩⟩
  show some ((look (rows.map rowK) [.inl (r.a : Int), .inl (r.b : Int)]).getD (.str [])) = _
  rw [look_row s r m]
  rfl
theorem c_rights_of {d : Nat} {ks : List Nat} {rows : List Rw} {r : Rw} {h : Hm} {Q : QD} {X : QX} (kl : ks.length ≤ 1000) (s : Srt rows) (m : r ∈ rows) (ha : r.a < ks.length) (hb : r.b < ks.length) (q : Q (.str r.s) h) : callI tl.P Fs (d + 5) 12 [stD ks rows, .int r.a, .int r.b] h Q X := by
  refine call_at (i := 12) rfl rfl rfl ?_
  show dSs _ _ b_rights_of _ _ _
  simp only [b_rights_of, dSs, dS, dE, dEs, dEo, dM, dIt, dTests, pinQ, Bool.false_eq_true, if_false, if_true]
  repeat (first | refine ⟨_, rfl, ?_⟩ | refine ⟨rfl, ?_⟩ | rw [if_pos rfl] | (rw [if_neg (by decide)]))
  refine c_check kl ha ?_
  repeat (first | refine ⟨_, rfl, ?_⟩ | refine ⟨rfl, ?_⟩ | rw [if_pos rfl] | (rw [if_neg (by decide)]))
  refine c_check kl hb ?_
  repeat (first | refine ⟨_, rfl, ?_⟩ | refine ⟨rfl, ?_⟩ | rw [if_pos rfl] | (rw [if_neg (by decide)]))
  exact c_rights_in s m q
end K65
end

section
set_option maxRecDepth 100000
set_option maxHeartbeats 4000000
namespace K65
open Pv
theorem c_lam0 {d : Nat} {ks : List Nat} {rows : List Rw} {h : Hm} {Q : QD} {X : QX} (hk : Ks ks) (k1 : 1 ≤ ks.length) (kl : ks.length ≤ 1000) (hr : ∀ r ∈ rows, RwOk r) (hl : rows.length ≤ 1000) (q : Made ks rows Q X h) : callI tl.P Fs (d + 5) 32 [.lst (rows.map rowD), .str ks] h Q X := by
  refine call_tr (i := 32) rfl rfl rfl ?_
  show dSs _ _ (.cons (.ret x__law_is_right_lam0) .nil) _ _ _
  simp only [x__law_is_right_lam0, dSs, dS, dE, dEs]
  exact ⟨_, rfl, _, rfl, _, rfl, made_new hk k1 kl hr hl q⟩
theorem c_lam1 {d : Nat} {ks : List Nat} {rows : List Rw} {h : Hm} {Q : QD} {X : QX} (hk : Ks ks) (k1 : 1 ≤ ks.length) (kl : ks.length ≤ 1000) (hr : ∀ r ∈ rows, RwOk r) (hl : rows.length ≤ 1000) (q : Made ks rows Q X h) : callI tl.P Fs (d + 6) 33 [.str (textOf ks rows)] h Q X := by
  refine call_at (i := 33) rfl rfl rfl ?_
  show dSs _ _ (.cons (.ret x__law_is_right_lam1) .nil) _ _ _
  simp only [x__law_is_right_lam1, dSs, dS, dE, dEs]
  exact ⟨_, rfl, c_read hk k1 kl hr hl q⟩
def toldD (ks : List Nat) (rows : List Rw) : D := match part ks rows with
  | some w => .tup [.str [112, 97, 114, 116], w]
  | none => .tup [.str [116, 111, 108, 100], stD ks rows]
theorem c_told {d i : Nat} {caps : List D} {ks : List Nat} {rows : List Rw} {h : Hm} {Q : QD} {X : QX} (f : ∀ Q X, Made ks rows Q X h → callI tl.P Fs d i ([] ++ caps) h Q X) (q : Q (toldD ks rows) h) : callI tl.P Fs (d + 1) 28 [.clo i caps] h Q X := by
  refine call_at (i := 28) rfl rfl rfl ?_
  show dSs _ _ b__law_told _ _ _
  simp only [b__law_told, dSs, dS, dE, dEs]
  refine ⟨by exact Nat.le_of_ble_eq_true rfl, _, rfl, _, rfl, f _ _ ?_⟩
  unfold Made
  unfold toldD at q
  cases e : part ks rows with
  | none =>
    rw [e] at q
    exact ⟨by exact Nat.le_of_ble_eq_true rfl, _, rfl, _, rfl, q⟩
  | some w =>
    rw [e] at q
    simp only [dHs, dSs, dS, dE, dEs]
    rw [if_pos (by rfl)]
    refine ⟨1, _, rfl, rfl, true, rfl, ?_⟩
    rw [if_pos rfl]
    refine ⟨1, _, rfl, rfl, true, rfl, ?_⟩
    rw [if_pos rfl]
    refine ⟨1, _, rfl, rfl, false, rfl, true, rfl, ?_⟩
    rw [if_pos rfl]
    exact ⟨1, _, _, rfl, rfl, rfl, by exact Nat.le_of_ble_eq_true rfl, _, rfl, _, rfl, q⟩
def HC (h : Hm) : Prop := ∀ (m : Nat) (o : D), h[m]? = some o → noClo o = true
theorem noClo_rows : ∀ (l : List Rw), noClos (l.map rowD) = true
  | [] => rfl
  | r :: l => by
    show (noClo (rowD r) && noClos (l.map rowD)) = true
    rw [noClo_rows l]
    rfl
theorem noClo_held : ∀ (l : List Rw), noCloT (l.map rowK) = true
  | [] => rfl
  | r :: l => by
    show (true && noCloT (l.map rowK)) = true
    rw [noClo_held l]
    rfl
theorem noClo_store {ks : List Nat} {rows : List Rw} : noClo (stD ks rows) = true := by
  show (true && (noCloT (rows.map rowK) && (noClos (rows.map rowD) && true))) = true
  rw [noClo_rows, noClo_held]
  rfl
theorem part_flat {ks : List Nat} {rows : List Rw} {w : D} (e : part ks rows = some w) : (∃ i : Nat, w = .int i) ∨ ∃ s, w = .str s := by
  unfold part at e
  split at e
  · cases e; exact .inr ⟨_, rfl⟩
  · split at e
    · cases e; exact .inr ⟨_, rfl⟩
    · obtain ⟨i, _, rfl⟩ := Option.map_eq_some_iff.mp e
      exact .inl ⟨i, rfl⟩
theorem part_none {ks : List Nat} {rows : List Rw} (e : part ks rows = none) : scan ks.length 0 none rows = none := by
  unfold part at e
  split at e
  · cases e
  · split at e
    · cases e
    · exact Option.map_eq_none_iff.mp e
end K65
end

section
set_option maxRecDepth 100000
set_option maxHeartbeats 4000000
namespace K65
open Pv
def cut1 (n : Nat) (o : Option D) : Option D := match o with
  | some d => if frz n d && noClo d then some d else none
  | none => none
theorem cut1_ok {n : Nat} {d : D} (h1 : frz n d = true) (h2 : noClo d = true) : cut1 n (some d) = some d := by
  show (if frz n d && noClo d then some d else none) = _
  rw [h1, h2]
  rfl
theorem c_is_right {d : Nat} {ks : List Nat} {rows : List Rw} {h : Hm} {Q : QD} {X : QX} (hc : HC h) (hk : Ks ks) (k1 : 1 ≤ ks.length) (kl : ks.length ≤ 1000) (hr : ∀ r ∈ rows, RwOk r) (hl : rows.length ≤ 1000) (q : Q (.bl true) h) : callI tl.P Fs (d + 9) 30 [.str ks, .lst (rows.map rowD)] h Q X := by
  have hL : rows.length ≤ LINE := Nat.le_trans hl (by decide)
  refine call_tr (i := 30) rfl rfl rfl ?_
  show dSs _ _ b__law_is_right _ _ _
  simp only [b__law_is_right, dSs, dS, dE, dEs, dEo, dM, dIt, dTests, pinQ, Bool.false_eq_true, if_false, if_true]
  repeat (first | refine ⟨_, rfl, ?_⟩ | refine ⟨rfl, ?_⟩ | rw [if_pos rfl] | (rw [if_neg (by decide)]))
  refine c_part kl hl ?_
  repeat (first | refine ⟨_, rfl, ?_⟩ | refine ⟨rfl, ?_⟩ | rw [if_pos rfl] | (rw [if_neg (by decide)]))
  refine c_written kl hr hl ?_
  refine ⟨by exact Nat.le_of_ble_eq_true rfl, _, rfl, [.str (textOf ks rows)], rfl, by exact Nat.le_of_ble_eq_true rfl, _, rfl, ?_⟩
  have here : ∀ x : D, (h ++ [x])[h.length]? = some x := fun x => by
    rw [List.getElem?_append_right (Nat.le_refl _), Nat.sub_self]
    rfl
  refine ⟨_, rfl, by rw [cont_ref (here _)]; rfl, [.lst (rows.map rowD), .str ks], rfl, .inr ⟨h.length, _, .non, .lst [.clo 33 [.str (textOf ks rows)], .clo 32 [.lst (rows.map rowD), .str ks]], rfl, here _, rfl, ?_⟩⟩
  rw [show (h ++ [D.lst [.clo 33 [.str (textOf ks rows)]]]).set h.length (.lst [.clo 33 [.str (textOf ks rows)], .clo 32 [.lst (rows.map rowD), .str ks]]) = h ++ [.lst [.clo 33 [.str (textOf ks rows)], .clo 32 [.lst (rows.map rowD), .str ks]]] by rw [List.set_append_right _ _ (Nat.le_refl _), Nat.sub_self]; rfl]
  have tol : ∀ c ∈ [D.clo 33 [.str (textOf ks rows)], .clo 32 [.lst (rows.map rowD), .str ks]], ∀ (h : Hm) (Q : QD) (X : QX), Q (toldD ks rows) h → callI tl.P Fs (d + 8) 28 [c] h Q X := fun c hm h Q X q => by
    simp only [List.mem_cons, List.not_mem_nil, or_false] at hm
    rcases hm with rfl | rfl
    · exact c_told (d := d + 7) (fun Q X m => c_lam1 hk k1 kl hr hl m) q
    · exact c_told (d := d + 7) (fun Q X m => c_lam0 hk k1 kl hr hl m) q
  generalize hcl : [D.clo 33 [.str (textOf ks rows)], .clo 32 [.lst (rows.map rowD), .str ks]] = cl at tol
  refine ⟨_, rfl, cl, ?_, ?_⟩
  · show (match (h ++ [D.lst cl]).getD h.length .non with | .lst l => some l | _ => none) = _
    rw [List.getD_eq_getElem?_getD, here]
    rfl
  have es : src (h ++ [D.lst cl]) (.ref h.length) = [(h.length, .lst cl)] := by
    show [(h.length, (h ++ [D.lst cl]).getD h.length .non)] = _
    rw [List.getD_eq_getElem?_getD, here]
    rfl
  rw [es]
  have stl := still_ref (here (.lst cl))
  refine loop_inv (fun i v h' => h' = h ++ [.lst cl] ∧ ∃ x4 x5, v = [some (.str ks), some (.lst (rows.map rowD)), some (partD ks rows), some (.ref h.length), x4, x5, none, some (.str (textOf ks rows)), none, none, none]) _ 0 _ _ (fun i x v h' k ei hv kk => ?_) (fun v h' hv => ?_) ⟨rfl, none, none, rfl⟩
  · obtain ⟨rfl, x4, x5, rfl⟩ := hv
    refine ⟨stl, _, rfl, _, rfl, tol x (List.mem_of_getElem? ei) _ _ _ ?_⟩
    have go := kk [some (.str ks), some (.lst (rows.map rowD)), some (partD ks rows), some (.ref h.length), some x, some (toldD ks rows), none, some (.str (textOf ks rows)), none, none, none] (h ++ [.lst cl]) ⟨rfl, _, _, rfl⟩
    cases e : part ks rows with
    | none =>
      have e1 : partD ks rows = .non := by unfold partD; rw [e]
      have e2 : toldD ks rows = .tup [.str [116, 111, 108, 100], stD ks rows] := by unfold toldD; rw [e]
      rw [e1, e2] at go ⊢
      refine ⟨_, rfl, _, rfl, true, rfl, ?_⟩
      rw [if_pos rfl]
      refine ⟨_, rfl, _, rfl, .bl false, rfl, false, rfl, ?_⟩
      rw [if_neg (by decide)]
      refine ⟨_, rfl, _, rfl, _, rfl, _, rfl, _, rfl, c_is_store hL ?_⟩
      refine ⟨true, rfl, false, rfl, ?_⟩
      rw [if_neg (by decide)]
      refine ⟨_, rfl, false, rfl, ?_⟩
      rw [if_neg (by decide)]
      refine ⟨false, rfl, ?_⟩
      rw [if_neg (by decide)]
      exact go
    | some w =>
      have e1 : partD ks rows = w := by unfold partD; rw [e]
      have e2 : toldD ks rows = .tup [.str [112, 97, 114, 116], w] := by unfold toldD; rw [e]
      rw [e1, e2] at go ⊢
      have w3 : isTy tl.P.isC w = true ∧ (([Cl.bool] : List Cl).any fun c => isInst w c) = false := by
        rcases part_flat e with ⟨i, rfl⟩ | ⟨s, rfl⟩ <;> exact ⟨rfl, rfl⟩
      have w4 : ∀ h, cont h w = w := fun h => by
        rcases part_flat e with ⟨i, rfl⟩ | ⟨s, rfl⟩ <;> rfl
      have w5 : ∀ h, dOp h .ne w w = some (.bl false) := fun h => by
        rcases part_flat e with ⟨i, rfl⟩ | ⟨s, rfl⟩
        · show some (D.bl (!((i : Int) == (i : Int)))) = _
          simp
        · show some (D.bl (!(s == s))) = _
          simp
      refine ⟨_, rfl, _, rfl, _, rfl, ?_⟩
      rw [if_neg (by rcases part_flat e with ⟨i, rfl⟩ | ⟨s, rfl⟩ <;> exact Bool.false_ne_true)]
      refine ⟨_, rfl, ?_⟩
      rw [if_neg (by decide)]
      refine ⟨_, rfl, _, rfl, ?_⟩
      rw [if_pos (by rcases part_flat e with ⟨i, rfl⟩ | ⟨s, rfl⟩ <;> rfl)]
      refine ⟨_, rfl, _, rfl, .bl false, rfl, false, rfl, ?_⟩
      rw [if_neg (by decide)]
      refine ⟨_, rfl, w, rfl, by rw [w4]; exact w3.1, false, by rw [w4, w3.2], ?_⟩
      rw [if_neg (by decide)]
      refine ⟨_, rfl, _, rfl, _, rfl, _, w5 _, false, rfl, ?_⟩
      rw [if_neg (by decide)]
      exact go
  · obtain ⟨rfl, x4, x5, rfl⟩ := hv
    refine ⟨stl, ?_⟩
    have fd : frz h.length (partD ks rows) = true ∧ noClo (partD ks rows) = true := by
      unfold partD
      cases e : part ks rows with
      | none => exact ⟨rfl, rfl⟩
      | some w => rcases part_flat e with ⟨i, rfl⟩ | ⟨s, rfl⟩ <;> exact ⟨rfl, rfl⟩
    refine ⟨fun m hm => ?_, ?_⟩
    · have e1 : (h ++ [D.lst cl])[m]? = h[m]? := List.getElem?_append_left hm
      have e2 : h[m]? = some h[m] := List.getElem?_eq_getElem hm
      exact ⟨⟨h[m], by rw [e1, e2], hc m _ e2⟩, .inl e1⟩
    have ec : ∃ y4 y5, cutE h.length [some (.str ks), some (.lst (rows.map rowD)), some (partD ks rows), some (.ref h.length), x4, x5, none, some (.str (textOf ks rows)), none, none, none] = [some (.str ks), some (.lst (rows.map rowD)), some (partD ks rows), none, y4, y5, none, some (.str (textOf ks rows)), none, none, none] := by
      refine ⟨cut1 h.length x4, cut1 h.length x5, ?_⟩
      show [cut1 h.length (some (.str ks)), cut1 h.length (some (.lst (rows.map rowD))), cut1 h.length (some (partD ks rows)), cut1 h.length (some (.ref h.length)), cut1 h.length x4, cut1 h.length x5, none, cut1 h.length (some (.str (textOf ks rows))), none, none, none] = _
      rw [cut1_ok rfl rfl, cut1_ok (d := .lst (rows.map rowD)) (frz_rows rows) (noClo_rows rows), cut1_ok fd.1 fd.2, cut1_ok (d := .str (textOf ks rows)) rfl rfl]
      have z : cut1 h.length (some (.ref h.length)) = none := by
        show (if decide (h.length < h.length) && true then some (D.ref h.length) else none) = none
        simp
      rw [z]
    obtain ⟨y4, y5, ec⟩ := ec
    rw [ec, show (h ++ [D.lst cl]).take h.length = h from by rw [List.take_left']; rfl]
    have endT : ∀ more : Hm, trunc h.length h (h ++ more) (.bl true) Q := fun more => trunc_app (reify_frz 4 rfl) q
    have end0 := endT []
    rw [List.append_nil] at end0
    cases e : part ks rows with
    | some w =>
      have e1 : partD ks rows = w := by unfold partD; rw [e]
      rw [e1]
      refine ⟨_, rfl, _, rfl, ?_⟩
      rw [if_pos (by rcases part_flat e with ⟨i, rfl⟩ | ⟨s, rfl⟩ <;> rfl)]
      exact end0
    | none =>
      have e1 : partD ks rows = .non := by unfold partD; rw [e]
      rw [e1]
      obtain ⟨srt, oks, _⟩ := scan_srt rows 0 none (part_none e)
      refine ⟨_, rfl, false, rfl, ?_⟩
      rw [if_neg (by decide)]
      refine ⟨_, rfl, c_read hk k1 kl hr hl ?_⟩
      unfold Made
      rw [e]
      refine ⟨_, rfl, _, rfl, _, rfl, _, rfl, _, rfl, ?_⟩
      have hp0 : (h ++ [D.ins 4 []])[h.length]? = some (.ins 4 []) := here _
      refine c_init hp0 hk k1 (Nat.le_trans kl (by decide)) (rt_of hr) hL ?_
      rw [e]
      rw [show (h ++ [D.ins 4 []]).set h.length (.ins 4 (storeF ks rows)) = h ++ [stD ks rows] by rw [List.set_append_right _ _ (Nat.le_refl _), Nat.sub_self]; rfl]
      refine ⟨rfl, ⟨_, rfl⟩, ⟨_, cont_ref (here _)⟩, c_eq (rt_of hr) (here _) ?_⟩
      refine ⟨true, rfl, false, rfl, ?_⟩
      rw [if_neg (by decide)]
      refine ⟨_, rfl, c_store_text kl hr hl ?_⟩
      refine ⟨_, rfl, .bl false, ?_, false, rfl, ?_⟩
      · show some (D.bl (!(textOf ks rows == textOf ks rows))) = _
        simp
      rw [if_neg (by decide)]
      refine ⟨_, rfl, rows.map rowD, rfl, by simpa using hL, ?_⟩
      refine loop_map (α := Rw) (g := rowD) (f := fun _ => .bl true) still_nil rows [] (fun r hm acc k hk2 => ?_) ?_
      · have ok := oks r hm
        unfold okR at ok
        have ok := of_decide_eq_true ok
        refine ⟨_, rfl, _, rfl, _, rfl, _, rfl, c_rights_of kl srt hm ok.1 ok.2.1 ?_⟩
        refine ⟨_, rfl, .bl true, ?_, hk2⟩
        show some (D.bl (r.s == r.s)) = _
        simp
      · refine ⟨.bl true, ?_, endT _⟩
        have e3 : (([] : List D) ++ List.map (fun _ => D.bl true) rows) = (rows.map fun _ => true).map D.bl := by simp
        rw [e3]
        show (blsOf _).map _ = _
        rw [bls_map]
        simp
end K65
end

section
set_option maxRecDepth 100000
set_option maxHeartbeats 4000000
namespace K65
open Pv
def hnd (cs : List Int) (i x y k : Int) : D := .lst [.lst (cs.map .int), .int i, .int x, .int y, .int k]
def IsHand (o : D) : Prop := ∃ cs i x y k, o = hnd cs i x y k ∧ 0 ≤ i
theorem it_ref {h : Hm} {p : Nat} {l : List D} {j : Int} (e : h[p]? = some (.lst l)) : dItem h (.ref p) (.int j) = (ixOf l.length j).bind fun n => l[n]? := by
  unfold dItem
  rw [cont_ref e]
theorem set_get {h : Hm} {p : Nat} {o x : D} (e : h[p]? = some o) : (h.set p x)[p]? = some x := List.getElem?_set_self (at_len e)
theorem mul_ok {h : Hm} {a b : Int} (hb : -(2 ^ 64) < b ∧ b < 2 ^ 64) : dOp h .mul (.int a) (.int b) = some (.int (a * b)) := by
  show (if (-(2 ^ 64) < a ∧ a < 2 ^ 64) ∨ (-(2 ^ 64) < b ∧ b < 2 ^ 64) then some (D.int (a * b)) else none) = _
  rw [if_pos (.inr hb)]
theorem mul_ok' {h : Hm} {a b : Int} (hb : -(2 ^ 64) < a ∧ a < 2 ^ 64) : dOp h .mul (.int a) (.int b) = some (.int (a * b)) := by
  show (if (-(2 ^ 64) < a ∧ a < 2 ^ 64) ∨ (-(2 ^ 64) < b ∧ b < 2 ^ 64) then some (D.int (a * b)) else none) = _
  rw [if_pos (.inl hb)]
theorem mod_ok {h : Hm} {a b : Int} (hb : 0 < b) : dOp h .mod (.int a) (.int b) = some (.int (a % b)) := by
  show (if 0 < b then some (D.int (a % b)) else none) = _
  rw [if_pos hb]
theorem fdiv_ok {h : Hm} {a b : Int} (hb : 0 < b ∧ b < 1073741824) : dOp h .fdiv (.int a) (.int b) = some (.int (a / b)) := by
  show (if 0 < b ∧ b < 1073741824 then some (D.int (a / b)) else none) = _
  rw [if_pos hb]
/-- the rest of a draw, the number from the hand's own row -/
theorem c_draw {d p : Nat} {b : Int} {h : Hm} {o : D} {Q : QD} {X : QX} (hp : h[p]? = some o) (ho : IsHand o) (hb : 0 < b ∧ b < 1073741824) (q : ∀ n hd, 0 ≤ n → n < b → IsHand hd → Q (.int n) (h.set p hd)) : callI tl.P Fs (d + 1) 21 [.ref p, .int b] h Q X := by
  obtain ⟨cs, i, x, y, k, rfl, hi⟩ := ho
  refine call_at (i := 21) rfl rfl rfl ?_
  show dSs _ _ b__law_draw _ _ _
  simp only [b__law_draw, dSs, dS, dE, dEs, dEo, dM, dIt, dTests, pinQ, Bool.false_eq_true, if_false, if_true]
  -- behind the first if
  have main : ∀ (cs : List Int) (i x y k : Int) (h1 : Hm) (c : Option D), 0 ≤ i → h1[p]? = some (hnd cs i x y k) → (∀ hd, h1.set p hd = h.set p hd) →
      dSs tl.P (callI tl.P Fs d) (.cons (.iff (.op .gt (.idx (.slot 0) (.cst (.int 2))) (.cst (.int 0))) (.cons (.asg (.slot 3) (.op .mod (.bi .int (.cons (.idx (.slot 0) (.cst (.int 2))) .nil)) (.slot 1))) (.cons (.asgI (.slot 0) (.cst (.int 2)) (.op .fdiv (.idx (.slot 0) (.cst (.int 2))) (.slot 1))) (.cons (.ret (.slot 3)) .nil))) .nil) (.cons (.asgI (.slot 0) (.cst (.int 4)) (.op .add (.idx (.slot 0) (.cst (.int 4))) (.cst (.int 1)))) (.cons (.asg (.slot 4) (.op .mod (.bi .int (.cons (.op .mul (.bi .int (.cons (.op .add (.idx (.slot 0) (.cst (.int 3))) (.op .mul (.cst (.int 7919)) (.idx (.slot 0) (.cst (.int 4))))) .nil)) (.cst (.int 48271))) .nil)) (.cst (.int 2147483647)))) (.cons (.asg (.slot 4) (.op .mod (.bi .int (.cons (.op .mul (.slot 4) (.op .add (.op .fdiv (.slot 4) (.cst (.int 1009))) (.cst (.int 69621)))) .nil)) (.cst (.int 2147483647)))) (.cons (.asg (.slot 4) (.op .mod (.bi .int (.cons (.op .mul (.slot 4) (.op .add (.op .fdiv (.slot 4) (.cst (.int 2003))) (.cst (.int 40014)))) .nil)) (.cst (.int 2147483563)))) (.cons (.ret (.op .mod (.bi .int (.cons (.op .fdiv (.slot 4) (.cst (.int 16))) .nil)) (.slot 1))) .nil))))))
        { nx := fun _ h' => Q .non h', rt := Q, ex := fun _ e h' => X e h' } [some (.ref p), some (.int b), c, none, none] h1 := fun cs i x y k h1 c hi e hs => by
    simp only [dSs, dS, dE, dEs]
    refine ⟨_, rfl, .int x, by rw [it_ref e]; rfl, .bl (decide (0 < x)), rfl, _, rfl, ?_⟩
    by_cases hx : 0 < x
    · rw [if_pos (by simpa using hx)]
      refine ⟨_, rfl, .int x, by rw [it_ref e]; rfl, .int x, rfl, _, rfl, _, mod_ok hb.1, _, rfl, ?_⟩
      refine ⟨_, rfl, .int x, by rw [it_ref e]; rfl, _, rfl, _, fdiv_ok hb, _, rfl, p, _, _, rfl, e, rfl, _, rfl, ?_⟩
      rw [hs]
      exact q _ _ (Int.emod_nonneg _ (by omega)) (Int.emod_lt_of_pos _ hb.1) ⟨cs, i, _, y, k, rfl, hi⟩
    · rw [if_neg (by simpa using hx)]
      refine ⟨_, rfl, .int k, by rw [it_ref e]; rfl, _, rfl, _, rfl, p, _, hnd cs i x y (k + 1), rfl, e, rfl, ?_⟩
      rw [hs]
      have e2 : (h.set p (hnd cs i x y (k + 1)))[p]? = some (hnd cs i x y (k + 1)) := set_get hp
      refine ⟨_, rfl, .int y, by rw [it_ref e2]; rfl, _, rfl, .int (k + 1), by rw [it_ref e2]; rfl, _, mul_ok' (by decide), _, rfl, _, rfl, _, mul_ok (by decide), _, rfl, _, mod_ok (by decide), _, rfl, ?_⟩
      refine ⟨_, rfl, _, rfl, _, fdiv_ok (by decide), _, rfl, _, mul_ok' ⟨?_, ?_⟩, _, rfl, _, mod_ok (by decide), _, rfl, ?_⟩
      · have := Int.emod_nonneg ((y + 7919 * (k + 1)) * 48271) (show (2147483647 : Int) ≠ 0 by decide)
        omega
      · have := Int.emod_lt_of_pos ((y + 7919 * (k + 1)) * 48271) (show (0 : Int) < 2147483647 by decide)
        omega
      generalize ((y + 7919 * (k + 1)) * 48271) % 2147483647 = m
      have m1 := Int.emod_nonneg (m * (m / 1009 + 69621)) (show (2147483647 : Int) ≠ 0 by decide)
      have m2 := Int.emod_lt_of_pos (m * (m / 1009 + 69621)) (show (0 : Int) < 2147483647 by decide)
      refine ⟨_, rfl, _, rfl, _, fdiv_ok (by decide), _, rfl, _, mul_ok' ⟨by omega, by omega⟩, _, rfl, _, mod_ok (by decide), _, rfl, ?_⟩
      refine ⟨_, rfl, _, fdiv_ok (by decide), _, rfl, _, rfl, _, mod_ok hb.1, ?_⟩
      exact q _ _ (Int.emod_nonneg _ (by omega)) (Int.emod_lt_of_pos _ hb.1) ⟨cs, i, x, y, k + 1, rfl, hi⟩
  refine ⟨_, rfl, .int x, by rw [it_ref hp]; rfl, .bl (x == 0), rfl, _, rfl, ?_⟩
  have rest := main cs i x y k h none hi hp (fun _ => rfl)
  simp only [dSs, dS, dE, dEs] at rest
  cases hx : (x == 0) with
  | false =>
    rw [if_neg (by decide)]
    refine ⟨false, rfl, ?_⟩
    rw [if_neg (by decide)]
    exact rest
  | true =>
    rw [if_pos rfl]
    refine ⟨_, rfl, .int i, by rw [it_ref hp]; rfl, _, rfl, .lst (cs.map .int), by rw [it_ref hp]; rfl, .int cs.length, by simp [dBi, dLen, cont], .bl (decide (i < cs.length)), rfl, _, rfl, ?_⟩
    by_cases hic : i < cs.length
    · rw [if_pos (by simpa using hic)]
      obtain ⟨c, hc⟩ : ∃ c, cs[i.toNat]? = some c := ⟨_, List.getElem?_eq_getElem (by omega)⟩
      refine ⟨_, rfl, .lst (cs.map .int), by rw [it_ref hp]; rfl, _, rfl, .int i, by rw [it_ref hp]; rfl, .int c, ?_, _, rfl, ?_⟩
      · show (ixOf (cs.map D.int).length i).bind (fun n => (cs.map D.int)[n]?) = _
        have e : i = ((i.toNat : Nat) : Int) := by omega
        rw [e, ix_nat (by rw [List.length_map]; omega)]
        show (cs.map D.int)[i.toNat]? = _
        rw [List.getElem?_map, hc]
        rfl
      have e1 : (h.set p (hnd cs (i + 1) x y k))[p]? = some (hnd cs (i + 1) x y k) := set_get hp
      refine ⟨_, rfl, .int i, by rw [it_ref hp]; rfl, _, rfl, _, rfl, p, _, hnd cs (i + 1) x y k, rfl, hp, rfl, ?_⟩
      refine ⟨_, rfl, .int y, by rw [it_ref e1]; rfl, _, mul_ok (by decide), _, rfl, _, mul_ok (by decide), _, rfl, _, rfl, _, rfl, _, mod_ok (by decide), _, rfl, p, _, hnd cs (i + 1) x ((y * 69621 + c * 40692 + 31) % 2147483629) k, rfl, e1, rfl, ?_⟩
      rw [List.set_set]
      have e2 : (h.set p (hnd cs (i + 1) x ((y * 69621 + c * 40692 + 31) % 2147483629) k))[p]? = some (hnd cs (i + 1) x ((y * 69621 + c * 40692 + 31) % 2147483629) k) := set_get hp
      generalize (y * 69621 + c * 40692 + 31) % 2147483629 = y2 at e2 ⊢
      refine ⟨_, rfl, .int (10 ^ 18), rfl, .bl (!decide (c < 10 ^ 18)), rfl, _, rfl, ?_⟩
      cases hcc : (!decide (c < 10 ^ 18)) with
      | true =>
        rw [if_pos rfl]
        have e3 : (h.set p (hnd cs (i + 1) c y2 k))[p]? = some (hnd cs (i + 1) c y2 k) := set_get hp
        refine ⟨_, rfl, _, rfl, p, _, hnd cs (i + 1) c y2 k, rfl, e2, rfl, ?_⟩
        rw [List.set_set]
        have rest := main cs (i + 1) c y2 k _ (some (.int c)) (by omega) e3 (fun _ => List.set_set ..)
        simp only [dSs, dS, dE, dEs] at rest
        exact rest
      | false =>
        rw [if_neg (by decide)]
        have rest := main cs (i + 1) x y2 k _ (some (.int c)) (by omega) e2 (fun _ => List.set_set ..)
        simp only [dSs, dS, dE, dEs] at rest
        exact rest
    · rw [if_neg (by simpa using hic)]
      exact rest
end K65
end

section
set_option maxRecDepth 100000
set_option maxHeartbeats 4000000
namespace K65
open Pv
/-- the hand at p may have moved -/
def Hs (h : Hm) (p : Nat) (h' : Hm) : Prop := p < h.length ∧ ∃ hd, IsHand hd ∧ h' = h.set p hd
theorem Hs.len {h h' : Hm} {p : Nat} (s : Hs h p h') : h'.length = h.length := by
  obtain ⟨_, hd, _, rfl⟩ := s
  simp
theorem Hs.at_ {h h' : Hm} {p : Nat} (s : Hs h p h') : ∃ hd, IsHand hd ∧ h'[p]? = some hd := by
  obtain ⟨l, hd, i, rfl⟩ := s
  exact ⟨hd, i, List.getElem?_set_self l⟩
theorem Hs.start {h : Hm} {p : Nat} {o : D} (e : h[p]? = some o) (i : IsHand o) : Hs h p h := by
  refine ⟨at_len e, o, i, ?_⟩
  apply List.ext_getElem?
  intro n
  by_cases z : p = n
  · subst z
    rw [e, List.getElem?_set_self (at_len e)]
  · rw [List.getElem?_set_ne z]
theorem Hs.step {h h' : Hm} {p : Nat} (s : Hs h p h') {hd : D} (i : IsHand hd) : Hs h p (h'.set p hd) := by
  obtain ⟨l, _, _, rfl⟩ := s
  exact ⟨l, hd, i, by rw [List.set_set]⟩
theorem Hs.app {h h' more : Hm} {p : Nat} (l : p < h.length) : Hs (h ++ more) p h' ↔ ∃ h1, Hs h p h1 ∧ h' = h1 ++ more := by
  constructor
  · rintro ⟨_, hd, i, rfl⟩
    exact ⟨h.set p hd, ⟨l, hd, i, rfl⟩, List.set_append_left _ _ l⟩
  · rintro ⟨_, ⟨_, hd, i, rfl⟩, rfl⟩
    exact ⟨by rw [List.length_append]; omega, hd, i, (List.set_append_left _ _ l).symm⟩
theorem Hs.trans {h h1 h2 : Hm} {p : Nat} (a : Hs h p h1) (b : Hs h1 p h2) : Hs h p h2 := by
  obtain ⟨l, _, _, rfl⟩ := a
  obtain ⟨_, hd, i, rfl⟩ := b
  exact ⟨l, hd, i, by rw [List.set_set]⟩
theorem drw {d p : Nat} {b : Int} {h h1 : Hm} {Q : QD} {X : QX} (s : Hs h p h1) (hb : 0 < b ∧ b < 1073741824) (q : ∀ n h', 0 ≤ n → n < b → Hs h p h' → Q (.int n) h') : callI tl.P Fs (d + 1) 21 [.ref p, .int b] h1 Q X := by
  obtain ⟨hd, i, e⟩ := s.at_
  exact c_draw e i hb fun n hd' h1 h2 i' => q n _ h1 h2 (s.step i')
theorem any_ {d p : Nat} {l : List D} {h h1 : Hm} {Q : QD} {X : QX} (s : Hs h p h1) (hl : 0 < l.length ∧ l.length < 1073741824) (q : ∀ x ∈ l, ∀ h', Hs h p h' → Q x h') : callI tl.P Fs (d + 2) 22 [.ref p, .lst l] h1 Q X := by
  refine call_at (i := 22) rfl rfl rfl ?_
  show dSs _ _ b__law_any _ _ _
  simp only [b__law_any, dSs, dS, dE, dEs, dEo, dM, dIt, dTests, pinQ, Bool.false_eq_true, if_false, if_true]
  refine ⟨_, rfl, _, rfl, _, rfl, .int l.length, rfl, drw s (by omega) fun n h' n0 n1 s' => ?_⟩
  obtain ⟨x, hx⟩ : ∃ x, l[n.toNat]? = some x := ⟨_, List.getElem?_eq_getElem (by omega)⟩
  refine ⟨x, ?_, q x (List.mem_of_getElem? hx) h' s'⟩
  show (ixOf l.length n).bind (fun n => l[n]?) = _
  have e : n = ((n.toNat : Nat) : Int) := by omega
  rw [e, ix_nat (by omega)]
  exact hx
theorem sub_one {c : Nat} {s : List Nat} : isSub [c] s = decide (c ∈ s) := by
  unfold isSub
  by_cases m : c ∈ s
  · rw [decide_eq_true m, List.any_eq_true]
    obtain ⟨i, hi⟩ := List.mem_iff_getElem?.mp m
    have li := (List.getElem?_eq_some_iff.mp hi).1
    refine ⟨i, List.mem_range.mpr (by omega), ?_⟩
    rw [List.drop_eq_getElem_cons li, (List.getElem?_eq_some_iff.mp hi).2]
    simp [isPre]
  · rw [decide_eq_false m, List.any_eq_false]
    intro i hi
    cases e : s.drop i with
    | nil => simp [isPre]
    | cons a r =>
      have : a ∈ s := List.mem_of_mem_drop (by rw [e]; exact List.mem_cons_self)
      have ne : c ≠ a := fun z => m (z ▸ this)
      simp [isPre, ne]
theorem fil_sub {s l : List Nat} (h : s.Sublist l) : l.Nodup → l.filter (fun c => decide (c ∈ s)) = s := by
  induction h with
  | slnil => intro _; rfl
  | cons a h ih =>
    rename_i s l
    intro nd
    obtain ⟨n1, n2⟩ := List.nodup_cons.mp nd
    rw [List.filter_cons, if_neg (by simpa using fun m => n1 (h.subset m)), ih n2]
  | cons_cons a h ih =>
    rename_i s l
    intro nd
    obtain ⟨n1, n2⟩ := List.nodup_cons.mp nd
    rw [List.filter_cons, if_pos (by simp)]
    congr 1
    have e : l.filter (fun c => decide (c ∈ a :: s)) = l.filter (fun c => decide (c ∈ s)) := by
      apply List.filter_congr
      intro x hx
      have : x ≠ a := fun z => n1 (z ▸ hx)
      simp [this]
    rw [e, ih n2]
theorem rt_sub {s : List Nat} (h : s.Sublist RG) (n : s ≠ []) : Rt s := by
  refine ⟨n, ?_⟩
  have e : rtF s = RG.filter fun c => decide (c ∈ s) := by
    unfold rtF
    apply List.filter_congr
    intro x _
    exact sub_one
  rw [e, fil_sub h (by decide)]
theorem rights_ {d p : Nat} {h h1 : Hm} {Q : QD} {X : QX} (s : Hs h p h1) (q : ∀ s h', Rt s → Hs h p h' → Q (.str s) h') : callI tl.P Fs (d + 2) 23 [.ref p] h1 Q X := by
  refine call_at (i := 23) rfl rfl rfl ?_
  show dSs _ _ b__law_some_rights _ _ _
  simp only [b__law_some_rights, dSs, dS, dE, dEs, dEo, dM, dIt, dTests, pinQ, Bool.false_eq_true, if_false, if_true]
  refine ⟨rfl, RG.map fun c => .str [c], rfl, by decide, ?_⟩
  refine loop_inv (fun i acc h' => Hs h p h' ∧ ∃ s : List Nat, s.Sublist (RG.take i) ∧ acc = s.map fun c => .str [c]) _ 0 _ _ (fun i x acc h' k ei hv kk => ⟨still_nil, ?_⟩) (fun acc h' hv => ⟨still_nil, ?_⟩) ⟨s, [], List.nil_sublist _, rfl⟩
  · rw [Nat.zero_add] at hv kk
    obtain ⟨hs, w, ws, rfl⟩ := hv
    rw [List.getElem?_map, Option.map_eq_some_iff] at ei
    obtain ⟨c, ec, rfl⟩ := ei
    have et : RG.take (i + 1) = RG.take i ++ [c] := by
      rw [List.take_succ, ec]
      rfl
    refine ⟨_, rfl, _, rfl, drw hs (by decide) fun n h2 _ _ hs2 => ?_⟩
    refine ⟨.bl (n == 0), rfl, _, rfl, ?_⟩
    cases (n == 0) with
    | true =>
      rw [if_pos rfl]
      exact ⟨_, rfl, kk _ _ ⟨hs2, w ++ [c], by rw [et]; exact ws.append (List.Sublist.refl _), by simp⟩⟩
    | false =>
      rw [if_neg (by decide)]
      exact kk _ _ ⟨hs2, w, by rw [et]; exact ws.trans (List.sublist_append_left _ _), rfl⟩
  · obtain ⟨hs, w, ws, rfl⟩ := hv
    have ws : w.Sublist RG := ws.trans (List.take_sublist _ _)
    refine .inl ⟨.str w, ?_, _, rfl, _, rfl, .bl (!(w == [])), rfl, _, rfl, ?_⟩
    · have e : (w.map fun c => D.str [c]) = (w.map fun c => [c]).map D.str := by rw [List.map_map]; rfl
      rw [e, join_ok, flat_one]
      rw [sum_one]
      exact Nat.le_trans ws.length_le (by decide)
    · cases w with
      | nil =>
        rw [if_neg (by decide)]
        refine ⟨_, rfl, drw hs (by decide) fun n h2 n0 n1 hs2 => ?_⟩
        obtain ⟨c, hc⟩ : ∃ c, RG[n.toNat]? = some c := ⟨_, List.getElem?_eq_getElem (by show n.toNat < 5; omega)⟩
        refine ⟨.str [c], ?_, q [c] h2 ?_ hs2⟩
        · show (if RG.length ≤ LINE then (ixOf RG.length n).bind fun n => RG[n]?.map fun c => D.str [c] else none) = _
          rw [if_pos (by decide)]
          have e : n = ((n.toNat : Nat) : Int) := by omega
          rw [e, ix_nat (by show n.toNat < 5; omega)]
          show RG[n.toNat]?.map _ = _
          rw [hc]
          rfl
        · exact rt_sub (List.singleton_sublist.mpr (List.mem_of_getElem? hc)) (by simp)
      | cons a r =>
        rw [if_pos (by rfl)]
        exact ⟨_, rfl, q _ _ (rt_sub ws (by simp)) hs⟩
end K65
end

section
set_option maxRecDepth 100000
set_option maxHeartbeats 4000000
namespace K65
open Pv
theorem data_keys : ∀ (l : List Rw), areData (l.map keyD) = true
  | [] => rfl
  | r :: l => by
    show (true && areData (l.map keyD)) = true
    rw [data_keys l]
    rfl
theorem depth_keys : ∀ (l : List Rw), depths (l.map keyD) ≤ 1
  | [] => by decide
  | r :: l => by
    show max (depth (keyD r)) (depths (l.map keyD)) ≤ 1
    have : depth (keyD r) = 1 := rfl
    have := depth_keys l
    omega
theorem notin_keys {h : Hm} {a b : Nat} (l : List Rw) : ∃ k, dOp h .notin (.tup [.int a, .int b]) (.lst (l.map keyD)) = some (.bl k) := by
  refine ⟨!((l.map keyD).any fun y => deq y (.tup [.int a, .int b])), ?_⟩
  show (if (isData (.tup [.int a, .int b]) && areData (l.map keyD) && decide (depth (.tup [.int a, .int b]) ≤ 64) && decide (depths (l.map keyD) ≤ 63)) = true then some ((l.map keyD).any fun y => deq y (.tup [.int a, .int b])) else none).map (fun c => D.bl (!c)) = _
  have := depth_keys l
  rw [data_keys, decide_eq_true (show depths (l.map keyD) ≤ 63 by omega)]
  rfl
theorem ins_rows (r : Rw) : ∀ (l : List Rw), ∃ l' : List Rw, insD (rowD r) (l.map rowD) = l'.map rowD ∧ l'.length = l.length + 1 ∧ ∀ x ∈ l', x = r ∨ x ∈ l
  | [] => ⟨[r], rfl, rfl, fun x hx => .inl (List.mem_singleton.mp hx)⟩
  | y :: l => by
    obtain ⟨l', h1, h2, h3⟩ := ins_rows r l
    show ∃ l', (if slt (rowD y) (rowD r) = true then rowD y :: insD (rowD r) (l.map rowD) else rowD r :: rowD y :: l.map rowD) = _ ∧ _
    by_cases q : slt (rowD y) (rowD r) = true
    · rw [if_pos q]
      refine ⟨y :: l', by rw [h1]; rfl, by rw [List.length_cons, h2]; rfl, fun x hx => ?_⟩
      rcases List.mem_cons.mp hx with rfl | hx
      · exact .inr List.mem_cons_self
      · rcases h3 x hx with w | w
        · exact .inl w
        · exact .inr (List.mem_cons_of_mem _ w)
    · rw [if_neg q]
      refine ⟨r :: y :: l, rfl, rfl, fun x hx => ?_⟩
      rcases List.mem_cons.mp hx with rfl | hx
      · exact .inl rfl
      · exact .inr hx
theorem sort_rows : ∀ (l : List Rw), ∃ l' : List Rw, sortD (l.map rowD) = l'.map rowD ∧ l'.length = l.length ∧ ∀ x ∈ l', x ∈ l
  | [] => ⟨[], rfl, rfl, fun x hx => hx⟩
  | r :: l => by
    obtain ⟨l1, h1, h2, h3⟩ := sort_rows l
    obtain ⟨l2, g1, g2, g3⟩ := ins_rows r l1
    refine ⟨l2, ?_, by rw [g2, h2]; rfl, fun x hx => ?_⟩
    · show insD (rowD r) (sortD (l.map rowD)) = _
      rw [h1, g1]
    · rcases g3 x hx with rfl | w
      · exact List.mem_cons_self
      · exact List.mem_cons_of_mem _ (h3 x w)
theorem sortable_rows {l : List Rw} (h : ∀ r ∈ l, Rt r.s) : sortable (l.map rowD) = true := by
  unfold sortable
  rw [data_rows h, Bool.true_and, List.all_eq_true]
  intro x hx
  rw [List.all_eq_true]
  intro y hy
  obtain ⟨a, _, rfl⟩ := List.mem_map.mp hx
  obtain ⟨b, _, rfl⟩ := List.mem_map.mp hy
  rfl
theorem rt_g : Rt [103] := rt_sub (by decide) (by decide)
theorem rt_t : Rt [116] := rt_sub (by decide) (by decide)
theorem rt_x : Rt [120] := rt_sub (by decide) (by decide)
theorem rt_w : Rt [119] := rt_sub (by decide) (by decide)
theorem hand_frz {n : Nat} {o : D} (h : IsHand o) : frz n o = true := by
  obtain ⟨cs, i, x, y, k, rfl, _⟩ := h
  have e : ∀ l : List Int, frzs n (l.map .int) = true := fun l => by
    induction l with
    | nil => rfl
    | cons a l ih => show (true && frzs n (l.map D.int)) = true; rw [ih]; rfl
  show (frzs n (cs.map .int) && (true && (true && (true && (true && true))))) = true
  rw [e]
  rfl
/-- what was drawn is told, the hand has moved -/
theorem trunc_hs {g g1 more : Hm} {p : Nat} {d d' : D} {Q : D → Hm → Prop} (s : Hs g p g1) (hr : reify g.length (g1 ++ more) 4 d = some d') (q : Q d' g1) : trunc g.length g (g1 ++ more) d Q := by
  have l := s.len
  refine ⟨fun m hm => ?_, d', hr, by rw [← l, List.take_left']; exact q; rfl⟩
  rw [List.getElem?_append_left (by omega)]
  obtain ⟨lp, hd, i, rfl⟩ := s
  by_cases z : p = m
  · subst z
    exact .inr ⟨hd, List.getElem?_set_self lp, hand_frz i⟩
  · exact .inl (List.getElem?_set_ne z)
end K65
end

section
set_option maxRecDepth 100000
set_option maxHeartbeats 4000000
namespace K65
open Pv
section
variable {d p : Nat} {h h1 more : Hm} {Q : QD} {X : QX}
theorem drw_a {b : Int} (s : Hs h p h1) (hb : 0 < b ∧ b < 1073741824) (q : ∀ (n : Nat) h', (n : Int) < b → Hs h p h' → Q (.int n) (h' ++ more)) : callI tl.P Fs (d + 1) 21 [.ref p, .int b] (h1 ++ more) Q X := by
  refine drw (h := h ++ more) ((Hs.app s.1).mpr ⟨h1, s, rfl⟩) hb fun n h' n0 n1 s' => ?_
  obtain ⟨h3, s3, rfl⟩ := (Hs.app s.1).mp s'
  have e : n = ((n.toNat : Nat) : Int) := by omega
  rw [e] at n1 ⊢
  exact q n.toNat h3 n1 s3
theorem any_a {l : List D} (s : Hs h p h1) (hl : 0 < l.length ∧ l.length < 1073741824) (q : ∀ x ∈ l, ∀ h', Hs h p h' → Q x (h' ++ more)) : callI tl.P Fs (d + 2) 22 [.ref p, .lst l] (h1 ++ more) Q X := by
  refine any_ (h := h ++ more) ((Hs.app s.1).mpr ⟨h1, s, rfl⟩) hl fun x m h' s' => ?_
  obtain ⟨h3, s3, rfl⟩ := (Hs.app s.1).mp s'
  exact q x m h3 s3
theorem rights_a (s : Hs h p h1) (q : ∀ s h', Rt s → Hs h p h' → Q (.str s) (h' ++ more)) : callI tl.P Fs (d + 2) 23 [.ref p] (h1 ++ more) Q X := by
  refine rights_ (h := h ++ more) ((Hs.app s.1).mpr ⟨h1, s, rfl⟩) fun x h' r s' => ?_
  obtain ⟨h3, s3, rfl⟩ := (Hs.app s.1).mp s'
  exact q x h3 r s3
end
theorem le_line {n : Nat} (h : n ≤ 1100) : n ≤ LINE := Nat.le_trans h (by decide)
theorem len2 {a b : D} : [a, b].length ≤ LINE := le_line (by simp)
theorem len3 {a b c : D} : [a, b, c].length ≤ LINE := le_line (by simp)
theorem walk_ref {h : Hm} {n : Nat} {l : List D} (e : h[n]? = some (.lst l)) : walkD h (.ref n) = some l := by
  show (match h.getD n .non with | .lst l => some l | _ => none) = _
  rw [List.getD_eq_getElem?_getD, e]
  rfl
theorem src_ref {h : Hm} {n : Nat} {o : D} (e : h[n]? = some o) : src h (.ref n) = [(n, o)] := by
  show [(n, h.getD n .non)] = _
  rw [List.getD_eq_getElem?_getD, e]
  rfl
theorem end_ref {h : Hm} {n : Nat} {x : D} (e : h.length = n) : (h ++ [x])[n]? = some x := by
  subst e
  rw [List.getElem?_append_right (Nat.le_refl _), Nat.sub_self]
  rfl
theorem end_set {h : Hm} {n : Nat} {x y : D} (e : h.length = n) : (h ++ [x]).set n y = h ++ [y] := by
  subst e
  rw [List.set_append_right _ _ (Nat.le_refl _), Nat.sub_self]
  rfl
theorem end_ref2 {h : Hm} {n : Nat} {x y : D} (e : h.length = n) : (h ++ [x, y])[n + 1]? = some y := by
  subst e
  rw [List.getElem?_append_right (Nat.le_succ _), Nat.succ_eq_add_one, Nat.add_sub_cancel_left]
  rfl
theorem end_set2 {h : Hm} {n : Nat} {x y z : D} (e : h.length = n) : (h ++ [x, y]).set (n + 1) z = h ++ [x, z] := by
  subst e
  rw [List.set_append_right _ _ (Nat.le_succ _), Nat.succ_eq_add_one, Nat.add_sub_cancel_left]
  rfl
theorem map_ins {α β : Type} {f : α → β} {a : α} : ∀ (l : List α) (i : Nat), (l.map f).insertIdx i (f a) = (l.insertIdx i a).map f
  | [], 0 => rfl
  | [], _ + 1 => rfl
  | _ :: _, 0 => rfl
  | x :: l, i + 1 => by
    rw [List.insertIdx_succ_cons, List.map_cons, List.map_cons, List.insertIdx_succ_cons, map_ins l i]
theorem Hs.rel {h h1 h2 : Hm} {p : Nat} (a : Hs h p h1) (b : Hs h p h2) : Hs h1 p h2 := by
  have l := a.len
  obtain ⟨lp, hd, i, rfl⟩ := a
  obtain ⟨_, hd2, i2, rfl⟩ := b
  exact ⟨by rw [l]; exact lp, hd2, i2, by rw [List.set_set]⟩
def Env26 (p n : Nat) (ks : List Nat) (v : Env) : Prop := ∃ x4 x5 x6 x7 x8, v = [some (.ref p), some (.str ks), some (.int ks.length), some (.ref n), x4, x5, x6, x7, x8]
theorem rows_ {d p : Nat} {ks : List Nat} {h h1 : Hm} {Q : QD} {X : QX} (s : Hs h p h1) (kl : 1 ≤ ks.length ∧ ks.length ≤ 1000) (q : ∀ (rows : List Rw) h', (∀ r ∈ rows, RwOk r) → rows.length ≤ 1000 → Hs h p h' → Q (.lst (rows.map rowD)) h') : callI tl.P Fs (d + 4) 26 [.ref p, .str ks] h1 Q X := by
  refine call_tr (i := 26) rfl rfl rfl ?_
  show dSs _ _ b__law_rows _ _ _
  simp only [b__law_rows, dSs, dS, dE, dEs, dEo, dM, dIt, dTests, pinQ, Bool.false_eq_true, if_false, if_true]
  refine ⟨_, rfl, .int ks.length, ?_, by decide, len2, _, rfl, _, rfl, by decide, any_a s (by decide) fun x mx h2 s2 => ?_⟩
  · simp [dBi, dLen, cont]
    exact Nat.le_trans kl.2 (by decide)
  obtain ⟨m, rfl, m20⟩ : ∃ m : Nat, x = .int m ∧ m ≤ 20 := by
    simp only [List.mem_cons, List.not_mem_nil, or_false] at mx
    rcases mx with rfl | rfl | rfl | rfl | rfl
    · exact ⟨0, rfl, by decide⟩
    · exact ⟨1, rfl, by decide⟩
    · exact ⟨3, rfl, by decide⟩
    · exact ⟨8, rfl, by decide⟩
    · exact ⟨20, rfl, by decide⟩
  refine ⟨_, rfl, Nat.le_trans (m := 20) (by simpa using m20) (by decide), ?_⟩
  refine loop_inv (fun i v h' => Env26 p h1.length ks v ∧ ∃ (rows : List Rw) (h2 : Hm), Hs h p h2 ∧ h' = h2 ++ [.lst (rows.map rowD)] ∧ (∀ r ∈ rows, RwOk r) ∧ rows.length ≤ i) _ 0 _ _ (fun i x v h' k ei hv kk => ⟨still_nil, ?_⟩) (fun v h' hv => ⟨still_nil, ?_⟩) ⟨⟨_, _, _, _, _, rfl⟩, [], h2, s2, rfl, fun _ w => absurd w List.not_mem_nil, Nat.le_refl _⟩
  · obtain ⟨⟨x4, x5, x6, x7, x8, rfl⟩, rows, h3, s3, rfl, ro, rl⟩ := hv
    have il : i < m := by
      have := (List.getElem?_eq_some_iff.mp ei).1
      simpa using this
    refine ⟨_, rfl, _, rfl, _, rfl, drw_a s3 (by omega) fun a h4 al s4 => ?_⟩
    refine ⟨_, rfl, _, rfl, drw_a s4 (by omega) fun b h5 bl s5 => ?_⟩
    refine ⟨len2, _, rfl, _, rfl, _, rfl, .bl (!((a : Int) == b)), rfl, _, rfl, ?_⟩
    have n5 : h5.length = h1.length := s5.len.trans s.len.symm
    have f5 := end_ref (x := .lst (rows.map rowD)) n5
    generalize (!((a : Int) == b)) = c
    cases c with
    | false =>
      rw [if_neg (by decide)]
      refine ⟨false, rfl, ?_⟩
      rw [if_neg (by decide)]
      exact kk _ _ ⟨⟨_, _, _, _, _, rfl⟩, rows, h5, s5, rfl, ro, Nat.le_trans rl (Nat.le_succ _)⟩
    | true =>
      rw [if_pos rfl]
      refine ⟨_, rfl, _, rfl, len2, _, rfl, rows.map rowD, walk_ref f5, ?_, ?_⟩
      · rw [List.length_map]
        exact le_line (by omega)
      rw [src_ref f5]
      refine loop_map (α := Rw) (g := rowD) (f := keyD) (still_ref f5) rows [] (fun r hm acc k hk => ⟨_, rfl, _, rfl, _, rfl, _, rfl, hk⟩) ?_
      obtain ⟨c, hc⟩ := notin_keys (h := h5 ++ [D.lst (rows.map rowD)]) (a := a) (b := b) rows
      refine ⟨_, hc, c, rfl, ?_⟩
      cases c with
      | false =>
        rw [if_neg (by decide)]
        exact kk _ _ ⟨⟨_, _, _, _, _, rfl⟩, rows, h5, s5, rfl, ro, Nat.le_trans rl (Nat.le_succ _)⟩
      | true =>
        rw [if_pos rfl]
        refine ⟨_, rfl, by rw [cont_ref f5]; rfl, _, rfl, _, rfl, _, rfl, rights_a s5 fun t h6 rt s6 => ⟨len3, .inr ⟨_, _, .non, .lst ((rows ++ [(⟨a, b, t⟩ : Rw)]).map rowD), rfl, end_ref (s6.len.trans s.len.symm), ?_, ?_⟩⟩⟩
        · show (if (rows.map rowD).length < LINE then some (D.non, D.lst (rows.map rowD ++ [rowD ⟨a, b, t⟩])) else none) = _
          rw [if_pos, List.map_append]
          · rfl
          · rw [List.length_map]
            exact Nat.lt_of_le_of_lt (m := 20) (by omega) (by decide)
        · rw [end_set (s6.len.trans s.len.symm)]
          refine kk _ _ ⟨⟨_, _, _, _, _, rfl⟩, _, h6, s6, rfl, ?_, ?_⟩
          · intro r hr
            rcases List.mem_append.mp hr with hr | hr
            · exact ro r hr
            · rw [List.mem_singleton.mp hr]
              exact ⟨rt, Nat.lt_of_le_of_lt (m := 1000) (by show a ≤ _; omega) (by decide), Nat.lt_of_le_of_lt (m := 1000) (by show b ≤ _; omega) (by decide)⟩
          · simp; omega
  · obtain ⟨⟨x4, x5, x6, x7, x8, rfl⟩, rows, h3, s3, rfl, ro, rl⟩ := hv
    have rl : rows.length ≤ 20 := Nat.le_trans rl (by simpa using m20)
    have n3 : h3.length = h1.length := s3.len.trans s.len.symm
    have f3 := end_ref (x := .lst (rows.map rowD)) n3
    obtain ⟨r2, e2, l2, m2⟩ := sort_rows rows
    refine ⟨_, rfl, rows.map rowD, by rw [cont_ref f3]; rfl, ?_, sortable_rows fun r hr => (ro r hr).s, ?_⟩
    · rw [List.length_map]
      exact le_line (by omega)
    rw [e2]
    refine ⟨_, rfl, _, rfl, ?_⟩
    rw [List.append_assoc]
    refine drw_a s3 (by decide) fun c h4 cl s4 => ?_
    refine ⟨_, rfl, Nat.le_trans (m := 3) (by simp; omega) (by decide), ?_⟩
    refine loop_inv (fun i v h' => Env26 p (h1.length + 1) ks v ∧ ∃ (r3 : List Rw) (h2 : Hm), Hs h p h2 ∧ h' = h2 ++ [.lst (rows.map rowD), .lst (r3.map rowD)] ∧ (∀ r ∈ r3, RwOk r) ∧ r3.length ≤ 20 + i) _ 0 _ _ (fun i x v h' k ei hv kk => ⟨still_nil, ?_⟩) (fun v h' hv => ⟨still_nil, ?_⟩) ⟨⟨x4, x5, x6, x7, x8, by rw [List.length_append, n3]; rfl⟩, r2, h4, s4, rfl, fun r hr => ro r (m2 r hr), by omega⟩
    · obtain ⟨⟨x4, x5, x6, x7, x8, rfl⟩, r3, h5, s5, rfl, ro3, rl3⟩ := hv
      have il : i < c := by
        have := (List.getElem?_eq_some_iff.mp ei).1
        simpa using this
      have f5 := end_ref2 (x := .lst (rows.map rowD)) (y := .lst (r3.map rowD)) (s5.len.trans s.len.symm)
      refine ⟨_, rfl, _, rfl, _, rfl, .int r3.length, ?_, _, rfl, drw_a s5 (by omega) fun at_ h6 al s6 => ?_⟩
      · show (dLen _ (.ref _)).map (fun n => D.int (n : Nat)) = _
        unfold dLen
        rw [cont_ref f5]
        show some (D.int ((r3.map rowD).length : Nat)) = _
        rw [List.length_map]
      refine ⟨_, rfl, _, rfl, _, rfl, _, rfl, drw_a s6 (by omega) fun a h7 al s7 => ?_⟩
      refine ⟨_, rfl, _, rfl, _, rfl, _, rfl, drw_a s7 (by omega) fun b h8 bl s8 => ?_⟩
      refine ⟨_, rfl, len3, any_a s8 ⟨by simp, by simp⟩ fun bb mb h9 s9 => ?_⟩
      obtain ⟨b', rfl, bl'⟩ : ∃ b' : Nat, bb = .int b' ∧ b' < 10 ^ 9 := by
        have k9 : ks.length + 1 < 10 ^ 9 := Nat.lt_of_le_of_lt (Nat.succ_le_succ kl.2) (by decide)
        simp only [List.mem_cons, List.not_mem_nil, or_false] at mb
        rcases mb with rfl | rfl | rfl
        · exact ⟨b, rfl, by omega⟩
        · exact ⟨ks.length, rfl, by omega⟩
        · exact ⟨999999999, rfl, by decide⟩
      have f9 := end_ref2 (x := .lst (rows.map rowD)) (y := .lst (r3.map rowD)) (s9.len.trans s.len.symm)
      refine ⟨len2, _, rfl, _, rfl, by rw [cont_ref f9]; rfl, _, rfl, _, rfl, _, rfl, _, rfl, len3, _, rfl, _, rfl, len3, _, rfl, _, rfl, len3, ?_⟩
      obtain ⟨w, hw⟩ : ∃ w, (r3 ++ [(⟨0, 0, [119]⟩ : Rw)])[at_]? = some w := ⟨_, List.getElem?_eq_getElem (by rw [List.length_append]; show _ < _ + 1; omega)⟩
      have ow : RwOk w := by
        rcases List.mem_append.mp (List.mem_of_getElem? hw) with m | m
        · exact ro3 w m
        · rw [List.mem_singleton.mp m]
          exact ⟨rt_w, by decide, by decide⟩
      have a9 : a < 10 ^ 9 := Nat.lt_of_le_of_lt (m := 1000) (by omega) (by decide)
      refine ⟨_, rfl, len3, le_line (by simp), r3.map rowD, [rowD ⟨0, 0, [119]⟩], by rw [cont_ref f9], rfl, ?_, _, rfl, rowD w, ?_, le_line (by simp), any_a s9 ⟨by simp, by simp⟩ fun r mr h10 s10 => ?_⟩
      · exact le_line (by simp; omega)
      · have e : r3.map rowD ++ [rowD ⟨0, 0, [119]⟩] = (r3 ++ [(⟨0, 0, [119]⟩ : Rw)]).map rowD := by rw [List.map_append]; rfl
        rw [e]
        show (ixOf ((r3 ++ [(⟨0, 0, [119]⟩ : Rw)]).map rowD).length at_).bind (fun n => ((r3 ++ [(⟨0, 0, [119]⟩ : Rw)]).map rowD)[n]?) = _
        rw [ix_nat (by simp; omega)]
        show ((r3 ++ [(⟨0, 0, [119]⟩ : Rw)]).map rowD)[at_]? = _
        rw [List.getElem?_map, hw]
        rfl
      obtain ⟨r', rfl, or⟩ : ∃ r' : Rw, r = rowD r' ∧ RwOk r' := by
        simp only [List.mem_cons, List.not_mem_nil, or_false] at mr
        rcases mr with rfl | rfl | rfl | rfl
        · exact ⟨⟨a, b', [103]⟩, rfl, rt_g, a9, bl'⟩
        · exact ⟨⟨a, a, [116]⟩, rfl, rt_t, a9, a9⟩
        · exact ⟨⟨b', a, [120]⟩, rfl, rt_x, bl', a9⟩
        · exact ⟨w, rfl, ow⟩
      have n10 := s10.len.trans s.len.symm
      refine .inr ⟨_, _, .non, .lst ((r3.insertIdx at_ r').map rowD), rfl, end_ref2 n10, ?_, ?_⟩
      · show (if 0 ≤ (at_ : Int) ∧ (at_ : Int) ≤ ((r3.map rowD).length : Nat) ∧ (r3.map rowD).length < LINE then some (D.non, D.lst ((r3.map rowD).insertIdx (at_ : Int).toNat (rowD r'))) else none) = _
        rw [if_pos, Int.toNat_natCast]
        · rw [map_ins]
        · rw [List.length_map]
          exact ⟨by omega, by omega, Nat.lt_of_le_of_lt (m := 24) (by omega) (by decide)⟩
      · rw [end_set2 n10]
        refine kk _ _ ⟨⟨_, _, _, _, _, rfl⟩, _, h10, s10, rfl, ?_, ?_⟩
        · intro x hx
          rcases (List.mem_insertIdx (by omega)).mp hx with rfl | hx
          · exact or
          · exact ro3 x hx
        · rw [List.length_insertIdx]
          split <;> omega
    · obtain ⟨⟨x4, x5, x6, x7, x8, rfl⟩, r3, h5, s5, rfl, ro3, rl3⟩ := hv
      have hc : (List.map (fun i : Nat => D.int i) (List.range (c : Int).toNat)).length = c := by simp
      rw [hc] at rl3
      refine ⟨_, rfl, trunc_hs (s.rel s5) (reify_new 3 (Nat.le_succ _) (end_ref2 (s5.len.trans s.len.symm)) (frz_rows r3)) (q r3 h5 ro3 (by omega) s5)⟩
end K65
end

section
set_option maxRecDepth 100000
set_option maxHeartbeats 4000000
namespace K65
open Pv
theorem hand_ {d : Nat} {sc : D} {ns : List Int} {h : Hm} {Q : QD} {X : QX} (hs : IsScr sc ns) (hl : ns.length ≤ 63) (q : ∀ o, IsHand o → Q (.ref h.length) (h ++ [o])) : callI tl.P Fs (d + 1) 20 [sc] h Q X := by
  refine call_at (i := 20) rfl rfl rfl ?_
  show dSs _ _ b__law_hand _ _ _
  simp only [b__law_hand, dSs, dS, dE, dEs, dEo, dM, dIt, dTests, pinQ, Bool.false_eq_true, if_false, if_true]
  have hz : ∀ hm : Hm, dSlice hm sc none (some 63) = some (.lst ((cut ns none (some 63)).map .int)) := by
    intro hm
    rcases hs with rfl | rfl
    · rfl
    · show some (D.lst (cut (ns.map D.int) none (some 63))) = _
      unfold cut
      rw [List.length_map, ← List.map_drop, ← List.map_take]
  have hc : (cut ns none (some 63)).length ≤ 63 := by
    unfold cut
    rw [List.length_take, List.length_drop]
    omega
  generalize cut ns none (some 63) = cs at hz hc
  refine ⟨_, rfl, _, rfl, _, hz h, _, rfl, by rw [List.length_map]; exact le_line (by omega), ?_⟩
  refine loop_map (α := Int) (g := .int) (f := fun i => .int (if i < 0 then -i else i)) still_nil cs [] (fun x hx acc k hk => ⟨_, rfl, _, rfl, _, rfl, _, rfl, hk⟩) ?_
  refine ⟨_, rfl, _, rfl, _, rfl, .int cs.length, ?_, _, mul_ok' (by decide), _, rfl, le_line (by simp), q _ ⟨cs.map fun i => if i < 0 then -i else i, 0, 0, 719 + 7 * cs.length, 0, ?_, by decide⟩⟩
  · simp [dBi, dLen, cont]
  · simp [hnd]
theorem hc_hand {o : D} {h : Hm} (s : Hs [o] 0 h) : HC h := by
  obtain ⟨_, hd, ⟨cs, i, x, y, k, rfl, _⟩, rfl⟩ := s
  have e : ∀ l : List Int, noClos (l.map .int) = true := fun l => by
    induction l with
    | nil => rfl
    | cons a l ih => show (true && noClos (l.map D.int)) = true; rw [ih]; rfl
  intro m o' ho
  cases m with
  | succ m => cases (show none = some o' from ho)
  | zero =>
    injection (show some (hnd cs i x y k) = some o' from ho) with ho
    subst ho
    show (noClos (cs.map .int) && (true && (true && (true && (true && true))))) = true
    rw [e]
    rfl
def pairD (q : Nat × Nat) : D := .tup [.int q.1, .int q.2]
theorem range_get {n i : Nat} {x : D} (e : ((List.range n).map fun i : Nat => D.int i)[i]? = some x) : x = .int i ∧ i < n := by
  have l := (List.getElem?_eq_some_iff.mp e).1
  rw [List.length_map, List.length_range] at l
  rw [List.getElem?_map, List.getElem?_range l] at e
  injection e with e
  exact ⟨e.symm, l⟩
theorem rep_len {α : Type} {l : List α} : ∀ n, (rep n l).length = n * l.length
  | 0 => by rw [Nat.zero_mul]; rfl
  | n + 1 => by
    show (l ++ rep n l).length = _
    rw [List.length_append, rep_len n, Nat.succ_mul, Nat.add_comm]
theorem rep_mem {α : Type} {l : List α} {c : α} : ∀ n, c ∈ rep n l → c ∈ l
  | n + 1, h => by
    rcases List.mem_append.mp (show c ∈ l ++ rep n l from h) with h | h
    · exact h
    · exact rep_mem n h
theorem mul_str {h : Hm} {x : List Nat} {n : Int} (hx : x.length * n.toNat ≤ 1000000) (hn : n.natAbs ≤ 1000000) : dOp h .mul (.str x) (.int n) = some (.str (rep n.toNat x)) := by
  show (if x.length * n.toNat ≤ 1000000 ∧ n.natAbs ≤ 1000000 then some (D.str (rep n.toNat x)) else none) = _
  rw [if_pos ⟨hx, hn⟩]
theorem hc_pairs {o : D} {h : Hm} (s : Hs [o] 0 h) (ps : List (Nat × Nat)) : HC (h ++ [.lst (ps.map pairD)]) := by
  intro m x hx
  by_cases lm : m < h.length
  · rw [List.getElem?_append_left lm] at hx
    exact hc_hand s m x hx
  · rw [List.getElem?_append_right (by omega)] at hx
    have e := List.mem_singleton.mp (List.mem_of_getElem? hx)
    subst e
    have e : ∀ l : List (Nat × Nat), noClos (l.map pairD) = true := fun l => by
      induction l with
      | nil => rfl
      | cons a l ih => show (true && noClos (l.map pairD)) = true; rw [ih]; rfl
    exact e ps
theorem cut_map {α β : Type} {f : α → β} {l : List α} {lo hi : Option Int} : cut (l.map f) lo hi = (cut l lo hi).map f := by
  unfold cut
  rw [List.length_map, ← List.map_drop, ← List.map_take]
theorem slice_ref {h : Hm} {n : Nat} {l : List D} {lo hi : Option Int} (e : h[n]? = some (.lst l)) : dSlice h (.ref n) lo hi = some (.lst (cut l lo hi)) := by
  unfold dSlice
  rw [show noW h (.ref n) = cont h (.ref n) from rfl, cont_ref e]
theorem law (ns : List Int) (sc : D) (hl : ns.length ≤ 63) (hs : IsScr sc ns) : callI tl.P Fs 20 31 [sc] [] (fun r _ => r = .bl true) fun _ _ => False := by
  refine call_at (i := 31) rfl rfl rfl ?_
  show dSs _ _ b_law _ _ _
  simp only [b_law, dSs, dS, dE, dEs, dEo, dM, dIt, dTests, pinQ, Bool.false_eq_true, if_false, if_true]
  refine ⟨_, rfl, hand_ hs hl fun o io => ⟨_, rfl, _, rfl, by decide, ?_⟩⟩
  have s0 : Hs [o] 0 [o] := Hs.start rfl io
  refine loop_inv (fun i v h' => (∃ x2 x3 x4 x5 x6 x7 x8, v = [some sc, some (.ref 0), x2, x3, x4, x5, x6, x7, x8]) ∧ Hs [o] 0 h') _ 0 _ _ (fun i x v h' k ei hv kk => ⟨still_nil, ?_⟩) (fun v h' hv => ⟨still_nil, ?_⟩) ⟨⟨none, none, none, none, none, none, none, rfl⟩, s0⟩
  · obtain ⟨⟨x2, x3, x4, x5, x6, x7, x8, rfl⟩, s1⟩ := hv
    refine ⟨_, rfl, rfl, _, rfl, _, rfl, len3, any_ s1 (by decide) fun w mw h2 s2 => ?_⟩
    obtain ⟨m, rfl, m16⟩ : ∃ m : Nat, w = .int m ∧ (0 < m ∧ m ≤ 16) := by
      simp only [List.mem_cons, List.not_mem_nil, or_false] at mw
      rcases mw with rfl | rfl | rfl
      · exact ⟨3, rfl, by decide⟩
      · exact ⟨9, rfl, by decide⟩
      · exact ⟨16, rfl, by decide⟩
    refine drw s2 (by omega) fun n h3 n0 n1 s3 => ?_
    refine ⟨_, rfl, _, rfl, Nat.le_trans (m := 20) (by omega) (by decide), le_line (by simp; omega), ?_⟩
    refine loop_inv (fun i acc h' => Hs [o] 0 h' ∧ ∃ ks : List Nat, Ks ks ∧ ks.length = i ∧ acc = ks.map fun c => .str [c]) _ 0 _ _ (fun i x acc h' k ei hv kk => ⟨still_nil, ?_⟩) (fun acc h' hv => ⟨still_nil, ?_⟩) ⟨s3, [], fun _ w => absurd w List.not_mem_nil, rfl, rfl⟩
    · obtain ⟨s4, ks, hk, hkl, rfl⟩ := hv
      refine ⟨_, rfl, _, rfl, len2, any_ s4 (by decide) fun c mc h5 s5 => ?_⟩
      obtain ⟨c, rfl, hc⟩ : ∃ c' : Nat, c = .str [c'] ∧ (c' = 68 ∨ c' = 84) := by
        simp only [List.mem_cons, List.not_mem_nil, or_false] at mc
        rcases mc with rfl | rfl
        · exact ⟨68, rfl, .inl rfl⟩
        · exact ⟨84, rfl, .inr rfl⟩
      refine kk _ _ ⟨s5, ks ++ [c], fun x hx => ?_, by simp; omega, by simp⟩
      rcases List.mem_append.mp hx with hx | hx
      · exact hk x hx
      · rw [List.mem_singleton.mp hx]
        exact hc
    · obtain ⟨s4, ks, hk, hkl, rfl⟩ := hv
      have kl : 1 ≤ ks.length ∧ ks.length ≤ 16 := by
        simp at hkl
        omega
      refine .inl ⟨.str ks, ?_, _, rfl, _, rfl, _, rfl, _, rfl, rows_ s4 ⟨kl.1, by omega⟩ fun rows h6 ro rl s6 => c_is_right (hc_hand s6) hk kl.1 (by omega) ro rl ?_⟩
      · have e : (ks.map fun c => D.str [c]) = (ks.map fun c => [c]).map D.str := by rw [List.map_map]; rfl
        rw [e, join_ok, flat_one]
        rw [sum_one]
        exact le_line (by omega)
      · refine ⟨_, rfl, _, rfl, ?_⟩
        rw [if_neg (by decide)]
        exact kk _ _ ⟨⟨_, _, _, _, _, _, _, rfl⟩, s6⟩
  · obtain ⟨⟨x2, x3, x4, x5, x6, x7, x8, rfl⟩, s1⟩ := hv
    refine ⟨by decide, _, rfl, _, rfl, by decide, ?_⟩
    have n1 : h'.length = 1 := s1.len
    rw [n1]
    refine loop_inv (fun i v h' => (∃ x2 x3 x5 x6 x7 x8, v = [some sc, some (.ref 0), x2, x3, some (.ref 1), x5, x6, x7, x8]) ∧ ∃ (h2 : Hm) (ps : List (Nat × Nat)), Hs [o] 0 h2 ∧ h' = h2 ++ [.lst (ps.map pairD)] ∧ (∀ q ∈ ps, q.1 < 16 ∧ q.2 < 16) ∧ ps.length ≤ 16 * i) _ 0 _ _ (fun i x v h' k ei hv kk => ⟨still_nil, ?_⟩) (fun v h' hv => ⟨still_nil, ?_⟩) ⟨⟨x2, x3, x5, x6, x7, x8, rfl⟩, h', [], s1, rfl, fun _ w => absurd w List.not_mem_nil, Nat.zero_le _⟩
    · obtain ⟨⟨x2, x3, x5, x6, x7, x8, rfl⟩, h2, ps, s2, rfl, hp, hpl⟩ := hv
      obtain ⟨rfl, i16⟩ := range_get ei
      have t16 : (16 : Int).toNat = 16 := rfl
      have f2 := end_ref (n := 1) (x := .lst (ps.map pairD)) s2.len
      refine ⟨_, rfl, _, rfl, by rw [cont_ref f2]; rfl, _, rfl, _, rfl, Nat.le_trans (m := 16) (by show i ≤ 16; have : (16 : Int).toNat = 16 := rfl; omega) (by decide), le_line (by simp; have : (16 : Int).toNat = 16 := rfl; omega), ?_⟩
      refine loop_map (α := Nat) (g := fun j => .int j) (f := fun j => pairD (i, j)) still_nil (List.range (i : Int).toNat) [] (fun r hm acc k hk => ⟨_, rfl, _, rfl, _, rfl, len2, hk⟩) ?_
      refine .inr ⟨_, _, .non, .lst ((ps ++ (List.range (i : Int).toNat).map fun j => (i, j)).map pairD), rfl, f2, ?_, ?_⟩
      · show (if (ps.map pairD).length + (([] : List D) ++ (List.range (i : Int).toNat).map fun j => pairD (i, j)).length ≤ LINE then some (D.non, D.lst (ps.map pairD ++ (([] : List D) ++ (List.range (i : Int).toNat).map fun j => pairD (i, j)))) else none) = _
        rw [if_pos (le_line (by simp; omega))]
        simp
      · rw [end_set (n := 1) s2.len]
        refine kk _ _ ⟨⟨_, _, _, _, _, _, rfl⟩, h2, _, s2, rfl, ?_, ?_⟩
        · intro q hq
          rcases List.mem_append.mp hq with hq | hq
          · exact hp q hq
          · obtain ⟨j, hj, rfl⟩ := List.mem_map.mp hq
            rw [List.mem_range] at hj
            exact ⟨by show i < 16; omega, by show j < 16; omega⟩
        · simp
          omega
    · obtain ⟨⟨x2, x3, x5, x6, x7, x8, rfl⟩, h2, ps, s2, rfl, hp, hpl⟩ := hv
      have t16 : (List.map (fun i : Nat => D.int i) (List.range (Int.toNat 16))).length = 16 := by simp
      rw [t16] at hpl
      refine ⟨_, rfl, _, rfl, drw_a s2 (by decide) fun n h3 nl s3 => ⟨_, rfl, _, rfl, .lst ((cut ps none (some (60 + (n : Int)))).map pairD), ?_, _, rfl, ?_, ?_⟩⟩
      · rw [slice_ref (end_ref (n := 1) s3.len), cut_map]
      · rw [List.length_map]
        exact le_line (by unfold cut; rw [List.length_take, List.length_drop]; omega)
      have hp2 : ∀ q ∈ cut ps none (some (60 + (n : Int))), q.1 < 16 ∧ q.2 < 16 := fun q hq => hp q (List.mem_of_mem_drop (List.mem_of_mem_take hq))
      have hpl2 : (cut ps none (some (60 + (n : Int)))).length ≤ 256 := by
        unfold cut
        rw [List.length_take, List.length_drop]
        omega
      generalize cut ps none (some (60 + (n : Int))) = qs at hp2 hpl2
      refine loop_inv (fun i acc h' => ∃ (h2 : Hm) (rows : List Rw), Hs [o] 0 h2 ∧ h' = h2 ++ [.lst (ps.map pairD)] ∧ acc = rows.map rowD ∧ (∀ r ∈ rows, RwOk r) ∧ rows.length = i) _ 0 _ _ (fun i x acc h' k ei hv kk => ⟨still_nil, ?_⟩) (fun acc h' hv => ⟨still_nil, ?_⟩) ⟨h3, [], s3, rfl, rfl, fun _ w => absurd w List.not_mem_nil, rfl⟩
      · obtain ⟨h4, rows, s4, rfl, rfl, ro, rl⟩ := hv
        rw [List.getElem?_map, Option.map_eq_some_iff] at ei
        obtain ⟨q, eq, rfl⟩ := ei
        obtain ⟨q1, q2⟩ := hp2 q (List.mem_of_getElem? eq)
        refine ⟨_, rfl, _, rfl, _, rfl, _, rfl, rights_a s4 fun t h5 rt s5 => ⟨len3, kk _ _ ⟨h5, rows ++ [⟨q.1, q.2, t⟩], s5, rfl, by rw [List.map_append]; rfl, ?_, by rw [List.length_append, rl]; rfl⟩⟩⟩
        intro r hr
        rcases List.mem_append.mp hr with hr | hr
        · exact ro r hr
        · rw [List.mem_singleton.mp hr]
          exact ⟨rt, Nat.lt_of_lt_of_le q1 (by decide), Nat.lt_of_lt_of_le q2 (by decide)⟩
      · obtain ⟨h4, rows, s4, rfl, rfl, ro, rl⟩ := hv
        refine ⟨_, rfl, _, rfl, _, rfl, drw_a s4 (by decide) fun y h5 yl s5 => ?_⟩
        have rl2 : rows.length ≤ 1000 := by
          rw [rl, List.length_map]
          omega
        have l1 : (rep 8 [68, 84]).length = 16 := rfl
        have l2 : (rep (y : Int).toNat [84]).length = y := by rw [rep_len]; simp
        refine ⟨_, mul_str (by simp; omega) (by omega), _, add_str (le_line (by rw [l2]; show 16 + y ≤ _; omega)), _, rfl, _, rfl, _, rfl, c_is_right (hc_pairs s5 ps) ?_ ?_ ?_ ro rl2 ⟨_, rfl, ?_⟩⟩
        · intro c hc
          rcases List.mem_append.mp hc with hc | hc
          · have := rep_mem _ hc
            simp at this
            exact this
          · have := rep_mem _ hc
            simp at this
            exact .inr this
        · rw [List.length_append, l2]
          show 1 ≤ 16 + y
          omega
        · rw [List.length_append, l2]
          show 16 + y ≤ 1000
          omega
        rw [if_pos rfl]
        refine ⟨_, rfl, drw_a s5 (by decide) fun z h6 zl s6 => ⟨_, rfl, _, mul_str (by simp; omega) (by omega), len3, le_line (by simp), ?_⟩⟩
        have l3 : (rep (17 + (z : Int)).toNat [84]).length = 17 + z := by rw [rep_len]; simp; omega
        refine c_is_right (rows := [⟨0, 0, [103]⟩]) (hc_pairs s6 ps) ?_ (by rw [l3]; omega) (by rw [l3]; omega) ?_ (by simp) rfl
        · intro c hc
          have := rep_mem _ hc
          simp at this
          exact .inr this
        · intro r hr
          rw [List.mem_singleton.mp hr]
          exact ⟨rt_g, by decide, by decide⟩
end K65
end
set_option maxRecDepth 100000 in
set_option maxHeartbeats 4000000 in
theorem PySem.Challenge.cw_handles_k65_whole_stores_read_holds : PySem.Challenge.rw_handles_k65_whole_stores_read.Holds := by
  exact K65.row_holds fun ns sc hl _ hs => by
    have w := K65.law ns sc hl hs
    rw [Pv.callI_eq] at w
    exact w
