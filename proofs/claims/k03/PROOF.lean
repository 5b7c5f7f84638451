import PyProof.Rows.All
import Wide.All
import OpenK.AllK
import Wide.FinOn
import KE.SortData
import KE.DataEq
import KE.DataMinMax
import HandS.ForMost
import HandS.Style
import HandS.Flow
import HandS.TupAny
import HandS.TupMul
import HandS.Conv
import HandS.IsInst
import HandS.DictTup
import HandS.TupSets
import HandS.More
import KE.DataFind
import KE.KDictKeyed
import HandS.ForExc
import HandS.Comp
import PySem.Challenge.RW_storyturns_k03_why_by_hand
set_option Elab.async false
set_option linter.all false
set_option maxRecDepth 100000
set_option maxHeartbeats 4000000
/-! MI, 1: a small interpreter over pure data: values, store, expressions, statements, runs. -/
namespace MI
open PySem

/-- values: tuples are data, lists, dicts and instances stand in the store -/
inductive D where
  | non | bl (b : Bool) | int (i : Int) | str (s : Str) | tup (xs : List D) | loc (n : Nat) | txt (p : PyData)
inductive O where
  | list (xs : List D)
  | fix (xs : List D)
  | dict (lk : Bool) (kvs : List (List L2.Key × D))
  | ins (c : Nat) (fs : List (Str × D))
abbrev Store := List O
abbrev Env := List (Option D)
inductive R (A : Type) where
  | ok (a : A) (S : Store) | exc (c : Nat) (S : Store) | bad
/-- how a statement ends -/
inductive SR where
  | nx (e : Env) (S : Store) | ret (d : D) (S : Store) | brk (e : Env) (S : Store) | cnt (e : Env) (S : Store) | exc (c : Nat) (e : Env) (S : Store) | bad

def R.bind {A B : Type} (m : R A) (f : A → Store → R B) : R B := match m with
  | .ok a S => f a S
  | .exc c S => .exc c S
  | .bad => .bad
def R.sr (m : R D) (e : Env) (f : D → Store → SR) : SR := match m with
  | .ok a S => f a S
  | .exc c S => .exc c e S
  | .bad => .bad

/-! ### data -/
def mapO {A B : Type} (f : A → Option B) : List A → Option (List B)
  | [] => some []
  | x :: xs => match f x with
    | some y => (match mapO f xs with | some ys => some (y :: ys) | none => none)
    | none => none
/-- the value as a whole, lists within read off the store -/
def frz (S : Store) : Nat → D → Option PyData
  | _, .non => some .none
  | _, .bl b => some (.bool b)
  | _, .int i => some (.int i)
  | _, .str s => some (.str s)
  | n + 1, .tup xs => (mapO (frz S n) xs).map .tuple
  | n + 1, .loc l => (match S[l]? with
    | some (.list xs) => (mapO (frz S n) xs).map .list
    | some (.fix xs) => (mapO (frz S n) xs).map .list
    | _ => none)
  | _, _ => none
abbrev deep : Nat := 8
mutual
def pdEq : PyData → PyData → Bool
  | .none, .none => true
  | .bool a, .bool b => a == b
  | .int a, .int b => decide (a = b)
  | .str a, .str b => decide (a = b)
  | .list xs, .list ys => pdEqs xs ys
  | .tuple xs, .tuple ys => pdEqs xs ys
  | _, _ => false
def pdEqs : List PyData → List PyData → Bool
  | [], [] => true
  | x :: xs, y :: ys => pdEq x y && pdEqs xs ys
  | _, _ => false
end
def deq (S : Store) (a b : D) : Option Bool :=
  match a, b with
  | .txt p, .txt q => if pdEq p q then some true else none
  | _, _ => match frz S deep a, frz S deep b with
    | some x, some y => some (PyData.eqv x y)
    | _, _ => none
/-- a tuple of whole numbers and texts, as a key -/
def keyOf : D → Option L2.Key
  | .int i => some (.inl i)
  | .str s => some (.inr s)
  | _ => none
def keyD : L2.Key → D
  | .inl i => .int i
  | .inr s => .str s
def keysOf : D → Option (List L2.Key)
  | .tup xs => mapO keyOf xs
  | _ => none
def dget (kvs : List (List L2.Key × D)) (k : List L2.Key) : Option D := (kvs.find? fun kv => decide (kv.1 = k)).map (·.2)
def dput (kvs : List (List L2.Key × D)) (k : List L2.Key) (d : D) : List (List L2.Key × D) :=
  if (kvs.any fun kv => decide (kv.1 = k)) = true then kvs.map (fun kv => if kv.1 = k then (kv.1, d) else kv) else kvs ++ [(k, d)]
def fput (f : Str) (d : D) : List (Str × D) → List (Str × D)
  | [] => [(f, d)]
  | (g, e) :: r => if g = f then (g, d) :: r else (g, e) :: fput f d r
def litems (S : Store) : D → Option (List D)
  | .loc l => (match S[l]? with | some (.list xs) => some xs | some (.fix xs) => some xs | _ => none)
  | _ => none
def witems (S : Store) : D → Option (List D)
  | .loc l => (match S[l]? with | some (.list xs) => some xs | _ => none)
  | _ => none
def cap : Nat := 1000000
def cut (xs : List D) (lo hi : Option Int) : List D := (xs.drop (HT.sIx xs.length 0 lo)).take (HT.sIx xs.length xs.length hi - HT.sIx xs.length 0 lo)
/-- no list within -/
def locFree : Nat → D → Bool
  | _, .loc _ => false
  | _, .txt _ => false
  | n + 1, .tup xs => xs.all (locFree n)
  | 0, .tup _ => false
  | _, _ => true
def ofData : Nat → PyData → D
  | _, .none => .non
  | _, .bool b => .bl b
  | _, .int i => .int i
  | _, .str s => .str s
  | n + 1, .tuple xs => .tup (xs.map (ofData n))
  | _, _ => .non
def allAlike : List PyData → Bool
  | [] => true
  | x :: xs => xs.all (fun y => PySem.W.alike x y && PySem.W.alike y x) && PySem.W.alike x x && allAlike xs
def sortable (ds : List PyData) : Bool :=
  ds.all (fun d => match d with | .tuple (_ :: _) => true | _ => false) || ds.all (fun d => match d with | .none => false | .tuple _ => false | _ => true)
def insB (x : D × PyData) : List (D × PyData) → List (D × PyData)
  | [] => [x]
  | y :: ys => if PySem.W.dataLe false (fun p : D × PyData => p.2) x y then x :: y :: ys else y :: insB x ys
def isort : List (D × PyData) → List (D × PyData)
  | [] => []
  | x :: xs => insB x (isort xs)
def sortD (S : Store) (xs : List D) : Option (List D) := match mapO (frz S deep) xs with
  | some ks => if allAlike ks && sortable ks then some ((isort (xs.zip ks)).map (·.1)) else none
  | none => none

def intOf : D → Option Int
  | .int i => some i
  | _ => none
/-- a tuple of whole numbers -/
def intTup : D → Option (List Int)
  | .tup xs => mapO intOf xs
  | _ => none
def dedupI : List (List Int) → List (List Int)
  | [] => []
  | x :: xs => if x ∈ dedupI xs then dedupI xs else x :: dedupI xs
/-! ### operations by values -/
inductive P where
  | add | sub | mul | mod | fdiv | pow | neg
  | eq | ne | lt | le | gt | ge | isin | notin | isN | notN | isB | notB
  | item | slice (l h : Bool) | rev
  | len | abs | max1 | max2 | min2 | sum | any | all | list1 | tuple1 | dict1 | dictzip | sorted | lenset | sortset | str1 | listRange
  | isInt | isBool | isStr | isTuple | isList | isSeq | isIntStr | isOwn (t : Nat) (cs : List Nat)
  | append | extend | insert | pop0 | reverse | clear | count | index | get2
  deriving DecidableEq

def alloc (o : O) (S : Store) : R D := .ok (.loc S.length) (S ++ [o])
def pure2 (d : Option D) (S : Store) : R D := match d with | some d => .ok d S | none => .bad
def addD (a b : D) (S : Store) : R D := match a, b with
  | .int i, .int j => .ok (.int (i + j)) S
  | .tup xs, .tup ys => if xs.length + ys.length ≤ cap then .ok (.tup (xs ++ ys)) S else .bad
  | .loc _, .loc _ => (match witems S a, witems S b with
    | some xs, some ys => if xs.length + ys.length ≤ cap then alloc (.list (xs ++ ys)) S else .bad
    | _, _ => .bad)
  | _, _ => .bad
def mulD (a b : D) (S : Store) : R D := match a, b with
  | .int i, .int j => if (-(2 ^ 64) < i ∧ i < 2 ^ 64) ∨ (-(2 ^ 64) < j ∧ j < 2 ^ 64) then .ok (.int (i * j)) S else .bad
  | .loc _, .int n => (match witems S a with
    | some xs => if -1000000 ≤ n ∧ n ≤ 1000000 ∧ xs.length * n.toNat ≤ cap then alloc (.list (List.flatten (List.replicate n.toNat xs))) S else .bad
    | none => .bad)
  | .tup xs, .int n => if 2 ≤ n ∧ n ≤ 1000 ∧ xs.length ≤ 1000 ∧ xs.isEmpty = false then .ok (.tup (List.flatten (List.replicate n.toNat xs))) S else .bad
  | _, _ => .bad
def cmpI (p : Int → Int → Bool) (a b : D) (S : Store) : R D := match a, b with
  | .int i, .int j => .ok (.bl (p i j)) S
  | _, _ => .bad
def isinD (a b : D) (S : Store) : Option Bool := match b with
  | .loc l => (match S[l]? with
    | some (.dict _ kvs) => (match keysOf a with | some k => some (dget kvs k).isSome | none => none)
    | some (.list xs) => (match frz S deep a, mapO (frz S deep) xs with | some d, some ds => some (ds.any fun z => PyData.eqv z d) | _, _ => none)
    | some (.fix xs) => (match frz S deep a, mapO (frz S deep) xs with | some d, some ds => some (ds.any fun z => PyData.eqv z d) | _, _ => none)
    | _ => none)
  | .tup xs => (match frz S deep a, mapO (frz S deep) xs with | some d, some ds => some (ds.any fun z => PyData.eqv z d) | _, _ => none)
  | _ => none
def itemD (o i : D) (S : Store) : Option D := match o, i with
  | .tup xs, .int i => (match L2.ixN xs.length i with | some n => xs[n]? | none => none)
  | .loc l, _ => (match S[l]?, i with
    | some (.list xs), .int i => (match L2.ixN xs.length i with | some n => xs[n]? | none => none)
    | some (.fix xs), .int i => (match L2.ixN xs.length i with | some n => xs[n]? | none => none)
    | some (.dict _ kvs), k => (match keysOf k with | some k => dget kvs k | none => none)
    | _, _ => none)
  | _, _ => none
def itemL (o i : D) (S : Store) : Option D := match witems S o, i with
  | some xs, .int j => (match L2.ixN xs.length j with | some n => xs[n]? | none => none)
  | _, _ => none
def boolL : List D → Option (List Bool) := mapO fun d => match d with | .bl b => some b | _ => none
def intL : List D → Option (List Int) := mapO fun d => match d with | .int i => some i | _ => none
def pairKV (S : Store) (d : D) : Option (List L2.Key × D) := match d with
  | .tup [k, v] => (match keysOf k with | some k => some (k, v) | none => none)
  | _ => none
def dputs (kvs ps : List (List L2.Key × D)) : List (List L2.Key × D) := ps.foldl (fun acc p => dput acc p.1 p.2) kvs
def maxD (S : Store) (xs : List D) : Option D := if xs.all (locFree deep) then (match mapO (frz S deep) xs with
    | some (k :: ks) => if allAlike (k :: ks) && (k :: ks).all (fun d => match d with | .none => false | _ => true) then some (ofData deep (PySem.W.maxD k ks)) else none
    | _ => none) else none
def dedup (xs : List (D × PyData)) : List (D × PyData) := match xs with
  | [] => []
  | x :: r => let t := dedup r; if t.any (fun y => PyData.eqv y.2 x.2) then t else x :: t
def isNon : D → Bool
  | .non => true
  | _ => false
inductive Ty where
  | non | bl | int | str | tup | list | dict | ins (c : Nat)
def tyD (S : Store) : D → Option Ty
  | .non => some .non
  | .bl _ => some .bl
  | .int _ => some .int
  | .str _ => some .str
  | .txt _ => some .str
  | .tup _ => some .tup
  | .loc l => (match S[l]? with
    | some (.list _) => some .list
    | some (.fix _) => none
    | some (.dict false _) => some .dict
    | some (.dict true _) => none
    | some (.ins c _) => some (.ins c)
    | none => none)
/-- isinstance(x, (a built-in class, ..)) -/
def isTy (p : Ty → Bool) (S : Store) (d : D) : R D := match tyD S d with
  | some (.ins _) => .bad
  | some t => .ok (.bl (p t)) S
  | none => .bad
def isOwnD (cs : List Nat) (d : D) (S : Store) : R D := match tyD S d with
  | some (.ins c) => .ok (.bl (cs.contains c)) S
  | _ => .bad
def lenD (o : D) (S : Store) : R D := match o with
  | .tup xs => .ok (.int xs.length) S
  | .loc _ => (match litems S o with | some xs => .ok (.int xs.length) S | none => .bad)
  | _ => .bad
def listD (o : D) (S : Store) : R D := match o with
  | .tup xs => alloc (.list xs) S
  | .loc l => (match S[l]? with
    | some (.list xs) => alloc (.list xs) S
    | some (.fix xs) => alloc (.list xs) S
    | some (.dict _ kvs) => alloc (.list (kvs.map fun p => .tup (p.1.map keyD))) S
    | _ => .bad)
  | _ => .bad
def sliceD (o : D) (lo hi : Option Int) (S : Store) : R D := match o with
  | .tup xs => .ok (.tup (cut xs lo hi)) S
  | .loc _ => (match litems S o with | some xs => alloc (.list (cut xs lo hi)) S | none => .bad)
  | _ => .bad
mutual
/-- data whose text has at most this many signs -/
def szT : PyData → Nat
  | .none => 4
  | .bool _ => 5
  | .int i => if -1000000 < i ∧ i < 1000000 then 8 else 2000000
  | .str s => 10 * s.cps.size + 10
  | .list xs => szTs xs + 2
  | .tuple xs => szTs xs + 3
  | .dict _ => 2000000
def szTs : List PyData → Nat
  | [] => 0
  | x :: xs => szT x + 2 + szTs xs
end
def small (p : PyData) : Bool := decide (szT p ≤ cap)
def prim : P → List D → Store → R D
  | .add, [a, b], S => addD a b S
  | .sub, [.int i, .int j], S => .ok (.int (i - j)) S
  | .mul, [a, b], S => mulD a b S
  | .mod, [.int i, .int j], S => if 0 < j then .ok (.int (i % j)) S else .bad
  | .fdiv, [.int i, .int j], S => if 0 < j ∧ j < 1073741824 then .ok (.int (i / j)) S else .bad
  | .pow, [.int i, .int j], S => if 0 ≤ j ∧ j ≤ 1000 ∧ i.natAbs < 1000 then .ok (.int (i ^ j.toNat)) S else .bad
  | .neg, [.int i], S => .ok (.int (-i)) S
  | .eq, [a, b], S => pure2 ((deq S a b).map .bl) S
  | .ne, [a, b], S => pure2 ((deq S a b).map fun c => .bl (!c)) S
  | .lt, [a, b], S => cmpI (fun i j => decide (i < j)) a b S
  | .le, [a, b], S => cmpI (fun i j => decide (i ≤ j)) a b S
  | .gt, [a, b], S => cmpI (fun i j => decide (j < i)) a b S
  | .ge, [a, b], S => cmpI (fun i j => decide (j ≤ i)) a b S
  | .isin, [a, b], S => pure2 ((isinD a b S).map .bl) S
  | .notin, [a, b], S => pure2 ((isinD a b S).map fun c => .bl (!c)) S
  | .isN, [a, .non], S => .ok (.bl (isNon a)) S
  | .notN, [a, .non], S => .ok (.bl (!isNon a)) S
  | .isB, [.bl a, .bl b], S => .ok (.bl (decide (a = b))) S
  | .notB, [.bl a, .bl b], S => .ok (.bl (!decide (a = b))) S
  | .item, [o, i], S => pure2 (itemD o i S) S
  | .slice true true, [o, .int i, .int j], S => sliceD o (some i) (some j) S
  | .slice true false, [o, .int i], S => sliceD o (some i) none S
  | .slice false true, [o, .int j], S => sliceD o none (some j) S
  | .rev, [o], S => (match litems S o with | some xs => alloc (.list xs.reverse) S | none => .bad)
  | .len, [o], S => lenD o S
  | .abs, [.int i], S => .ok (.int (if i < 0 then -i else i)) S
  | .max1, [o], S => (match litems S o with | some xs => pure2 (maxD S xs) S | none => .bad)
  | .max2, [.int i, .int j], S => .ok (.int (if j > i then j else i)) S
  | .min2, [.int i, .int j], S => .ok (.int (if j < i then j else i)) S
  | .sum, [o], S => (match litems S o with | some xs => (match intL xs with | some is => .ok (.int is.sum) S | none => .bad) | none => .bad)
  | .any, [o], S => (match litems S o with | some xs => (match boolL xs with | some bs => .ok (.bl (bs.any id)) S | none => .bad) | none => .bad)
  | .all, [o], S => (match litems S o with | some xs => (match boolL xs with | some bs => .ok (.bl (bs.all id)) S | none => .bad) | none => .bad)
  | .list1, [o], S => listD o S
  | .tuple1, [o], S => (match litems S o with | some xs => .ok (.tup xs) S | none => .bad)
  | .dict1, [o], S => (match litems S o with
    | some xs => (match mapO (pairKV S) xs with | some ps => if ps.length ≤ cap then alloc (.dict false (dputs [] ps)) S else .bad | none => .bad)
    | none => .bad)
  | .dictzip, [a, b], S => (match litems S a, litems S b with
    | some xs, some ys => (match mapO keysOf xs with | some ks => if ks.length ≤ cap then alloc (.dict false (dputs [] (ks.zip ys))) S else .bad | none => .bad)
    | _, _ => .bad)
  | .sorted, [o], S => (match litems S o with | some xs => (match sortD S xs with | some ys => if xs.length ≤ cap then alloc (.list ys) S else .bad | none => .bad) | none => .bad)
  | .str1, [o], S => (match frz S deep o with | some p => if small p then (match o with | .loc _ => .ok (.txt p) S | .tup _ => .ok (.txt p) S | _ => .bad) else .bad | none => .bad)
  | .lenset, [o], S => (match litems S o with
    | some xs => (match mapO intTup xs with | some ks => if ks.length < 64 then .ok (.int (dedupI ks).length) S else .bad | none => .bad)
    | none => .bad)
  | .isInt, [d], S => isTy (fun t => match t with | .int => true | .bl => true | _ => false) S d
  | .isBool, [d], S => isTy (fun t => match t with | .bl => true | _ => false) S d
  | .isStr, [d], S => isTy (fun t => match t with | .str => true | _ => false) S d
  | .isTuple, [d], S => isTy (fun t => match t with | .tup => true | _ => false) S d
  | .isList, [d], S => isTy (fun t => match t with | .list => true | _ => false) S d
  | .isSeq, [d], S => isTy (fun t => match t with | .list => true | .tup => true | _ => false) S d
  | .isIntStr, [d], S => isTy (fun t => match t with | .int => true | .bl => true | .str => true | _ => false) S d
  | .isOwn _ cs, [d], S => isOwnD cs d S
  | .append, [.loc l, x], S => (match S[l]? with | some (.list xs) => if xs.length < cap then .ok .non (S.set l (.list (xs ++ [x]))) else .bad | _ => .bad)
  | .extend, [.loc l, b], S => (match S[l]?, witems S b with
    | some (.list xs), some ys => if xs.length + ys.length ≤ cap then .ok .non (S.set l (.list (xs ++ ys))) else .bad
    | _, _ => .bad)
  | .insert, [.loc l, .int i, x], S => (match S[l]? with
    | some (.list xs) => if xs.length < cap ∧ 0 ≤ i ∧ i ≤ 1000000 then .ok .non (S.set l (.list (xs.take i.toNat ++ [x] ++ xs.drop i.toNat))) else .bad
    | _ => .bad)
  | .pop0, [.loc l], S => (match S[l]? with
    | some (.list xs) => (match xs.getLast? with | some x => .ok x (S.set l (.list xs.dropLast)) | none => .bad)
    | _ => .bad)
  | .reverse, [.loc l], S => (match S[l]? with | some (.list xs) => .ok .non (S.set l (.list xs.reverse)) | _ => .bad)
  | .clear, [.loc l], S => (match S[l]? with | some (.list _) => .ok .non (S.set l (.list [])) | _ => .bad)
  | .count, [o, x], S => (match litems S o, frz S deep x with
    | some xs, some d => (match mapO (frz S deep) xs with | some ds => .ok (.int (ds.countP fun z => PyData.eqv z d)) S | none => .bad)
    | _, _ => .bad)
  | _, _, _ => .bad

/-! ### what a loop walks -/
inductive IK where
  | list | tuple | range1 | range2 | range3 | enum | zip | keys
  deriving DecidableEq
inductive It where
  | list (l : Nat) | tuple (xs : List D) | range (lo : Int) (c : Int) (n : Nat) | enum (l : Nat) | zip (l m : Nat) | keys (l : Nat) (ks : List (List L2.Key))
def isL (S : Store) (l : Nat) : Option Nat := match S[l]? with | some (.list xs) => some xs.length | some (.fix xs) => some xs.length | _ => none
def big : Int := 2 ^ 40
/-- the walk begins: what is walked, how many turns at most -/
def itMk : IK → List D → Store → Option (It × Nat)
  | .list, [.loc l], S => (match isL S l with | some n => some (.list l, n) | none => none)
  | .tuple, [.tup xs], _ => some (.tuple xs, xs.length)
  | .range1, [.int j], _ => if -big ≤ j ∧ j ≤ big then some (.range 0 1 j.toNat, j.toNat) else none
  | .range2, [.int i, .int j], _ => if -big ≤ i ∧ i ≤ big ∧ -big ≤ j ∧ j ≤ big then some (.range i 1 (j - i).toNat, (j - i).toNat) else none
  | .range3, [.int i, .int j, .int c], _ => if -big ≤ i ∧ i ≤ big ∧ -big ≤ j ∧ j ≤ big ∧ 0 < c ∧ c ≤ big then (let n := ((j - i + c - 1) / c).toNat; some (.range i c n, n)) else none
  | .enum, [.loc l], S => (match isL S l with | some n => some (.enum l, n) | none => none)
  | .zip, [.loc l, .loc m], S => (match isL S l, isL S m with | some n, some k => some (.zip l m, min n k) | _, _ => none)
  | .keys, [.loc l], S => (match S[l]? with | some (.dict _ kvs) => some (.keys l (kvs.map (·.1)), kvs.length) | _ => none)
  | _, _, _ => none
/-- the i-th turn: none: not known; some none: the end -/
def itNext (S : Store) (i : Nat) : It → Option (Option D)
  | .list l => (match litems S (.loc l) with | some xs => some xs[i]? | none => none)
  | .tuple xs => some xs[i]?
  | .range lo c n => if i < n then some (some (.int (lo + i * c))) else some none
  | .enum l => (match litems S (.loc l) with | some xs => some (xs[i]?.map fun x => .tup [.int i, x]) | none => none)
  | .zip l m => (match litems S (.loc l), litems S (.loc m) with
    | some xs, some ys => some (match xs[i]?, ys[i]? with | some x, some y => some (.tup [x, y]) | _, _ => none)
    | _, _ => none)
  | .keys _ ks => some (ks[i]?.map fun k => .tup (k.map keyD))
/-- a dict that is walked is locked, for good -/
def itIn : It → Store → Store
  | .keys l _, S => (match S[l]? with | some (.dict _ kvs) => S.set l (.dict true kvs) | _ => S)
  | _, S => S

/-! ### the language -/
inductive CT where
  | name (i : Nat) | tup (ts : List CT)
inductive CE where
  | var (i : Nat) | cst (d : D) | glb (x : Str) (d : D) | tup (es : List CE) | lst (es : List CE) | dnew
  | sl2 (o l h : CE) | slL (o l : CE) | slH (o h : CE)
  | prim (f : P) (es : List CE) | lm (f : P) (o : CE) (es : List CE) | and (a b : CE) | or (a b : CE) | not (a : CE) | ifx (c a b : CE)
  | chn (f g : P) (a b c : CE) | chn3 (f g h : P) (a b c d : CE)
  | call (j : Nat) (es : List CE) | new (c : Nat) (es : List CE) | meth (m : Str) (o : CE) (es : List CE) | fld (f : Str) (o : CE)
  | comp (own : List Nat) (k : IK) (ies : List CE) (t : CT) (cond : List CE) (elt : CE)
inductive CS where
  | expr (e : CE) | asg (t : CT) (e : CE) | par (is : List Nat) (es : List CE) | ret (e : CE) | ite (c : CE) (a b : List CS)
  | whl (c : CE) (b : List CS) | for_ (k : IK) (ies : List CE) (t : CT) (b : List CS) | aug (i : Nat) (f : P) (e : CE) | augSub (o i : CE) (f : P) (e : CE)
  | setSub (o i e : CE) | setFld (o : CE) (f : Str) (e : CE) | rais (c : Nat) | tryx (c : Nat) (i : Option Nat) (b h : List CS) | pass
structure Fn where
  np : Nat
  ns : Nat
  body : List CS
structure Prog where
  fns : List Fn
  init : Nat → Option Nat
  meth : Nat → Str → Option Nat
  fld : Nat → Str → Bool

mutual
def bindT : CT → D → Env → Option Env
  | .name i, d, e => if i < e.length then some (e.set i (some d)) else none
  | .tup ts, .tup xs, e => bindTs ts xs e
  | .tup _, _, _ => none
def bindTs : List CT → List D → Env → Option Env
  | [], [], e => some e
  | t :: ts, x :: xs, e => (match bindT t x e with | some e => bindTs ts xs e | none => none)
  | _, _, _ => none
end
def wipeE (e : Env) : List Nat → Env
  | [] => e
  | v :: vs => (wipeE e vs).set v none
def bindPar : List Nat → List D → Env → Option Env
  | [], [], e => some e
  | i :: is, d :: ds, e => if i < e.length then bindPar is ds (e.set i (some d)) else none
  | _, _, _ => none
/-- the list that a comprehension makes stands at l meanwhile -/
def compGo (it : It) (l : Nat) (turn : D → Store → R (Option D)) : Nat → Nat → Store → R Unit
  | fuel, i, S => match itNext S i it with
    | none => .bad
    | some none => .ok () S
    | some (some x) => (match fuel with
      | 0 => .bad
      | fuel + 1 => (turn x S).bind fun y S1 => match y with
        | none => compGo it l turn fuel (i + 1) S1
        | some y => (match S1[l]? with
          | some (.list acc) => if acc.length < cap then compGo it l turn fuel (i + 1) (S1.set l (.list (acc ++ [y]))) else .bad
          | _ => .bad))
def noExc {A : Type} : R A → R A
  | .exc _ _ => .bad
  | m => m
def asB (m : R D) : R Bool := m.bind fun d S => match d with | .bl b => .ok b S | _ => .bad
def asI (m : R D) : R Int := m.bind fun d S => match d with | .int b => .ok b S | _ => .bad
section
variable (G : Prog) (call : Nat → List D → Store → R D)
mutual
def eval : CE → Env → Store → R D
  | .var i, e, S => (match e[i]? with | some (some d) => .ok d S | _ => .bad)
  | .cst d, _, S => .ok d S
  | .glb _ d, _, S => .ok d S
  | .tup es, e, S => (evalL es e S).bind fun ds S => if ds.length ≤ cap then .ok (.tup ds) S else .bad
  | .lst es, e, S => (evalL es e S).bind fun ds S => if ds.length ≤ cap then alloc (.list ds) S else .bad
  | .dnew, _, S => alloc (.dict false []) S
  | .prim f es, e, S => (evalL es e S).bind fun ds S => prim f ds S
  | .lm f o es, e, S => (eval o e S).bind fun x S => if (litems S x).isSome then (evalL es e S).bind fun ds S => prim f (x :: ds) S else .bad
  | .sl2 o l h, e, S => (eval o e S).bind fun x S => (asI (eval l e S)).bind fun i S => (asI (eval h e S)).bind fun j S => sliceD x (some i) (some j) S
  | .slL o l, e, S => (eval o e S).bind fun x S => (asI (eval l e S)).bind fun i S => sliceD x (some i) none S
  | .slH o h, e, S => (eval o e S).bind fun x S => (asI (eval h e S)).bind fun j S => sliceD x none (some j) S
  | .and a b, e, S => (asB (eval a e S)).bind fun c S => if c then eval b e S else .ok (.bl false) S
  | .or a b, e, S => (asB (eval a e S)).bind fun c S => if c then .ok (.bl true) S else eval b e S
  | .not a, e, S => (asB (eval a e S)).bind fun c S => .ok (.bl (!c)) S
  | .ifx c a b, e, S => (asB (eval c e S)).bind fun c S => if c then eval a e S else eval b e S
  | .chn f g a b c, e, S => (eval a e S).bind fun x S => (eval b e S).bind fun y S => (asB (prim f [x, y] S)).bind fun t S =>
      if t then (eval c e S).bind fun z S => prim g [y, z] S else .ok (.bl false) S
  | .chn3 f g h a b c d, e, S => (eval a e S).bind fun x S => (eval b e S).bind fun y S => (asB (prim f [x, y] S)).bind fun t S =>
      if t then (eval c e S).bind fun z S => (asB (prim g [y, z] S)).bind fun t S => if t then (eval d e S).bind fun w S => prim h [z, w] S else .ok (.bl false) S else .ok (.bl false) S
  | .call j es, e, S => (evalL es e S).bind fun ds S => call j ds S
  | .new c es, e, S => (evalL es e S).bind fun ds S => match G.init c with
    | some j => (call j (.loc S.length :: ds) (S ++ [.ins c []])).bind fun v S1 => match v with | .non => .ok (.loc S.length) S1 | _ => .bad
    | none => .bad
  | .meth m o es, e, S => (eval o e S).bind fun x S => match x with
    | .loc l => (match S[l]? with
      | some (.ins c fs) => (match G.meth c m, fs.lookup m with
        | some j, none => (evalL es e S).bind fun ds S => call j (.loc l :: ds) S
        | _, _ => .bad)
      | _ => .bad)
    | _ => .bad
  | .fld f o, e, S => (eval o e S).bind fun x S => match x with
    | .loc l => (match S[l]? with | some (.ins c fs) => (match G.fld c f, fs.lookup f with | true, some d => .ok d S | _, _ => .bad) | _ => .bad)
    | _ => .bad
  | .comp own k ies t cond elt, e, S => (evalL ies e S).bind fun ds S => match itMk k ds S with
    | none => .bad
    | some (it, n) => noExc ((compGo it S.length (fun x S => match bindT t x (wipeE e own) with
        | none => .bad
        | some e1 => (evalC cond e1 S).bind fun b S => if b then (eval elt e1 S).bind fun y S => .ok (some y) S else .ok none S) n 0 (itIn it S ++ [.list []])).bind fun _ S1 => .ok (.loc S.length) S1)
def evalL : List CE → Env → Store → R (List D)
  | [], _, S => .ok [] S
  | c :: cs, e, S => (eval c e S).bind fun d S => (evalL cs e S).bind fun ds S => .ok (d :: ds) S
def evalC : List CE → Env → Store → R Bool
  | [], _, S => .ok true S
  | c :: cs, e, S => match cs with
    | [] => asB (eval c e S)
    | _ => .bad
end
def whileGo (c : Env → Store → R D) (b : Env → Store → SR) : Nat → Env → Store → SR
  | 0, _, _ => .bad
  | n + 1, e, S => match asB (c e S) with
    | .ok true S => (match b e S with
      | .nx e S => whileGo c b n e S
      | .cnt e S => whileGo c b n e S
      | .brk e S => .nx e S
      | r => r)
    | .ok false S => .nx e S
    | .exc k S => .exc k e S
    | .bad => .bad
def forGo (it : It) (bt : D → Env → Option Env) (b : Env → Store → SR) : Nat → Nat → Env → Store → SR
  | fuel, i, e, S => match itNext S i it with
    | none => .bad
    | some none => .nx e S
    | some (some x) => (match fuel with
      | 0 => .bad
      | fuel + 1 => match bt x e with
        | none => .bad
        | some e => (match b e S with
          | .nx e S => forGo it bt b fuel (i + 1) e S
          | .cnt e S => forGo it bt b fuel (i + 1) e S
          | .brk e S => .nx e S
          | r => r))
def setItem (o i v : D) (e : Env) (S : Store) : SR := match o with
  | .loc l => (match S[l]?, i with
    | some (.list xs), .int i => (match L2.ixN xs.length i with | some n => .nx e (S.set l (.list (xs.set n v))) | none => .bad)
    | some (.dict false kvs), k => (match keysOf k with | some k => if kvs.length < cap then .nx e (S.set l (.dict false (dput kvs k v))) else .bad | none => .bad)
    | _, _ => .bad)
  | _ => .bad
def augF : P → Int → Int → Option Int
  | .add, a, b => some (a + b)
  | .sub, a, b => some (a - b)
  | _, _, _ => none
def fuelW : Nat := 5000
mutual
def exec : CS → Env → Store → SR
  | .expr x, e, S => (eval G call x e S).sr e fun _ S => .nx e S
  | .asg t x, e, S => (eval G call x e S).sr e fun d S => match bindT t d e with | some e => .nx e S | none => .bad
  | .par is es, e, S => (match evalL G call es e S with
    | .ok ds S => (match bindPar is ds e with | some e => .nx e S | none => .bad)
    | .exc c S => .exc c e S
    | .bad => .bad)
  | .ret x, e, S => (eval G call x e S).sr e fun d S => .ret d S
  | .ite c a b, e, S => (match asB (eval G call c e S) with
    | .ok true S => execs a e S
    | .ok false S => execs b e S
    | .exc c S => .exc c e S
    | .bad => .bad)
  | .whl c b, e, S => whileGo (eval G call c) (execs b) fuelW e S
  | .for_ k ies t b, e, S => (match evalL G call ies e S with
    | .ok ds S => (match itMk k ds S with
      | some (it, n) => forGo it (bindT t) (execs b) n 0 e (itIn it S)
      | none => .bad)
    | .exc c S => .exc c e S
    | .bad => .bad)
  | .aug i f x, e, S => (match e[i]? with
    | some (some d) => (eval G call x e S).sr e fun y S => match d, y with
      | .int a, .int b => (match augF f a b with
        | some c => .nx (e.set i (some (.int c))) S
        | none => .bad)
      | _, _ => .bad
    | _ => .bad)
  | .augSub o i f x, e, S => (eval G call o e S).sr e fun o S => (eval G call i e S).sr e fun i S => match itemL o i S with
    | none => .bad
    | some old => (eval G call x e S).sr e fun y S => match old, y with
      | .int a, .int b => (match augF f a b with
        | some c => setItem o i (.int c) e S
        | none => .bad)
      | _, _ => .bad
  | .setSub o i x, e, S => (eval G call x e S).sr e fun v S => (eval G call o e S).sr e fun o S => (eval G call i e S).sr e fun i S => setItem o i v e S
  | .setFld o f x, e, S => (eval G call x e S).sr e fun v S => (eval G call o e S).sr e fun o S => match o with
    | .loc l => (match S[l]? with
      | some (.ins c fs) => if fs.length < 900 ∧ G.fld c f = true then .nx e (S.set l (.ins c (fput f v fs))) else .bad
      | _ => .bad)
    | _ => .bad
  | .rais c, e, S => .exc c e S
  | .tryx _ _ _ _, _, _ => .bad
  | .pass, e, S => .nx e S
def execs : List CS → Env → Store → SR
  | [], e, S => .nx e S
  | s :: ss, e, S => (match exec s e S with
    | .nx e S => execs ss e S
    | r => r)
end
end
def fin : SR → R D
  | .ret d S => .ok d S
  | .nx _ S => .ok .non S
  | .exc c _ S => .exc c S
  | _ => .bad
def startE (fn : Fn) (ds : List D) : Env := ds.map some ++ List.replicate (fn.ns - ds.length) none
def run (G : Prog) : Nat → Nat → List D → Store → R D
  | 0, _, _, _ => .bad
  | n + 1, j, ds, S => match G.fns[j]? with
    | some fn => if ds.length = fn.np then fin (execs G (run G n) fn.body (startE fn ds) S) else .bad
    | none => .bad
end MI

set_option autoImplicit false
/-! MI, 2: what stands for what. -/
namespace MI
open PySem PySem.Spec PyProof.Rows L2

/-! ### a value stands for data -/
mutual
inductive RD (H : Hp) (ro : List Addr) : D → V → Prop
  | non : RD H ro .non .non
  | bl (b : Bool) : RD H ro (.bl b) (.bl b)
  | int (i : Int) : RD H ro (.int i) (.int i)
  | str (s : Str) : RD H ro (.str s) (.str s)
  | txt (p : PyData) : RD H ro (.txt p) (.str p.shown)
  | tup {a : Addr} {xs : List D} {vs : List V} : H a = some (.tup vs) → RDs H ro xs vs → RD H ro (.tup xs) (.ref a)
  | loc {n : Nat} {a : Addr} : ro[n]? = some a → RD H ro (.loc n) (.ref a)
inductive RDs (H : Hp) (ro : List Addr) : List D → List V → Prop
  | nil : RDs H ro [] []
  | cons {d : D} {v : V} {ds : List D} {vs : List V} : RD H ro d v → RDs H ro ds vs → RDs H ro (d :: ds) (v :: vs)
end
theorem RDs.length {H : Hp} {ro : List Addr} : ∀ {xs : List D} {vs : List V}, RDs H ro xs vs → xs.length = vs.length
  | _, _, .nil => rfl
  | _, _, .cons _ t => by rw [List.length_cons, List.length_cons, t.length]
theorem RDs.append {H : Hp} {ro : List Addr} : ∀ {xs ys : List D} {vs ws : List V}, RDs H ro xs vs → RDs H ro ys ws → RDs H ro (xs ++ ys) (vs ++ ws)
  | _, _, _, _, .nil, s => s
  | _, _, _, _, .cons r t, s => .cons r (t.append s)
theorem RDs.take {H : Hp} {ro : List Addr} : ∀ {xs : List D} {vs : List V} (n : Nat), RDs H ro xs vs → RDs H ro (xs.take n) (vs.take n)
  | _, _, 0, _ => by rw [List.take_zero, List.take_zero]; exact .nil
  | _, _, _ + 1, .nil => .nil
  | _, _, n + 1, .cons r t => .cons r (t.take n)
theorem RDs.drop {H : Hp} {ro : List Addr} : ∀ {xs : List D} {vs : List V} (n : Nat), RDs H ro xs vs → RDs H ro (xs.drop n) (vs.drop n)
  | _, _, 0, r => r
  | _, _, _ + 1, .nil => .nil
  | _, _, n + 1, .cons _ t => t.drop n
theorem RDs.reverse {H : Hp} {ro : List Addr} {xs : List D} {vs : List V} (h : RDs H ro xs vs) : RDs H ro xs.reverse vs.reverse := by
  induction xs generalizing vs with
  | nil => cases h; exact .nil
  | cons x xs ih =>
    cases h with
    | cons r t =>
      rw [List.reverse_cons, List.reverse_cons]
      exact (ih t).append (.cons r .nil)
theorem RDs.set {H : Hp} {ro : List Addr} {d : D} {v : V} (r : RD H ro d v) : ∀ {xs : List D} {vs : List V} (n : Nat), RDs H ro xs vs → RDs H ro (xs.set n d) (vs.set n v)
  | _, _, _, .nil => .nil
  | _, _, 0, .cons _ t => .cons r t
  | _, _, n + 1, .cons q t => .cons q (RDs.set r n t)
theorem RDs.get {H : Hp} {ro : List Addr} : ∀ {xs : List D} {vs : List V} {n : Nat} {d : D}, RDs H ro xs vs → xs[n]? = some d → ∃ v, vs[n]? = some v ∧ RD H ro d v
  | _, _, _, _, .nil, e => by simp at e
  | _, _, 0, _, .cons r _, e => by
    have e' := Option.some.inj e
    subst e'
    exact ⟨_, rfl, r⟩
  | _, _, n + 1, d, .cons _ t, e => by
    obtain ⟨v, h1, h2⟩ := RDs.get (n := n) (d := d) t (by simpa using e)
    exact ⟨v, by simpa using h1, h2⟩
theorem RDs.getV {H : Hp} {ro : List Addr} : ∀ {xs : List D} {vs : List V} {n : Nat} {v : V}, RDs H ro xs vs → vs[n]? = some v → ∃ d, xs[n]? = some d ∧ RD H ro d v
  | _, _, _, _, .nil, e => by simp at e
  | _, _, 0, _, .cons r _, e => by
    have e' := Option.some.inj e
    subst e'
    exact ⟨_, rfl, r⟩
  | _, _, n + 1, d, .cons _ t, e => by
    obtain ⟨v, h1, h2⟩ := RDs.getV (n := n) (v := d) t (by simpa using e)
    exact ⟨v, by simpa using h1, h2⟩
theorem RDs.rep {H : Hp} {ro : List Addr} {xs : List D} {vs : List V} (h : RDs H ro xs vs) : ∀ k : Nat, RDs H ro (List.replicate k xs).flatten (List.replicate k vs).flatten
  | 0 => .nil
  | k + 1 => by
    rw [List.replicate_succ, List.replicate_succ, List.flatten_cons, List.flatten_cons]
    exact h.append (h.rep k)
theorem RDs.dropLast {H : Hp} {ro : List Addr} {xs : List D} {vs : List V} (h : RDs H ro xs vs) : RDs H ro xs.dropLast vs.dropLast := by
  rw [List.dropLast_eq_take, List.dropLast_eq_take, h.length]
  exact h.take _

/-- what is known stays known -/
structure Ext (H : Hp) (ro : List Addr) (H' : Hp) (ro' : List Addr) : Prop where
  pre : ∀ (n : Nat) (a : Addr), ro[n]? = some a → ro'[n]? = some a
  tup : ∀ (b : Addr) (xs : List V), H b = some (.tup xs) → H' b = some (.tup xs)
  frz : ∀ (b : Addr) (o : Obj) (u : HO), H b = some (.frz o u) → H' b = some (.frz o u)
theorem Ext.refl (H : Hp) (ro : List Addr) : Ext H ro H ro := ⟨fun _ _ h => h, fun _ _ h => h, fun _ _ _ h => h⟩
theorem Ext.trans {H H1 H2 : Hp} {ro r1 r2 : List Addr} (a : Ext H ro H1 r1) (b : Ext H1 r1 H2 r2) : Ext H ro H2 r2 :=
  ⟨fun n x h => b.pre n x (a.pre n x h), fun c xs h => b.tup c xs (a.tup c xs h), fun c o u h => b.frz c o u (a.frz c o u h)⟩
mutual
theorem RD.mono {H H' : Hp} {ro ro' : List Addr} (E : Ext H ro H' ro') : ∀ (d : D) (v : V), RD H ro d v → RD H' ro' d v
  | .non, _, h => by cases h; exact .non
  | .bl _, _, h => by cases h; exact .bl _
  | .int _, _, h => by cases h; exact .int _
  | .str _, _, h => by cases h; exact .str _
  | .txt _, _, h => by cases h; exact .txt _
  | .tup xs, _, h => by
    cases h with
    | tup e t => exact .tup (E.tup _ _ e) (RDs.mono E xs _ t)
  | .loc _, _, h => by
    cases h with
    | loc e => exact .loc (E.pre _ _ e)
theorem RDs.mono {H H' : Hp} {ro ro' : List Addr} (E : Ext H ro H' ro') : ∀ (ds : List D) (vs : List V), RDs H ro ds vs → RDs H' ro' ds vs
  | [], _, h => by cases h; exact .nil
  | d :: ds, _, h => by
    cases h with
    | cons r t => exact .cons (RD.mono E d _ r) (RDs.mono E ds _ t)
end

/-! ### the store stands in the heap -/
/-- the addresses of the own classes -/
abbrev CA := Nat → Addr
def KR (H : Hp) (ro : List Addr) : List (List Key × D) → List (List Key × V) → Prop := Paired fun p q => p.1 = q.1 ∧ RD H ro p.2 q.2
def FR (H : Hp) (ro : List Addr) : List (Str × D) → List (Str × V) → Prop := Paired fun p q => p.1 = q.1 ∧ RD H ro p.2 q.2
/-- a list that is read alone: locked, or an object of the written part -/
def FixL (K : PySem.W.Frag) (H : Hp) (a : Addr) (xs : List V) : Prop :=
  (∃ o, H a = some (.frz o (.lst xs))) ∨ ∃ (o : Obj) (its : Array Value) (n : Nat), K.lookup a = some o ∧ o.cls = .type "list" ∧ o.dict = none ∧ o.data = .seq its n ∧ its.size ≤ sizeLine ∧ Vals xs its.toList
theorem FixL.sq {K : PySem.W.Frag} {H : Hp} {a : Addr} {xs : List V} (h : FixL K H a xs) : SqL K H a xs := by
  rcases h with ⟨o, h⟩ | h
  · exact .inl (.inr ⟨o, h⟩)
  · exact .inr h
def OR (K : PySem.W.Frag) (ca : CA) (H : Hp) (ro : List Addr) (a : Addr) : O → Prop
  | .list xs => ∃ vs, H a = some (.lst vs) ∧ RDs H ro xs vs
  | .fix xs => ∃ vs, FixL K H a vs ∧ RDs H ro xs vs
  | .dict false kvs => ∃ ws, H a = some (.dT ws) ∧ KR H ro kvs ws
  | .dict true kvs => ∃ o ws, H a = some (.frz o (.dT ws)) ∧ KR H ro kvs ws
  | .ins c fs => ∃ dx gs, H a = some (.ins (ca c) dx gs) ∧ FR H ro fs gs
def rw_ : O → Bool
  | .fix _ => false
  | .dict true _ => false
  | _ => true
structure StR (K : PySem.W.Frag) (ca : CA) (ro : List Addr) (S : Store) (H : Hp) : Prop where
  len : ro.length = S.length
  obj : ∀ (l : Nat) (a : Addr) (o : O), ro[l]? = some a → S[l]? = some o → OR K ca H ro a o
  inj : ∀ (l l' : Nat) (a : Addr) (o o' : O), ro[l]? = some a → ro[l']? = some a → S[l]? = some o → S[l']? = some o' → rw_ o = true → rw_ o' = true → l = l'

section
variable {K : PySem.W.Frag} {ca : CA} {H H' : Hp} {ro ro' : List Addr} {S S' : Store} {l : Nat} {a : Addr}
theorem StR.at (R : StR K ca ro S H) (h : ro[l]? = some a) : ∃ o, S[l]? = some o ∧ OR K ca H ro a o := by
  have hl : l < S.length := by
    have := (List.getElem?_eq_some_iff.mp h).1
    rw [R.len] at this
    exact this
  exact ⟨S[l], List.getElem?_eq_getElem hl, R.obj l a _ h (List.getElem?_eq_getElem hl)⟩
theorem StR.addr (R : StR K ca ro S H) {o : O} (h : S[l]? = some o) : ∃ a, ro[l]? = some a ∧ OR K ca H ro a o := by
  have hl : l < ro.length := by
    have := (List.getElem?_eq_some_iff.mp h).1
    rw [R.len]
    exact this
  exact ⟨ro[l], List.getElem?_eq_getElem hl, R.obj l _ o (List.getElem?_eq_getElem hl) h⟩
theorem KR.mono (E : Ext H ro H' ro') {kvs : List (List Key × D)} {ws : List (List Key × V)} (h : KR H ro kvs ws) : KR H' ro' kvs ws := Paired.mapP h fun _ _ z => ⟨z.1, RD.mono E _ _ z.2⟩
theorem FR.mono (E : Ext H ro H' ro') {fs : List (Str × D)} {gs : List (Str × V)} (h : FR H ro fs gs) : FR H' ro' fs gs := Paired.mapP h fun _ _ z => ⟨z.1, RD.mono E _ _ z.2⟩
/-- an object that stands as it stood -/
theorem OR.stay (E : Ext H ro H' ro') {o : O} (h : OR K ca H ro a o) (hs : rw_ o = true → H' a = H a) : OR K ca H' ro' a o := by
  cases o with
  | list xs =>
    obtain ⟨vs, e, r⟩ := h
    exact ⟨vs, (hs rfl).trans e, RDs.mono E _ _ r⟩
  | fix xs =>
    obtain ⟨vs, e, r⟩ := h
    refine ⟨vs, ?_, RDs.mono E _ _ r⟩
    rcases e with ⟨o, e⟩ | e
    · exact .inl ⟨o, E.frz _ _ _ e⟩
    · exact .inr e
  | dict lk kvs =>
    cases lk with
    | false =>
      obtain ⟨ws, e, r⟩ := h
      exact ⟨ws, (hs rfl).trans e, r.mono E⟩
    | true =>
      obtain ⟨o, ws, e, r⟩ := h
      exact ⟨o, ws, E.frz _ _ _ e, r.mono E⟩
  | ins c fs =>
    obtain ⟨dx, gs, e, r⟩ := h
    exact ⟨dx, gs, (hs rfl).trans e, r.mono E⟩
theorem OR.there {o : O} (h : OR K ca H ro a o) (hw : rw_ o = true) : ∃ u, H a = some u ∧ (∀ xs, u ≠ .tup xs) ∧ ∀ ob v, u ≠ .frz ob v := by
  cases o with
  | list xs => obtain ⟨vs, e, _⟩ := h; exact ⟨_, e, (fun _ z => by cases z), (fun _ _ z => by cases z)⟩
  | fix xs => exact absurd hw (by simp [rw_])
  | dict lk kvs =>
    cases lk with
    | false => obtain ⟨ws, e, _⟩ := h; exact ⟨_, e, (fun _ z => by cases z), (fun _ _ z => by cases z)⟩
    | true => exact absurd hw (by simp [rw_])
  | ins c fs => obtain ⟨dx, gs, e, _⟩ := h; exact ⟨_, e, (fun _ z => by cases z), (fun _ _ z => by cases z)⟩

/-- a new tuple, a thing that the store doesn't know -/
theorem ext_new {p : Addr} {o : HO} (hp : H p = none) : Ext H ro (upd H p o) ro :=
  ⟨fun _ _ h => h, fun b xs e => by rw [upd_ne (ne_of_none e hp)]; exact e, fun b ob u e => by rw [upd_ne (ne_of_none e hp)]; exact e⟩
/-- what stood is not what is new -/
theorem OR.old {o : O} (h : OR K ca H ro a o) {p : Addr} {u : HO} (hp : H p = none) : rw_ o = true → upd H p u a = H a := fun hw => by
  obtain ⟨x, e, _⟩ := h.there hw
  rw [upd_ne (ne_of_none e hp)]
theorem StR.new (R : StR K ca ro S H) {p : Addr} {o : HO} (hp : H p = none) : StR K ca ro S (upd H p o) :=
  ⟨R.len, fun l a u h1 h2 => (R.obj l a u h1 h2).stay (ext_new hp) ((R.obj l a u h1 h2).old hp), R.inj⟩
/-- a new object of the store -/
theorem StR.push (R : StR K ca ro S H) {p : Addr} {o : HO} {u : O} (hp : H p = none) (hu : OR K ca (upd H p o) (ro ++ [p]) p u) (hw : rw_ u = true) :
    StR K ca (ro ++ [p]) (S ++ [u]) (upd H p o) ∧ Ext H ro (upd H p o) (ro ++ [p]) := by
  have E : Ext H ro (upd H p o) (ro ++ [p]) := ⟨fun n a h => by
    rw [List.getElem?_append_left (List.getElem?_eq_some_iff.mp h).1]
    exact h, (ext_new (ro := ro) hp).tup, (ext_new (ro := ro) hp).frz⟩
  have old : ∀ l, l < ro.length → (ro ++ [p])[l]? = ro[l]? ∧ (S ++ [u])[l]? = S[l]? := fun l hl => by
    refine ⟨List.getElem?_append_left hl, List.getElem?_append_left ?_⟩
    rw [← R.len]
    exact hl
  have cs : ∀ l a, (ro ++ [p])[l]? = some a → (l < ro.length ∧ ro[l]? = some a) ∨ (l = ro.length ∧ a = p) := fun l a h => by
    by_cases hl : l < ro.length
    · rw [(old l hl).1] at h
      exact .inl ⟨hl, h⟩
    · have h2 := (List.getElem?_eq_some_iff.mp h).1
      rw [List.length_append, List.length_singleton] at h2
      have h3 : l = ro.length := by omega
      subst h3
      rw [List.getElem?_append_right (Nat.le_refl _), Nat.sub_self] at h
      exact .inr ⟨rfl, (Option.some.inj h).symm⟩
  have last : (S ++ [u])[ro.length]? = some u := by
    rw [R.len, List.getElem?_append_right (Nat.le_refl _), Nat.sub_self]
    rfl
  have apart : ∀ l a x, ro[l]? = some a → S[l]? = some x → rw_ x = true → a ≠ p := fun l a x h1 h2 h3 => by
    obtain ⟨y, e, _⟩ := (R.obj l a x h1 h2).there h3
    exact ne_of_none e hp
  refine ⟨⟨by rw [List.length_append, List.length_append, R.len]; rfl, fun l a x h1 h2 => ?_, fun l l' a x x' h1 h1' h2 h2' w w' => ?_⟩, E⟩
  · rcases cs l a h1 with ⟨hl, h⟩ | ⟨rfl, rfl⟩
    · rw [(old l hl).2] at h2
      exact (R.obj l a x h h2).stay E ((R.obj l a x h h2).old hp)
    · rw [last] at h2
      cases h2
      exact hu
  · rcases cs l a h1 with ⟨hl, h⟩ | ⟨rfl, rfl⟩
    · rw [(old l hl).2] at h2
      rcases cs l' a h1' with ⟨hl', h'⟩ | ⟨rfl, rfl⟩
      · rw [(old l' hl').2] at h2'
        exact R.inj l l' a x x' h h' h2 h2' w w'
      · exact absurd rfl (apart l _ x h h2 w)
    · rcases cs l' _ h1' with ⟨hl', h'⟩ | ⟨rfl, _⟩
      · rw [(old l' hl').2] at h2'
        exact absurd rfl (apart l' _ x' h' h2' w')
      · rfl
/-- an object of the store changes -/
theorem StR.put (R : StR K ca ro S H) {o : HO} {u x : O} (hl : ro[l]? = some a) (hx : S[l]? = some x) (hw : rw_ x = true) (hu : OR K ca (upd H a o) ro a u) :
    StR K ca ro (S.set l u) (upd H a o) ∧ Ext H ro (upd H a o) ro := by
  obtain ⟨y, e, nt, nf⟩ := (R.obj l a x hl hx).there hw
  have E : Ext H ro (upd H a o) ro := ⟨fun _ _ h => h, fun b xs q => by
    have hb : b ≠ a := fun z => by
      subst z
      rw [e] at q
      exact nt xs (Option.some.inj q)
    rw [upd_ne hb]
    exact q, fun b ob v q => by
    have hb : b ≠ a := fun z => by
      subst z
      rw [e] at q
      exact nf ob v (Option.some.inj q)
    rw [upd_ne hb]
    exact q⟩
  have hlS : l < S.length := (List.getElem?_eq_some_iff.mp hx).1
  refine ⟨⟨by rw [List.length_set]; exact R.len, fun m b z h1 h2 => ?_, fun m m' b z z' h1 h1' h2 h2' w w' => ?_⟩, E⟩
  · by_cases hm : m = l
    · subst hm
      rw [List.getElem?_set_self hlS] at h2
      cases h2
      rw [hl] at h1
      cases h1
      exact hu
    · rw [List.getElem?_set_ne (Ne.symm hm)] at h2
      refine (R.obj m b z h1 h2).stay E fun hn => ?_
      have hb : b ≠ a := fun q => by
        subst q
        exact hm (R.inj m l b z x h1 hl h2 hx hn hw)
      rw [upd_ne hb]
  · have old : ∀ (k : Nat) (v : O), (S.set l u)[k]? = some v → rw_ v = true → ∃ v', S[k]? = some v' ∧ rw_ v' = true := fun k v h w => by
      by_cases hk : k = l
      · subst hk
        exact ⟨x, hx, hw⟩
      · rw [List.getElem?_set_ne (Ne.symm hk)] at h
        exact ⟨v, h, w⟩
    obtain ⟨y1, e1, w1⟩ := old m z h2 w
    obtain ⟨y2, e2, w2⟩ := old m' z' h2' w'
    exact R.inj m m' b y1 y2 h1 h1' e1 e2 w1 w2
end
end MI

/-! MI, 3: operations by values. -/
namespace MI
open PySem PySem.Spec PyProof.Rows L2

/-- what is wanted behind a run -/
def Post {A : Type} (K : PySem.W.Frag) (ca : CA) (H : Hp) (ro : List Addr) (m : R A) (good : A → Hp → List Addr → Prop) (W : Nat → Hp → Prop) : Prop :=
  match m with
  | .ok a S' => ∀ (H' : Hp) (ro' : List Addr), Ext H ro H' ro' → StR K ca ro' S' H' → good a H' ro'
  | .exc c S' => ∀ (H' : Hp) (ro' : List Addr), Ext H ro H' ro' → StR K ca ro' S' H' → W c H'
  | .bad => False
abbrev NoW : Nat → Hp → Prop := fun _ _ => False
abbrev goodV (Q : VK) : D → Hp → List Addr → Prop := fun d H' ro' => ∀ v, RD H' ro' d v → Q v H'
/-- the wish of an operation on values -/
def rP (K : PySem.W.Frag) (ca : CA) (f : P) : List V → Hp → VK → Prop := fun vs H Q => ∃ (ro : List Addr) (S : Store) (ds : List D), StR K ca ro S H ∧ RDs H ro ds vs ∧ Post K ca H ro (prim f ds S) (goodV Q) NoW
abbrev rP2 (K : PySem.W.Frag) (ca : CA) (f : P) : R2 := fun x y H Q => rP K ca f [x, y] H Q

section
variable {K : PySem.W.Frag} {ca : CA} {H : Hp} {ro : List Addr} {S : Store}
theorem RDs.one {ds : List D} {x : V} (h : RDs H ro ds [x]) : ∃ a, ds = [a] ∧ RD H ro a x := by
  cases h with
  | cons r t => cases t; exact ⟨_, rfl, r⟩
theorem RDs.two {ds : List D} {x y : V} (h : RDs H ro ds [x, y]) : ∃ a b, ds = [a, b] ∧ RD H ro a x ∧ RD H ro b y := by
  cases h with
  | cons r t =>
    obtain ⟨b, rfl, r2⟩ := t.one
    exact ⟨_, b, rfl, r, r2⟩
theorem RDs.three {ds : List D} {x y z : V} (h : RDs H ro ds [x, y, z]) : ∃ a b c, ds = [a, b, c] ∧ RD H ro a x ∧ RD H ro b y ∧ RD H ro c z := by
  cases h with
  | cons r t =>
    obtain ⟨b, c, rfl, r2, r3⟩ := t.two
    exact ⟨_, b, c, rfl, r, r2, r3⟩
theorem RD.int_inv {i : Int} {x : V} (h : RD H ro (.int i) x) : x = .int i := by cases h; rfl
theorem RD.bl_inv {i : Bool} {x : V} (h : RD H ro (.bl i) x) : x = .bl i := by cases h; rfl
theorem RD.non_inv {x : V} (h : RD H ro .non x) : x = .non := by cases h; rfl
theorem RD.tup_inv {xs : List D} {x : V} (h : RD H ro (.tup xs) x) : ∃ a vs, x = .ref a ∧ H a = some (.tup vs) ∧ RDs H ro xs vs := by
  cases h with
  | tup e t => exact ⟨_, _, rfl, e, t⟩
theorem RD.loc_inv {n : Nat} {x : V} (h : RD H ro (.loc n) x) : ∃ a, x = .ref a ∧ ro[n]? = some a := by
  cases h with
  | loc e => exact ⟨_, rfl, e⟩
/-- the value that is kept -/
theorem Post.val {Q : VK} {d : D} {v : V} (R : StR K ca ro S H) (r : RD H ro d v) (h : Post K ca H ro (.ok d S) (goodV Q) NoW) : Q v H :=
  h H ro (Ext.refl _ _) R v r
theorem Post.newL {Q : VK} {xs : List D} {vs : List V} (R : StR K ca ro S H) (r : RDs H ro xs vs) (h : Post K ca H ro (alloc (.list xs) S) (goodV Q) NoW) :
    ∀ p, H p = none → Q (.ref p) (upd H p (.lst vs)) := by
  intro p hp
  have E0 : Ext H ro (upd H p (.lst vs)) (ro ++ [p]) := ⟨fun n a q => by
    rw [List.getElem?_append_left (List.getElem?_eq_some_iff.mp q).1]
    exact q, (ext_new (ro := ro) hp).tup, (ext_new (ro := ro) hp).frz⟩
  obtain ⟨R', E⟩ := R.push (u := .list xs) hp ⟨vs, upd_same, RDs.mono E0 _ _ r⟩ rfl
  refine h _ _ E R' _ (.loc ?_)
  rw [← R.len, List.getElem?_append_right (Nat.le_refl _), Nat.sub_self]
  rfl
theorem Post.newT {Q : VK} {xs : List D} {vs : List V} (R : StR K ca ro S H) (r : RDs H ro xs vs) (h : Post K ca H ro (.ok (.tup xs) S) (goodV Q) NoW) :
    ∀ p, H p = none → Q (.ref p) (upd H p (.tup vs)) := by
  intro p hp
  exact h _ _ (ext_new hp) (R.new hp) _ (.tup upd_same (RDs.mono (ext_new hp) _ _ r))
theorem cap_line : cap ≤ sizeLine := by rw [sizeLine_eq]; decide
theorem StR.list (R : StR K ca ro S H) {l : Nat} {a : Addr} {xs : List D} (ha : ro[l]? = some a) (h : S[l]? = some (.list xs)) : ∃ vs, H a = some (.lst vs) ∧ RDs H ro xs vs := R.obj l a _ ha h
theorem litems_inv {d : D} {xs : List D} (h : litems S d = some xs) : ∃ l, d = .loc l ∧ (S[l]? = some (.list xs) ∨ S[l]? = some (.fix xs)) := by
  cases d with
  | loc l =>
    refine ⟨l, rfl, ?_⟩
    simp only [MI.litems] at h
    split at h
    · rename_i ys q
      cases h
      exact .inl q
    · rename_i ys q
      cases h
      exact .inr q
    · cases h
  | _ => cases h
theorem witems_inv {d : D} {xs : List D} (h : witems S d = some xs) : ∃ l, d = .loc l ∧ S[l]? = some (.list xs) := by
  cases d with
  | loc l =>
    refine ⟨l, rfl, ?_⟩
    simp only [MI.witems] at h
    split at h
    · rename_i ys q
      cases h
      exact q
    · cases h
  | _ => cases h
/-- a list, written or not, as it is read -/
theorem StR.litems (R : StR K ca ro S H) {d : D} {v : V} {xs : List D} (r : RD H ro d v) (h : litems S d = some xs) : ∃ l a vs, d = .loc l ∧ v = .ref a ∧ ro[l]? = some a ∧ SqL K H a vs ∧ RDs H ro xs vs := by
  obtain ⟨l, rfl, q⟩ := litems_inv h
  obtain ⟨a, rfl, e⟩ := r.loc_inv
  rcases q with q | q
  · obtain ⟨vs, e1, e2⟩ := R.obj l a _ e q
    exact ⟨l, a, vs, rfl, rfl, e, SqL.of e1, e2⟩
  · obtain ⟨vs, e1, e2⟩ := R.obj l a _ e q
    exact ⟨l, a, vs, rfl, rfl, e, e1.sq, e2⟩
theorem StR.witems (R : StR K ca ro S H) {d : D} {v : V} {xs : List D} (r : RD H ro d v) (h : witems S d = some xs) : ∃ l a vs, d = .loc l ∧ v = .ref a ∧ ro[l]? = some a ∧ S[l]? = some (.list xs) ∧ H a = some (.lst vs) ∧ RDs H ro xs vs := by
  obtain ⟨l, rfl, q⟩ := witems_inv h
  obtain ⟨a, rfl, e⟩ := r.loc_inv
  obtain ⟨vs, e1, e2⟩ := R.obj l a _ e q
  exact ⟨l, a, vs, rfl, rfl, e, q, e1, e2⟩
end

/-! ### data that reads -/
theorem mapO_inv {A B : Type} {f : A → Option B} : ∀ {xs : List A} {ys : List B}, mapO f xs = some ys → Paired (fun x y => f x = some y) xs ys
  | [], ys, h => by
    cases h
    exact .nil
  | x :: xs, ys, h => by
    simp only [mapO] at h
    split at h
    · rename_i y q
      split at h
      · rename_i zs q2
        cases h
        exact .cons q (mapO_inv q2)
      · cases h
    · cases h
/-- data of at most this depth, of None, truths, numbers, texts, lists and tuples alone -/
structure Fine (n : Nat) (p : PyData) : Prop where
  plain : p.plain = true
  depth : p.depth ≤ n
  noDict : p.hasDict = false
structure FineAll (n : Nat) (ps : List PyData) : Prop where
  plain : PyData.plainAll ps = true
  depth : PyData.depthAll ps ≤ n
  noDict : PyData.hasDictAll ps = false
section
variable {K : PySem.W.Frag} {ca : CA} {H : Hp} {ro : List Addr} {S : Store}
theorem dp_all {n : Nat} (ih : ∀ (d : D) (v : V) (p : PyData), RD H ro d v → frz S n d = some p → Dp K H v p ∧ Fine n p) :
    ∀ {xs : List D} {ps : List PyData}, Paired (fun x y => frz S n x = some y) xs ps → ∀ {vs : List V}, RDs H ro xs vs → DpAll K H vs ps ∧ FineAll n ps := by
  intro xs ps hp
  induction hp with
  | nil =>
    intro vs r
    cases r
    exact ⟨.nil, rfl, by simp [PyData.depthAll], rfl⟩
  | cons h t k =>
    intro vs r
    cases r with
    | cons r1 r2 =>
      obtain ⟨h1, f1⟩ := ih _ _ _ r1 h
      obtain ⟨h2, f2⟩ := k r2
      refine ⟨.cons h1 h2, ?_, ?_, ?_⟩
      · simp only [PyData.plainAll, f1.plain, f2.plain, Bool.and_self]
      · simp only [PyData.depthAll]
        have q1 := f1.depth
        have q2 := f2.depth
        omega
      · simp only [PyData.hasDictAll, f1.noDict, f2.noDict, Bool.or_self]
theorem frz_dp (R : StR K ca ro S H) : ∀ (n : Nat) (d : D) (v : V) (p : PyData), RD H ro d v → frz S n d = some p → Dp K H v p ∧ Fine n p := by
  intro n
  induction n with
  | zero =>
    intro d v p r h
    cases d with
    | non => cases h; cases r; exact ⟨.non, rfl, Nat.le_refl _, rfl⟩
    | bl b => cases h; cases r; exact ⟨.bl b, rfl, Nat.le_refl _, rfl⟩
    | int i => cases h; cases r; exact ⟨.int i, rfl, Nat.le_refl _, rfl⟩
    | str s => cases h; cases r; exact ⟨.str s, rfl, Nat.le_refl _, rfl⟩
    | tup xs => simp [frz] at h
    | loc l => simp [frz] at h
    | txt q => simp [frz] at h
  | succ n ih =>
    intro d v p r h
    cases d with
    | non => cases h; cases r; exact ⟨.non, rfl, Nat.zero_le _, rfl⟩
    | bl b => cases h; cases r; exact ⟨.bl b, rfl, Nat.zero_le _, rfl⟩
    | int i => cases h; cases r; exact ⟨.int i, rfl, Nat.zero_le _, rfl⟩
    | str s => cases h; cases r; exact ⟨.str s, rfl, Nat.zero_le _, rfl⟩
    | txt q => simp [frz] at h
    | tup xs =>
      simp only [frz, Option.map_eq_some_iff] at h
      obtain ⟨ps, h, rfl⟩ := h
      obtain ⟨a, vs, rfl, e, t⟩ := r.tup_inv
      obtain ⟨h1, f⟩ := dp_all ih (mapO_inv h) t
      refine ⟨.tup (SqT.of e) h1, ?_, ?_, ?_⟩
      · simp only [PyData.plain, f.plain]
      · simp only [PyData.depth]
        have q := f.depth
        omega
      · simp only [PyData.hasDict, f.noDict]
    | loc l =>
      have h' : ∃ xs ps, litems S (.loc l) = some xs ∧ mapO (frz S n) xs = some ps ∧ p = .list ps := by
        simp only [frz] at h
        simp only [MI.litems]
        split at h
        · rename_i xs q
          simp only [Option.map_eq_some_iff] at h
          obtain ⟨ps, h, rfl⟩ := h
          exact ⟨xs, ps, rfl, h, rfl⟩
        · rename_i xs q
          simp only [Option.map_eq_some_iff] at h
          obtain ⟨ps, h, rfl⟩ := h
          exact ⟨xs, ps, rfl, h, rfl⟩
        · cases h
      obtain ⟨xs, ps, hl, h2, rfl⟩ := h'
      obtain ⟨l', a, vs, _, rfl, _, hs, t⟩ := R.litems r hl
      obtain ⟨h1, f⟩ := dp_all ih (mapO_inv h2) t
      refine ⟨.lst hs h1, ?_, ?_, ?_⟩
      · simp only [PyData.plain, f.plain]
      · simp only [PyData.depth]
        have q := f.depth
        omega
      · simp only [PyData.hasDict, f.noDict]
theorem frz_dps (R : StR K ca ro S H) {n : Nat} {xs : List D} {vs : List V} {ps : List PyData} (r : RDs H ro xs vs) (h : mapO (frz S n) xs = some ps) : DpAll K H vs ps ∧ FineAll n ps :=
  dp_all (frz_dp R n) (mapO_inv h) r
end
mutual
theorem pdEq_eq : ∀ (a b : PyData), pdEq a b = true → a = b
  | .none, b, h => by cases b <;> first | rfl | simp [pdEq] at h
  | .bool x, b, h => by cases b <;> first | (simp [pdEq] at h; done) | (simp [pdEq] at h; rw [h])
  | .int x, b, h => by cases b <;> first | (simp [pdEq] at h; done) | (simp [pdEq] at h; rw [h])
  | .str x, b, h => by cases b <;> first | (simp [pdEq] at h; done) | (simp [pdEq] at h; rw [h])
  | .list xs, b, h => by cases b <;> first | (simp [pdEq] at h; done) | (simp only [pdEq] at h; rw [pdEqs_eq xs _ h])
  | .tuple xs, b, h => by cases b <;> first | (simp [pdEq] at h; done) | (simp only [pdEq] at h; rw [pdEqs_eq xs _ h])
  | .dict kvs, b, h => by cases b <;> simp [pdEq] at h
theorem pdEqs_eq : ∀ (xs ys : List PyData), pdEqs xs ys = true → xs = ys
  | [], ys, h => by cases ys <;> first | rfl | simp [pdEqs] at h
  | x :: xs, ys, h => by
    cases ys with
    | nil => simp [pdEqs] at h
    | cons y ys =>
      simp only [pdEqs, Bool.and_eq_true] at h
      rw [pdEq_eq x y h.1, pdEqs_eq xs ys h.2]
end
end MI

/-! MI, 4: each operation does in the model what it does here. -/
namespace MI
open PySem PySem.Spec PyProof.Rows L2

section
variable {X : Cx} {ca : CA}

/-! ### numbers -/
theorem o_sub : OpR X (binaryOp .Sub) (rP2 X.K ca .sub) := by
  intro pins s σ H x y v u Q I rx ry h
  obtain ⟨ro, S, ds, R, rd, h⟩ := h
  obtain ⟨a, b, rfl, r1, r2⟩ := rd.two
  cases a <;> cases b <;> first | exact (show False from h).elim | skip
  obtain rfl := r1.int_inv
  obtain rfl := r2.int_inv
  exact op_sub pins s σ H _ _ v u Q I rx ry ⟨_, _, rfl, rfl, Post.val R (.int _) h⟩
theorem o_mod : OpR X (binaryOp .Mod) (rP2 X.K ca .mod) := by
  intro pins s σ H x y v u Q I rx ry h
  obtain ⟨ro, S, ds, R, rd, h⟩ := h
  obtain ⟨a, b, rfl, r1, r2⟩ := rd.two
  cases a <;> cases b <;> first | exact (show False from h).elim | skip
  rename_i i j
  obtain rfl := r1.int_inv
  obtain rfl := r2.int_inv
  replace h : Post X.K ca H ro (if 0 < j then .ok (.int (i % j)) S else .bad) (goodV Q) NoW := h
  split at h
  · rename_i hj
    exact op_mod pins s σ H _ _ v u Q I rx ry ⟨_, _, rfl, rfl, hj, Post.val R (.int _) h⟩
  · exact h.elim
theorem o_fdiv : OpR X (binaryOp .FloorDiv) (rP2 X.K ca .fdiv) := by
  intro pins s σ H x y v u Q I rx ry h
  obtain ⟨ro, S, ds, R, rd, h⟩ := h
  obtain ⟨a, b, rfl, r1, r2⟩ := rd.two
  cases a <;> cases b <;> first | exact (show False from h).elim | skip
  rename_i i j
  obtain rfl := r1.int_inv
  obtain rfl := r2.int_inv
  replace h : Post X.K ca H ro (if 0 < j ∧ j < 1073741824 then .ok (.int (i / j)) S else .bad) (goodV Q) NoW := h
  split at h
  · rename_i hj
    exact op_fdiv pins s σ H _ _ v u Q I rx ry ⟨_, _, rfl, rfl, hj, Post.val R (.int _) h⟩
  · exact h.elim
theorem o_pow : OpR X (binaryOp .Pow) (rP2 X.K ca .pow) := by
  intro pins s σ H x y v u Q I rx ry h
  obtain ⟨ro, S, ds, R, rd, h⟩ := h
  obtain ⟨a, b, rfl, r1, r2⟩ := rd.two
  cases a <;> cases b <;> first | exact (show False from h).elim | skip
  rename_i i j
  obtain rfl := r1.int_inv
  obtain rfl := r2.int_inv
  replace h : Post X.K ca H ro (if 0 ≤ j ∧ j ≤ 1000 ∧ i.natAbs < 1000 then .ok (.int (i ^ j.toNat)) S else .bad) (goodV Q) NoW := h
  split at h
  · rename_i hj
    exact op_pow pins s σ H _ _ v u Q I rx ry ⟨_, _, rfl, rfl, ⟨hj.1, by omega, by have := hj.2.2; omega⟩, Post.val R (.int _) h⟩
  · exact h.elim
theorem o_lt : OpR X (compareOp .Lt) (rP2 X.K ca .lt) := by
  intro pins s σ H x y v u Q I rx ry h
  obtain ⟨ro, S, ds, R, rd, h⟩ := h
  obtain ⟨a, b, rfl, r1, r2⟩ := rd.two
  cases a <;> cases b <;> first | exact (show False from h).elim | skip
  obtain rfl := r1.int_inv
  obtain rfl := r2.int_inv
  exact op_lt pins s σ H _ _ v u Q I rx ry ⟨_, _, rfl, rfl, Post.val R (.bl _) h⟩
theorem o_le : OpR X (compareOp .LtE) (rP2 X.K ca .le) := by
  intro pins s σ H x y v u Q I rx ry h
  obtain ⟨ro, S, ds, R, rd, h⟩ := h
  obtain ⟨a, b, rfl, r1, r2⟩ := rd.two
  cases a <;> cases b <;> first | exact (show False from h).elim | skip
  obtain rfl := r1.int_inv
  obtain rfl := r2.int_inv
  exact op_le pins s σ H _ _ v u Q I rx ry ⟨_, _, rfl, rfl, Post.val R (.bl _) h⟩
theorem o_gt : OpR X (compareOp .Gt) (rP2 X.K ca .gt) := by
  intro pins s σ H x y v u Q I rx ry h
  obtain ⟨ro, S, ds, R, rd, h⟩ := h
  obtain ⟨a, b, rfl, r1, r2⟩ := rd.two
  cases a <;> cases b <;> first | exact (show False from h).elim | skip
  obtain rfl := r1.int_inv
  obtain rfl := r2.int_inv
  exact op_gt pins s σ H _ _ v u Q I rx ry ⟨_, _, rfl, rfl, Post.val R (.bl _) h⟩
theorem o_ge : OpR X (compareOp .GtE) (rP2 X.K ca .ge) := by
  intro pins s σ H x y v u Q I rx ry h
  obtain ⟨ro, S, ds, R, rd, h⟩ := h
  obtain ⟨a, b, rfl, r1, r2⟩ := rd.two
  cases a <;> cases b <;> first | exact (show False from h).elim | skip
  obtain rfl := r1.int_inv
  obtain rfl := r2.int_inv
  exact op_ge pins s σ H _ _ v u Q I rx ry ⟨_, _, rfl, rfl, Post.val R (.bl _) h⟩
theorem o_neg : UnR X (unaryOp .USub) (fun x H Q => rP X.K ca .neg [x] H Q) := by
  intro pins s σ H x v Q I rx h
  obtain ⟨ro, S, ds, R, rd, h⟩ := h
  obtain ⟨a, rfl, r1⟩ := rd.one
  cases a <;> first | exact (show False from h).elim | skip
  obtain rfl := r1.int_inv
  exact un_neg pins s σ H _ v Q I rx ⟨_, rfl, Post.val R (.int _) h⟩

/-! ### sums, products, also of lists and tuples -/
theorem o_add : OpR X (binaryOp .Add) (rP2 X.K ca .add) := by
  intro pins s σ H x y v u Q I rx ry h
  obtain ⟨ro, S, ds, R, rd, h⟩ := h
  obtain ⟨a, b, rfl, r1, r2⟩ := rd.two
  replace h : Post X.K ca H ro (addD a b S) (goodV Q) NoW := h
  have hcl := cap_line
  cases a <;> cases b <;> first | exact (show False from h).elim | skip
  · obtain rfl := r1.int_inv
    obtain rfl := r2.int_inv
    exact op_add pins s σ H _ _ v u Q I rx ry ⟨_, _, rfl, rfl, Post.val R (.int _) h⟩
  · rename_i xs ys
    replace h : Post X.K ca H ro (if xs.length + ys.length ≤ cap then .ok (.tup (xs ++ ys)) S else .bad) (goodV Q) NoW := h
    split at h
    · rename_i hz
      obtain ⟨p1, vs, rfl, e1, t1⟩ := r1.tup_inv
      obtain ⟨p2, ws, rfl, e2, t2⟩ := r2.tup_inv
      have l1 := t1.length
      have l2 := t2.length
      refine op_catA pins s σ H _ _ v u Q I rx ry ⟨p1, p2, vs, ws, rfl, rfl, SqT.of e1, SqT.of e2, by omega, fun z => ?_, fun _ z => ?_, fun _ _ => Post.newT R (t1.append t2) h⟩
      · subst z
        cases t1
        exact Post.val R (.tup e2 t2) h
      · subst z
        cases t2
        rw [List.append_nil] at h
        exact Post.val R (.tup e1 t1) h
    · exact h.elim
  · rename_i l m
    replace h : Post X.K ca H ro (match witems S (.loc l), witems S (.loc m) with
      | some xs, some ys => if xs.length + ys.length ≤ cap then alloc (.list (xs ++ ys)) S else .bad
      | _, _ => .bad) (goodV Q) NoW := h
    split at h
    · rename_i xs ys w1 w2
      obtain ⟨_, p1, vs, _, rfl, _, _, e1, t1⟩ := R.witems r1 w1
      obtain ⟨_, p2, ws, _, rfl, _, _, e2, t2⟩ := R.witems r2 w2
      split at h
      · rename_i hz
        have l1 := t1.length
        have l2 := t2.length
        exact op_cat pins s σ H _ _ v u Q I rx ry ⟨p1, p2, vs, ws, rfl, rfl, e1, e2, by omega, Post.newL R (t1.append t2) h⟩
      · exact h.elim
    · exact h.elim
theorem o_mul : OpR X (binaryOp .Mult) (rP2 X.K ca .mul) := by
  intro pins s σ H x y v u Q I rx ry h
  obtain ⟨ro, S, ds, R, rd, h⟩ := h
  obtain ⟨a, b, rfl, r1, r2⟩ := rd.two
  replace h : Post X.K ca H ro (mulD a b S) (goodV Q) NoW := h
  have hcl := cap_line
  cases a <;> cases b <;> first | exact (show False from h).elim | skip
  · rename_i i j
    obtain rfl := r1.int_inv
    obtain rfl := r2.int_inv
    replace h : Post X.K ca H ro (if (-(2 ^ 64) < i ∧ i < 2 ^ 64) ∨ (-(2 ^ 64) < j ∧ j < 2 ^ 64) then .ok (.int (i * j)) S else .bad) (goodV Q) NoW := h
    split at h
    · rename_i hz
      exact op_mul pins s σ H _ _ v u Q I rx ry ⟨_, _, rfl, rfl, hz, Post.val R (.int _) h⟩
    · exact h.elim
  · rename_i xs n
    obtain rfl := r2.int_inv
    replace h : Post X.K ca H ro (if 2 ≤ n ∧ n ≤ 1000 ∧ xs.length ≤ 1000 ∧ xs.isEmpty = false then .ok (.tup (List.flatten (List.replicate n.toNat xs))) S else .bad) (goodV Q) NoW := h
    split at h
    · rename_i hz
      obtain ⟨p1, vs, rfl, e1, t1⟩ := r1.tup_inv
      have l1 := t1.length
      refine op_repT pins s σ H _ _ v u Q I rx ry ⟨p1, n, vs, rfl, rfl, SqT.of e1, fun z => ?_, hz.1, hz.2.1, by have := hz.2.2.1; omega, Post.newT R (t1.rep n.toNat) h⟩
      subst z
      cases t1
      exact absurd hz.2.2.2 (by simp)
    · exact h.elim
  · rename_i l n
    obtain rfl := r2.int_inv
    replace h : Post X.K ca H ro (match witems S (.loc l) with
      | some xs => if -1000000 ≤ n ∧ n ≤ 1000000 ∧ xs.length * n.toNat ≤ cap then alloc (.list (List.flatten (List.replicate n.toNat xs))) S else .bad
      | none => .bad) (goodV Q) NoW := h
    split at h
    · rename_i xs w1
      obtain ⟨_, p1, vs, _, rfl, _, _, e1, t1⟩ := R.witems r1 w1
      split at h
      · rename_i hz
        have l1 := t1.length
        exact op_rep pins s σ H _ _ v u Q I rx ry ⟨p1, n, vs, rfl, rfl, e1, by omega, by omega, by rw [← l1]; omega, Post.newL R (t1.rep n.toNat) h⟩
      · exact h.elim
    · exact h.elim

/-! ### equality, membership -/
theorem pure2_inv {Q : VK} {H : Hp} {ro : List Addr} {S : Store} {o : Option D} (h : Post X.K ca H ro (pure2 o S) (goodV Q) NoW) : ∃ d, o = some d ∧ Post X.K ca H ro (.ok d S) (goodV Q) NoW := by
  cases o with
  | none => exact (show False from h).elim
  | some d => exact ⟨d, rfl, h⟩
theorem deq_cases {S : Store} {a b : D} {c : Bool} (h : deq S a b = some c) : (∃ p, a = .txt p ∧ b = .txt p ∧ c = true) ∨ ∃ x y, frz S deep a = some x ∧ frz S deep b = some y ∧ c = PyData.eqv x y := by
  unfold deq at h
  split at h
  · rename_i p q
    split at h
    · rename_i e
      cases h
      exact .inl ⟨p, rfl, by rw [pdEq_eq _ _ e], rfl⟩
    · cases h
  · split at h
    · rename_i x y e1 e2
      cases h
      exact .inr ⟨x, y, e1, e2, rfl⟩
    · cases h
theorem o_eq (hu : X.A.units + 64 < cLine) : OpR X (compareOp .Eq) (rP2 X.K ca .eq) := by
  intro pins s σ H x y v u Q I rx ry h
  obtain ⟨ro, S, ds, R, rd, h⟩ := h
  obtain ⟨a, b, rfl, r1, r2⟩ := rd.two
  obtain ⟨d, e, h⟩ := pure2_inv (show Post X.K ca H ro (pure2 ((deq S a b).map .bl) S) (goodV Q) NoW from h)
  obtain ⟨c, e2, rfl⟩ := Option.map_eq_some_iff.mp e
  have q := Post.val R (.bl c) h
  rcases deq_cases e2 with ⟨p, rfl, rfl, rfl⟩ | ⟨dx, dy, e1, e3, rfl⟩
  · cases r1
    cases r2
    refine op_eq pins s σ H _ _ v u Q I rx ry ⟨rfl, ?_⟩
    rw [decide_eq_true rfl]
    exact q
  · obtain ⟨d1, f1⟩ := frz_dp R _ _ _ _ r1 e1
    obtain ⟨d2, f2⟩ := frz_dp R _ _ _ _ r2 e3
    obtain ⟨as, q1⟩ := d1.reads I _ _ _ rx
    obtain ⟨bs, q2⟩ := d2.reads I _ _ _ ry
    have z := f1.depth
    exact PySem.SeqAt.eq_plain q1 q2 f1.plain f2.plain (by simp only [deep] at z; omega) ⟨.bl _, H, I, rfl, q⟩
theorem o_ne (hu : X.A.units + 64 < cLine) : OpR X (compareOp .NotEq) (rP2 X.K ca .ne) := by
  intro pins s σ H x y v u Q I rx ry h
  obtain ⟨ro, S, ds, R, rd, h⟩ := h
  obtain ⟨a, b, rfl, r1, r2⟩ := rd.two
  obtain ⟨d, e, h⟩ := pure2_inv (show Post X.K ca H ro (pure2 ((deq S a b).map fun c => .bl (!c)) S) (goodV Q) NoW from h)
  obtain ⟨c, e2, rfl⟩ := Option.map_eq_some_iff.mp e
  have q := Post.val R (.bl (!c)) h
  rcases deq_cases e2 with ⟨p, rfl, rfl, rfl⟩ | ⟨dx, dy, e1, e3, rfl⟩
  · cases r1
    cases r2
    refine op_ne pins s σ H _ _ v u Q I rx ry ⟨rfl, ?_⟩
    rw [decide_eq_true rfl]
    exact q
  · obtain ⟨d1, f1⟩ := frz_dp R _ _ _ _ r1 e1
    obtain ⟨d2, f2⟩ := frz_dp R _ _ _ _ r2 e3
    obtain ⟨as, q1⟩ := d1.reads I _ _ _ rx
    obtain ⟨bs, q2⟩ := d2.reads I _ _ _ ry
    have z := f1.depth
    exact PySem.SeqAt.ne_plain q1 q2 f1.plain f2.plain (by simp only [deep] at z; omega) ⟨.bl _, H, I, rfl, q⟩
end
end MI

/-! MI, 5: further operations. -/
namespace MI
open PySem PySem.Spec PyProof.Rows L2

section
variable {K : PySem.W.Frag} {ca : CA} {H : Hp} {ro : List Addr} {S : Store}
/-! ### keys -/
theorem keyOf_rd {d : D} {k : Key} {v : V} (h : keyOf d = some k) (r : RD H ro d v) : v = kV k := by
  cases d with
  | int i => cases h; cases r; rfl
  | str s => cases h; cases r; rfl
  | _ => cases h
theorem keys_all : ∀ {xs : List D} {ks : List Key}, Paired (fun x y => keyOf x = some y) xs ks → ∀ {vs : List V}, RDs H ro xs vs → vs = ks.map kV := by
  intro xs ks hp
  induction hp with
  | nil => intro vs r; cases r; rfl
  | cons h t k =>
    intro vs r
    cases r with
    | cons r1 r2 => rw [List.map_cons, keyOf_rd h r1, k r2]
theorem keysOf_rd {d : D} {ks : List Key} {v : V} (h : keysOf d = some ks) (r : RD H ro d v) : ∃ b, v = .ref b ∧ H b = some (.tup (ks.map kV)) := by
  cases d with
  | tup xs =>
    obtain ⟨a, vs, rfl, e, t⟩ := r.tup_inv
    have q := keys_all (mapO_inv h) t
    exact ⟨a, rfl, by rw [e, q]⟩
  | _ => cases h
theorem keyD_rd (k : Key) : RD H ro (keyD k) (kV k) := by
  cases k with
  | inl i => exact .int i
  | inr s => exact .str s
theorem keyDs_rd : ∀ ks : List Key, RDs H ro (ks.map keyD) (ks.map kV)
  | [] => .nil
  | k :: ks => .cons (keyD_rd k) (keyDs_rd ks)
/-! ### dicts -/
theorem KR.get {kvs : List (List Key × D)} {ws : List (List Key × V)} (h : KR H ro kvs ws) (k : List Key) : match dget kvs k, valV ws k with
    | some d, some v => RD H ro d v
    | none, none => True
    | _, _ => False := by
  unfold KR at h
  induction h with
  | nil => trivial
  | @cons p q ps qs h t ih =>
    obtain ⟨h1, h2⟩ := h
    unfold dget valV at ih ⊢
    rw [List.find?_cons, List.find?_cons]
    by_cases e : p.1 = k
    · have e' : q.1 = k := h1.symm.trans e
      rw [decide_eq_true e, decide_eq_true e']
      exact h2
    · have e' : ¬ q.1 = k := fun z => e (h1.trans z)
      rw [decide_eq_false e, decide_eq_false e']
      exact ih
theorem KR.get_some {kvs : List (List Key × D)} {ws : List (List Key × V)} (h : KR H ro kvs ws) {k : List Key} {d : D} (e : dget kvs k = some d) : ∃ v, valV ws k = some v ∧ RD H ro d v := by
  have q := h.get k
  rw [e] at q
  cases e2 : valV ws k with
  | none => rw [e2] at q; exact q.elim
  | some v => rw [e2] at q; exact ⟨v, rfl, q⟩
theorem KR.get_isSome {kvs : List (List Key × D)} {ws : List (List Key × V)} (h : KR H ro kvs ws) (k : List Key) : (dget kvs k).isSome = (valV ws k).isSome := by
  have q := h.get k
  cases e1 : dget kvs k <;> cases e2 : valV ws k <;> rw [e1, e2] at q <;> first | rfl | exact q.elim
theorem KR.any {kvs : List (List Key × D)} {ws : List (List Key × V)} (h : KR H ro kvs ws) (k : List Key) : (kvs.any fun kv => decide (kv.1 = k)) = ws.any fun kv => decide (kv.1 = k) := by
  unfold KR at h
  induction h with
  | nil => rfl
  | @cons p q ps qs h t ih => rw [List.any_cons, List.any_cons, ih, h.1]
theorem KR.repl {kvs : List (List Key × D)} {ws : List (List Key × V)} (h : KR H ro kvs ws) (k : List Key) {d : D} {v : V} (r : RD H ro d v) :
    KR H ro (kvs.map fun kv => if kv.1 = k then (kv.1, d) else kv) (ws.map fun kv => if kv.1 = k then (kv.1, v) else kv) := by
  unfold KR at h ⊢
  induction h with
  | nil => exact .nil
  | @cons p q ps qs h t ih =>
    rw [List.map_cons, List.map_cons]
    refine .cons ?_ ih
    obtain ⟨h1, h2⟩ := h
    by_cases e : p.1 = k
    · have e' : q.1 = k := h1.symm.trans e
      rw [if_pos e, if_pos e']
      exact ⟨h1, r⟩
    · have e' : ¬ q.1 = k := fun z => e (h1.trans z)
      rw [if_neg e, if_neg e']
      exact ⟨h1, h2⟩
theorem KR.put {kvs : List (List Key × D)} {ws : List (List Key × V)} (h : KR H ro kvs ws) (k : List Key) {d : D} {v : V} (r : RD H ro d v) : KR H ro (dput kvs k d) (putK ws k v) := by
  unfold dput putK
  rw [h.any k]
  split
  · exact h.repl k r
  · exact Paired.snoc h ⟨rfl, r⟩
theorem KR.length {kvs : List (List Key × D)} {ws : List (List Key × V)} (h : KR H ro kvs ws) : kvs.length = ws.length := Paired.length h
theorem StR.dict (R : StR K ca ro S H) {l : Nat} {a : Addr} {lk : Bool} {kvs : List (List Key × D)} (ha : ro[l]? = some a) (h : S[l]? = some (.dict lk kvs)) : ∃ ws, Rd H a (.dT ws) ∧ KR H ro kvs ws := by
  cases lk with
  | false =>
    obtain ⟨ws, e, r⟩ := R.obj l a _ ha h
    exact ⟨ws, .inl e, r⟩
  | true =>
    obtain ⟨o, ws, e, r⟩ := R.obj l a _ ha h
    exact ⟨ws, .inr ⟨o, e⟩, r⟩
theorem dget_of {a b : Addr} {ws : List (List Key × V)} {k : List Key} (e : Rd H a (.dT ws)) (eb : H b = some (.tup (k.map kV))) : DGet H a (.ref b) (valV ws k) := .inr ⟨ws, k, b, e, rfl, eb, rfl⟩
end

section
variable {X : Cx} {ca : CA}
/-! ### in, not in -/
theorem isin_list {ro : List Addr} {S : Store} {H : Hp} {pins : List (Addr × Obj)} {s : Shared} {σ : L2.St} {x y : V} {v u : Value} {a b : D} {xs : List D} {d : PyData} {ds : List PyData}
    (hu : X.A.units + 64 < cLine) (R : StR X.K ca ro S H) (I : Inv X pins σ H s) (rx : RelV x v) (ry : RelV y u) (r1 : RD H ro a x) (hb : (∃ l, b = .loc l ∧ litems S b = some xs) ∨ b = .tup xs) (r2 : RD H ro b y)
    (e1 : frz S deep a = some d) (e2 : mapO (frz S deep) xs = some ds) : ∀ (E Q : Value → Shared → Prop),
      (Q (.bool (ds.any fun z => PyData.eqv z d)) s → wpAny (model X.prog X.w) X.A (compareOp .In v u) Q E s) ∧ (Q (.bool (!ds.any fun z => PyData.eqv z d)) s → wpAny (model X.prog X.w) X.A (compareOp .NotIn v u) Q E s) := by
  intro E Q
  obtain ⟨d1, f1⟩ := frz_dp R _ _ _ _ r1 e1
  obtain ⟨as, q1⟩ := d1.reads I _ _ _ rx
  have z := f1.depth
  have room : X.A.units + 1 + min (PyData.depthAll ds) d.depth < cLine := by
    simp only [deep] at z
    omega
  rcases hb with ⟨l, rfl, hl⟩ | rfl
  · obtain ⟨_, p, vs, _, rfl, _, hs, t⟩ := R.litems r2 hl
    obtain ⟨d2, f2⟩ := frz_dps R t e2
    obtain ⟨bs, q2⟩ := (Dp.lst hs d2).reads I _ _ _ ry
    exact ⟨fun q => PySem.SeqAt.in_list_data q2 q1 f2.plain f1.plain room q, fun q => PySem.SeqAt.notIn_list_data q2 q1 f2.plain f1.plain room q⟩
  · obtain ⟨p, vs, rfl, e, t⟩ := r2.tup_inv
    obtain ⟨d2, f2⟩ := frz_dps R t e2
    obtain ⟨bs, q2⟩ := (Dp.tup (SqT.of e) d2).reads I _ _ _ ry
    exact ⟨fun q => PySem.SeqAt.in_tuple_data q2 q1 f2.plain f1.plain room q, fun q => PySem.SeqAt.notIn_tuple_data q2 q1 f2.plain f1.plain room q⟩
theorem isinD_cases {S : Store} {a b : D} {c : Bool} (h : isinD a b S = some c) :
    (∃ l lk kvs k, b = .loc l ∧ S[l]? = some (.dict lk kvs) ∧ keysOf a = some k ∧ c = (dget kvs k).isSome) ∨
    ∃ xs d ds, ((∃ l, b = .loc l ∧ litems S b = some xs) ∨ b = .tup xs) ∧ frz S deep a = some d ∧ mapO (frz S deep) xs = some ds ∧ c = ds.any fun z => PyData.eqv z d := by
  unfold isinD at h
  split at h
  · rename_i l
    split at h
    · rename_i lk kvs q
      split at h
      · rename_i k qk
        cases h
        exact .inl ⟨l, lk, kvs, k, rfl, q, qk, rfl⟩
      · cases h
    · rename_i xs q
      split at h
      · rename_i d ds e1 e2
        cases h
        exact .inr ⟨xs, d, ds, .inl ⟨l, rfl, by simp only [MI.litems, q]⟩, e1, e2, rfl⟩
      · cases h
    · rename_i xs q
      split at h
      · rename_i d ds e1 e2
        cases h
        exact .inr ⟨xs, d, ds, .inl ⟨l, rfl, by simp only [MI.litems, q]⟩, e1, e2, rfl⟩
      · cases h
    · cases h
  · rename_i xs
    split at h
    · rename_i d ds e1 e2
      cases h
      exact .inr ⟨xs, d, ds, .inr rfl, e1, e2, rfl⟩
    · cases h
  · cases h
theorem o_in (hu : X.A.units + 64 < cLine) : OpR X (compareOp .In) (rP2 X.K ca .isin) := by
  intro pins s σ H x y v u Q I rx ry h
  obtain ⟨ro, S, ds, R, rd, h⟩ := h
  obtain ⟨a, b, rfl, r1, r2⟩ := rd.two
  obtain ⟨d, e, h⟩ := pure2_inv (show Post X.K ca H ro (pure2 ((isinD a b S).map .bl) S) (goodV Q) NoW from h)
  obtain ⟨c, e3, rfl⟩ := Option.map_eq_some_iff.mp e
  have q := Post.val R (.bl c) h
  rcases isinD_cases e3 with ⟨l, lk, kvs, k, rfl, hl, hk, rfl⟩ | ⟨xs, dx, dxs, hb, e1, e2, rfl⟩
  · obtain ⟨p, rfl, ep⟩ := r2.loc_inv
    obtain ⟨ws, e1, kr⟩ := R.dict ep hl
    obtain ⟨p2, rfl, e2⟩ := keysOf_rd hk r1
    cases (show u = Value.ref p from ry)
    refine d_in (by omega) I (dget_of e1 e2) rx fun s' I' => ⟨.bl _, H, I', rfl, ?_⟩
    rw [← kr.get_isSome]
    exact q
  · exact (isin_list hu R I rx ry r1 hb r2 e1 e2 _ _).1 ⟨.bl _, H, I, rfl, q⟩
theorem o_notin (hu : X.A.units + 64 < cLine) : OpR X (compareOp .NotIn) (rP2 X.K ca .notin) := by
  intro pins s σ H x y v u Q I rx ry h
  obtain ⟨ro, S, ds, R, rd, h⟩ := h
  obtain ⟨a, b, rfl, r1, r2⟩ := rd.two
  obtain ⟨d, e, h⟩ := pure2_inv (show Post X.K ca H ro (pure2 ((isinD a b S).map fun c => .bl (!c)) S) (goodV Q) NoW from h)
  obtain ⟨c, e3, rfl⟩ := Option.map_eq_some_iff.mp e
  have q := Post.val R (.bl (!c)) h
  rcases isinD_cases e3 with ⟨l, lk, kvs, k, rfl, hl, hk, rfl⟩ | ⟨xs, dx, dxs, hb, e1, e2, rfl⟩
  · obtain ⟨p, rfl, ep⟩ := r2.loc_inv
    obtain ⟨ws, e1, kr⟩ := R.dict ep hl
    obtain ⟨p2, rfl, e2⟩ := keysOf_rd hk r1
    cases (show u = Value.ref p from ry)
    refine d_notIn (by omega) I (dget_of e1 e2) rx fun s' I' => ⟨.bl _, H, I', rfl, ?_⟩
    rw [← kr.get_isSome]
    exact q
  · exact (isin_list hu R I rx ry r1 hb r2 e1 e2 _ _).2 ⟨.bl _, H, I, rfl, q⟩

/-! ### is -/
theorem RD.non_iff {H : Hp} {ro : List Addr} {a : D} {x : V} (r : RD H ro a x) : isNon a = decide (x = .non) := by
  cases r <;> rfl
theorem o_isN : OpR X (compareOp .Is) (rP2 X.K ca .isN) := by
  intro pins s σ H x y v u Q I rx ry h
  obtain ⟨ro, S, ds, R, rd, h⟩ := h
  obtain ⟨a, b, rfl, r1, r2⟩ := rd.two
  cases b <;> first | exact (show False from h).elim | skip
  obtain rfl := r2.non_inv
  refine op_isN pins s σ H _ _ v u Q I rx ry ⟨rfl, ?_⟩
  rw [← r1.non_iff]
  exact Post.val R (.bl _) h
theorem o_notN : OpR X (compareOp .IsNot) (rP2 X.K ca .notN) := by
  intro pins s σ H x y v u Q I rx ry h
  obtain ⟨ro, S, ds, R, rd, h⟩ := h
  obtain ⟨a, b, rfl, r1, r2⟩ := rd.two
  cases b <;> first | exact (show False from h).elim | skip
  obtain rfl := r2.non_inv
  refine op_notN pins s σ H _ _ v u Q I rx ry ⟨rfl, ?_⟩
  rw [← r1.non_iff]
  exact Post.val R (.bl _) h
theorem o_isB : OpR X (compareOp .Is) (rP2 X.K ca .isB) := by
  intro pins s σ H x y v u Q I rx ry h
  obtain ⟨ro, S, ds, R, rd, h⟩ := h
  obtain ⟨a, b, rfl, r1, r2⟩ := rd.two
  cases a <;> cases b <;> first | exact (show False from h).elim | skip
  obtain rfl := r1.bl_inv
  obtain rfl := r2.bl_inv
  exact op_isBl pins s σ H _ _ v u Q I rx ry ⟨_, _, rfl, rfl, Post.val R (.bl _) h⟩
theorem o_notB : OpR X (compareOp .IsNot) (rP2 X.K ca .notB) := by
  intro pins s σ H x y v u Q I rx ry h
  obtain ⟨ro, S, ds, R, rd, h⟩ := h
  obtain ⟨a, b, rfl, r1, r2⟩ := rd.two
  cases a <;> cases b <;> first | exact (show False from h).elim | skip
  obtain rfl := r1.bl_inv
  obtain rfl := r2.bl_inv
  exact op_notBl pins s σ H _ _ v u Q I rx ry ⟨_, _, rfl, rfl, Post.val R (.bl _) h⟩

/-! ### items -/
theorem ixN_lt {n : Nat} {i : Int} {j : Nat} (h : ixN n i = some j) : j < n := (ixN_seq h).2.1
theorem atI_of {xs : List D} {vs : List V} {H : Hp} {ro : List Addr} (t : RDs H ro xs vs) {i : Int} {n : Nat} {d : D} (h : ixN xs.length i = some n) (e : xs[n]? = some d) : ∃ v, atI vs i = some v ∧ RD H ro d v := by
  obtain ⟨v, e2, r⟩ := t.get e
  refine ⟨v, ?_, r⟩
  unfold atI
  rw [← t.length, h]
  exact e2
theorem itemD_cases {S : Store} {o i d : D} (h : itemD o i S = some d) :
    (∃ xs j n, o = .tup xs ∧ i = .int j ∧ ixN xs.length j = some n ∧ xs[n]? = some d) ∨ (∃ xs j n l, o = .loc l ∧ i = .int j ∧ litems S o = some xs ∧ ixN xs.length j = some n ∧ xs[n]? = some d) ∨
    ∃ l lk kvs k, o = .loc l ∧ S[l]? = some (.dict lk kvs) ∧ keysOf i = some k ∧ dget kvs k = some d := by
  unfold itemD at h
  split at h
  · rename_i xs j
    split at h
    · rename_i n q
      exact .inl ⟨xs, j, n, rfl, rfl, q, h⟩
    · cases h
  · rename_i l
    split at h
    · rename_i xs j q
      split at h
      · rename_i n qn
        exact .inr (.inl ⟨xs, j, n, l, rfl, rfl, by simp only [MI.litems, q], qn, h⟩)
      · cases h
    · rename_i xs j q
      split at h
      · rename_i n qn
        exact .inr (.inl ⟨xs, j, n, l, rfl, rfl, by simp only [MI.litems, q], qn, h⟩)
      · cases h
    · rename_i lk kvs q
      split at h
      · rename_i k2 qk
        exact .inr (.inr ⟨l, lk, kvs, k2, rfl, q, qk, h⟩)
      · cases h
    · cases h
  · cases h
theorem o_item (hu : X.A.units + 64 < cLine) : IxR X (rP2 X.K ca .item) := by
  intro value slice pins s σ H x y v u Q I rx ry h hs
  obtain ⟨ro, S, ds, R, rd, h⟩ := h
  obtain ⟨a, b, rfl, r1, r2⟩ := rd.two
  obtain ⟨d, e, g0⟩ := pure2_inv (show Post X.K ca H ro (pure2 (itemD a b S) S) (goodV Q) NoW from h)
  rcases itemD_cases e with ⟨xs, j, n, rfl, rfl, hn, hd⟩ | ⟨xs, j, n, l, rfl, rfl, hl, hn, hd⟩ | ⟨l, lk, kvs, k, rfl, hl, hk, hd⟩
  · obtain ⟨p, vs, rfl, e1, t⟩ := r1.tup_inv
    obtain rfl := r2.int_inv
    obtain ⟨z, ez, rz⟩ := atI_of t hn hd
    exact ix_tup value slice pins s σ H _ _ v u Q I rx ry ⟨p, vs, j, z, rfl, rfl, SqT.of e1, ez, Post.val R rz g0⟩ hs
  · obtain ⟨_, p, vs, _, rfl, _, hq, t⟩ := R.litems r1 hl
    obtain rfl := r2.int_inv
    obtain ⟨z, ez, rz⟩ := atI_of t hn hd
    exact ix_list value slice pins s σ H _ _ v u Q I rx ry ⟨p, vs, j, z, rfl, rfl, hq, ez, Post.val R rz g0⟩ hs
  · obtain ⟨p, rfl, ep⟩ := r1.loc_inv
    obtain ⟨ws, e1, kr⟩ := R.dict ep hl
    obtain ⟨p2, rfl, e2⟩ := keysOf_rd hk r2
    obtain ⟨z, ez, rz⟩ := kr.get_some hd
    cases (show v = Value.ref p from rx)
    have g : DGet H p (.ref p2) (some z) := by
      rw [← ez]
      exact dget_of e1 e2
    exact tail_any (dict_typeIs I g) PySem.F.slot_dict_getitem.lookup (d_getItem (by omega) I g ry fun w' s' I' rw' => ⟨z, H, I', rw', Post.val R rz g0⟩) hs
end
end MI

/-! MI, 6: slices, built-in functions, methods. -/
namespace MI
open PySem PySem.Spec PyProof.Rows L2

/-! ### the sort -/
section
theorem insB_perm (x : D × PyData) : ∀ ys, (insB x ys).Perm (x :: ys)
  | [] => .refl _
  | y :: ys => by
    unfold insB
    split
    · exact .refl _
    · exact (List.Perm.cons y (insB_perm x ys)).trans (List.Perm.swap ..)
theorem isort_perm : ∀ xs, (isort xs).Perm xs
  | [] => .refl _
  | x :: xs => (insB_perm x _).trans (List.Perm.cons x (isort_perm xs))
abbrev leP : D × PyData → D × PyData → Bool := PySem.W.dataLe false fun p : D × PyData => p.2
theorem leP_total : PySem.W.TotalLe leP := PySem.W.sortLe_total _ _ _
theorem insB_sorted (x : D × PyData) : ∀ ys, ys.Pairwise (fun a b => leP a b = true) → (insB x ys).Pairwise (fun a b => leP a b = true)
  | [], _ => List.pairwise_singleton _ _
  | y :: ys, h => by
    unfold insB
    rw [List.pairwise_cons] at h
    split
    · rename_i hl
      rw [List.pairwise_cons]
      refine ⟨fun z hz => ?_, List.pairwise_cons.mpr h⟩
      rcases List.mem_cons.mp hz with rfl | hz
      · exact hl
      · exact leP_total.trans _ _ _ hl (h.1 z hz)
    · rename_i hl
      rw [List.pairwise_cons]
      refine ⟨fun z hz => ?_, insB_sorted x ys h.2⟩
      rcases List.mem_cons.mp ((insB_perm x ys).mem_iff.mp hz) with rfl | hz
      · rcases leP_total.total y z with q | q
        · exact q
        · exact absurd q hl
      · exact h.1 z hz
theorem isort_sorted : ∀ xs, (isort xs).Pairwise (fun a b => leP a b = true)
  | [] => .nil
  | x :: xs => insB_sorted x _ (isort_sorted xs)
theorem insB_filter (c x : D × PyData) : ∀ ys, ys.Pairwise (fun a b => leP a b = true) → (insB x ys).filter (PySem.W.sameRank leP c) = (x :: ys).filter (PySem.W.sameRank leP c)
  | [], _ => rfl
  | y :: ys, h => by
    unfold insB
    split
    · rfl
    · rename_i hl
      rw [List.pairwise_cons] at h
      have ih := insB_filter c x ys h.2
      rw [List.filter_cons, ih]
      by_cases hx : PySem.W.sameRank leP c x = true
      · have hy : ¬ PySem.W.sameRank leP c y = true := fun q => hl (by
          unfold PySem.W.sameRank at hx q
          rw [Bool.and_eq_true] at hx q
          exact leP_total.trans _ _ _ hx.2 q.1)
        simp only [List.filter_cons, hx, hy, if_true, if_false, Bool.false_eq_true, Bool.not_eq_true] at *
      · simp only [List.filter_cons, hx, if_false, Bool.false_eq_true]
theorem isort_filter (c : D × PyData) : ∀ xs, (isort xs).filter (PySem.W.sameRank leP c) = xs.filter (PySem.W.sameRank leP c)
  | [] => rfl
  | x :: xs => by
    show (insB x (isort xs)).filter _ = _
    rw [insB_filter c x _ (isort_sorted xs), List.filter_cons, List.filter_cons, isort_filter c xs]
theorem isort_eq (xs : List (D × PyData)) : isort xs = xs.mergeSort leP := PySem.W.sort_unique leP_total (isort_sorted xs) fun c => isort_filter c xs
theorem allAlike_mem : ∀ {ds : List PyData}, allAlike ds = true → PySem.W.AllAlike ds
  | [], _ => fun _ h => by cases h
  | x :: xs, h => by
    simp only [allAlike, Bool.and_eq_true, List.all_eq_true] at h
    obtain ⟨⟨h1, h2⟩, h3⟩ := h
    intro d hd d' hd'
    rcases List.mem_cons.mp hd with q | q <;> rcases List.mem_cons.mp hd' with q' | q'
    · rw [q, q']; exact h2
    · rw [q]; exact (h1 _ q').1
    · rw [q']; exact (h1 _ q).2
    · exact allAlike_mem h3 d q d' q'
theorem sortable_of {ds : List PyData} (h : sortable ds = true) : PySem.W.Sortable ds := by
  unfold sortable at h
  rw [Bool.or_eq_true, List.all_eq_true, List.all_eq_true] at h
  rcases h with h | h
  · refine .inl fun d hd => ?_
    have q := h d hd
    split at q
    · exact ⟨_, _, rfl⟩
    · cases q
  · refine .inr fun d hd => ?_
    have q := h d hd
    split at q
    · cases q
    · cases q
    · rename_i h1 h2
      exact ⟨fun z => h1 z, fun xs z => h2 xs z⟩
end

section
variable {X : Cx} {ca : CA}
/-! ### slices -/
theorem cut_rd {H : Hp} {ro : List Addr} {xs : List D} {vs : List V} (t : RDs H ro xs vs) (lo hi : Option Int) : RDs H ro (cut xs lo hi) (cutV vs lo hi) := by
  unfold cut cutV
  rw [t.length]
  exact (t.drop _).take _
theorem cut_whole {xs : List D} {lo hi : Option Int} (h : HT.sIx xs.length 0 lo = 0 ∧ HT.sIx xs.length xs.length hi = xs.length) : cut xs lo hi = xs := by
  unfold cut
  rw [h.1, h.2, List.drop_zero, Nat.sub_zero, List.take_length]
abbrev rSl (K : PySem.W.Frag) (ca : CA) : V → Option Int → Option Int → Hp → VK → Prop := fun x lo hi H Q => ∃ (ro : List Addr) (S : Store) (a : D), StR K ca ro S H ∧ RD H ro a x ∧ Post K ca H ro (sliceD a lo hi S) (goodV Q) NoW
theorem o_slice : SlR X (rSl X.K ca) := by
  intro pins s σ H x v vl vu lo hi sl Q I rx hs pl pu h
  obtain ⟨ro, S, a, R, r1, h⟩ := h
  cases a <;> first | exact (show False from h).elim | skip
  · rename_i xs
    obtain ⟨p, vs, rfl, e1, t⟩ := r1.tup_inv
    replace h : Post X.K ca H ro (.ok (.tup (cut xs lo hi)) S) (goodV Q) NoW := h
    refine sl_tupA pins s σ H _ v vl vu lo hi sl Q I rx hs pl pu ⟨p, vs, rfl, SqT.of e1, fun hw => ?_, fun _ => Post.newT R (cut_rd t lo hi) h⟩
    rw [← t.length] at hw
    rw [cut_whole hw] at h
    exact Post.val R (.tup e1 t) h
  · rename_i l
    replace h : Post X.K ca H ro (match litems S (.loc l) with | some xs => alloc (.list (cut xs lo hi)) S | none => .bad) (goodV Q) NoW := h
    split at h
    · rename_i xs hl
      obtain ⟨_, p, vs, _, rfl, _, hq, t⟩ := R.litems r1 hl
      exact sl_list pins s σ H _ v vl vu lo hi sl Q I rx hs pl pu ⟨p, vs, rfl, hq, Post.newL R (cut_rd t lo hi) h⟩
    · exact h.elim

/-! ### built-in functions -/
theorem c_len : CallR X (.builtin "len") (rP X.K ca .len) := by
  intro pins s σ H vs us Q I rv h
  obtain ⟨ro, S, ds, R, rd, h⟩ := h
  cases rd with
  | nil => exact (show False from h).elim
  | cons r1 rd =>
    cases rd with
    | cons _ _ => exact (show False from h).elim
    | nil =>
      rename_i a x
      replace h : Post X.K ca H ro (lenD a S) (goodV Q) NoW := h
      cases a <;> first | exact (show False from h).elim | skip
      · obtain ⟨p, vs, rfl, e1, t⟩ := r1.tup_inv
        refine call_len_seq pins s σ H _ us Q I rv ⟨p, vs, rfl, .inr (SqT.of e1), ?_⟩
        rw [← t.length]
        exact Post.val R (.int _) h
      · rename_i l
        replace h : Post X.K ca H ro (match litems S (.loc l) with | some xs => .ok (.int xs.length) S | none => .bad) (goodV Q) NoW := h
        split at h
        · rename_i xs hl
          obtain ⟨_, p, vs, _, rfl, _, hq, t⟩ := R.litems r1 hl
          refine call_len_seq pins s σ H _ us Q I rv ⟨p, vs, rfl, .inl hq, ?_⟩
          rw [← t.length]
          exact Post.val R (.int _) h
        · exact h.elim
theorem c_abs : CallR X (.builtin "abs") (fun vs H Q => vs.length = 1 ∧ rP X.K ca .abs vs H Q) := by
  intro pins s σ H vs us Q I rv h
  obtain ⟨hl, ro, S, ds, R, rd, h⟩ := h
  match vs, hl with
  | [x], _ =>
    obtain ⟨a, rfl, r1⟩ := rd.one
    cases a <;> first | exact (show False from h).elim | skip
    obtain rfl := r1.int_inv
    exact call_abs pins s σ H _ us Q I rv ⟨_, rfl, Post.val R (.int _) h⟩
theorem c_max2 (hc : X.calm = true) : CallR X (.builtin "max") (fun vs H Q => vs.length = 2 ∧ rP X.K ca .max2 vs H Q) := by
  intro pins s σ H vs us Q I rv h
  obtain ⟨hl, ro, S, ds, R, rd, h⟩ := h
  match vs, hl with
  | [x, y], _ =>
    obtain ⟨a, b, rfl, r1, r2⟩ := rd.two
    cases a <;> cases b <;> first | exact (show False from h).elim | skip
    obtain rfl := r1.int_inv
    obtain rfl := r2.int_inv
    exact call_max2 hc pins s σ H _ us Q I rv ⟨_, _, rfl, Post.val R (.int _) h⟩
theorem c_min2 (hc : X.calm = true) : CallR X (.builtin "min") (fun vs H Q => vs.length = 2 ∧ rP X.K ca .min2 vs H Q) := by
  intro pins s σ H vs us Q I rv h
  obtain ⟨hl, ro, S, ds, R, rd, h⟩ := h
  match vs, hl with
  | [x, y], _ =>
    obtain ⟨a, b, rfl, r1, r2⟩ := rd.two
    cases a <;> cases b <;> first | exact (show False from h).elim | skip
    obtain rfl := r1.int_inv
    obtain rfl := r2.int_inv
    exact call_min2 hc pins s σ H _ us Q I rv ⟨_, _, rfl, Post.val R (.int _) h⟩
/-- one argument, a list -/
theorem one_list {f : P} {H : Hp} {vs : List V} {Q : VK} {g : List D → Store → R D} (hf : ∀ a S, prim f [a] S = match litems S a with | some xs => g xs S | none => .bad)
    (h : vs.length = 1 ∧ rP X.K ca f vs H Q) : ∃ (ro : List Addr) (S : Store) (p : Addr) (xs : List D) (ws : List V), vs = [.ref p] ∧ StR X.K ca ro S H ∧ SqL X.K H p ws ∧ RDs H ro xs ws ∧ Post X.K ca H ro (g xs S) (goodV Q) NoW := by
  obtain ⟨hl, ro, S, ds, R, rd, h⟩ := h
  match vs, hl with
  | [x], _ =>
    obtain ⟨a, rfl, r1⟩ := rd.one
    rw [hf] at h
    split at h
    · rename_i xs hx
      obtain ⟨_, p, ws, _, rfl, _, hq, t⟩ := R.litems r1 hx
      exact ⟨ro, S, p, xs, ws, rfl, R, hq, t, h⟩
    · exact h.elim
theorem intL_vs {H : Hp} {ro : List Addr} {xs : List D} {is : List Int} (h : intL xs = some is) : ∀ {vs : List V}, RDs H ro xs vs → vs = is.map V.int := by
  have hp := mapO_inv h
  clear h
  induction hp with
  | nil => intro vs r; cases r; rfl
  | cons e t k =>
    intro vs r
    cases r with
    | cons r1 r2 =>
      rw [List.map_cons, ← k r2]
      split at e
      · cases e
        rw [r1.int_inv]
      · cases e
theorem boolL_vs {H : Hp} {ro : List Addr} {xs : List D} {is : List Bool} (h : boolL xs = some is) : ∀ {vs : List V}, RDs H ro xs vs → vs = is.map V.bl := by
  have hp := mapO_inv h
  clear h
  induction hp with
  | nil => intro vs r; cases r; rfl
  | cons e t k =>
    intro vs r
    cases r with
    | cons r1 r2 =>
      rw [List.map_cons, ← k r2]
      split at e
      · cases e
        rw [r1.bl_inv]
      · cases e
theorem c_sum (hc : X.calm = true) : CallR X (.builtin "sum") (fun vs H Q => vs.length = 1 ∧ rP X.K ca .sum vs H Q) := by
  intro pins s σ H vs us Q I rv h
  obtain ⟨ro, S, p, xs, ws, rfl, R, hq, t, h⟩ := one_list (f := .sum) (g := fun xs S => match intL xs with | some is => .ok (.int is.sum) S | none => .bad) (fun _ _ => rfl) h
  split at h
  · rename_i is e
    rw [intL_vs e t] at hq
    exact cr_sum hc pins s σ H _ us Q I rv ⟨p, is, rfl, hq, Post.val R (.int _) h⟩
  · exact h.elim
theorem c_any (hc : X.calm = true) : CallR X (.builtin "any") (fun vs H Q => vs.length = 1 ∧ rP X.K ca .any vs H Q) := by
  intro pins s σ H vs us Q I rv h
  obtain ⟨ro, S, p, xs, ws, rfl, R, hq, t, h⟩ := one_list (f := .any) (g := fun xs S => match boolL xs with | some is => .ok (.bl (is.any id)) S | none => .bad) (fun _ _ => rfl) h
  split at h
  · rename_i is e
    rw [boolL_vs e t] at hq
    exact cr_any hc pins s σ H _ us Q I rv ⟨p, is, rfl, hq, Post.val R (.bl _) h⟩
  · exact h.elim
theorem c_all (hc : X.calm = true) : CallR X (.builtin "all") (fun vs H Q => vs.length = 1 ∧ rP X.K ca .all vs H Q) := by
  intro pins s σ H vs us Q I rv h
  obtain ⟨ro, S, p, xs, ws, rfl, R, hq, t, h⟩ := one_list (f := .all) (g := fun xs S => match boolL xs with | some is => .ok (.bl (is.all id)) S | none => .bad) (fun _ _ => rfl) h
  split at h
  · rename_i is e
    rw [boolL_vs e t] at hq
    exact cr_all hc pins s σ H _ us Q I rv ⟨p, is, rfl, hq, Post.val R (.bl _) h⟩
  · exact h.elim
end
end MI

/-! MI, 7: lists made, dicts made, sorts, classes asked, methods. -/
namespace MI
open PySem PySem.Spec PyProof.Rows L2

section
variable {X : Cx} {ca : CA}
/-! ### list(..), tuple(..) -/
theorem keys_rds {H : Hp} {ro : List Addr} {kvs : List (List Key × D)} {ws : List (List Key × V)} {bs : List Addr} (kr : KR H ro kvs ws) (h : IsKeys H ws bs) : RDs H ro (kvs.map fun p => D.tup (p.1.map keyD)) (bs.map V.ref) := by
  unfold KR at kr
  induction kr generalizing bs with
  | nil =>
    unfold IsKeys at h
    cases h
    exact .nil
  | @cons p q ps qs h1 t ih =>
    unfold IsKeys at h
    cases h with
    | cons e t2 =>
      refine .cons (.tup (vs := p.1.map kV) ?_ (keyDs_rd _)) (ih t2)
      rw [h1.1]
      exact e
theorem c_list1 (hc : X.calm = true) : CallR X (.type "list") (fun vs H Q => vs.length = 1 ∧ rP X.K ca .list1 vs H Q) := by
  intro pins s σ H vs us Q I rv h
  obtain ⟨hl, ro, S, ds, R, rd, h⟩ := h
  match vs, hl with
  | [x], _ =>
    obtain ⟨a, rfl, r1⟩ := rd.one
    replace h : Post X.K ca H ro (listD a S) (goodV Q) NoW := h
    cases a <;> first | exact (show False from h).elim | skip
    · obtain ⟨p, vs, rfl, e, t⟩ := r1.tup_inv
      exact call_list_of pins s σ H _ us Q I rv ⟨p, vs, rfl, .inr (SqT.of e), Post.newL R t h⟩
    · rename_i l
      unfold listD at h
      simp only at h
      split at h
      · rename_i xs q
        obtain ⟨_, p, vs, _, rfl, _, hq, t⟩ := R.litems (xs := xs) r1 (by simp only [MI.litems, q])
        exact call_list_of pins s σ H _ us Q I rv ⟨p, vs, rfl, .inl hq, Post.newL R t h⟩
      · rename_i xs q
        obtain ⟨_, p, vs, _, rfl, _, hq, t⟩ := R.litems (xs := xs) r1 (by simp only [MI.litems, q])
        exact call_list_of pins s σ H _ us Q I rv ⟨p, vs, rfl, .inl hq, Post.newL R t h⟩
      · rename_i lk kvs q
        obtain ⟨p, rfl, ep⟩ := r1.loc_inv
        obtain ⟨ws, e1, kr⟩ := R.dict ep q
        exact call_list_dT hc pins s σ H _ us Q I rv ⟨p, ws, rfl, e1, fun p2 bs hp hk => Post.newL R (keys_rds kr hk) h p2 hp⟩
      · exact h.elim
theorem c_tuple1 : CallR X (.type "tuple") (fun vs H Q => vs.length = 1 ∧ rP X.K ca .tuple1 vs H Q) := by
  intro pins s σ H vs us Q I rv h
  obtain ⟨ro, S, p, xs, ws, rfl, R, hq, t, h⟩ := one_list (f := .tuple1) (g := fun xs S => .ok (.tup xs) S) (fun _ _ => rfl) h
  exact call_tuple_of pins s σ H _ us Q I rv ⟨p, ws, rfl, .inl ⟨hq, Post.newT R t h⟩⟩

/-! ### dict(pairs) -/
def kvOfV (ps : List (List Key × Addr × V)) : List (List Key × V) := ps.map fun p => (p.1, p.2.2)
theorem pairKV_inv {S : Store} {d : D} {p : List Key × D} (h : pairKV S d = some p) : ∃ k, d = .tup [k, p.2] ∧ keysOf k = some p.1 := by
  unfold pairKV at h
  split at h
  · split at h
    · rename_i k v _ ks q
      cases h
      exact ⟨_, rfl, q⟩
    · cases h
  · cases h
/-- what the pairs are, in the heap -/
theorem pairs_at {H : Hp} {ro : List Addr} {S : Store} : ∀ {xs : List D} {ps : List (List Key × D)}, Paired (fun x y => pairKV S x = some y) xs ps → ∀ {vs : List V}, RDs H ro xs vs →
    ∃ ts : List (Addr × List Key × Addr × V), vs = ts.map (fun t => V.ref t.1) ∧ Paired (fun (p : List Key × D) (t : Addr × List Key × Addr × V) => p.1 = t.2.1 ∧ RD H ro p.2 t.2.2.2 ∧ H t.1 = some (.tup [.ref t.2.2.1, t.2.2.2]) ∧ H t.2.2.1 = some (.tup (t.2.1.map kV))) ps ts := by
  intro xs ps hp
  induction hp with
  | nil =>
    intro vs r
    cases r
    exact ⟨[], rfl, .nil⟩
  | cons h t ih =>
    intro vs r
    cases r with
    | cons r1 r2 =>
      obtain ⟨ts, rfl, hts⟩ := ih r2
      obtain ⟨k, rfl, hk⟩ := pairKV_inv h
      obtain ⟨a, ws, rfl, e, tt⟩ := r1.tup_inv
      cases tt with
      | cons q1 q2 =>
        cases q2 with
        | cons q2 q3 =>
          cases q3
          obtain ⟨b, rfl, eb⟩ := keysOf_rd hk q1
          exact ⟨(a, _, b, _) :: ts, rfl, .cons ⟨rfl, q2, e, eb⟩ hts⟩
theorem dputs_stored {H : Hp} {ro : List Addr} : ∀ {ps : List (List Key × D)} {ks : List (List Key × Addr × Value)} {kvs : List (List Key × D)} {ws : List (List Key × V)} {xs : List (List Key × Addr × Value)},
    Paired (fun (p : List Key × D) (q : List Key × Addr × Value) => p.1 = q.1 ∧ H q.2.1 = some (.tup (q.1.map kV)) ∧ ∃ v, RD H ro p.2 v ∧ RelV v q.2.2) ps ks → KR H ro kvs ws →
    Paired (fun (p : List Key × V) (q : List Key × Addr × Value) => p.1 = q.1 ∧ H q.2.1 = some (.tup (p.1.map kV)) ∧ RelV p.2 q.2.2) ws xs →
    ∃ ws', KR H ro (dputs kvs ps) ws' ∧ Paired (fun (p : List Key × V) (q : List Key × Addr × Value) => p.1 = q.1 ∧ H q.2.1 = some (.tup (p.1.map kV)) ∧ RelV p.2 q.2.2) ws' (storedAllH xs ks)
  | _, _, _, ws, xs, .nil, kr, hx => ⟨ws, kr, hx⟩
  | p :: ps, k :: ks, kvs, ws, xs, .cons ⟨h1, h2, v, h3, h4⟩ t, kr, hx => by
    have e1 : dputs kvs (p :: ps) = dputs (dput kvs p.1 p.2) ps := rfl
    have e2 : storedAllH xs (k :: ks) = storedAllH (storedH xs k.1 k.2.1 k.2.2) ks := rfl
    rw [e1, e2]
    refine dputs_stored t (kr.put p.1 h3) ?_
    rw [h1]
    exact KT.put hx k.1 h2 h4
theorem dputs_length : ∀ (ps kvs : List (List Key × D)), (dputs kvs ps).length ≤ kvs.length + ps.length
  | [], kvs => Nat.le_refl _
  | p :: ps, kvs => by
    have e : dputs kvs (p :: ps) = dputs (dput kvs p.1 p.2) ps := rfl
    have q := dputs_length ps (dput kvs p.1 p.2)
    have z : (dput kvs p.1 p.2).length ≤ kvs.length + 1 := by
      unfold dput
      split
      · rw [List.length_map]; exact Nat.le_succ _
      · rw [List.length_append]; exact Nat.le_refl _
    rw [e, List.length_cons]
    omega
theorem Paired.imp2 {α β : Type} {F G : α → β → Prop} (f : ∀ a b, F a b → G a b) {l : List α} {m : List β} (h : Paired F l m) : Paired G l m := Paired.mapP h f
/-- the objects of the pairs -/
theorem pairs_raw {X : Cx} {pins : List (Addr × Obj)} {σ : L2.St} {H : Hp} {s : Shared} {ro : List Addr} (I : Inv X pins σ H s) {ps : List (List Key × D)} {ts : List (Addr × List Key × Addr × V)}
    (h : Paired (fun (p : List Key × D) (t : Addr × List Key × Addr × V) => p.1 = t.2.1 ∧ RD H ro p.2 t.2.2.2 ∧ H t.1 = some (.tup [.ref t.2.2.1, t.2.2.2]) ∧ H t.2.2.1 = some (.tup (t.2.1.map kV))) ps ts) :
    ∃ ks : List (Addr × List Key × Addr × Value), ks.map (·.1) = ts.map (·.1) ∧ (∀ k ∈ ks, PairAt s.heap k.1 (.ref k.2.2.1) k.2.2.2 ∧ (tupleKind (mixKind X.prog X.w)).is s.heap k.2.1 k.2.2.1) ∧
      Paired (fun (p : List Key × D) (q : List Key × Addr × Value) => p.1 = q.1 ∧ H q.2.1 = some (.tup (q.1.map kV)) ∧ ∃ v, RD H ro p.2 v ∧ RelV v q.2.2) ps (ks.map (·.2)) := by
  induction h with
  | nil => exact ⟨[], rfl, ⟨fun _ h => (by cases h), Paired.nil⟩⟩
  | @cons p t ps ts h1 t2 ih =>
    obtain ⟨ks, e1, ⟨e2, e3⟩⟩ := ih
    obtain ⟨q1, q2, q3, q4⟩ := h1
    obtain ⟨_, its, rv, o, ho, hc, n, hd⟩ := (show ObjOk X.prog X.w H s.heap t.1 (.tup [.ref t.2.2.1, t.2.2.2]) from I.hok t.1 _ q3)
    obtain ⟨u1, u2, rfl, r1, r2⟩ := vals2 rv
    cases (show u1 = Value.ref t.2.2.1 from r1)
    refine ⟨(t.1, t.2.1, t.2.2.1, u2) :: ks, by rw [List.map_cons, List.map_cons, e1], ⟨fun k hk => ?_, .cons ⟨q1, q4, t.2.2.2, q2, r2⟩ e3⟩⟩
    rcases List.mem_cons.mp hk with rfl | hk
    · exact ⟨.inl ⟨o, ho, hc, n, hd⟩, key_of I.hok q4⟩
    · exact e2 k hk
theorem c_dict1 (hc : X.calm = true) (hu : X.A.units + 64 < cLine) : CallR X (.type "dict") (fun vs H Q => vs.length = 1 ∧ rP X.K ca .dict1 vs H Q) := by
  intro pins s σ H vs us Q I rv h
  obtain ⟨ro, S, p, xs, ws, rfl, R, hq, t, h⟩ := one_list (f := .dict1) (g := fun xs S => match mapO (pairKV S) xs with | some ps => if ps.length ≤ cap then alloc (.dict false (dputs [] ps)) S else .bad | none => .bad) (fun _ _ => rfl) h
  split at h
  · rename_i ps e
    split at h
    · rename_i hz
      obtain ⟨ts, rfl, hts⟩ := pairs_at (mapO_inv e) t
      obtain ⟨ks, k1, k2, k3⟩ := pairs_raw I hts
      obtain ⟨u, rfl, rx⟩ := vals1 rv
      cases rx
      obtain ⟨its, rvs, pl, hz2⟩ := I.list hq
      have hkl : ks.length = ps.length := by
        have := Paired.length k3
        rw [List.length_map] at this
        exact this.symm
      have hits : its = ks.map fun k => Value.ref k.1 := by
        have e1 : ts.map (fun t => V.ref t.1) = (ts.map (·.1)).map V.ref := by rw [List.map_map]; rfl
        rw [e1] at rvs
        have e2 := refs_at rvs
        rw [e2, ← k1, List.map_map]
        rfl
      have hcl := cap_line
      have P := PairArg.list (prog := X.prog) (w := X.w) p its.toArray (fun i => (ks[i]?.map (·.1)).getD 0) (ks.map fun k => (Value.ref k.2.2.1, k.2.2.2))
      have hm : (s.heap.objs.size == sysModules) = false := beq_eq_false_iff_ne.mpr (Nat.ne_of_gt I.big)
      refine call_dict_pairsH (knd := tupleKind (mixKind X.prog X.w)) (ps := ks.map (·.2)) P (I.ok.hd hc) (tupleKind_room_in1 (A := X.A.in1) (by show X.A.units + 1 + 1 < cLine; omega)) ⟨pl, ?_, fun j k v hj => ?_⟩ ⟨by rw [List.length_map, List.length_map], fun i key v hi => ?_⟩ (fun h' hk x hx => ?_) (by rw [List.length_map]; omega) fun h' tk hd' hk => ?_
      · rw [hits, List.size_toArray, List.length_map, List.length_map]
      · rw [List.getElem?_map] at hj
        obtain ⟨k0, hk0, ek⟩ := Option.map_eq_some_iff.mp hj
        cases ek
        refine ⟨?_, ?_⟩
        · show its.toArray[j]? = _
          rw [hits, List.getElem?_toArray, List.getElem?_map, hk0]
          simp only [hk0]
          rfl
        · simp only [hk0]
          exact (k2 k0 (List.mem_of_getElem? hk0)).1
      · replace hi : (ks.map fun k => (Value.ref k.2.2.1, k.2.2.2))[i]? = some (key, v) := hi
        rw [List.getElem?_map] at hi
        obtain ⟨k0, hk0, ek⟩ := Option.map_eq_some_iff.mp hi
        cases ek
        exact ⟨k0.2.1, k0.2.2.1, by rw [List.getElem?_map, hk0]; rfl, rfl⟩
      · obtain ⟨k0, hk0, rfl⟩ := List.mem_map.mp hx
        refine tupleKind_stays.stays (fun b o vs n e _ => hk b o ?_ (fun z => nomatch z) e) (k2 k0 hk0).2
        exact Nat.ne_of_lt (Heap.lt_size e)
      · have kp : ∀ b o, s.heap.get? b = some o → h'.get? b = some o := fun b o e => hk b o (fun z => nomatch z) e
        obtain ⟨ws', w1, w2⟩ := dputs_stored (H := H) (ro := ro) k3 (kvs := []) (ws := []) (xs := []) .nil .nil
        have hlen : ws'.length ≤ sizeLine := by
          rw [← KR.length w1]
          have q := dputs_length ps []
          rw [List.length_nil, Nat.zero_add] at q
          omega
        have hn : H s.heap.objs.size = none := I.hok.fresh (Nat.le_refl _)
        have E0 : Ext H ro (upd H s.heap.objs.size (.dT ws')) (ro ++ [s.heap.objs.size]) := ⟨fun n a q => by
          rw [List.getElem?_append_left (List.getElem?_eq_some_iff.mp q).1]
          exact q, (ext_new (ro := ro) hn).tup, (ext_new (ro := ro) hn).frz⟩
        obtain ⟨R', E⟩ := R.push (u := .dict false (dputs [] ps)) hn ⟨ws', upd_same, w1.mono E0⟩ rfl
        obtain ⟨o, es, ep, ho, h2, h3, h4, _, h5⟩ := hd'
        refine ⟨.ref s.heap.objs.size, upd H s.heap.objs.size (.dT ws'), I.laid (t' := tk) kp (Nat.le_refl _) ⟨hlen, hm, _, Paired.mapP w2 fun a b z => ⟨z.1, E0.tup _ _ z.2.1, z.2.2⟩, o, es, ep, ho, h2, h3, h4, h5⟩, rfl, ?_⟩
        refine h _ _ E R' _ (.loc ?_)
        rw [← R.len, List.getElem?_append_right (Nat.le_refl _), Nat.sub_self]
        rfl
    · exact h.elim
  · exact h.elim

/-! ### sorted(..) -/
theorem each_of {X : Cx} {pins : List (Addr × Obj)} {σ : L2.St} {H : Hp} {s : Shared} {ro : List Addr} (I : Inv X pins σ H s) : ∀ {xs : List D} {ws : List V} {its : List Value} {ks : List PyData}, RDs H ro xs ws → Vals ws its → DpAll X.K H ws ks →
    PySem.W.EachIs (fun (v : Value) (b : D × PyData) => (∃ x, RelV x v ∧ RD H ro b.1 x) ∧ ∃ as, Reads s.heap v b.2 as) its (xs.zip ks)
  | _, _, _, _, .nil, .nil, .nil => .nil
  | _, _, _, _, .cons r1 r2, .cons v1 v2, .cons d1 d2 => .cons ⟨⟨_, v1, r1⟩, Dp.reads I _ _ _ d1 v1⟩ (each_of I r2 v2 d2)
theorem c_sorted (hc : X.calm = true) (hu : X.A.units + 64 < cLine) : CallR X (.builtin "sorted") (fun vs H Q => vs.length = 1 ∧ rP X.K ca .sorted vs H Q) := by
  intro pins s σ H vs us Q I rv h
  obtain ⟨ro, S, p, xs, ws, rfl, R, hq, t, h⟩ := one_list (f := .sorted) (g := fun xs S => match sortD S xs with | some ys => if xs.length ≤ cap then alloc (.list ys) S else .bad | none => .bad) (fun _ _ => rfl) h
  split at h
  · rename_i ys e
    split at h
    · rename_i hz
      unfold sortD at e
      split at e
      · rename_i ks ek
        split at e
        · rename_i hal
          cases e
          rw [Bool.and_eq_true] at hal
          obtain ⟨u, rfl, rx⟩ := vals1 rv
          cases rx
          obtain ⟨its, rvs, pl, hz2⟩ := I.list hq
          obtain ⟨dps, fine⟩ := frz_dps R t ek
          have hcl := cap_line
          have hlk : xs.length = ks.length := Paired.length (mapO_inv ek)
          have hmap : (xs.zip ks).map (fun p : D × PyData => p.2) = ks := List.map_snd_zip (by omega)
          have hE : PySem.W.EachIs (fun (v : Value) (b : D × PyData) => (∃ x, RelV x v ∧ RD H ro b.1 x) ∧ ∃ as, Reads s.heap v b.2 as) its (xs.zip ks) := by
            exact each_of I t rvs dps
          refine PySem.W.sorted_data (enc := fun p : D × PyData => p.2) pl.isList hE (hE.mono fun _ _ z => z.2) (by rw [hmap]; exact allAlike_mem hal.1) (by rw [hmap]; exact sortable_of hal.2) (by rw [List.length_zip]; omega) (fun b hb => ?_) fun out hl ho => ?_
          · have hd : ∀ k ∈ ks, k.depth ≤ deep := by
              have q := fine.depth
              clear hE dps hmap hlk hal ek h fine hb
              induction ks with
              | nil => intro k hk; cases hk
              | cons k0 ks ih =>
                simp only [PyData.depthAll] at q
                intro k hk
                rcases List.mem_cons.mp hk with rfl | hk
                · omega
                · exact ih (by omega) k hk
            have q := hd b.2 (List.of_mem_zip hb).2
            simp only [deep] at q
            omega
          · rw [← isort_eq] at ho
            obtain ⟨e, he⟩ := sortedAll_at s.heap its (List.toArray out)
            have kp : ∀ b o, s.heap.get? b = some o → (sortedAll s.heap its (List.toArray out)).get? b = some o := fun b o q => sortedAll_old q
            have hV : ∃ vs', Vals vs' out ∧ RDs H ro ((isort (xs.zip ks)).map (·.1)) vs' := by
              clear hl he kp h hmap
              generalize isort (xs.zip ks) = zs at ho
              induction ho with
              | nil => exact ⟨[], .nil, .nil⟩
              | cons h1 t1 ih =>
                obtain ⟨vs', a1, a2⟩ := ih
                obtain ⟨⟨x, b1, b2⟩, _⟩ := h1
                exact ⟨x :: vs', .cons b1 a1, .cons b2 a2⟩
            obtain ⟨vs', v1, v2⟩ := hV
            have hn : H (s.heap.objs.size + 1) = none := I.hok.fresh (Nat.le_succ _)
            have hlen : vs'.length ≤ sizeLine := by
              rw [v1.length, hl, List.length_zip]
              omega
            refine ⟨.ref (s.heap.objs.size + 1), upd H (s.heap.objs.size + 1) (.lst vs'), I.laid (t' := s.toks) kp (Nat.le_succ _) ⟨hlen, out, e, v1, he⟩, rfl, Post.newL R v2 h _ hn⟩
        · cases e
      · cases e
    · exact h.elim
  · exact h.elim
end
end MI

/-! MI, 8: classes asked, methods of lists, items written. -/
namespace MI
open PySem PySem.Spec PyProof.Rows L2

section
variable {X : Cx} {ca : CA}
/-! ### isinstance(x, a built-in class) -/
def tyName : Ty → String
  | .non => "NoneType" | .bl => "bool" | .int => "int" | .str => "str" | .tup => "tuple" | .list => "list" | .dict => "dict" | .ins _ => "object"
theorem ty_of {K : PySem.W.Frag} {H : Hp} {ro : List Addr} {S : Store} (R : StR K ca ro S H) {d : D} {x : V} (r : RD H ro d x) {t : Ty} (h : tyD S d = some t) (hn : ∀ c, t ≠ .ins c) : TyX K H x (.type (tyName t)) := by
  cases d with
  | non => cases h; cases r; exact .base .non
  | bl b => cases h; cases r; exact .base (.bl b)
  | int i => cases h; cases r; exact .base (.int i)
  | str s => cases h; cases r; exact .base (.str s)
  | txt p => cases h; cases r; exact .base (.str _)
  | tup xs =>
    cases h
    obtain ⟨a, vs, rfl, e, _⟩ := r.tup_inv
    exact .base (.tup e)
  | loc l =>
    obtain ⟨a, rfl, ea⟩ := r.loc_inv
    unfold tyD at h
    simp only at h
    split at h
    · rename_i xs q
      cases h
      obtain ⟨vs, e, _⟩ := R.obj l a _ ea q
      exact .base (.lst e)
    · cases h
    · rename_i kvs q
      cases h
      obtain ⟨ws, e, _⟩ := R.obj l a _ ea q
      exact .base (.dT e)
    · cases h
    · rename_i c fs q
      cases h
      exact absurd rfl (hn c)
    · cases h
theorem isTy_inv {p : Ty → Bool} {S : Store} {d : D} {K : PySem.W.Frag} {H : Hp} {ro : List Addr} {Q : VK} (h : Post K ca H ro (isTy p S d) (goodV Q) NoW) :
    ∃ t, tyD S d = some t ∧ (∀ c, t ≠ .ins c) ∧ Post K ca H ro (.ok (.bl (p t)) S) (goodV Q) NoW := by
  unfold isTy at h
  split at h
  · exact h.elim
  · rename_i t hn e
    exact ⟨t, e, fun c z => hn c z, h⟩
  · exact h.elim
/-- isinstance(x, T) -/
theorem c_isTy (T : String) (f : P) (p : Ty → Bool) (hf : ∀ d S, prim f [d] S = isTy p S d) (hk : ∀ t, (∀ c, t ≠ Ty.ins c) → kitB (tyName t) T = some (p t)) :
    CallR X (.builtin "isinstance") (fun vs H Q => ∃ x, vs = [x, .ty T] ∧ rP X.K ca f [x] H Q) := by
  intro pins s σ H vs us Q I rv h
  obtain ⟨x, rfl, ro, S, ds, R, rd, h⟩ := h
  obtain ⟨a, rfl, r1⟩ := rd.one
  rw [hf] at h
  obtain ⟨t, e, hn, h⟩ := isTy_inv h
  exact call_isi pins s σ H _ us Q I rv ⟨x, _, _, _, _, rfl, .ty T, ty_of R r1 e hn, kit_ty (hk t hn), Post.val R (.bl _) h⟩
/-- isinstance(x, (T, T2)) -/
theorem c_isTy2 (T T2 : String) (f : P) (p p1 p2 : Ty → Bool) (hf : ∀ d S, prim f [d] S = isTy p S d) (hp : ∀ t, p t = (p1 t || p2 t)) (hk : ∀ t, (∀ c, t ≠ Ty.ins c) → kitB (tyName t) T = some (p1 t)) (hk2 : ∀ t, (∀ c, t ≠ Ty.ins c) → kitB (tyName t) T2 = some (p2 t)) :
    CallR X (.builtin "isinstance") (fun vs H Q => ∃ x tp, vs = [x, .ref tp] ∧ H tp = some (.tup [.ty T, .ty T2]) ∧ rP X.K ca f [x] H Q) := by
  intro pins s σ H vs us Q I rv h
  obtain ⟨x, tp, rfl, ht, ro, S, ds, R, rd, h⟩ := h
  obtain ⟨a, rfl, r1⟩ := rd.one
  rw [hf] at h
  obtain ⟨t, e, hn, h⟩ := isTy_inv h
  refine call_isiT pins s σ H _ us Q I rv ⟨x, tp, [.ty T, .ty T2], .type (tyName t), [.type T, .type T2], p t, rfl, ht, .cons (.ty T) (.cons (.ty T2) .nil), ty_of R r1 e hn, kitAny_cons (kit_ty (hk t hn)) (fun q => kitAny_cons (kit_ty (hk2 t hn)) (fun q2 => ?_) (fun q2 => ?_)) (fun q => ?_), Post.val R (.bl _) h⟩
  · rw [hp, q, q2]; exact kitAny_nil
  · rw [hp, q2, Bool.or_true]
  · rw [hp, q, Bool.true_or]
theorem c_isInt : CallR X (.builtin "isinstance") (fun vs H Q => ∃ x, vs = [x, .ty "int"] ∧ rP X.K ca .isInt [x] H Q) := c_isTy "int" .isInt _ (fun _ _ => rfl) fun t hn => by
  cases t <;> first | decide +kernel | exact absurd rfl (hn _)
theorem c_isBool : CallR X (.builtin "isinstance") (fun vs H Q => ∃ x, vs = [x, .ty "bool"] ∧ rP X.K ca .isBool [x] H Q) := c_isTy "bool" .isBool _ (fun _ _ => rfl) fun t hn => by
  cases t <;> first | decide +kernel | exact absurd rfl (hn _)
theorem c_isStr : CallR X (.builtin "isinstance") (fun vs H Q => ∃ x, vs = [x, .ty "str"] ∧ rP X.K ca .isStr [x] H Q) := c_isTy "str" .isStr _ (fun _ _ => rfl) fun t hn => by
  cases t <;> first | decide +kernel | exact absurd rfl (hn _)
theorem c_isTuple : CallR X (.builtin "isinstance") (fun vs H Q => ∃ x, vs = [x, .ty "tuple"] ∧ rP X.K ca .isTuple [x] H Q) := c_isTy "tuple" .isTuple _ (fun _ _ => rfl) fun t hn => by
  cases t <;> first | decide +kernel | exact absurd rfl (hn _)
theorem c_isList : CallR X (.builtin "isinstance") (fun vs H Q => ∃ x, vs = [x, .ty "list"] ∧ rP X.K ca .isList [x] H Q) := c_isTy "list" .isList _ (fun _ _ => rfl) fun t hn => by
  cases t <;> first | decide +kernel | exact absurd rfl (hn _)

/-! ### methods of lists -/
abbrev rM (K : PySem.W.Frag) (ca : CA) (f : P) (n : Nat) : V → List V → Hp → VK → Prop := fun x vs H Q => vs.length = n ∧ rP K ca f (x :: vs) H Q
/-- what is written at l -/
theorem Post.put {K : PySem.W.Frag} {H : Hp} {ro : List Addr} {S : Store} {Q : VK} {l : Nat} {a : Addr} {x : O} {ys : List D} {vs : List V} {d : D} {v : V} (R : StR K ca ro S H) (ha : ro[l]? = some a) (hx : S[l]? = some x) (hw : rw_ x = true) (t : RDs H ro ys vs) (r : RD H ro d v)
    (h : Post K ca H ro (.ok d (S.set l (.list ys))) (goodV Q) NoW) : Q v (upd H a (.lst vs)) := by
  obtain ⟨y, e, nt, nf⟩ := (R.obj l a x ha hx).there hw
  have E0 : Ext H ro (upd H a (.lst vs)) ro := ⟨fun _ _ h => h, fun b xs q => by
    have hb : b ≠ a := fun z => by
      subst z
      rw [e] at q
      exact nt xs (Option.some.inj q)
    rw [upd_ne hb]
    exact q, fun b ob w q => by
    have hb : b ≠ a := fun z => by
      subst z
      rw [e] at q
      exact nf ob w (Option.some.inj q)
    rw [upd_ne hb]
    exact q⟩
  obtain ⟨R', E⟩ := R.put (u := .list ys) ha hx hw ⟨vs, upd_same, RDs.mono E0 _ _ t⟩
  exact h _ _ E R' _ (RD.mono E _ _ r)
theorem m_append : MtR X "list.append" (rM X.K ca .append 1) := by
  intro pins s σ H x vs v us Q I rx rv h
  obtain ⟨hl, ro, S, ds, R, rd, h⟩ := h
  match vs, hl with
  | [y], _ =>
    obtain ⟨a, b, rfl, r1, r2⟩ := rd.two
    cases a <;> first | exact (show False from h).elim | skip
    rename_i l
    replace h : Post X.K ca H ro (match S[l]? with | some (.list xs) => if xs.length < cap then .ok .non (S.set l (.list (xs ++ [b]))) else .bad | _ => .bad) (goodV Q) NoW := h
    split at h
    · rename_i xs q
      split at h
      · rename_i hz
        obtain ⟨p, rfl, ep⟩ := r1.loc_inv
        obtain ⟨ws, e, t⟩ := R.obj l p _ ep q
        have hcl := cap_line
        exact mt_append pins s σ H _ _ v us Q I rx rv ⟨p, ws, y, rfl, rfl, e, by rw [← t.length]; omega, Post.put R ep q rfl (t.append (.cons r2 .nil)) .non h⟩
      · exact h.elim
    · exact h.elim
theorem m_extend : MtR X "list.extend" (rM X.K ca .extend 1) := by
  intro pins s σ H x vs v us Q I rx rv h
  obtain ⟨hl, ro, S, ds, R, rd, h⟩ := h
  match vs, hl with
  | [y], _ =>
    obtain ⟨a, b, rfl, r1, r2⟩ := rd.two
    cases a <;> first | exact (show False from h).elim | skip
    rename_i l
    replace h : Post X.K ca H ro (match S[l]?, witems S b with
      | some (.list xs), some ys => if xs.length + ys.length ≤ cap then .ok .non (S.set l (.list (xs ++ ys))) else .bad
      | _, _ => .bad) (goodV Q) NoW := h
    split at h
    · rename_i xs ys q w2
      split at h
      · rename_i hz
        obtain ⟨p, rfl, ep⟩ := r1.loc_inv
        obtain ⟨ws, e, t⟩ := R.obj l p _ ep q
        obtain ⟨_, p2, ws2, _, rfl, _, _, e2, t2⟩ := R.witems r2 w2
        have hcl := cap_line
        exact mt_extend pins s σ H _ _ v us Q I rx rv ⟨p, p2, ws, ws2, rfl, rfl, e, e2, by rw [← t.length, ← t2.length]; omega, Post.put R ep q rfl (t.append t2) .non h⟩
      · exact h.elim
    · exact h.elim
theorem m_insert : MtR X "list.insert" (rM X.K ca .insert 2) := by
  intro pins s σ H x vs v us Q I rx rv h
  obtain ⟨hl, ro, S, ds, R, rd, h⟩ := h
  match vs, hl with
  | [y, z], _ =>
    obtain ⟨a, b, c, rfl, r1, r2, r3⟩ := rd.three
    cases a <;> cases b <;> first | exact (show False from h).elim | skip
    rename_i l i
    obtain rfl := r2.int_inv
    replace h : Post X.K ca H ro (match S[l]? with
      | some (.list xs) => if xs.length < cap ∧ 0 ≤ i ∧ i ≤ 1000000 then .ok .non (S.set l (.list (xs.take i.toNat ++ [c] ++ xs.drop i.toNat))) else .bad
      | _ => .bad) (goodV Q) NoW := h
    split at h
    · rename_i xs q
      split at h
      · rename_i hz
        obtain ⟨p, rfl, ep⟩ := r1.loc_inv
        obtain ⟨ws, e, t⟩ := R.obj l p _ ep q
        have hcl := cap_line
        exact mt_insert pins s σ H _ _ v us Q I rx rv ⟨p, ws, i, z, rfl, rfl, e, by rw [← t.length]; omega, hz.2.1, by have := hz.2.2; omega, Post.put R ep q rfl (((t.take _).append (.cons r3 .nil)).append (t.drop _)) .non h⟩
      · exact h.elim
    · exact h.elim
theorem m_pop : MtR X "list.pop" (rM X.K ca .pop0 0) := by
  intro pins s σ H x vs v us Q I rx rv h
  obtain ⟨hl, ro, S, ds, R, rd, h⟩ := h
  match vs, hl with
  | [], _ =>
    obtain ⟨a, rfl, r1⟩ := rd.one
    cases a <;> first | exact (show False from h).elim | skip
    rename_i l
    replace h : Post X.K ca H ro (match S[l]? with
      | some (.list xs) => (match xs.getLast? with | some x => .ok x (S.set l (.list xs.dropLast)) | none => .bad)
      | _ => .bad) (goodV Q) NoW := h
    split at h
    · rename_i xs q
      split at h
      · rename_i d hd
        obtain ⟨p, rfl, ep⟩ := r1.loc_inv
        obtain ⟨ws, e, t⟩ := R.obj l p _ ep q
        rw [List.getLast?_eq_getElem?] at hd
        obtain ⟨z, ez, rz⟩ := t.get hd
        rw [t.length] at ez
        exact mt_pop pins s σ H _ _ v us Q I rx rv ⟨p, ws, z, rfl, rfl, e, ez, Post.put R ep q rfl t.dropLast rz h⟩
      · exact h.elim
    · exact h.elim
theorem m_reverse : MtR X "list.reverse" (rM X.K ca .reverse 0) := by
  intro pins s σ H x vs v us Q I rx rv h
  obtain ⟨hl, ro, S, ds, R, rd, h⟩ := h
  match vs, hl with
  | [], _ =>
    obtain ⟨a, rfl, r1⟩ := rd.one
    cases a <;> first | exact (show False from h).elim | skip
    rename_i l
    replace h : Post X.K ca H ro (match S[l]? with | some (.list xs) => .ok .non (S.set l (.list xs.reverse)) | _ => .bad) (goodV Q) NoW := h
    split at h
    · rename_i xs q
      obtain ⟨p, rfl, ep⟩ := r1.loc_inv
      obtain ⟨ws, e, t⟩ := R.obj l p _ ep q
      exact mt_reverse pins s σ H _ _ v us Q I rx rv ⟨p, ws, rfl, rfl, e, Post.put R ep q rfl t.reverse .non h⟩
    · exact h.elim
theorem m_clear : MtR X "list.clear" (rM X.K ca .clear 0) := by
  intro pins s σ H x vs v us Q I rx rv h
  obtain ⟨hl, ro, S, ds, R, rd, h⟩ := h
  match vs, hl with
  | [], _ =>
    obtain ⟨a, rfl, r1⟩ := rd.one
    cases a <;> first | exact (show False from h).elim | skip
    rename_i l
    replace h : Post X.K ca H ro (match S[l]? with | some (.list _) => .ok .non (S.set l (.list [])) | _ => .bad) (goodV Q) NoW := h
    split at h
    · rename_i xs q
      obtain ⟨p, rfl, ep⟩ := r1.loc_inv
      obtain ⟨ws, e, t⟩ := R.obj l p _ ep q
      exact mt_clear pins s σ H _ _ v us Q I rx rv ⟨p, ws, rfl, rfl, e, Post.put R ep q rfl .nil .non h⟩
    · exact h.elim
theorem m_count (hu : X.A.units + 64 < cLine) : MtR X "list.count" (rM X.K ca .count 1) := by
  intro pins s σ H x vs v us Q I rx rv h
  obtain ⟨hl, ro, S, ds, R, rd, h⟩ := h
  match vs, hl with
  | [y], _ =>
    obtain ⟨a, b, rfl, r1, r2⟩ := rd.two
    replace h : Post X.K ca H ro (match litems S a, frz S deep b with
      | some xs, some d => (match mapO (frz S deep) xs with | some ds => .ok (.int (ds.countP fun z => PyData.eqv z d)) S | none => .bad)
      | _, _ => .bad) (goodV Q) NoW := h
    split at h
    · rename_i xs d hx hd
      split at h
      · rename_i ds hds
        obtain ⟨_, p, ws, _, rfl, _, hq, t⟩ := R.litems r1 hx
        obtain ⟨u, rfl, ru⟩ := rv.one
        cases rx
        obtain ⟨d1, f1⟩ := frz_dps R t hds
        obtain ⟨d2, f2⟩ := frz_dp R _ _ _ _ r2 hd
        obtain ⟨its, rvs, pl, hz⟩ := I.list hq
        obtain ⟨as, q1⟩ := Dp.readsAll I _ _ _ d1 rvs
        obtain ⟨bs, q2⟩ := Dp.reads I _ _ _ d2 ru
        have z := f2.depth
        simp only [deep] at z
        exact PySem.SeqAt.count_list_data pl.isList (by simpa using q1) q2 f1.plain f2.plain (by omega) ⟨.int _, H, I.tok _, ⟨_, rfl⟩, Post.val R (.int _) h⟩
      · exact h.elim
    · exact h.elim

/-! ### xs[::-1] -/
theorem rev_line {K : PySem.W.Frag} {x : V} {H : Hp} {Q : VK} (h : rP K ca .rev [x] H Q) : ∃ a xs, x = .ref a ∧ SqL K H a xs ∧ ∀ p, H p = none → Q (.ref p) (upd H p (.lst xs.reverse)) := by
  obtain ⟨ro, S, ds, R, rd, h⟩ := h
  obtain ⟨a, rfl, r1⟩ := rd.one
  replace h : Post K ca H ro (match litems S a with | some xs => alloc (.list xs.reverse) S | none => .bad) (goodV Q) NoW := h
  split at h
  · rename_i xs hx
    obtain ⟨_, p, ws, _, rfl, _, hq, t⟩ := R.litems r1 hx
    exact ⟨p, ws, rfl, hq, Post.newL R t.reverse h⟩
  · exact h.elim
end
end MI

/-! MI, 9: expressions. -/
namespace MI
open PySem PySem.Spec PyProof.Rows L2

/-! ### readings -/
def ER1 (H : Hp) (ro : List Addr) : Option D → Option V → Prop
  | some d, some v => RD H ro d v
  | some _, none => False
  | none, _ => True
abbrev ER (H : Hp) (ro : List Addr) : Env → L2.St → Prop := Paired (ER1 H ro)
abbrev Wm (ca : CA) (W : WX) (σ : L2.St) : Nat → Hp → Prop := fun c H' => W (.ref (ca c)) none σ H'
/-- the state at a step -/
structure At (K : PySem.W.Frag) (ca : CA) (en : Env) (σ : L2.St) (ro : List Addr) (S : Store) (H : Hp) : Prop where
  st : StR K ca ro S H
  er : ER H ro en σ
def tM (K : PySem.W.Frag) (ca : CA) (W : WX) (m : Env → Store → R D) : TE := fun σ H Q => ∃ ro S en, At K ca en σ ro S H ∧ Post K ca H ro (m en S) (goodV Q) (Wm ca W σ)
def tMs (K : PySem.W.Frag) (ca : CA) (W : WX) (m : Env → Store → R (List D)) : TA := fun σ H Q => ∃ ro S en, At K ca en σ ro S H ∧ Post K ca H ro (m en S) (fun ds H' ro' => ∀ vs, RDs H' ro' ds vs → Q vs H') (Wm ca W σ)
def tMt (K : PySem.W.Frag) (ca : CA) (W : WX) (m : Env → Store → R Bool) : TT := fun σ H Q => ∃ ro S en, At K ca en σ ro S H ∧ Post K ca H ro (m en S) (fun b H' _ => Q b H') (Wm ca W σ)

section
variable {K : PySem.W.Frag} {ca : CA} {H H1 : Hp} {ro r1 : List Addr} {S : Store} {en : Env} {σ : L2.St} {W : WX}
theorem ER.mono (E : Ext H ro H1 r1) (h : ER H ro en σ) : ER H1 r1 en σ := Paired.mapP h fun d v z => by
  cases d <;> cases v <;> first | exact z | exact RD.mono E _ _ z
theorem ER.get {i : Nat} {d : D} (h : ER H ro en σ) (e : en[i]? = some (some d)) : ∃ v, σ[i]? = some (some v) ∧ RD H ro d v := by
  induction h generalizing i with
  | nil => simp at e
  | @cons a b as bs h t ih =>
    cases i with
    | zero =>
      have e' := Option.some.inj e
      subst e'
      cases b with
      | none => exact h.elim
      | some v => exact ⟨v, rfl, h⟩
    | succ i => exact ih (by simpa using e)
theorem ER.len (h : ER H ro en σ) : en.length = σ.length := Paired.length h
theorem ER.set {i : Nat} {d : D} {v : V} (h : ER H ro en σ) (r : RD H ro d v) : ER H ro (en.set i (some d)) (σ.set i (some v)) := by
  induction h generalizing i with
  | nil => exact .nil
  | @cons a b as bs h t ih =>
    cases i with
    | zero => exact .cons r t
    | succ i => exact .cons h ih
theorem ER.unset {i : Nat} (h : ER H ro en σ) : ER H ro (en.set i none) (σ.set i none) := by
  induction h generalizing i with
  | nil => exact .nil
  | @cons a b as bs h t ih =>
    cases i with
    | zero => exact .cons (by cases ‹List _› <;> exact True.intro) t
    | succ i => exact .cons h ih
theorem ER.wipe (h : ER H ro en σ) : ∀ vs : List Nat, ER H ro (wipeE en vs) (L2.wipe σ vs)
  | [] => h
  | _ :: vs => (ER.wipe h vs).unset
theorem At.mono {S1 : Store} (a : At K ca en σ ro S H) (E : Ext H ro H1 r1) (R : StR K ca r1 S1 H1) : At K ca en σ r1 S1 H1 := ⟨R, a.er.mono E⟩
theorem Post.ext {A : Type} {m : R A} {good : A → Hp → List Addr → Prop} {w : Nat → Hp → Prop} (h : Post K ca H ro m good w) (E : Ext H ro H1 r1) : Post K ca H1 r1 m good w := by
  cases m with
  | ok a S' => exact fun H' ro' E' R' => h H' ro' (E.trans E') R'
  | exc c S' => exact fun H' ro' E' R' => h H' ro' (E.trans E') R'
  | bad => exact h
theorem Post.imp {A : Type} {m : R A} {g g' : A → Hp → List Addr → Prop} {w : Nat → Hp → Prop} (h : Post K ca H ro m g w) (k : ∀ a H' ro', g a H' ro' → g' a H' ro') : Post K ca H ro m g' w := by
  cases m with
  | ok a S' => exact fun H' ro' E' R' => k _ _ _ (h H' ro' E' R')
  | exc c S' => exact fun H' ro' E' R' => h H' ro' E' R'
  | bad => exact h
/-- one run, then what is behind it -/
theorem Post.seq {A B : Type} {m : R A} {f : A → Store → R B} {g : B → Hp → List Addr → Prop} {w : Nat → Hp → Prop} (h : Post K ca H ro (m.bind f) g w) :
    Post K ca H ro m (fun a H' ro' => ∃ S', Ext H ro H' ro' ∧ StR K ca ro' S' H' ∧ Post K ca H' ro' (f a S') g w) w := by
  cases m with
  | ok a S' => exact fun H' ro' E' R' => ⟨S', E', R', Post.ext (H := H) (ro := ro) h E'⟩
  | exc c S' => exact h
  | bad => exact h
theorem Post.here {A : Type} {a : A} {g : A → Hp → List Addr → Prop} {w : Nat → Hp → Prop} (R : StR K ca ro S H) (h : Post K ca H ro (.ok a S) g w) : g a H ro := h H ro (Ext.refl _ _) R
theorem R.bind_assoc {A B C : Type} (m : R A) (f : A → Store → R B) (g : B → Store → R C) : (m.bind f).bind g = m.bind fun a S => (f a S).bind g := by
  cases m <;> rfl
/-- the first of two -/
theorem tM.seq {m : Env → Store → R D} {B : Type} {f : D → Store → R B} {g : B → Hp → List Addr → Prop} (a : At K ca en σ ro S H) (h : Post K ca H ro ((m en S).bind f) g (Wm ca W σ)) :
    tM K ca W m σ H fun x H1 => ∃ r1 S1 d, At K ca en σ r1 S1 H1 ∧ Ext H ro H1 r1 ∧ RD H1 r1 d x ∧ Post K ca H1 r1 (f d S1) g (Wm ca W σ) :=
  ⟨ro, S, en, a, h.seq.imp fun d H' ro' ⟨S', E, R, q⟩ v r => ⟨ro', S', d, a.mono E R, E, r, q⟩⟩
theorem tMs.seq {m : Env → Store → R (List D)} {B : Type} {f : List D → Store → R B} {g : B → Hp → List Addr → Prop} (a : At K ca en σ ro S H) (h : Post K ca H ro ((m en S).bind f) g (Wm ca W σ)) :
    tMs K ca W m σ H fun xs H1 => ∃ r1 S1 ds, At K ca en σ r1 S1 H1 ∧ Ext H ro H1 r1 ∧ RDs H1 r1 ds xs ∧ Post K ca H1 r1 (f ds S1) g (Wm ca W σ) :=
  ⟨ro, S, en, a, h.seq.imp fun d H' ro' ⟨S', E, R, q⟩ v r => ⟨ro', S', d, a.mono E R, E, r, q⟩⟩
theorem tMt.seq {m : Env → Store → R Bool} {B : Type} {f : Bool → Store → R B} {g : B → Hp → List Addr → Prop} (a : At K ca en σ ro S H) (h : Post K ca H ro ((m en S).bind f) g (Wm ca W σ)) :
    tMt K ca W m σ H fun c H1 => ∃ r1 S1, At K ca en σ r1 S1 H1 ∧ Ext H ro H1 r1 ∧ Post K ca H1 r1 (f c S1) g (Wm ca W σ) :=
  ⟨ro, S, en, a, h.seq.imp fun d H' ro' ⟨S', E, R, q⟩ => ⟨ro', S', a.mono E R, E, q⟩⟩
theorem _root_.L2.PE.imp {X : Cx} {e : Expr} {t t' : TE} (h : PE X e t) (k : ∀ σ H Q, t' σ H Q → t σ H Q) : PE X e t' := ⟨fun pins s σ H Q I q => h.run pins s σ H Q I (k σ H Q q)⟩
theorem _root_.L2.PT.imp {X : Cx} {e : Expr} {t t' : TT} (h : PT X e t) (k : ∀ σ H Q, t' σ H Q → t σ H Q) : PT X e t' := ⟨fun pins s σ H Q I q => h.run pins s σ H Q I (k σ H Q q)⟩
theorem _root_.L2.PW.imp {X : Cx} {e : Expr} {t t' : TT} (h : PW X e t) (k : ∀ σ H Q, t' σ H Q → t σ H Q) : PW X e t' := ⟨fun wh pins s σ H Q I q => h.run wh pins s σ H Q I (k σ H Q q)⟩
theorem _root_.L2.PA.imp {X : Cx} {e : List Expr} {t t' : TA} (h : PA X e t) (k : ∀ σ H Q, t' σ H Q → t σ H Q) : PA X e t' := ⟨fun pos pins s σ H Q I q => h.run pos pins s σ H Q I (k σ H Q q)⟩
theorem _root_.L2.PS.imp {X : Cx} {e : Stmt} {t t' : TS} (h : PS X e t) (k : ∀ D σ H, t' D σ H → t D σ H) : PS X e t' := ⟨fun pins s σ H D I q => h.run pins s σ H D I (k D σ H q)⟩
theorem _root_.L2.PSs.imp {X : Cx} {e : List Stmt} {t t' : TS} (h : PSs X e t) (k : ∀ D σ H, t' D σ H → t D σ H) : PSs X e t' := ⟨fun pins s σ H D I q => h.run pins s σ H D I (k D σ H q)⟩
end

/-! ### single rules -/
section
variable {X : Cx} {ca : CA} {W : WX} {e a b c : Expr} {pos : Pos} {m ma mb mc : Env → Store → R D}
abbrev ME (X : Cx) (ca : CA) (W : WX) (e : Expr) (m : Env → Store → R D) : Prop := PE X e (tM X.K ca W m)
abbrev MT (X : Cx) (ca : CA) (W : WX) (e : Expr) (m : Env → Store → R Bool) : Prop := PT X e (tMt X.K ca W m)
abbrev MW (X : Cx) (ca : CA) (W : WX) (e : Expr) (m : Env → Store → R Bool) : Prop := PW X e (tMt X.K ca W m)
abbrev MA (X : Cx) (ca : CA) (W : WX) (es : List Expr) (m : Env → Store → R (List D)) : Prop := PA X es (tMs X.K ca W m)

theorem me_var {i : Nat} {x : Str} (hN : X.N[i]? = some x) (hv : Vis X.env.scope x) (hd : (x == ("__debug__" : Str)) = false) (hcd : (x == ("__classdict__" : Str)) = false) :
    ME X ca W (.Name x pos) (fun en S => match en[i]? with | some (some d) => .ok d S | _ => .bad) := by
  refine (pe_var hN hv hd hcd).imp fun σ H Q ⟨ro, S, en, A, h⟩ => ?_
  dsimp only at h
  split at h
  · rename_i d e
    obtain ⟨v, e2, r⟩ := A.er.get e
    exact ⟨v, e2, Post.here A.st h v r⟩
  · exact h.elim
theorem me_cst {v : V} {d : D} (h : PE X e (tC v)) (r : ∀ H ro, RD H ro d v) : ME X ca W e (fun _ S => .ok d S) := by
  refine h.imp fun σ H Q ⟨ro, S, en, A, h⟩ => ?_
  exact Post.here A.st h v (r _ _)
theorem ma_nil : MA X ca W [] (fun _ S => .ok [] S) := by
  refine pa_nil.imp fun σ H Q ⟨ro, S, en, A, h⟩ => ?_
  exact Post.here A.st h _ .nil
theorem ma_cons {es : List Expr} {ms : Env → Store → R (List D)} (ha : ME X ca W e m) (hr : MA X ca W es ms) (hs : starEach (e :: es) X.env = (false, PySem.eval e X.env) :: starEach es X.env) :
    MA X ca W (e :: es) (fun en S => (m en S).bind fun d S => (ms en S).bind fun ds S => .ok (d :: ds) S) := by
  refine (pa_cons ha hr hs).imp fun σ H Q ⟨ro, S, en, A, h⟩ => ?_
  obtain ⟨ro, S, en, A, h⟩ := tM.seq A h
  refine ⟨ro, S, en, A, h.imp fun d H1 r1 g x r => ?_⟩
  obtain ⟨r1, S1, d1, A1, E1, rd, p⟩ := g x r
  obtain ⟨ro, S, en, A, h⟩ := tMs.seq A1 p
  refine ⟨ro, S, en, A, h.imp fun ds H2 r2 g xs rs => ?_⟩
  obtain ⟨r2, S2, d2, A2, E2, rd2, p⟩ := g xs rs
  exact Post.here A2.st p _ (.cons (RD.mono E2 _ _ rd) rd2)
theorem me_tup {es : List Expr} {k : Nat} {ms : Env → Store → R (List D)} (h : MA X ca W es ms) : ME X ca W (.Tuple es k pos) (fun en S => (ms en S).bind fun ds S => if ds.length ≤ cap then .ok (.tup ds) S else .bad) := by
  refine (pe_tup h).imp fun σ H Q ⟨ro, S, en, A, h⟩ => ?_
  obtain ⟨ro, S, en, A, h⟩ := tMs.seq A h
  refine ⟨ro, S, en, A, h.imp fun ds H1 r1 g xs rs => ?_⟩
  obtain ⟨r1, S1, d1, A1, E1, rd, p⟩ := g xs rs
  have hcl := cap_line
  split at p
  · exact ⟨by rw [← rd.length]; omega, Post.newT A1.st rd (show Post X.K ca _ r1 (.ok (.tup d1) S1) (goodV Q) NoW from p)⟩
  · exact p.elim
theorem me_lst {es : List Expr} {ms : Env → Store → R (List D)} (h : MA X ca W es ms) : ME X ca W (.List es pos) (fun en S => (ms en S).bind fun ds S => if ds.length ≤ cap then alloc (.list ds) S else .bad) := by
  refine (pe_lst h).imp fun σ H Q ⟨ro, S, en, A, h⟩ => ?_
  obtain ⟨ro, S, en, A, h⟩ := tMs.seq A h
  refine ⟨ro, S, en, A, h.imp fun ds H1 r1 g xs rs => ?_⟩
  obtain ⟨r1, S1, d1, A1, E1, rd, p⟩ := g xs rs
  have hcl := cap_line
  split at p
  · exact ⟨by rw [← rd.length]; omega, Post.newL A1.st rd (show Post X.K ca _ r1 (alloc (.list d1) S1) (goodV Q) NoW from p)⟩
  · exact p.elim
theorem me_dnew : ME X ca W (.Dict [] [] pos) (fun _ S => alloc (.dict false []) S) := by
  refine pe_dnewT.imp fun σ H Q ⟨ro, S, en, A, h⟩ p hn => ?_
  have E0 : Ext H ro (upd H p (.dT [])) (ro ++ [p]) := ⟨fun n a q => by
    rw [List.getElem?_append_left (List.getElem?_eq_some_iff.mp q).1]
    exact q, (ext_new (ro := ro) hn).tup, (ext_new (ro := ro) hn).frz⟩
  obtain ⟨R', E⟩ := A.st.push (u := .dict false []) hn ⟨[], upd_same, .nil⟩ rfl
  refine h _ _ E R' _ (.loc ?_)
  rw [← A.st.len, List.getElem?_append_right (Nat.le_refl _), Nat.sub_self]
  rfl
theorem pure2_nox {d : Option D} {S S' : Store} {c : Nat} (h : pure2 d S = .exc c S') : False := by
  unfold pure2 at h
  split at h <;> cases h
theorem prim_nox {f : P} {ds : List D} {S S' : Store} {c : Nat} (h : prim f ds S = .exc c S') : False := by
  unfold prim at h
  split at h <;> first
    | (cases h; done)
    | exact pure2_nox h
    | (unfold alloc at h; cases h; done)
    | (unfold addD at h; (repeat' split at h) <;> first | (cases h; done) | (unfold alloc at h; cases h; done))
    | (unfold mulD at h; (repeat' split at h) <;> first | (cases h; done) | (unfold alloc at h; cases h; done))
    | (unfold cmpI at h; (repeat' split at h) <;> first | (cases h; done) | (unfold alloc at h; cases h; done))
    | (unfold sliceD at h; (repeat' split at h) <;> first | (cases h; done) | (unfold alloc at h; cases h; done))
    | (unfold lenD at h; (repeat' split at h) <;> first | (cases h; done) | (unfold alloc at h; cases h; done))
    | (unfold listD at h; (repeat' split at h) <;> first | (cases h; done) | (unfold alloc at h; cases h; done))
    | (unfold isTy at h; (repeat' split at h) <;> first | (cases h; done) | (unfold alloc at h; cases h; done))
    | (unfold isOwnD at h; (repeat' split at h) <;> first | (cases h; done) | (unfold alloc at h; cases h; done))
    | ((repeat' split at h) <;> first | (cases h; done) | exact pure2_nox h | (unfold alloc at h; cases h; done))
/-- an operation on values, whatever may be raised: none is -/
theorem Post.nox {K : PySem.W.Frag} {ca : CA} {H : Hp} {ro : List Addr} {f : P} {ds : List D} {S : Store} {g : D → Hp → List Addr → Prop} {w w' : Nat → Hp → Prop} (h : Post K ca H ro (prim f ds S) g w) : Post K ca H ro (prim f ds S) g w' := by
  cases e : prim f ds S with
  | ok a S' => rw [e] at h; exact h
  | exc c S' => exact (prim_nox e).elim
  | bad => rw [e] at h; exact h
end
end MI

/-! MI, 10: operations, tests. -/
namespace MI
open PySem PySem.Spec PyProof.Rows L2

section
variable {X : Cx} {ca : CA} {W : WX} {e a b c : Expr} {pos : Pos} {m ma mb mc : Env → Store → R D}
abbrev s1 (f : P) (ma : Env → Store → R D) : Env → Store → R D := fun en S => (ma en S).bind fun x S => prim f [x] S
abbrev s2 (f : P) (ma mb : Env → Store → R D) : Env → Store → R D := fun en S => (ma en S).bind fun x S => (mb en S).bind fun y S => prim f [x, y] S
abbrev sB (m : Env → Store → R D) : Env → Store → R Bool := fun en S => asB (m en S)
/-- the two values, then the operation -/
theorem tM.two {f : P} {σ : L2.St} {H : Hp} {Q : VK} (h : tM X.K ca W (s2 f ma mb) σ H Q) : tOp (rP2 X.K ca f) (tM X.K ca W ma) (tM X.K ca W mb) σ H Q := by
  obtain ⟨ro, S, en, A, h⟩ := h
  obtain ⟨ro, S, en, A, h⟩ := tM.seq A h
  refine ⟨ro, S, en, A, h.imp fun d H1 r1 g x r => ?_⟩
  obtain ⟨r1, S1, d1, A1, E1, rd, p⟩ := g x r
  obtain ⟨ro, S, en, A, h⟩ := tM.seq A1 p
  refine ⟨ro, S, en, A, h.imp fun d H2 r2 g y r => ?_⟩
  obtain ⟨r2, S2, d2, A2, E2, rd2, p⟩ := g y r
  exact ⟨r2, S2, _, A2.st, .cons (RD.mono E2 _ _ rd) (.cons rd2 .nil), p.nox⟩
theorem tM.one {f : P} {σ : L2.St} {H : Hp} {Q : VK} (h : tM X.K ca W (s1 f ma) σ H Q) : tUn (fun x H Q => rP X.K ca f [x] H Q) (tM X.K ca W ma) σ H Q := by
  obtain ⟨ro, S, en, A, h⟩ := h
  obtain ⟨ro, S, en, A, h⟩ := tM.seq A h
  refine ⟨ro, S, en, A, h.imp fun d H1 r1 g x r => ?_⟩
  obtain ⟨r1, S1, d1, A1, E1, rd, p⟩ := g x r
  exact ⟨r1, S1, _, A1.st, .cons rd .nil, p.nox⟩
theorem tMt.asB {σ : L2.St} {H : Hp} {Q : Bool → Hp → Prop} (h : tMt X.K ca W (sB m) σ H Q) : tM X.K ca W m σ H fun x H1 => ∃ c, x = .bl c ∧ Q c H1 := by
  obtain ⟨ro, S, en, A, h⟩ := h
  obtain ⟨ro, S, en, A, h⟩ := tM.seq A h
  refine ⟨ro, S, en, A, h.imp fun d H1 r1 g x r => ?_⟩
  obtain ⟨r1, S1, d1, A1, E1, rd, p⟩ := g x r
  cases d1 <;> first | exact p.elim | skip
  exact ⟨_, rd.bl_inv, Post.here A1.st p⟩
theorem me_bin {op : Operator} {f : P} (ho : OpR X (binaryOp op) (rP2 X.K ca f)) (ha : ME X ca W a ma) (hb : ME X ca W b mb) : ME X ca W (.BinOp a op b pos) (s2 f ma mb) :=
  (pe_op ho ha hb).imp fun _ _ _ h => h.two
theorem me_un {op : UnaryOp} {f : P} (ho : UnR X (unaryOp op) (fun x H Q => rP X.K ca f [x] H Q)) (ha : ME X ca W a ma) : ME X ca W (.UnaryOp op a pos) (s1 f ma) :=
  (pe_un ho ha).imp fun _ _ _ h => h.one
theorem me_cmp {op : CmpOp} {f : P} (ho : OpR X (compareOp op) (rP2 X.K ca f)) (ha : ME X ca W a ma) (hb : ME X ca W b mb) (hm : behindInMarks op b = false) : ME X ca W (.Compare a [op] [b] pos) (s2 f ma mb) :=
  (pe_cmpR ho ha hb hm).imp fun _ _ _ h => h.two
theorem mt_cmp {op : CmpOp} {f : P} (ho : OpR X (compareOp op) (rP2 X.K ca f)) (ha : ME X ca W a ma) (hb : ME X ca W b mb) (hm : behindInMarks op b = false) : MT X ca W (.Compare a [op] [b] pos) (sB (s2 f ma mb)) :=
  (pt_cmpR ho ha hb hm).imp fun _ _ _ h => h.asB.two
abbrev sC (f g : P) (ma mb mc : Env → Store → R D) : Env → Store → R D := fun en S => (ma en S).bind fun x S => (mb en S).bind fun y S => (asB (prim f [x, y] S)).bind fun t S =>
  if t then (mc en S).bind fun z S => prim g [y, z] S else .ok (.bl false) S
theorem tM.chain {f g : P} {σ : L2.St} {H : Hp} {Q : VK} (h : tM X.K ca W (sC f g ma mb mc) σ H Q) : tChain (rP2 X.K ca f) (rP2 X.K ca g) (tM X.K ca W ma) (tM X.K ca W mb) (tM X.K ca W mc) σ H Q := by
  obtain ⟨ro, S, e0, A, h⟩ := h
  obtain ⟨ro, S, e1, A, h⟩ := tM.seq A h
  refine ⟨ro, S, e1, A, h.imp fun d H1 r1 z x r => ?_⟩
  obtain ⟨r1, S1, d1, A1, E1, rd, p⟩ := z x r
  obtain ⟨ro, S, e2, A, h⟩ := tM.seq A1 p
  refine ⟨ro, S, e2, A, h.imp fun d H2 r2 z y r => ?_⟩
  obtain ⟨r2, S2, d2, A2, E2, rd2, p⟩ := z y r
  unfold MI.asB at p
  rw [R.bind_assoc] at p
  have q := (p.seq).nox (w' := NoW)
  refine ⟨r2, S2, _, A2.st, .cons (RD.mono E2 _ _ rd) (.cons rd2 .nil), q.imp fun d H3 r3 ⟨S3, E3, R3, p3⟩ z rz => ?_⟩
  obtain ⟨t, rfl⟩ : ∃ t, d = .bl t := by
    cases d <;> first | exact p3.elim | exact ⟨_, rfl⟩
  obtain rfl := rz.bl_inv
  refine ⟨t, rfl, ?_⟩
  have A3 := A2.mono E3 R3
  cases t with
  | false => exact Post.here R3 p3 _ (.bl false)
  | true =>
    obtain ⟨ro, S, en, A, h⟩ := tM.seq (m := mc) (f := fun z S => prim g [d2, z] S) A3 p3
    refine ⟨ro, S, en, A, h.imp fun d H4 r4 z w r => ?_⟩
    obtain ⟨r4, S4, d4, A4, E4, rd4, p4⟩ := z w r
    exact ⟨r4, S4, _, A4.st, .cons (RD.mono (E3.trans E4) _ _ rd2) (.cons rd4 .nil), p4.nox⟩
theorem me_chn {op op' : CmpOp} {f g : P} (ho : OpR X (compareOp op) (rP2 X.K ca f)) (ho' : OpR X (compareOp op') (rP2 X.K ca g)) (ha : ME X ca W a ma) (hb : ME X ca W b mb) (hc : ME X ca W c mc) (hm : lastMarks [op, op'] [b, c] = false) :
    ME X ca W (.Compare a [op, op'] [b, c] pos) (sC f g ma mb mc) := (pe_chain ho ho' ha hb hc hm).imp fun _ _ _ h => h.chain
theorem mt_chn {op op' : CmpOp} {f g : P} (ho : OpR X (compareOp op) (rP2 X.K ca f)) (ho' : OpR X (compareOp op') (rP2 X.K ca g)) (ha : ME X ca W a ma) (hb : ME X ca W b mb) (hc : ME X ca W c mc) (hm : lastMarks [op, op'] [b, c] = false) :
    MT X ca W (.Compare a [op, op'] [b, c] pos) (sB (sC f g ma mb mc)) := (pt_chain ho ho' ha hb hc hm).imp fun _ _ _ h => h.asB.chain
theorem mt_val (h : ME X ca W e m) (he : ∀ whole, isTrue e X.env whole = (do let v ← whole; standAt e.pos; holding [v] (truthy v))) : MT X ca W e (sB m) := (pt_val h he).imp fun _ _ _ h => h.asB

/-! ### items, slices -/
theorem me_item (hu : X.A.units + 64 < cLine) (ha : ME X ca W a ma) (hb : ME X ca W b mb) (hs : PlainIx b) : ME X ca W (.Subscript a b pos) (s2 .item ma mb) := (pe_ix (o_item hu) ha hb hs).imp fun _ _ _ h => h.two
theorem me_rev {k : Nat} {p1 p2 p3 : Pos} (ha : ME X ca W a ma) : ME X ca W (.Subscript a (.Slice none none (some (.UnaryOp .USub (.Constant (.int 1) k p1) p2)) p3) pos) (s1 .rev ma) := by
  refine (pe_revL ha).imp fun σ H Q h => ?_
  obtain ⟨ro, S, en, A, h⟩ := h.one
  exact ⟨ro, S, en, A, h.imp fun d H1 r1 g x r => rev_line (g x r)⟩
theorem slice_wish {σ : L2.St} {H : Hp} {Q : VK} {en : Env} {ro : List Addr} {S : Store} {d : D} {x : V} {lo hi : Option Int} (A : At X.K ca en σ ro S H) (r : RD H ro d x) (h : Post X.K ca H ro (sliceD d lo hi S) (goodV Q) (Wm ca W σ)) : rSl X.K ca x lo hi H Q := by
  refine ⟨ro, S, d, A.st, r, ?_⟩
  unfold sliceD at h ⊢
  (repeat' split at h) <;> exact h
theorem tM.asI {σ : L2.St} {H : Hp} {B : Type} {f : Int → Store → R B} {g : B → Hp → List Addr → Prop} {en : Env} {ro : List Addr} {S : Store} (A : At X.K ca en σ ro S H) (h : Post X.K ca H ro ((MI.asI (m en S)).bind f) g (Wm ca W σ)) :
    tM X.K ca W m σ H fun x H1 => ∃ i, x = .int i ∧ ∃ r1 S1, At X.K ca en σ r1 S1 H1 ∧ Ext H ro H1 r1 ∧ Post X.K ca H1 r1 (f i S1) g (Wm ca W σ) := by
  unfold MI.asI at h
  rw [R.bind_assoc] at h
  obtain ⟨ro, S, en, A, h⟩ := tM.seq A h
  refine ⟨ro, S, en, A, h.imp fun d H1 r1 g x r => ?_⟩
  obtain ⟨r1, S1, d1, A1, E1, rd, p⟩ := g x r
  cases d1 <;> first | exact (show False from p).elim | skip
  exact ⟨_, rd.int_inv, r1, S1, A1, E1, p⟩
theorem me_sl2 {p2 : Pos} (ha : ME X ca W a ma) (hb : ME X ca W b mb) (hc : ME X ca W c mc) : ME X ca W (.Subscript a (.Slice (some b) (some c) none p2) pos)
    (fun en S => (ma en S).bind fun x S => (asI (mb en S)).bind fun i S => (asI (mc en S)).bind fun j S => sliceD x (some i) (some j) S) := by
  refine (pe_slice (o_slice (ca := ca)) ha (po_some hb) (po_some hc)).imp fun σ H Q ⟨ro, S, en, A, h⟩ => ?_
  obtain ⟨ro, S, en, A, h⟩ := tM.seq A h
  refine ⟨ro, S, en, A, h.imp fun d H1 r1 g x r => ?_⟩
  obtain ⟨r1, S1, d1, A1, E1, rd, p⟩ := g x r
  obtain ⟨ro, S, en, A, h⟩ := tM.asI A1 p
  refine ⟨ro, S, en, A, h.imp fun d H2 r2 g y r => ?_⟩
  obtain ⟨i, e1, r2, S2, A2, E2, p⟩ := g y r
  refine ⟨i, e1, ?_⟩
  obtain ⟨ro, S, en, A, h⟩ := tM.asI A2 p
  refine ⟨ro, S, en, A, h.imp fun d H3 r3 g z r => ?_⟩
  obtain ⟨j, e2, r3, S3, A3, E3, p⟩ := g z r
  exact ⟨j, e2, slice_wish A3 (RD.mono (E2.trans E3) _ _ rd) p⟩
theorem me_slL {p2 : Pos} (ha : ME X ca W a ma) (hb : ME X ca W b mb) : ME X ca W (.Subscript a (.Slice (some b) none none p2) pos)
    (fun en S => (ma en S).bind fun x S => (asI (mb en S)).bind fun i S => sliceD x (some i) none S) := by
  refine (pe_slice (o_slice (ca := ca)) ha (po_some hb) po_none).imp fun σ H Q ⟨ro, S, en, A, h⟩ => ?_
  obtain ⟨ro, S, en, A, h⟩ := tM.seq A h
  refine ⟨ro, S, en, A, h.imp fun d H1 r1 g x r => ?_⟩
  obtain ⟨r1, S1, d1, A1, E1, rd, p⟩ := g x r
  obtain ⟨ro, S, en, A, h⟩ := tM.asI A1 p
  refine ⟨ro, S, en, A, h.imp fun d H2 r2 g y r => ?_⟩
  obtain ⟨i, e1, r2, S2, A2, E2, p⟩ := g y r
  exact ⟨i, e1, slice_wish A2 (RD.mono E2 _ _ rd) p⟩
theorem me_slH {p2 : Pos} (ha : ME X ca W a ma) (hb : ME X ca W b mb) : ME X ca W (.Subscript a (.Slice none (some b) none p2) pos)
    (fun en S => (ma en S).bind fun x S => (asI (mb en S)).bind fun i S => sliceD x none (some i) S) := by
  refine (pe_slice (o_slice (ca := ca)) ha po_none (po_some hb)).imp fun σ H Q ⟨ro, S, en, A, h⟩ => ?_
  obtain ⟨ro, S, en, A, h⟩ := tM.seq A h
  refine ⟨ro, S, en, A, h.imp fun d H1 r1 g x r => ?_⟩
  obtain ⟨r1, S1, d1, A1, E1, rd, p⟩ := g x r
  obtain ⟨ro, S, en, A, h⟩ := tM.asI A1 p
  refine ⟨ro, S, en, A, h.imp fun d H2 r2 g y r => ?_⟩
  obtain ⟨i, e1, r2, S2, A2, E2, p⟩ := g y r
  exact ⟨i, e1, slice_wish A2 (RD.mono E2 _ _ rd) p⟩

/-! ### and, or, not, if .. else -/

theorem tMt.first {mt : Env → Store → R Bool} {B : Type} {f : Bool → Store → R B} {g : B → Hp → List Addr → Prop} {en : Env} {σ : L2.St} {H : Hp} {ro : List Addr} {S : Store} (A : At X.K ca en σ ro S H) (h : Post X.K ca H ro ((mt en S).bind f) g (Wm ca W σ)) :
    tMt X.K ca W mt σ H fun c H1 => ∃ r1 S1, At X.K ca en σ r1 S1 H1 ∧ Ext H ro H1 r1 ∧ Post X.K ca H1 r1 (f c S1) g (Wm ca W σ) := tMt.seq A h
theorem tM.test {σ : L2.St} {H : Hp} {B : Type} {f : Bool → Store → R B} {g : B → Hp → List Addr → Prop} {en : Env} {ro : List Addr} {S : Store} (A : At X.K ca en σ ro S H) (h : Post X.K ca H ro ((asB (m en S)).bind f) g (Wm ca W σ)) :
    tM X.K ca W m σ H fun x H1 => ∃ c, x = .bl c ∧ ∃ r1 S1, At X.K ca en σ r1 S1 H1 ∧ Ext H ro H1 r1 ∧ Post X.K ca H1 r1 (f c S1) g (Wm ca W σ) := by
  obtain ⟨ro, S, en, A, h⟩ := tMt.seq (m := sB m) A h
  exact tMt.asB ⟨ro, S, en, A, h⟩
variable {rest : List Expr}
abbrev sAnd (ma mb : Env → Store → R D) : Env → Store → R D := fun en S => (asB (ma en S)).bind fun c S => if c then mb en S else .ok (.bl false) S
abbrev sOr (ma mb : Env → Store → R D) : Env → Store → R D := fun en S => (asB (ma en S)).bind fun c S => if c then .ok (.bl true) S else mb en S
abbrev sNot (ma : Env → Store → R D) : Env → Store → R D := fun en S => (asB (ma en S)).bind fun c S => .ok (.bl (!c)) S
abbrev sIf (mc ma mb : Env → Store → R D) : Env → Store → R D := fun en S => (asB (mc en S)).bind fun c S => if c then ma en S else mb en S
theorem me_one {op : BoolOp} (h : ME X ca W a m) : ME X ca W (.BoolOp op [a] pos) m := pe_one h
theorem me_and (ha : ME X ca W a ma) (hb : ME X ca W (.BoolOp .And (b :: rest) pos) mb) : ME X ca W (.BoolOp .And (a :: b :: rest) pos) (sAnd ma mb) := by
  refine (pe_and ha hb).imp fun σ H Q ⟨ro, S, en, A, h⟩ => ?_
  obtain ⟨ro, S, en, A, h⟩ := tM.test A h
  refine ⟨ro, S, en, A, h.imp fun d H1 r1 g x r => ?_⟩
  obtain ⟨c, e1, r1, S1, A1, E1, p⟩ := g x r
  refine ⟨c, e1, ?_⟩
  cases c with
  | true => exact ⟨r1, S1, _, A1, p⟩
  | false => exact Post.here A1.st p _ (.bl false)
theorem me_or (ha : ME X ca W a ma) (hb : ME X ca W (.BoolOp .Or (b :: rest) pos) mb) : ME X ca W (.BoolOp .Or (a :: b :: rest) pos) (sOr ma mb) := by
  refine (pe_or ha hb).imp fun σ H Q ⟨ro, S, en, A, h⟩ => ?_
  obtain ⟨ro, S, en, A, h⟩ := tM.test A h
  refine ⟨ro, S, en, A, h.imp fun d H1 r1 g x r => ?_⟩
  obtain ⟨c, e1, r1, S1, A1, E1, p⟩ := g x r
  refine ⟨c, e1, ?_⟩
  cases c with
  | false => exact ⟨r1, S1, _, A1, p⟩
  | true => exact Post.here A1.st p _ (.bl true)
theorem me_not (ha : ME X ca W a ma) : ME X ca W (.UnaryOp .Not a pos) (sNot ma) := by
  refine (pe_not ha).imp fun σ H Q ⟨ro, S, en, A, h⟩ => ?_
  obtain ⟨ro, S, en, A, h⟩ := tM.test A h
  refine ⟨ro, S, en, A, h.imp fun d H1 r1 g x r => ?_⟩
  obtain ⟨c, e1, r1, S1, A1, E1, p⟩ := g x r
  exact ⟨c, e1, Post.here A1.st p _ (.bl _)⟩
theorem sB_and (en : Env) (S : Store) : sB (sAnd ma mb) en S = (sB ma en S).bind fun c S => if c then sB mb en S else .ok false S := by
  show R.bind (R.bind _ _) _ = _
  rw [R.bind_assoc]
  congr 1
  funext c S
  cases c <;> rfl
theorem sB_or (en : Env) (S : Store) : sB (sOr ma mb) en S = (sB ma en S).bind fun c S => if c then .ok true S else sB mb en S := by
  show R.bind (R.bind _ _) _ = _
  rw [R.bind_assoc]
  congr 1
  funext c S
  cases c <;> rfl
theorem sB_not (en : Env) (S : Store) : sB (sNot ma) en S = (sB ma en S).bind fun c S => .ok (!c) S := by
  show R.bind (R.bind _ _) _ = _
  rw [R.bind_assoc]
  rfl
theorem mw_and1 (ha : MT X ca W a (sB m)) : MW X ca W (.BoolOp .And [a] pos) (sB m) := pw_and1 ha
theorem mw_or1 (ha : MT X ca W a (sB m)) : MW X ca W (.BoolOp .Or [a] pos) (sB m) := pw_or1 ha
theorem mw_and (ha : MT X ca W a (sB ma)) (hb : MW X ca W (.BoolOp .And (b :: rest) pos) (sB mb)) : MW X ca W (.BoolOp .And (a :: b :: rest) pos) (sB (sAnd ma mb)) := by
  refine (pw_and ha hb).imp fun σ H Q ⟨ro, S, en, A, h⟩ => ?_
  rw [sB_and] at h
  obtain ⟨ro, S, en, A, h⟩ := tMt.seq (m := sB ma) A h
  refine ⟨ro, S, en, A, h.imp fun c H1 r1 g => ?_⟩
  obtain ⟨r1, S1, A1, E1, p⟩ := g
  cases c with
  | true => exact ⟨r1, S1, _, A1, p⟩
  | false => exact Post.here A1.st p
theorem mw_or (ha : MT X ca W a (sB ma)) (hb : MW X ca W (.BoolOp .Or (b :: rest) pos) (sB mb)) : MW X ca W (.BoolOp .Or (a :: b :: rest) pos) (sB (sOr ma mb)) := by
  refine (pw_or ha hb).imp fun σ H Q ⟨ro, S, en, A, h⟩ => ?_
  rw [sB_or] at h
  obtain ⟨ro, S, en, A, h⟩ := tMt.seq (m := sB ma) A h
  refine ⟨ro, S, en, A, h.imp fun c H1 r1 g => ?_⟩
  obtain ⟨r1, S1, A1, E1, p⟩ := g
  cases c with
  | false => exact ⟨r1, S1, _, A1, p⟩
  | true => exact Post.here A1.st p
theorem mt_not (ha : MT X ca W a (sB ma)) : MT X ca W (.UnaryOp .Not a pos) (sB (sNot ma)) := by
  refine (pt_not ha).imp fun σ H Q ⟨ro, S, en, A, h⟩ => ?_
  rw [sB_not] at h
  obtain ⟨ro, S, en, A, h⟩ := tMt.seq (m := sB ma) A h
  refine ⟨ro, S, en, A, h.imp fun c H1 r1 g => ?_⟩
  obtain ⟨r1, S1, A1, E1, p⟩ := g
  exact Post.here A1.st p
theorem me_ifx (hc : MT X ca W c (sB mc)) (ha : ME X ca W a ma) (hb : ME X ca W b mb) : ME X ca W (.IfExp c a b pos) (sIf mc ma mb) := by
  refine (pe_ifExp hc ha hb).imp fun σ H Q ⟨ro, S, en, A, h⟩ => ?_
  obtain ⟨ro, S, en, A, h⟩ := tMt.seq (m := sB mc) A h
  refine ⟨ro, S, en, A, h.imp fun c H1 r1 g => ?_⟩
  obtain ⟨r1, S1, A1, E1, p⟩ := g
  cases c with
  | true => exact ⟨r1, S1, _, A1, p⟩
  | false => exact ⟨r1, S1, _, A1, p⟩
end
end MI

/-! MI, 11: shapes of expressions. -/
namespace MI
open PySem PySem.Spec PyProof.Rows L2

def isStarred : Expr → Bool
  | .Starred _ _ => true
  | _ => false
def plainT : Expr → Bool
  | .UnaryOp .Not _ _ => false
  | .BoolOp _ _ _ => false
  | .IfExp _ _ _ _ => false
  | .Compare _ _ _ _ => false
  | _ => true
def bareCall : Expr → Bool
  | .Call (.Name _ _) [] [] _ => true
  | _ => false
def isSet : Expr → Bool
  | .Set _ _ _ => true
  | _ => false
def isComp : Expr → Bool
  | .ListComp _ _ _ _ => true
  | .SetComp _ _ _ _ => true
  | .DictComp _ _ _ _ _ => true
  | _ => false
def isTupE : Expr → Bool
  | .Tuple _ _ _ => true
  | _ => false
section
variable {env : PySem.Env} {e o : Expr} {es : List Expr} {pos apos : Pos}
theorem star_cons (h : isStarred e = false) : starEach (e :: es) env = (false, PySem.eval e env) :: starEach es env := by
  cases e <;> first | rfl | cases h
theorem star_any (h : es.all (fun e => !isStarred e) = true) : (backTo pos (starEach es env)).any (·.1) = false := by
  induction es with
  | nil => rfl
  | cons e es ih =>
    rw [List.all_cons, Bool.and_eq_true] at h
    rw [star_cons (by simpa using h.1)]
    show (false || (backTo pos (starEach es env)).any (·.1)) = false
    rw [ih h.2]
    rfl
theorem star_all (h : es.all (fun e => !isStarred e) = true) : (backTo pos (starEach es env)).all (fun x => !x.1) = true := by
  induction es with
  | nil => rfl
  | cons e es ih =>
    rw [List.all_cons, Bool.and_eq_true] at h
    rw [star_cons (by simpa using h.1)]
    show (true && (backTo pos (starEach es env)).all (fun x => !x.1)) = true
    rw [ih h.2]
    rfl
theorem few_of (h : es.all (fun e => !isStarred e) = true) (hl : es.length < 30) : ((backTo pos (starEach es env)).all (fun x => !x.1) && (backToKw pos (keywordEach [] env)).all (fun x => x.1.isSome)
      && decide (es.length + ([] : List Keyword).length + (if ([] : List Keyword).isEmpty then 0 else 1) < 30)) = true := by
  rw [star_all h]
  show (true && true && decide (es.length + 0 + 0 < 30)) = true
  rw [decide_eq_true (by omega)]
  rfl
theorem base_of {f : Str} (h : bareCall o = false) (m : Sem Value) : attributeBase o f env m = m := by
  unfold attributeBase
  split
  · cases h
  · rfl
theorem true_of (h : plainT e = true) (whole : Sem Value) : isTrue e env whole = (do let v ← whole; standAt e.pos; holding [v] (truthy v)) := by
  cases e <;> first | rfl | cases h | skip
  rename_i op a p
  cases op <;> first | rfl | cases h
theorem marks_of {op : CmpOp} (h : isSet e = false) : behindInMarks op e = false := by
  cases e <;> first | rfl | cases h
theorem marks2_of {op op' : CmpOp} {a : Expr} (h : isSet e = false) : lastMarks [op, op'] [a, e] = false := by
  show behindInMarks op' e = false
  exact marks_of h
theorem iter_of (h : isSet e = false) (x : Value) : foldedSetIterable e env x = pure x := by
  cases e <;> first | rfl | cases h
theorem swaps_of {t : Option Expr} {l : Nat} (h : isComp e = false) : swapsWith e t l env = pure false := by
  cases e <;> first | rfl | cases h
theorem stores_of {t : Expr} (h : isTupE e = false) : swappedStores [t] e env = pure none := by
  unfold swappedStores
  cases e <;> first | (cases h; done) | (cases t <;> rfl)
theorem stores_name {x : Str} {p : Pos} : swappedStores [.Name x p] e env = pure none := by
  unfold swappedStores
  rfl
end
end MI

/-! MI, 12: attributes, calls. -/
namespace MI
open PySem PySem.Spec PyProof.Rows L2

/-- what a def promises -/
def spC (K : PySem.W.Frag) (ca : CA) (call : Nat → List D → Store → R D) (j : Nat) : Sp := fun vs H Q E => ∃ (ro : List Addr) (S : Store) (ds : List D), StR K ca ro S H ∧ RDs H ro ds vs ∧
  Post K ca H ro (call j ds S) (goodV Q) (fun c H' => E (.ref (ca c)) none H')
/-- the names of the module -/
structure Tab where
  fns : List (Str × Nat)
  cls : List (Str × Nat)
  num : List (Str × Int)
  blt : List Str
  exc : List (Str × Nat)
structure GOk (P : Program) (w : World) (K : PySem.W.Frag) (mg : Str → Option Value) (base : Heap) (A : Around) (ca : CA) (fa : Nat → Addr) (G : Prog) (T : Tab) (call : Nat → List D → Store → R D) : Prop where
  units : A.units + 64 < cLine
  fld : ∀ c f, G.fld c f = true → Cls K (ca c) ∧ NoAttr K (ca c) f
  meth : ∀ c m j, G.meth c m = some j → Cls K (ca c) ∧ Meth K (ca c) m (fa j)
  init : ∀ c j, G.init c = some j → Mk K (ca c) (fa j)
  gfn : ∀ x j, T.fns.lookup x = some j → mg x = some (.ref (fa j)) ∧ PySem.W.keepIn K (.ref (fa j)) = true
  gcl : ∀ x c, T.cls.lookup x = some c → mg x = some (.ref (ca c))
  gnum : ∀ x i, T.num.lookup x = some i → ∃ t, mg x = some (.int i t)
  gno : ∀ x, x ∈ T.blt → mg x = none
  fn : ∀ j, (∃ k fd ps, FnOk P w K mg base (L2.CX P w) k (fa j) fd ps (spC K ca call j) ∧ Room (k + 1) A ∧ Binds K fd ps []) ∨ ∀ ds S, call j ds S = .bad

section
variable {X : Cx} {ca : CA} {fa : Nat → Addr} {G : Prog} {T : Tab} {call : Nat → List D → Store → R D} {W : WX} {e a b c o : Expr} {es : List Expr} {pos p apos : Pos} {m ma mb mc : Env → Store → R D} {ms : Env → Store → R (List D)}
abbrev XOk (X : Cx) (ca : CA) (fa : Nat → Addr) (G : Prog) (T : Tab) (call : Nat → List D → Store → R D) : Prop := GOk X.prog X.w X.K X.mg X.base X.A ca fa G T call

/-! ### attributes -/
theorem FR.get {K : PySem.W.Frag} {H : Hp} {ro : List Addr} {fs : List (Str × D)} {gs : List (Str × V)} (h : FR H ro fs gs) (f : Str) : match fs.lookup f, gs.lookup f with
    | some d, some v => RD H ro d v
    | none, none => True
    | _, _ => False := by
  unfold FR at h
  induction h with
  | nil => trivial
  | @cons p q ps qs h t ih =>
    obtain ⟨h1, h2⟩ := h
    obtain ⟨pf, pd⟩ := p
    obtain ⟨qf, qv⟩ := q
    simp only at h1 h2
    subst h1
    by_cases e : f = pf
    · have hb : (f == pf) = true := beq_iff_eq.mpr e
      simp only [List.lookup, hb]
      exact h2
    · have hb : (f == pf) = false := beq_eq_false_iff_ne.mpr e
      simp only [List.lookup, hb]
      exact ih
theorem FR.put {H : Hp} {ro : List Addr} {fs : List (Str × D)} {gs : List (Str × V)} (h : FR H ro fs gs) (f : Str) {d : D} {v : V} (r : RD H ro d v) : FR H ro (fput f d fs) (putF f v gs) := by
  unfold FR at h ⊢
  induction h with
  | nil => exact .cons ⟨rfl, r⟩ .nil
  | @cons p q ps qs h t ih =>
    obtain ⟨h1, h2⟩ := h
    obtain ⟨pf, pd⟩ := p
    obtain ⟨qf, qv⟩ := q
    simp only at h1 h2
    subst h1
    unfold fput putF
    by_cases e : pf = f
    · rw [if_pos e, if_pos e]
      exact .cons ⟨rfl, r⟩ t
    · rw [if_neg e, if_neg e]
      exact .cons ⟨rfl, h2⟩ ih
abbrev sFd (G : Prog) (f : Str) (m : Env → Store → R D) : Env → Store → R D := fun en S => (m en S).bind fun x S => match x with
    | .loc l => (match S[l]? with | some (.ins c fs) => (match G.fld c f, fs.lookup f with | true, some d => .ok d S | _, _ => .bad) | _ => .bad)
    | _ => .bad
theorem me_fld (g : XOk X ca fa G T call) {f : Str} (he : ME X ca W e m) (hb : bareCall e = false) : ME X ca W (.Attribute e f pos) (sFd G f m) := by
  refine (pe_fld he (base_of hb _)).imp fun σ H Q ⟨ro, S, en, A, h⟩ => ?_
  obtain ⟨ro, S, en, A, h⟩ := tM.seq A h
  refine ⟨ro, S, en, A, h.imp fun d H1 r1 g1 x r => ?_⟩
  obtain ⟨r1, S1, d1, A1, E1, rd, p⟩ := g1 x r
  cases d1 <;> first | exact (show False from p).elim | skip
  rename_i l
  dsimp only at p
  split at p
  · rename_i c fs hl
    split at p
    · rename_i d hf hd
      obtain ⟨q, rfl, eq⟩ := rd.loc_inv
      obtain ⟨dx, gs, e1, fr⟩ := A1.st.obj l q _ eq hl
      have z := FR.get (K := X.K) fr f
      rw [hd] at z
      cases ez : gs.lookup f with
      | none => rw [ez] at z; exact z.elim
      | some v =>
        rw [ez] at z
        exact ⟨q, _, dx, gs, v, rfl, e1, (g.fld _ _ hf).1, (g.fld _ _ hf).2, ez, Post.here A1.st p v z⟩
    · exact p.elim
  · exact p.elim

/-! ### calls of own defs -/
theorem pe_gcall (tk : Takes X W) (g : XOk X ca fa G T call) {x : Str} {j : Nat} (hx : T.fns.lookup x = some j) (hg : Gl X x) (hdb : (x == ("__debug__" : Str)) = false) (hs : (e :: es).all (fun e => !isStarred e) = true) (ha : MA X ca W (e :: es) ms) :
    ME X ca W (.Call (.Name x p) (e :: es) [] pos) (fun en S => (ms en S).bind fun ds S => call j ds S) := by
  obtain ⟨hm, hk⟩ := g.gfn x j hx
  have hs2 := hs
  rw [List.all_cons, Bool.and_eq_true] at hs2
  rcases g.fn j with ⟨k, fd, ps, F, hr, hb⟩ | hbad
  · refine (pe_callS (E := WE W) F (hr.mono (Nat.le_succ _)) hg hm hk hb (passAt tk) ha hdb (star_cons (by simpa using hs2.1)) (star_any hs2.2)).imp fun σ H Q ⟨ro, S, en, A, h⟩ => ?_
    obtain ⟨ro, S, en, A, h⟩ := tMs.seq A h
    refine ⟨ro, S, en, A, h.imp fun ds H1 r1 g1 xs rs => ?_⟩
    obtain ⟨r1, S1, d1, A1, E1, rd, p⟩ := g1 xs rs
    exact ⟨r1, S1, d1, A1.st, rd, p⟩
  · refine ⟨fun pins s σ H Q I h => ?_⟩
    refine wpAny_Call_Name_kw (ld_glob I hg hm ?_ hdb)
    refine PySem.W.callWith_K (h₀ := X.base) I.ok.mod.kin hk (thn (ha.run pos pins s σ H (fun _ _ => False) I ?_) fun us s1 ⟨vs, H1, I1, r, q⟩ => q.elim) (star_cons (by simpa using hs2.1)) (star_any hs2.2)
    obtain ⟨ro, S, en, A, h⟩ := h
    obtain ⟨ro, S, en, A, h⟩ := tMs.seq A h
    refine ⟨ro, S, en, A, h.imp fun ds H1 r1 g1 xs rs => ?_⟩
    obtain ⟨r1, S1, d1, A1, E1, rd, p⟩ := g1 xs rs
    rw [hbad] at p
    exact p
/-! ### calls of built-ins -/
/-- f(e, ..), by what f does with values -/
theorem pe_gb {id : String} {x : Str} {r : List V → Hp → VK → Prop} (g : XOk X ca fa G T call) (hc : CallR X (.builtin id) r) (hx : x ∈ T.blt) (hg : Gl X x) (hv : bootBuiltins x = some (.builtin id)) (hn : x ≠ "__name__") (hdb : (x == ("__debug__" : Str)) = false)
    (hs : (e :: es).all (fun e => !isStarred e) = true) {f : P} (ha : MA X ca W (e :: es) ms)
    (hw : ∀ vs H Q, (e :: es).length = vs.length → rP X.K ca f vs H Q → r vs H Q) (hl : ∀ en S ds S', ms en S = .ok ds S' → ds.length = (e :: es).length) :
    ME X ca W (.Call (.Name x p) (e :: es) [] pos) (fun en S => (ms en S).bind fun ds S => prim f ds S) := by
  have hs2 := hs
  rw [List.all_cons, Bool.and_eq_true] at hs2
  refine (pe_callB hc hg (g.gno x hx) hv ha hn hdb (star_cons (by simpa using hs2.1)) (star_any hs2.2)).imp fun σ H Q ⟨ro, S, en, A, h⟩ => ?_
  have hq : ∀ ds S', ms en S = .ok ds S' → ds.length = (e :: es).length := fun ds S' => hl en S ds S'
  refine ⟨ro, S, en, A, ?_⟩
  dsimp only at h
  cases em : ms en S with
  | bad => rw [em] at h; exact h
  | exc c S' => rw [em] at h; exact h
  | ok ds S' =>
    rw [em] at h
    intro H1 r1 E1 R1 vs rs
    exact hw vs H1 Q (by rw [← rs.length]; exact (hq _ _ em).symm) ⟨r1, S', ds, R1, rs, (Post.ext (H := H) (ro := ro) (show Post X.K ca H ro (prim f ds S') (goodV Q) (Wm ca W σ) from h) E1).nox⟩
theorem pe_gty {id : String} {x : Str} {r : List V → Hp → VK → Prop} (g : XOk X ca fa G T call) (hc : CallR X (.type id) r) (hx : x ∈ T.blt) (hg : Gl X x) (hv : bootBuiltins x = some (.type id)) (hn : x ≠ "__name__") (hdb : (x == ("__debug__" : Str)) = false)
    (hs : (e :: es).all (fun e => !isStarred e) = true) {f : P} (ha : MA X ca W (e :: es) ms)
    (hw : ∀ vs H Q, (e :: es).length = vs.length → rP X.K ca f vs H Q → r vs H Q) (hl : ∀ en S ds S', ms en S = .ok ds S' → ds.length = (e :: es).length) :
    ME X ca W (.Call (.Name x p) (e :: es) [] pos) (fun en S => (ms en S).bind fun ds S => prim f ds S) := by
  have hs2 := hs
  rw [List.all_cons, Bool.and_eq_true] at hs2
  refine (pe_callTy hc hg (g.gno x hx) hv ha hn hdb (star_cons (by simpa using hs2.1)) (star_any hs2.2)).imp fun σ H Q ⟨ro, S, en, A, h⟩ => ?_
  have hq : ∀ ds S', ms en S = .ok ds S' → ds.length = (e :: es).length := fun ds S' => hl en S ds S'
  refine ⟨ro, S, en, A, ?_⟩
  dsimp only at h
  cases em : ms en S with
  | bad => rw [em] at h; exact h
  | exc c S' => rw [em] at h; exact h
  | ok ds S' =>
    rw [em] at h
    intro H1 r1 E1 R1 vs rs
    exact hw vs H1 Q (by rw [← rs.length]; exact (hq _ _ em).symm) ⟨r1, S', ds, R1, rs, (Post.ext (H := H) (ro := ro) (show Post X.K ca H ro (prim f ds S') (goodV Q) (Wm ca W σ) from h) E1).nox⟩
/-! ### methods of lists -/
theorem ty_list {K : PySem.W.Frag} {H : Hp} {ro : List Addr} {S : Store} (R : StR K ca ro S H) {d : D} {x : V} (r : RD H ro d x) (h : (litems S d).isSome = true) : tyV K "list" x H := by
  obtain ⟨xs, hx⟩ := Option.isSome_iff_exists.mp h
  obtain ⟨_, p, vs, _, rfl, _, hq, _⟩ := R.litems r hx
  exact .inl ⟨rfl, _, hq⟩
theorem pe_gm0 {id : String} {name : Str} {f : P} (slot : Slot "list" name id) (hty : typeOf (.builtin id) = pure (.type "method_descriptor")) (hm : MtR X id (rM X.K ca f 0)) (ho : ME X ca W o m)
    (hb : bareCall o = false) (hp : (apos.endLine == pos.line) = true) :
    ME X ca W (.Call (.Attribute o name apos) [] [] pos) (fun en S => (m en S).bind fun d S => if (litems S d).isSome then (R.ok [] S).bind fun ds S => prim f (d :: ds) S else .bad) := by
  refine (pe_bm0 PySem.F.plainAttrs_list slot hty hm ho (base_of hb _) hp).imp fun σ H Q ⟨ro, S, en, A, h⟩ => ?_
  obtain ⟨ro, S, en, A, h⟩ := tM.seq A h
  refine ⟨ro, S, en, A, h.imp fun d H1 r1 g1 x r => ?_⟩
  obtain ⟨r1, S1, d1, A1, E1, rd, p⟩ := g1 x r
  split at p
  · rename_i hs
    exact ⟨ty_list A1.st rd hs, rfl, r1, S1, [d1], A1.st, .cons rd .nil, Post.nox p⟩
  · exact p.elim
theorem pe_gm {id : String} {name : Str} {f : P} {n : Nat} (slot : Slot "list" name id) (hty : typeOf (.builtin id) = pure (.type "method_descriptor")) (hm : MtR X id (rM X.K ca f n)) (ho : ME X ca W o m) (ha : MA X ca W (e :: es) ms) (hn : (e :: es).length = n)
    (hlt : (e :: es).length < 30) (hs : (e :: es).all (fun e => !isStarred e) = true) (hb : bareCall o = false) (hp : (apos.endLine == pos.line) = true) (hms : ∀ en S ds S', ms en S = .ok ds S' → ds.length = n) :
    ME X ca W (.Call (.Attribute o name apos) (e :: es) [] pos) (fun en S => (m en S).bind fun d S => if (litems S d).isSome then (ms en S).bind fun ds S => prim f (d :: ds) S else .bad) := by
  have hs2 := hs
  rw [List.all_cons, Bool.and_eq_true] at hs2
  refine (pe_bm PySem.F.plainAttrs_list slot hty hm ho ha (base_of hb _) (few_of hs hlt) hp (star_cons (by simpa using hs2.1)) (star_any hs2.2)).imp fun σ H Q ⟨ro, S, en, A, h⟩ => ?_
  obtain ⟨ro, S, e2, A, h⟩ := tM.seq A h
  refine ⟨ro, S, e2, A, h.imp fun d H1 r1 g1 x r => ?_⟩
  obtain ⟨r1, S1, d1, A1, E1, rd, p⟩ := g1 x r
  split at p
  · rename_i hsm
    refine ⟨ty_list A1.st rd hsm, r1, S1, en, A1, ?_⟩
    cases em : ms en S1 with
    | bad => rw [em] at p; exact p
    | exc c S' => rw [em] at p; exact p
    | ok ds S' =>
      rw [em] at p
      intro H2 r2 E2 R2 vs rs
      exact ⟨by rw [← rs.length]; exact hms _ _ _ _ em, r2, S', d1 :: ds, R2, .cons (RD.mono E2 _ _ rd) rs, (Post.ext (H := H1) (ro := r1) (show Post X.K ca H1 r1 (prim f (d1 :: ds) S') (goodV Q) (Wm ca W σ) from p) E2).nox⟩
  · exact p.elim

/-! ### methods of own classes, new instances -/
theorem call_own {pins : List (Addr × Obj)} {σ : L2.St} {H : Hp} {s : Shared} {Q : VK} {us : List Value} {vs : List V} {j : Nat} (tk : Takes X W) (g : XOk X ca fa G T call) (I : Inv X pins σ H s) (r : Vals vs us)
    (h : spC X.K ca call j vs H Q (WE W σ)) : wpAny (model X.prog X.w) X.A (PySem.call (.ref (fa j)) us) (EP X pins σ Q) X.xe s := by
  rcases g.fn j with ⟨k, fd, ps, F, hr, hb⟩ | hbad
  · exact run_fnS F (hr.mono (Nat.le_succ _)) hb (passAt tk σ) I r h
  · obtain ⟨ro, S, ds, _, _, p⟩ := h
    rw [hbad] at p
    exact p.elim
theorem meth_eq {env : PySem.Env} {name : Str} (hb : bareCall o = false) (hs : es.all (fun e => !isStarred e) = true) (hl : es.length < 30) (hp : (apos.endLine == pos.line) = true) :
    PySem.eval (.Call (.Attribute o name apos) es [] pos) env = (do
      let ov ← PySem.eval o env
      standAt apos.atName
      let (f, first) ← holding [ov] (getMethod ov name (do return (← importBound o env).getD true))
      callWith pos f first (backTo pos (starEach es env)) (backToKw pos (keywordEach [] env))) := by
  show (do
    let ov ← attributeBase o name env (PySem.eval o env)
    standAt apos.atName
    methodCall o name apos pos env ov (es.length + 0) (backTo pos (starEach es env)) (backToKw pos (keywordEach [] env))) = _
  rw [base_of hb]
  have hf : methodCallForm (es.length + 0) (backTo pos (starEach es env)) (backToKw pos (keywordEach [] env)) = true := few_of hs hl
  unfold methodCall calleeOf methodCallPos
  rw [hf, hp]
  rfl
abbrev sMt (G : Prog) (call : Nat → List D → Store → R D) (nm : Str) (m : Env → Store → R D) (ms : Env → Store → R (List D)) : Env → Store → R D := fun en S => (m en S).bind fun x S => match x with
    | .loc l => (match S[l]? with
      | some (.ins c fs) => (match G.meth c nm, fs.lookup nm with
        | some j, none => (ms en S).bind fun ds S => call j (.loc l :: ds) S
        | _, _ => .bad)
      | _ => .bad)
    | _ => .bad
theorem pe_gmeth0 (tk : Takes X W) (g : XOk X ca fa G T call) {nm : Str} (ho : ME X ca W o m) (hb : bareCall o = false) (hp : (apos.endLine == pos.line) = true) :
    ME X ca W (.Call (.Attribute o nm apos) [] [] pos) (sMt G call nm m (fun _ S => .ok [] S)) := by
  refine ⟨fun pins s σ H Q I h => ?_⟩
  obtain ⟨ro, S, en, A, h⟩ := h
  obtain ⟨ro, S, e2, A, h⟩ := tM.seq A h
  refine PySem.W.methodCall_KW (pl := (do return (← importBound o X.env).getD true)) (thn (ho.run pins s σ H _ I ⟨ro, S, e2, A, h⟩) fun u s1 ⟨x, H1, I1, rx, r1, S1, d1, A1, E1, rd, p⟩ => ?_) (meth_eq hb rfl (by decide) hp)
  cases d1 <;> first | exact (show False from p).elim | skip
  rename_i l
  dsimp only at p
  split at p
  · rename_i c fs hS
    split at p
    · rename_i j hj hno
      obtain ⟨q, rfl, eq⟩ := rd.loc_inv
      obtain ⟨dx, gs, e1, fr⟩ := A1.st.obj l q _ eq hS
      have z := FR.get (K := X.K) fr nm
      rw [hno] at z
      have hno2 : gs.lookup nm = none := by
        cases ez : gs.lookup nm with
        | none => rfl
        | some v => rw [ez] at z; exact z.elim
      obtain rfl : u = Value.ref q := rx
      obtain ⟨hc, hm⟩ := g.meth _ _ _ hj
      refine getmeth_ok I1 e1 hc hm hno2 ?_
      exact PySem.W.callWith_K0 (first := [.ref q]) I1.kIn hm.kp (call_own (us := [.ref q]) (vs := [.ref q]) tk g I1 (.cons rfl .nil) ⟨r1, S1, [.loc l], A1.st, .cons rd .nil, p⟩)
    · exact p.elim
  · exact p.elim
theorem pe_gmeth (tk : Takes X W) (g : XOk X ca fa G T call) {nm : Str} (ho : ME X ca W o m) (ha : MA X ca W (e :: es) ms) (hb : bareCall o = false) (hs : (e :: es).all (fun e => !isStarred e) = true) (hl : (e :: es).length < 30) (hp : (apos.endLine == pos.line) = true) :
    ME X ca W (.Call (.Attribute o nm apos) (e :: es) [] pos) (sMt G call nm m ms) := by
  refine ⟨fun pins s σ H Q I h => ?_⟩
  obtain ⟨ro, S, en, A, h⟩ := h
  obtain ⟨ro, S, e2, A, h⟩ := tM.seq A h
  refine PySem.W.methodCall_KW (pl := (do return (← importBound o X.env).getD true)) (thn (ho.run pins s σ H _ I ⟨ro, S, e2, A, h⟩) fun u s1 ⟨x, H1, I1, rx, r1, S1, d1, A1, E1, rd, p⟩ => ?_) (meth_eq hb hs hl hp)
  cases d1 <;> first | exact (show False from p).elim | skip
  rename_i l
  dsimp only at p
  split at p
  · rename_i c fs hS
    split at p
    · rename_i j hj hno
      obtain ⟨q, rfl, eq⟩ := rd.loc_inv
      obtain ⟨dx, gs, e1, fr⟩ := A1.st.obj l q _ eq hS
      have z := FR.get (K := X.K) fr nm
      rw [hno] at z
      have hno2 : gs.lookup nm = none := by
        cases ez : gs.lookup nm with
        | none => rfl
        | some v => rw [ez] at z; exact z.elim
      obtain rfl : u = Value.ref q := rx
      obtain ⟨hc, hm⟩ := g.meth _ _ _ hj
      refine getmeth_ok I1 e1 hc hm hno2 ?_
      have hs2 := hs
      rw [List.all_cons, Bool.and_eq_true] at hs2
      obtain ⟨ro, S, e2, A, h⟩ := tMs.seq (f := fun ds S => call j (.loc l :: ds) S) A1 p
      refine PySem.W.callWith_K (first := [.ref q]) (h₀ := X.base) I.ok.mod.kin hm.kp (thn (ha.run pos pins s1 σ H1 _ I1 ⟨ro, S, e2, A, h⟩) fun us s2 ⟨vs, H2, I2, rv, r2, S2, ds, A2, E2, rds, p2⟩ => ⟨I2.kIn, ?_⟩) (star_cons (by simpa using hs2.1)) (star_any hs2.2)
      exact call_own (us := .ref q :: us) (vs := .ref q :: vs) tk g I2 (.cons rfl rv) ⟨r2, S2, .loc l :: ds, A2.st, .cons (RD.mono E2 _ _ rd) rds, p2⟩
    · exact p.elim
  · exact p.elim
/-- C(..), from the arguments' values -/
theorem make_own {pins : List (Addr × Obj)} {σ : L2.St} {H : Hp} {s : Shared} {Q : VK} {us : List Value} {vs : List V} {c j : Nat} (tk : Takes X W) (g : XOk X ca fa G T call) (hi : G.init c = some j) (I : Inv X pins σ H s) (r : Vals vs us) {ro : List Addr} {S : Store} {ds : List D}
    (R : StR X.K ca ro S H) (rd : RDs H ro ds vs) (h : Post X.K ca H ro ((call j (.loc S.length :: ds) (S ++ [.ins c []])).bind fun v S1 => match v with | .non => .ok (.loc S.length) S1 | _ => .bad) (goodV Q) (Wm ca W σ)) :
    wpAny (model X.prog X.w) X.A (PySem.call (.ref (ca c)) us) (EP X pins σ Q) X.xe s := by
  have M := g.init _ _ hi
  rcases g.fn j with ⟨k, fd, ps, F, hr, hb⟩ | hbad
  · have hx := I.hok.fresh (Nat.le_succ s.heap.objs.size)
    have hdx := I.hok.fresh (Nat.le_refl s.heap.objs.size)
    have I2 := Inv.made (C := ca c) I
    have R1 := R.new (o := .own (s.heap.objs.size + 1)) hdx
    have E1 := ext_new (ro := ro) (o := .own (s.heap.objs.size + 1)) hdx
    have hx1 : (upd H s.heap.objs.size (.own (s.heap.objs.size + 1))) (s.heap.objs.size + 1) = none := by
      rw [upd_ne (Nat.succ_ne_self _)]
      exact hx
    obtain ⟨R2, E2⟩ := R1.push (o := .ins (ca c) s.heap.objs.size []) (u := .ins c []) hx1 ⟨s.heap.objs.size, [], upd_same, .nil⟩ rfl
    have E := E1.trans E2
    have hloc : (ro ++ [s.heap.objs.size + 1])[S.length]? = some (s.heap.objs.size + 1) := by
      rw [← R.len, List.getElem?_append_right (Nat.le_refl _), Nat.sub_self]
      rfl
    have hq : spC X.K ca call j (.ref (s.heap.objs.size + 1) :: vs) (upd (upd H s.heap.objs.size (.own (s.heap.objs.size + 1))) (s.heap.objs.size + 1) (.ins (ca c) s.heap.objs.size [])) (fun v H2 => v = .non ∧ Q (.ref (s.heap.objs.size + 1)) H2) (WE W σ) := by
      refine ⟨_, _, .loc S.length :: ds, R2, .cons (.loc hloc) (RDs.mono E _ _ rd), ?_⟩
      refine (Post.seq (Post.ext h E)).imp fun d H' ro' ⟨S', E', R', p⟩ v rv => ?_
      cases d <;> first | exact (show False from p).elim | skip
      exact ⟨rv.non_inv, Post.here R' p _ (.loc (E'.pre _ _ hloc))⟩
    have r2 : Vals (V.ref (s.heap.objs.size + 1) :: vs) (Value.ref (s.heap.objs.size + 1) :: us) := .cons rfl r
    have hl : (Value.ref (s.heap.objs.size + 1) :: us).length = ps.length := by
      rw [← r2.length]
      exact F.len _ _ _ _ hq
    have b := hb _ (Value.ref (s.heap.objs.size + 1) :: us) I2.kIn (by rw [List.append_nil]; exact hl)
    rw [List.append_nil] at b
    refine wpAny_call (make_map (f := fa j) I.kIn M.makes M.init (beq_iff_eq.mp M.fn) (codeAny_mono (F.run _ X.stack _ _ _ _ _ _ _ (hr.make (ca c) us []) (I2.env0.make (ca c) us []) b r2 hq) fun r s' hq' => ?_))
    cases r with
    | error e => exact passAt tk σ pins _ _ e s' I2 hq'
    | ok fl =>
      cases fl with
      | ret u =>
        obtain ⟨v, H', I3, rv, ev, q3⟩ := I2.after hq'
        subst ev
        exact ⟨rv, ⟨V.ref (s.heap.objs.size + 1), H', I3, rfl, q3⟩⟩
      | next => exact False.elim hq'
      | brk => exact False.elim hq'
      | cont => exact False.elim hq'
  · rw [hbad] at h
    exact h.elim
theorem pe_gmake (tk : Takes X W) (g : XOk X ca fa G T call) {x : Str} {c j : Nat} (hx : T.cls.lookup x = some c) (hi : G.init c = some j) (hg : Gl X x) (hdb : (x == ("__debug__" : Str)) = false) (hs : (e :: es).all (fun e => !isStarred e) = true) (ha : MA X ca W (e :: es) ms) :
    ME X ca W (.Call (.Name x p) (e :: es) [] pos) (fun en S => (ms en S).bind fun ds S => (call j (.loc S.length :: ds) (S ++ [.ins c []])).bind fun v S1 => match v with | .non => .ok (.loc S.length) S1 | _ => .bad) := by
  have hs2 := hs
  rw [List.all_cons, Bool.and_eq_true] at hs2
  refine ⟨fun pins s σ H Q I h => ?_⟩
  obtain ⟨ro, S, en, A, h⟩ := h
  obtain ⟨ro, S, e2, A, h⟩ := tMs.seq A h
  refine wpAny_Call_Name_kw (ld_glob I hg (g.gcl x c hx) ?_ hdb)
  refine PySem.W.callWith_K (h₀ := X.base) I.ok.mod.kin (g.init _ _ hi).kp (thn (ha.run pos pins s σ H _ I ⟨ro, S, e2, A, h⟩) fun us s1 ⟨vs, H1, I1, r, r1, S1, ds, A1, E1, rds, p⟩ => ⟨I1.kIn, ?_⟩) (star_cons (by simpa using hs2.1)) (star_any hs2.2)
  exact make_own tk g hi I1 r A1.st rds p
theorem pe_gmake0 (tk : Takes X W) (g : XOk X ca fa G T call) {x : Str} {c j : Nat} (hx : T.cls.lookup x = some c) (hi : G.init c = some j) (hg : Gl X x) (hdb : (x == ("__debug__" : Str)) = false) :
    ME X ca W (.Call (.Name x p) [] [] pos) (fun en S => (R.ok [] S).bind fun ds S => (call j (.loc S.length :: ds) (S ++ [.ins c []])).bind fun v S1 => match v with | .non => .ok (.loc S.length) S1 | _ => .bad) := by
  refine ⟨fun pins s σ H Q I h => ?_⟩
  obtain ⟨ro, S, en, A, h⟩ := h
  refine wpAny_Call_Name_kw (ld_glob I hg (g.gcl x c hx) ?_ hdb)
  exact PySem.W.callWith_K0 I.kIn (g.init _ _ hi).kp (make_own (us := []) tk g hi I .nil A.st .nil h)
end
end MI

/-! MI, 13: targets, what is walked. -/
namespace MI
open PySem PySem.Spec PyProof.Rows L2

/-! ### targets -/
mutual
def namesT : CT → List Nat
  | .name i => [i]
  | .tup ts => namesTs ts
def namesTs : List CT → List Nat
  | [] => []
  | t :: ts => namesT t ++ namesTs ts
end
theorem wipe_set (i : Nat) (v : Option V) : ∀ (vs : List Nat) (σ : L2.St), i ∈ vs → L2.wipe (σ.set i v) vs = L2.wipe σ vs
  | [], _, h => by cases h
  | w :: vs, σ, h => by
    by_cases hi : i ∈ vs
    · unfold L2.wipe
      rw [wipe_set i v vs σ hi]
    · rcases List.mem_cons.mp h with rfl | h
      · unfold L2.wipe
        clear h
        have e : ∀ (vs : List Nat) (σ : L2.St), i ∉ vs → L2.wipe (σ.set i v) vs = (L2.wipe σ vs).set i v := fun vs => by
          induction vs with
          | nil => intro σ _; rfl
          | cons w vs ih =>
            intro σ hn
            have h1 : i ≠ w := fun z => hn (by rw [z]; exact List.mem_cons_self)
            unfold L2.wipe
            rw [ih σ (fun z => hn (List.mem_cons_of_mem _ z)), List.set_comm _ _ h1]
        rw [e vs σ hi, List.set_set]
      · exact absurd h hi
def Keeps (is : List Nat) (σ σ' : L2.St) : Prop := ∀ vs : List Nat, (∀ i ∈ is, i ∈ vs) → L2.wipe σ' vs = L2.wipe σ vs
def gM (K : PySem.W.Frag) (ca : CA) (t : CT) : TG := fun v σ H Q => ∃ ro S en d en', At K ca en σ ro S H ∧ RD H ro d v ∧ bindT t d en = some en' ∧ ∀ σ', At K ca en' σ' ro S H → Keeps (namesT t) σ σ' → Q σ' H
def gMs (K : PySem.W.Frag) (ca : CA) (ts : List CT) : TGs := fun vs σ H Q => ∃ ro S en ds en', At K ca en σ ro S H ∧ RDs H ro ds vs ∧ bindTs ts ds en = some en' ∧ ∀ σ', At K ca en' σ' ro S H → Keeps (namesTs ts) σ σ' → Q σ' H
theorem _root_.L2.PG.imp {X : Cx} {e : Expr} {t t' : TG} (h : PG X e t) (k : ∀ v σ H Q, t' v σ H Q → t v σ H Q) : PG X e t' := ⟨fun pins s σ H v u Q I r q => h.run pins s σ H v u Q I r (k v σ H Q q)⟩
theorem _root_.L2.PGs.imp {X : Cx} {e : List Expr} {t t' : TGs} (h : PGs X e t) (k : ∀ v σ H Q, t' v σ H Q → t v σ H Q) : PGs X e t' := ⟨fun pins s σ H v u Q I r q => h.run pins s σ H v u Q I r (k v σ H Q q)⟩
section
variable {X : Cx} {ca : CA} {pos : Pos}
theorem mg_name {i : Nat} {x : Str} (hN : X.N.Nodup) (hi : X.N[i]? = some x) (hx : Loc X.env.scope x) (hf : X.fn x = true ∨ X.env.scope.names.lookup x = some .local) : PG X (.Name x pos) (gM X.K ca (.name i)) := by
  refine (pg_name hN hi hx hf).imp fun v σ H Q ⟨ro, S, en, d, en', A, r, hb, k⟩ => ?_
  unfold bindT at hb
  split at hb
  · cases hb
    exact k _ ⟨A.st, A.er.set r⟩ fun vs hv => wipe_set i _ vs σ (hv i (by unfold namesT; exact List.mem_cons_self))
  · cases hb
theorem mgs_nil : PGs X [] (gMs X.K ca []) := by
  refine pgs_nil.imp fun vs σ H Q ⟨ro, S, en, ds, en', A, r, hb, k⟩ => ?_
  cases ds with
  | cons _ _ => cases hb
  | nil =>
    cases r
    cases hb
    exact ⟨rfl, k _ A fun _ _ => rfl⟩
theorem asg_plain {e : Expr} {es : List Expr} {env : PySem.Env} (h : isStarred e = false) : assignEach (e :: es) env = (false, assign e env) :: assignEach es env := by
  cases e <;> first | rfl | cases h
theorem mgs_cons {e : Expr} {es : List Expr} {t : CT} {ts : List CT} (h1 : PG X e (gM X.K ca t)) (h2 : PGs X es (gMs X.K ca ts)) (hs : isStarred e = false) : PGs X (e :: es) (gMs X.K ca (t :: ts)) := by
  refine (pgs_cons h1 h2 (by rw [asg_plain hs]; rfl)).imp fun vs σ H Q ⟨ro, S, en, ds, en', A, r, hb, k⟩ => ?_
  cases ds with
  | nil => cases hb
  | cons d ds =>
    cases r with
    | cons r rs =>
      simp only [bindTs] at hb
      split at hb
      · rename_i e1 hb1
        refine ⟨_, _, rfl, ro, S, en, d, e1, A, r, hb1, fun σ1 A1 K1 => ⟨ro, S, e1, ds, en', A1, rs, hb, fun σ2 A2 K2 => k σ2 A2 fun vs hv => ?_⟩⟩
        rw [K2 vs fun i hi => hv i (by unfold namesTs; exact List.mem_append_right _ hi), K1 vs fun i hi => hv i (by unfold namesTs; exact List.mem_append_left _ hi)]
      · cases hb
theorem asg_len {es : List Expr} {env : PySem.Env} (h : es.all (fun e => !isStarred e) = true) : (assignEach es env).length = es.length ∧ (assignEach es env).findIdx? (·.1) = none := by
  induction es with
  | nil => exact ⟨rfl, rfl⟩
  | cons e es ih =>
    rw [List.all_cons, Bool.and_eq_true] at h
    obtain ⟨i1, i2⟩ := ih h.2
    rw [asg_plain (by simpa using h.1)]
    refine ⟨by rw [List.length_cons, List.length_cons, i1], ?_⟩
    rw [List.findIdx?_cons, i2]
    rfl
theorem bindTs_len : ∀ {ts : List CT} {ds : List D} {en en' : Env}, bindTs ts ds en = some en' → ds.length = ts.length
  | [], [], _, _, _ => rfl
  | [], _ :: _, _, _, h => by cases h
  | _ :: _, [], _, _, h => by cases h
  | t :: ts, d :: ds, en, en', h => by
    simp only [bindTs] at h
    split at h
    · rw [List.length_cons, List.length_cons, bindTs_len h]
    · cases h
theorem mg_tup {es : List Expr} {k : Nat} {ts : List CT} (hc : X.calm = true) (h : PGs X es (gMs X.K ca ts)) (hl : es.length = ts.length) (hs : es.all (fun e => !isStarred e) = true) : PG X (.Tuple es k pos) (gM X.K ca (.tup ts)) := by
  refine (pg_tup (n := ts.length) hc h ((asg_len hs).1.trans hl) (asg_len hs).2).imp fun v σ H Q ⟨ro, S, en, d, en', A, r, hb, k⟩ => ?_
  cases d <;> first | (cases hb; done) | skip
  rename_i xs
  obtain ⟨p, vs, rfl, e, t⟩ := r.tup_inv
  simp only [bindT] at hb
  exact ⟨p, vs, rfl, SqT.of e, by rw [← t.length]; exact bindTs_len hb, ro, S, en, xs, en', A, t, hb, fun σ' A' K' => k σ' A' fun vs hv => K' vs fun i hi => hv i (by unfold namesT; exact hi)⟩
end

/-! ### what is walked -/
def Goes (K : PySem.W.Frag) (ca : CA) (H0 : Hp) (r0 : List Addr) (it : MI.It) (J : L2.It) : Prop := ∀ (H : Hp) (ro : List Addr) (S : Store) (i : Nat), Ext H0 r0 H ro → StR K ca ro S H → match itNext S i it with
  | none => True
  | some none => J.stop i H
  | some (some d) => J.go i H ∧ ∀ x H', J.yld i H x H' → Ext H ro H' ro ∧ StR K ca ro S H' ∧ RD H' ro d x
def tI (K : PySem.W.Frag) (ca : CA) (W : WX) (k : IK) (ms : Env → Store → R (List D)) : TI := fun σ H R => ∃ ro S en, At K ca en σ ro S H ∧ Post K ca H ro (ms en S) (fun ds H1 r1 => ∃ S1 it n, At K ca en σ r1 S1 H1 ∧ itMk k ds S1 = some (it, n) ∧
  ∀ J H2, Ext H1 r1 H2 r1 → StR K ca r1 (itIn it S1) H2 → Goes K ca H2 r1 it J → R J H2) (Wm ca W σ)
theorem _root_.L2.PI.imp {X : Cx} {tg e : Expr} {t t' : TI} (h : PI X tg e t) (k : ∀ σ H Q, t' σ H Q → t σ H Q) : PI X tg e t' := ⟨fun pins s σ H Q I q => h.run pins s σ H Q I (k σ H Q q)⟩
section
variable {X : Cx} {ca : CA} {W : WX} {tg e : Expr} {pos p : Pos} {m : Env → Store → R D} {ms : Env → Store → R (List D)}
abbrev sOne (m : Env → Store → R D) : Env → Store → R (List D) := fun en S => (m en S).bind fun d S => .ok [d] S
abbrev MI_ (X : Cx) (ca : CA) (W : WX) (tg e : Expr) (k : IK) (ms : Env → Store → R (List D)) : Prop := PI X tg e (tI X.K ca W k ms)
theorem tM.sOne {σ : L2.St} {H : Hp} {en : Env} {ro : List Addr} {S : Store} {g : List D → Hp → List Addr → Prop} (A : At X.K ca en σ ro S H) (h : Post X.K ca H ro (MI.sOne m en S) g (Wm ca W σ)) :
    tM X.K ca W m σ H fun x H1 => ∃ r1 S1 d, At X.K ca en σ r1 S1 H1 ∧ Ext H ro H1 r1 ∧ RD H1 r1 d x ∧ g [d] H1 r1 := by
  obtain ⟨ro, S, e2, A, h⟩ := tM.seq A h
  refine ⟨ro, S, e2, A, h.imp fun d H1 r1 z x r => ?_⟩
  obtain ⟨r1, S1, d1, A1, E1, rd, p⟩ := z x r
  exact ⟨r1, S1, d1, A1, E1, rd, Post.here A1.st p⟩
theorem goes_list {K : PySem.W.Frag} {H0 : Hp} {r0 : List Addr} {l : Nat} {a : Addr} (ha : r0[l]? = some a) : Goes K ca H0 r0 (.list l) (Itl K a) := by
  intro H ro S i E R
  cases hl : litems S (.loc l) with
  | none => simp only [itNext, hl]
  | some xs =>
    obtain ⟨_, p, vs, e0, e1, e2, hq, t⟩ := R.litems (.loc (E.pre _ _ ha)) hl
    cases e0
    cases e1
    cases hx : xs[i]? with
    | none =>
      simp only [itNext, hl, hx]
      exact ⟨vs, hq, by rw [← t.length]; exact List.getElem?_eq_none_iff.mp hx⟩
    | some d =>
      simp only [itNext, hl, hx]
      obtain ⟨v, ev, rv⟩ := t.get hx
      refine ⟨⟨vs, v, hq, ev⟩, fun x H' y => ?_⟩
      obtain ⟨rfl, y⟩ := y
      have := y vs hq
      rw [ev] at this
      cases this
      exact ⟨Ext.refl _ _, R, rv⟩
theorem goes_tup {K : PySem.W.Frag} {H0 : Hp} {r0 : List Addr} {xs : List D} {vs : List V} {a : Addr} (ha : H0 a = some (.tup vs)) (t : RDs H0 r0 xs vs) : Goes K ca H0 r0 (.tuple xs) (Itt K a) := by
  intro H ro S i E R
  have hq : SqT K H a vs := SqT.of (E.tup _ _ ha)
  have t' := RDs.mono E _ _ t
  cases hx : xs[i]? with
  | none =>
    simp only [itNext, hx]
    exact ⟨vs, hq, by rw [← t.length]; exact List.getElem?_eq_none_iff.mp hx⟩
  | some d =>
    simp only [itNext, hx]
    obtain ⟨v, ev, rv⟩ := t'.get hx
    refine ⟨⟨vs, v, hq, ev⟩, fun x H' y => ?_⟩
    obtain ⟨rfl, y⟩ := y
    have := y vs hq
    rw [ev] at this
    cases this
    exact ⟨Ext.refl _ _, R, rv⟩
theorem goes_rng {K : PySem.W.Frag} {H0 : Hp} {r0 : List Addr} {lo : Int} {n : Nat} : Goes K ca H0 r0 (.range lo 1 n) (Itr lo n) := by
  intro H ro S i E R
  by_cases h : i < n
  · simp only [itNext, if_pos h]
    refine ⟨h, fun x H' y => ?_⟩
    obtain ⟨rfl, rfl⟩ := y
    refine ⟨Ext.refl _ _, R, ?_⟩
    rw [Int.mul_one]
    exact .int _
  · simp only [itNext, if_neg h]
    exact Nat.le_of_not_lt h
theorem isL_some {S : Store} {l n : Nat} (h : isL S l = some n) : ∃ xs, litems S (.loc l) = some xs ∧ xs.length = n := by
  unfold isL at h
  split at h
  · rename_i xs q
    cases h
    exact ⟨xs, by simp only [MI.litems, q], rfl⟩
  · rename_i xs q
    cases h
    exact ⟨xs, by simp only [MI.litems, q], rfl⟩
  · cases h
theorem itMk_list {ds : List D} {S : Store} {it : MI.It} {n : Nat} (h : itMk .list ds S = some (it, n)) : ∃ l, ds = [.loc l] ∧ it = .list l ∧ isL S l = some n := by
  unfold itMk at h
  split at h <;> first | (cases ‹IK.list = _›; done) | (cases h; done) | skip
  · split at h
    · cases h; exact ⟨_, rfl, rfl, by assumption⟩
    · cases h
theorem itMk_tup {ds : List D} {S : Store} {it : MI.It} {n : Nat} (h : itMk .tuple ds S = some (it, n)) : ∃ xs, ds = [.tup xs] ∧ it = .tuple xs := by
  unfold itMk at h
  split at h <;> first | (cases ‹IK.tuple = _›; done) | (cases h; done) | skip
  · cases h; exact ⟨_, rfl, rfl⟩
theorem itMk_r1 {ds : List D} {S : Store} {it : MI.It} {n : Nat} (h : itMk .range1 ds S = some (it, n)) : ∃ j, ds = [.int j] ∧ (-big ≤ j ∧ j ≤ big) ∧ it = .range 0 1 j.toNat := by
  unfold itMk at h
  split at h <;> first | (cases ‹IK.range1 = _›; done) | (cases h; done) | skip
  · split at h
    · cases h; exact ⟨_, rfl, by assumption, rfl⟩
    · cases h
theorem itMk_r2 {ds : List D} {S : Store} {it : MI.It} {n : Nat} (h : itMk .range2 ds S = some (it, n)) : ∃ i j, ds = [.int i, .int j] ∧ (-big ≤ i ∧ i ≤ big ∧ -big ≤ j ∧ j ≤ big) ∧ it = .range i 1 (j - i).toNat := by
  unfold itMk at h
  split at h <;> first | (cases ‹IK.range2 = _›; done) | (cases h; done) | skip
  · split at h
    · cases h; exact ⟨_, _, rfl, by assumption, rfl⟩
    · cases h
theorem itMk_enum {ds : List D} {S : Store} {it : MI.It} {n : Nat} (h : itMk .enum ds S = some (it, n)) : ∃ l, ds = [.loc l] ∧ it = .enum l ∧ isL S l = some n := by
  unfold itMk at h
  split at h <;> first | (cases ‹IK.enum = _›; done) | (cases h; done) | skip
  · split at h
    · cases h; exact ⟨_, rfl, rfl, by assumption⟩
    · cases h
theorem itMk_zip {ds : List D} {S : Store} {it : MI.It} {n : Nat} (h : itMk .zip ds S = some (it, n)) : ∃ l m a b, ds = [.loc l, .loc m] ∧ it = .zip l m ∧ isL S l = some a ∧ isL S m = some b := by
  unfold itMk at h
  split at h <;> first | (cases ‹IK.zip = _›; done) | (cases h; done) | skip
  · split at h
    · cases h; exact ⟨_, _, _, _, rfl, rfl, by assumption, by assumption⟩
    · cases h
theorem itMk_keys {ds : List D} {S : Store} {it : MI.It} {n : Nat} (h : itMk .keys ds S = some (it, n)) : ∃ l lk kvs, ds = [.loc l] ∧ it = .keys l (kvs.map (·.1)) ∧ S[l]? = some (.dict lk kvs) := by
  unfold itMk at h
  split at h <;> first | (cases ‹IK.keys = _›; done) | (cases h; done) | skip
  · split at h
    · cases h; exact ⟨_, _, _, rfl, rfl, by assumption⟩
    · cases h
theorem mi_list (he : ME X ca W e m) : MI_ X ca W tg e .list (sOne m) := by
  refine (pi_list he).imp fun σ H R ⟨ro, S, en, A, h⟩ => ?_
  obtain ⟨ro, S, e2, A, h⟩ := tM.sOne A h
  refine ⟨ro, S, e2, A, h.imp fun d H1 r1 z x r => ?_⟩
  obtain ⟨r1, S1, d1, A1, E1, rd, S2, it, n, A2, hk, g⟩ := z x r
  obtain ⟨l, ed, rfl, q⟩ := itMk_list hk
  cases ed
  obtain ⟨xs, hx, _⟩ := isL_some q
  obtain ⟨_, p, vs, e0, rfl, e2, hq, t⟩ := A2.st.litems rd hx
  cases e0
  exact ⟨p, rfl, ⟨vs, hq⟩, g _ _ (Ext.refl _ _) A2.st (goes_list e2)⟩
theorem mi_tup (he : ME X ca W e m) : MI_ X ca W tg e .tuple (sOne m) := by
  refine (pi_tup he).imp fun σ H R ⟨ro, S, en, A, h⟩ => ?_
  obtain ⟨ro, S, e2, A, h⟩ := tM.sOne A h
  refine ⟨ro, S, e2, A, h.imp fun d H1 r1 z x r => ?_⟩
  obtain ⟨r1, S1, d1, A1, E1, rd, S2, it, n, A2, hk, g⟩ := z x r
  obtain ⟨xs, ed, rfl⟩ := itMk_tup hk
  cases ed
  obtain ⟨p, vs, rfl, e, t⟩ := rd.tup_inv
  exact ⟨p, rfl, ⟨vs, SqT.of e⟩, g _ _ (Ext.refl _ _) A2.st (goes_tup e t)⟩
/-- for k in d: the dict is locked -/
theorem pe_locked {td : TE} (he : PE X e td) : PE X e (fun σ H Q => td σ H fun x H1 => ∃ d kvs, x = .ref d ∧ ((H1 d = some (.dT kvs) ∧ ∀ o, Q x (upd H1 d (.frz o (.dT kvs)))) ∨ ∃ o, H1 d = some (.frz o (.dT kvs)) ∧ Q x H1)) := by
  refine ⟨fun pins s σ H Q I h => ?_⟩
  refine thn (he.run pins s σ H _ I h) fun v s1 ⟨x, H1, I1, r, d, kvs, ex, q⟩ => ?_
  subst ex
  rcases q with ⟨q1, q2⟩ | ⟨o, q1, q2⟩
  · obtain ⟨od, I2⟩ := I1.lock q1 True.intro
    exact ⟨_, _, I2, r, q2 od⟩
  · exact ⟨_, _, I1, r, q2⟩
theorem KR.keys {H : Hp} {ro : List Addr} {kvs : List (List Key × D)} {ws : List (List Key × V)} (h : KR H ro kvs ws) : kvs.map (·.1) = ws.map (·.1) := by
  unfold KR at h
  induction h with
  | nil => rfl
  | cons h t ih => rw [List.map_cons, List.map_cons, h.1, ih]
theorem set_same {α : Type} {l : List α} {n : Nat} {x : α} (h : l[n]? = some x) : l.set n x = l := by
  apply List.ext_getElem?
  intro i
  by_cases e : i = n
  · subst e
    rw [List.getElem?_set_self (List.getElem?_eq_some_iff.mp h).1, h]
  · rw [List.getElem?_set_ne (Ne.symm e)]
theorem goes_keys {K : PySem.W.Frag} {H0 : Hp} {r0 : List Addr} {l : Nat} {a : Addr} {o : Obj} {kvs : List (List Key × D)} {ws : List (List Key × V)} (h : H0 a = some (.frz o (.dT ws))) (kr : KR H0 r0 kvs ws) : Goes K ca H0 r0 (.keys l (kvs.map (·.1))) (Itkt a o ws) := by
  intro H ro S i E R
  have hf := E.frz _ _ _ h
  have hl := KR.length kr
  have hk : ∀ j : Nat, (kvs.map (·.1))[j]? = (ws.map (·.1))[j]? := fun j => by
    rw [kr.keys]
  cases hx : (kvs.map (·.1))[i]? with
  | none =>
    simp only [itNext, hx]
    refine ⟨hf, ?_⟩
    have := List.getElem?_eq_none_iff.mp hx
    rw [List.length_map] at this
    omega
  | some k =>
    simp only [itNext, hx]
    have hx2 := hx
    rw [hk, List.getElem?_map] at hx2
    obtain ⟨kv, e1, e2⟩ := Option.map_eq_some_iff.mp hx2
    refine ⟨⟨hf, (List.getElem?_eq_some_iff.mp e1).1⟩, fun x H' y => ?_⟩
    obtain ⟨rfl, k2, v2, q, z1, rfl, z3⟩ := y
    rw [e1] at z1
    cases z1
    simp only at e2
    subst e2
    exact ⟨Ext.refl _ _, R, .tup z3 (keyDs_rd _)⟩
theorem mi_keys (he : ME X ca W e m) : MI_ X ca W tg e .keys (sOne m) := by
  refine (pi_keys (pe_locked he)).imp fun σ H R ⟨ro, S, en, A, h⟩ => ?_
  obtain ⟨ro, S, e2, A, h⟩ := tM.sOne A h
  refine ⟨ro, S, e2, A, h.imp fun d H1 r1 z x r => ?_⟩
  obtain ⟨r1, S1, d1, A1, E1, rd, S2, it, n, A2, hk, g⟩ := z x r
  obtain ⟨l, lk, kvs, ed, rfl, hS⟩ := itMk_keys hk
  cases ed
  obtain ⟨p, rfl, ep⟩ := rd.loc_inv
  cases lk with
  | false =>
    obtain ⟨ws, e1, kr⟩ := A2.st.obj l p _ ep hS
    refine ⟨p, ws, rfl, .inl ⟨e1, fun o => ⟨p, o, rfl, .inr ⟨ws, upd_same, ?_⟩⟩⟩⟩
    have E0 : Ext H1 r1 (upd H1 p (.frz o (.dT ws))) r1 := ⟨fun _ _ h => h, fun b xs q => by
      have hb : b ≠ p := fun z => by
        subst z
        rw [e1] at q
        cases q
      rw [upd_ne hb]
      exact q, fun b ob w q => by
      have hb : b ≠ p := fun z => by
        subst z
        rw [e1] at q
        cases q
      rw [upd_ne hb]
      exact q⟩
    obtain ⟨R', E⟩ := A2.st.put (o := .frz o (.dT ws)) (u := .dict true kvs) ep hS rfl ⟨o, ws, upd_same, kr.mono E0⟩
    refine g _ _ E ?_ (goes_keys upd_same (kr.mono E0))
    simp only [itIn, hS]
    exact R'
  | true =>
    obtain ⟨o, ws, e1, kr⟩ := A2.st.obj l p _ ep hS
    refine ⟨p, ws, rfl, .inr ⟨o, e1, p, o, rfl, .inr ⟨ws, e1, g _ _ (Ext.refl _ _) ?_ (goes_keys e1 kr)⟩⟩⟩
    have e : itIn (.keys l (kvs.map (·.1))) S2 = S2 := by
      simp only [itIn, hS]
      exact set_same hS
    rw [e]
    exact A2.st

section
variable {fa : Nat → Addr} {G : Prog} {T : Tab} {call : Nat → List D → Store → R D} {a b : Expr}
theorem star_one (h : isStarred a = false) : starEach [a] X.env = [(false, PySem.eval a X.env)] := star_cons h
theorem star_two (h : isStarred a = false) (h2 : isStarred b = false) : starEach [a, b] X.env = [(false, PySem.eval a X.env), (false, PySem.eval b X.env)] := by rw [star_cons h, star_cons h2]; rfl
theorem big_line : big < 2 ^ 62 := by decide
theorem mi_r1 (g : XOk X ca fa G T call) (hx : ("range" : Str) ∈ T.blt) (hg : Gl X "range") (ha : MA X ca W [a] ms) (hs : isStarred a = false) : MI_ X ca W tg (.Call (.Name "range" p) [a] [] pos) .range1 ms := by
  refine (pi_range1 hg (g.gno _ hx) ha (star_one hs)).imp fun σ H R ⟨ro, S, en, A, h⟩ => ?_
  refine ⟨ro, S, en, A, h.imp fun ds H1 r1 ⟨S1, it, n, A1, hk, g⟩ vs r => ?_⟩
  obtain ⟨j, rfl, hb, rfl⟩ := itMk_r1 hk
  obtain ⟨v, rfl, rv⟩ : ∃ v, vs = [v] ∧ RD H1 r1 (.int j) v := by
    cases r with
    | cons r1 r2 => cases r2; exact ⟨_, rfl, r1⟩
  obtain rfl := rv.int_inv
  have hbl := big_line
  exact ⟨j, rfl, by omega, by omega, g _ _ (Ext.refl _ _) A1.st goes_rng⟩
theorem mi_r2 (g : XOk X ca fa G T call) (hx : ("range" : Str) ∈ T.blt) (hg : Gl X "range") (ha : MA X ca W [a, b] ms) (hs : isStarred a = false) (hs2 : isStarred b = false) : MI_ X ca W tg (.Call (.Name "range" p) [a, b] [] pos) .range2 ms := by
  refine (pi_range2 hg (g.gno _ hx) ha (star_two hs hs2) (star_one hs2)).imp fun σ H R ⟨ro, S, en, A, h⟩ => ?_
  refine ⟨ro, S, en, A, h.imp fun ds H1 r1 ⟨S1, it, n, A1, hk, g⟩ vs r => ?_⟩
  obtain ⟨i, j, rfl, hb, rfl⟩ := itMk_r2 hk
  obtain ⟨v, w, rfl, rv, rw⟩ : ∃ v w, vs = [v, w] ∧ RD H1 r1 (.int i) v ∧ RD H1 r1 (.int j) w := by
    cases r with
    | cons r1 r2 => cases r2 with
      | cons r2 r3 => cases r3; exact ⟨_, _, rfl, r1, r2⟩
  obtain rfl := rv.int_inv
  obtain rfl := rw.int_inv
  have hbl := big_line
  exact ⟨i, j, rfl, by omega, g _ _ (Ext.refl _ _) A1.st goes_rng⟩
theorem goes_enum {K : PySem.W.Frag} {H0 : Hp} {r0 : List Addr} {l : Nat} {a : Addr} (ha : r0[l]? = some a) : Goes K ca H0 r0 (.enum l) (Ite K a) := by
  intro H ro S i E R
  cases hl : litems S (.loc l) with
  | none => simp only [itNext, hl]
  | some xs =>
    obtain ⟨_, p, vs, e0, e1, e2, hq, t⟩ := R.litems (.loc (E.pre _ _ ha)) hl
    cases e0
    cases e1
    cases hx : xs[i]? with
    | none =>
      simp only [itNext, hl, hx]
      exact ⟨vs, hq, by rw [← t.length]; exact List.getElem?_eq_none_iff.mp hx⟩
    | some d =>
      simp only [itNext, hl, hx]
      obtain ⟨v, ev, rv⟩ := t.get hx
      refine ⟨⟨vs, v, hq, ev⟩, fun x H' y => ?_⟩
      obtain ⟨Tp, x1, rfl, hn, rfl, y⟩ := y
      have := y vs hq
      rw [ev] at this
      cases this
      exact ⟨ext_new hn, R.new hn, .tup upd_same (.cons (.int _) (.cons (RD.mono (ext_new hn) _ _ rv) .nil))⟩
theorem goes_zip {K : PySem.W.Frag} {H0 : Hp} {r0 : List Addr} {l m : Nat} {a b : Addr} (ha : r0[l]? = some a) (hb : r0[m]? = some b) : Goes K ca H0 r0 (.zip l m) (Itz K a b) := by
  intro H ro S i E R
  cases hl : litems S (.loc l) with
  | none => simp only [itNext, hl]
  | some xs =>
    cases hm : litems S (.loc m) with
    | none => simp only [itNext, hl, hm]
    | some ys =>
      obtain ⟨_, p, vs, e0, e1, e2, hq, t⟩ := R.litems (.loc (E.pre _ _ ha)) hl
      cases e0
      cases e1
      obtain ⟨_, p, ws, e0, e1, e2, hq2, t2⟩ := R.litems (.loc (E.pre _ _ hb)) hm
      cases e0
      cases e1
      cases hx : xs[i]? with
      | none =>
        simp only [itNext, hl, hm, hx]
        exact ⟨vs, ws, hq, hq2, .inl (by rw [← t.length]; exact List.getElem?_eq_none_iff.mp hx)⟩
      | some d =>
        cases hy : ys[i]? with
        | none =>
          simp only [itNext, hl, hm, hx, hy]
          exact ⟨vs, ws, hq, hq2, .inr (by rw [← t2.length]; exact List.getElem?_eq_none_iff.mp hy)⟩
        | some d2 =>
          simp only [itNext, hl, hm, hx, hy]
          obtain ⟨v, ev, rv⟩ := t.get hx
          obtain ⟨w, ew, rw⟩ := t2.get hy
          refine ⟨⟨vs, ws, v, w, hq, hq2, ev, ew⟩, fun x H' y => ?_⟩
          obtain ⟨Tp, x1, y1, rfl, hn, rfl, y2, y3⟩ := y
          have z2 := y2 vs hq
          have z3 := y3 ws hq2
          rw [ev] at z2
          rw [ew] at z3
          cases z2
          cases z3
          exact ⟨ext_new hn, R.new hn, .tup upd_same (.cons (RD.mono (ext_new hn) _ _ rv) (.cons (RD.mono (ext_new hn) _ _ rw) .nil))⟩
theorem mi_enum {elts : List Expr} {kk : Nat} {tpos : Pos} (g : XOk X ca fa G T call) (hx : ("enumerate" : Str) ∈ T.blt) (hg : Gl X "enumerate") (ha : MA X ca W [a] ms) (hs : isStarred a = false) : MI_ X ca W (.Tuple elts kk tpos) (.Call (.Name "enumerate" p) [a] [] pos) .enum ms := by
  refine (pi_enum hg (g.gno _ hx) ha (star_one hs)).imp fun σ H R ⟨ro, S, en, A, h⟩ => ?_
  refine ⟨ro, S, en, A, h.imp fun ds H1 r1 ⟨S1, it, n, A1, hk, g⟩ vs r => ?_⟩
  obtain ⟨l, rfl, rfl, hl⟩ := itMk_enum hk
  obtain ⟨v, rfl, rv⟩ : ∃ v, vs = [v] ∧ RD H1 r1 (.loc l) v := by
    cases r with
    | cons r1 r2 => cases r2; exact ⟨_, rfl, r1⟩
  obtain ⟨xs, hx, _⟩ := isL_some hl
  obtain ⟨_, q, vs, e0, rfl, e2, hq, t⟩ := A1.st.litems rv hx
  cases e0
  exact ⟨q, vs, rfl, hq, g _ _ (Ext.refl _ _) A1.st (goes_enum e2)⟩
theorem mi_zip {elts : List Expr} {kk : Nat} {tpos : Pos} (g : XOk X ca fa G T call) (hx : ("zip" : Str) ∈ T.blt) (hg : Gl X "zip") (ha : MA X ca W [a, b] ms) (hs : isStarred a = false) (hs2 : isStarred b = false) : MI_ X ca W (.Tuple elts kk tpos) (.Call (.Name "zip" p) [a, b] [] pos) .zip ms := by
  refine (pi_zip hg (g.gno _ hx) ha (by rw [star_cons hs]) (by rw [star_cons hs2]; rfl)).imp fun σ H R ⟨ro, S, en, A, h⟩ => ?_
  refine ⟨ro, S, en, A, h.imp fun ds H1 r1 ⟨S1, it, n, A1, hk, g⟩ vs r => ?_⟩
  obtain ⟨l, m, _, _, rfl, rfl, hl, hm⟩ := itMk_zip hk
  obtain ⟨v, w, rfl, rv, rw⟩ : ∃ v w, vs = [v, w] ∧ RD H1 r1 (.loc l) v ∧ RD H1 r1 (.loc m) w := by
    cases r with
    | cons r1 r2 => cases r2 with
      | cons r2 r3 => cases r3; exact ⟨_, _, rfl, r1, r2⟩
  obtain ⟨xs, hx, _⟩ := isL_some hl
  obtain ⟨ys, hy, _⟩ := isL_some hm
  obtain ⟨_, q, vs, e0, rfl, e2, hq, t⟩ := A1.st.litems rv hx
  cases e0
  obtain ⟨_, q2, ws, e0, rfl, e3, hq2, t2⟩ := A1.st.litems rw hy
  cases e0
  exact ⟨q, q2, vs, ws, rfl, hq, hq2, g _ _ (Ext.refl _ _) A1.st (goes_zip e2 e3)⟩
end
end
end MI

/-! MI, 14: statements. -/
namespace MI
open PySem PySem.Spec PyProof.Rows L2

def PostS (K : PySem.W.Frag) (ca : CA) (H : Hp) (ro : List Addr) (r : SR) (D : Ends) (W : WX) : Prop := match r with
  | .nx e S => ∀ (H' : Hp) (ro' : List Addr) (σ' : L2.St), Ext H ro H' ro' → At K ca e σ' ro' S H' → D.nx σ' H'
  | .ret d S => ∀ (H' : Hp) (ro' : List Addr), Ext H ro H' ro' → StR K ca ro' S H' → ∀ v, RD H' ro' d v → D.rt v H'
  | .brk e S => ∀ (H' : Hp) (ro' : List Addr) (σ' : L2.St), Ext H ro H' ro' → At K ca e σ' ro' S H' → D.bk σ' H'
  | .cnt e S => ∀ (H' : Hp) (ro' : List Addr) (σ' : L2.St), Ext H ro H' ro' → At K ca e σ' ro' S H' → D.ct σ' H'
  | .exc c e S => ∀ (H' : Hp) (ro' : List Addr) (σ' : L2.St), Ext H ro H' ro' → At K ca e σ' ro' S H' → W (.ref (ca c)) none σ' H'
  | .bad => False
def tS (K : PySem.W.Frag) (ca : CA) (W : WX) (m : Env → Store → SR) : TS := fun D σ H => ∃ ro S en, At K ca en σ ro S H ∧ PostS K ca H ro (m en S) D W
section
variable {K : PySem.W.Frag} {ca : CA} {H H1 : Hp} {ro r1 : List Addr} {S : Store} {en : Env} {σ : L2.St} {W : WX} {D D' : Ends}
theorem PostS.ext {r : SR} (h : PostS K ca H ro r D W) (E : Ext H ro H1 r1) : PostS K ca H1 r1 r D W := by
  cases r with
  | nx e S => exact fun H' ro' σ' E' A => h H' ro' σ' (E.trans E') A
  | ret d S => exact fun H' ro' E' A => h H' ro' (E.trans E') A
  | brk e S => exact fun H' ro' σ' E' A => h H' ro' σ' (E.trans E') A
  | cnt e S => exact fun H' ro' σ' E' A => h H' ro' σ' (E.trans E') A
  | exc c e S => exact fun H' ro' σ' E' A => h H' ro' σ' (E.trans E') A
  | bad => exact h
/-- a value, then what is behind it -/
theorem PostS.sr {m : R MI.D} {f : MI.D → Store → SR} (A : At K ca en σ ro S H) (h : PostS K ca H ro (m.sr en f) D W) :
    Post K ca H ro m (fun d H' ro' => ∃ S', Ext H ro H' ro' ∧ At K ca en σ ro' S' H' ∧ PostS K ca H' ro' (f d S') D W) (Wm ca W σ) := by
  cases m with
  | ok d S' => exact fun H' ro' E' R' => ⟨S', E', ⟨R', A.er.mono E'⟩, PostS.ext (H := H) (ro := ro) h E'⟩
  | exc c S' => exact fun H' ro' E' R' => h H' ro' σ E' ⟨R', A.er.mono E'⟩
  | bad => exact h
theorem tM.sr {m : Env → Store → R MI.D} {f : MI.D → Store → SR} (A : At K ca en σ ro S H) (h : PostS K ca H ro ((m en S).sr en f) D W) :
    tM K ca W m σ H fun x H1 => ∃ r1 S1 d, At K ca en σ r1 S1 H1 ∧ Ext H ro H1 r1 ∧ RD H1 r1 d x ∧ PostS K ca H1 r1 (f d S1) D W :=
  ⟨ro, S, en, A, (h.sr A).imp fun d H' ro' ⟨S', E, A', q⟩ v r => ⟨ro', S', d, A', E, r, q⟩⟩
end
section
variable {X : Cx} {ca : CA} {fa : Nat → Addr} {G : Prog} {T : Tab} {call : Nat → List D → Store → R D} {W : WX} {e c o i : Expr} {st : Stmt} {sts rest : List Stmt} {pos p : Pos} {m mc mo mi : Env → Store → R D} {ma mb : Env → Store → SR} {ms : Env → Store → R (List D)}
abbrev MS (X : Cx) (ca : CA) (W : WX) (st : Stmt) (m : Env → Store → SR) : Prop := PS X st (tS X.K ca W m)
abbrev MSs (X : Cx) (ca : CA) (W : WX) (st : List Stmt) (m : Env → Store → SR) : Prop := PSs X st (tS X.K ca W m)
theorem mss_nil : MSs X ca W [] (fun e S => .nx e S) := pss_nil.imp fun D σ H ⟨ro, S, en, A, h⟩ => h H ro σ (Ext.refl _ _) A
theorem mss_cons (h1 : MS X ca W st ma) (h2 : MSs X ca W rest mb) : MSs X ca W (st :: rest) (fun e S => match ma e S with | .nx e S => mb e S | r => r) := by
  refine (pss_cons h1 h2).imp fun D σ H ⟨ro, S, en, A, h⟩ => ⟨ro, S, en, A, ?_⟩
  dsimp only at h
  cases em : ma en S with
  | nx e1 S1 =>
    rw [em] at h
    exact fun H' ro' σ' E' A' => ⟨ro', S1, e1, A', PostS.ext (H := H) (ro := ro) h E'⟩
  | ret d S1 => rw [em] at h; exact h
  | brk e1 S1 => rw [em] at h; exact h
  | cnt e1 S1 => rw [em] at h; exact h
  | exc c e1 S1 => rw [em] at h; exact h
  | bad => rw [em] at h; exact h
theorem ms_pass : MS X ca W (.Pass pos) (fun e S => .nx e S) := ps_pass.imp fun D σ H ⟨ro, S, en, A, h⟩ => h H ro σ (Ext.refl _ _) A
theorem ms_break : MS X ca W (.Break pos) (fun e S => .brk e S) := ps_break.imp fun D σ H ⟨ro, S, en, A, h⟩ => h H ro σ (Ext.refl _ _) A
theorem ms_continue : MS X ca W (.Continue pos) (fun e S => .cnt e S) := ps_continue.imp fun D σ H ⟨ro, S, en, A, h⟩ => h H ro σ (Ext.refl _ _) A
theorem ms_doc {x : Str} {j : Nat} {p2 : Pos} : MS X ca W (.Expr (.Constant (.str x) j p2) pos) (fun e S => .nx e S) := ps_doc.imp fun D σ H ⟨ro, S, en, A, h⟩ => h H ro σ (Ext.refl _ _) A
theorem ms_expr (he : ME X ca W e m) (hc : isComp e = false) : MS X ca W (.Expr e pos) (fun e S => (m e S).sr e fun _ S => .nx e S) := by
  refine (ps_expr he (swaps_of hc)).imp fun D σ H ⟨ro, S, en, A, h⟩ => ?_
  obtain ⟨ro, S, e2, A, h⟩ := tM.sr A h
  refine ⟨ro, S, e2, A, h.imp fun d H1 r1 z x r => ?_⟩
  obtain ⟨r1, S1, d1, A1, E1, rd, p⟩ := z x r
  exact p _ _ _ (Ext.refl _ _) A1
theorem ms_ret (he : ME X ca W e m) : MS X ca W (.Return (some e) pos) (fun e S => (m e S).sr e fun d S => .ret d S) := by
  refine (ps_ret he).imp fun D σ H ⟨ro, S, en, A, h⟩ => ?_
  obtain ⟨ro, S, e2, A, h⟩ := tM.sr A h
  refine ⟨ro, S, e2, A, h.imp fun d H1 r1 z x r => ?_⟩
  obtain ⟨r1, S1, d1, A1, E1, rd, p⟩ := z x r
  exact p _ _ (Ext.refl _ _) A1.st _ rd
theorem ms_retN : MS X ca W (.Return none pos) (fun e S => .ret .non S) := ps_retN.imp fun D σ H ⟨ro, S, en, A, h⟩ => h H ro (Ext.refl _ _) A.st _ .non
theorem ms_if {a b : List Stmt} (hc : MT X ca W c (sB mc)) (ha : MSs X ca W a ma) (hb : MSs X ca W b mb) : MS X ca W (.If c a b pos) (fun e S => match asB (mc e S) with
    | .ok true S => ma e S
    | .ok false S => mb e S
    | .exc c S => .exc c e S
    | .bad => .bad) := by
  refine (ps_if hc ha hb).imp fun D σ H ⟨ro, S, en, A, h⟩ => ⟨ro, S, en, A, ?_⟩
  dsimp only at h
  cases em : asB (mc en S) with
  | ok t S1 =>
    rw [em] at h
    have e0 : sB mc en S = .ok t S1 := em
    rw [e0]
    intro H' ro' E' R'
    have A' : At X.K ca en σ ro' S1 H' := ⟨R', A.er.mono E'⟩
    cases t with
    | true => exact ⟨ro', S1, en, A', PostS.ext (H := H) (ro := ro) h E'⟩
    | false => exact ⟨ro', S1, en, A', PostS.ext (H := H) (ro := ro) h E'⟩
  | exc c S1 =>
    rw [em] at h
    have e0 : sB mc en S = .exc c S1 := em
    rw [e0]
    exact fun H' ro' E' R' => h H' ro' σ E' ⟨R', A.er.mono E'⟩
  | bad => rw [em] at h; exact h.elim
theorem ms_while {b : List Stmt} (hp : PassesOwn (model X.prog X.w) X.A X.env X.xe) (hc : MT X ca W c (sB mc)) (hb : MSs X ca W b mb) (n : Nat) : MS X ca W (.While c b [] pos) (fun e S => whileGo mc mb n e S) := by
  refine (ps_while hp hc hb).imp fun D σ H ⟨ro, S, en, A, h⟩ => ?_
  refine ⟨fun m σ' H' => ∃ r' S' e', At X.K ca e' σ' r' S' H' ∧ Ext H ro H' r' ∧ PostS X.K ca H' r' (whileGo mc mb m e' S') D W, ⟨n, ro, S, en, A, Ext.refl _ _, h⟩, ?_⟩
  rintro m σ1 H1 ⟨r1, S1, e1, A1, E1, h1⟩
  refine ⟨r1, S1, e1, A1, ?_⟩
  cases m with
  | zero => exact h1.elim
  | succ m =>
    unfold whileGo at h1
    cases em : asB (mc e1 S1) with
    | ok t S2 =>
      rw [em] at h1
      have e0 : sB mc e1 S1 = .ok t S2 := em
      rw [e0]
      intro H2 r2 E2 R2
      have A2 : At X.K ca e1 σ1 r2 S2 H2 := ⟨R2, A1.er.mono E2⟩
      cases t with
      | false => exact h1 H2 r2 σ1 E2 A2
      | true =>
        refine ⟨fun σ' H' => ∃ r' S' e', At X.K ca e' σ' r' S' H' ∧ Ext H ro H' r' ∧ PostS X.K ca H' r' (whileGo mc mb m e' S') D W, fun σ' H' q => ⟨m, Nat.lt_succ_self _, q⟩, r2, S2, e1, A2, ?_⟩
        dsimp only at h1
        cases eb : mb e1 S2 with
        | nx e3 S3 =>
          rw [eb] at h1
          exact fun H3 r3 σ3 E3 A3 => ⟨r3, S3, e3, A3, (E1.trans E2).trans E3, PostS.ext (H := H1) (ro := r1) h1 (E2.trans E3)⟩
        | cnt e3 S3 =>
          rw [eb] at h1
          exact fun H3 r3 σ3 E3 A3 => ⟨r3, S3, e3, A3, (E1.trans E2).trans E3, PostS.ext (H := H1) (ro := r1) h1 (E2.trans E3)⟩
        | brk e3 S3 =>
          rw [eb] at h1
          exact fun H3 r3 σ3 E3 A3 => h1 H3 r3 σ3 (E2.trans E3) A3
        | ret d S3 =>
          rw [eb] at h1
          exact fun H3 r3 E3 A3 => h1 H3 r3 (E2.trans E3) A3
        | exc c e3 S3 =>
          rw [eb] at h1
          exact fun H3 r3 σ3 E3 A3 => h1 H3 r3 σ3 (E2.trans E3) A3
        | bad => rw [eb] at h1; exact h1.elim
    | exc c S2 =>
      rw [em] at h1
      have e0 : sB mc e1 S1 = .exc c S2 := em
      rw [e0]
      exact fun H' ro' E' R' => h1 H' ro' σ1 E' ⟨R', A1.er.mono E'⟩
    | bad => rw [em] at h1; exact h1.elim
/-- for over what MI walks -/
abbrev sFor (k : IK) (ms : Env → Store → R (List D)) (t : CT) (mb : Env → Store → SR) : Env → Store → SR := fun e S => match ms e S with
    | .ok ds S => (match itMk k ds S with
      | some (it, n) => forGo it (bindT t) mb n 0 e (itIn it S)
      | none => .bad)
    | .exc c S => .exc c e S
    | .bad => .bad
theorem ms_for {iter tg : Expr} {b : List Stmt} {k : IK} {t : CT} (hp : PassesOwn (model X.prog X.w) X.A X.env X.xe) (hc : X.calm = true) (hi : MI_ X ca W tg iter k ms) (hg : PG X tg (gM X.K ca t)) (hb : MSs X ca W b mb) (hs : isSet iter = false) :
    MS X ca W (.For tg iter b [] pos) (sFor k ms t mb) := by
  refine (ps_for hp hc hi hg hb (iter_of hs)).imp fun D σ H ⟨ro, S, en, A, h⟩ => ⟨ro, S, en, A, ?_⟩
  unfold sFor at h
  cases em : ms en S with
  | bad => rw [em] at h; exact h.elim
  | exc c S1 =>
    rw [em] at h
    exact fun H' ro' E' R' => h H' ro' σ E' ⟨R', A.er.mono E'⟩
  | ok ds S1 =>
    rw [em] at h
    intro H1 r1 E1 R1
    dsimp only at h
    split at h
    · rename_i it n hk
      refine ⟨S1, it, n, ⟨R1, A.er.mono E1⟩, hk, fun J H2 E2 R2 go => ?_⟩
      refine ⟨fun i m σ' H' => ∃ r' S' e', At X.K ca e' σ' r' S' H' ∧ Ext H2 r1 H' r' ∧ PostS X.K ca H' r' (forGo it (bindT t) mb m i e' S') D W, ⟨n, r1, _, en, ⟨R2, A.er.mono (E1.trans E2)⟩, Ext.refl _ _, PostS.ext (H := H) (ro := ro) h (E1.trans E2)⟩, ?_⟩
      rintro i m σ3 H3 ⟨r3, S3, e3, A3, E3, h3⟩
      have g3 := go H3 r3 S3 i E3 A3.st
      unfold forGo at h3
      split at h3
      · exact h3.elim
      · rename_i hn
        rw [hn] at g3
        exact .inl ⟨g3, h3 H3 r3 σ3 (Ext.refl _ _) A3⟩
      · rename_i d hn
        rw [hn] at g3
        obtain ⟨g3, y3⟩ := g3
        cases m with
        | zero => exact h3.elim
        | succ m =>
          refine .inr ⟨g3, fun σ' H' => ∃ r' S' e', At X.K ca e' σ' r' S' H' ∧ Ext H2 r1 H' r' ∧ PostS X.K ca H' r' (forGo it (bindT t) mb m (i + 1) e' S') D W, fun σ' H' q => ⟨m, Nat.lt_succ_self _, q⟩, fun x H4 y => ?_⟩
          obtain ⟨E4, R4, rd⟩ := y3 x H4 y
          dsimp only at h3
          split at h3
          · exact h3.elim
          · rename_i e4 hbt
            refine ⟨r3, S3, e3, d, e4, ⟨R4, A3.er.mono E4⟩, rd, hbt, fun σ4 A4 _ => ⟨r3, S3, e4, A4, ?_⟩⟩
            cases eb : mb e4 S3 with
            | nx e5 S5 =>
              rw [eb] at h3
              exact fun H5 r5 σ5 E5 A5 => ⟨r5, S5, e5, A5, (E3.trans E4).trans E5, PostS.ext (H := H3) (ro := r3) h3 (E4.trans E5)⟩
            | cnt e5 S5 =>
              rw [eb] at h3
              exact fun H5 r5 σ5 E5 A5 => ⟨r5, S5, e5, A5, (E3.trans E4).trans E5, PostS.ext (H := H3) (ro := r3) h3 (E4.trans E5)⟩
            | brk e5 S5 =>
              rw [eb] at h3
              exact fun H5 r5 σ5 E5 A5 => h3 H5 r5 σ5 (E4.trans E5) A5
            | ret d S5 =>
              rw [eb] at h3
              exact fun H5 r5 E5 A5 => h3 H5 r5 (E4.trans E5) A5
            | exc c e5 S5 =>
              rw [eb] at h3
              exact fun H5 r5 σ5 E5 A5 => h3 H5 r5 σ5 (E4.trans E5) A5
            | bad => rw [eb] at h3; exact h3.elim
    · exact h.elim
theorem ms_asg {tg : Expr} {t : CT} (he : ME X ca W e m) (hg : PG X tg (gM X.K ca t)) (hs : isComp e = false) (hw : swappedStores [tg] e X.env = pure none) (hst : isStarred tg = false) :
    MS X ca W (.Assign [tg] e pos) (fun e S => (m e S).sr e fun d S => match bindT t d e with | some e => .nx e S | none => .bad) := by
  refine (ps_asg he hg (swaps_of hs) hw (by rw [asg_plain hst]; rfl)).imp fun D σ H ⟨ro, S, en, A, h⟩ => ?_
  obtain ⟨ro, S, e2, A, h⟩ := tM.sr A h
  refine ⟨ro, S, e2, A, h.imp fun d H1 r1 z x r => ?_⟩
  obtain ⟨r1, S1, d1, A1, E1, rd, p⟩ := z x r
  split at p
  · rename_i e3 hb
    exact ⟨r1, S1, _, d1, e3, A1, rd, hb, fun σ' A' _ => p _ _ _ (Ext.refl _ _) A'⟩
  · exact p.elim

/-! ### stores -/
theorem ms_aug {i : Nat} {x : Str} {op : Operator} {f : P} {px : Pos} {g : Int → Int → Int} (hN : X.N.Nodup) (hi : X.N[i]? = some x) (hx : Loc X.env.scope x) (hf : X.fn x = true ∨ X.env.scope.names.lookup x = some .local) (he : ME X ca W e m) (hg : PIp X op (ipI g)) (heq : ∀ a b, augF f a b = some (g a b)) :
    MS X ca W (.AugAssign (.Name x px) op e pos) (fun e S => match e[i]? with
    | some (some d) => (m e S).sr e fun y S => match d, y with
      | .int a, .int b => (match augF f a b with
        | some c => .nx (e.set i (some (.int c))) S
        | none => .bad)
      | _, _ => .bad
    | _ => .bad) := by
  refine (ps_aug hN hi hx he hg hf).imp fun D σ H ⟨ro, S, en, A, h⟩ => ?_
  dsimp only at h
  split at h
  · rename_i d hd
    obtain ⟨v, ev, rv⟩ := A.er.get hd
    refine ⟨v, ev, ?_⟩
    obtain ⟨ro, S, e2, A, h⟩ := tM.sr A h
    refine ⟨ro, S, e2, A, h.imp fun d1 H1 r1 z x r => ?_⟩
    obtain ⟨r1, S1, d1, A1, E1, rd, p⟩ := z x r
    split at p
    · rw [heq] at p
      obtain rfl := rv.int_inv
      obtain rfl := rd.int_inv
      exact ⟨_, _, rfl, rfl, p _ _ _ (Ext.refl _ _) ⟨A1.st, A1.er.set (.int _)⟩⟩
    · exact p.elim
  · exact h.elim
theorem ms_fld (g : XOk X ca fa G T call) {f : Str} {p2 : Pos} (ho : ME X ca W o mo) (hv : ME X ca W e m) (hs : isComp e = false) :
    MS X ca W (.Assign [.Attribute o f p2] e pos) (fun e S => (m e S).sr e fun v S => (mo e S).sr e fun o S => match o with
    | .loc l => (match S[l]? with
      | some (.ins c fs) => if fs.length < 900 ∧ G.fld c f = true then .nx e (S.set l (.ins c (fput f v fs))) else .bad
      | _ => .bad)
    | _ => .bad) := by
  refine (ps_fld ho hv (swaps_of hs)).imp fun D σ H ⟨ro, S, en, A, h⟩ => ?_
  obtain ⟨ro, S, e2, A, h⟩ := tM.sr A h
  refine ⟨ro, S, e2, A, h.imp fun d1 H1 r1 z y r => ?_⟩
  obtain ⟨r1, S1, d1, A1, E1, rd, p⟩ := z y r
  obtain ⟨ro, S, e3, A, h⟩ := tM.sr A1 p
  refine ⟨ro, S, e3, A, h.imp fun d2 H2 r2 z x r => ?_⟩
  obtain ⟨r2, S2, d2, A2, E2, rd2, p⟩ := z x r
  split at p
  · rename_i l
    split at p
    · rename_i c fs hS
      split at p
      · rename_i hlf
        obtain ⟨q, rfl, eq⟩ := rd2.loc_inv
        obtain ⟨dx, gs, e1, fr⟩ := A2.st.obj l q _ eq hS
        obtain ⟨hc, hn⟩ := g.fld _ _ hlf.2
        have hl : gs.length < 1000 := by
          have z : fs.length = gs.length := Paired.length fr
          omega
        have rd' := RD.mono E2 _ _ rd
        have E0 : Ext H2 r2 (upd H2 q (.ins (ca c) dx (putF f y gs))) r2 := ⟨fun _ _ h => h, fun b xs z => by
          have hb : b ≠ q := fun z2 => by
            subst z2
            rw [e1] at z
            cases z
          rw [upd_ne hb]
          exact z, fun b ob w z => by
          have hb : b ≠ q := fun z2 => by
            subst z2
            rw [e1] at z
            cases z
          rw [upd_ne hb]
          exact z⟩
        obtain ⟨R', E⟩ := A2.st.put (o := .ins (ca c) dx (putF f y gs)) (u := .ins c (fput f d1 fs)) eq hS rfl ⟨dx, putF f y gs, upd_same, (fr.put f rd').mono E0⟩
        exact ⟨q, _, dx, gs, rfl, e1, hc, hn, hl, p _ _ _ E ⟨R', A2.er.mono E⟩⟩
      · exact p.elim
    · exact p.elim
  · exact p.elim
/-- a raise of an own error -/
theorem ms_raise {C : Addr} {bmB : List Value} {B newId initId : String} {x msg : Str} {j cx : Nat} {p1 p2 p3 : Pos} (hc : X.calm = true) (tk : Takes X W) (F : ExcBaseFacts B newId initId bmB) (q : PySem.W.excIn X.K (ca cx) bmB newId = true) (gC : X.mg x = some (.ref (ca cx))) (kC : PySem.W.keepIn X.K (.ref (ca cx)) = true)
    (r : Raises X (.ref (ca cx))) (hg : Gl X x) (hdb : (x == ("__debug__" : Str)) = false) : MS X ca W (.Raise (some (.Call (.Name x p1) [.Constant (.str msg) j p2] [] p3)) none pos) (fun e S => .exc cx e S) :=
  (ps_raise hc tk (pmk_own F q gC kC r hg hdb)).imp fun D σ H ⟨ro, S, en, A, h⟩ => h H ro σ (Ext.refl _ _) A
/-! ### o[i] = v -/
def rSetM (K : PySem.W.Frag) (ca : CA) : TSet := fun o i v H Q => ∃ ro S d k x en σ, At K ca en σ ro S H ∧ RD H ro d o ∧ RD H ro k i ∧ RD H ro x v ∧ ∃ W : WX, ∃ D : Ends, PostS K ca H ro (setItem d k x en S) D W ∧ ∀ H', D.nx σ H' → Q H'
theorem set_item (hu : X.A.units + 64 < cLine) : PSet X (rSetM X.K ca) := by
  intro pins s σ H o i v ov iv u Q I ro_ ri rv h
  obtain ⟨ro, S, d, k, x, en, σ0, A, rd, rk, rx, W, D, h, hQ⟩ := h
  unfold setItem at h
  split at h
  · rename_i l
    obtain ⟨q, rfl, eq⟩ := rd.loc_inv
    split at h
    · rename_i xs j hS
      split at h
      · rename_i n hn
        obtain rfl := rk.int_inv
        obtain ⟨vs, e1, t⟩ := A.st.obj l q _ eq hS
        have E0 : Ext H ro (upd H q (.lst (vs.set n v))) ro := ⟨fun _ _ h => h, fun b xs z => by
          have hb : b ≠ q := fun z2 => by
            subst z2
            rw [e1] at z
            cases z
          rw [upd_ne hb]
          exact z, fun b ob w z => by
          have hb : b ≠ q := fun z2 => by
            subst z2
            rw [e1] at z
            cases z
          rw [upd_ne hb]
          exact z⟩
        obtain ⟨R', E⟩ := A.st.put (o := .lst (vs.set n v)) (u := .list (xs.set n x)) eq hS rfl ⟨vs.set n v, upd_same, RDs.mono E0 _ _ (RDs.set rx n t)⟩
        exact set_list pins s σ H _ _ v ov iv u Q I ro_ ri rv ⟨q, vs, j, n, rfl, rfl, e1, by rw [← t.length]; exact hn, hQ _ (h _ _ _ E ⟨R', A.er.mono E⟩)⟩
      · exact h.elim
    · rename_i kvs hS
      split at h
      · rename_i ks hk
        split at h
        · rename_i hz
          obtain ⟨ws, e1, kr⟩ := A.st.obj l q _ eq hS
          obtain ⟨b, rfl, eb⟩ := keysOf_rd hk rk
          have hcl := cap_line
          have E0 : Ext H ro (upd H q (.dT (putK ws ks v))) ro := ⟨fun _ _ h => h, fun b xs z => by
            have hb : b ≠ q := fun z2 => by
              subst z2
              rw [e1] at z
              cases z
            rw [upd_ne hb]
            exact z, fun b ob w z => by
            have hb : b ≠ q := fun z2 => by
              subst z2
              rw [e1] at z
              cases z
            rw [upd_ne hb]
            exact z⟩
          obtain ⟨R', E⟩ := A.st.put (o := .dT (putK ws ks v)) (u := .dict false (dput kvs ks x)) eq hS rfl ⟨putK ws ks v, upd_same, (kr.put ks rx).mono E0⟩
          cases (show ov = Value.ref q from ro_)
          refine d_setItem (A := X.A) (by omega) I (DPut.t (v := v) e1 eb (by rw [← kr.length]; omega)) ri rv fun s' I' => ⟨_, I', hQ _ (h _ _ _ E ⟨R', A.er.mono E⟩)⟩
        · exact h.elim
      · exact h.elim
    · exact h.elim
  · exact h.elim
end
end MI

/-! MI, 15: further statements. -/
namespace MI
open PySem PySem.Spec PyProof.Rows L2

def isSlice : Expr → Bool
  | .Slice _ _ _ _ => true
  | _ => false
theorem sole_of {e t : Expr} {l : Nat} {env : PySem.Env} (h : isComp e = false) : swapsWithSole [t] e l env = pure false := swaps_of h
theorem plainIx_of {e : Expr} (h : isSlice e = false) : PlainIx e := by
  intro o i
  cases e <;> first | rfl | cases h
section
variable {X : Cx} {ca : CA} {fa : Nat → Addr} {G : Prog} {T : Tab} {call : Nat → List D → Store → R D} {W : WX} {e c o i : Expr} {st : Stmt} {sts rest : List Stmt} {pos p : Pos} {m mc mo mi : Env → Store → R D} {ma mb : Env → Store → SR} {ms : Env → Store → R (List D)}
theorem sub_asg {env : PySem.Env} (h : isSlice i = false) (v : Value) : assign (.Subscript o i p) env v = (do
      let ov ← holding [v] (PySem.eval o env)
      let iv ← holding [v, ov] (PySem.eval i env)
      standAt p
      holding [v, ov, iv] (PySem.setItem ov iv v)
      release [v, ov, iv] []) := by
  cases i <;> first | rfl | cases h
theorem ms_setSub (hu : X.A.units + 64 < cLine) (ho : ME X ca W o mo) (hi : ME X ca W i mi) (he : ME X ca W e m) (hs : isComp e = false) (hsl : isSlice i = false) (hw : swappedStores [.Subscript o i p] e X.env = pure none) :
    MS X ca W (.Assign [.Subscript o i p] e pos) (fun e S => (m e S).sr e fun v S => (mo e S).sr e fun o S => (mi e S).sr e fun i S => setItem o i v e S) := by
  refine (ps_asg he (pg_sub ho hi (set_item (ca := ca) hu) (sub_asg hsl)) (sole_of hs) hw (by rw [asg_plain rfl]; rfl)).imp fun D σ H ⟨ro, S, en, A, h⟩ => ?_
  obtain ⟨ro, S, e2, A, h⟩ := tM.sr A h
  refine ⟨ro, S, e2, A, h.imp fun d1 H1 r1 z y r => ?_⟩
  obtain ⟨r1, S1, d1, A1, E1, rd, p⟩ := z y r
  obtain ⟨ro, S, e3, A, h⟩ := tM.sr A1 p
  refine ⟨ro, S, e3, A, h.imp fun d2 H2 r2 z x r => ?_⟩
  obtain ⟨r2, S2, d2, A2, E2, rd2, p⟩ := z x r
  obtain ⟨ro, S, e4, A, h⟩ := tM.sr A2 p
  refine ⟨ro, S, e4, A, h.imp fun d3 H3 r3 z w r => ?_⟩
  obtain ⟨r3, S3, d3, A3, E3, rd3, p⟩ := z w r
  exact ⟨r3, S3, d2, d3, d1, en, σ, A3, RD.mono E3 _ _ rd2, rd3, RD.mono (E2.trans E3) _ _ rd, W, D, p, fun _ z => z⟩
def rGetM (K : PySem.W.Frag) (ca : CA) : V → V → Hp → VK → Prop := fun x y H Q => ∃ ro S a b d, StR K ca ro S H ∧ RD H ro a x ∧ RD H ro b y ∧ itemL a b S = some d ∧ ∀ v, RD H ro d v → Q v H
theorem get_item : PGet X (rGetM X.K ca) := by
  intro pins s σ H x y v u Q I rx ry h
  obtain ⟨ro, S, a, b, d, R, r1, r2, e, k⟩ := h
  unfold itemL at e
  split at e
  · rename_i xs j hw
    split at e
    · rename_i n hn
      obtain ⟨_, p, vs, _, rfl, _, _, e1, t⟩ := R.witems r1 hw
      obtain rfl := r2.int_inv
      obtain ⟨z, ez, rz⟩ := atI_of t hn e
      cases rx
      obtain ⟨tk, rfl⟩ := ry
      obtain ⟨its, r, pl, hz⟩ := I.list (SqL.of e1)
      obtain ⟨j2, h1, h2, h3, h4, h5⟩ := atI_get ez
      obtain ⟨w, ew, rw'⟩ := r.get h2
      have hl := r.length
      have hn := line63
      have fin : EP X pins σ Q w s := ⟨z, H, I, rw', k _ rz⟩
      by_cases h0 : 0 ≤ j
      · have hj : j.toNat = j2 := by
          rw [seqIndex_of h0 h5] at h1
          exact Option.some.inj h1
        exact wpAny_getItem_list pl.isList h0 (by omega) (by rw [hj]; simpa using ew) fin
      · have hj : (j + (its.toArray.size : Int)).toNat = j2 := by
          rw [seqIndex_neg (by omega) h4] at h1
          rw [List.size_toArray, ← hl]
          exact Option.some.inj h1
        exact wpAny_getItem_list_neg pl.isList (by omega) (by rw [List.size_toArray] <;> omega) (by omega) (by rw [hj]; simpa using ew) fin
    · cases e
  · cases e
theorem aug_store (h : isSlice i = false) (ov iv new : Value) : augStore i ov iv new = (do holding [new, ov, iv] (PySem.setItem ov iv new); release [new, ov, iv] []; pure .next) := by
  cases i <;> first | rfl | cases h
theorem ms_augSub {op : Operator} {f : P} {tpos : Pos} {g : Int → Int → Int} (hu : X.A.units + 64 < cLine) (ho : ME X ca W o mo) (hi : ME X ca W i mi) (he : ME X ca W e m) (hsl : isSlice i = false) (hg : PIp X op (ipI g)) (heq : ∀ a b, augF f a b = some (g a b)) :
    MS X ca W (.AugAssign (.Subscript o i tpos) op e pos) (fun e S => (mo e S).sr e fun o S => (mi e S).sr e fun i S => match itemL o i S with
    | none => .bad
    | some old => (m e S).sr e fun y S => match old, y with
      | .int a, .int b => (match augF f a b with
        | some c => setItem o i (.int c) e S
        | none => .bad)
      | _, _ => .bad) := by
  refine (ps_augS ho hi (get_item (ca := ca)) he hg (set_item (ca := ca) hu) (aug_store hsl)).imp fun D σ H ⟨ro, S, en, A, h⟩ => ?_
  obtain ⟨ro, S, e2, A, h⟩ := tM.sr A h
  refine ⟨ro, S, e2, A, h.imp fun d1 H1 r1 z y r => ?_⟩
  obtain ⟨r1, S1, d1, A1, E1, rd, p⟩ := z y r
  obtain ⟨ro, S, e3, A, h⟩ := tM.sr A1 p
  refine ⟨ro, S, e3, A, h.imp fun d2 H2 r2 z x r => ?_⟩
  obtain ⟨r2, S2, d2, A2, E2, rd2, p⟩ := z x r
  split at p
  · exact p.elim
  · rename_i old hold
    refine ⟨r2, S2, d1, d2, old, A2.st, RD.mono E2 _ _ rd, rd2, hold, fun v rv => ?_⟩
    obtain ⟨ro, S, e4, A, h⟩ := tM.sr A2 p
    refine ⟨ro, S, e4, A, h.imp fun d3 H3 r3 z w r => ?_⟩
    obtain ⟨r3, S3, d3, A3, E3, rd3, p⟩ := z w r
    split at p
    · rename_i a b
      rw [heq] at p
      obtain rfl := rv.int_inv
      obtain rfl := rd3.int_inv
      exact ⟨_, _, rfl, rfl, r3, S3, d1, d2, _, en, σ, A3, RD.mono (E2.trans E3) _ _ rd, RD.mono E3 _ _ rd2, .int _, W, D, p, fun _ z => z⟩
    · exact p.elim
end
end MI

/-! MI, 16: comprehensions, several names at once. -/
namespace MI
open PySem PySem.Spec PyProof.Rows L2

theorem wipe_at {i : Nat} : ∀ (vs : List Nat) (σ : L2.St), i ∈ vs → (L2.wipe σ vs).set i none = L2.wipe σ vs
  | [], _, h => by cases h
  | w :: vs, σ, h => by
    unfold L2.wipe
    by_cases e : i = w
    · subst e
      rw [List.set_set]
    · rw [List.set_comm _ _ (fun z => e z.symm), wipe_at vs σ ((List.mem_cons.mp h).resolve_left e)]
theorem wipe_sub (vs : List Nat) (σ : L2.St) : ∀ ws : List Nat, (∀ i ∈ ws, i ∈ vs) → L2.wipe (L2.wipe σ vs) ws = L2.wipe σ vs
  | [], _ => rfl
  | w :: ws, h => by
    have ih := wipe_sub vs σ ws fun i hi => h i (List.mem_cons_of_mem _ hi)
    show (L2.wipe (L2.wipe σ vs) ws).set w none = _
    rw [ih, wipe_at vs σ (h w List.mem_cons_self)]
abbrev NoWX : WX := fun _ _ _ _ => False
abbrev sTurn (t : CT) (vs : List Nat) (mt : Env → Store → R Bool) (me : Env → Store → R D) (e : Env) : D → Store → R (Option D) := fun x S => match bindT t x (wipeE e vs) with
  | none => .bad
  | some e1 => (mt e1 S).bind fun b S => if b then (me e1 S).bind fun y S => .ok (some y) S else .ok none S
abbrev sComp (vs : List Nat) (k : IK) (ms : Env → Store → R (List D)) (t : CT) (mt : Env → Store → R Bool) (me : Env → Store → R D) : Env → Store → R D := fun e S => (ms e S).bind fun ds S => match itMk k ds S with
    | none => .bad
    | some (it, n) => noExc ((compGo it S.length (sTurn t vs mt me e) n 0 (itIn it S ++ [.list []])).bind fun _ S1 => .ok (.loc S.length) S1)
theorem itIn_len (it : MI.It) (S : Store) : (itIn it S).length = S.length := by
  cases it <;> first | rfl | skip
  simp only [itIn]
  split
  · rw [List.length_set]
  · rfl
section
variable {K : PySem.W.Frag} {ca : CA} {H H1 : Hp} {ro r1 : List Addr} {S : Store}
theorem Post.noExc {A : Type} {m : R A} {g : A → Hp → List Addr → Prop} {w w' : Nat → Hp → Prop} (h : Post K ca H ro (MI.noExc m) g w) : Post K ca H ro m g w' := by
  cases m with
  | ok a S => exact h
  | exc c S => exact False.elim h
  | bad => exact h
theorem Goes.mono {it : MI.It} {J : L2.It} (h : Goes K ca H ro it J) (E : Ext H ro H1 r1) : Goes K ca H1 r1 it J := fun H' ro' S i E' R => h H' ro' S i (E.trans E') R
end
section
variable {X : Cx} {ca : CA} {W : WX} {t : CT} {vs : List Nat} {k : IK} {ms : Env → Store → R (List D)} {mt : Env → Store → R Bool} {me : Env → Store → R D}
theorem tM.comp {σ : L2.St} {H : Hp} {Q : VK} (hk : ∀ i ∈ namesT t, i ∈ vs) (h : tM X.K ca W (sComp vs k ms t mt me) σ H Q) :
    tLc (tI X.K ca W k ms) (gM X.K ca t) (tMt X.K ca NoWX mt) (tM X.K ca NoWX me) vs σ H Q := by
  obtain ⟨ro, S, en, A, h⟩ := h
  have h := Post.seq (show Post X.K ca H ro ((ms en S).bind _) (goodV Q) (Wm ca W σ) from h)
  refine ⟨ro, S, en, A, h.imp fun ds H1 r1 ⟨S1, E1, R1, p⟩ => ?_⟩
  split at p
  · exact p.elim
  · rename_i it n hi
    refine ⟨S1, it, n, ⟨R1, A.er.mono E1⟩, hi, fun J H2 E2 R2 go Da hD => ?_⟩
    have p := (Post.noExc (w' := NoW) p).ext E2
    have hlen : (itIn it S1).length = S1.length := itIn_len it S1
    have E0 : Ext H2 r1 (upd H2 Da (.lst [])) (r1 ++ [Da]) := ⟨fun n a q => by
      rw [List.getElem?_append_left (List.getElem?_eq_some_iff.mp q).1]
      exact q, (ext_new (ro := r1) hD).tup, (ext_new (ro := r1) hD).frz⟩
    obtain ⟨R3, E3⟩ := R2.push (o := .lst []) (u := .list []) hD ⟨[], upd_same, .nil⟩ rfl
    have hl3 : (r1 ++ [Da])[S1.length]? = some Da := by
      rw [← hlen, ← R2.len, List.getElem?_append_right (Nat.le_refl _), Nat.sub_self]
      rfl
    have er3 : ER (upd H2 Da (.lst [])) (r1 ++ [Da]) en σ := A.er.mono ((E1.trans E2).trans E3)
    have go3 := go.mono E3
    have p3 := p.ext E3
    refine ⟨fun i m H' => ∃ r' S', StR X.K ca r' S' H' ∧ Ext (upd H2 Da (.lst [])) (r1 ++ [Da]) H' r' ∧ Post X.K ca H' r' ((compGo it S1.length (sTurn t vs mt me en) m i S').bind fun _ S1' => .ok (.loc S1.length) S1') (goodV Q) NoW, ⟨n, _, _, R3, Ext.refl _ _, p3⟩, ?_⟩
    rintro i m H4 ⟨r4, S4, R4, E4, p4⟩
    have g4 := go3 H4 r4 S4 i E4 R4
    have hl4 := E4.pre _ _ hl3
    have er4 : ER H4 r4 en σ := er3.mono E4
    unfold compGo at p4
    split at p4
    · exact p4.elim
    · rename_i hn
      rw [hn] at g4
      exact .inl ⟨g4, Post.here R4 p4 _ (.loc hl4)⟩
    · rename_i d hn
      rw [hn] at g4
      obtain ⟨g4, y4⟩ := g4
      cases m with
      | zero => exact p4.elim
      | succ m =>
        refine .inr ⟨g4, fun H' => ∃ r' S', StR X.K ca r' S' H' ∧ Ext (upd H2 Da (.lst [])) (r1 ++ [Da]) H' r' ∧ Post X.K ca H' r' ((compGo it S1.length (sTurn t vs mt me en) m (i + 1) S').bind fun _ S1' => .ok (.loc S1.length) S1') (goodV Q) NoW, fun H' q => ⟨m, Nat.lt_succ_self _, q⟩, fun x H5 y => ?_⟩
        obtain ⟨E5, R5, rd⟩ := y4 x H5 y
        rw [R.bind_assoc] at p4
        have p5 := p4.ext E5
        unfold sTurn at p5
        split at p5
        · exact p5.elim
        · rename_i e6 hb
          refine ⟨r4, S4, wipeE en vs, d, e6, ⟨R5, (er4.mono E5).wipe vs⟩, rd, hb, fun σ6 A6 K6 => ⟨?_, ?_⟩⟩
          · have z := K6 vs hk
            rw [z, wipe_sub vs σ vs fun i hi => hi]
          · rw [R.bind_assoc] at p5
            obtain ⟨ro7, S7, e7, A7, h7⟩ := tMt.seq (m := mt) (W := NoWX) (σ := σ6) A6 (show Post X.K ca H5 r4 ((mt e6 S4).bind _) (goodV Q) (Wm ca NoWX σ6) from p5)
            refine ⟨ro7, S7, e7, A7, h7.imp fun b H8 r8 ⟨r9, S9, A9, E9, p9⟩ => ?_⟩
            have hl9 := E9.pre _ _ hl4
            cases b with
            | false => exact ⟨r9, S9, A9.st, (E4.trans E5).trans E9, p9⟩
            | true =>
              rw [if_pos rfl, R.bind_assoc] at p9
              obtain ⟨ro, S, e2, A, h⟩ := tM.seq (m := me) (W := NoWX) (σ := σ6) A9 p9
              refine ⟨ro, S, e2, A, h.imp fun d H10 r10 z yv ry => ?_⟩
              obtain ⟨r10, S10, d10, A10, E10, rd10, p10⟩ := z yv ry
              have hl10 := E10.pre _ _ hl9
              obtain ⟨o, hS, ho⟩ := A10.st.at hl10
              have p11 : Post X.K ca H10 r10 (R.bind (match S10[S1.length]? with
                | some (.list acc) => if acc.length < cap then compGo it S1.length (sTurn t vs mt me en) m (i + 1) (S10.set S1.length (.list (acc ++ [d10]))) else .bad
                | _ => .bad) fun _ S1' => .ok (.loc S1.length) S1') (goodV Q) NoW := p10
              rw [hS] at p11
              cases o <;> first | exact (show False from p11).elim | skip
              rename_i acc
              dsimp only at p11
              split at p11
              · rename_i hz
                obtain ⟨ws, e1, t1⟩ := ho
                have hcl := cap_line
                have E0 : Ext H10 r10 (upd H10 Da (.lst (ws ++ [yv]))) r10 := ⟨fun _ _ h => h, fun b xs q => by
                  have hb : b ≠ Da := fun z => by
                    subst z
                    rw [e1] at q
                    cases q
                  rw [upd_ne hb]
                  exact q, fun b ob w q => by
                  have hb : b ≠ Da := fun z => by
                    subst z
                    rw [e1] at q
                    cases q
                  rw [upd_ne hb]
                  exact q⟩
                obtain ⟨R', E⟩ := A10.st.put (o := .lst (ws ++ [yv])) (u := .list (acc ++ [d10])) hl10 hS rfl ⟨ws ++ [yv], upd_same, RDs.mono E0 _ _ (t1.append (.cons rd10 .nil))⟩
                exact ⟨ws, e1, by rw [← t1.length]; omega, r10, _, R', (((E4.trans E5).trans E9).trans E10).trans E, p11.ext E⟩
              · exact p11.elim
end
/-! ### the rules -/
section
variable {X : Cx} {ca : CA} {W : WX} {t : CT} {k : IK} {ms : Env → Store → R (List D)} {mt : Env → Store → R Bool} {me : Env → Store → R D} {elt tg iter : Expr} {ifs : List Expr} {scope : Scope} {own : List (Str × Nat)} {pos : Pos}
theorem me_comp (hc : X.calm = true) (hN : X.N.Nodup) (hi : MI_ X ca W tg iter k ms) (ok : BlkOk X.N X.env.scope scope own)
    (hg : ∀ (s : Shared) (H : Hp) (C : Addr) (cl : List (Str × Addr)) (fp : List Addr), PG (X.blk s H scope (compEnvC scope cl C X.env) fp) tg (gM X.K ca t))
    (ht : ∀ (s : Shared) (H : Hp) (C : Addr) (cl : List (Str × Addr)) (fp : List Addr), PTs (X.blk s H scope (compEnvC scope cl C X.env) fp) ifs (tMt X.K ca NoWX mt))
    (he : ∀ (s : Shared) (H : Hp) (C : Addr) (cl : List (Str × Addr)) (fp : List Addr), PE (X.blk s H scope (compEnvC scope cl C X.env) fp) elt (tM X.K ca NoWX me)) (hs : isSet iter = false) (hk : ∀ i ∈ namesT t, i ∈ own.map (·.2)) :
    ME X ca W (.ListComp elt [⟨tg, iter, ifs, 0⟩] scope pos) (sComp (own.map (·.2)) k ms t mt me) :=
  (pe_lc hc hN hi ok hg ht he (iter_of hs)).imp fun _ _ _ h => h.comp hk
theorem ms_setComp {i : Nat} {y : Str} {py spos : Pos} (hc : X.calm = true) (hN : X.N.Nodup) (hy : X.N[i]? = some y) (hyl : X.env.scope.names.lookup y = some .local) (hkf : X.env.scope.kind = .function) (hline : (py.line == pos.line) = true)
    (ha : (scope.names.any fun (n, k) => n == y && (k == .local || k == .cell)) = false) (hi : MI_ X ca W tg iter k ms) (ok : BlkOk X.N X.env.scope scope own)
    (hg : ∀ (s : Shared) (H : Hp) (C : Addr) (cl : List (Str × Addr)) (fp : List Addr), PG (X.blk s H scope (compEnvC scope cl C X.env) fp) tg (gM X.K ca t))
    (ht : ∀ (s : Shared) (H : Hp) (C : Addr) (cl : List (Str × Addr)) (fp : List Addr), PTs (X.blk s H scope (compEnvC scope cl C X.env) fp) ifs (tMt X.K ca NoWX mt))
    (he : ∀ (s : Shared) (H : Hp) (C : Addr) (cl : List (Str × Addr)) (fp : List Addr), PE (X.blk s H scope (compEnvC scope cl C X.env) fp) elt (tM X.K ca NoWX me)) (hs : isSet iter = false) (hk : ∀ i ∈ namesT t, i ∈ own.map (·.2)) :
    MS X ca W (.Assign [.Name y py] (.ListComp elt [⟨tg, iter, ifs, 0⟩] scope pos) spos) (fun e S => (sComp (own.map (·.2)) k ms t mt me e S).sr e fun d S => match bindT (.name i) d e with | some e => .nx e S | none => .bad) := by
  refine (ps_setLc hc hN hy hyl (sw_true hkf hyl hline ha) hi ok hg ht he (iter_of hs)).imp fun D σ H ⟨ro, S, en, A, h⟩ => ?_
  refine tM.comp (ca := ca) (W := W) hk ?_
  obtain ⟨ro, S, e2, A, h⟩ := tM.sr (m := sComp (own.map (·.2)) k ms t mt me) A h
  refine ⟨ro, S, e2, A, h.imp fun d H1 r1 z x r => ?_⟩
  obtain ⟨r1, S1, d1, A1, E1, rd, p⟩ := z x r
  split at p
  · rename_i e3 hb
    unfold bindT at hb
    split at hb
    · cases hb
      exact p _ _ _ (Ext.refl _ _) ⟨A1.st, A1.er.set rd⟩
    · cases hb
  · exact p.elim
theorem pts_no : PTs X [] (tMt X.K ca W (fun _ S => .ok true S)) := ⟨fun pins s σ H Q I ⟨ro, S, en, A, h⟩ => pts_nil.run pins s σ H Q I (Post.here A.st h)⟩
theorem pts_yes {c : Expr} (h : MT X ca W c mt) : PTs X [c] (tMt X.K ca W mt) := pts_one h
theorem takes_blk {s : Shared} {H : Hp} {cenv : PySem.Env} {fp : List Addr} : Takes (X.blk s H scope cenv fp) NoWX := fun u s' ⟨_, _, _, _, _, _, _, _, _, _, _, _, _, _, _, _, h⟩ => h
end

/-! ### a, b = x, y -/
section
variable {X : Cx} {ca : CA} {W : WX} {ms : Env → Store → R (List D)}
theorem dups_two {x y : Str} (h : ¬ x = y) : ([x, y].eraseDups).length = 2 := by
  have e : (y == x) = false := beq_eq_false_iff_ne.mpr fun z => h z.symm
  simp [List.eraseDups_cons, e]
theorem any_two {a b : Expr} {f : Expr → Bool} (hf : ∀ e, isStarred e = false → f e = false) (ha : isStarred a = false) (hb : isStarred b = false) : ¬ ([a, b].any f) = true := by
  rw [List.any_cons, List.any_cons, hf a ha, hf b hb]
  exact Bool.false_ne_true
theorem sw_two {x y : Str} {px py pt pt2 : Pos} {kt k2 : Nat} {a b : Expr} {env : PySem.Env} (hk : env.scope.kind = .function) (hx : env.scope.names.lookup x = some .local) (hy : env.scope.names.lookup y = some .local) (hl : (py.line == px.line) = true) (hxy : (x == y) = false)
    (sa : isStarred a = false) (sb : isStarred b = false) (hf : ([a, b].all (foldedForSure 8)) = false) (hc : ([a, b].all (constantsAlone 8)) = false) :
    swappedStores [.Tuple [.Name x px, .Name y py] kt pt] (.Tuple [a, b] k2 pt2) env = pure (some [x, y]) := by
  have kx : env.kindOf x = some .local := hx
  have ky : env.kindOf y = some .local := hy
  have hb : env.blockKind = .function := by unfold Env.blockKind; rw [hk]; rfl
  have hxy' : ¬ x = y := by simpa using hxy
  have l1 : (px.line == px.line) = true := beq_self_eq_true _
  have l2 : (some NameKind.local == some NameKind.local) = true := by decide
  unfold swappedStores
  simp only [hf, hc, hb, kx, ky, hl, l1, l2, List.filterMap_cons, List.filterMap_nil, List.length_cons, List.length_nil, List.head?_cons, Option.map_some, Option.getD_some, Expr.pos, Bool.and_self, if_true, dups_two hxy']
  refine (if_neg (by decide)).trans ((if_neg (any_two (fun e he => by cases e <;> first | rfl | cases he) sa sb)).trans ?_)
  rfl
theorem dups_three {x y z : Str} (h : ¬ x = y) (h2 : ¬ x = z) (h3 : ¬ y = z) : ([x, y, z].eraseDups).length = 3 := by
  have e : (y == x) = false := beq_eq_false_iff_ne.mpr fun z => h z.symm
  have e2 : (z == x) = false := beq_eq_false_iff_ne.mpr fun z => h2 z.symm
  have e3 : (z == y) = false := beq_eq_false_iff_ne.mpr fun z => h3 z.symm
  simp [List.eraseDups_cons, e, e2, e3]
theorem any_three {a b c : Expr} {f : Expr → Bool} (hf : ∀ e, isStarred e = false → f e = false) (ha : isStarred a = false) (hb : isStarred b = false) (hc : isStarred c = false) : ¬ ([a, b, c].any f) = true := by
  rw [List.any_cons, List.any_cons, List.any_cons, hf a ha, hf b hb, hf c hc]
  exact Bool.false_ne_true
theorem sw_three {x y z : Str} {px py pz pt pt2 : Pos} {kt k2 : Nat} {a b c : Expr} {env : PySem.Env} (hk : env.scope.kind = .function) (hx : env.scope.names.lookup x = some .local) (hy : env.scope.names.lookup y = some .local) (hz : env.scope.names.lookup z = some .local) (hl : (py.line == px.line) = true) (hl2 : (pz.line == px.line) = true)
    (hxy : (x == y) = false) (hxz : (x == z) = false) (hyz : (y == z) = false) (sa : isStarred a = false) (sb : isStarred b = false) (sc : isStarred c = false) (hf : ([a, b, c].all (foldedForSure 8)) = false) (hc : ([a, b, c].all (constantsAlone 8)) = false) :
    swappedStores [.Tuple [.Name x px, .Name y py, .Name z pz] kt pt] (.Tuple [a, b, c] k2 pt2) env = pure (some [x, y, z]) := by
  have kx : env.kindOf x = some .local := hx
  have ky : env.kindOf y = some .local := hy
  have kz : env.kindOf z = some .local := hz
  have hb : env.blockKind = .function := by unfold Env.blockKind; rw [hk]; rfl
  have l1 : (px.line == px.line) = true := beq_self_eq_true _
  have l2 : (some NameKind.local == some NameKind.local) = true := by decide
  unfold swappedStores
  simp only [hf, hc, hb, kx, ky, kz, hl, hl2, l1, l2, List.filterMap_cons, List.filterMap_nil, List.length_cons, List.length_nil, List.head?_cons, Option.map_some, Option.getD_some, Expr.pos, Bool.and_self, if_true, dups_three (by simpa using hxy) (by simpa using hxz) (by simpa using hyz)]
  refine (if_neg (by decide)).trans ((if_neg (any_three (fun e he => by cases e <;> first | rfl | cases he) sa sb sc)).trans ?_)
  rfl
/-- constants alone: a tuple is stored -/
theorem sw_folded {ts vs : List Expr} {kt k2 : Nat} {pt pt2 : Pos} {env : PySem.Env} (h : ts.length ≠ vs.length ∨ vs.all (foldedForSure 8) = true) : swappedStores [.Tuple ts kt pt] (.Tuple vs k2 pt2) env = pure none := by
  unfold swappedStores
  rcases h with h | h
  · have e : (vs.length != ts.length) = true := by
      rw [bne_iff_ne]
      exact fun z => h z.symm
    simp only [e]
    refine if_pos ?_
    rw [Bool.or_true, Bool.true_or]
  · simp only [h, if_true]
    (repeat' split) <;> rfl
theorem bindPar_cons {i : Nat} {is : List Nat} {ds : List D} {e e2 : Env} (h : bindPar (i :: is) ds e = some e2) : ∃ d r, ds = d :: r ∧ bindPar is r (e.set i (some d)) = some e2 := by
  cases ds with
  | nil => cases h
  | cons d r =>
    simp only [bindPar] at h
    split at h
    · exact ⟨d, r, rfl, h⟩
    · cases h
theorem bindPar_nil {ds : List D} {e e2 : Env} (h : bindPar [] ds e = some e2) : ds = [] ∧ e2 = e := by
  cases ds with
  | nil => cases h; exact ⟨rfl, rfl⟩
  | cons d r => cases h
theorem ms_par {i j : Nat} {x y : Str} {a b : Expr} {px py pt pt2 pos : Pos} {kt k2 : Nat} (hc : X.calm = true) (hN : X.N.Nodup) (hi : X.N[i]? = some x) (hj : X.N[j]? = some y) (hij : i ≠ j) (hk : X.env.scope.kind = .function)
    (hx : X.env.scope.names.lookup x = some .local) (hy : X.env.scope.names.lookup y = some .local) (hl : (py.line == px.line) = true) (hxy : (x == y) = false) (sa : isStarred a = false) (sb : isStarred b = false) (hf : ([a, b].all (foldedForSure 8)) = false) (hca : ([a, b].all (constantsAlone 8)) = false) (ha : MA X ca W [a, b] ms) :
    MS X ca W (.Assign [.Tuple [.Name x px, .Name y py] kt pt] (.Tuple [a, b] k2 pt2) pos) (fun e S => match ms e S with
    | .ok ds S => (match bindPar [i, j] ds e with | some e => .nx e S | none => .bad)
    | .exc c S => .exc c e S
    | .bad => .bad) := by
  refine (ps_par hc hN hi hj hij hx hy ha (sw_two hk hx hy hl hxy sa sb hf hca) rfl).imp fun D σ H ⟨ro, S, en, A, h⟩ => ⟨ro, S, en, A, ?_⟩
  dsimp only at h
  cases em : ms en S with
  | bad => rw [em] at h; exact h.elim
  | exc c S1 =>
    rw [em] at h
    exact fun H' ro' E' R' => h H' ro' σ E' ⟨R', A.er.mono E'⟩
  | ok ds S1 =>
    rw [em] at h
    intro H' ro' E' R' vs rs
    dsimp only at h
    split at h
    · rename_i e2 hb
      obtain ⟨d1, _, rfl, hb1⟩ := bindPar_cons hb
      obtain ⟨d2, _, rfl, hb2⟩ := bindPar_cons hb1
      obtain ⟨rfl, rfl⟩ := bindPar_nil hb2
      obtain ⟨v, w, rfl, rv, rw⟩ : ∃ v w, vs = [v, w] ∧ RD H' ro' d1 v ∧ RD H' ro' d2 w := by
        cases rs with
        | cons r1 r2 => cases r2 with
          | cons r2 r3 => cases r3; exact ⟨_, _, rfl, r1, r2⟩
      exact ⟨v, w, rfl, h _ _ _ E' ⟨R', ((A.er.mono E').set rv).set rw⟩⟩
    · exact h.elim
theorem ms_par3 {i j l : Nat} {x y z : Str} {a b c : Expr} {px py pz pt pt2 pos : Pos} {kt k2 : Nat} (hc : X.calm = true) (hN : X.N.Nodup) (hi : X.N[i]? = some x) (hj : X.N[j]? = some y) (hl0 : X.N[l]? = some z) (hij : i ≠ j) (hil : i ≠ l) (hjl : j ≠ l) (hk : X.env.scope.kind = .function)
    (hx : X.env.scope.names.lookup x = some .local) (hy : X.env.scope.names.lookup y = some .local) (hz : X.env.scope.names.lookup z = some .local) (hl : (py.line == px.line) = true) (hl2 : (pz.line == px.line) = true) (hxy : (x == y) = false) (hxz : (x == z) = false) (hyz : (y == z) = false)
    (sa : isStarred a = false) (sb : isStarred b = false) (sc : isStarred c = false) (hf : ([a, b, c].all (foldedForSure 8)) = false) (hca : ([a, b, c].all (constantsAlone 8)) = false) (ha : MA X ca W [a, b, c] ms) :
    MS X ca W (.Assign [.Tuple [.Name x px, .Name y py, .Name z pz] kt pt] (.Tuple [a, b, c] k2 pt2) pos) (fun e S => match ms e S with
    | .ok ds S => (match bindPar [i, j, l] ds e with | some e => .nx e S | none => .bad)
    | .exc c S => .exc c e S
    | .bad => .bad) := by
  refine (ps_par3 hc hN hi hj hl0 hij hil hjl hx hy hz ha (sw_three hk hx hy hz hl hl2 hxy hxz hyz sa sb sc hf hca) rfl).imp fun D σ H ⟨ro, S, en, A, h⟩ => ⟨ro, S, en, A, ?_⟩
  dsimp only at h
  cases em : ms en S with
  | bad => rw [em] at h; exact h.elim
  | exc c S1 =>
    rw [em] at h
    exact fun H' ro' E' R' => h H' ro' σ E' ⟨R', A.er.mono E'⟩
  | ok ds S1 =>
    rw [em] at h
    intro H' ro' E' R' vs rs
    dsimp only at h
    split at h
    · rename_i e2 hb
      obtain ⟨d1, _, rfl, hb1⟩ := bindPar_cons hb
      obtain ⟨d2, _, rfl, hb2⟩ := bindPar_cons hb1
      obtain ⟨d3, _, rfl, hb3⟩ := bindPar_cons hb2
      obtain ⟨rfl, rfl⟩ := bindPar_nil hb3
      obtain ⟨u, v, w, rfl, ru, rv, rw⟩ : ∃ u v w, vs = [u, v, w] ∧ RD H' ro' d1 u ∧ RD H' ro' d2 v ∧ RD H' ro' d3 w := by
        cases rs with
        | cons r1 r2 => cases r2 with
          | cons r2 r3 => cases r3 with
            | cons r3 r4 => cases r4; exact ⟨_, _, _, rfl, r1, r2, r3⟩
      exact ⟨u, v, w, rfl, h _ _ _ E' ⟨R', (((A.er.mono E').set ru).set rv).set rw⟩⟩
    · exact h.elim
end
end MI

/-! MI, 17: isinstance, len(set(..)). -/
namespace MI
open PySem PySem.Spec PyProof.Rows L2

section
variable {X : Cx} {ca : CA} {fa : Nat → Addr} {G : Prog} {T : Tab} {call : Nat → List D → Store → R D} {W : WX} {e a b : Expr} {pos p p2 q : Pos} {m : Env → Store → R D}
theorem me_isinst {Tn : Str} {tn : String} {f : P} (g : XOk X ca fa G T call) (hx : ("isinstance" : Str) ∈ T.blt) (hg : Gl X "isinstance") (hT : Tn ∈ T.blt) (hgT : Gl X Tn) (hv : bootBuiltins Tn = some (.type tn)) (hn : Tn ≠ "__name__") (hd : (Tn == ("__debug__" : Str)) = false)
    (hc : CallR X (.builtin "isinstance") (fun vs H Q => ∃ x, vs = [x, .ty tn] ∧ rP X.K ca f [x] H Q)) (he : ME X ca W e m) (hs : isStarred e = false) :
    ME X ca W (.Call (.Name "isinstance" p) [e, .Name Tn p2] [] pos) (s1 f m) := by
  have ht : PE X (.Name Tn p2) (tC (.ty tn)) := pe_bltn hgT (g.gno _ hT) hv rfl hn hd
  refine (pe_callB hc hg (g.gno _ hx) PyProof.Rows.boot_isinstance (pa_cons he (pa_cons ht pa_nil) (star_cons hs)) (by decide) (by decide) (star_cons hs) rfl).imp fun σ H Q h => ?_
  obtain ⟨ro, S, en, A, h⟩ := h.one
  exact ⟨ro, S, en, A, h.imp fun d H1 r1 z x r => ⟨x, rfl, z x r⟩⟩
/-! ### len(set(xs)), xs a list of tuples of whole numbers -/
theorem intTup_rd {H : Hp} {ro : List Addr} {d : D} {ks : List Int} {v : V} (h : intTup d = some ks) (r : RD H ro d v) : ∃ b, v = .ref b ∧ H b = some (.tup (ks.map V.int)) := by
  cases d with
  | tup xs =>
    obtain ⟨a, vs, rfl, e, t⟩ := r.tup_inv
    refine ⟨a, rfl, ?_⟩
    rw [e]
    have hp := mapO_inv (show mapO intOf xs = some ks from h)
    have : vs = ks.map V.int := by
      clear e h r
      induction hp generalizing vs with
      | nil => cases t; rfl
      | cons e t2 k =>
        cases t with
        | cons r1 r2 =>
          rw [List.map_cons, ← k _ r2]
          rename_i x y _ _ _ _
          cases x <;> first | (cases e; done) | skip
          cases e
          rw [r1.int_inv]
    rw [this]
  | _ => cases h
theorem intTups_rd {H : Hp} {ro : List Addr} {xs : List D} {ks : List (List Int)} (h : mapO intTup xs = some ks) {vs : List V} (r : RDs H ro xs vs) : ∃ ps : List (Addr × List Int), ps.map (·.2) = ks ∧ vs = ps.map (fun p => V.ref p.1) ∧ ∀ p ∈ ps, H p.1 = some (.tup (p.2.map V.int)) := by
  have hp := mapO_inv h
  clear h
  induction hp generalizing vs with
  | nil =>
    cases r
    exact ⟨[], rfl, rfl, fun _ h => by cases h⟩
  | cons e t k =>
    cases r with
    | cons r1 r2 =>
      obtain ⟨ps, h1, h2, h3⟩ := k r2
      obtain ⟨b, rfl, e2⟩ := intTup_rd e r1
      refine ⟨(b, _) :: ps, by rw [List.map_cons, h1], by rw [List.map_cons, h2], fun p hp => ?_⟩
      rcases List.mem_cons.mp hp with rfl | hp
      · exact e2
      · exact h3 p hp
theorem mem_dedupI {x : List Int} : ∀ {xs : List (List Int)}, x ∈ dedupI xs ↔ x ∈ xs
  | [] => Iff.rfl
  | y :: ys => by
    unfold dedupI
    have ih := mem_dedupI (x := x) (xs := ys)
    split
    · rename_i hy
      rw [ih, List.mem_cons]
      refine ⟨.inr, fun h => ?_⟩
      rcases h with rfl | h
      · exact mem_dedupI.mp hy
      · exact h
    · rw [List.mem_cons, List.mem_cons, ih]
theorem nodup_dedupI : ∀ xs : List (List Int), (dedupI xs).Nodup
  | [] => List.nodup_nil
  | y :: ys => by
    unfold dedupI
    split
    · exact nodup_dedupI ys
    · exact List.nodup_cons.mpr ⟨by assumption, nodup_dedupI ys⟩
theorem sub_len : ∀ {xs ys : List (List Int)}, xs.Nodup → (∀ x ∈ xs, x ∈ ys) → xs.length ≤ ys.length
  | [], _, _, _ => Nat.zero_le _
  | x :: xs, ys, h, hs => by
    rw [List.nodup_cons] at h
    have hx := hs x List.mem_cons_self
    have q := sub_len (xs := xs) (ys := ys.erase x) h.2 fun y hy => by
      have hne : y ≠ x := fun z => h.1 (z ▸ hy)
      exact (List.mem_erase_of_ne hne).mpr (hs y (List.mem_cons_of_mem _ hy))
    rw [List.length_erase_of_mem hx] at q
    have := List.length_pos_of_mem hx
    rw [List.length_cons]
    omega
theorem same_len {xs ys : List (List Int)} (h1 : xs.Nodup) (h2 : ys.Nodup) (h : ∀ x, x ∈ xs ↔ x ∈ ys) : xs.length = ys.length :=
  Nat.le_antisymm (sub_len h1 fun x hx => (h x).mp hx) (sub_len h2 fun x hx => (h x).mpr hx)
theorem me_lenset (g : XOk X ca fa G T call) (hc : X.calm = true) (hx : ("len" : Str) ∈ T.blt) (hg : Gl X "len") (hx2 : ("set" : Str) ∈ T.blt) (hg2 : Gl X "set") (ha : ME X ca W a m) (hs : isStarred a = false) :
    ME X ca W (.Call (.Name "len" p) [.Call (.Name "set" p2) [a] [] q] [] pos) (s1 .lenset m) := by
  have na : starEach [a] X.env = (false, PySem.eval a X.env) :: starEach [] X.env := star_cons hs
  have hu := g.units
  refine ⟨fun pins s σ H Q I h => ?_⟩
  have h := tM.one h
  refine Call_ (ld_blt I hg (g.gno _ hx) PySem.boot_len ?_)
  refine PyProof.Rows.callWith_builtin1 (PyProof.Rows.args_cons ?_ rfl) rfl rfl
  refine Call_ (ld_blt I hg2 (g.gno _ hx2) PyProof.Rows.boot_set ?_)
  refine PyProof.Rows.callWith_type1 (PyProof.Rows.args_cons (thn (ha.run pins s σ H _ I h) fun v s1 ⟨x, H1, I1, r1, q1⟩ => PyProof.Rows.args_nil ?_) na) na rfl
  obtain ⟨ro, S, l, xs, ws, ex, R, hq, t, h1⟩ := one_list (X := X) (f := .lenset) (g := fun xs S => match mapO intTup xs with | some ks => if ks.length < 64 then .ok (.int (dedupI ks).length) S else .bad | none => .bad) (fun _ _ => rfl) ⟨rfl, q1⟩
  cases ex
  split at h1
  · rename_i ks ek
    split at h1
    · rename_i hz
      obtain ⟨ps, e1, rfl, e3⟩ := intTups_rd ek t
      cases r1
      obtain ⟨its, rv, pl, hz2⟩ := I1.list hq
      have hpl : ps.length < 64 := by
        rw [← e1, List.length_map] at hz
        exact hz
      refine call_set_tups (P := X.prog) (w := X.w) ps (I1.ok.hd hc) pl.isList (by simpa using refs_of_vals rv) (fun p hp => I1.isT (SqT.of (e3 p hp))) hpl (by omega) fun h' tk L es ep tb RR gg k => ?_
      refine PyProof.Rows.args_nil ?_
      obtain ⟨o, ho, hex, hd⟩ := RR.ob
      have I2 : Inv X pins σ H1 { s1 with heap := h', toks := tk } := I1.kept fun b o e => k b o e
      have hsz := SetTR.size (s := { s1 with heap := h', toks := tk }) RR
      have hL : (es.size : Int) = ((dedupI ks).length : Nat) := by
        rw [hsz]
        congr 1
        rw [← List.length_map (f := (·.2))]
        refine same_len RR.nd (nodup_dedupI _) fun x => ?_
        rw [mem_dedupI, ← e1]
        refine ⟨fun hx => ?_, fun hx => ?_⟩
        · obtain ⟨p, hp, rfl⟩ := List.mem_map.mp hx
          exact List.mem_map.mpr ⟨p, List.mem_of_mem_take (gg.sub p hp), rfl⟩
        · obtain ⟨p, hp, rfl⟩ := List.mem_map.mp hx
          exact gg.all p (by rw [List.take_length]; exact hp)
      refine call_len_set ho hex hd (SetTR.fits (s := { s1 with heap := h', toks := tk }) RR) (by have := RR.few; omega) ⟨.int (dedupI ks).length, H1, I2.tok _, ⟨_, by rw [hL]⟩, Post.val R (.int _) h1⟩
    · exact h1.elim
  · exact h1.elim
end
end MI

/-! MI, 18: whether a term of MI stands for a text. -/
namespace MI
open PySem PySem.Spec PyProof.Rows L2

structure Cc where
  N : List Str
  sc : Scope
  T : Tab
  G : Prog
section
variable (C : Cc)
def isVis (x : Str) : Bool := match C.sc.names.lookup x with | some .local => true | some .cell => true | some .free => true | _ => false
def isLoc (x : Str) : Bool := match C.sc.names.lookup x with | some .local => true | some .cell => true | _ => false
def isGl (x : Str) : Bool := match C.sc.names.lookup x with | some .globalImplicit => true | _ => false
def noDbg (x : Str) : Bool := !(x == ("__debug__" : Str)) && !(x == ("__classdict__" : Str))
def slot (i : Nat) (x : Str) : Bool := decide (C.N[i]? = some x)
def bltOk (n : Str) : Bool := isGl C n && C.T.blt.contains n
def noFnm (x : Str) : Bool := !(decide (x = ("__name__" : Str))) && !(x == ("__debug__" : Str))
end
def binF : Operator → Option P
  | .Add => some .add | .Sub => some .sub | .Mult => some .mul | .Mod => some .mod | .FloorDiv => some .fdiv | .Pow => some .pow
  | _ => none
def cmpF (op : CmpOp) (f : P) : Bool := match op with
  | .Eq => decide (f = .eq) | .NotEq => decide (f = .ne) | .Lt => decide (f = .lt) | .LtE => decide (f = .le) | .Gt => decide (f = .gt) | .GtE => decide (f = .ge)
  | .In => decide (f = .isin) | .NotIn => decide (f = .notin) | .Is => decide (f = .isN) || decide (f = .isB) | .IsNot => decide (f = .notN) || decide (f = .notB)
/-- built-in functions: the name, how many arguments -/
def bltF : P → Option (Str × Nat)
  | .len => some ("len", 1) | .abs => some ("abs", 1) | .max2 => some ("max", 2) | .min2 => some ("min", 2) | .sum => some ("sum", 1) | .any => some ("any", 1) | .all => some ("all", 1)
  | .list1 => some ("list", 1) | .tuple1 => some ("tuple", 1) | .dict1 => some ("dict", 1) | .sorted => some ("sorted", 1)
  | _ => none
def insF : P → Option Str
  | .isInt => some "int" | .isBool => some "bool" | .isStr => some "str" | .isTuple => some "tuple" | .isList => some "list"
  | _ => none
/-- methods of lists -/
def lmF : P → Option (Str × Nat)
  | .append => some ("append", 1) | .extend => some ("extend", 1) | .insert => some ("insert", 2) | .pop0 => some ("pop", 0) | .reverse => some ("reverse", 0) | .clear => some ("clear", 0) | .count => some ("count", 1)
  | _ => none
def isRev : Expr → Bool
  | .Slice none none (some (.UnaryOp .USub (.Constant (.int i) _ _) _)) _ => decide (i = 1)
  | _ => false
def isIf : Expr → Bool
  | .IfExp _ _ _ _ => true
  | _ => false
def ckPrim (C : Cc) (f : P) (k : List Expr → Bool) (e : Expr) : Bool := match e with
  | .BinOp x op y _ => decide (binF op = some f) && k [x, y]
  | .Compare x [op] [y] _ => cmpF op f && k [x, y] && !isSet y
  | .UnaryOp .USub x _ => decide (f = .neg) && k [x]
  | .Subscript x i _ => (decide (f = .item) && !isSlice i && k [x, i]) || (decide (f = .rev) && isRev i && k [x])
  | .Call (.Name n _) xs [] _ => bltOk C n && noFnm n && ((match bltF f with
      | some (nm, a) => decide (n = nm) && decide (xs.length = a) && k xs
      | none => false) || (match insF f, xs with
      | some tn, [x, .Name t _] => decide (n = ("isinstance" : Str)) && decide (t = tn) && bltOk C t && noFnm t && k [x]
      | _, _ => false) || (decide (f = .lenset) && decide (n = ("len" : Str)) && (match xs with
      | [.Call (.Name s _) [a] [] _] => decide (s = ("set" : Str)) && bltOk C s && k [a]
      | _ => false)))
  | _ => false
def isTup : Expr → Bool
  | .Tuple _ _ _ => true
  | _ => false
def ckIt (C : Cc) (w : IK) (k : List Expr → Bool) (tg it : Expr) : Bool := match w with
  | .list => k [it]
  | .tuple => k [it]
  | .keys => k [it]
  | .range1 => (match it with | .Call (.Name n _) [a] [] _ => decide (n = ("range" : Str)) && bltOk C n && k [a] | _ => false)
  | .range2 => (match it with | .Call (.Name n _) [a, b] [] _ => decide (n = ("range" : Str)) && bltOk C n && k [a, b] | _ => false)
  | .enum => (match it with | .Call (.Name n _) [a] [] _ => decide (n = ("enumerate" : Str)) && bltOk C n && k [a] && isTup tg | _ => false)
  | .zip => (match it with | .Call (.Name n _) [a, b] [] _ => decide (n = ("zip" : Str)) && bltOk C n && k [a, b] && isTup tg | _ => false)
  | .range3 => false
def ckCst : D → Expr → Bool
  | .non, .Constant .none _ _ => true
  | .bl b, .Constant (.bool c) _ _ => decide (b = c)
  | .int i, .Constant (.int j) _ _ => decide (i = j)
  | .str s, .Constant (.str t) _ _ => decide (s = t)
  | _, _ => false
mutual
def ckT : CT → Cc → Expr → Bool
  | .name i, C, e => (match e with | .Name x _ => slot C i x && isLoc C x | _ => false)
  | .tup ts, C, e => (match e with | .Tuple xs _ _ => ckTs ts C xs | _ => false)
def ckTs : List CT → Cc → List Expr → Bool
  | [], _, xs => xs.isEmpty
  | t :: ts, C, xs => (match xs with | x :: xs => ckT t C x && ckTs ts C xs | [] => false)
end
def own' (C : Cc) (own : List Nat) : List (Str × Nat) := own.map fun i => ((C.N[i]?).getD ("" : Str), i)
mutual
def ck : CE → Cc → Expr → Bool
  | .var i, C, e => (match e with | .Name x _ => slot C i x && isVis C x && noDbg x | _ => false)
  | .cst d, _, e => ckCst d e
  | .glb x d, C, e => (match e, d with | .Name y _, .int i => decide (x = y) && isGl C y && decide (C.T.num.lookup y = some i) && noDbg y | _, _ => false)
  | .tup es, C, e => (match e with | .Tuple xs _ _ => cks es C xs | _ => false)
  | .lst es, C, e => (match e with | .List xs _ => cks es C xs | _ => false)
  | .dnew, _, e => (match e with | .Dict [] [] _ => true | _ => false)
  | .sl2 o l h, C, e => (match e with | .Subscript x (.Slice (some a) (some b) none _) _ => ck o C x && ck l C a && ck h C b | _ => false)
  | .slL o l, C, e => (match e with | .Subscript x (.Slice (some a) none none _) _ => ck o C x && ck l C a | _ => false)
  | .slH o h, C, e => (match e with | .Subscript x (.Slice none (some b) none _) _ => ck o C x && ck h C b | _ => false)
  | .prim f es, C, e => ckPrim C f (cks es C) e
  | .lm f o es, C, e => (match e, lmF f with
    | .Call (.Attribute x nm ap) xs [] p, some (n, a) => decide (nm = n) && decide (xs.length = a) && ck o C x && cks es C xs && !bareCall x && (ap.endLine == p.line)
    | _, _ => false)
  | .and a b, C, e => (match e with
    | .BoolOp .And [x, y] _ => ck a C x && ck b C y && !isIf x && !isIf y
    | .BoolOp .And (x :: y :: z :: r) p => ck a C x && ck b C (.BoolOp .And (y :: z :: r) p) && !isIf x
    | _ => false)
  | .or a b, C, e => (match e with
    | .BoolOp .Or [x, y] _ => ck a C x && ck b C y && !isIf x && !isIf y
    | .BoolOp .Or (x :: y :: z :: r) p => ck a C x && ck b C (.BoolOp .Or (y :: z :: r) p) && !isIf x
    | _ => false)
  | .not a, C, e => (match e with | .UnaryOp .Not x _ => ck a C x && !isIf x | _ => false)
  | .ifx c a b, C, e => (match e with | .IfExp x y z _ => ck c C x && ck a C y && ck b C z && !isIf x | _ => false)
  | .chn f g a b c, C, e => (match e with | .Compare x [op, op'] [y, z] _ => cmpF op f && cmpF op' g && ck a C x && ck b C y && ck c C z && !isSet z | _ => false)
  | .chn3 _ _ _ _ _ _ _, _, _ => false
  | .call j es, C, e => (match e with | .Call (.Name n _) (x :: xs) [] _ => isGl C n && noDbg n && decide (C.T.fns.lookup n = some j) && cks es C (x :: xs) | _ => false)
  | .new c es, C, e => (match e with | .Call (.Name n _) xs [] _ => isGl C n && noDbg n && decide (C.T.cls.lookup n = some c) && (C.G.init c).isSome && cks es C xs | _ => false)
  | .meth m o es, C, e => (match e with | .Call (.Attribute x nm ap) xs [] p => decide (nm = m) && ck o C x && cks es C xs && !bareCall x && (ap.endLine == p.line) && decide (xs.length < 30) | _ => false)
  | .fld f o, C, e => (match e with | .Attribute x nm _ => decide (nm = f) && ck o C x && !bareCall x | _ => false)
  | .comp own k ies t cond elt, C, e => (match e with
    | .ListComp el [⟨tg, it, ifs, 0⟩] scope _ => ckIt C k (cks ies C) tg it && ckT t { C with sc := scope } tg && ckCond cond { C with sc := scope } ifs && ck elt { C with sc := scope } el &&
        blkC C.N C.sc scope (own' C own) && ((namesT t).all fun i => own.contains i) && !isSet it
    | _ => false)
def cks : List CE → Cc → List Expr → Bool
  | [], _, xs => xs.isEmpty
  | m :: ms, C, xs => (match xs with | x :: xs => ck m C x && cks ms C xs | [] => false)
def ckCond : List CE → Cc → List Expr → Bool
  | [], _, xs => xs.isEmpty
  | m :: ms, C, xs => (match ms, xs with | [], [x] => ck m C x && !isIf x | _, _ => false)
end
theorem ck_star (m : CE) (C : Cc) (v : Expr) (p : Pos) : ck m C (.Starred v p) = false := by
  cases m <;> first | rfl | skip
  all_goals (simp only [ck]; rename_i d; cases d <;> rfl)
end MI

/-! MI, 19: a term that stands for a text does in the model what it does here. -/
namespace MI
open PySem PySem.Spec PyProof.Rows L2

structure Sco (X : Cx) (sc : Scope) : Prop where
  kind : X.env.scope.kind = .function
  loc : ∀ x, sc.names.lookup x = some .local → X.env.scope.names.lookup x = some .local
  cel : ∀ x, sc.names.lookup x = some .cell → X.env.scope.names.lookup x = some .cell ∧ X.fn x = true
  fre : ∀ x, sc.names.lookup x = some .free → X.env.scope.names.lookup x = some .cell ∨ X.env.scope.names.lookup x = some .free
  glo : ∀ x, sc.names.lookup x = some .globalImplicit → Gl X x
structure Env3 (X : Cx) (ca : CA) (fa : Nat → Addr) (C : Cc) (call : Nat → List D → Store → R D) (W : WX) : Prop where
  sco : Sco X C.sc
  nm : X.N = C.N
  nd : X.N.Nodup
  calm : X.calm = true
  tk : Takes X W
  ok : XOk X ca fa C.G C.T call

section
variable {X : Cx} {ca : CA} {fa : Nat → Addr} {C : Cc} {call : Nat → List D → Store → R D} {W : WX}
theorem lookup_mapV {names : List (Str × NameKind)} (g : Str → NameKind → NameKind) (x : Str) : (names.map fun (n, k) => (n, g n k)).lookup x = (names.lookup x).map (g x) := by
  induction names with
  | nil => rfl
  | cons p ps ih =>
    obtain ⟨n, k⟩ := p
    rw [List.map_cons]
    by_cases h : x = n
    · subst h
      simp only [List.lookup, beq_self_eq_true]
      rfl
    · have hb : (x == n) = false := beq_eq_false_iff_ne.mpr h
      simp only [List.lookup, hb]
      exact ih
theorem relabel_eq (scope : Scope) (env : PySem.Env) (x : Str) : (relabel scope env).names.lookup x = (scope.names.lookup x).map fun k => if (k == .free && env.scope.kind == .function && env.kindOf x == some .cell) then .cell else k := by
  unfold relabel
  show (scope.names.map _).lookup x = _
  rw [← lookup_mapV fun n k => if (k == .free && env.scope.kind == .function && env.kindOf n == some .cell) then .cell else k]
  congr 1
  refine List.map_congr_left fun p _ => ?_
  obtain ⟨n, k⟩ := p
  dsimp only
  split <;> rfl
theorem Sco.blk {s : Shared} {H : Hp} {Ca : Addr} {cl : List (Str × Addr)} {fp : List Addr} {scope : Scope} (hk : scope.kind = .function) : Sco (X.blk s H scope (compEnvC scope cl Ca X.env) fp) scope where
  kind := hk
  loc := fun x h => by
    show (relabel scope X.env).names.lookup x = _
    rw [relabel_eq, h]
    rfl
  cel := fun x h => by
    refine ⟨?_, ?_⟩
    · show (relabel scope X.env).names.lookup x = _
      rw [relabel_eq, h]
      rfl
    · show (scope.names.lookup x == some .cell) = true
      rw [h]
      rfl
  fre := fun x h => by
    show (relabel scope X.env).names.lookup x = _ ∨ (relabel scope X.env).names.lookup x = _
    rw [relabel_eq, h]
    show some (if _ then NameKind.cell else NameKind.free) = _ ∨ some (if _ then NameKind.cell else NameKind.free) = _
    split
    · exact .inl rfl
    · exact .inr rfl
  glo := fun x h => by
    show (relabel scope X.env).names.lookup x = _
    rw [relabel_eq, h]
    rfl
theorem Sco.vis (S : Sco X C.sc) {x : Str} (h : isVis C x = true) : Vis X.env.scope x := by
  unfold isVis at h
  split at h
  · rename_i e; exact .inl (S.loc x e)
  · rename_i e; exact .inr (.inl (S.cel x e).1)
  · rename_i e; exact .inr (S.fre x e)
  · cases h
theorem Sco.locs (S : Sco X C.sc) {x : Str} (h : isLoc C x = true) : Loc X.env.scope x ∧ (X.fn x = true ∨ X.env.scope.names.lookup x = some .local) := by
  unfold isLoc at h
  split at h
  · rename_i e; exact ⟨.inl (S.loc x e), .inr (S.loc x e)⟩
  · rename_i e; exact ⟨.inr (S.cel x e).1, .inl (S.cel x e).2⟩
  · cases h
theorem Sco.gls (S : Sco X C.sc) {x : Str} (h : isGl C x = true) : Gl X x := by
  unfold isGl at h
  split at h
  · rename_i e; exact S.glo x e
  · cases h
theorem Sco.blkOk {own : List Nat} {scope : Scope} (S : Sco X C.sc) (hN : X.N = C.N) (h : blkC C.N C.sc scope (own' C own) = true) : BlkOk X.N X.env.scope scope (own' C own) := by
  have B := blkOk_by h
  rw [hN]
  refine ⟨B.kind, B.uniq, B.ix, fun y hy e => ?_, B.own⟩
  rcases B.free y hy e with q | q
  · exact .inl (S.cel _ q).1
  · exact S.fre _ q
theorem own_map (own : List Nat) : (own' C own).map (·.2) = own := by
  unfold own'
  rw [List.map_map]
  exact List.map_id _
/-- in a comprehension's block -/
theorem Env3.blk {s : Shared} {H : Hp} {Ca : Addr} {cl : List (Str × Addr)} {fp : List Addr} {scope : Scope} (E : Env3 X ca fa C call W) (hk : scope.kind = .function) :
    Env3 (X.blk s H scope (compEnvC scope cl Ca X.env) fp) ca fa { C with sc := scope } call NoWX :=
  ⟨Sco.blk hk, E.nm, E.nd, E.calm, takes_blk, E.ok⟩

/-! ### one expression -/
structure Ok3 (X : Cx) (ca : CA) (W : WX) (e : Expr) (m : Env → Store → R D) : Prop where
  ns : isStarred e = false
  me : ME X ca W e m
  mt : isIf e = false → MT X ca W e (sB m)
  mw : ∀ op es p, e = .BoolOp op es p → MW X ca W e (sB m)
abbrev OkL (X : Cx) (ca : CA) (W : WX) (G : Prog) (call : Nat → List D → Store → R D) : List CE → List Expr → Prop := Paired fun m e => Ok3 X ca W e (eval G call m)
theorem OkL.ma {ms : List CE} {es : List Expr} (h : OkL X ca W C.G call ms es) : MA X ca W es (evalL C.G call ms) ∧ es.all (fun e => !isStarred e) = true ∧ es.length = ms.length := by
  induction h with
  | nil => exact ⟨ma_nil, rfl, rfl⟩
  | @cons m e ms es h t ih =>
    obtain ⟨i1, i2, i3⟩ := ih
    refine ⟨ma_cons h.me i1 (star_cons h.ns), ?_, by rw [List.length_cons, List.length_cons, i3]⟩
    rw [List.all_cons, h.ns, i2]
    rfl
theorem evalL_len {G : Prog} : ∀ {ms : List CE} {en : Env} {S S' : Store} {ds : List D}, evalL G call ms en S = .ok ds S' → ds.length = ms.length
  | [], _, _, _, _, h => by
    unfold evalL at h
    cases h
    rfl
  | m :: ms, en, S, S', ds, h => by
    unfold evalL at h
    cases e1 : eval G call m en S with
    | bad => rw [e1] at h; cases h
    | exc c S1 => rw [e1] at h; cases h
    | ok d S1 =>
      rw [e1] at h
      replace h : (evalL G call ms en S1).bind (fun ds S => .ok (d :: ds) S) = .ok ds S' := h
      cases e2 : evalL G call ms en S1 with
      | bad => rw [e2] at h; cases h
      | exc c S2 => rw [e2] at h; cases h
      | ok ds2 S2 =>
        rw [e2] at h
        cases h
        rw [List.length_cons, List.length_cons, evalL_len e2]
theorem ok_plain {e : Expr} {m : Env → Store → R D} (h : ME X ca W e m) (hs : isStarred e = false) (ht : plainT e = true) : Ok3 X ca W e m :=
  ⟨hs, h, fun _ => mt_val h (true_of ht), fun op es p z => by subst z; cases ht⟩
theorem bin_ok (hu : X.A.units + 64 < cLine) {op : Operator} {f : P} (h : binF op = some f) : OpR X (binaryOp op) (rP2 X.K ca f) := by
  cases op <;> first | (cases h; done) | skip
  all_goals (cases h; first | exact o_add | exact o_sub | exact o_mul | exact o_mod | exact o_fdiv | exact o_pow)
theorem cmp_ok (hu : X.A.units + 64 < cLine) {op : CmpOp} {f : P} (h : cmpF op f = true) : OpR X (compareOp op) (rP2 X.K ca f) := by
  cases op <;> simp only [cmpF, decide_eq_true_eq, Bool.or_eq_true] at h
  · subst h; exact o_eq hu
  · subst h; exact o_ne hu
  · subst h; exact o_lt
  · subst h; exact o_le
  · subst h; exact o_gt
  · subst h; exact o_ge
  · rcases h with rfl | rfl
    · exact o_isN
    · exact o_isB
  · rcases h with rfl | rfl
    · exact o_notN
    · exact o_notB
  · subst h; exact o_in hu
  · subst h; exact o_notin hu
theorem evalL_one {G : Prog} {a : CE} (en : Env) (S : Store) {B : Type} (f : List D → Store → R B) : (evalL G call [a] en S).bind f = (eval G call a en S).bind fun x S => f [x] S := by
  show ((eval G call a en S).bind _).bind f = _
  rw [R.bind_assoc]
  rfl
theorem evalL_two {G : Prog} {a b : CE} (en : Env) (S : Store) {B : Type} (f : List D → Store → R B) : (evalL G call [a, b] en S).bind f = (eval G call a en S).bind fun x S => (eval G call b en S).bind fun y S => f [x, y] S := by
  show ((eval G call a en S).bind fun d S => (evalL G call [b] en S).bind fun ds S => .ok (d :: ds) S).bind f = _
  rw [R.bind_assoc]
  congr 1
  funext x S
  show ((evalL G call [b] en S).bind _).bind f = _
  rw [R.bind_assoc, evalL_one]
  rfl
theorem OkL.two {ms : List CE} {x y : Expr} (h : OkL X ca W C.G call ms [x, y]) : ∃ a b, ms = [a, b] ∧ Ok3 X ca W x (eval C.G call a) ∧ Ok3 X ca W y (eval C.G call b) := by
  cases h with
  | cons h1 t => cases t with
    | cons h2 t => cases t; exact ⟨_, _, rfl, h1, h2⟩
theorem OkL.one {ms : List CE} {x : Expr} (h : OkL X ca W C.G call ms [x]) : ∃ a, ms = [a] ∧ Ok3 X ca W x (eval C.G call a) := by
  cases h with
  | cons h1 t => cases t; exact ⟨_, rfl, h1⟩
theorem ME.eq {e : Expr} {m m' : Env → Store → R D} (h : ME X ca W e m) (k : ∀ en S, m' en S = m en S) : ME X ca W e m' := by
  have : m' = m := funext fun en => funext fun S => k en S
  rw [this]
  exact h
theorem callr_len {v : Value} {f : P} {a : Nat} (h : CallR X v (rP X.K ca f)) : CallR X v (fun vs H Q => vs.length = a ∧ rP X.K ca f vs H Q) := fun pins s σ H vs us Q I r q => h pins s σ H vs us Q I r q.2
theorem noFnm_of {x : Str} (h : noFnm x = true) : x ≠ "__name__" ∧ (x == ("__debug__" : Str)) = false := by
  unfold noFnm at h
  simp only [Bool.and_eq_true, Bool.not_eq_true', decide_eq_false_iff_not] at h
  exact h
theorem noDbg_of {x : Str} (h : noDbg x = true) : (x == ("__debug__" : Str)) = false ∧ (x == ("__classdict__" : Str)) = false := by
  unfold noDbg at h
  simp only [Bool.and_eq_true, Bool.not_eq_true'] at h
  exact h
theorem bltOk_of (E : Env3 X ca fa C call W) {n : Str} (h : bltOk C n = true) : Gl X n ∧ n ∈ C.T.blt := by
  unfold bltOk at h
  rw [Bool.and_eq_true] at h
  exact ⟨E.sco.gls h.1, List.contains_iff_mem.mp h.2⟩
theorem fn_b (E : Env3 X ca fa C call W) {id : String} {n : Str} {f : P} {a : Nat} {es : List CE} {e : Expr} {xs : List Expr} {p p2 : Pos} (hc : CallR X (.builtin id) (fun vs H Q => vs.length = a ∧ rP X.K ca f vs H Q)) (hv : bootBuiltins n = some (.builtin id))
    (hb : bltOk C n = true) (hn : noFnm n = true) (hl : (e :: xs).length = a) (h : OkL X ca W C.G call es (e :: xs)) : Ok3 X ca W (.Call (.Name n p) (e :: xs) [] p2) (fun en S => (evalL C.G call es en S).bind fun ds S => prim f ds S) := by
  obtain ⟨h1, h2, h3⟩ := h.ma
  obtain ⟨g1, g2⟩ := bltOk_of E hb
  obtain ⟨n1, n2⟩ := noFnm_of hn
  exact ok_plain (pe_gb E.ok hc g2 g1 hv n1 n2 h2 h1 (fun vs H Q hlv z => ⟨by rw [← hlv]; exact hl, z⟩) fun en S ds S' z => by rw [evalL_len z, h3]) rfl rfl
theorem fn_t (E : Env3 X ca fa C call W) {id : String} {n : Str} {f : P} {a : Nat} {es : List CE} {e : Expr} {xs : List Expr} {p p2 : Pos} (hc : CallR X (.type id) (fun vs H Q => vs.length = a ∧ rP X.K ca f vs H Q)) (hv : bootBuiltins n = some (.type id))
    (hb : bltOk C n = true) (hn : noFnm n = true) (hl : (e :: xs).length = a) (h : OkL X ca W C.G call es (e :: xs)) : Ok3 X ca W (.Call (.Name n p) (e :: xs) [] p2) (fun en S => (evalL C.G call es en S).bind fun ds S => prim f ds S) := by
  obtain ⟨h1, h2, h3⟩ := h.ma
  obtain ⟨g1, g2⟩ := bltOk_of E hb
  obtain ⟨n1, n2⟩ := noFnm_of hn
  exact ok_plain (pe_gty E.ok hc g2 g1 hv n1 n2 h2 h1 (fun vs H Q hlv z => ⟨by rw [← hlv]; exact hl, z⟩) fun en S ds S' z => by rw [evalL_len z, h3]) rfl rfl
theorem boot_len' : bootBuiltins "len" = some (.builtin "len") := by decide +kernel
theorem boot_abs' : bootBuiltins "abs" = some (.builtin "abs") := by decide +kernel
theorem boot_max' : bootBuiltins "max" = some (.builtin "max") := by decide +kernel
theorem boot_min' : bootBuiltins "min" = some (.builtin "min") := by decide +kernel
theorem boot_sum' : bootBuiltins "sum" = some (.builtin "sum") := by decide +kernel
theorem boot_any' : bootBuiltins "any" = some (.builtin "any") := by decide +kernel
theorem boot_all' : bootBuiltins "all" = some (.builtin "all") := by decide +kernel
theorem boot_sorted' : bootBuiltins "sorted" = some (.builtin "sorted") := by decide +kernel
theorem boot_list' : bootBuiltins "list" = some (.type "list") := by decide +kernel
theorem boot_tuple' : bootBuiltins "tuple" = some (.type "tuple") := by decide +kernel
theorem boot_dict' : bootBuiltins "dict" = some (.type "dict") := by decide +kernel
theorem boot_int' : bootBuiltins "int" = some (.type "int") := by decide +kernel
theorem boot_bool' : bootBuiltins "bool" = some (.type "bool") := by decide +kernel
theorem boot_str' : bootBuiltins "str" = some (.type "str") := by decide +kernel
theorem blt_ok (E : Env3 X ca fa C call W) {f : P} {n nm : Str} {a : Nat} {es : List CE} {xs : List Expr} {p p2 : Pos} (hf : bltF f = some (nm, a)) (hnm : n = nm) (hl : xs.length = a) (hb : bltOk C n = true) (hn : noFnm n = true) (h : OkL X ca W C.G call es xs) :
    Ok3 X ca W (.Call (.Name n p) xs [] p2) (fun en S => (evalL C.G call es en S).bind fun ds S => prim f ds S) := by
  subst hnm
  have hu := E.ok.units
  cases xs with
  | nil => cases f <;> first | (cases hf; done) | (cases hf; cases hl)
  | cons e xs =>
    cases f <;> first | (cases hf; done) | skip
    all_goals cases hf
    · exact fn_b E (callr_len c_len) boot_len' hb hn hl h
    · exact fn_b E c_abs boot_abs' hb hn hl h
    · exact fn_b E (c_max2 E.calm) boot_max' hb hn hl h
    · exact fn_b E (c_min2 E.calm) boot_min' hb hn hl h
    · exact fn_b E (c_sum E.calm) boot_sum' hb hn hl h
    · exact fn_b E (c_any E.calm) boot_any' hb hn hl h
    · exact fn_b E (c_all E.calm) boot_all' hb hn hl h
    · exact fn_t E (c_list1 E.calm) boot_list' hb hn hl h
    · exact fn_t E c_tuple1 boot_tuple' hb hn hl h
    · exact fn_t E (c_dict1 E.calm hu) boot_dict' hb hn hl h
    · exact fn_b E (c_sorted E.calm hu) boot_sorted' hb hn hl h
theorem ins_ok (E : Env3 X ca fa C call W) {f : P} {t tn : Str} {x : Expr} {a : CE} {p p2 p3 : Pos} (hf : insF f = some tn) (ht : t = tn) (hb : bltOk C "isinstance" = true) (hb2 : bltOk C t = true) (hn : noFnm t = true) (h : Ok3 X ca W x (eval C.G call a)) :
    Ok3 X ca W (.Call (.Name "isinstance" p) [x, .Name t p2] [] p3) (fun en S => (evalL C.G call [a] en S).bind fun ds S => prim f ds S) := by
  subst ht
  obtain ⟨g1, g2⟩ := bltOk_of E hb
  obtain ⟨g3, g4⟩ := bltOk_of E hb2
  obtain ⟨n1, n2⟩ := noFnm_of hn
  cases f <;> first | (cases hf; done) | skip
  all_goals cases hf
  · exact ok_plain ((me_isinst E.ok g2 g1 g4 g3 boot_int' n1 n2 c_isInt h.me h.ns).eq fun en S => evalL_one en S _) rfl rfl
  · exact ok_plain ((me_isinst E.ok g2 g1 g4 g3 boot_bool' n1 n2 c_isBool h.me h.ns).eq fun en S => evalL_one en S _) rfl rfl
  · exact ok_plain ((me_isinst E.ok g2 g1 g4 g3 boot_str' n1 n2 c_isStr h.me h.ns).eq fun en S => evalL_one en S _) rfl rfl
  · exact ok_plain ((me_isinst E.ok g2 g1 g4 g3 boot_tuple' n1 n2 c_isTuple h.me h.ns).eq fun en S => evalL_one en S _) rfl rfl
  · exact ok_plain ((me_isinst E.ok g2 g1 g4 g3 boot_list' n1 n2 c_isList h.me h.ns).eq fun en S => evalL_one en S _) rfl rfl
/-- an operation -/
theorem prim_ok (E : Env3 X ca fa C call W) {f : P} {es : List CE} {k : List Expr → Bool} {e : Expr} (hk : ∀ xs, k xs = true → OkL X ca W C.G call es xs) (h : ckPrim C f k e = true) :
    Ok3 X ca W e (fun en S => (evalL C.G call es en S).bind fun ds S => prim f ds S) := by
  have hu := E.ok.units
  unfold ckPrim at h
  split at h
  · rename_i x op y p
    simp only [Bool.and_eq_true, decide_eq_true_eq] at h
    obtain ⟨a, b, rfl, h1, h2⟩ := (hk _ h.2).two
    exact ok_plain ((me_bin (bin_ok hu h.1) h1.me h2.me).eq fun en S => evalL_two en S _) rfl rfl
  · rename_i x op y p
    simp only [Bool.and_eq_true] at h
    obtain ⟨a, b, rfl, h1, h2⟩ := (hk _ h.1.2).two
    have hs : isSet y = false := by simpa using h.2
    have e0 : (fun en S => (evalL C.G call [a, b] en S).bind fun ds S => prim f ds S) = s2 f (eval C.G call a) (eval C.G call b) := funext fun en => funext fun S => evalL_two en S _
    rw [e0]
    exact ⟨rfl, me_cmp (cmp_ok hu h.1.1) h1.me h2.me (marks_of hs), fun _ => mt_cmp (cmp_ok hu h.1.1) h1.me h2.me (marks_of hs), fun _ _ _ z => by cases z⟩
  · rename_i x p
    simp only [Bool.and_eq_true, decide_eq_true_eq] at h
    obtain ⟨a, rfl, h1⟩ := (hk _ h.2).one
    obtain rfl := h.1
    exact ok_plain ((me_un o_neg h1.me).eq fun en S => evalL_one en S _) rfl rfl
  · rename_i x i p
    simp only [Bool.or_eq_true, Bool.and_eq_true, decide_eq_true_eq] at h
    rcases h with ⟨⟨rfl, hs⟩, h⟩ | ⟨⟨rfl, hr⟩, h⟩
    · obtain ⟨a, b, rfl, h1, h2⟩ := (hk _ h).two
      exact ok_plain ((me_item hu h1.me h2.me (plainIx_of (by simpa using hs))).eq fun en S => evalL_two en S _) rfl rfl
    · obtain ⟨a, rfl, h1⟩ := (hk _ h).one
      unfold isRev at hr
      split at hr
      · simp only [decide_eq_true_eq] at hr
        subst hr
        exact ok_plain ((me_rev h1.me).eq fun en S => evalL_one en S _) rfl rfl
      · cases hr
  · rename_i n p xs p2
    simp only [Bool.and_eq_true] at h
    obtain ⟨⟨hb, hn⟩, h⟩ := h
    rw [Bool.or_eq_true, Bool.or_eq_true] at h
    rcases h with (h | h) | h
    · split at h
      · rename_i nm a hf
        simp only [Bool.and_eq_true, decide_eq_true_eq] at h
        exact blt_ok E hf h.1.1 h.1.2 hb hn (hk _ h.2)
      · cases h
    · split at h
      · rename_i tn x t p3 hf
        simp only [Bool.and_eq_true, decide_eq_true_eq] at h
        obtain ⟨⟨⟨⟨rfl, h2⟩, h3⟩, h4⟩, h5⟩ := h
        obtain ⟨a, rfl, h1⟩ := (hk _ h5).one
        exact ins_ok E hf h2 hb h3 h4 h1
      · cases h
    · simp only [Bool.and_eq_true, decide_eq_true_eq] at h
      obtain ⟨⟨rfl, rfl⟩, h⟩ := h
      split at h
      · rename_i s p3 a p4
        simp only [Bool.and_eq_true, decide_eq_true_eq] at h
        obtain ⟨⟨rfl, h2⟩, h3⟩ := h
        obtain ⟨a, rfl, h1⟩ := (hk _ h3).one
        obtain ⟨g1, g2⟩ := bltOk_of E hb
        obtain ⟨g3, g4⟩ := bltOk_of E h2
        exact ok_plain ((me_lenset E.ok E.calm g2 g1 g4 g3 h1.me h1.ns).eq fun en S => evalL_one en S _) rfl rfl
      · cases h
  · cases h
end
end MI

/-! MI, 20: soundness for expressions. -/
namespace MI
open PySem PySem.Spec PyProof.Rows L2

section
variable {ca : CA} {fa : Nat → Addr} {call : Nat → List D → Store → R D}
theorem cst_ok {X : Cx} {W : WX} {d : D} {e : Expr} (h : ckCst d e = true) : Ok3 X ca W e (fun _ S => .ok d S) := by
  unfold ckCst at h
  split at h <;> first | (cases h; done) | skip
  · exact ok_plain (me_cst pe_non fun _ _ => .non) rfl rfl
  · simp only [decide_eq_true_eq] at h
    subst h
    exact ok_plain (me_cst pe_bl fun _ _ => .bl _) rfl rfl
  · simp only [decide_eq_true_eq] at h
    subst h
    exact ok_plain (me_cst pe_int fun _ _ => .int _) rfl rfl
  · simp only [decide_eq_true_eq] at h
    subst h
    exact ok_plain (me_cst pe_str fun _ _ => .str _) rfl rfl
mutual
theorem ckT_ok {X : Cx} {W : WX} {C : Cc} (E : Env3 X ca fa C call W) : ∀ (t : CT) (e : Expr), ckT t C e = true → PG X e (gM X.K ca t) ∧ isStarred e = false
  | .name i, e, h => by
    unfold ckT at h
    split at h
    · rename_i x p
      unfold slot at h
      simp only [Bool.and_eq_true, decide_eq_true_eq] at h
      obtain ⟨l1, l2⟩ := E.sco.locs h.2
      exact ⟨mg_name E.nd (by rw [E.nm]; exact h.1) l1 l2, rfl⟩
    · cases h
  | .tup ts, e, h => by
    unfold ckT at h
    split at h
    · rename_i xs k p
      obtain ⟨h1, h2, h3⟩ := ckTs_ok E ts xs h
      exact ⟨mg_tup E.calm h1 h2 h3, rfl⟩
    · cases h
theorem ckTs_ok {X : Cx} {W : WX} {C : Cc} (E : Env3 X ca fa C call W) : ∀ (ts : List CT) (es : List Expr), ckTs ts C es = true → PGs X es (gMs X.K ca ts) ∧ es.length = ts.length ∧ es.all (fun e => !isStarred e) = true
  | [], es, h => by
    unfold ckTs at h
    cases es with
    | nil => exact ⟨mgs_nil, rfl, rfl⟩
    | cons _ _ => cases h
  | t :: ts, es, h => by
    unfold ckTs at h
    split at h
    · rename_i x xs
      rw [Bool.and_eq_true] at h
      obtain ⟨a1, a2⟩ := ckT_ok E t x h.1
      obtain ⟨b1, b2, b3⟩ := ckTs_ok E ts xs h.2
      refine ⟨mgs_cons a1 b1 a2, by rw [List.length_cons, List.length_cons, b2], ?_⟩
      rw [List.all_cons, a2, b3]
      rfl
    · cases h
end
/-- what is walked -/
theorem it_ok {X : Cx} {W : WX} {C : Cc} (E : Env3 X ca fa C call W) {w : IK} {k : List Expr → Bool} {tg it : Expr} {ies : List CE} (hk : ∀ xs, k xs = true → OkL X ca W C.G call ies xs) (h : ckIt C w k tg it = true) : MI_ X ca W tg it w (evalL C.G call ies) := by
  have one : ∀ {a : CE}, sOne (eval C.G call a) = evalL C.G call [a] := fun {a} => rfl
  unfold ckIt at h
  split at h
  · obtain ⟨a, rfl, h1⟩ := (hk _ h).one
    exact mi_list h1.me
  · obtain ⟨a, rfl, h1⟩ := (hk _ h).one
    exact mi_tup h1.me
  · obtain ⟨a, rfl, h1⟩ := (hk _ h).one
    exact mi_keys h1.me
  · split at h
    · rename_i n p a p2
      simp only [Bool.and_eq_true, decide_eq_true_eq] at h
      obtain ⟨⟨rfl, hb⟩, h⟩ := h
      obtain ⟨g1, g2⟩ := bltOk_of E hb
      have z := hk _ h
      obtain ⟨a', rfl, h1⟩ := z.one
      exact mi_r1 E.ok g2 g1 z.ma.1 h1.ns
    · cases h
  · split at h
    · rename_i n p a b p2
      simp only [Bool.and_eq_true, decide_eq_true_eq] at h
      obtain ⟨⟨rfl, hb⟩, h⟩ := h
      obtain ⟨g1, g2⟩ := bltOk_of E hb
      have z := hk _ h
      obtain ⟨a', b', rfl, h1, h2⟩ := z.two
      exact mi_r2 E.ok g2 g1 z.ma.1 h1.ns h2.ns
    · cases h
  · split at h
    · rename_i n p a p2
      simp only [Bool.and_eq_true, decide_eq_true_eq] at h
      obtain ⟨⟨⟨rfl, hb⟩, h⟩, ht⟩ := h
      obtain ⟨g1, g2⟩ := bltOk_of E hb
      have z := hk _ h
      obtain ⟨a', rfl, h1⟩ := z.one
      unfold isTup at ht
      split at ht
      · exact mi_enum E.ok g2 g1 z.ma.1 h1.ns
      · cases ht
    · cases h
  · split at h
    · rename_i n p a b p2
      simp only [Bool.and_eq_true, decide_eq_true_eq] at h
      obtain ⟨⟨⟨rfl, hb⟩, h⟩, ht⟩ := h
      obtain ⟨g1, g2⟩ := bltOk_of E hb
      have z := hk _ h
      obtain ⟨a', b', rfl, h1, h2⟩ := z.two
      unfold isTup at ht
      split at ht
      · exact mi_zip E.ok g2 g1 z.ma.1 h1.ns h2.ns
      · cases ht
    · cases h
  · cases h
theorem lm_ok {X : Cx} {W : WX} {C : Cc} (E : Env3 X ca fa C call W) {f : P} {nm : Str} {a : Nat} {o : CE} {es : List CE} {x : Expr} {xs : List Expr} {ap p : Pos} (hf : lmF f = some (nm, a)) (hl : xs.length = a) (ho : Ok3 X ca W x (eval C.G call o)) (hb : bareCall x = false) (hp : (ap.endLine == p.line) = true)
    (h : OkL X ca W C.G call es xs) : Ok3 X ca W (.Call (.Attribute x nm ap) xs [] p) (fun en S => (eval C.G call o en S).bind fun d S => if (litems S d).isSome then (evalL C.G call es en S).bind fun ds S => prim f (d :: ds) S else .bad) := by
  have hu := E.ok.units
  obtain ⟨h1, h2, h3⟩ := h.ma
  have hms : ∀ en S ds S', evalL C.G call es en S = .ok ds S' → ds.length = a := fun en S ds S' z => by rw [evalL_len z, ← h3, hl]
  cases xs with
  | nil =>
    cases h
    cases f <;> first | (cases hf; done) | skip
    all_goals cases hf
    all_goals first | (cases hl; done) | skip
    · exact ok_plain ((pe_gm0 PySem.F.slot_list_pop PySem.F.type_list_pop m_pop ho.me hb hp).eq fun en S => rfl) rfl rfl
    · exact ok_plain ((pe_gm0 PySem.F.slot_list_reverse PySem.F.type_list_reverse m_reverse ho.me hb hp).eq fun en S => rfl) rfl rfl
    · exact ok_plain ((pe_gm0 PySem.F.slot_list_clear PySem.F.type_list_clear m_clear ho.me hb hp).eq fun en S => rfl) rfl rfl
  | cons e xs =>
    have hlt : (e :: xs).length < 30 := by
      rw [hl]
      cases f <;> first | (cases hf; done) | (cases hf; decide)
    cases f <;> first | (cases hf; done) | skip
    all_goals cases hf
    all_goals first | (cases hl; done) | skip
    · exact ok_plain (pe_gm PySem.F.slot_list_append PySem.F.type_list_append m_append ho.me h1 hl hlt h2 hb hp hms) rfl rfl
    · exact ok_plain (pe_gm PySem.F.slot_list_extend PySem.F.type_list_extend m_extend ho.me h1 hl hlt h2 hb hp hms) rfl rfl
    · exact ok_plain (pe_gm PySem.F.slot_list_insert PySem.F.type_list_insert m_insert ho.me h1 hl hlt h2 hb hp hms) rfl rfl
    · exact ok_plain (pe_gm PySem.F.slot_list_count PySem.F.type_list_count (m_count hu) ho.me h1 hl hlt h2 hb hp hms) rfl rfl
end
end MI

/-! MI, 21: soundness for expressions, all. -/
namespace MI
open PySem PySem.Spec PyProof.Rows L2

section
variable {ca : CA} {fa : Nat → Addr} {call : Nat → List D → Store → R D}
theorem and_ok {X : Cx} {W : WX} {x y : Expr} {r : List Expr} {p : Pos} {ma mb : Env → Store → R D} (hx : isIf x = false) (h1 : Ok3 X ca W x ma) (h2 : Ok3 X ca W (.BoolOp .And (y :: r) p) mb) : Ok3 X ca W (.BoolOp .And (x :: y :: r) p) (sAnd ma mb) := by
  have w := mw_and (h1.mt hx) (h2.mw _ _ _ rfl)
  exact ⟨rfl, me_and h1.me h2.me, fun _ => w.pt, fun op es p z => by cases z; exact w⟩
theorem or_ok {X : Cx} {W : WX} {x y : Expr} {r : List Expr} {p : Pos} {ma mb : Env → Store → R D} (hx : isIf x = false) (h1 : Ok3 X ca W x ma) (h2 : Ok3 X ca W (.BoolOp .Or (y :: r) p) mb) : Ok3 X ca W (.BoolOp .Or (x :: y :: r) p) (sOr ma mb) := by
  have w := mw_or (h1.mt hx) (h2.mw _ _ _ rfl)
  exact ⟨rfl, me_or h1.me h2.me, fun _ => w.pt, fun op es p z => by cases z; exact w⟩
theorem one_and {X : Cx} {W : WX} {x : Expr} {p : Pos} {m : Env → Store → R D} (hx : isIf x = false) (h : Ok3 X ca W x m) : Ok3 X ca W (.BoolOp .And [x] p) m :=
  ⟨rfl, me_one h.me, fun _ => (mw_and1 (h.mt hx)).pt, fun op es p z => by cases z; exact mw_and1 (h.mt hx)⟩
theorem one_or {X : Cx} {W : WX} {x : Expr} {p : Pos} {m : Env → Store → R D} (hx : isIf x = false) (h : Ok3 X ca W x m) : Ok3 X ca W (.BoolOp .Or [x] p) m :=
  ⟨rfl, me_one h.me, fun _ => (mw_or1 (h.mt hx)).pt, fun op es p z => by cases z; exact mw_or1 (h.mt hx)⟩
theorem call0 {X : Cx} {C : Cc} {W : WX} {xs : List Expr} (h : OkL X ca W C.G call [] xs) : xs = [] := by
  cases h
  rfl
mutual
theorem ck_ok : ∀ (m : CE) (X : Cx) (W : WX) (C : Cc) (e : Expr), Env3 X ca fa C call W → ck m C e = true → Ok3 X ca W e (eval C.G call m)
  | .var i, X, W, C, e, E, h => by
    unfold ck at h
    split at h
    · rename_i x p
      unfold slot at h
      simp only [Bool.and_eq_true, decide_eq_true_eq] at h
      obtain ⟨n1, n2⟩ := noDbg_of h.2
      exact ok_plain (me_var (by rw [E.nm]; exact h.1.1) (E.sco.vis h.1.2) n1 n2) rfl rfl
    · cases h
  | .cst d, X, W, C, e, E, h => cst_ok (by unfold ck at h; exact h)
  | .glb x d, X, W, C, e, E, h => by
    unfold ck at h
    split at h
    · rename_i y p i
      simp only [Bool.and_eq_true, decide_eq_true_eq] at h
      obtain ⟨⟨⟨h1, h2⟩, h3⟩, h4⟩ := h
      obtain ⟨n1, n2⟩ := noDbg_of h4
      obtain ⟨t, ht⟩ := E.ok.gnum _ _ h3
      exact ok_plain (me_cst (pe_glob (v := .int i) (E.sco.gls h2) ht ⟨t, rfl⟩ n1) fun _ _ => .int _) rfl rfl
    · cases h
  | .tup es, X, W, C, e, E, h => by
    unfold ck at h
    split at h
    · exact ok_plain (me_tup (cks_ok es X W C _ E h).ma.1) rfl rfl
    · cases h
  | .lst es, X, W, C, e, E, h => by
    unfold ck at h
    split at h
    · exact ok_plain (me_lst (cks_ok es X W C _ E h).ma.1) rfl rfl
    · cases h
  | .dnew, X, W, C, e, E, h => by
    unfold ck at h
    split at h
    · exact ok_plain me_dnew rfl rfl
    · cases h
  | .sl2 o l hh, X, W, C, e, E, h => by
    unfold ck at h
    split at h
    · simp only [Bool.and_eq_true] at h
      exact ok_plain (me_sl2 (ck_ok o X W C _ E h.1.1).me (ck_ok l X W C _ E h.1.2).me (ck_ok hh X W C _ E h.2).me) rfl rfl
    · cases h
  | .slL o l, X, W, C, e, E, h => by
    unfold ck at h
    split at h
    · simp only [Bool.and_eq_true] at h
      exact ok_plain (me_slL (ck_ok o X W C _ E h.1).me (ck_ok l X W C _ E h.2).me) rfl rfl
    · cases h
  | .slH o l, X, W, C, e, E, h => by
    unfold ck at h
    split at h
    · simp only [Bool.and_eq_true] at h
      exact ok_plain (me_slH (ck_ok o X W C _ E h.1).me (ck_ok l X W C _ E h.2).me) rfl rfl
    · cases h
  | .prim f es, X, W, C, e, E, h => by
    unfold ck at h
    exact prim_ok E (fun xs z => cks_ok es X W C xs E z) h
  | .lm f o es, X, W, C, e, E, h => by
    unfold ck at h
    split at h
    · rename_i x nm ap xs p n a hf
      simp only [Bool.and_eq_true, decide_eq_true_eq] at h
      obtain ⟨⟨⟨⟨⟨rfl, h2⟩, h3⟩, h4⟩, h5⟩, h6⟩ := h
      exact lm_ok E hf h2 (ck_ok o X W C _ E h3) (by simpa using h5) h6 (cks_ok es X W C _ E h4)
    · cases h
  | .and a b, X, W, C, e, E, h => by
    unfold ck at h
    split at h
    · simp only [Bool.and_eq_true] at h
      obtain ⟨⟨⟨h1, h2⟩, h3⟩, h4⟩ := h
      exact and_ok (by simpa using h3) (ck_ok a X W C _ E h1) (one_and (by simpa using h4) (ck_ok b X W C _ E h2))
    · simp only [Bool.and_eq_true] at h
      obtain ⟨⟨h1, h2⟩, h3⟩ := h
      exact and_ok (by simpa using h3) (ck_ok a X W C _ E h1) (ck_ok b X W C _ E h2)
    · cases h
  | .or a b, X, W, C, e, E, h => by
    unfold ck at h
    split at h
    · simp only [Bool.and_eq_true] at h
      obtain ⟨⟨⟨h1, h2⟩, h3⟩, h4⟩ := h
      exact or_ok (by simpa using h3) (ck_ok a X W C _ E h1) (one_or (by simpa using h4) (ck_ok b X W C _ E h2))
    · simp only [Bool.and_eq_true] at h
      obtain ⟨⟨h1, h2⟩, h3⟩ := h
      exact or_ok (by simpa using h3) (ck_ok a X W C _ E h1) (ck_ok b X W C _ E h2)
    · cases h
  | .not a, X, W, C, e, E, h => by
    unfold ck at h
    split at h
    · simp only [Bool.and_eq_true] at h
      have z := ck_ok a X W C _ E h.1
      exact ⟨rfl, me_not z.me, fun _ => mt_not (z.mt (by simpa using h.2)), fun _ _ _ q => by cases q⟩
    · cases h
  | .ifx c a b, X, W, C, e, E, h => by
    unfold ck at h
    split at h
    · simp only [Bool.and_eq_true] at h
      obtain ⟨⟨⟨h1, h2⟩, h3⟩, h4⟩ := h
      exact ⟨rfl, me_ifx ((ck_ok c X W C _ E h1).mt (by simpa using h4)) (ck_ok a X W C _ E h2).me (ck_ok b X W C _ E h3).me, (fun q => by cases q), fun _ _ _ q => by cases q⟩
    · cases h
  | .chn f g a b c, X, W, C, e, E, h => by
    unfold ck at h
    split at h
    · rename_i x0 op1 op2 y0 z0 p0
      simp only [Bool.and_eq_true] at h
      obtain ⟨⟨⟨⟨⟨h1, h2⟩, h3⟩, h4⟩, h5⟩, h6⟩ := h
      have hu := E.ok.units
      have z1 := ck_ok a X W C _ E h3
      have z2 := ck_ok b X W C _ E h4
      have z3 := ck_ok c X W C _ E h5
      have hs := marks2_of (op := op1) (op' := op2) (a := y0) (show isSet z0 = false by simpa using h6)
      exact ⟨rfl, me_chn (cmp_ok hu h1) (cmp_ok hu h2) z1.me z2.me z3.me hs, fun _ => mt_chn (cmp_ok hu h1) (cmp_ok hu h2) z1.me z2.me z3.me hs, fun _ _ _ q => by cases q⟩
    · cases h
  | .chn3 _ _ _ _ _ _ _, X, W, C, e, E, h => by
    unfold ck at h
    cases h
  | .call j es, X, W, C, e, E, h => by
    unfold ck at h
    split at h
    · rename_i n p x xs p2
      simp only [Bool.and_eq_true, decide_eq_true_eq] at h
      obtain ⟨⟨⟨h1, h2⟩, h3⟩, h4⟩ := h
      obtain ⟨a1, a2, a3⟩ := (cks_ok es X W C _ E h4).ma
      exact ok_plain (pe_gcall E.tk E.ok h3 (E.sco.gls h1) (noDbg_of h2).1 a2 a1) rfl rfl
    · cases h
  | .new c es, X, W, C, e, E, h => by
    unfold ck at h
    split at h
    · rename_i n p xs p2
      simp only [Bool.and_eq_true, decide_eq_true_eq] at h
      obtain ⟨⟨⟨⟨h1, h2⟩, h3⟩, h4⟩, h5⟩ := h
      obtain ⟨j, hj⟩ := Option.isSome_iff_exists.mp h4
      have z := cks_ok es X W C _ E h5
      obtain ⟨a1, a2, a3⟩ := z.ma
      cases xs with
      | nil =>
        cases es with
        | cons _ _ => cases z
        | nil =>
          refine ok_plain ((pe_gmake0 E.tk E.ok h3 hj (E.sco.gls h1) (noDbg_of h2).1).eq fun en S => ?_) rfl rfl
          unfold eval
          rw [hj]
          rfl
      | cons x xs =>
        refine ok_plain ((pe_gmake E.tk E.ok h3 hj (E.sco.gls h1) (noDbg_of h2).1 a2 a1).eq fun en S => ?_) rfl rfl
        unfold eval
        rw [hj]
        try rfl
    · cases h
  | .meth mn o es, X, W, C, e, E, h => by
    unfold ck at h
    split at h
    · rename_i x nm ap xs p
      simp only [Bool.and_eq_true, decide_eq_true_eq] at h
      obtain ⟨⟨⟨⟨⟨rfl, h2⟩, h3⟩, h4⟩, h5⟩, h6⟩ := h
      have zo := ck_ok o X W C _ E h2
      have z := cks_ok es X W C _ E h3
      obtain ⟨a1, a2, a3⟩ := z.ma
      cases xs with
      | nil =>
        cases es with
        | cons _ _ => cases z
        | nil => exact ok_plain (pe_gmeth0 E.tk E.ok zo.me (by simpa using h4) h5) rfl rfl
      | cons x2 xs => exact ok_plain (pe_gmeth E.tk E.ok zo.me a1 (by simpa using h4) a2 h6 h5) rfl rfl
    · cases h
  | .fld f o, X, W, C, e, E, h => by
    unfold ck at h
    split at h
    · simp only [Bool.and_eq_true, decide_eq_true_eq] at h
      obtain ⟨⟨rfl, h2⟩, h3⟩ := h
      exact ok_plain (me_fld E.ok (ck_ok o X W C _ E h2).me (by simpa using h3)) rfl rfl
    · cases h
  | .comp own k ies t cond elt, X, W, C, e, E, h => by
    unfold ck at h
    split at h
    · rename_i el tg it ifs scope p
      simp only [Bool.and_eq_true] at h
      obtain ⟨⟨⟨⟨⟨⟨h1, h2⟩, h3⟩, h4⟩, h5⟩, h6⟩, h7⟩ := h
      have B := E.sco.blkOk E.nm h5
      have z := me_comp (W := W) (pos := p) E.calm E.nd (it_ok E (fun xs q => cks_ok ies X W C xs E q) h1) B (fun s H Ca cl fp => (ckT_ok (Env3.blk (s := s) (H := H) (Ca := Ca) (cl := cl) (fp := fp) E B.kind) t tg h2).1)
        (fun s H Ca cl fp => ckCond_ok cond _ NoWX _ ifs (Env3.blk (s := s) (H := H) (Ca := Ca) (cl := cl) (fp := fp) E B.kind) h3) (fun s H Ca cl fp => (ck_ok elt _ NoWX _ el (Env3.blk (s := s) (H := H) (Ca := Ca) (cl := cl) (fp := fp) E B.kind) h4).me)
        (by simpa using h7) (fun i hi => by rw [own_map]; exact List.contains_iff_mem.mp (List.all_eq_true.mp h6 i hi))
      rw [own_map] at z
      exact ok_plain z rfl rfl
    · cases h
theorem cks_ok : ∀ (ms : List CE) (X : Cx) (W : WX) (C : Cc) (es : List Expr), Env3 X ca fa C call W → cks ms C es = true → OkL X ca W C.G call ms es
  | [], X, W, C, es, E, h => by
    unfold cks at h
    cases es with
    | nil => exact .nil
    | cons _ _ => cases h
  | m :: ms, X, W, C, es, E, h => by
    unfold cks at h
    split at h
    · rw [Bool.and_eq_true] at h
      exact .cons (ck_ok m X W C _ E h.1) (cks_ok ms X W C _ E h.2)
    · cases h
theorem ckCond_ok : ∀ (ms : List CE) (X : Cx) (W : WX) (C : Cc) (es : List Expr), Env3 X ca fa C call W → ckCond ms C es = true → PTs X es (tMt X.K ca W (evalC C.G call ms))
  | [], X, W, C, es, E, h => by
    unfold ckCond at h
    cases es with
    | nil => exact pts_no
    | cons _ _ => cases h
  | m :: ms, X, W, C, es, E, h => by
    unfold ckCond at h
    split at h
    · rw [Bool.and_eq_true] at h
      exact pts_yes ((ck_ok m X W C _ E h.1).mt (by simpa using h.2))
    · cases h
end
end
end MI

/-! MI, 22: statements: whether they stand for a text, and that they do what it does. -/
namespace MI
open PySem PySem.Spec PyProof.Rows L2

def compNames : Expr → List (Str × NameKind)
  | .ListComp _ _ s _ => s.names
  | _ => []
def augOk (op : Operator) (f : P) : Bool := match op with
  | .Add => decide (f = .add)
  | .Sub => decide (f = .sub)
  | _ => false
def slotL (C : Cc) (i : Nat) (x : Str) : Bool := slot C i x && (match C.sc.names.lookup x with | some .local => true | _ => false)
/-- name = a comprehension, on one line -/
def ckSetC (C : Cc) (t : CT) (m : CE) (tg e : Expr) : Bool := match t, tg, e with
  | .name i, .Name y py, .ListComp el gs scope pos => slotL C i y && (py.line == pos.line) && !(scope.names.any fun (n, k) => n == y && (k == .local || k == .cell)) && ck m C e
  | _, _, _ => false
/-- several names at once -/
def ckPar (C : Cc) (is : List Nat) (k : List Expr → Bool) (tg e : Expr) : Bool := match is, tg, e with
  | [i, j], .Tuple [.Name x px, .Name y py] _ _, .Tuple [a, b] _ _ => slotL C i x && slotL C j y && decide (i ≠ j) && (py.line == px.line) && !(x == y) && !([a, b].all (foldedForSure 8)) && !([a, b].all (constantsAlone 8)) && k [a, b]
  | [i, j, l], .Tuple [.Name x px, .Name y py, .Name z pz] _ _, .Tuple [a, b, c] _ _ => slotL C i x && slotL C j y && slotL C l z && decide (i ≠ j) && decide (i ≠ l) && decide (j ≠ l) && (py.line == px.line) && (pz.line == px.line) && !(x == y) && !(x == z) && !(y == z) &&
      !([a, b, c].all (foldedForSure 8)) && !([a, b, c].all (constantsAlone 8)) && k [a, b, c]
  | _, _, _ => false
/-- no swapped stores -/
def noSwap : Expr → Expr → Bool
  | .Tuple ts _ _, .Tuple vs _ _ => decide (ts.length ≠ vs.length) || vs.all (foldedForSure 8)
  | .List _ _, .Tuple _ _ _ => false
  | _, _ => true
mutual
def ckS : CS → Cc → Stmt → Bool
  | .expr x, C, s => (match s with | .Expr e _ => ck x C e && !isComp e | _ => false)
  | .asg t x, C, s => (match s with | .Assign [tg] e _ => (ckT t C tg && ck x C e && !isComp e && noSwap tg e) || ckSetC C t x tg e | _ => false)
  | .par is es, C, s => (match s with | .Assign [tg] e _ => ckPar C is (cks es C) tg e | _ => false)
  | .ret x, C, s => (match s with | .Return (some e) _ => ck x C e | .Return none _ => (match x with | .cst .non => true | _ => false) | _ => false)
  | .ite c a b, C, s => (match s with | .If e xs ys _ => ck c C e && !isIf e && ckSs a C xs && ckSs b C ys | _ => false)
  | .whl c b, C, s => (match s with | .While e xs [] _ => ck c C e && !isIf e && ckSs b C xs | _ => false)
  | .for_ k ies t b, C, s => (match s with | .For tg it xs [] _ => ckIt C k (cks ies C) tg it && ckT t C tg && ckSs b C xs && !isSet it | _ => false)
  | .aug i f x, C, s => (match s with | .AugAssign (.Name y _) op e _ => slot C i y && isLoc C y && augOk op f && ck x C e | _ => false)
  | .augSub o i f x, C, s => (match s with | .AugAssign (.Subscript a b _) op e _ => ck o C a && ck i C b && ck x C e && augOk op f && !isSlice b | _ => false)
  | .setSub o i x, C, s => (match s with | .Assign [.Subscript a b _] e _ => ck x C e && ck o C a && ck i C b && !isComp e && !isSlice b | _ => false)
  | .setFld o f x, C, s => (match s with | .Assign [.Attribute a n _] e _ => decide (n = f) && ck x C e && ck o C a && !isComp e | _ => false)
  | .rais c, C, s => (match s with | .Raise (some (.Call (.Name x _) [.Constant (.str _) _ _] [] _)) none _ => isGl C x && decide (C.T.exc.lookup x = some c) | _ => false)
  | .tryx _ _ _ _, _, _ => false
  | .pass, _, s => (match s with | .Pass _ => true | .Expr (.Constant (.str _) _ _) _ => true | _ => false)
def ckSs : List CS → Cc → List Stmt → Bool
  | [], _, xs => xs.isEmpty
  | m :: ms, C, xs => (match xs with | x :: xs => ckS m C x && ckSs ms C xs | [] => false)
end
structure Env4 (X : Cx) (ca : CA) (fa : Nat → Addr) (C : Cc) (call : Nat → List D → Store → R D) (W : WX) : Prop extends Env3 X ca fa C call W where
  po : PassesOwn (model X.prog X.w) X.A X.env X.xe
  rais : ∀ (x : Str) (c : Nat) (msg : Str) (j : Nat) (p1 p2 p3 p : Pos), C.T.exc.lookup x = some c → Gl X x → MS X ca W (.Raise (some (.Call (.Name x p1) [.Constant (.str msg) j p2] [] p3)) none p) (fun e S => .exc c e S)
section
variable {X : Cx} {ca : CA} {fa : Nat → Addr} {C : Cc} {call : Nat → List D → Store → R D} {W : WX}
theorem slotL_of (E : Env3 X ca fa C call W) {i : Nat} {x : Str} (h : slotL C i x = true) : X.N[i]? = some x ∧ X.env.scope.names.lookup x = some .local := by
  unfold slotL slot at h
  simp only [Bool.and_eq_true, decide_eq_true_eq] at h
  refine ⟨by rw [E.nm]; exact h.1, ?_⟩
  have h2 := h.2
  split at h2
  · rename_i e; exact E.sco.loc _ e
  · cases h2
theorem aug_ok {op : Operator} {f : P} (h : augOk op f = true) : ∃ g : Int → Int → Int, PIp X op (ipI g) ∧ ∀ a b, augF f a b = some (g a b) := by
  cases op <;> simp only [augOk, decide_eq_true_eq] at h <;> first | (cases h; done) | skip
  · subst h; exact ⟨_, ip_add, fun _ _ => rfl⟩
  · subst h; exact ⟨_, ip_sub, fun _ _ => rfl⟩
theorem noSwap_ok {tg e : Expr} {env : PySem.Env} (h : noSwap tg e = true) : swappedStores [tg] e env = pure none := by
  by_cases he : isTupE e = true
  · cases e <;> first | (cases he; done) | skip
    rename_i vs k p
    cases tg <;> first | (unfold swappedStores; rfl; done) | skip
    · cases h
    · rename_i ts k2 p2
      unfold noSwap at h
      rw [Bool.or_eq_true, decide_eq_true_eq] at h
      exact sw_folded h
  · exact stores_of (by simpa using he)
theorem setC_ok (E : Env4 X ca fa C call W) {t : CT} {m : CE} {tg e : Expr} {p : Pos} (h : ckSetC C t m tg e = true) : MS X ca W (.Assign [tg] e p) (fun en S => (eval C.G call m en S).sr en fun d S => match bindT t d en with | some e => .nx e S | none => .bad) := by
  unfold ckSetC at h
  split at h
  · rename_i i y py el gs scope pos
    simp only [Bool.and_eq_true] at h
    obtain ⟨⟨⟨h1, h2⟩, h3⟩, h4⟩ := h
    obtain ⟨n1, n2⟩ := slotL_of E.toEnv3 h1
    have h3' : (scope.names.any fun (n, k) => n == y && (k == .local || k == .cell)) = false := by simpa using h3
    cases m <;> first | (unfold ck at h4; cases h4; done) | skip
    · rename_i d
      unfold ck at h4
      cases d <;> cases h4
    · rename_i own k ies t2 cond elt
      unfold ck at h4
      split at h4
      · rename_i heq
        cases heq
        simp only [Bool.and_eq_true] at h4
        obtain ⟨⟨⟨⟨⟨⟨a1, a2⟩, a3⟩, a4⟩, a5⟩, a6⟩, a7⟩ := h4
        have B := E.sco.blkOk E.nm a5
        have E' := E.toEnv3
        have z := ms_setComp (W := W) (spos := p) E.calm E.nd n1 n2 E.sco.kind h2 h3' (it_ok E' (fun xs q => cks_ok ies X W C xs E' q) a1) B (fun s H Ca cl fp => (ckT_ok (Env3.blk (s := s) (H := H) (Ca := Ca) (cl := cl) (fp := fp) E' B.kind) t2 _ a2).1)
          (fun s H Ca cl fp => ckCond_ok cond _ NoWX _ _ (Env3.blk (s := s) (H := H) (Ca := Ca) (cl := cl) (fp := fp) E' B.kind) a3) (fun s H Ca cl fp => (ck_ok elt _ NoWX _ _ (Env3.blk (s := s) (H := H) (Ca := Ca) (cl := cl) (fp := fp) E' B.kind) a4).me)
          (by simpa using a7) (fun i hi => by rw [own_map]; exact List.contains_iff_mem.mp (List.all_eq_true.mp a6 i hi))
        rw [own_map] at z
        exact z
      · cases h4
  · cases h
theorem OkL.three {ms : List CE} {x y z : Expr} (h : OkL X ca W C.G call ms [x, y, z]) : isStarred x = false ∧ isStarred y = false ∧ isStarred z = false := by
  cases h with
  | cons h1 t => cases t with
    | cons h2 t => cases t with
      | cons h3 t => exact ⟨h1.ns, h2.ns, h3.ns⟩
theorem par_ok (E : Env4 X ca fa C call W) {is : List Nat} {es : List CE} {tg e : Expr} {p : Pos} (h : ckPar C is (cks es C) tg e = true) : MS X ca W (.Assign [tg] e p) (fun en S => match evalL C.G call es en S with
    | .ok ds S => (match bindPar is ds en with | some e => .nx e S | none => .bad)
    | .exc c S => .exc c en S
    | .bad => .bad) := by
  have E' := E.toEnv3
  unfold ckPar at h
  split at h
  · simp only [Bool.and_eq_true, decide_eq_true_eq, Bool.not_eq_true'] at h
    obtain ⟨⟨⟨⟨⟨⟨⟨h1, h2⟩, h3⟩, h4⟩, h5⟩, h6⟩, h7⟩, h8⟩ := h
    obtain ⟨n1, n2⟩ := slotL_of E' h1
    obtain ⟨n3, n4⟩ := slotL_of E' h2
    have z := cks_ok es X W C _ E' h8
    obtain ⟨a, b, rfl, z1, z2⟩ := z.two
    exact ms_par E.calm E.nd n1 n3 h3 E.sco.kind n2 n4 h4 h5 z1.ns z2.ns h6 h7 z.ma.1
  · simp only [Bool.and_eq_true, decide_eq_true_eq, Bool.not_eq_true'] at h
    obtain ⟨⟨⟨⟨⟨⟨⟨⟨⟨⟨⟨⟨⟨h1, h2⟩, h3⟩, h4⟩, h5⟩, h6⟩, h7⟩, h8⟩, h9⟩, h10⟩, h11⟩, h12⟩, h13⟩, h14⟩ := h
    obtain ⟨n1, n2⟩ := slotL_of E' h1
    obtain ⟨n3, n4⟩ := slotL_of E' h2
    obtain ⟨n5, n6⟩ := slotL_of E' h3
    have z := cks_ok es X W C _ E' h14
    obtain ⟨z1, z2, z3⟩ := z.three
    exact ms_par3 E.calm E.nd n1 n3 n5 h4 h5 h6 E.sco.kind n2 n4 n6 h7 h8 h9 h10 h11 z1 z2 z3 h12 h13 z.ma.1
  · cases h
mutual
theorem ckS_ok (E : Env4 X ca fa C call W) : ∀ (m : CS) (s : Stmt), ckS m C s = true → MS X ca W s (exec C.G call m)
  | .expr x, s, h => by
    unfold ckS at h
    split at h
    · rw [Bool.and_eq_true] at h
      exact ms_expr (ck_ok x X W C _ E.toEnv3 h.1).me (by simpa using h.2)
    · cases h
  | .asg t x, s, h => by
    unfold ckS at h
    split at h
    · rw [Bool.or_eq_true] at h
      rcases h with h | h
      · simp only [Bool.and_eq_true] at h
        obtain ⟨⟨⟨h1, h2⟩, h3⟩, h4⟩ := h
        obtain ⟨t1, t2⟩ := ckT_ok E.toEnv3 t _ h1
        exact ms_asg (ck_ok x X W C _ E.toEnv3 h2).me t1 (by simpa using h3) (noSwap_ok h4) t2
      · exact setC_ok E h
    · cases h
  | .par is es, s, h => by
    unfold ckS at h
    split at h
    · exact par_ok E h
    · cases h
  | .ret x, s, h => by
    unfold ckS at h
    split at h
    · exact ms_ret (ck_ok x X W C _ E.toEnv3 h).me
    · split at h
      · exact ms_retN
      · cases h
    · cases h
  | .ite c a b, s, h => by
    unfold ckS at h
    split at h
    · simp only [Bool.and_eq_true] at h
      obtain ⟨⟨⟨h1, h2⟩, h3⟩, h4⟩ := h
      exact ms_if ((ck_ok c X W C _ E.toEnv3 h1).mt (by simpa using h2)) (ckSs_ok E a _ h3) (ckSs_ok E b _ h4)
    · cases h
  | .whl c b, s, h => by
    unfold ckS at h
    split at h
    · simp only [Bool.and_eq_true] at h
      obtain ⟨⟨h1, h2⟩, h3⟩ := h
      exact ms_while E.po ((ck_ok c X W C _ E.toEnv3 h1).mt (by simpa using h2)) (ckSs_ok E b _ h3) fuelW
    · cases h
  | .for_ k ies t b, s, h => by
    unfold ckS at h
    split at h
    · simp only [Bool.and_eq_true] at h
      obtain ⟨⟨⟨h1, h2⟩, h3⟩, h4⟩ := h
      have E' := E.toEnv3
      exact ms_for E.po E.calm (it_ok E' (fun xs q => cks_ok ies X W C xs E' q) h1) (ckT_ok E' t _ h2).1 (ckSs_ok E b _ h3) (by simpa using h4)
    · cases h
  | .aug i f x, s, h => by
    unfold ckS at h
    split at h
    · unfold slot at h
      simp only [Bool.and_eq_true, decide_eq_true_eq] at h
      obtain ⟨⟨⟨h1, h2⟩, h3⟩, h4⟩ := h
      obtain ⟨l1, l2⟩ := E.sco.locs h2
      obtain ⟨g, g1, g2⟩ := aug_ok (X := X) h3
      exact ms_aug E.nd (by rw [E.nm]; exact h1) l1 l2 (ck_ok x X W C _ E.toEnv3 h4).me g1 g2
    · cases h
  | .augSub o i f x, s, h => by
    unfold ckS at h
    split at h
    · simp only [Bool.and_eq_true] at h
      obtain ⟨⟨⟨⟨h1, h2⟩, h3⟩, h4⟩, h5⟩ := h
      obtain ⟨g, g1, g2⟩ := aug_ok (X := X) h4
      have E' := E.toEnv3
      exact ms_augSub E.ok.units (ck_ok o X W C _ E' h1).me (ck_ok i X W C _ E' h2).me (ck_ok x X W C _ E' h3).me (by simpa using h5) g1 g2
    · cases h
  | .setSub o i x, s, h => by
    unfold ckS at h
    split at h
    · simp only [Bool.and_eq_true] at h
      obtain ⟨⟨⟨⟨h1, h2⟩, h3⟩, h4⟩, h5⟩ := h
      have E' := E.toEnv3
      exact ms_setSub E.ok.units (ck_ok o X W C _ E' h2).me (ck_ok i X W C _ E' h3).me (ck_ok x X W C _ E' h1).me (by simpa using h4) (by simpa using h5) (by unfold swappedStores; rfl)
    · cases h
  | .setFld o f x, s, h => by
    unfold ckS at h
    split at h
    · simp only [Bool.and_eq_true, decide_eq_true_eq] at h
      obtain ⟨⟨⟨rfl, h2⟩, h3⟩, h4⟩ := h
      have E' := E.toEnv3
      exact ms_fld E.ok (ck_ok o X W C _ E' h3).me (ck_ok x X W C _ E' h2).me (by simpa using h4)
    · cases h
  | .rais c, s, h => by
    unfold ckS at h
    split at h
    · simp only [Bool.and_eq_true, decide_eq_true_eq] at h
      exact E.rais _ c _ _ _ _ _ _ h.2 (E.sco.gls h.1)
    · cases h
  | .tryx _ _ _ _, s, h => by
    unfold ckS at h
    cases h
  | .pass, s, h => by
    unfold ckS at h
    split at h
    · exact ms_pass
    · exact ms_doc
    · cases h
theorem ckSs_ok (E : Env4 X ca fa C call W) : ∀ (ms : List CS) (ss : List Stmt), ckSs ms C ss = true → MSs X ca W ss (execs C.G call ms)
  | [], ss, h => by
    unfold ckSs at h
    cases ss with
    | nil => exact mss_nil
    | cons _ _ => cases h
  | m :: ms, ss, h => by
    unfold ckSs at h
    split at h
    · rw [Bool.and_eq_true] at h
      exact mss_cons (ckS_ok E m _ h.1) (ckSs_ok E ms _ h.2)
    · cases h
end
end
end MI

/-! MI, 23: defs. -/
namespace MI
open PySem PySem.Spec PyProof.Rows L2

/-- what is known of the module -/
structure ModOk (K : PySem.W.Frag) (mg : Str → Option Value) (ca : CA) (fa : Nat → Addr) (G : Prog) (T : Tab) : Prop where
  fld : ∀ c f, G.fld c f = true → Cls K (ca c) ∧ NoAttr K (ca c) f
  meth : ∀ c m j, G.meth c m = some j → Cls K (ca c) ∧ Meth K (ca c) m (fa j)
  init : ∀ c j, G.init c = some j → Mk K (ca c) (fa j)
  gfn : ∀ x j, T.fns.lookup x = some j → mg x = some (.ref (fa j)) ∧ PySem.W.keepIn K (.ref (fa j)) = true
  gcl : ∀ x c, T.cls.lookup x = some c → mg x = some (.ref (ca c))
  gnum : ∀ x i, T.num.lookup x = some i → ∃ t, mg x = some (.int i t)
  gno : ∀ x, x ∈ T.blt → mg x = none
  rais : ∀ (X : Cx) (W : WX), X.K = K → X.mg = mg → X.calm = true → Takes X W → ∀ (x : Str) (c : Nat) (msg : Str) (j : Nat) (p1 p2 p3 p : Pos), T.exc.lookup x = some c → Gl X x → MS X ca W (.Raise (some (.Call (.Name x p1) [.Constant (.str msg) j p2] [] p3)) none p) (fun e S => .exc c e S)
/-- what is known of a def -/
structure DefOk (K : PySem.W.Frag) (f : Addr) (G : Prog) (T : Tab) (fn : Fn) (fd : FuncData) (ps : List Str) : Prop where
  ex : ∃ (x qual : Str) (st : Stmt) (N : List Str), Fun K x qual st f fd ∧ FnScope N ps (defScope st) ∧ ps.length = fn.np ∧ N.length = fn.ns ∧ ckSs fn.body ⟨N, defScope st, T, G⟩ (defBody st) = true
  binds : Binds K fd ps []
section
variable {P : Program} {w : World} {K : PySem.W.Frag} {mg : Str → Option Value} {base : Heap} {ca : CA} {fa : Nat → Addr} {G : Prog} {T : Tab}
theorem start_er {H : Hp} {ro : List Addr} {ds : List D} {vs : List V} {N : List Str} {fn : Fn} (h : RDs H ro ds vs) (hn : N.length = fn.ns) : ER H ro (startE fn ds) (L2.start N vs) := by
  unfold startE L2.start
  rw [h.length, hn]
  have rep : ∀ k : Nat, ER H ro (List.replicate k none) (List.replicate k none) := fun k => by
    induction k with
    | zero => exact .nil
    | succ k ih => exact .cons True.intro ih
  generalize fn.ns - vs.length = k
  have go : ∀ (ds : List D) (vs : List V), RDs H ro ds vs → ER H ro (ds.map some ++ List.replicate k none) (vs.map some ++ List.replicate k none) := fun ds => by
    induction ds with
    | nil => intro vs h; cases h; exact rep k
    | cons d ds ih =>
      intro vs h
      cases h with
      | cons r t => exact .cons r (ih _ t)
  exact go ds vs h
theorem fn_level (M : ModOk K mg ca fa G T) {n j : Nat} {fn : Fn} {fd : FuncData} {ps : List Str} (hj : G.fns[j]? = some fn) (d : DefOk K (fa j) G T fn fd ps)
    (ih : ∀ i, (∃ k fd ps, FnOk P w K mg base (L2.CX P w) k (fa i) fd ps (spC K ca (run G n) i) ∧ k ≤ 2 * n ∧ Binds K fd ps []) ∨ ∀ ds S, run G n i ds S = .bad) :
    FnOk P w K mg base (L2.CX P w) (2 * (n + 1)) (fa j) fd ps (spC K ca (run G (n + 1)) j) := by
  obtain ⟨x, qual, st, N, F, S, hps, hN, hck⟩ := d.ex
  obtain ⟨oc, od, kV, doc, pm, an, cdv, ct, osl, rfl, lk, hcd⟩ := F.ex
  have hrun : ∀ ds S, run G (n + 1) j ds S = if ds.length = fn.np then fin (execs G (run G n) fn.body (startE fn ds) S) else .bad := fun ds S => by
    show (match G.fns[j]? with | some fn => if ds.length = fn.np then fin (execs G (run G n) fn.body (startE fn ds) S) else .bad | none => .bad) = _
    rw [hj]
  refine fn_of (k := 2 * n + 1) (N := N) lk hcd S (fun vs H Q E h => ?_) fun A outer s H vs Q E hr h => ?_
  · obtain ⟨ro, St, ds, R, rd, p⟩ := h
    rw [hrun] at p
    split at p
    · rename_i e
      rw [← rd.length, e, hps]
    · exact p.elim
  · obtain ⟨ro, St, ds, R, rd, p⟩ := h
    rw [hrun] at p
    split at p
    · rename_i e
      have tk : Takes (cxOf (L2.CX P w) P w K mg base N qual (defScope st) (fa j) cdv A outer s H E) (fun cls d _ H => E cls d H) := takes_of rfl rfl rfl rfl
      have E4 : Env4 (cxOf (L2.CX P w) P w K mg base N qual (defScope st) (fa j) cdv A outer s H E) ca fa ⟨N, defScope st, T, G⟩ (run G n) (fun cls d _ H => E cls d H) := {
        sco := ⟨S.kind, fun _ h => h, fun _ h => ⟨h, rfl⟩, fun _ h => .inr h, fun _ h => h⟩
        nm := rfl
        nd := S.nd
        calm := rfl
        tk := tk
        ok := ⟨hr.units, M.fld, M.meth, M.init, M.gfn, M.gcl, M.gnum, M.gno, fun i => (ih i).imp (fun ⟨k, fd, ps, F, hk, hb⟩ => ⟨k, fd, ps, F, hr.mono (by omega), hb⟩) id⟩
        po := passes_of rfl
        rais := M.rais _ _ rfl rfl rfl tk }
      refine ⟨_, ckSs_ok E4 fn.body _ hck, ro, St, startE fn ds, ⟨R, start_er rd hN⟩, ?_⟩
      generalize execs G (run G n) fn.body (startE fn ds) St = r at p ⊢
      cases r with
      | nx e S => exact fun H' ro' σ' E' A' => p H' ro' E' A'.st .non .non
      | ret d S => exact fun H' ro' E' A' v rv => p H' ro' E' A' v rv
      | brk e S => exact False.elim p
      | cnt e S => exact False.elim p
      | exc c e S => exact fun H' ro' σ' E' A' => p H' ro' E' A'.st
      | bad => exact p
    · exact p.elim
theorem all_fn (M : ModOk K mg ca fa G T) (hd : ∀ j fn, G.fns[j]? = some fn → ∃ fd ps, DefOk K (fa j) G T fn fd ps) : ∀ n j,
    (∃ k fd ps, FnOk P w K mg base (L2.CX P w) k (fa j) fd ps (spC K ca (run G n) j) ∧ k ≤ 2 * n ∧ Binds K fd ps []) ∨ ∀ ds S, run G n j ds S = .bad
  | 0, j => .inr fun _ _ => rfl
  | n + 1, j => by
    cases hj : G.fns[j]? with
    | none =>
      refine .inr fun ds S => ?_
      show (match G.fns[j]? with | some fn => if ds.length = fn.np then fin (execs G (run G n) fn.body (startE fn ds) S) else .bad | none => .bad) = _
      rw [hj]
    | some fn =>
      obtain ⟨fd, ps, d⟩ := hd j fn hj
      exact .inl ⟨_, fd, ps, fn_level M hj d (all_fn M hd n), Nat.le_refl _, d.binds⟩
theorem law_fn (M : ModOk K mg ca fa G T) (hd : ∀ j fn, G.fns[j]? = some fn → ∃ fd ps, DefOk K (fa j) G T fn fd ps) (n : Nat) {j : Nat} {fn : Fn} {fd : FuncData} {ps : List Str} (hj : G.fns[j]? = some fn) (d : DefOk K (fa j) G T fn fd ps) :
    FnOk P w K mg base (L2.CX P w) (2 * (n + 1)) (fa j) fd ps (spC K ca (run G (n + 1)) j) := fn_level M hj d (all_fn M hd n)
end
end MI

/-! MI, 24: the end. -/
namespace MI
open PySem PySem.Spec PyProof.Rows L2

def spLaw (K : PySem.W.Frag) : Sp := fun vs H Q _ => ∃ (a : Addr) (ns : List Int), vs = [.ref a] ∧ SqL K H a (ns.map V.int) ∧ Only H ∧ ns.length ≤ 63 ∧ ∀ H', Q (.bl true) H'
theorem int_rds {H : Hp} {ro : List Addr} : ∀ ns : List Int, RDs H ro (ns.map D.int) (ns.map V.int)
  | [] => .nil
  | n :: ns => .cons (.int n) (int_rds ns)
theorem law_sp {K : PySem.W.Frag} {ca : CA} {G : Prog} {n j : Nat} (hrun : ∀ ns : List Int, ns.length ≤ 63 → ∃ S', run G n j [.loc 0] [.fix (ns.map .int)] = .ok (.bl true) S') (vs : List V) (H : Hp) (Q : VK) (E : XK) (h : spLaw K vs H Q E) : spC K ca (run G n) j vs H Q E := by
  obtain ⟨a, ns, rfl, hS, hO, hl, k⟩ := h
  obtain ⟨S', e⟩ := hrun ns hl
  have hfix : FixL K H a (ns.map V.int) := by
    rcases hS with (hS | hS) | hS
    · exfalso
      rcases hO a with z | ⟨o, xs, z⟩
      · rw [hS] at z; cases z
      · rw [hS] at z; cases z
    · exact .inl hS
    · exact .inr hS
  refine ⟨[a], [.fix (ns.map .int)], [.loc 0], ⟨rfl, fun l b o h1 h2 => ?_, fun l l' b o o' h1 h1' h2 h2' w w' => ?_⟩, .cons (.loc rfl) .nil, ?_⟩
  · cases l with
    | zero =>
      cases h1
      cases h2
      exact ⟨_, hfix, int_rds ns⟩
    | succ l => cases h1
  · cases l with
    | zero => cases h2; cases w
    | succ l => cases h1
  · rw [e]
    intro H' ro' E' R' v rv
    rw [rv.bl_inv]
    exact k H'
theorem lookup_in {A B : Type} [BEq A] [LawfulBEq A] {l : List (A × B)} {a : A} {b : B} (h : l.lookup a = some b) : (a, b) ∈ l := by
  induction l with
  | nil => cases h
  | cons p ps ih =>
    obtain ⟨x, y⟩ := p
    by_cases e : a = x
    · subst e
      simp only [List.lookup, beq_self_eq_true, Option.some.injEq] at h
      subst h
      exact List.mem_cons_self
    · have hb : (a == x) = false := beq_eq_false_iff_ne.mpr e
      simp only [List.lookup, hb] at h
      exact List.mem_cons_of_mem _ (ih h)
theorem mi_walk {l : PySem.W.OpenLaw} {q : Program} {loose : List Str} {XP : (Str → Option Value) → Heap → Prop} {YP : World → Heap → Prop} {d : DefRec} {K : Params → PySem.W.Frag} {k : Nat} {x : Str} (hk : Room k callerA) (hn : l.most = some 63) (hdf : d.params.defaults = [])
    (hY : ∀ (w : World) (h : Heap), YP w h → (K w.params).In h)
    (F : ∀ (w : World) (mg : Str → Option Value) (fa : Addr) (h : Heap), (K w.params).In h → h.Ns mainGlobals mg → mg d.name = some (.ref fa) →
      ∃ fd : FuncData, (∀ (s : Shared) (u : Value), BindsTo s fd ⟨[u], []⟩ [(x, u)]) ∧ ∀ base : Heap, (K w.params).In base → base.Ns mainGlobals mg → FnOk l.prog w (K w.params) mg base (L2.CX l.prog w) k fa fd [x] (spLaw (K w.params))) :
    PySem.W.WalkO q loose XP YP l.row.toRowW d [] (fun f vs => PySem.call f vs) :=
  L2.walk_of (n := 63) (k := k) (x := x) (CX := fun w => L2.CX l.prog w) (sp := fun w => spLaw (K w.params)) hn (by decide) hdf hk hY F (fun _ _ a ns hl hO hS => ⟨a, ns, rfl, hS, hO, hl, fun _ => rfl⟩) fun _ _ _ _ _ ⟨_, _, _, _, _, _, _, _, _, _, _, _, h⟩ => h
end MI

/-! MI, 25: what is wanted behind a run of MI. -/
namespace MI
open PySem

def wp {A : Type} (m : R A) (Q : A → Store → Prop) : Prop := match m with
  | .ok a S => Q a S
  | _ => False
structure Ws where
  nx : Env → Store → Prop
  rt : D → Store → Prop
  bk : Env → Store → Prop := fun _ _ => False
  ct : Env → Store → Prop := fun _ _ => False
def ws (r : SR) (Q : Ws) : Prop := match r with
  | .nx e S => Q.nx e S
  | .ret d S => Q.rt d S
  | .brk e S => Q.bk e S
  | .cnt e S => Q.ct e S
  | _ => False
section
variable {A B : Type} {Q Q' : A → Store → Prop} {P P' : Ws}
theorem wp_ok {a : A} {S : Store} : wp (.ok a S) Q ↔ Q a S := Iff.rfl
theorem wp_bad : wp (.bad : R A) Q ↔ False := Iff.rfl
theorem wp_bind {m : R A} {f : A → Store → R B} {Q : B → Store → Prop} : wp (m.bind f) Q ↔ wp m fun a S => wp (f a S) Q := by
  cases m <;> exact Iff.rfl
theorem wp_sr {m : R D} {e : Env} {f : D → Store → SR} : ws (m.sr e f) P ↔ wp m fun d S => ws (f d S) P := by
  cases m <;> exact Iff.rfl
theorem ws_nx {e : Env} {S : Store} : ws (.nx e S) P ↔ P.nx e S := Iff.rfl
theorem ws_ret {d : D} {S : Store} : ws (.ret d S) P ↔ P.rt d S := Iff.rfl
theorem ws_brk {e : Env} {S : Store} : ws (.brk e S) P ↔ P.bk e S := Iff.rfl
theorem ws_cnt {e : Env} {S : Store} : ws (.cnt e S) P ↔ P.ct e S := Iff.rfl
theorem wp_mono {m : R A} (h : wp m Q) (k : ∀ a S, Q a S → Q' a S) : wp m Q' := by
  cases m <;> first | exact k _ _ h | exact h
theorem ws_mono {r : SR} (h : ws r P) (k1 : ∀ e S, P.nx e S → P'.nx e S) (k2 : ∀ d S, P.rt d S → P'.rt d S) (k3 : ∀ e S, P.bk e S → P'.bk e S) (k4 : ∀ e S, P.ct e S → P'.ct e S) : ws r P' := by
  cases r <;> first | exact k1 _ _ h | exact k2 _ _ h | exact k3 _ _ h | exact k4 _ _ h | exact h
theorem wp_asB {m : R D} {Q : Bool → Store → Prop} : wp (asB m) Q ↔ wp m fun d S => ∃ b, d = .bl b ∧ Q b S := by
  unfold asB
  rw [wp_bind]
  cases m with
  | ok d S =>
    cases d <;> simp [wp]
  | _ => exact Iff.rfl
theorem wp_asI {m : R D} {Q : Int → Store → Prop} : wp (asI m) Q ↔ wp m fun d S => ∃ b, d = .int b ∧ Q b S := by
  unfold asI
  rw [wp_bind]
  cases m with
  | ok d S => cases d <;> simp [wp]
  | _ => exact Iff.rfl
theorem wp_fin {r : SR} {Q : D → Store → Prop} : wp (fin r) Q ↔ ws r { nx := fun _ S => Q .non S, rt := Q } := by
  cases r <;> exact Iff.rfl
variable {G : Prog} {call : Nat → List D → Store → R D} {e : Env} {S : Store}
theorem ws_cons {s : CS} {ss : List CS} : ws (execs G call (s :: ss) e S) P ↔ ws (exec G call s e S) { P with nx := fun e S => ws (execs G call ss e S) P } := by
  show ws (match exec G call s e S with | .nx e S => execs G call ss e S | r => r) P ↔ _
  cases exec G call s e S <;> exact Iff.rfl
theorem ws_nil : ws (execs G call [] e S) P ↔ P.nx e S := Iff.rfl
theorem ws_ite {c : CE} {a b : List CS} : ws (exec G call (.ite c a b) e S) P ↔ wp (eval G call c e S) fun d S => ∃ t, d = .bl t ∧ if t then ws (execs G call a e S) P else ws (execs G call b e S) P := by
  rw [← wp_asB (Q := fun t S => if t = true then ws (execs G call a e S) P else ws (execs G call b e S) P)]
  show ws (match asB (eval G call c e S) with | .ok true S => execs G call a e S | .ok false S => execs G call b e S | .exc c S => .exc c e S | .bad => .bad) P ↔ _
  cases asB (eval G call c e S) with
  | ok t S => cases t <;> exact Iff.rfl
  | _ => exact Iff.rfl
theorem wp_run {n j : Nat} {fn : Fn} {ds : List D} {Q : D → Store → Prop} (hj : G.fns[j]? = some fn) (hl : ds.length = fn.np) : wp (run G (n + 1) j ds S) Q ↔ ws (execs G (run G n) fn.body (startE fn ds) S) { nx := fun _ S => Q .non S, rt := Q } := by
  show wp (match G.fns[j]? with | some fn => if ds.length = fn.np then fin (execs G (run G n) fn.body (startE fn ds) S) else .bad | none => .bad) Q ↔ _
  rw [hj]
  show wp (if ds.length = fn.np then fin (execs G (run G n) fn.body (startE fn ds) S) else .bad) Q ↔ _
  rw [if_pos hl, wp_fin]
end
end MI

/-! MI, 26: what is wanted behind an expression, an operation, a statement. -/
namespace MI
open PySem

section
variable {G : Prog} {call : Nat → List D → Store → R D} {e : Env} {S : Store} {Q : D → Store → Prop} {P : Ws}
theorem e_var {i : Nat} : wp (eval G call (.var i) e S) Q ↔ ∃ d, e[i]? = some (some d) ∧ Q d S := by
  show wp (match e[i]? with | some (some d) => .ok d S | _ => .bad) Q ↔ _
  constructor
  · intro h
    split at h
    · rename_i d q; exact ⟨d, q, h⟩
    · exact h.elim
  · rintro ⟨d, q, h⟩
    rw [q]
    exact h
theorem e_cst {d : D} : wp (eval G call (.cst d) e S) Q ↔ Q d S := Iff.rfl
theorem e_glb {x : Str} {d : D} : wp (eval G call (.glb x d) e S) Q ↔ Q d S := Iff.rfl
theorem e_prim {f : MI.P} {es : List CE} : wp (eval G call (.prim f es) e S) Q ↔ wp (evalL G call es e S) fun ds S => wp (prim f ds S) Q := by
  show wp ((evalL G call es e S).bind fun ds S => prim f ds S) Q ↔ _
  rw [wp_bind]
theorem e_nil {Q : List D → Store → Prop} : wp (evalL G call [] e S) Q ↔ Q [] S := Iff.rfl
theorem e_cons {c : CE} {cs : List CE} {Q : List D → Store → Prop} : wp (evalL G call (c :: cs) e S) Q ↔ wp (eval G call c e S) fun d S => wp (evalL G call cs e S) fun ds S => Q (d :: ds) S := by
  show wp ((eval G call c e S).bind fun d S => (evalL G call cs e S).bind fun ds S => .ok (d :: ds) S) Q ↔ _
  rw [wp_bind]
  simp only [wp_bind, wp_ok]
theorem e_tup {es : List CE} : wp (eval G call (.tup es) e S) Q ↔ wp (evalL G call es e S) fun ds S => ds.length ≤ cap ∧ Q (.tup ds) S := by
  show wp ((evalL G call es e S).bind fun ds S => if ds.length ≤ cap then .ok (.tup ds) S else .bad) Q ↔ _
  rw [wp_bind]
  constructor <;> intro h <;> refine wp_mono h fun ds S q => ?_
  · split at q
    · exact ⟨by assumption, q⟩
    · exact q.elim
  · rw [if_pos q.1]; exact q.2
theorem e_lst {es : List CE} : wp (eval G call (.lst es) e S) Q ↔ wp (evalL G call es e S) fun ds S => ds.length ≤ cap ∧ Q (.loc S.length) (S ++ [.list ds]) := by
  show wp ((evalL G call es e S).bind fun ds S => if ds.length ≤ cap then alloc (.list ds) S else .bad) Q ↔ _
  rw [wp_bind]
  constructor <;> intro h <;> refine wp_mono h fun ds S q => ?_
  · split at q
    · exact ⟨by assumption, q⟩
    · exact q.elim
  · rw [if_pos q.1]; exact q.2
theorem e_dnew : wp (eval G call .dnew e S) Q ↔ Q (.loc S.length) (S ++ [.dict false []]) := Iff.rfl
theorem e_and {a b : CE} : wp (eval G call (.and a b) e S) Q ↔ wp (eval G call a e S) fun d S => ∃ t, d = .bl t ∧ if t then wp (eval G call b e S) Q else Q (.bl false) S := by
  show wp ((asB (eval G call a e S)).bind fun c S => if c then eval G call b e S else .ok (.bl false) S) Q ↔ _
  rw [wp_bind, wp_asB]
  constructor <;> intro h <;> refine wp_mono h fun d S ⟨t, h1, h2⟩ => ⟨t, h1, ?_⟩ <;> cases t <;> exact h2
theorem e_or {a b : CE} : wp (eval G call (.or a b) e S) Q ↔ wp (eval G call a e S) fun d S => ∃ t, d = .bl t ∧ if t then Q (.bl true) S else wp (eval G call b e S) Q := by
  show wp ((asB (eval G call a e S)).bind fun c S => if c then .ok (.bl true) S else eval G call b e S) Q ↔ _
  rw [wp_bind, wp_asB]
  constructor <;> intro h <;> refine wp_mono h fun d S ⟨t, h1, h2⟩ => ⟨t, h1, ?_⟩ <;> cases t <;> exact h2
theorem e_not {a : CE} : wp (eval G call (.not a) e S) Q ↔ wp (eval G call a e S) fun d S => ∃ t, d = .bl t ∧ Q (.bl (!t)) S := by
  show wp ((asB (eval G call a e S)).bind fun c S => .ok (.bl (!c)) S) Q ↔ _
  rw [wp_bind, wp_asB]
  exact Iff.rfl
theorem e_ifx {c a b : CE} : wp (eval G call (.ifx c a b) e S) Q ↔ wp (eval G call c e S) fun d S => ∃ t, d = .bl t ∧ if t then wp (eval G call a e S) Q else wp (eval G call b e S) Q := by
  show wp ((asB (eval G call c e S)).bind fun c S => if c then eval G call a e S else eval G call b e S) Q ↔ _
  rw [wp_bind, wp_asB]
  constructor <;> intro h <;> refine wp_mono h fun d S ⟨t, h1, h2⟩ => ⟨t, h1, ?_⟩ <;> cases t <;> exact h2
theorem e_call {j : Nat} {es : List CE} : wp (eval G call (.call j es) e S) Q ↔ wp (evalL G call es e S) fun ds S => wp (call j ds S) Q := by
  show wp ((evalL G call es e S).bind fun ds S => call j ds S) Q ↔ _
  rw [wp_bind]
theorem e_new {c j : Nat} {es : List CE} (h : G.init c = some j) : wp (eval G call (.new c es) e S) Q ↔ wp (evalL G call es e S) fun ds S => wp (call j (.loc S.length :: ds) (S ++ [.ins c []])) fun v S1 => v = .non ∧ Q (.loc S.length) S1 := by
  show wp ((evalL G call es e S).bind fun ds S => match G.init c with
    | some j => (call j (.loc S.length :: ds) (S ++ [.ins c []])).bind fun v S1 => match v with | .non => .ok (.loc S.length) S1 | _ => .bad
    | none => .bad) Q ↔ _
  rw [wp_bind, h]
  simp only [wp_bind]
  constructor <;> intro h <;> refine wp_mono h fun ds S q => wp_mono q fun v S1 q => ?_
  · split at q
    · exact ⟨rfl, q⟩
    · exact q.elim
  · obtain ⟨rfl, q⟩ := q; exact q
theorem e_fld {f : Str} {o : CE} : wp (eval G call (.fld f o) e S) Q ↔ wp (eval G call o e S) fun x S => ∃ l c fs d, x = .loc l ∧ S[l]? = some (.ins c fs) ∧ G.fld c f = true ∧ fs.lookup f = some d ∧ Q d S := by
  show wp ((eval G call o e S).bind fun x S => match x with
    | .loc l => (match S[l]? with | some (.ins c fs) => (match G.fld c f, fs.lookup f with | true, some d => .ok d S | _, _ => .bad) | _ => .bad)
    | _ => .bad) Q ↔ _
  rw [wp_bind]
  constructor <;> intro h <;> refine wp_mono h fun x S q => ?_
  · (repeat' split at q) <;> first | exact q.elim | exact ⟨_, _, _, _, rfl, by assumption, by assumption, by assumption, q⟩
  · obtain ⟨l, c, fs, d, rfl, h1, h2, h3, q⟩ := q
    simp only [h1, h2, h3]
    exact q
theorem e_meth {m : Str} {o : CE} {es : List CE} : wp (eval G call (.meth m o es) e S) Q ↔ wp (eval G call o e S) fun x S => ∃ l c fs j, x = .loc l ∧ S[l]? = some (.ins c fs) ∧ G.meth c m = some j ∧ fs.lookup m = none ∧ wp (evalL G call es e S) fun ds S => wp (call j (.loc l :: ds) S) Q := by
  show wp ((eval G call o e S).bind fun x S => match x with
    | .loc l => (match S[l]? with
      | some (.ins c fs) => (match G.meth c m, fs.lookup m with
        | some j, none => (evalL G call es e S).bind fun ds S => call j (.loc l :: ds) S
        | _, _ => .bad)
      | _ => .bad)
    | _ => .bad) Q ↔ _
  rw [wp_bind]
  constructor <;> intro h <;> refine wp_mono h fun x S q => ?_
  · (repeat' split at q) <;> first | exact q.elim | exact ⟨_, _, _, _, rfl, by assumption, by assumption, by assumption, by rw [wp_bind] at q; exact q⟩
  · obtain ⟨l, c, fs, j, rfl, h1, h2, h3, q⟩ := q
    simp only [h1, h2, h3, wp_bind]
    exact q
theorem e_lm {f : MI.P} {o : CE} {es : List CE} : wp (eval G call (.lm f o es) e S) Q ↔ wp (eval G call o e S) fun x S => (litems S x).isSome = true ∧ wp (evalL G call es e S) fun ds S => wp (prim f (x :: ds) S) Q := by
  show wp ((eval G call o e S).bind fun x S => if (litems S x).isSome then (evalL G call es e S).bind fun ds S => prim f (x :: ds) S else .bad) Q ↔ _
  rw [wp_bind]
  constructor <;> intro h <;> refine wp_mono h fun x S q => ?_
  · split at q
    · exact ⟨by assumption, by rw [wp_bind] at q; exact q⟩
    · exact q.elim
  · rw [if_pos q.1, wp_bind]; exact q.2
theorem e_sl2 {o l h : CE} : wp (eval G call (.sl2 o l h) e S) Q ↔ wp (eval G call o e S) fun x S => wp (eval G call l e S) fun d S => ∃ i, d = .int i ∧ wp (eval G call h e S) fun d S => ∃ j, d = .int j ∧ wp (sliceD x (some i) (some j) S) Q := by
  show wp ((eval G call o e S).bind fun x S => (asI (eval G call l e S)).bind fun i S => (asI (eval G call h e S)).bind fun j S => sliceD x (some i) (some j) S) Q ↔ _
  simp only [wp_bind, wp_asI]
theorem e_slL {o l : CE} : wp (eval G call (.slL o l) e S) Q ↔ wp (eval G call o e S) fun x S => wp (eval G call l e S) fun d S => ∃ i, d = .int i ∧ wp (sliceD x (some i) none S) Q := by
  show wp ((eval G call o e S).bind fun x S => (asI (eval G call l e S)).bind fun i S => sliceD x (some i) none S) Q ↔ _
  simp only [wp_bind, wp_asI]
theorem e_slH {o h : CE} : wp (eval G call (.slH o h) e S) Q ↔ wp (eval G call o e S) fun x S => wp (eval G call h e S) fun d S => ∃ i, d = .int i ∧ wp (sliceD x none (some i) S) Q := by
  show wp ((eval G call o e S).bind fun x S => (asI (eval G call h e S)).bind fun i S => sliceD x none (some i) S) Q ↔ _
  simp only [wp_bind, wp_asI]
/-! ### statements -/
theorem s_expr {x : CE} : ws (exec G call (.expr x) e S) P ↔ wp (eval G call x e S) fun _ S => P.nx e S := by
  show ws ((eval G call x e S).sr e fun _ S => .nx e S) P ↔ _
  rw [wp_sr]
  exact Iff.rfl
theorem s_asg {t : CT} {x : CE} : ws (exec G call (.asg t x) e S) P ↔ wp (eval G call x e S) fun d S => ∃ e', bindT t d e = some e' ∧ P.nx e' S := by
  show ws ((eval G call x e S).sr e fun d S => match bindT t d e with | some e => .nx e S | none => .bad) P ↔ _
  rw [wp_sr]
  constructor <;> intro h <;> refine wp_mono h fun d S q => ?_
  · split at q
    · exact ⟨_, by assumption, q⟩
    · exact q.elim
  · obtain ⟨e', h1, q⟩ := q
    rw [h1]; exact q
theorem s_par {is : List Nat} {es : List CE} : ws (exec G call (.par is es) e S) P ↔ wp (evalL G call es e S) fun ds S => ∃ e', bindPar is ds e = some e' ∧ P.nx e' S := by
  show ws (match evalL G call es e S with
    | .ok ds S => (match bindPar is ds e with | some e => .nx e S | none => .bad)
    | .exc c S => .exc c e S
    | .bad => .bad) P ↔ _
  cases evalL G call es e S with
  | ok ds S =>
    show ws (match bindPar is ds e with | some e => .nx e S | none => .bad) P ↔ ∃ e', bindPar is ds e = some e' ∧ P.nx e' S
    cases bindPar is ds e with
    | none => exact ⟨fun h => h.elim, fun ⟨_, h, _⟩ => nomatch h⟩
    | some e' => exact ⟨fun h => ⟨e', rfl, h⟩, fun ⟨_, h, q⟩ => by cases h; exact q⟩
  | _ => exact Iff.rfl
theorem s_ret {x : CE} : ws (exec G call (.ret x) e S) P ↔ wp (eval G call x e S) P.rt := by
  show ws ((eval G call x e S).sr e fun d S => .ret d S) P ↔ _
  rw [wp_sr]
  exact Iff.rfl
theorem s_pass : ws (exec G call .pass e S) P ↔ P.nx e S := Iff.rfl
theorem s_aug {i : Nat} {f : MI.P} {x : CE} : ws (exec G call (.aug i f x) e S) P ↔ ∃ d, e[i]? = some (some d) ∧ wp (eval G call x e S) fun y S => ∃ a b c, d = .int a ∧ y = .int b ∧ augF f a b = some c ∧ P.nx (e.set i (some (.int c))) S := by
  show ws (match e[i]? with
    | some (some d) => (eval G call x e S).sr e fun y S => match d, y with
      | .int a, .int b => (match augF f a b with
        | some c => .nx (e.set i (some (.int c))) S
        | none => .bad)
      | _, _ => .bad
    | _ => .bad) P ↔ _
  constructor
  · intro h
    split at h
    · rename_i d hd
      refine ⟨d, hd, ?_⟩
      rw [wp_sr] at h
      refine wp_mono h fun y S q => ?_
      (repeat' split at q) <;> first | exact q.elim | exact ⟨_, _, _, rfl, rfl, by assumption, q⟩
    · exact h.elim
  · rintro ⟨d, hd, h⟩
    rw [hd]
    show ws ((eval G call x e S).sr e _) P
    rw [wp_sr]
    refine wp_mono h fun y S ⟨a, b, c, h1, h2, h3, q⟩ => ?_
    subst h1 h2
    simp only [h3]
    exact q
theorem s_setFld {o x : CE} {f : Str} : ws (exec G call (.setFld o f x) e S) P ↔ wp (eval G call x e S) fun v S => wp (eval G call o e S) fun o S => ∃ l c fs, o = .loc l ∧ S[l]? = some (.ins c fs) ∧ (fs.length < 900 ∧ G.fld c f = true) ∧ P.nx e (S.set l (.ins c (fput f v fs))) := by
  show ws ((eval G call x e S).sr e fun v S => (eval G call o e S).sr e fun o S => match o with
    | .loc l => (match S[l]? with
      | some (.ins c fs) => if fs.length < 900 ∧ G.fld c f = true then .nx e (S.set l (.ins c (fput f v fs))) else .bad
      | _ => .bad)
    | _ => .bad) P ↔ _
  simp only [wp_sr]
  constructor <;> intro h <;> refine wp_mono h fun v S q => wp_mono q fun o S q => ?_
  · (repeat' split at q) <;> first | exact q.elim | exact ⟨_, _, _, rfl, by assumption, by assumption, q⟩
  · obtain ⟨l, c, fs, rfl, h1, h2, q⟩ := q
    simp only [h1]
    rw [if_pos h2]
    exact q
theorem s_setSub {o i x : CE} : ws (exec G call (.setSub o i x) e S) P ↔ wp (eval G call x e S) fun v S => wp (eval G call o e S) fun o S => wp (eval G call i e S) fun i S => ws (setItem o i v e S) P := by
  show ws ((eval G call x e S).sr e fun v S => (eval G call o e S).sr e fun o S => (eval G call i e S).sr e fun i S => setItem o i v e S) P ↔ _
  simp only [wp_sr]
theorem s_for {k : IK} {ies : List CE} {t : CT} {b : List CS} : ws (exec G call (.for_ k ies t b) e S) P ↔ wp (evalL G call ies e S) fun ds S => ∃ it n, itMk k ds S = some (it, n) ∧ ws (forGo it (bindT t) (execs G call b) n 0 e (itIn it S)) P := by
  show ws (match evalL G call ies e S with
    | .ok ds S => (match itMk k ds S with
      | some (it, n) => forGo it (bindT t) (execs G call b) n 0 e (itIn it S)
      | none => .bad)
    | .exc c S => .exc c e S
    | .bad => .bad) P ↔ _
  cases evalL G call ies e S with
  | ok ds S =>
    show ws (match itMk k ds S with | some (it, n) => forGo it (bindT t) (execs G call b) n 0 e (itIn it S) | none => .bad) P ↔ ∃ it n, itMk k ds S = some (it, n) ∧ _
    cases itMk k ds S with
    | none => exact ⟨fun h => h.elim, fun ⟨_, _, h, _⟩ => nomatch h⟩
    | some p => exact ⟨fun h => ⟨p.1, p.2, rfl, h⟩, fun ⟨_, _, h, q⟩ => by cases h; exact q⟩
  | _ => exact Iff.rfl
end
/-! ### the store grows -/
def Le (S S' : Store) : Prop := ∀ (l : Nat) (o : O), S[l]? = some o → S'[l]? = some o
theorem Le.refl (S : Store) : Le S S := fun _ _ h => h
theorem Le.trans {S S1 S2 : Store} (a : Le S S1) (b : Le S1 S2) : Le S S2 := fun l o h => b l o (a l o h)
theorem Le.push (S : Store) (o : O) : Le S (S ++ [o]) := fun l x h => by
  rw [List.getElem?_append_left (List.getElem?_eq_some_iff.mp h).1]
  exact h
theorem Le.len {S S' : Store} (h : Le S S') : S.length ≤ S'.length := by
  cases hz : S.length with
  | zero => exact Nat.zero_le _
  | succ n =>
    have hn : n < S.length := by omega
    have q := (List.getElem?_eq_some_iff.mp (h n _ (List.getElem?_eq_getElem hn))).1
    omega
/-- what is fresh changes -/
theorem Le.put {S S' : Store} (h : Le S S') {l : Nat} (hl : S.length ≤ l) (o : O) : Le S (S'.set l o) := fun m x q => by
  have hm := (List.getElem?_eq_some_iff.mp q).1
  rw [List.getElem?_set_ne (by omega)]
  exact h m x q
theorem get_push {S : Store} {o : O} : (S ++ [o])[S.length]? = some o := by
  rw [List.getElem?_append_right (Nat.le_refl _), Nat.sub_self]
  rfl
end MI

/-! MI, 27: operations, loops, comprehensions. -/
namespace MI
open PySem

section
variable {S : Store} {Q : D → Store → Prop}
theorem ite_bad {A : Type} {c : Prop} [Decidable c] {m : R A} {Q : A → Store → Prop} : wp (if c then m else .bad) Q ↔ c ∧ wp m Q := by
  by_cases h : c
  · rw [if_pos h]; exact ⟨fun q => ⟨h, q⟩, fun q => q.2⟩
  · rw [if_neg h]; exact ⟨fun q => q.elim, fun q => absurd q.1 h⟩
theorem p_pure2 {o : Option D} : wp (pure2 o S) Q ↔ ∃ d, o = some d ∧ Q d S := by
  cases o with
  | none => exact ⟨fun h => h.elim, fun ⟨_, h, _⟩ => nomatch h⟩
  | some d => exact ⟨fun h => ⟨d, rfl, h⟩, fun ⟨_, h, q⟩ => by cases h; exact q⟩
theorem p_of {A : Type} (o : Option A) {m : R D} {f : A → R D} (h0 : o = none → m = .bad) (h1 : ∀ x, o = some x → m = f x) : wp m Q ↔ ∃ x, o = some x ∧ wp (f x) Q := by
  cases h : o with
  | none => rw [h0 h]; exact ⟨fun h => h.elim, fun ⟨_, h, _⟩ => nomatch h⟩
  | some d => rw [h1 d h]; exact ⟨fun h => ⟨d, rfl, h⟩, fun ⟨_, h, q⟩ => by cases h; exact q⟩
theorem p_addI {i j : Int} : wp (prim .add [.int i, .int j] S) Q ↔ Q (.int (i + j)) S := Iff.rfl
theorem p_addT {xs ys : List D} : wp (prim .add [.tup xs, .tup ys] S) Q ↔ xs.length + ys.length ≤ cap ∧ Q (.tup (xs ++ ys)) S := ite_bad
theorem p_addL {a b : Nat} : wp (prim .add [.loc a, .loc b] S) Q ↔ ∃ xs, witems S (.loc a) = some xs ∧ ∃ ys, witems S (.loc b) = some ys ∧ xs.length + ys.length ≤ cap ∧ Q (.loc S.length) (S ++ [.list (xs ++ ys)]) := by
  show wp (match witems S (.loc a), witems S (.loc b) with
    | some xs, some ys => if xs.length + ys.length ≤ cap then alloc (.list (xs ++ ys)) S else .bad
    | _, _ => .bad) Q ↔ _
  cases witems S (.loc a) with
  | none => exact ⟨fun h => h.elim, fun ⟨_, h, _⟩ => nomatch h⟩
  | some xs =>
    cases witems S (.loc b) with
    | none => exact ⟨fun h => h.elim, fun ⟨_, _, _, h, _⟩ => nomatch h⟩
    | some ys =>
      refine ite_bad.trans ⟨fun h => ⟨xs, rfl, ys, rfl, h⟩, fun ⟨_, h1, _, h2, h⟩ => ?_⟩
      cases h1; cases h2; exact h
theorem p_sub {i j : Int} : wp (prim .sub [.int i, .int j] S) Q ↔ Q (.int (i - j)) S := Iff.rfl
theorem p_mulI {i j : Int} : wp (prim .mul [.int i, .int j] S) Q ↔ ((-(2 ^ 64) < i ∧ i < 2 ^ 64) ∨ (-(2 ^ 64) < j ∧ j < 2 ^ 64)) ∧ Q (.int (i * j)) S := ite_bad
theorem p_mulL {a : Nat} {n : Int} : wp (prim .mul [.loc a, .int n] S) Q ↔ ∃ xs, witems S (.loc a) = some xs ∧ (-1000000 ≤ n ∧ n ≤ 1000000 ∧ xs.length * n.toNat ≤ cap) ∧ Q (.loc S.length) (S ++ [.list (List.flatten (List.replicate n.toNat xs))]) := by
  refine (p_of (witems S (.loc a)) (f := fun xs => if -1000000 ≤ n ∧ n ≤ 1000000 ∧ xs.length * n.toNat ≤ cap then alloc (.list (List.flatten (List.replicate n.toNat xs))) S else .bad) (fun h => by simp only [prim, mulD, h]) (fun x h => by simp only [prim, mulD, h])).trans ?_
  simp only [ite_bad]
  exact Iff.rfl
theorem p_mod {i j : Int} : wp (prim .mod [.int i, .int j] S) Q ↔ 0 < j ∧ Q (.int (i % j)) S := ite_bad
theorem p_fdiv {i j : Int} : wp (prim .fdiv [.int i, .int j] S) Q ↔ (0 < j ∧ j < 1073741824) ∧ Q (.int (i / j)) S := ite_bad
theorem p_pow {i j : Int} : wp (prim .pow [.int i, .int j] S) Q ↔ (0 ≤ j ∧ j ≤ 1000 ∧ i.natAbs < 1000) ∧ Q (.int (i ^ j.toNat)) S := ite_bad
theorem p_neg {i : Int} : wp (prim .neg [.int i] S) Q ↔ Q (.int (-i)) S := Iff.rfl
theorem p_eq {a b : D} : wp (prim .eq [a, b] S) Q ↔ ∃ c, deq S a b = some c ∧ Q (.bl c) S := by
  refine p_pure2.trans ⟨fun ⟨d, h, q⟩ => ?_, fun ⟨c, h, q⟩ => ⟨.bl c, by rw [h]; rfl, q⟩⟩
  obtain ⟨c, h1, rfl⟩ := Option.map_eq_some_iff.mp h
  exact ⟨c, h1, q⟩
theorem p_ne {a b : D} : wp (prim .ne [a, b] S) Q ↔ ∃ c, deq S a b = some c ∧ Q (.bl (!c)) S := by
  refine p_pure2.trans ⟨fun ⟨d, h, q⟩ => ?_, fun ⟨c, h, q⟩ => ⟨.bl (!c), by rw [h]; rfl, q⟩⟩
  obtain ⟨c, h1, rfl⟩ := Option.map_eq_some_iff.mp h
  exact ⟨c, h1, q⟩
theorem p_lt {i j : Int} : wp (prim .lt [.int i, .int j] S) Q ↔ Q (.bl (decide (i < j))) S := Iff.rfl
theorem p_le {i j : Int} : wp (prim .le [.int i, .int j] S) Q ↔ Q (.bl (decide (i ≤ j))) S := Iff.rfl
theorem p_gt {i j : Int} : wp (prim .gt [.int i, .int j] S) Q ↔ Q (.bl (decide (j < i))) S := Iff.rfl
theorem p_ge {i j : Int} : wp (prim .ge [.int i, .int j] S) Q ↔ Q (.bl (decide (j ≤ i))) S := Iff.rfl
theorem p_in {a b : D} : wp (prim .isin [a, b] S) Q ↔ ∃ c, isinD a b S = some c ∧ Q (.bl c) S := by
  refine p_pure2.trans ⟨fun ⟨d, h, q⟩ => ?_, fun ⟨c, h, q⟩ => ⟨.bl c, by rw [h]; rfl, q⟩⟩
  obtain ⟨c, h1, rfl⟩ := Option.map_eq_some_iff.mp h
  exact ⟨c, h1, q⟩
theorem p_notin {a b : D} : wp (prim .notin [a, b] S) Q ↔ ∃ c, isinD a b S = some c ∧ Q (.bl (!c)) S := by
  refine p_pure2.trans ⟨fun ⟨d, h, q⟩ => ?_, fun ⟨c, h, q⟩ => ⟨.bl (!c), by rw [h]; rfl, q⟩⟩
  obtain ⟨c, h1, rfl⟩ := Option.map_eq_some_iff.mp h
  exact ⟨c, h1, q⟩
theorem p_isN {a : D} : wp (prim .isN [a, .non] S) Q ↔ Q (.bl (isNon a)) S := Iff.rfl
theorem p_notN {a : D} : wp (prim .notN [a, .non] S) Q ↔ Q (.bl (!isNon a)) S := Iff.rfl
theorem p_isB {a b : Bool} : wp (prim .isB [.bl a, .bl b] S) Q ↔ Q (.bl (decide (a = b))) S := Iff.rfl
theorem p_notB {a b : Bool} : wp (prim .notB [.bl a, .bl b] S) Q ↔ Q (.bl (!decide (a = b))) S := Iff.rfl
theorem p_item {o i : D} : wp (prim .item [o, i] S) Q ↔ ∃ d, itemD o i S = some d ∧ Q d S := p_pure2
theorem p_rev {o : D} : wp (prim .rev [o] S) Q ↔ ∃ xs, litems S o = some xs ∧ Q (.loc S.length) (S ++ [.list xs.reverse]) := p_of (litems S o) (f := fun xs => alloc (.list xs.reverse) S) (fun h => by simp only [prim, h]) (fun x h => by simp only [prim, h] <;> rfl)
theorem p_lenT {xs : List D} : wp (prim .len [.tup xs] S) Q ↔ Q (.int xs.length) S := Iff.rfl
theorem p_lenL {l : Nat} : wp (prim .len [.loc l] S) Q ↔ ∃ xs, litems S (.loc l) = some xs ∧ Q (.int xs.length) S := p_of (litems S (.loc l)) (f := fun xs => .ok (.int xs.length) S) (fun h => by simp only [prim, lenD, h]) (fun x h => by simp only [prim, lenD, h])
theorem p_any {o : D} : wp (prim .any [o] S) Q ↔ ∃ xs, litems S o = some xs ∧ ∃ bs, boolL xs = some bs ∧ Q (.bl (bs.any id)) S := by
  refine (p_of (litems S o) (f := fun xs => match boolL xs with | some bs => .ok (.bl (bs.any id)) S | none => .bad) (fun h => by simp only [prim, h]) (fun x h => by simp only [prim, h] <;> rfl)).trans ?_
  constructor <;> rintro ⟨xs, h, q⟩ <;> refine ⟨xs, h, ?_⟩
  · split at q
    · exact ⟨_, by assumption, q⟩
    · exact q.elim
  · obtain ⟨bs, h1, q⟩ := q
    rw [h1]; exact q
theorem p_all {o : D} : wp (prim .all [o] S) Q ↔ ∃ xs, litems S o = some xs ∧ ∃ bs, boolL xs = some bs ∧ Q (.bl (bs.all id)) S := by
  refine (p_of (litems S o) (f := fun xs => match boolL xs with | some bs => .ok (.bl (bs.all id)) S | none => .bad) (fun h => by simp only [prim, h]) (fun x h => by simp only [prim, h] <;> rfl)).trans ?_
  constructor <;> rintro ⟨xs, h, q⟩ <;> refine ⟨xs, h, ?_⟩
  · split at q
    · exact ⟨_, by assumption, q⟩
    · exact q.elim
  · obtain ⟨bs, h1, q⟩ := q
    rw [h1]; exact q
theorem p_lenset {o : D} : wp (prim .lenset [o] S) Q ↔ ∃ xs, litems S o = some xs ∧ ∃ ks, mapO intTup xs = some ks ∧ ks.length < 64 ∧ Q (.int (dedupI ks).length) S := by
  refine (p_of (litems S o) (f := fun xs => match mapO intTup xs with | some ks => if ks.length < 64 then .ok (.int (dedupI ks).length) S else .bad | none => .bad) (fun h => by simp only [prim, h]) (fun x h => by simp only [prim, h] <;> rfl)).trans ?_
  constructor <;> rintro ⟨xs, h, q⟩ <;> refine ⟨xs, h, ?_⟩
  · split at q
    · exact ⟨_, by assumption, ite_bad.mp q⟩
    · exact q.elim
  · obtain ⟨bs, h1, q⟩ := q
    rw [h1]; exact ite_bad.mpr q
theorem p_sorted {o : D} : wp (prim .sorted [o] S) Q ↔ ∃ xs, litems S o = some xs ∧ ∃ ys, sortD S xs = some ys ∧ xs.length ≤ cap ∧ Q (.loc S.length) (S ++ [.list ys]) := by
  refine (p_of (litems S o) (f := fun xs => match sortD S xs with | some ys => if xs.length ≤ cap then alloc (.list ys) S else .bad | none => .bad) (fun h => by simp only [prim, h]) (fun x h => by simp only [prim, h] <;> rfl)).trans ?_
  constructor <;> rintro ⟨xs, h, q⟩ <;> refine ⟨xs, h, ?_⟩
  · split at q
    · exact ⟨_, by assumption, ite_bad.mp q⟩
    · exact q.elim
  · obtain ⟨bs, h1, q⟩ := q
    rw [h1]; exact ite_bad.mpr q
theorem p_dict1 {o : D} : wp (prim .dict1 [o] S) Q ↔ ∃ xs, litems S o = some xs ∧ ∃ ps, mapO (pairKV S) xs = some ps ∧ ps.length ≤ cap ∧ Q (.loc S.length) (S ++ [.dict false (dputs [] ps)]) := by
  refine (p_of (litems S o) (f := fun xs => match mapO (pairKV S) xs with | some ps => if ps.length ≤ cap then alloc (.dict false (dputs [] ps)) S else .bad | none => .bad) (fun h => by simp only [prim, h]) (fun x h => by simp only [prim, h] <;> rfl)).trans ?_
  constructor <;> rintro ⟨xs, h, q⟩ <;> refine ⟨xs, h, ?_⟩
  · split at q
    · exact ⟨_, by assumption, ite_bad.mp q⟩
    · exact q.elim
  · obtain ⟨bs, h1, q⟩ := q
    rw [h1]; exact ite_bad.mpr q
theorem p_listT {xs : List D} : wp (prim .list1 [.tup xs] S) Q ↔ Q (.loc S.length) (S ++ [.list xs]) := Iff.rfl
theorem p_listL {l : Nat} {xs : List D} (h : S[l]? = some (.list xs)) : wp (prim .list1 [.loc l] S) Q ↔ Q (.loc S.length) (S ++ [.list xs]) := by
  show wp (match S[l]? with
    | some (.list xs) => alloc (.list xs) S
    | some (.fix xs) => alloc (.list xs) S
    | some (.dict _ kvs) => alloc (.list (kvs.map fun p => .tup (p.1.map keyD))) S
    | _ => .bad) Q ↔ _
  rw [h]
  exact Iff.rfl
theorem p_listD {l : Nat} {b : Bool} {kvs : List (List L2.Key × D)} (h : S[l]? = some (.dict b kvs)) : wp (prim .list1 [.loc l] S) Q ↔ Q (.loc S.length) (S ++ [.list (kvs.map fun p => .tup (p.1.map keyD))]) := by
  show wp (match S[l]? with
    | some (.list xs) => alloc (.list xs) S
    | some (.fix xs) => alloc (.list xs) S
    | some (.dict _ kvs) => alloc (.list (kvs.map fun p => .tup (p.1.map keyD))) S
    | _ => .bad) Q ↔ _
  rw [h]
  exact Iff.rfl
theorem p_isBoolB {b : Bool} : wp (prim .isBool [.bl b] S) Q ↔ Q (.bl true) S := Iff.rfl
theorem p_append {l : Nat} {xs : List D} {x : D} (h : S[l]? = some (.list xs)) : wp (prim .append [.loc l, x] S) Q ↔ xs.length < cap ∧ Q .non (S.set l (.list (xs ++ [x]))) := by
  show wp (match S[l]? with | some (.list xs) => if xs.length < cap then .ok .non (S.set l (.list (xs ++ [x]))) else .bad | _ => .bad) Q ↔ _
  rw [h]
  exact ite_bad
theorem p_insert {l : Nat} {xs : List D} {i : Int} {x : D} (h : S[l]? = some (.list xs)) : wp (prim .insert [.loc l, .int i, x] S) Q ↔ (xs.length < cap ∧ 0 ≤ i ∧ i ≤ 1000000) ∧ Q .non (S.set l (.list (xs.take i.toNat ++ [x] ++ xs.drop i.toNat))) := by
  show wp (match S[l]? with
    | some (.list xs) => if xs.length < cap ∧ 0 ≤ i ∧ i ≤ 1000000 then .ok .non (S.set l (.list (xs.take i.toNat ++ [x] ++ xs.drop i.toNat))) else .bad
    | _ => .bad) Q ↔ _
  rw [h]
  exact ite_bad
theorem p_count {o x : D} {xs : List D} {d : PyData} {ds : List PyData} (h : litems S o = some xs) (h1 : frz S deep x = some d) (h2 : mapO (frz S deep) xs = some ds) : wp (prim .count [o, x] S) Q ↔ Q (.int (ds.countP fun z => PyData.eqv z d)) S := by
  show wp (match litems S o, frz S deep x with
    | some xs, some d => (match mapO (frz S deep) xs with | some ds => .ok (.int (ds.countP fun z => PyData.eqv z d)) S | none => .bad)
    | _, _ => .bad) Q ↔ _
  rw [h, h1]
  show wp (match mapO (frz S deep) xs with | some ds => .ok (.int (ds.countP fun z => PyData.eqv z d)) S | none => .bad) Q ↔ _
  rw [h2]
  exact Iff.rfl
theorem li_list {l : Nat} {xs : List D} (h : S[l]? = some (.list xs)) : litems S (.loc l) = some xs := by simp only [litems, h]
theorem li_fix {l : Nat} {xs : List D} (h : S[l]? = some (.fix xs)) : litems S (.loc l) = some xs := by simp only [litems, h]
theorem wi_list {l : Nat} {xs : List D} (h : S[l]? = some (.list xs)) : witems S (.loc l) = some xs := by simp only [witems, h]
theorem sl_list {l : Nat} {xs : List D} {lo hi : Option Int} (h : S[l]? = some (.list xs)) : wp (sliceD (.loc l) lo hi S) Q ↔ Q (.loc S.length) (S ++ [.list (cut xs lo hi)]) := by
  show wp (match litems S (.loc l) with | some xs => alloc (.list (cut xs lo hi)) S | none => .bad) Q ↔ _
  rw [li_list h]
  exact Iff.rfl
theorem sl_tup {xs : List D} {lo hi : Option Int} : wp (sliceD (.tup xs) lo hi S) Q ↔ Q (.tup (cut xs lo hi)) S := Iff.rfl
end
/-! ### loops -/
section
variable {G : Prog} {call : Nat → List D → Store → R D} {A : Type}
theorem for_inv {it : It} {bt : D → Env → Option Env} {b : Env → Store → SR} {P : Ws} (as : List A) (toD : A → D) (I : Nat → Env → Store → Prop)
    (hs : ∀ i a e S, as[i]? = some a → I i e S → itNext S i it = some (some (toD a)) ∧ ∃ e1, bt (toD a) e = some e1 ∧ ws (b e1 S) { nx := I (i + 1), ct := I (i + 1), bk := P.nx, rt := P.rt })
    (hd : ∀ e S, I as.length e S → itNext S as.length it = some none ∧ P.nx e S) :
    ∀ (m n i : Nat) (e : Env) (S : Store), m = as.length - i → i ≤ as.length → m ≤ n → I i e S → ws (forGo it bt b n i e S) P := by
  intro m
  induction m with
  | zero =>
    intro n i e S hm hi hn h
    have : i = as.length := by omega
    subst this
    obtain ⟨h1, h2⟩ := hd e S h
    unfold forGo
    rw [h1]
    exact h2
  | succ m ih =>
    intro n i e S hm hi hn h
    have hlt : i < as.length := by omega
    obtain ⟨h1, e1, h2, h3⟩ := hs i as[i] e S (List.getElem?_eq_getElem hlt) h
    cases n with
    | zero => omega
    | succ n =>
      unfold forGo
      rw [h1]
      simp only [h2]
      cases hb : b e1 S with
      | nx e2 S2 => rw [hb] at h3; exact ih n (i + 1) e2 S2 (by omega) hlt (by omega) h3
      | cnt e2 S2 => rw [hb] at h3; exact ih n (i + 1) e2 S2 (by omega) hlt (by omega) h3
      | brk e2 S2 => rw [hb] at h3; exact h3
      | ret d S2 => rw [hb] at h3; exact h3
      | exc c e2 S2 => rw [hb] at h3; exact h3
      | bad => rw [hb] at h3; exact h3
theorem for_run {it : It} {bt : D → Env → Option Env} {b : Env → Store → SR} {P : Ws} (as : List A) (toD : A → D) (I : Nat → Env → Store → Prop) {n : Nat} {e : Env} {S : Store} (hn : as.length ≤ n) (h0 : I 0 e S)
    (hs : ∀ i a e S, as[i]? = some a → I i e S → itNext S i it = some (some (toD a)) ∧ ∃ e1, bt (toD a) e = some e1 ∧ ws (b e1 S) { nx := I (i + 1), ct := I (i + 1), bk := P.nx, rt := P.rt })
    (hd : ∀ e S, I as.length e S → itNext S as.length it = some none ∧ P.nx e S) : ws (forGo it bt b n 0 e S) P :=
  for_inv as toD I hs hd _ n 0 e S rfl (Nat.zero_le _) (by omega) h0
theorem while_run {c : CE} {b : List CS} {P : Ws} {e : Env} {S : Store} (I : Env → Store → Prop) (mu : Env → Store → Nat) (h0 : I e S) (hm : mu e S < fuelW)
    (hs : ∀ e S, I e S → wp (eval G call c e S) fun d S1 => ∃ t, d = .bl t ∧ if t then ws (execs G call b e S1) { nx := fun e' S' => I e' S' ∧ mu e' S' < mu e S, ct := fun e' S' => I e' S' ∧ mu e' S' < mu e S, bk := P.nx, rt := P.rt } else P.nx e S1) :
    ws (exec G call (.whl c b) e S) P := by
  show ws (whileGo (eval G call c) (execs G call b) fuelW e S) P
  have go : ∀ (k : Nat) (e : Env) (S : Store), I e S → mu e S < k → ws (whileGo (eval G call c) (execs G call b) k e S) P := by
    intro k
    induction k with
    | zero => intro e S _ h; omega
    | succ k ih =>
      intro e S hI hk
      have h := hs e S hI
      rw [← wp_asB (Q := fun t S1 => if t = true then ws (execs G call b e S1) { nx := fun e' S' => I e' S' ∧ mu e' S' < mu e S, ct := fun e' S' => I e' S' ∧ mu e' S' < mu e S, bk := P.nx, rt := P.rt } else P.nx e S1)] at h
      unfold whileGo
      cases em : asB (eval G call c e S) with
      | ok t S1 =>
        rw [em] at h
        replace h : (if t = true then ws (execs G call b e S1) { nx := fun e' S' => I e' S' ∧ mu e' S' < mu e S, ct := fun e' S' => I e' S' ∧ mu e' S' < mu e S, bk := P.nx, rt := P.rt } else P.nx e S1) := h
        cases t with
        | false => exact h
        | true =>
          rw [if_pos rfl] at h
          dsimp only
          cases hb : execs G call b e S1 with
          | nx e2 S2 => rw [hb] at h; exact ih e2 S2 h.1 (by have := h.2; omega)
          | cnt e2 S2 => rw [hb] at h; exact ih e2 S2 h.1 (by have := h.2; omega)
          | brk e2 S2 => rw [hb] at h; exact h
          | ret d S2 => rw [hb] at h; exact h
          | exc c e2 S2 => rw [hb] at h; exact h
          | bad => rw [hb] at h; exact h
      | exc c S1 => rw [em] at h; exact h
      | bad => rw [em] at h; exact h
  exact go fuelW e S h0 hm
/-- a comprehension that gives pure items -/
theorem e_comp {own : List Nat} {k : IK} {ies : List CE} {t : CT} {cond : List CE} {elt : CE} {e : Env} {S : Store} {Q : D → Store → Prop}
    (h : wp (evalL G call ies e S) fun ds S1 => ∃ (it : It) (n : Nat) (as : List A) (toD : A → D) (g : A → Option D), itMk k ds S1 = some (it, n) ∧ as.length ≤ n ∧ as.length < cap ∧ (∀ S2, Le (itIn it S1) S2 → ∀ i, itNext S2 i it = some (as[i]?.map toD)) ∧
      (∀ (a : A) (S2 : Store), a ∈ as → Le (itIn it S1) S2 → ∃ e1, bindT t (toD a) (wipeE e own) = some e1 ∧ wp (evalC G call cond e1 S2) fun b S3 => Le S2 S3 ∧ if b then wp (eval G call elt e1 S3) (fun y S4 => Le S3 S4 ∧ g a = some y) else g a = none) ∧
      ∀ S', Le (itIn it S1) S' → S'[S1.length]? = some (.list (as.filterMap g)) → Q (.loc S1.length) S') : wp (eval G call (.comp own k ies t cond elt) e S) Q := by
  show wp ((evalL G call ies e S).bind fun ds S => match itMk k ds S with
    | none => .bad
    | some (it, n) => noExc ((compGo it S.length (fun x S => match bindT t x (wipeE e own) with
        | none => .bad
        | some e1 => (evalC G call cond e1 S).bind fun b S => if b then (eval G call elt e1 S).bind fun y S => .ok (some y) S else .ok none S) n 0 (itIn it S ++ [.list []])).bind fun _ S1 => .ok (.loc S.length) S1)) Q
  rw [wp_bind]
  refine wp_mono h fun ds S1 ⟨it, n, as, toD, g, h1, h2, hcap, h3, h4, h5⟩ => ?_
  rw [h1]
  have nox : ∀ {B : Type} {m : R B} {Q : B → Store → Prop}, wp m Q → wp (noExc m) Q := fun {B m Q} q => by
    cases m <;> first | exact q | exact q.elim
  refine nox ?_
  rw [wp_bind]
  have hl : (itIn it S1).length = S1.length := itIn_len it S1
  have go : ∀ (m n i : Nat) (S2 : Store), m = as.length - i → i ≤ as.length → m ≤ n → Le (itIn it S1) S2 → S2[S1.length]? = some (.list ((as.take i).filterMap g)) →
      wp (compGo it S1.length (fun x S => match bindT t x (wipeE e own) with
        | none => .bad
        | some e1 => (evalC G call cond e1 S).bind fun b S => if b then (eval G call elt e1 S).bind fun y S => .ok (some y) S else .ok none S) n i S2) fun _ S' => Le (itIn it S1) S' ∧ S'[S1.length]? = some (.list (as.filterMap g)) := by
    intro m
    induction m with
    | zero =>
      intro n i S2 hm hi hn hle hS
      have : i = as.length := by omega
      subst this
      have q := h3 S2 hle as.length
      rw [List.getElem?_eq_none (Nat.le_refl _)] at q
      unfold compGo
      rw [q]
      rw [List.take_length] at hS
      exact ⟨hle, hS⟩
    | succ m ih =>
      intro n i S2 hm hi hn hle hS
      have hlt : i < as.length := by omega
      have q := h3 S2 hle i
      rw [List.getElem?_eq_getElem hlt] at q
      cases n with
      | zero => omega
      | succ n =>
        obtain ⟨e1, b1, b2⟩ := h4 as[i] S2 (List.getElem_mem hlt) hle
        have htk : (as.take (i + 1)).filterMap g = (as.take i).filterMap g ++ (match g as[i] with | some y => [y] | none => []) := by
          rw [List.take_add_one, List.getElem?_eq_getElem hlt, List.filterMap_append]
          congr 1
          show List.filterMap g [as[i]] = _
          cases hg : g as[i] <;> simp [hg]
        unfold compGo
        rw [q]
        simp only [Option.map_some, b1]
        rw [wp_bind, wp_bind]
        refine wp_mono b2 fun b S3 ⟨le3, b3⟩ => ?_
        cases b with
        | false =>
          rw [if_neg Bool.false_ne_true] at b3 ⊢
          refine ih n (i + 1) S3 (by omega) hlt (by omega) (hle.trans le3) ?_
          rw [htk, b3, List.append_nil]
          exact le3 _ _ hS
        | true =>
          rw [if_pos rfl] at b3 ⊢
          rw [wp_bind]
          refine wp_mono b3 fun y S4 ⟨le4, b4⟩ => ?_
          have hS4 := le4 _ _ (le3 _ _ hS)
          rw [wp_ok]
          simp only [hS4]
          have hlen : ((as.take i).filterMap g).length < cap := by
            have h1 := List.length_filterMap_le g (as.take i)
            rw [List.length_take] at h1
            omega
          rw [if_pos hlen]
          refine ih n (i + 1) _ (by omega) hlt (by omega) (((hle.trans le3).trans le4).put (by rw [hl]; exact Nat.le_refl _) _) ?_
          rw [List.getElem?_set_self (List.getElem?_eq_some_iff.mp hS4).1, htk, b4]
  refine wp_mono (go _ n 0 _ rfl (Nat.zero_le _) (by omega) (Le.push _ _) ?_) fun _ S' ⟨q1, q2⟩ => h5 S' q1 q2
  rw [← hl]
  exact get_push
end
end MI

/-! MI, 28: parts, words, uppers as data. -/
namespace MI
open PySem

abbrev Part := Int × Int
def dP (p : Part) : D := .tup [.int p.1, .int p.2]
def dU : Option Part → D
  | none => .non
  | some p => dP p
inductive Word where
  | part (p : Part) (u : Option Part) | out (p : Part)
def dW : Word → D
  | .part p u => .tup [.str "part", .int p.1, .int p.2, dU u]
  | .out p => .tup [.str "out", .int p.1, .int p.2]
def pP (p : Part) : PyData := .tuple [.int p.1, .int p.2]
def pU : Option Part → PyData
  | none => .none
  | some p => pP p
def pW : Word → PyData
  | .part p u => .tuple [.str "part", .int p.1, .int p.2, pU u]
  | .out p => .tuple [.str "out", .int p.1, .int p.2]
section
variable {S : Store}
theorem frz_dP (p : Part) (n : Nat) : frz S (n + 2) (dP p) = some (pP p) := rfl
theorem frz_dU (u : Option Part) (n : Nat) : frz S (n + 2) (dU u) = some (pU u) := by cases u <;> rfl
theorem frz_dW (w : Word) (n : Nat) : frz S (n + 4) (dW w) = some (pW w) := by
  cases w with
  | part p u => cases u <;> rfl
  | out p => rfl
theorem mapO_map {A B C : Type} {f : B → Option C} {g : A → B} {h : A → C} (e : ∀ a, f (g a) = some (h a)) : ∀ l : List A, mapO f (l.map g) = some (l.map h)
  | [] => rfl
  | a :: l => by
    rw [List.map_cons, List.map_cons]
    simp only [mapO, e a, mapO_map e l]
theorem frz_list {A : Type} {l : Nat} {xs : List A} {d : A → D} {p : A → PyData} {n : Nat} (h : S[l]? = some (.list (xs.map d))) (e : ∀ a, frz S n (d a) = some (p a)) : frz S (n + 1) (.loc l) = some (.list (xs.map p)) := by
  simp only [frz, h, mapO_map e xs, Option.map_some]
theorem deq_of {a b : D} {x y : PyData} (ha : frz S deep a = some x) (hb : frz S deep b = some y) : deq S a b = some (PyData.eqv x y) := by
  unfold deq
  split
  · rename_i p q
    cases ha
  · rw [ha, hb]
end
/-! ### equal -/
theorem eqv_P (p q : Part) : PyData.eqv (pP p) (pP q) = decide (p = q) := by
  obtain ⟨a, b⟩ := p
  obtain ⟨c, d⟩ := q
  simp only [pP, PyData.eqv, PyData.eqvAll, Bool.and_true, Prod.mk.injEq, Bool.decide_and]
  rfl
theorem eqv_U (u v : Option Part) : PyData.eqv (pU u) (pU v) = decide (u = v) := by
  cases u with
  | none => cases v with
    | none => rfl
    | some q => rfl
  | some p => cases v with
    | none => rfl
    | some q =>
      show PyData.eqv (pP p) (pP q) = _
      rw [eqv_P]
      simp only [Option.some.injEq]
theorem eqvAll_map {A : Type} [DecidableEq A] {p : A → PyData} (e : ∀ x y, PyData.eqv (p x) (p y) = decide (x = y)) : ∀ xs ys : List A, PyData.eqvAll (xs.map p) (ys.map p) = decide (xs = ys)
  | [], [] => rfl
  | [], _ :: _ => rfl
  | _ :: _, [] => rfl
  | x :: xs, y :: ys => by
    simp only [List.map_cons, PyData.eqvAll, e, eqvAll_map e xs ys, List.cons.injEq, Bool.decide_and]
theorem eqv_list {A : Type} [DecidableEq A] {p : A → PyData} (e : ∀ x y, PyData.eqv (p x) (p y) = decide (x = y)) (xs ys : List A) : PyData.eqv (.list (xs.map p)) (.list (ys.map p)) = decide (xs = ys) := by
  show PyData.eqvAll _ _ = _
  exact eqvAll_map e xs ys
theorem any_eqv {A : Type} [DecidableEq A] {p : A → PyData} (e : ∀ x y, PyData.eqv (p x) (p y) = decide (x = y)) (xs : List A) (y : A) : (xs.map p).any (fun z => PyData.eqv z (p y)) = decide (y ∈ xs) := by
  induction xs with
  | nil => rfl
  | cons x xs ih =>
    rw [List.map_cons, List.any_cons, ih, e, ← Bool.decide_or, decide_eq_decide, List.mem_cons]
    constructor
    · rintro (rfl | h)
      · exact .inl rfl
      · exact .inr h
    · rintro (rfl | h)
      · exact .inl rfl
      · exact .inr h
theorem in_list {S : Store} {A : Type} [DecidableEq A] {d : A → D} {p : A → PyData} (e : ∀ x y, PyData.eqv (p x) (p y) = decide (x = y)) (hd : ∀ a, frz S deep (d a) = some (p a)) {l : Nat} {xs : List A} (h : S[l]? = some (.list (xs.map d))) (y : A) :
    isinD (d y) (.loc l) S = some (decide (y ∈ xs)) := by
  unfold isinD
  simp only [h, hd, mapO_map hd xs, any_eqv e]
/-! ### uppers -/
abbrev Ups := List (Part × Option Part)
def kP (p : Part) : List L2.Key := [.inl p.1, .inl p.2]
def dKv (u : Ups) : List (List L2.Key × D) := u.map fun q => (kP q.1, dU q.2)
theorem kP_inj {p q : Part} (h : kP p = kP q) : p = q := by
  obtain ⟨a, b⟩ := p
  obtain ⟨c, d⟩ := q
  simp only [kP, List.cons.injEq, Sum.inl.injEq] at h
  rw [h.1, h.2.1]
theorem kP_dec (p q : Part) : decide (kP p = kP q) = decide (p = q) := by
  rw [decide_eq_decide]
  exact ⟨kP_inj, fun h => by rw [h]⟩
theorem keysOf_dP (p : Part) : keysOf (dP p) = some (kP p) := rfl
def uget (u : Ups) (p : Part) : Option (Option Part) := (u.find? fun q => decide (q.1 = p)).map (·.2)
def uput (u : Ups) (p : Part) (v : Option Part) : Ups := if (u.any fun q => decide (q.1 = p)) = true then u.map (fun q => if q.1 = p then (q.1, v) else q) else u ++ [(p, v)]
theorem dget_kv (u : Ups) (p : Part) : dget (dKv u) (kP p) = (uget u p).map dU := by
  unfold dget uget dKv
  induction u with
  | nil => rfl
  | cons q u ih =>
    rw [List.map_cons, List.find?_cons, List.find?_cons]
    simp only [kP_dec]
    cases decide (q.1 = p) with
    | true => rfl
    | false => exact ih
theorem dput_kv (u : Ups) (p : Part) (v : Option Part) : dput (dKv u) (kP p) (dU v) = dKv (uput u p v) := by
  unfold dput uput dKv
  rw [List.any_map]
  have e : ((fun kv => decide (kv.1 = kP p)) ∘ fun q : Part × Option Part => (kP q.1, dU q.2)) = fun q => decide (q.1 = p) := by
    funext q
    exact kP_dec q.1 p
  rw [e]
  split
  · rw [List.map_map, List.map_map]
    refine List.map_congr_left fun q _ => ?_
    show (if kP q.1 = kP p then (kP q.1, dU v) else (kP q.1, dU q.2)) = (kP (if q.1 = p then (q.1, v) else q).1, dU (if q.1 = p then (q.1, v) else q).2)
    by_cases h : q.1 = p
    · rw [if_pos (by rw [h]), if_pos h]
    · rw [if_neg (fun z => h (kP_inj z)), if_neg h]
  · rw [List.map_append]
    rfl
theorem uput_len (u : Ups) (p : Part) (v : Option Part) : (uput u p v).length ≤ u.length + 1 := by
  unfold uput
  split
  · rw [List.length_map]; exact Nat.le_succ _
  · rw [List.length_append]; exact Nat.le_refl _
def stepU (u : Ups) : Word → Ups
  | .part p v => uput u p v
  | .out _ => u
def ups (wl : List Word) : Ups := wl.foldl stepU []
def outs (wl : List Word) : List Part := wl.filterMap fun w => match w with
  | .out p => some p
  | _ => none
theorem ups_take {wl : List Word} {i : Nat} {w : Word} (h : wl[i]? = some w) : ups (wl.take (i + 1)) = stepU (ups (wl.take i)) w := by
  unfold ups
  rw [List.take_add_one, h, List.foldl_append]
  rfl
theorem fold_len (wl : List Word) : ∀ u : Ups, (wl.foldl stepU u).length ≤ u.length + wl.length := by
  induction wl with
  | nil => intro u; exact Nat.le_refl _
  | cons w wl ih =>
    intro u
    rw [List.foldl_cons, List.length_cons]
    have h := ih (stepU u w)
    have h2 : (stepU u w).length ≤ u.length + 1 := by
      cases w with
      | part p v => exact uput_len u p v
      | out p => exact Nat.le_succ _
    omega
theorem ups_len (wl : List Word) : (ups wl).length ≤ wl.length := by
  have := fold_len wl []
  rw [List.length_nil, Nat.zero_add] at this
  exact this
/-- a dict of uppers stands at m -/
def HasU (S : Store) (m : Nat) (u : Ups) : Prop := ∃ b, S[m]? = some (.dict b (dKv u))
def HasL {A : Type} (S : Store) (l : Nat) (d : A → D) (xs : List A) : Prop := S[l]? = some (.list (xs.map d))
theorem HasU.le {S S' : Store} {m : Nat} {u : Ups} (h : HasU S m u) (e : Le S S') : HasU S' m u := h.imp fun _ q => e _ _ q
theorem HasL.le {A : Type} {S S' : Store} {l : Nat} {d : A → D} {xs : List A} (h : HasL S l d xs) (e : Le S S') : HasL S' l d xs := e _ _ h
theorem in_U {S : Store} {m : Nat} {u : Ups} (h : HasU S m u) (p : Part) : isinD (dP p) (.loc m) S = some (uget u p).isSome := by
  obtain ⟨b, h⟩ := h
  unfold isinD
  simp only [h, keysOf_dP, dget_kv, Option.isSome_map]
theorem item_U {S : Store} {m : Nat} {u : Ups} (h : HasU S m u) {p : Part} {v : Option Part} (hv : uget u p = some v) : itemD (.loc m) (dP p) S = some (dU v) := by
  obtain ⟨b, h⟩ := h
  unfold itemD
  simp only [h, keysOf_dP, dget_kv, hv, Option.map_some]
theorem ix_nat {n i : Nat} (h : i < n) : L2.ixN n (i : Int) = some i := by
  unfold L2.ixN
  rw [if_pos (by omega)]
  first | rw [if_pos (by omega)] <;> simp | simp
theorem isNon_dU (u : Option Part) : isNon (dU u) = decide (u = none) := by cases u <;> rfl
end MI

/-! MI, 29: small steps. -/
namespace MI
open PySem

theorem ret_rt {a : Env → Store → Prop} {b : D → Store → Prop} {c d : Env → Store → Prop} {v : D} {S : Store} : (Ws.mk a b c d).rt v S = b v S := rfl
theorem bind_name {i : Nat} {d : D} {e e' : Env} : bindT (.name i) d e = some e' ↔ i < e.length ∧ e.set i (some d) = e' := by
  unfold bindT
  by_cases h : i < e.length
  · rw [if_pos h]; exact ⟨fun q => ⟨h, Option.some.inj q⟩, fun q => by rw [q.2]⟩
  · rw [if_neg h]; exact ⟨fun q => (by cases q), fun q => absurd q.1 h⟩
theorem bindPar_ok {i : Nat} {is : List Nat} {d : D} {ds : List D} {e e' : Env} : bindPar (i :: is) (d :: ds) e = some e' ↔ i < e.length ∧ bindPar is ds (e.set i (some d)) = some e' := by
  show (if i < e.length then bindPar is ds (e.set i (some d)) else none) = some e' ↔ _
  by_cases h : i < e.length
  · rw [if_pos h]; exact ⟨fun q => ⟨h, q⟩, fun q => q.2⟩
  · rw [if_neg h]; exact ⟨fun q => (by cases q), fun q => absurd q.1 h⟩
theorem bindPar_end {e e' : Env} : bindPar [] [] e = some e' ↔ e = e' := ⟨fun h => Option.some.inj h, fun h => by rw [h]; rfl⟩
theorem exists_eq_left2 {A : Type} {a : A} {p : A → Prop} {c : Prop} : (∃ x, (c ∧ a = x) ∧ p x) ↔ c ∧ p a := ⟨fun ⟨_, ⟨h, e⟩, q⟩ => by subst e; exact ⟨h, q⟩, fun ⟨h, q⟩ => ⟨a, ⟨h, rfl⟩, q⟩⟩
theorem itT (xs : List D) (n : Nat) (S : Store) (h : n < xs.length) : itemD (.tup xs) (.int (n : Nat)) S = xs[n]? := by
  show (match L2.ixN xs.length (n : Int) with | some n => xs[n]? | none => none) = _
  rw [ix_nat h]
theorem itT0 {a : D} {r : List D} {S : Store} : itemD (.tup (a :: r)) (.int 0) S = some a := itT (a :: r) 0 S (by simp)
theorem itT1 {a b : D} {r : List D} {S : Store} : itemD (.tup (a :: b :: r)) (.int 1) S = some b := itT (a :: b :: r) 1 S (by simp)
theorem itT2 {a b c : D} {r : List D} {S : Store} : itemD (.tup (a :: b :: c :: r)) (.int 2) S = some c := itT (a :: b :: c :: r) 2 S (by simp)
theorem itT3 {a b c d : D} {r : List D} {S : Store} : itemD (.tup (a :: b :: c :: d :: r)) (.int 3) S = some d := itT (a :: b :: c :: d :: r) 3 S (by simp)
theorem deq_str {a b : Str} {S : Store} : deq S (.str a) (.str b) = some (a == b) := rfl
theorem deq_bl {a b : Bool} {S : Store} : deq S (.bl a) (.bl b) = some (a == b) := rfl
theorem deq_int {a b : Int} {S : Store} : deq S (.int a) (.int b) = some (a == b) := rfl
theorem po_ : (("part" : Str) == "out") = false := by decide +kernel
theorem op_ : (("out" : Str) == "part") = false := by decide +kernel
theorem pp_ : (("part" : Str) == "part") = true := by decide +kernel
theorem oo_ : (("out" : Str) == "out") = true := by decide +kernel
/-- items of a list -/
theorem it_list {S : Store} {l : Nat} {xs : List D} {n : Nat} {d : D} (h : S[l]? = some (.list xs)) (hn : xs[n]? = some d) : itemD (.loc l) (.int (n : Nat)) S = some d := by
  show (match S[l]?, D.int (n : Int) with
    | some (.list xs), .int i => (match L2.ixN xs.length i with | some n => xs[n]? | none => none)
    | some (.fix xs), .int i => (match L2.ixN xs.length i with | some n => xs[n]? | none => none)
    | some (.dict _ kvs), k => (match keysOf k with | some k => dget kvs k | none => none)
    | _, _ => none) = _
  rw [h]
  show (match L2.ixN xs.length (n : Int) with | some n => xs[n]? | none => none) = _
  rw [ix_nat (List.getElem?_eq_some_iff.mp hn).1]
  exact hn
theorem it_last {S : Store} {l : Nat} {xs : List D} {d : D} (h : S[l]? = some (.list xs)) (hn : xs.getLast? = some d) : itemD (.loc l) (.int (-1)) S = some d := by
  show (match S[l]?, D.int (-1) with
    | some (.list xs), .int i => (match L2.ixN xs.length i with | some n => xs[n]? | none => none)
    | some (.fix xs), .int i => (match L2.ixN xs.length i with | some n => xs[n]? | none => none)
    | some (.dict _ kvs), k => (match keysOf k with | some k => dget kvs k | none => none)
    | _, _ => none) = _
  rw [h]
  show (match L2.ixN xs.length (-1) with | some n => xs[n]? | none => none) = _
  rw [List.getLast?_eq_getElem?] at hn
  have hl : 0 < xs.length := by
    have := (List.getElem?_eq_some_iff.mp hn).1
    omega
  have e : L2.ixN xs.length (-1) = some (xs.length - 1) := by
    unfold L2.ixN
    rw [if_neg (by omega), if_pos (by omega)]
    congr 1
    omega
  rw [e]
  exact hn
theorem it_fix {S : Store} {l : Nat} {xs : List D} {n : Nat} {d : D} (h : S[l]? = some (.fix xs)) (hn : xs[n]? = some d) : itemD (.loc l) (.int (n : Nat)) S = some d := by
  show (match S[l]?, D.int (n : Int) with
    | some (.list xs), .int i => (match L2.ixN xs.length i with | some n => xs[n]? | none => none)
    | some (.fix xs), .int i => (match L2.ixN xs.length i with | some n => xs[n]? | none => none)
    | some (.dict _ kvs), k => (match keysOf k with | some k => dget kvs k | none => none)
    | _, _ => none) = _
  rw [h]
  show (match L2.ixN xs.length (n : Int) with | some n => xs[n]? | none => none) = _
  rw [ix_nat (List.getElem?_eq_some_iff.mp hn).1]
  exact hn
/-! ### walks -/
theorem next_list {A : Type} {S : Store} {l i : Nat} {d : A → D} {xs : List A} (h : HasL S l d xs) : itNext S i (.list l) = some (xs[i]?.map d) := by
  show (match litems S (.loc l) with | some xs => some xs[i]? | none => none) = _
  rw [li_list h]
  show some (xs.map d)[i]? = _
  rw [List.getElem?_map]
theorem mk_list {A : Type} {S : Store} {l : Nat} {d : A → D} {xs : List A} (h : HasL S l d xs) : itMk .list [.loc l] S = some (.list l, xs.length) := by
  show (match isL S l with | some n => some (It.list l, n) | none => none) = _
  unfold isL
  rw [show S[l]? = some (.list (xs.map d)) from h]
  simp only [List.length_map]
theorem next_zip {A B : Type} {S : Store} {l m i : Nat} {d : A → D} {d2 : B → D} {xs : List A} {ys : List B} (h : HasL S l d xs) (h2 : HasL S m d2 ys) : itNext S i (.zip l m) = some ((xs.zip ys)[i]?.map fun p => D.tup [d p.1, d2 p.2]) := by
  show (match litems S (.loc l), litems S (.loc m) with
    | some xs, some ys => some (match xs[i]?, ys[i]? with | some x, some y => some (D.tup [x, y]) | _, _ => none)
    | _, _ => none) = _
  rw [li_list h, li_list h2]
  show some (match (xs.map d)[i]?, (ys.map d2)[i]? with | some x, some y => some (D.tup [x, y]) | _, _ => none) = _
  rw [List.getElem?_map, List.getElem?_map, List.zip, List.getElem?_zipWith]
  cases xs[i]? <;> cases ys[i]? <;> rfl
theorem mk_zip {A B : Type} {S : Store} {l m : Nat} {d : A → D} {d2 : B → D} {xs : List A} {ys : List B} (h : HasL S l d xs) (h2 : HasL S m d2 ys) : itMk .zip [.loc l, .loc m] S = some (.zip l m, min xs.length ys.length) := by
  show (match isL S l, isL S m with | some n, some k => some (It.zip l m, min n k) | _, _ => none) = _
  unfold isL
  rw [show S[l]? = some (.list (xs.map d)) from h, show S[m]? = some (.list (ys.map d2)) from h2]
  simp only [List.length_map]
theorem next_range {S : Store} {i n : Nat} {lo : Int} : itNext S i (.range lo 1 n) = some ((List.range n)[i]?.map fun j => D.int (lo + j)) := by
  show (if i < n then some (some (D.int (lo + i * 1))) else some none) = _
  by_cases h : i < n
  · rw [if_pos h, List.getElem?_range h, Int.mul_one]
    rfl
  · rw [if_neg h, List.getElem?_eq_none (by rw [List.length_range]; omega)]
    rfl
theorem mk_r1 {S : Store} {j : Int} (h : 0 ≤ j ∧ j ≤ big) : itMk .range1 [.int j] S = some (.range 0 1 j.toNat, j.toNat) := by
  show (if -big ≤ j ∧ j ≤ big then some (It.range 0 1 j.toNat, j.toNat) else none) = _
  have hb : (0 : Int) ≤ big := by decide
  rw [if_pos (by omega)]
theorem next_tup {S : Store} {i : Nat} {xs : List D} : itNext S i (.tuple xs) = some xs[i]? := rfl
theorem mk_tup {S : Store} {xs : List D} : itMk .tuple [.tup xs] S = some (.tuple xs, xs.length) := rfl
theorem len_lt {S : Store} {l : Nat} {o : O} (h : S[l]? = some o) : l < S.length := (List.getElem?_eq_some_iff.mp h).1
theorem set_get {S : Store} {l : Nat} {o o' : O} (h : S[l]? = some o) : (S.set l o')[l]? = some o' := List.getElem?_set_self (len_lt h)
theorem set_ne {S : Store} {l m : Nat} {o o' : O} (h : S[m]? = some o) (hn : m ≠ l) : (S.set l o')[m]? = some o := by
  rw [List.getElem?_set_ne (Ne.symm hn)]
  exact h
theorem cons_dict {S : Store} {m : Nat} {kvs : List (List L2.Key × D)} {k : D} {ks : List L2.Key} {v : D} {e : Env} {P : Ws} (h : S[m]? = some (.dict false kvs)) (hk : keysOf k = some ks) : ws (setItem (.loc m) k v e S) P ↔ kvs.length < cap ∧ P.nx e (S.set m (.dict false (dput kvs ks v))) := by
  cases k with
  | tup xs =>
    have e1 : setItem (.loc m) (.tup xs) v e S = if kvs.length < cap then .nx e (S.set m (.dict false (dput kvs ks v))) else .bad := by
      unfold setItem
      simp only [h, hk]
    rw [e1]
    by_cases hc : kvs.length < cap
    · rw [if_pos hc]; exact ⟨fun q => ⟨hc, q⟩, fun q => q.2⟩
    · rw [if_neg hc]; exact ⟨fun q => q.elim, fun q => absurd q.1 hc⟩
  | _ => cases hk
theorem ofC_one {c : CE} {G : Prog} {call : Nat → List D → Store → R D} {e : Env} {S : Store} {Q : Bool → Store → Prop} : wp (evalC G call [c] e S) Q ↔ wp (eval G call c e S) fun d S => ∃ b, d = .bl b ∧ Q b S := by
  show wp (asB (eval G call c e S)) Q ↔ _
  exact wp_asB
theorem ofC_nil {G : Prog} {call : Nat → List D → Store → R D} {e : Env} {S : Store} {Q : Bool → Store → Prop} : wp (evalC G call [] e S) Q ↔ Q true S := Iff.rfl
end MI

/-! MI, 30: lists of parts, maps. -/
namespace MI
open PySem

section
variable {G : Prog} {call : Nat → List D → Store → R D} {A B : Type} {S : Store} {Q : D → Store → Prop}
theorem filterMap_some (f : A → D) : ∀ xs : List A, xs.filterMap (fun a => some (f a)) = xs.map f
  | [] => rfl
  | x :: xs => by rw [List.map_cons, ← filterMap_some f xs]; rfl
theorem boolL_map (f : A → Bool) (xs : List A) : boolL (xs.map fun a => .bl (f a)) = some (xs.map f) := by
  unfold boolL
  exact mapO_map (g := fun a => D.bl (f a)) (h := f) (fun a => rfl) xs
theorem p_all_map {l : Nat} {xs : List A} {f : A → Bool} (h : HasL S l (fun a => .bl (f a)) xs) : wp (prim .all [.loc l] S) Q ↔ Q (.bl (xs.all f)) S := by
  rw [p_all]
  simp only [li_list h, Option.some.injEq, exists_eq_left', boolL_map, List.all_map]
  exact Iff.rfl
theorem p_any_map {l : Nat} {xs : List A} {f : A → Bool} (h : HasL S l (fun a => .bl (f a)) xs) : wp (prim .any [.loc l] S) Q ↔ Q (.bl (xs.any f)) S := by
  rw [p_any]
  simp only [li_list h, Option.some.injEq, exists_eq_left', boolL_map, List.any_map]
  exact Iff.rfl
/-- [f(x) for x in a list] -/
theorem e_mapL {own : List Nat} {ies : List CE} {t : CT} {elt : CE} {e : Env} (d : A → D) (f : A → D)
    (h : wp (evalL G call ies e S) fun ds S1 => ∃ (l : Nat) (xs : List A), ds = [.loc l] ∧ HasL S1 l d xs ∧ xs.length < cap ∧
      (∀ (a : A) (S2 : Store), a ∈ xs → Le S1 S2 → ∃ e1, bindT t (d a) (wipeE e own) = some e1 ∧ wp (eval G call elt e1 S2) fun y S4 => Le S2 S4 ∧ y = f a) ∧
      ∀ S', Le S1 S' → HasL S' S1.length f xs → Q (.loc S1.length) S') : wp (eval G call (.comp own .list ies t [] elt) e S) Q := by
  refine e_comp (A := A) (wp_mono h fun ds S1 ⟨l, xs, h1, h2, h3, h4, h5⟩ => ?_)
  subst h1
  refine ⟨_, _, xs, d, fun a => some (f a), mk_list h2, Nat.le_refl _, h3, fun S2 hle i => next_list (h2.le hle), fun a S2 ha hle => ?_, fun S' hle hS => h5 S' hle ?_⟩
  · obtain ⟨e1, q1, q2⟩ := h4 a S2 ha hle
    refine ⟨e1, q1, ofC_nil.mpr ⟨Le.refl _, ?_⟩⟩
    rw [if_pos rfl]
    exact wp_mono q2 fun y S4 ⟨a1, a2⟩ => ⟨a1, by rw [a2]⟩
  · unfold HasL
    rw [hS, filterMap_some]
/-- [f(x, y) for x, y in zip(..)] -/
theorem e_mapZ {own : List Nat} {ies : List CE} {t : CT} {elt : CE} {e : Env} (d : A → D) (d2 : B → D) (f : A × B → D)
    (h : wp (evalL G call ies e S) fun ds S1 => ∃ (l m : Nat) (xs : List A) (ys : List B), ds = [.loc l, .loc m] ∧ HasL S1 l d xs ∧ HasL S1 m d2 ys ∧ xs.length < cap ∧
      (∀ (a : A × B) (S2 : Store), a ∈ xs.zip ys → Le S1 S2 → ∃ e1, bindT t (.tup [d a.1, d2 a.2]) (wipeE e own) = some e1 ∧ wp (eval G call elt e1 S2) fun y S4 => Le S2 S4 ∧ y = f a) ∧
      ∀ S', Le S1 S' → HasL S' S1.length f (xs.zip ys) → Q (.loc S1.length) S') : wp (eval G call (.comp own .zip ies t [] elt) e S) Q := by
  refine e_comp (A := A × B) (wp_mono h fun ds S1 ⟨l, m, xs, ys, h1, h2, h2', h3, h4, h5⟩ => ?_)
  subst h1
  refine ⟨_, _, xs.zip ys, fun a => .tup [d a.1, d2 a.2], fun a => some (f a), mk_zip h2 h2', by rw [List.length_zip]; exact Nat.le_refl _, by rw [List.length_zip]; omega, fun S2 hle i => next_zip (h2.le hle) (h2'.le hle), fun a S2 ha hle => ?_, fun S' hle hS => h5 S' hle ?_⟩
  · obtain ⟨e1, q1, q2⟩ := h4 a S2 ha hle
    refine ⟨e1, q1, ofC_nil.mpr ⟨Le.refl _, ?_⟩⟩
    rw [if_pos rfl]
    exact wp_mono q2 fun y S4 ⟨a1, a2⟩ => ⟨a1, by rw [a2]⟩
  · unfold HasL
    rw [hS, filterMap_some]
theorem deq_P {p q : Part} : deq S (dP p) (dP q) = some (decide (p = q)) := by
  rw [deq_of (frz_dP p 6) (frz_dP q 6), eqv_P]
theorem deq_U {p q : Option Part} : deq S (dU p) (dU q) = some (decide (p = q)) := by
  rw [deq_of (frz_dU p 6) (frz_dU q 6), eqv_U]
theorem deq_UP {p : Option Part} {q : Part} : deq S (dU p) (dP q) = some (decide (p = some q)) := deq_U (p := p) (q := some q)
theorem deq_LP {l m : Nat} {xs ys : List Part} (h : HasL S l dP xs) (h2 : HasL S m dP ys) : deq S (.loc l) (.loc m) = some (decide (xs = ys)) := by
  rw [deq_of (frz_list h fun p => frz_dP p 5) (frz_list h2 fun p => frz_dP p 5), eqv_list eqv_P]
theorem deq_LU {l m : Nat} {xs ys : List (Option Part)} (h : HasL S l dU xs) (h2 : HasL S m dU ys) : deq S (.loc l) (.loc m) = some (decide (xs = ys)) := by
  rw [deq_of (frz_list h fun p => frz_dU p 5) (frz_list h2 fun p => frz_dU p 5), eqv_list eqv_U]
theorem in_LP {l : Nat} {xs : List Part} (h : HasL S l dP xs) (p : Part) : isinD (dP p) (.loc l) S = some (decide (p ∈ xs)) := by
  rw [in_list eqv_P (fun p => frz_dP p 6) h p]
  congr 1
  exact decide_eq_decide.mpr Iff.rfl
theorem push_nil {d : A → D} : HasL (S ++ [.list []]) S.length d ([] : List A) := get_push
theorem isNon_dP (p : Part) : isNon (dP p) = false := rfl
theorem exists_eq_left3 {A : Type} {a : A} {p : A → Prop} {c c' : Prop} : (∃ x, (c ∧ c' ∧ a = x) ∧ p x) ↔ c ∧ c' ∧ p a := ⟨fun ⟨_, ⟨h, h', e⟩, q⟩ => by subst e; exact ⟨h, h', q⟩, fun ⟨h, h', q⟩ => ⟨a, ⟨h, h', rfl⟩, q⟩⟩
theorem bindT_two {i j : Nat} {a b : D} {e e' : Env} : bindT (.tup [.name i, .name j]) (.tup [a, b]) e = some e' ↔ i < e.length ∧ j < e.length ∧ (e.set i (some a)).set j (some b) = e' := by
  simp only [bindT, bindTs]
  by_cases h : i < e.length
  · by_cases h2 : j < e.length
    · simp [h, h2]
    · simp [h, h2]
  · simp [h]
/-- cuts -/
theorem cut_drop {xs : List D} {n : Nat} : cut xs (some (n : Nat)) none = xs.drop n := by
  unfold cut
  rw [HT.sIx_nat, HT.sIx_none]
  by_cases h : n ≤ xs.length
  · rw [Nat.min_eq_left h, List.take_of_length_le (by rw [List.length_drop]; exact Nat.le_refl _)]
  · rw [Nat.min_eq_right (by omega), List.drop_length, List.drop_eq_nil_of_le (by omega), List.take_nil]
theorem cut_take {xs : List D} {n : Nat} : cut xs none (some (n : Nat)) = xs.take n := by
  unfold cut
  rw [HT.sIx_nat, HT.sIx_none, List.drop_zero, Nat.sub_zero]
  by_cases h : n ≤ xs.length
  · rw [Nat.min_eq_left h]
  · rw [Nat.min_eq_right (by omega), List.take_length, List.take_of_length_le (by omega)]
theorem cut_init {xs : List D} : cut xs none (some (-1)) = xs.dropLast := by
  unfold cut
  rw [HT.sIx_none, List.drop_zero, Nat.sub_zero, List.dropLast_eq_take]
  congr 1
  show (if (-1 : Int) < 0 then ((-1 : Int) + (xs.length : Int)).toNat else min (-1 : Int).toNat xs.length) = _
  rw [if_pos (by decide)]
  omega
theorem cut_last {xs : List D} : cut xs (some (-1)) none = xs.drop (xs.length - 1) := by
  unfold cut
  have e : HT.sIx xs.length 0 (some (-1)) = xs.length - 1 := by
    show (if (-1 : Int) < 0 then ((-1 : Int) + (xs.length : Int)).toNat else min (-1 : Int).toNat xs.length) = _
    rw [if_pos (by decide)]
    omega
  rw [e, HT.sIx_none, List.take_of_length_le (by rw [List.length_drop]; exact Nat.le_refl _)]
end
end MI

/-! the law as a program of MI -/
namespace MI.Law
open PySem PySem.Spec PyProof.Rows L2 MI
def top (i : Nat) : Stmt := PySem.Challenge.pw_storyturns_k03_why_by_hand.main.body.getD i (.Pass ⟨0, 0, 0, 0⟩)
abbrev st0 : Stmt := top 1
abbrev st1 : Stmt := top 2
abbrev st2 : Stmt := top 5
abbrev st3 : Stmt := inClass (top 6) 0
abbrev st4 : Stmt := inClass (top 6) 1
abbrev st5 : Stmt := inClass (top 7) 0
abbrev st6 : Stmt := inClass (top 7) 1
abbrev st7 : Stmt := inClass (top 8) 0
abbrev st8 : Stmt := inClass (top 8) 1
abbrev st9 : Stmt := top 10
abbrev st10 : Stmt := top 11
abbrev st11 : Stmt := top 12
abbrev st12 : Stmt := top 13
abbrev st13 : Stmt := top 14
abbrev st14 : Stmt := top 15
abbrev st15 : Stmt := top 16
abbrev st16 : Stmt := top 17
abbrev st17 : Stmt := top 18
abbrev st18 : Stmt := top 19
abbrev st19 : Stmt := top 20
abbrev st20 : Stmt := top 21
abbrev N0 : List Str := ["words", "found", "word"]
/-- uppers_of -/
def b0 : List CS := [.asg (.name 1) (.dnew),
    .for_ .list [.var 0] (.name 2) [.ite (.prim .eq [.prim .item [.var 2, .cst (.int 0)], .cst (.str "part")]) [.setSub (.var 1) (.sl2 (.var 2) (.cst (.int 1)) (.cst (.int 3))) (.prim .item [.var 2, .cst (.int 3)])] []],
    .ret (.var 1)]
abbrev N1 : List Str := ["words", "word"]
/-- outs_of -/
def b1 : List CS := [.ret (.comp [1] .list [.var 0] (.name 1) [.prim .eq [.prim .item [.var 1, .cst (.int 0)], .cst (.str "out")]] (.sl2 (.var 1) (.cst (.int 1)) (.cst (.int 3))))]
abbrev N2 : List Str := ["uppers", "part", "way", "one", "other"]
/-- is_way -/
def b2 : List CS := [.ite (.or (.prim .eq [.var 2, .lst []]) (.or (.prim .ne [.prim .item [.var 2, .prim .neg [.cst (.int 1)]], .var 1]) (.or (.not (.prim .all [.comp [3] .list [.var 2] (.name 3) [] (.prim .isin [.var 3, .var 0])])) (.prim .notN [.prim .item [.var 0, .prim .item [.var 2, .cst (.int 0)]], .cst .non])))) [.ret (.cst (.bl false))] [],
    .ret (.prim .all [.comp [3, 4] .zip [.var 2, .slL (.var 2) (.cst (.int 1))] (.tup [.name 3, .name 4]) [] (.prim .eq [.prim .item [.var 0, .var 4], .var 3])])]
abbrev N3 : List Str := ["self", "way"]
/-- Stands.__init__ -/
def b3 : List CS := [.setFld (.var 0) "way" (.prim .list1 [.var 1])]
abbrev N4 : List Str := ["self", "words", "part", "outs", "one"]
/-- Stands.shows -/
def b4 : List CS := [.asg (.name 3) (.call 1 [.var 1]),
    .ret (.and (.call 2 [.call 0 [.var 1], .var 2, .fld "way" (.var 0)]) (.not (.prim .any [.comp [4] .list [.fld "way" (.var 0)] (.name 4) [] (.prim .isin [.var 4, .var 3])])))]
abbrev N5 : List Str := ["self", "way"]
/-- Gone.__init__ -/
def b5 : List CS := [.setFld (.var 0) "way" (.prim .list1 [.var 1])]
abbrev N6 : List Str := ["self", "words", "part", "outs", "one"]
/-- Gone.shows -/
def b6 : List CS := [.asg (.name 3) (.call 1 [.var 1]),
    .ret (.and (.call 2 [.call 0 [.var 1], .var 2, .fld "way" (.var 0)]) (.prim .any [.comp [4] .list [.fld "way" (.var 0)] (.name 4) [] (.prim .isin [.var 4, .var 3])]))]
abbrev N7 : List Str := ["self", "chain"]
/-- Waits.__init__ -/
def b7 : List CS := [.setFld (.var 0) "chain" (.prim .list1 [.var 1])]
abbrev N8 : List Str := ["self", "words", "part", "uppers", "last", "one", "other"]
/-- Waits.shows -/
def b8 : List CS := [.asg (.name 3) (.call 0 [.var 1]),
    .ite (.or (.prim .eq [.fld "chain" (.var 0), .lst []]) (.or (.prim .ne [.prim .item [.fld "chain" (.var 0), .cst (.int 0)], .var 2]) (.not (.prim .all [.comp [5] .list [.fld "chain" (.var 0)] (.name 5) [] (.prim .isin [.var 5, .var 3])])))) [.ret (.cst (.bl false))] [],
    .ite (.prim .lt [.prim .lenset [.fld "chain" (.var 0)], .prim .len [.fld "chain" (.var 0)]]) [.ret (.cst (.bl false))] [],
    .ite (.not (.prim .all [.comp [5, 6] .zip [.fld "chain" (.var 0), .slL (.fld "chain" (.var 0)) (.cst (.int 1))] (.tup [.name 5, .name 6]) [] (.prim .eq [.prim .item [.var 3, .var 5], .var 6])])) [.ret (.cst (.bl false))] [],
    .asg (.name 4) (.prim .item [.var 3, .prim .item [.fld "chain" (.var 0), .prim .neg [.cst (.int 1)]]]),
    .ret (.and (.prim .notN [.var 4, .cst .non]) (.or (.prim .notin [.var 4, .var 3]) (.prim .isin [.var 4, .fld "chain" (.var 0)])))]
abbrev N9 : List Str := ["_law_script", "_law_k"]
/-- _law_cell_at -/
def b9 : List CS := [.ite (.prim .lt [.var 1, .prim .len [.var 0]]) [.ret (.prim .item [.var 0, .var 1])] [],
    .ret (.cst (.int 0))]
abbrev N10 : List Str := ["_law_cell", "_law_k", "_law_most", "_law_primes"]
/-- _law_draw -/
def b10 : List CS := [.asg (.name 3) (.tup [.cst (.int 1000003), .cst (.int 1000033), .cst (.int 1000037), .cst (.int 1000039), .cst (.int 1000081), .cst (.int 1000099), .cst (.int 1000117), .cst (.int 1000121), .cst (.int 1000133), .cst (.int 1000151), .cst (.int 1000159), .cst (.int 1000171), .cst (.int 1000183), .cst (.int 1000187), .cst (.int 1000193), .cst (.int 1000199)]),
    .ret (.prim .mod [.prim .mod [.prim .add [.prim .mul [.var 0, .cst (.int 48271)], .prim .mul [.var 1, .cst (.int 69621)]], .prim .item [.var 3, .prim .mod [.var 1, .cst (.int 16)]]], .var 2])]
abbrev N11 : List Str := ["_law_cell", "_law_k", "_law_limit", "_law_cut"]
/-- _law_number -/
def b11 : List CS := [.ite (.prim .ge [.var 0, .prim .pow [.cst (.int 10), .cst (.int 18)]]) [.ret (.prim .mod [.prim .fdiv [.prim .sub [.var 0, .prim .pow [.cst (.int 10), .cst (.int 18)]], .prim .item [.tup [.cst (.int 1), .cst (.int 7), .cst (.int 49), .cst (.int 343), .cst (.int 2401)], .prim .mod [.var 1, .cst (.int 5)]]], .var 2])] [],
    .asg (.name 3) (.prim .mod [.var 0, .cst (.int 1000003)]),
    .ret (.prim .mod [.call 10 [.prim .mul [.prim .add [.var 3, .prim .mul [.cst (.int 977), .var 1]], .prim .add [.prim .add [.var 3, .prim .mul [.cst (.int 31), .var 1]], .cst (.int 5)]], .prim .add [.prim .mod [.var 1, .cst (.int 9)], .cst (.int 1)], .cst (.int 999983)], .var 2])]
abbrev N12 : List Str := ["_law_script", "_law_by", "_law_most", "_law_lead", "_law_keys", "_law_found", "_law_kind", "_law_at", "_law_cell", "_law_key", "_law_upper"]
/-- _law_words -/
def b12 : List CS := [.par [3, 4, 5] [.call 9 [.var 0, .var 1], .lst [], .lst []],
    .asg (.name 6) (.call 11 [.var 3, .prim .add [.var 1, .cst (.int 1)], .cst (.int 4)]),
    .for_ .range1 [.call 11 [.var 3, .prim .add [.var 1, .cst (.int 2)], .prim .add [.var 2, .cst (.int 1)]]] (.name 7) [.asg (.name 8) (.prim .add [.call 9 [.var 0, .prim .add [.var 1, .prim .mod [.var 7, .cst (.int 7)]]], .prim .mul [.cst (.int 17), .var 7]]),
    .asg (.name 9) (.tup [.call 11 [.var 8, .prim .add [.var 7, .cst (.int 1)], .cst (.int 6)], .call 11 [.var 8, .prim .add [.var 7, .cst (.int 2)], .cst (.int 10)]]),
    .ite (.prim .notin [.var 9, .var 4]) [.asg (.name 10) (.ifx (.prim .ne [.var 4, .lst []]) (.prim .item [.var 4, .call 11 [.var 8, .prim .add [.var 7, .cst (.int 3)], .prim .len [.var 4]]]) (.cst .non)),
    .ite (.and (.prim .eq [.var 6, .cst (.int 0)]) (.prim .ne [.var 4, .lst []])) [.asg (.name 10) (.prim .item [.var 4, .prim .neg [.cst (.int 1)]])] [],
    .ite (.and (.prim .gt [.var 6, .cst (.int 0)]) (.prim .eq [.call 11 [.var 8, .prim .add [.var 7, .cst (.int 4)], .cst (.int 7)], .cst (.int 0)])) [.asg (.name 10) (.cst .non)] [],
    .ite (.and (.prim .gt [.var 6, .cst (.int 1)]) (.prim .eq [.call 11 [.var 8, .var 7, .cst (.int 6)], .cst (.int 0)])) [.asg (.name 10) (.tup [.call 11 [.var 8, .prim .add [.var 7, .cst (.int 3)], .cst (.int 6)], .call 11 [.var 8, .prim .add [.var 7, .cst (.int 1)], .cst (.int 10)]])] [],
    .expr (.lm .append (.var 4) [.var 9]),
    .expr (.lm .insert (.var 5) [.call 11 [.var 8, .prim .add [.var 7, .cst (.int 5)], .prim .add [.prim .len [.var 5], .cst (.int 1)]], .tup [.cst (.str "part"), .prim .item [.var 9, .cst (.int 0)], .prim .item [.var 9, .cst (.int 1)], .var 10]])] [],
    .ite (.prim .eq [.call 11 [.var 8, .prim .add [.var 7, .cst (.int 3)], .prim .item [.tup [.cst (.int 19), .cst (.int 8), .cst (.int 9), .cst (.int 8)], .var 6]], .cst (.int 0)]) [.expr (.lm .insert (.var 5) [.cst (.int 0), .tup [.cst (.str "out"), .prim .item [.var 9, .cst (.int 0)], .prim .item [.var 9, .cst (.int 1)]]])] []],
    .ret (.slH (.var 5) (.cst (.int 60)))]
abbrev N13 : List Str := ["_law_words_here", "_law_word"]
/-- _law_uppers -/
def b13 : List CS := [.ret (.prim .dict1 [.comp [1] .list [.var 0] (.name 1) [.prim .eq [.prim .item [.var 1, .cst (.int 0)], .cst (.str "part")]] (.tup [.tup [.prim .item [.var 1, .cst (.int 1)], .prim .item [.var 1, .cst (.int 2)]], .prim .item [.var 1, .cst (.int 3)]])])]
abbrev N14 : List Str := ["_law_uppers_here", "_law_outs", "_law_part", "_law_chain", "_law_upper", "_law_gone", "_law_one"]
/-- _law_state_by -/
def b14 : List CS := [.asg (.name 3) (.lst [.var 2]),
    .whl (.cst (.bl true)) [.asg (.name 4) (.prim .item [.var 0, .prim .item [.var 3, .prim .neg [.cst (.int 1)]]]),
    .ite (.prim .isN [.var 4, .cst .non]) [.asg (.name 5) (.comp [6] .list [.var 3] (.name 6) [.prim .isin [.var 6, .var 1]] (.var 6)),
    .ret (.tup [.ifx (.prim .eq [.var 5, .lst []]) (.cst (.str "stands")) (.cst (.str "gone")), .prim .rev [.var 3]])] [],
    .ite (.or (.prim .notin [.var 4, .var 0]) (.prim .isin [.var 4, .var 3])) [.ret (.tup [.cst (.str "waits"), .var 3])] [],
    .expr (.lm .append (.var 3) [.var 4])]]
abbrev N15 : List Str := ["_law_words_here", "_law_part", "_law_word"]
/-- _law_state -/
def b15 : List CS := [.ret (.call 14 [.call 13 [.var 0], .comp [2] .list [.var 0] (.name 2) [.prim .eq [.prim .item [.var 2, .cst (.int 0)], .cst (.str "out")]] (.sl2 (.var 2) (.cst (.int 1)) (.cst (.int 3))), .var 1])]
abbrev N16 : List Str := ["_law_words_here", "_law_part", "_law_way", "_law_uppers_here", "_law_one"]
/-- _law_is_way -/
def b16 : List CS := [.asg (.name 3) (.call 13 [.var 0]),
    .ite (.or (.prim .eq [.var 2, .lst []]) (.or (.prim .ne [.prim .item [.var 2, .prim .neg [.cst (.int 1)]], .var 1]) (.prim .any [.comp [4] .list [.var 2] (.name 4) [] (.prim .notin [.var 4, .var 3])]))) [.ret (.cst (.bl false))] [],
    .ret (.prim .eq [.comp [4] .list [.var 2] (.name 4) [] (.prim .item [.var 3, .var 4]), .prim .add [.lst [.cst .non], .slH (.var 2) (.prim .neg [.cst (.int 1)])]])]
abbrev N17 : List Str := ["_law_kind", "_law_words_here", "_law_part", "_law_row", "_law_uppers_here", "_law_outs", "_law_last", "_law_one"]
/-- _law_shows -/
def b17 : List CS := [.asg (.name 4) (.call 13 [.var 1]),
    .ite (.prim .ne [.var 0, .cst (.str "waits")]) [.asg (.name 5) (.comp [7] .list [.var 3] (.name 7) [.prim .isin [.prim .add [.tup [.cst (.str "out")], .var 7], .var 1]] (.var 7)),
    .ret (.and (.call 16 [.var 1, .var 2, .var 3]) (.prim .eq [.prim .eq [.var 5, .lst []], .prim .eq [.var 0, .cst (.str "stands")]]))] [],
    .ite (.or (.prim .eq [.var 3, .lst []]) (.or (.prim .ne [.prim .item [.var 3, .cst (.int 0)], .var 2]) (.prim .any [.comp [7] .list [.var 3] (.name 7) [] (.or (.prim .notin [.var 7, .var 4]) (.prim .gt [.lm .count (.var 3) [.var 7], .cst (.int 1)]))]))) [.ret (.cst (.bl false))] [],
    .asg (.name 6) (.prim .item [.var 4, .prim .item [.var 3, .prim .neg [.cst (.int 1)]]]),
    .ret (.and (.prim .eq [.comp [7] .list [.slH (.var 3) (.prim .neg [.cst (.int 1)])] (.name 7) [] (.prim .item [.var 4, .var 7]), .slL (.var 3) (.cst (.int 1))]) (.and (.prim .notN [.var 6, .cst .non]) (.or (.prim .notin [.var 6, .var 4]) (.prim .isin [.var 6, .var 3]))))]
abbrev N18 : List Str := ["_law_said", "_law_due"]
/-- _law_says -/
def b18 : List CS := [.ret (.and (.prim .isBool [.var 0]) (.prim .eq [.var 0, .var 1]))]
abbrev N19 : List Str := ["_law_script", "_law_by", "_law_row", "_law_part", "_law_at", "_law_one", "_law_found", "_law_other"]
/-- _law_rows -/
def b19 : List CS := [.asg (.name 4) (.call 11 [.call 9 [.var 0, .var 1], .prim .add [.var 1, .cst (.int 5)], .prim .len [.var 2]]),
    .asg (.name 5) (.prim .item [.var 2, .var 4]),
    .asg (.name 6) (.lst [.var 2, .prim .rev [.var 2], .slL (.var 2) (.cst (.int 1)), .slH (.var 2) (.prim .neg [.cst (.int 1)]), .prim .add [.var 2, .slL (.var 2) (.prim .neg [.cst (.int 1)])], .prim .add [.slH (.var 2) (.cst (.int 1)), .var 2], .lst [], .lst [.var 3], .lst [.tup [.prim .neg [.cst (.int 1)], .cst (.int 0)]]]),
    .expr (.lm .append (.var 6) [.lst [.tup [.cst (.int 0), .prim .pow [.cst (.int 10), .cst (.int 20)]], .var 3]]),
    .for_ .tuple [.tup [.tup [.prim .add [.prim .item [.var 5, .cst (.int 0)], .cst (.int 1)], .prim .item [.var 5, .cst (.int 1)]], .tup [.prim .item [.var 5, .cst (.int 0)], .prim .sub [.prim .item [.var 5, .cst (.int 1)], .cst (.int 1)]], .var 3, .tup [.prim .pow [.cst (.int 10), .cst (.int 20)], .prim .neg [.cst (.int 1)]], .tup [.prim .item [.var 5, .cst (.int 1)], .prim .item [.var 5, .cst (.int 0)]]]] (.name 7) [.expr (.lm .append (.var 6) [.prim .add [.prim .add [.slH (.var 2) (.var 4), .lst [.var 7]], .slL (.var 2) (.prim .add [.var 4, .cst (.int 1)])]])],
    .ret (.prim .add [.var 6, .lst [.prim .add [.slH (.var 2) (.var 4), .slL (.var 2) (.prim .add [.var 4, .cst (.int 1)])], .prim .add [.var 2, .lst [.var 3]], .prim .add [.lst [.var 3], .var 2], .prim .add [.var 2, .var 2]]])]
abbrev N20 : List Str := ["_law_script", "_law_by", "_law_words_here", "_law_part", "_law_state_here", "_law_row", "_law_some", "_law_handed", "_law_rows_here", "_law_one", "_law_kind", "_law_answer", "_law_way", "_law_chain", "_law_due"]
/-- law -/
def b20 : List CS := [.for_ .range1 [.cst (.int 2)] (.name 1) [.asg (.name 2) (.call 12 [.var 0, .var 1, .cst (.int 16)]),
    .for_ .list [.prim .sorted [.prim .list1 [.call 13 [.var 2]]]] (.name 3) [.asg (.tup [.name 4, .name 5]) (.call 15 [.var 2, .var 3]),
    .for_ .list [.call 19 [.var 0, .var 1, .var 5, .var 3]] (.name 6) [.asg (.name 7) (.lst [.prim .list1 [.var 6], .prim .list1 [.var 6], .prim .list1 [.var 6]]),
    .asg (.name 8) (.lst [.tup [.cst (.str "stands"), .new 1 [.prim .item [.var 7, .cst (.int 0)]]], .tup [.cst (.str "gone"), .new 2 [.prim .item [.var 7, .cst (.int 1)]]], .tup [.cst (.str "waits"), .new 3 [.prim .item [.var 7, .cst (.int 2)]]]]),
    .for_ .list [.var 7] (.name 9) [.expr (.lm .append (.var 9) [.var 3])],
    .ite (.prim .ne [.lst [.fld "way" (.prim .item [.prim .item [.var 8, .cst (.int 0)], .cst (.int 1)]), .fld "way" (.prim .item [.prim .item [.var 8, .cst (.int 1)], .cst (.int 1)]), .fld "chain" (.prim .item [.prim .item [.var 8, .cst (.int 2)], .cst (.int 1)])], .lst [.var 6, .var 6, .var 6]]) [.ret (.cst (.bl false))] [],
    .for_ .list [.var 8] (.tup [.name 10, .name 11]) [.ite (.not (.call 18 [.meth "shows" (.var 11) [.var 2, .var 3], .call 17 [.var 10, .var 2, .var 3, .var 6]])) [.ret (.cst (.bl false))] []]]]],
    .asg (.name 2) (.lst [.tup [.cst (.str "part"), .cst (.int 0), .cst (.int 0), .cst .non], .tup [.cst (.str "part"), .cst (.int 1), .cst (.int 0), .tup [.cst (.int 0), .cst (.int 0)]], .tup [.cst (.str "part"), .cst (.int 2), .cst (.int 0), .tup [.cst (.int 3), .cst (.int 0)]], .tup [.cst (.str "part"), .cst (.int 3), .cst (.int 0), .tup [.cst (.int 2), .cst (.int 0)]]]),
    .expr (.lm .append (.var 2) [.tup [.cst (.str "out"), .cst (.int 0), .cst (.int 0)]]),
    .asg (.name 12) (.lst [.tup [.cst (.int 0), .cst (.int 0)], .tup [.cst (.int 1), .cst (.int 0)]]),
    .ite (.or (.prim .notB [.meth "shows" (.new 2 [.var 12]) [.var 2, .tup [.cst (.int 1), .cst (.int 0)]], .cst (.bl true)]) (.prim .notB [.meth "shows" (.new 1 [.var 12]) [.var 2, .tup [.cst (.int 1), .cst (.int 0)]], .cst (.bl false)])) [.ret (.cst (.bl false))] [],
    .for_ .tuple [.tup [.tup [.lst [.tup [.cst (.int 2), .cst (.int 0)], .tup [.cst (.int 3), .cst (.int 0)]], .cst (.bl true)], .tup [.lst [.tup [.cst (.int 2), .cst (.int 0)]], .cst (.bl false)], .tup [.lst [.tup [.cst (.int 2), .cst (.int 0)], .tup [.cst (.int 3), .cst (.int 0)], .tup [.cst (.int 2), .cst (.int 0)]], .cst (.bl false)]]] (.tup [.name 13, .name 14]) [.ite (.prim .ne [.meth "shows" (.new 3 [.var 13]) [.var 2, .tup [.cst (.int 2), .cst (.int 0)]], .var 14]) [.ret (.cst (.bl false))] []],
    .ite (.prim .notB [.meth "shows" (.new 1 [.prim .mul [.lst [.tup [.cst (.int 0), .cst (.int 0)]], .cst (.int 3000)]]) [.lst [.tup [.cst (.str "part"), .cst (.int 0), .cst (.int 0), .cst .non]], .tup [.cst (.int 0), .cst (.int 0)]], .cst (.bl false)]) [.ret (.cst (.bl false))] [],
    .ret (.prim .isB [.meth "shows" (.new 3 [.lst [.tup [.cst (.int 1), .cst (.int 0)], .tup [.cst (.int 0), .cst (.int 0)]]]) [.var 2, .tup [.cst (.int 1), .cst (.int 0)]], .cst (.bl false)])]
def FL : List (Nat × Str) := [(1, "way"), (2, "way"), (3, "chain")]
def ML : List ((Nat × Str) × Nat) := [((1, "shows"), 4), ((2, "shows"), 6), ((3, "shows"), 8)]
def IL : List (Nat × Nat) := [(1, 3), (2, 5), (3, 7)]
def G : Prog := { fns := [⟨1, 3, b0⟩, ⟨1, 2, b1⟩, ⟨3, 5, b2⟩, ⟨2, 2, b3⟩, ⟨3, 5, b4⟩, ⟨2, 2, b5⟩, ⟨3, 5, b6⟩, ⟨2, 2, b7⟩, ⟨3, 7, b8⟩, ⟨2, 2, b9⟩, ⟨3, 4, b10⟩, ⟨3, 4, b11⟩, ⟨3, 11, b12⟩, ⟨1, 2, b13⟩, ⟨3, 7, b14⟩, ⟨2, 3, b15⟩, ⟨3, 5, b16⟩, ⟨4, 8, b17⟩, ⟨2, 2, b18⟩, ⟨4, 8, b19⟩, ⟨1, 15, b20⟩], init := fun c => IL.lookup c, meth := fun c m => ML.lookup (c, m), fld := fun c f => FL.contains (c, f) }
def T : Tab := { fns := [("_law_cell_at", 9), ("_law_draw", 10), ("_law_is_way", 16), ("_law_number", 11), ("_law_rows", 19), ("_law_says", 18), ("_law_shows", 17), ("_law_state", 15), ("_law_state_by", 14), ("_law_uppers", 13), ("_law_words", 12), ("is_way", 2), ("outs_of", 1), ("uppers_of", 0)], cls := [("Gone", 2), ("Stands", 1), ("Waits", 3)], num := [], blt := ["all", "any", "bool", "dict", "isinstance", "len", "list", "range", "set", "sorted", "zip"], exc := [] }
theorem sc0 : FnScope N0 (N0.take 1) (defScope st0) := ⟨rfl, rfl, rfl, by decide +kernel, rfl, by decide +kernel, by decide +kernel⟩
theorem ck0 : ckSs b0 ⟨N0, defScope st0, T, G⟩ (defBody st0) = true := by decide +kernel
theorem sc1 : FnScope N1 (N1.take 1) (defScope st1) := ⟨rfl, rfl, rfl, by decide +kernel, rfl, by decide +kernel, by decide +kernel⟩
theorem ck1 : ckSs b1 ⟨N1, defScope st1, T, G⟩ (defBody st1) = true := by decide +kernel
theorem sc2 : FnScope N2 (N2.take 3) (defScope st2) := ⟨rfl, rfl, rfl, by decide +kernel, rfl, by decide +kernel, by decide +kernel⟩
theorem ck2 : ckSs b2 ⟨N2, defScope st2, T, G⟩ (defBody st2) = true := by decide +kernel
theorem sc3 : FnScope N3 (N3.take 2) (defScope st3) := ⟨rfl, rfl, rfl, by decide +kernel, rfl, by decide +kernel, by decide +kernel⟩
theorem ck3 : ckSs b3 ⟨N3, defScope st3, T, G⟩ (defBody st3) = true := by decide +kernel
theorem sc4 : FnScope N4 (N4.take 3) (defScope st4) := ⟨rfl, rfl, rfl, by decide +kernel, rfl, by decide +kernel, by decide +kernel⟩
theorem ck4 : ckSs b4 ⟨N4, defScope st4, T, G⟩ (defBody st4) = true := by decide +kernel
theorem sc5 : FnScope N5 (N5.take 2) (defScope st5) := ⟨rfl, rfl, rfl, by decide +kernel, rfl, by decide +kernel, by decide +kernel⟩
theorem ck5 : ckSs b5 ⟨N5, defScope st5, T, G⟩ (defBody st5) = true := by decide +kernel
theorem sc6 : FnScope N6 (N6.take 3) (defScope st6) := ⟨rfl, rfl, rfl, by decide +kernel, rfl, by decide +kernel, by decide +kernel⟩
theorem ck6 : ckSs b6 ⟨N6, defScope st6, T, G⟩ (defBody st6) = true := by decide +kernel
theorem sc7 : FnScope N7 (N7.take 2) (defScope st7) := ⟨rfl, rfl, rfl, by decide +kernel, rfl, by decide +kernel, by decide +kernel⟩
theorem ck7 : ckSs b7 ⟨N7, defScope st7, T, G⟩ (defBody st7) = true := by decide +kernel
theorem sc8 : FnScope N8 (N8.take 3) (defScope st8) := ⟨rfl, rfl, rfl, by decide +kernel, rfl, by decide +kernel, by decide +kernel⟩
theorem ck8 : ckSs b8 ⟨N8, defScope st8, T, G⟩ (defBody st8) = true := by decide +kernel
theorem sc9 : FnScope N9 (N9.take 2) (defScope st9) := ⟨rfl, rfl, rfl, by decide +kernel, rfl, by decide +kernel, by decide +kernel⟩
theorem ck9 : ckSs b9 ⟨N9, defScope st9, T, G⟩ (defBody st9) = true := by decide +kernel
theorem sc10 : FnScope N10 (N10.take 3) (defScope st10) := ⟨rfl, rfl, rfl, by decide +kernel, rfl, by decide +kernel, by decide +kernel⟩
theorem ck10 : ckSs b10 ⟨N10, defScope st10, T, G⟩ (defBody st10) = true := by decide +kernel
theorem sc11 : FnScope N11 (N11.take 3) (defScope st11) := ⟨rfl, rfl, rfl, by decide +kernel, rfl, by decide +kernel, by decide +kernel⟩
theorem ck11 : ckSs b11 ⟨N11, defScope st11, T, G⟩ (defBody st11) = true := by decide +kernel
theorem sc12 : FnScope N12 (N12.take 3) (defScope st12) := ⟨rfl, rfl, rfl, by decide +kernel, rfl, by decide +kernel, by decide +kernel⟩
theorem ck12 : ckSs b12 ⟨N12, defScope st12, T, G⟩ (defBody st12) = true := by decide +kernel
theorem sc13 : FnScope N13 (N13.take 1) (defScope st13) := ⟨rfl, rfl, rfl, by decide +kernel, rfl, by decide +kernel, by decide +kernel⟩
theorem ck13 : ckSs b13 ⟨N13, defScope st13, T, G⟩ (defBody st13) = true := by decide +kernel
theorem sc14 : FnScope N14 (N14.take 3) (defScope st14) := ⟨rfl, rfl, rfl, by decide +kernel, rfl, by decide +kernel, by decide +kernel⟩
theorem ck14 : ckSs b14 ⟨N14, defScope st14, T, G⟩ (defBody st14) = true := by decide +kernel
theorem sc15 : FnScope N15 (N15.take 2) (defScope st15) := ⟨rfl, rfl, rfl, by decide +kernel, rfl, by decide +kernel, by decide +kernel⟩
theorem ck15 : ckSs b15 ⟨N15, defScope st15, T, G⟩ (defBody st15) = true := by decide +kernel
theorem sc16 : FnScope N16 (N16.take 3) (defScope st16) := ⟨rfl, rfl, rfl, by decide +kernel, rfl, by decide +kernel, by decide +kernel⟩
theorem ck16 : ckSs b16 ⟨N16, defScope st16, T, G⟩ (defBody st16) = true := by decide +kernel
theorem sc17 : FnScope N17 (N17.take 4) (defScope st17) := ⟨rfl, rfl, rfl, by decide +kernel, rfl, by decide +kernel, by decide +kernel⟩
theorem ck17 : ckSs b17 ⟨N17, defScope st17, T, G⟩ (defBody st17) = true := by decide +kernel
theorem sc18 : FnScope N18 (N18.take 2) (defScope st18) := ⟨rfl, rfl, rfl, by decide +kernel, rfl, by decide +kernel, by decide +kernel⟩
theorem ck18 : ckSs b18 ⟨N18, defScope st18, T, G⟩ (defBody st18) = true := by decide +kernel
theorem sc19 : FnScope N19 (N19.take 4) (defScope st19) := ⟨rfl, rfl, rfl, by decide +kernel, rfl, by decide +kernel, by decide +kernel⟩
theorem ck19 : ckSs b19 ⟨N19, defScope st19, T, G⟩ (defBody st19) = true := by decide +kernel
theorem sc20 : FnScope N20 (N20.take 1) (defScope st20) := ⟨rfl, rfl, rfl, by decide +kernel, rfl, by decide +kernel, by decide +kernel⟩
theorem ck20 : ckSs b20 ⟨N20, defScope st20, T, G⟩ (defBody st20) = true := by decide +kernel
end MI.Law

namespace MI.Law
open PySem MI
theorem sp9 {n : Nat} {S : Store} {l : Nat} {ns : List Int} {k : Int} (h : S[l]? = some (.fix (ns.map .int))) (hk : 0 ≤ k) {Q : D → Store → Prop} (q : ∀ i, Q (.int i) S) : wp (run G (n + 1) 9 [.loc l, .int k] S) Q := by
  refine (wp_run (fn := ⟨2, 2, b9⟩) rfl rfl).mpr ?_
  show ws (execs G (run G n) b9 [some (.loc l), some (.int k)] S) _
  unfold b9
  simp only [ws_cons, ws_nil, ws_ite, s_ret, s_expr, s_asg, s_par, s_pass, s_aug, s_setFld, s_setSub, s_for, e_prim, e_cons, e_nil, e_var, e_cst, e_glb, e_tup, e_lst, e_dnew, e_and, e_or, e_not, e_ifx, e_call, e_fld, e_meth, e_lm, e_sl2, e_slL, e_slH, p_addI, p_addT, p_addL, p_sub, p_mulI, p_mulL, p_mod, p_fdiv, p_pow, p_neg, p_eq, p_ne, p_lt, p_le, p_gt, p_ge, p_in, p_notin, p_isN, p_notN, p_isB, p_notB, p_item, p_rev, p_lenT, p_lenL, p_lenset, p_sorted, p_dict1, p_listT, p_isBoolB, sl_tup, ret_rt, bind_name, bindPar_ok, List.getElem?_cons_zero, List.getElem?_cons_succ, List.length_cons, List.length_nil, List.set_cons_zero, List.set_cons_succ, Option.some.injEq, D.int.injEq, D.bl.injEq, D.loc.injEq, exists_eq_left', exists_eq_left, exists_eq_left2, exists_eq_left3, bindT_two, bindPar_end, wipeE, ofC_one, ofC_nil, itT0, itT1, itT2, itT3, deq_str, if_true, if_false, Bool.false_eq_true, true_and, and_true, Nat.zero_add, li_fix h, decide_eq_true_eq]
  by_cases hl : k < ((ns.map D.int).length : Nat)
  · rw [if_pos (by simpa using hl)]
    obtain ⟨m, rfl⟩ := Int.eq_ofNat_of_zero_le hk
    have hm : m < (ns.map D.int).length := by omega
    rw [List.length_map] at hm
    exact ⟨.int ns[m], it_fix h (by rw [List.getElem?_map, List.getElem?_eq_getElem hm]; rfl), q _⟩
  · rw [if_neg (by simpa using hl)]
    exact q 0
theorem item_pos {L : List Int} (hL : ∀ p ∈ L, 0 < p) {k : Int} (hk : 0 ≤ k) {S : Store} (hl : 0 < L.length) : ∃ p : Int, 0 < p ∧ p ∈ L ∧ itemD (.tup (L.map .int)) (.int (k % (L.length : Nat))) S = some (.int p) := by
  have h1 : 0 ≤ k % (L.length : Nat) := Int.emod_nonneg _ (by omega)
  have h2 : k % (L.length : Nat) < (L.length : Nat) := Int.emod_lt_of_pos _ (by omega)
  obtain ⟨m, hm⟩ := Int.eq_ofNat_of_zero_le h1
  rw [hm] at h2 ⊢
  have hm2 : m < L.length := by omega
  exact ⟨L[m], hL _ (List.getElem_mem hm2), List.getElem_mem hm2, (itT _ m S (by rw [List.length_map]; exact hm2)).trans (by rw [List.getElem?_map, List.getElem?_eq_getElem hm2]; rfl)⟩
theorem sp10 {n : Nat} {S : Store} {c k m : Int} (hk : 0 ≤ k) (hm : 0 < m) {Q : D → Store → Prop} (q : ∀ i, 0 ≤ i → i < m → Q (.int i) S) : wp (run G (n + 1) 10 [.int c, .int k, .int m] S) Q := by
  refine (wp_run (fn := ⟨3, 4, b10⟩) rfl rfl).mpr ?_
  show ws (execs G (run G n) b10 [some (.int c), some (.int k), some (.int m), none] S) _
  unfold b10
  simp only [ws_cons, ws_nil, ws_ite, s_ret, s_expr, s_asg, s_par, s_pass, s_aug, s_setFld, s_setSub, s_for, e_prim, e_cons, e_nil, e_var, e_cst, e_glb, e_tup, e_lst, e_dnew, e_and, e_or, e_not, e_ifx, e_call, e_fld, e_meth, e_lm, e_sl2, e_slL, e_slH, p_addI, p_addT, p_addL, p_sub, p_mulI, p_mulL, p_mod, p_fdiv, p_pow, p_neg, p_eq, p_ne, p_lt, p_le, p_gt, p_ge, p_in, p_notin, p_isN, p_notN, p_isB, p_notB, p_item, p_rev, p_lenT, p_lenL, p_lenset, p_sorted, p_dict1, p_listT, p_isBoolB, sl_tup, ret_rt, bind_name, bindPar_ok, List.getElem?_cons_zero, List.getElem?_cons_succ, List.length_cons, List.length_nil, List.set_cons_zero, List.set_cons_succ, Option.some.injEq, D.int.injEq, D.bl.injEq, D.loc.injEq, exists_eq_left', exists_eq_left, exists_eq_left2, exists_eq_left3, bindT_two, bindPar_end, wipeE, ofC_one, ofC_nil, itT0, itT1, itT2, itT3, deq_str, if_true, if_false, Bool.false_eq_true, true_and, and_true, Nat.zero_add]
  obtain ⟨p, hp, _, e⟩ := item_pos (L := [1000003, 1000033, 1000037, 1000039, 1000081, 1000099, 1000117, 1000121, 1000133, 1000151, 1000159, 1000171, 1000183, 1000187, 1000193, 1000199]) (by decide) hk (S := S) (by decide)
  refine ⟨by decide, by decide, .inr (by decide), .inr (by decide), by decide, .int p, e, ?_⟩
  simp only [ws_cons, ws_nil, ws_ite, s_ret, s_expr, s_asg, s_par, s_pass, s_aug, s_setFld, s_setSub, s_for, e_prim, e_cons, e_nil, e_var, e_cst, e_glb, e_tup, e_lst, e_dnew, e_and, e_or, e_not, e_ifx, e_call, e_fld, e_meth, e_lm, e_sl2, e_slL, e_slH, p_addI, p_addT, p_addL, p_sub, p_mulI, p_mulL, p_mod, p_fdiv, p_pow, p_neg, p_eq, p_ne, p_lt, p_le, p_gt, p_ge, p_in, p_notin, p_isN, p_notN, p_isB, p_notB, p_item, p_rev, p_lenT, p_lenL, p_lenset, p_sorted, p_dict1, p_listT, p_isBoolB, sl_tup, ret_rt, bind_name, bindPar_ok, List.getElem?_cons_zero, List.getElem?_cons_succ, List.length_cons, List.length_nil, List.set_cons_zero, List.set_cons_succ, Option.some.injEq, D.int.injEq, D.bl.injEq, D.loc.injEq, exists_eq_left', exists_eq_left, exists_eq_left2, exists_eq_left3, bindT_two, bindPar_end, wipeE, ofC_one, ofC_nil, itT0, itT1, itT2, itT3, deq_str, if_true, if_false, Bool.false_eq_true, true_and, and_true, Nat.zero_add]
  exact ⟨hp, hm, q _ (Int.emod_nonneg _ (by omega)) (Int.emod_lt_of_pos _ hm)⟩
theorem sp11 {n : Nat} {S : Store} {c k m : Int} (hk : 0 ≤ k ∧ k < 1000) (hm : 0 < m) {Q : D → Store → Prop} (q : ∀ i, 0 ≤ i → i < m → Q (.int i) S) : wp (run G (n + 2) 11 [.int c, .int k, .int m] S) Q := by
  refine (wp_run (fn := ⟨3, 4, b11⟩) rfl rfl).mpr ?_
  show ws (execs G (run G (n + 1)) b11 [some (.int c), some (.int k), some (.int m), none] S) _
  unfold b11
  simp only [ws_cons, ws_nil, ws_ite, s_ret, s_expr, s_asg, s_par, s_pass, s_aug, s_setFld, s_setSub, s_for, e_prim, e_cons, e_nil, e_var, e_cst, e_glb, e_tup, e_lst, e_dnew, e_and, e_or, e_not, e_ifx, e_call, e_fld, e_meth, e_lm, e_sl2, e_slL, e_slH, p_addI, p_addT, p_addL, p_sub, p_mulI, p_mulL, p_mod, p_fdiv, p_pow, p_neg, p_eq, p_ne, p_lt, p_le, p_gt, p_ge, p_in, p_notin, p_isN, p_notN, p_isB, p_notB, p_item, p_rev, p_lenT, p_lenL, p_lenset, p_sorted, p_dict1, p_listT, p_isBoolB, sl_tup, ret_rt, bind_name, bindPar_ok, List.getElem?_cons_zero, List.getElem?_cons_succ, List.length_cons, List.length_nil, List.set_cons_zero, List.set_cons_succ, Option.some.injEq, D.int.injEq, D.bl.injEq, D.loc.injEq, exists_eq_left', exists_eq_left, exists_eq_left2, exists_eq_left3, bindT_two, bindPar_end, wipeE, ofC_one, ofC_nil, itT0, itT1, itT2, itT3, deq_str, if_true, if_false, Bool.false_eq_true, true_and, and_true, Nat.zero_add]
  have fin : ∀ x : Int, Q (.int (x % m)) S := fun x => q _ (Int.emod_nonneg _ (by omega)) (Int.emod_lt_of_pos _ hm)
  refine ⟨by decide, ?_⟩
  split
  · obtain ⟨p, hp, hL, e⟩ := item_pos (L := [1, 7, 49, 343, 2401]) (by decide) hk.1 (S := S) (by decide)
    refine ⟨by decide, by decide, by decide, .int p, e, ?_⟩
    simp only [ws_cons, ws_nil, ws_ite, s_ret, s_expr, s_asg, s_par, s_pass, s_aug, s_setFld, s_setSub, s_for, e_prim, e_cons, e_nil, e_var, e_cst, e_glb, e_tup, e_lst, e_dnew, e_and, e_or, e_not, e_ifx, e_call, e_fld, e_meth, e_lm, e_sl2, e_slL, e_slH, p_addI, p_addT, p_addL, p_sub, p_mulI, p_mulL, p_mod, p_fdiv, p_pow, p_neg, p_eq, p_ne, p_lt, p_le, p_gt, p_ge, p_in, p_notin, p_isN, p_notN, p_isB, p_notB, p_item, p_rev, p_lenT, p_lenL, p_lenset, p_sorted, p_dict1, p_listT, p_isBoolB, sl_tup, ret_rt, bind_name, bindPar_ok, List.getElem?_cons_zero, List.getElem?_cons_succ, List.length_cons, List.length_nil, List.set_cons_zero, List.set_cons_succ, Option.some.injEq, D.int.injEq, D.bl.injEq, D.loc.injEq, exists_eq_left', exists_eq_left, exists_eq_left2, exists_eq_left3, bindT_two, bindPar_end, wipeE, ofC_one, ofC_nil, itT0, itT1, itT2, itT3, deq_str, if_true, if_false, Bool.false_eq_true, true_and, and_true, Nat.zero_add]
    have hp2 : p < 1073741824 := by
      simp only [List.mem_cons, List.not_mem_nil, or_false] at hL
      omega
    exact ⟨⟨hp, hp2⟩, hm, fin _⟩
  · have h1 : 0 ≤ c % 1000003 := Int.emod_nonneg _ (by decide)
    have h2 : c % 1000003 < 1000003 := Int.emod_lt_of_pos _ (by decide)
    refine ⟨by decide, by decide, .inl (by decide), .inl (by decide), .inl (by omega), by decide, ?_⟩
    refine sp10 (by have := Int.emod_nonneg k (show (9 : Int) ≠ 0 by decide); omega) (by decide) fun i h3 h4 => ?_
    simp only [ws_cons, ws_nil, ws_ite, s_ret, s_expr, s_asg, s_par, s_pass, s_aug, s_setFld, s_setSub, s_for, e_prim, e_cons, e_nil, e_var, e_cst, e_glb, e_tup, e_lst, e_dnew, e_and, e_or, e_not, e_ifx, e_call, e_fld, e_meth, e_lm, e_sl2, e_slL, e_slH, p_addI, p_addT, p_addL, p_sub, p_mulI, p_mulL, p_mod, p_fdiv, p_pow, p_neg, p_eq, p_ne, p_lt, p_le, p_gt, p_ge, p_in, p_notin, p_isN, p_notN, p_isB, p_notB, p_item, p_rev, p_lenT, p_lenL, p_lenset, p_sorted, p_dict1, p_listT, p_isBoolB, sl_tup, ret_rt, bind_name, bindPar_ok, List.getElem?_cons_zero, List.getElem?_cons_succ, List.length_cons, List.length_nil, List.set_cons_zero, List.set_cons_succ, Option.some.injEq, D.int.injEq, D.bl.injEq, D.loc.injEq, exists_eq_left', exists_eq_left, exists_eq_left2, exists_eq_left3, bindT_two, bindPar_end, wipeE, ofC_one, ofC_nil, itT0, itT1, itT2, itT3, deq_str, if_true, if_false, Bool.false_eq_true, true_and, and_true, Nat.zero_add]
    exact ⟨hm, fin _⟩
/-! ### the words -/
theorem sp0 {n : Nat} {S : Store} {l : Nat} {wl : List Word} (h : HasL S l dW wl) (hc : wl.length < cap) {Q : D → Store → Prop} (q : ∀ S' m, Le S S' → HasU S' m (ups wl) → Q (.loc m) S') : wp (run G (n + 1) 0 [.loc l] S) Q := by
  refine (wp_run (fn := ⟨1, 3, b0⟩) rfl rfl).mpr ?_
  show ws (execs G (run G n) b0 [some (.loc l), none, none] S) _
  unfold b0
  simp only [ws_cons, ws_nil, ws_ite, s_ret, s_expr, s_asg, s_par, s_pass, s_aug, s_setFld, s_setSub, s_for, e_prim, e_cons, e_nil, e_var, e_cst, e_glb, e_tup, e_lst, e_dnew, e_and, e_or, e_not, e_ifx, e_call, e_fld, e_meth, e_lm, e_sl2, e_slL, e_slH, p_addI, p_addT, p_addL, p_sub, p_mulI, p_mulL, p_mod, p_fdiv, p_pow, p_neg, p_eq, p_ne, p_lt, p_le, p_gt, p_ge, p_in, p_notin, p_isN, p_notN, p_isB, p_notB, p_item, p_rev, p_lenT, p_lenL, p_lenset, p_sorted, p_dict1, p_listT, p_isBoolB, sl_tup, ret_rt, bind_name, bindPar_ok, List.getElem?_cons_zero, List.getElem?_cons_succ, List.length_cons, List.length_nil, List.set_cons_zero, List.set_cons_succ, Option.some.injEq, D.int.injEq, D.bl.injEq, D.loc.injEq, exists_eq_left', exists_eq_left, exists_eq_left2, exists_eq_left3, bindT_two, bindPar_end, wipeE, ofC_one, ofC_nil, itT0, itT1, itT2, itT3, deq_str, if_true, if_false, Bool.false_eq_true, true_and, and_true, Nat.zero_add]
  refine ⟨by decide, .list l, wl.length, ?_, ?_⟩
  · exact mk_list (h.le (Le.push S _))
  · refine for_run wl dW (fun i e S' => Le S S' ∧ S'[S.length]? = some (.dict false (dKv (ups (wl.take i)))) ∧ ∃ x, e = [some (.loc l), some (.loc S.length), x]) (Nat.le_refl _) ⟨Le.push _ _, get_push, none, rfl⟩ ?_ ?_
    · rintro i w e S' hw ⟨hle, hd, x, rfl⟩
      refine ⟨?_, ?_⟩
      · rw [next_list (h.le hle), hw]
        rfl
      · simp only [ws_cons, ws_nil, ws_ite, s_ret, s_expr, s_asg, s_par, s_pass, s_aug, s_setFld, s_setSub, s_for, e_prim, e_cons, e_nil, e_var, e_cst, e_glb, e_tup, e_lst, e_dnew, e_and, e_or, e_not, e_ifx, e_call, e_fld, e_meth, e_lm, e_sl2, e_slL, e_slH, p_addI, p_addT, p_addL, p_sub, p_mulI, p_mulL, p_mod, p_fdiv, p_pow, p_neg, p_eq, p_ne, p_lt, p_le, p_gt, p_ge, p_in, p_notin, p_isN, p_notN, p_isB, p_notB, p_item, p_rev, p_lenT, p_lenL, p_lenset, p_sorted, p_dict1, p_listT, p_isBoolB, sl_tup, ret_rt, bind_name, bindPar_ok, List.getElem?_cons_zero, List.getElem?_cons_succ, List.length_cons, List.length_nil, List.set_cons_zero, List.set_cons_succ, Option.some.injEq, D.int.injEq, D.bl.injEq, D.loc.injEq, exists_eq_left', exists_eq_left, exists_eq_left2, exists_eq_left3, bindT_two, bindPar_end, wipeE, ofC_one, ofC_nil, itT0, itT1, itT2, itT3, deq_str, if_true, if_false, Bool.false_eq_true, true_and, and_true, Nat.zero_add]
        refine ⟨by omega, ?_⟩
        have hlt := (List.getElem?_eq_some_iff.mp hw).1
        have ht := ups_take hw
        have hcl : (ups (wl.take i)).length < cap := by
          have h1 := ups_len (wl.take i)
          rw [List.length_take] at h1
          omega
        cases w with
        | out p =>
          simp only [dW, ws_cons, ws_nil, ws_ite, s_ret, s_expr, s_asg, s_par, s_pass, s_aug, s_setFld, s_setSub, s_for, e_prim, e_cons, e_nil, e_var, e_cst, e_glb, e_tup, e_lst, e_dnew, e_and, e_or, e_not, e_ifx, e_call, e_fld, e_meth, e_lm, e_sl2, e_slL, e_slH, p_addI, p_addT, p_addL, p_sub, p_mulI, p_mulL, p_mod, p_fdiv, p_pow, p_neg, p_eq, p_ne, p_lt, p_le, p_gt, p_ge, p_in, p_notin, p_isN, p_notN, p_isB, p_notB, p_item, p_rev, p_lenT, p_lenL, p_lenset, p_sorted, p_dict1, p_listT, p_isBoolB, sl_tup, ret_rt, bind_name, bindPar_ok, List.getElem?_cons_zero, List.getElem?_cons_succ, List.length_cons, List.length_nil, List.set_cons_zero, List.set_cons_succ, Option.some.injEq, D.int.injEq, D.bl.injEq, D.loc.injEq, exists_eq_left', exists_eq_left, exists_eq_left2, exists_eq_left3, bindT_two, bindPar_end, wipeE, ofC_one, ofC_nil, itT0, itT1, itT2, itT3, deq_str, if_true, if_false, Bool.false_eq_true, true_and, and_true, Nat.zero_add, op_]
          exact ⟨hle, by rw [ht]; exact hd, _, rfl⟩
        | part p v =>
          simp only [dW, ws_cons, ws_nil, ws_ite, s_ret, s_expr, s_asg, s_par, s_pass, s_aug, s_setFld, s_setSub, s_for, e_prim, e_cons, e_nil, e_var, e_cst, e_glb, e_tup, e_lst, e_dnew, e_and, e_or, e_not, e_ifx, e_call, e_fld, e_meth, e_lm, e_sl2, e_slL, e_slH, p_addI, p_addT, p_addL, p_sub, p_mulI, p_mulL, p_mod, p_fdiv, p_pow, p_neg, p_eq, p_ne, p_lt, p_le, p_gt, p_ge, p_in, p_notin, p_isN, p_notN, p_isB, p_notB, p_item, p_rev, p_lenT, p_lenL, p_lenset, p_sorted, p_dict1, p_listT, p_isBoolB, sl_tup, ret_rt, bind_name, bindPar_ok, List.getElem?_cons_zero, List.getElem?_cons_succ, List.length_cons, List.length_nil, List.set_cons_zero, List.set_cons_succ, Option.some.injEq, D.int.injEq, D.bl.injEq, D.loc.injEq, exists_eq_left', exists_eq_left, exists_eq_left2, exists_eq_left3, bindT_two, bindPar_end, wipeE, ofC_one, ofC_nil, itT0, itT1, itT2, itT3, deq_str, if_true, if_false, Bool.false_eq_true, true_and, and_true, Nat.zero_add, pp_]
          rw [show D.tup (cut [D.str "part", D.int p.1, D.int p.2, dU v] (some 1) (some 3)) = dP p from rfl, cons_dict hd (keysOf_dP p)]
          refine ⟨by unfold dKv; rw [List.length_map]; exact hcl, hle.put (Nat.le_refl _) _, ?_, _, rfl⟩
          rw [set_get hd, dput_kv, ht]
          rfl
    · rintro e S' ⟨hle, hd, x, rfl⟩
      refine ⟨?_, ?_⟩
      · rw [next_list (h.le hle), List.getElem?_eq_none (Nat.le_refl _)]
        rfl
      · simp only [ws_cons, ws_nil, ws_ite, s_ret, s_expr, s_asg, s_par, s_pass, s_aug, s_setFld, s_setSub, s_for, e_prim, e_cons, e_nil, e_var, e_cst, e_glb, e_tup, e_lst, e_dnew, e_and, e_or, e_not, e_ifx, e_call, e_fld, e_meth, e_lm, e_sl2, e_slL, e_slH, p_addI, p_addT, p_addL, p_sub, p_mulI, p_mulL, p_mod, p_fdiv, p_pow, p_neg, p_eq, p_ne, p_lt, p_le, p_gt, p_ge, p_in, p_notin, p_isN, p_notN, p_isB, p_notB, p_item, p_rev, p_lenT, p_lenL, p_lenset, p_sorted, p_dict1, p_listT, p_isBoolB, sl_tup, ret_rt, bind_name, bindPar_ok, List.getElem?_cons_zero, List.getElem?_cons_succ, List.length_cons, List.length_nil, List.set_cons_zero, List.set_cons_succ, Option.some.injEq, D.int.injEq, D.bl.injEq, D.loc.injEq, exists_eq_left', exists_eq_left, exists_eq_left2, exists_eq_left3, bindT_two, bindPar_end, wipeE, ofC_one, ofC_nil, itT0, itT1, itT2, itT3, deq_str, if_true, if_false, Bool.false_eq_true, true_and, and_true, Nat.zero_add]
        rw [List.take_length] at hd
        exact q _ _ hle ⟨_, hd⟩
theorem sp1 {n : Nat} {S : Store} {l : Nat} {wl : List Word} (h : HasL S l dW wl) (hc : wl.length < cap) {Q : D → Store → Prop} (q : ∀ S' m, Le S S' → HasL S' m dP (outs wl) → Q (.loc m) S') : wp (run G (n + 1) 1 [.loc l] S) Q := by
  refine (wp_run (fn := ⟨1, 2, b1⟩) rfl rfl).mpr ?_
  show ws (execs G (run G n) b1 [some (.loc l), none] S) _
  unfold b1
  simp only [ws_cons, ws_nil, ws_ite, s_ret, s_expr, s_asg, s_par, s_pass, s_aug, s_setFld, s_setSub, s_for, e_prim, e_cons, e_nil, e_var, e_cst, e_glb, e_tup, e_lst, e_dnew, e_and, e_or, e_not, e_ifx, e_call, e_fld, e_meth, e_lm, e_sl2, e_slL, e_slH, p_addI, p_addT, p_addL, p_sub, p_mulI, p_mulL, p_mod, p_fdiv, p_pow, p_neg, p_eq, p_ne, p_lt, p_le, p_gt, p_ge, p_in, p_notin, p_isN, p_notN, p_isB, p_notB, p_item, p_rev, p_lenT, p_lenL, p_lenset, p_sorted, p_dict1, p_listT, p_isBoolB, sl_tup, ret_rt, bind_name, bindPar_ok, List.getElem?_cons_zero, List.getElem?_cons_succ, List.length_cons, List.length_nil, List.set_cons_zero, List.set_cons_succ, Option.some.injEq, D.int.injEq, D.bl.injEq, D.loc.injEq, exists_eq_left', exists_eq_left, exists_eq_left2, exists_eq_left3, bindT_two, bindPar_end, wipeE, ofC_one, ofC_nil, itT0, itT1, itT2, itT3, deq_str, if_true, if_false, Bool.false_eq_true, true_and, and_true, Nat.zero_add]
  refine e_comp (A := Word) ?_
  simp only [ws_cons, ws_nil, ws_ite, s_ret, s_expr, s_asg, s_par, s_pass, s_aug, s_setFld, s_setSub, s_for, e_prim, e_cons, e_nil, e_var, e_cst, e_glb, e_tup, e_lst, e_dnew, e_and, e_or, e_not, e_ifx, e_call, e_fld, e_meth, e_lm, e_sl2, e_slL, e_slH, p_addI, p_addT, p_addL, p_sub, p_mulI, p_mulL, p_mod, p_fdiv, p_pow, p_neg, p_eq, p_ne, p_lt, p_le, p_gt, p_ge, p_in, p_notin, p_isN, p_notN, p_isB, p_notB, p_item, p_rev, p_lenT, p_lenL, p_lenset, p_sorted, p_dict1, p_listT, p_isBoolB, sl_tup, ret_rt, bind_name, bindPar_ok, List.getElem?_cons_zero, List.getElem?_cons_succ, List.length_cons, List.length_nil, List.set_cons_zero, List.set_cons_succ, Option.some.injEq, D.int.injEq, D.bl.injEq, D.loc.injEq, exists_eq_left', exists_eq_left, exists_eq_left2, exists_eq_left3, bindT_two, bindPar_end, wipeE, ofC_one, ofC_nil, itT0, itT1, itT2, itT3, deq_str, if_true, if_false, Bool.false_eq_true, true_and, and_true, Nat.zero_add]
  refine ⟨.list l, wl.length, wl, dW, fun w => match w with | .out p => some (dP p) | _ => none, mk_list h, Nat.le_refl _, hc, fun S2 hle i => next_list (h.le hle), fun w S2 hw hle => ?_, fun S' hle hS => q _ _ hle ?_⟩
  · simp only [ws_cons, ws_nil, ws_ite, s_ret, s_expr, s_asg, s_par, s_pass, s_aug, s_setFld, s_setSub, s_for, e_prim, e_cons, e_nil, e_var, e_cst, e_glb, e_tup, e_lst, e_dnew, e_and, e_or, e_not, e_ifx, e_call, e_fld, e_meth, e_lm, e_sl2, e_slL, e_slH, p_addI, p_addT, p_addL, p_sub, p_mulI, p_mulL, p_mod, p_fdiv, p_pow, p_neg, p_eq, p_ne, p_lt, p_le, p_gt, p_ge, p_in, p_notin, p_isN, p_notN, p_isB, p_notB, p_item, p_rev, p_lenT, p_lenL, p_lenset, p_sorted, p_dict1, p_listT, p_isBoolB, sl_tup, ret_rt, bind_name, bindPar_ok, List.getElem?_cons_zero, List.getElem?_cons_succ, List.length_cons, List.length_nil, List.set_cons_zero, List.set_cons_succ, Option.some.injEq, D.int.injEq, D.bl.injEq, D.loc.injEq, exists_eq_left', exists_eq_left, exists_eq_left2, exists_eq_left3, bindT_two, bindPar_end, wipeE, ofC_one, ofC_nil, itT0, itT1, itT2, itT3, deq_str, if_true, if_false, Bool.false_eq_true, true_and, and_true, Nat.zero_add]
    cases w with
    | out p =>
      simp only [dW, ws_cons, ws_nil, ws_ite, s_ret, s_expr, s_asg, s_par, s_pass, s_aug, s_setFld, s_setSub, s_for, e_prim, e_cons, e_nil, e_var, e_cst, e_glb, e_tup, e_lst, e_dnew, e_and, e_or, e_not, e_ifx, e_call, e_fld, e_meth, e_lm, e_sl2, e_slL, e_slH, p_addI, p_addT, p_addL, p_sub, p_mulI, p_mulL, p_mod, p_fdiv, p_pow, p_neg, p_eq, p_ne, p_lt, p_le, p_gt, p_ge, p_in, p_notin, p_isN, p_notN, p_isB, p_notB, p_item, p_rev, p_lenT, p_lenL, p_lenset, p_sorted, p_dict1, p_listT, p_isBoolB, sl_tup, ret_rt, bind_name, bindPar_ok, List.getElem?_cons_zero, List.getElem?_cons_succ, List.length_cons, List.length_nil, List.set_cons_zero, List.set_cons_succ, Option.some.injEq, D.int.injEq, D.bl.injEq, D.loc.injEq, exists_eq_left', exists_eq_left, exists_eq_left2, exists_eq_left3, bindT_two, bindPar_end, wipeE, ofC_one, ofC_nil, itT0, itT1, itT2, itT3, deq_str, if_true, if_false, Bool.false_eq_true, true_and, and_true, Nat.zero_add, oo_]
      exact ⟨by decide, Le.refl _, Le.refl _, rfl⟩
    | part p v =>
      simp only [dW, ws_cons, ws_nil, ws_ite, s_ret, s_expr, s_asg, s_par, s_pass, s_aug, s_setFld, s_setSub, s_for, e_prim, e_cons, e_nil, e_var, e_cst, e_glb, e_tup, e_lst, e_dnew, e_and, e_or, e_not, e_ifx, e_call, e_fld, e_meth, e_lm, e_sl2, e_slL, e_slH, p_addI, p_addT, p_addL, p_sub, p_mulI, p_mulL, p_mod, p_fdiv, p_pow, p_neg, p_eq, p_ne, p_lt, p_le, p_gt, p_ge, p_in, p_notin, p_isN, p_notN, p_isB, p_notB, p_item, p_rev, p_lenT, p_lenL, p_lenset, p_sorted, p_dict1, p_listT, p_isBoolB, sl_tup, ret_rt, bind_name, bindPar_ok, List.getElem?_cons_zero, List.getElem?_cons_succ, List.length_cons, List.length_nil, List.set_cons_zero, List.set_cons_succ, Option.some.injEq, D.int.injEq, D.bl.injEq, D.loc.injEq, exists_eq_left', exists_eq_left, exists_eq_left2, exists_eq_left3, bindT_two, bindPar_end, wipeE, ofC_one, ofC_nil, itT0, itT1, itT2, itT3, deq_str, if_true, if_false, Bool.false_eq_true, true_and, and_true, Nat.zero_add, po_]
      exact ⟨by decide, Le.refl _⟩
  · unfold HasL
    rw [hS]
    unfold outs
    rw [List.map_filterMap]
    congr 3
    funext w
    cases w <;> rfl
/-! ### a way -/
def isWay (u : Ups) (p : Part) (way : List Part) : Bool := match way with
  | [] => false
  | a :: _ => decide (way.getLast? = some p) && way.all (fun q => (uget u q).isSome) && decide (uget u a = some none) && (way.zip way.tail).all fun q => decide (uget u q.2 = some (some q.1))
theorem sp2 {n : Nat} {S : Store} {m l : Nat} {u : Ups} {way : List Part} {p : Part} (hu : HasU S m u) (h : HasL S l dP way) (hc : way.length < cap) {Q : D → Store → Prop} (q : ∀ S', Le S S' → Q (.bl (isWay u p way)) S') : wp (run G (n + 1) 2 [.loc m, dP p, .loc l] S) Q := by
  refine (wp_run (fn := ⟨3, 5, b2⟩) rfl rfl).mpr ?_
  show ws (execs G (run G n) b2 [some (.loc m), some (dP p), some (.loc l), none, none] S) _
  unfold b2
  simp only [ws_cons, ws_nil, ws_ite, s_ret, s_expr, s_asg, s_par, s_pass, s_aug, s_setFld, s_setSub, s_for, e_prim, e_cons, e_nil, e_var, e_cst, e_glb, e_tup, e_lst, e_dnew, e_and, e_or, e_not, e_ifx, e_call, e_fld, e_meth, e_lm, e_sl2, e_slL, e_slH, p_addI, p_addT, p_addL, p_sub, p_mulI, p_mulL, p_mod, p_fdiv, p_pow, p_neg, p_eq, p_ne, p_lt, p_le, p_gt, p_ge, p_in, p_notin, p_isN, p_notN, p_isB, p_notB, p_item, p_rev, p_lenT, p_lenL, p_lenset, p_sorted, p_dict1, p_listT, p_isBoolB, sl_tup, ret_rt, bind_name, bindPar_ok, List.getElem?_cons_zero, List.getElem?_cons_succ, List.length_cons, List.length_nil, List.set_cons_zero, List.set_cons_succ, Option.some.injEq, D.int.injEq, D.bl.injEq, D.loc.injEq, exists_eq_left', exists_eq_left, exists_eq_left2, exists_eq_left3, bindT_two, bindPar_end, wipeE, ofC_one, ofC_nil, itT0, itT1, itT2, itT3, deq_str, if_true, if_false, Bool.false_eq_true, true_and, and_true, Nat.zero_add]
  refine ⟨Nat.zero_le _, ?_⟩
  rw [deq_LP (h.le (Le.push S _)) push_nil]
  cases way with
  | nil =>
    simp only [ws_cons, ws_nil, ws_ite, s_ret, s_expr, s_asg, s_par, s_pass, s_aug, s_setFld, s_setSub, s_for, e_prim, e_cons, e_nil, e_var, e_cst, e_glb, e_tup, e_lst, e_dnew, e_and, e_or, e_not, e_ifx, e_call, e_fld, e_meth, e_lm, e_sl2, e_slL, e_slH, p_addI, p_addT, p_addL, p_sub, p_mulI, p_mulL, p_mod, p_fdiv, p_pow, p_neg, p_eq, p_ne, p_lt, p_le, p_gt, p_ge, p_in, p_notin, p_isN, p_notN, p_isB, p_notB, p_item, p_rev, p_lenT, p_lenL, p_lenset, p_sorted, p_dict1, p_listT, p_isBoolB, sl_tup, ret_rt, bind_name, bindPar_ok, List.getElem?_cons_zero, List.getElem?_cons_succ, List.length_cons, List.length_nil, List.set_cons_zero, List.set_cons_succ, Option.some.injEq, D.int.injEq, D.bl.injEq, D.loc.injEq, exists_eq_left', exists_eq_left, exists_eq_left2, exists_eq_left3, bindT_two, bindPar_end, wipeE, ofC_one, ofC_nil, itT0, itT1, itT2, itT3, deq_str, if_true, if_false, Bool.false_eq_true, true_and, and_true, Nat.zero_add, decide_true]
    exact q _ (Le.push _ _)
  | cons a r =>
    simp only [ws_cons, ws_nil, ws_ite, s_ret, s_expr, s_asg, s_par, s_pass, s_aug, s_setFld, s_setSub, s_for, e_prim, e_cons, e_nil, e_var, e_cst, e_glb, e_tup, e_lst, e_dnew, e_and, e_or, e_not, e_ifx, e_call, e_fld, e_meth, e_lm, e_sl2, e_slL, e_slH, p_addI, p_addT, p_addL, p_sub, p_mulI, p_mulL, p_mod, p_fdiv, p_pow, p_neg, p_eq, p_ne, p_lt, p_le, p_gt, p_ge, p_in, p_notin, p_isN, p_notN, p_isB, p_notB, p_item, p_rev, p_lenT, p_lenL, p_lenset, p_sorted, p_dict1, p_listT, p_isBoolB, sl_tup, ret_rt, bind_name, bindPar_ok, List.getElem?_cons_zero, List.getElem?_cons_succ, List.length_cons, List.length_nil, List.set_cons_zero, List.set_cons_succ, Option.some.injEq, D.int.injEq, D.bl.injEq, D.loc.injEq, exists_eq_left', exists_eq_left, exists_eq_left2, exists_eq_left3, bindT_two, bindPar_end, wipeE, ofC_one, ofC_nil, itT0, itT1, itT2, itT3, deq_str, if_true, if_false, Bool.false_eq_true, true_and, and_true, Nat.zero_add, reduceCtorEq, decide_false]
    have le1 : Le S (S ++ [.list []]) := Le.push _ _
    obtain ⟨z, hz⟩ : ∃ z, (a :: r).getLast? = some z := ⟨_, List.getLast?_eq_some_getLast (by simp)⟩
    have hw : isWay u p (a :: r) = (decide (z = p) && (a :: r).all (fun q => (uget u q).isSome) && decide (uget u a = some none) && ((a :: r).zip (a :: r).tail).all fun q => decide (uget u q.2 = some (some q.1))) := by
      unfold isWay
      rw [hz]
      simp only [Option.some.injEq]
    rw [hw] at q
    refine ⟨dP z, it_last (h.le le1) (by rw [List.getLast?_map, hz]; rfl), decide (z = p), deq_P, ?_⟩
    by_cases hzp : z = p
    · simp only [hzp, decide_true, Bool.not_true, ws_cons, ws_nil, ws_ite, s_ret, s_expr, s_asg, s_par, s_pass, s_aug, s_setFld, s_setSub, s_for, e_prim, e_cons, e_nil, e_var, e_cst, e_glb, e_tup, e_lst, e_dnew, e_and, e_or, e_not, e_ifx, e_call, e_fld, e_meth, e_lm, e_sl2, e_slL, e_slH, p_addI, p_addT, p_addL, p_sub, p_mulI, p_mulL, p_mod, p_fdiv, p_pow, p_neg, p_eq, p_ne, p_lt, p_le, p_gt, p_ge, p_in, p_notin, p_isN, p_notN, p_isB, p_notB, p_item, p_rev, p_lenT, p_lenL, p_lenset, p_sorted, p_dict1, p_listT, p_isBoolB, sl_tup, ret_rt, bind_name, bindPar_ok, List.getElem?_cons_zero, List.getElem?_cons_succ, List.length_cons, List.length_nil, List.set_cons_zero, List.set_cons_succ, Option.some.injEq, D.int.injEq, D.bl.injEq, D.loc.injEq, exists_eq_left', exists_eq_left, exists_eq_left2, exists_eq_left3, bindT_two, bindPar_end, wipeE, ofC_one, ofC_nil, itT0, itT1, itT2, itT3, deq_str, if_true, if_false, Bool.false_eq_true, true_and, and_true, Nat.zero_add, Bool.true_and] at q ⊢
      refine e_mapL dP (fun b => .bl (uget u b).isSome) ?_
      simp only [ws_cons, ws_nil, ws_ite, s_ret, s_expr, s_asg, s_par, s_pass, s_aug, s_setFld, s_setSub, s_for, e_prim, e_cons, e_nil, e_var, e_cst, e_glb, e_tup, e_lst, e_dnew, e_and, e_or, e_not, e_ifx, e_call, e_fld, e_meth, e_lm, e_sl2, e_slL, e_slH, p_addI, p_addT, p_addL, p_sub, p_mulI, p_mulL, p_mod, p_fdiv, p_pow, p_neg, p_eq, p_ne, p_lt, p_le, p_gt, p_ge, p_in, p_notin, p_isN, p_notN, p_isB, p_notB, p_item, p_rev, p_lenT, p_lenL, p_lenset, p_sorted, p_dict1, p_listT, p_isBoolB, sl_tup, ret_rt, bind_name, bindPar_ok, List.getElem?_cons_zero, List.getElem?_cons_succ, List.length_cons, List.length_nil, List.set_cons_zero, List.set_cons_succ, Option.some.injEq, D.int.injEq, D.bl.injEq, D.loc.injEq, exists_eq_left', exists_eq_left, exists_eq_left2, exists_eq_left3, bindT_two, bindPar_end, wipeE, ofC_one, ofC_nil, itT0, itT1, itT2, itT3, deq_str, if_true, if_false, Bool.false_eq_true, true_and, and_true, Nat.zero_add]
      refine ⟨l, a :: r, rfl, h.le le1, hc, fun b S2 hb hle => ?_, fun S2 le2 hL => ?_⟩
      · simp only [ws_cons, ws_nil, ws_ite, s_ret, s_expr, s_asg, s_par, s_pass, s_aug, s_setFld, s_setSub, s_for, e_prim, e_cons, e_nil, e_var, e_cst, e_glb, e_tup, e_lst, e_dnew, e_and, e_or, e_not, e_ifx, e_call, e_fld, e_meth, e_lm, e_sl2, e_slL, e_slH, p_addI, p_addT, p_addL, p_sub, p_mulI, p_mulL, p_mod, p_fdiv, p_pow, p_neg, p_eq, p_ne, p_lt, p_le, p_gt, p_ge, p_in, p_notin, p_isN, p_notN, p_isB, p_notB, p_item, p_rev, p_lenT, p_lenL, p_lenset, p_sorted, p_dict1, p_listT, p_isBoolB, sl_tup, ret_rt, bind_name, bindPar_ok, List.getElem?_cons_zero, List.getElem?_cons_succ, List.length_cons, List.length_nil, List.set_cons_zero, List.set_cons_succ, Option.some.injEq, D.int.injEq, D.bl.injEq, D.loc.injEq, exists_eq_left', exists_eq_left, exists_eq_left2, exists_eq_left3, bindT_two, bindPar_end, wipeE, ofC_one, ofC_nil, itT0, itT1, itT2, itT3, deq_str, if_true, if_false, Bool.false_eq_true, true_and, and_true, Nat.zero_add, in_U (hu.le (le1.trans hle))]
        exact ⟨by decide, Le.refl _⟩
      · have le3 := le1.trans le2
        simp only [p_all_map hL, ws_cons, ws_nil, ws_ite, s_ret, s_expr, s_asg, s_par, s_pass, s_aug, s_setFld, s_setSub, s_for, e_prim, e_cons, e_nil, e_var, e_cst, e_glb, e_tup, e_lst, e_dnew, e_and, e_or, e_not, e_ifx, e_call, e_fld, e_meth, e_lm, e_sl2, e_slL, e_slH, p_addI, p_addT, p_addL, p_sub, p_mulI, p_mulL, p_mod, p_fdiv, p_pow, p_neg, p_eq, p_ne, p_lt, p_le, p_gt, p_ge, p_in, p_notin, p_isN, p_notN, p_isB, p_notB, p_item, p_rev, p_lenT, p_lenL, p_lenset, p_sorted, p_dict1, p_listT, p_isBoolB, sl_tup, ret_rt, bind_name, bindPar_ok, List.getElem?_cons_zero, List.getElem?_cons_succ, List.length_cons, List.length_nil, List.set_cons_zero, List.set_cons_succ, Option.some.injEq, D.int.injEq, D.bl.injEq, D.loc.injEq, exists_eq_left', exists_eq_left, exists_eq_left2, exists_eq_left3, bindT_two, bindPar_end, wipeE, ofC_one, ofC_nil, itT0, itT1, itT2, itT3, deq_str, if_true, if_false, Bool.false_eq_true, true_and, and_true, Nat.zero_add]
        cases h2 : (a :: r).all fun q => (uget u q).isSome with
        | false =>
          simp only [h2, Bool.not_false, ws_cons, ws_nil, ws_ite, s_ret, s_expr, s_asg, s_par, s_pass, s_aug, s_setFld, s_setSub, s_for, e_prim, e_cons, e_nil, e_var, e_cst, e_glb, e_tup, e_lst, e_dnew, e_and, e_or, e_not, e_ifx, e_call, e_fld, e_meth, e_lm, e_sl2, e_slL, e_slH, p_addI, p_addT, p_addL, p_sub, p_mulI, p_mulL, p_mod, p_fdiv, p_pow, p_neg, p_eq, p_ne, p_lt, p_le, p_gt, p_ge, p_in, p_notin, p_isN, p_notN, p_isB, p_notB, p_item, p_rev, p_lenT, p_lenL, p_lenset, p_sorted, p_dict1, p_listT, p_isBoolB, sl_tup, ret_rt, bind_name, bindPar_ok, List.getElem?_cons_zero, List.getElem?_cons_succ, List.length_cons, List.length_nil, List.set_cons_zero, List.set_cons_succ, Option.some.injEq, D.int.injEq, D.bl.injEq, D.loc.injEq, exists_eq_left', exists_eq_left, exists_eq_left2, exists_eq_left3, bindT_two, bindPar_end, wipeE, ofC_one, ofC_nil, itT0, itT1, itT2, itT3, deq_str, if_true, if_false, Bool.false_eq_true, true_and, and_true, Nat.zero_add, Bool.false_and] at q ⊢
          exact q _ le3
        | true =>
          simp only [h2, Bool.not_true, ws_cons, ws_nil, ws_ite, s_ret, s_expr, s_asg, s_par, s_pass, s_aug, s_setFld, s_setSub, s_for, e_prim, e_cons, e_nil, e_var, e_cst, e_glb, e_tup, e_lst, e_dnew, e_and, e_or, e_not, e_ifx, e_call, e_fld, e_meth, e_lm, e_sl2, e_slL, e_slH, p_addI, p_addT, p_addL, p_sub, p_mulI, p_mulL, p_mod, p_fdiv, p_pow, p_neg, p_eq, p_ne, p_lt, p_le, p_gt, p_ge, p_in, p_notin, p_isN, p_notN, p_isB, p_notB, p_item, p_rev, p_lenT, p_lenL, p_lenset, p_sorted, p_dict1, p_listT, p_isBoolB, sl_tup, ret_rt, bind_name, bindPar_ok, List.getElem?_cons_zero, List.getElem?_cons_succ, List.length_cons, List.length_nil, List.set_cons_zero, List.set_cons_succ, Option.some.injEq, D.int.injEq, D.bl.injEq, D.loc.injEq, exists_eq_left', exists_eq_left, exists_eq_left2, exists_eq_left3, bindT_two, bindPar_end, wipeE, ofC_one, ofC_nil, itT0, itT1, itT2, itT3, deq_str, if_true, if_false, Bool.false_eq_true, true_and, and_true, Nat.zero_add, Bool.true_and] at q ⊢
          have ha : (uget u a).isSome = true := List.all_eq_true.mp h2 a List.mem_cons_self
          obtain ⟨v, hv⟩ := Option.isSome_iff_exists.mp ha
          rw [hv] at q
          refine ⟨dP a, it_list (n := 0) (h.le le3) rfl, dU v, item_U (hu.le le3) hv, ?_⟩
          cases v with
          | some b =>
            simp only [isNon_dU, reduceCtorEq, decide_false, Bool.not_false, ws_cons, ws_nil, ws_ite, s_ret, s_expr, s_asg, s_par, s_pass, s_aug, s_setFld, s_setSub, s_for, e_prim, e_cons, e_nil, e_var, e_cst, e_glb, e_tup, e_lst, e_dnew, e_and, e_or, e_not, e_ifx, e_call, e_fld, e_meth, e_lm, e_sl2, e_slL, e_slH, p_addI, p_addT, p_addL, p_sub, p_mulI, p_mulL, p_mod, p_fdiv, p_pow, p_neg, p_eq, p_ne, p_lt, p_le, p_gt, p_ge, p_in, p_notin, p_isN, p_notN, p_isB, p_notB, p_item, p_rev, p_lenT, p_lenL, p_lenset, p_sorted, p_dict1, p_listT, p_isBoolB, sl_tup, ret_rt, bind_name, bindPar_ok, List.getElem?_cons_zero, List.getElem?_cons_succ, List.length_cons, List.length_nil, List.set_cons_zero, List.set_cons_succ, Option.some.injEq, D.int.injEq, D.bl.injEq, D.loc.injEq, exists_eq_left', exists_eq_left, exists_eq_left2, exists_eq_left3, bindT_two, bindPar_end, wipeE, ofC_one, ofC_nil, itT0, itT1, itT2, itT3, deq_str, if_true, if_false, Bool.false_eq_true, true_and, and_true, Nat.zero_add, Option.some.injEq, Bool.false_and] at q ⊢
            exact q _ le3
          | none =>
            simp only [isNon_dU, decide_true, Bool.not_true, ws_cons, ws_nil, ws_ite, s_ret, s_expr, s_asg, s_par, s_pass, s_aug, s_setFld, s_setSub, s_for, e_prim, e_cons, e_nil, e_var, e_cst, e_glb, e_tup, e_lst, e_dnew, e_and, e_or, e_not, e_ifx, e_call, e_fld, e_meth, e_lm, e_sl2, e_slL, e_slH, p_addI, p_addT, p_addL, p_sub, p_mulI, p_mulL, p_mod, p_fdiv, p_pow, p_neg, p_eq, p_ne, p_lt, p_le, p_gt, p_ge, p_in, p_notin, p_isN, p_notN, p_isB, p_notB, p_item, p_rev, p_lenT, p_lenL, p_lenset, p_sorted, p_dict1, p_listT, p_isBoolB, sl_tup, ret_rt, bind_name, bindPar_ok, List.getElem?_cons_zero, List.getElem?_cons_succ, List.length_cons, List.length_nil, List.set_cons_zero, List.set_cons_succ, Option.some.injEq, D.int.injEq, D.bl.injEq, D.loc.injEq, exists_eq_left', exists_eq_left, exists_eq_left2, exists_eq_left3, bindT_two, bindPar_end, wipeE, ofC_one, ofC_nil, itT0, itT1, itT2, itT3, deq_str, if_true, if_false, Bool.false_eq_true, true_and, and_true, Nat.zero_add, Bool.true_and] at q ⊢
            refine e_mapZ dP dP (fun b => .bl (decide (uget u b.2 = some (some b.1)))) ?_
            simp only [ws_cons, ws_nil, ws_ite, s_ret, s_expr, s_asg, s_par, s_pass, s_aug, s_setFld, s_setSub, s_for, e_prim, e_cons, e_nil, e_var, e_cst, e_glb, e_tup, e_lst, e_dnew, e_and, e_or, e_not, e_ifx, e_call, e_fld, e_meth, e_lm, e_sl2, e_slL, e_slH, p_addI, p_addT, p_addL, p_sub, p_mulI, p_mulL, p_mod, p_fdiv, p_pow, p_neg, p_eq, p_ne, p_lt, p_le, p_gt, p_ge, p_in, p_notin, p_isN, p_notN, p_isB, p_notB, p_item, p_rev, p_lenT, p_lenL, p_lenset, p_sorted, p_dict1, p_listT, p_isBoolB, sl_tup, ret_rt, bind_name, bindPar_ok, List.getElem?_cons_zero, List.getElem?_cons_succ, List.length_cons, List.length_nil, List.set_cons_zero, List.set_cons_succ, Option.some.injEq, D.int.injEq, D.bl.injEq, D.loc.injEq, exists_eq_left', exists_eq_left, exists_eq_left2, exists_eq_left3, bindT_two, bindPar_end, wipeE, ofC_one, ofC_nil, itT0, itT1, itT2, itT3, deq_str, if_true, if_false, Bool.false_eq_true, true_and, and_true, Nat.zero_add, sl_list (h.le le3)]
            have le4 : Le S2 (S2 ++ [.list (cut ((a :: r).map dP) (some 1) none)]) := Le.push _ _
            have le5 := le3.trans le4
            refine ⟨l, S2.length, a :: r, r, rfl, h.le le5, ?_, hc, fun b S4 hb hle => ?_, fun S4 le6 hL2 => ?_⟩
            · unfold HasL
              rw [get_push, show (some (1 : Int)) = some ((1 : Nat) : Int) from rfl, cut_drop]
              rfl
            · obtain ⟨b1, b2⟩ := b
              have hm : b2 ∈ r := (List.of_mem_zip hb).2
              obtain ⟨w, hw2⟩ := Option.isSome_iff_exists.mp (List.all_eq_true.mp h2 b2 (List.mem_cons_of_mem _ hm))
              simp only [ws_cons, ws_nil, ws_ite, s_ret, s_expr, s_asg, s_par, s_pass, s_aug, s_setFld, s_setSub, s_for, e_prim, e_cons, e_nil, e_var, e_cst, e_glb, e_tup, e_lst, e_dnew, e_and, e_or, e_not, e_ifx, e_call, e_fld, e_meth, e_lm, e_sl2, e_slL, e_slH, p_addI, p_addT, p_addL, p_sub, p_mulI, p_mulL, p_mod, p_fdiv, p_pow, p_neg, p_eq, p_ne, p_lt, p_le, p_gt, p_ge, p_in, p_notin, p_isN, p_notN, p_isB, p_notB, p_item, p_rev, p_lenT, p_lenL, p_lenset, p_sorted, p_dict1, p_listT, p_isBoolB, sl_tup, ret_rt, bind_name, bindPar_ok, List.getElem?_cons_zero, List.getElem?_cons_succ, List.length_cons, List.length_nil, List.set_cons_zero, List.set_cons_succ, Option.some.injEq, D.int.injEq, D.bl.injEq, D.loc.injEq, exists_eq_left', exists_eq_left, exists_eq_left2, exists_eq_left3, bindT_two, bindPar_end, wipeE, ofC_one, ofC_nil, itT0, itT1, itT2, itT3, deq_str, if_true, if_false, Bool.false_eq_true, true_and, and_true, Nat.zero_add, item_U (hu.le (le5.trans hle)) hw2, deq_UP, hw2]
              exact ⟨by decide, by decide, Le.refl _⟩
            · simp only [p_all_map hL2, ws_cons, ws_nil, ws_ite, s_ret, s_expr, s_asg, s_par, s_pass, s_aug, s_setFld, s_setSub, s_for, e_prim, e_cons, e_nil, e_var, e_cst, e_glb, e_tup, e_lst, e_dnew, e_and, e_or, e_not, e_ifx, e_call, e_fld, e_meth, e_lm, e_sl2, e_slL, e_slH, p_addI, p_addT, p_addL, p_sub, p_mulI, p_mulL, p_mod, p_fdiv, p_pow, p_neg, p_eq, p_ne, p_lt, p_le, p_gt, p_ge, p_in, p_notin, p_isN, p_notN, p_isB, p_notB, p_item, p_rev, p_lenT, p_lenL, p_lenset, p_sorted, p_dict1, p_listT, p_isBoolB, sl_tup, ret_rt, bind_name, bindPar_ok, List.getElem?_cons_zero, List.getElem?_cons_succ, List.length_cons, List.length_nil, List.set_cons_zero, List.set_cons_succ, Option.some.injEq, D.int.injEq, D.bl.injEq, D.loc.injEq, exists_eq_left', exists_eq_left, exists_eq_left2, exists_eq_left3, bindT_two, bindPar_end, wipeE, ofC_one, ofC_nil, itT0, itT1, itT2, itT3, deq_str, if_true, if_false, Bool.false_eq_true, true_and, and_true, Nat.zero_add]
              exact q _ (le5.trans le6)
    · simp only [hzp, decide_false, Bool.not_false, ws_cons, ws_nil, ws_ite, s_ret, s_expr, s_asg, s_par, s_pass, s_aug, s_setFld, s_setSub, s_for, e_prim, e_cons, e_nil, e_var, e_cst, e_glb, e_tup, e_lst, e_dnew, e_and, e_or, e_not, e_ifx, e_call, e_fld, e_meth, e_lm, e_sl2, e_slL, e_slH, p_addI, p_addT, p_addL, p_sub, p_mulI, p_mulL, p_mod, p_fdiv, p_pow, p_neg, p_eq, p_ne, p_lt, p_le, p_gt, p_ge, p_in, p_notin, p_isN, p_notN, p_isB, p_notB, p_item, p_rev, p_lenT, p_lenL, p_lenset, p_sorted, p_dict1, p_listT, p_isBoolB, sl_tup, ret_rt, bind_name, bindPar_ok, List.getElem?_cons_zero, List.getElem?_cons_succ, List.length_cons, List.length_nil, List.set_cons_zero, List.set_cons_succ, Option.some.injEq, D.int.injEq, D.bl.injEq, D.loc.injEq, exists_eq_left', exists_eq_left, exists_eq_left2, exists_eq_left3, bindT_two, bindPar_end, wipeE, ofC_one, ofC_nil, itT0, itT1, itT2, itT3, deq_str, if_true, if_false, Bool.false_eq_true, true_and, and_true, Nat.zero_add, Bool.false_and] at q ⊢
      exact q _ le1
/-! ### instances -/
theorem cls_one : FL.contains (1, "way") = true := by decide +kernel
theorem cls_two : FL.contains (2, "way") = true := by decide +kernel
theorem cls_three : FL.contains (3, "chain") = true := by decide +kernel
theorem sp3 {n : Nat} {S : Store} {m l : Nat} {xs : List D} (hm : S[m]? = some (.ins 1 [])) (h : S[l]? = some (.list xs)) {Q : D → Store → Prop} (q : Q .non ((S ++ [O.list xs]).set m (O.ins 1 [("way", D.loc S.length)]))) : wp (run G (n + 1) 3 [.loc m, .loc l] S) Q := by
  refine (wp_run (fn := ⟨2, 2, b3⟩) rfl rfl).mpr ?_
  show ws (execs G (run G n) b3 [some (.loc m), some (.loc l)] S) _
  unfold b3
  simp only [ws_cons, ws_nil, ws_ite, s_ret, s_expr, s_asg, s_par, s_pass, s_aug, s_setFld, s_setSub, s_for, e_prim, e_cons, e_nil, e_var, e_cst, e_glb, e_tup, e_lst, e_dnew, e_and, e_or, e_not, e_ifx, e_call, e_fld, e_meth, e_lm, e_sl2, e_slL, e_slH, p_addI, p_addT, p_addL, p_sub, p_mulI, p_mulL, p_mod, p_fdiv, p_pow, p_neg, p_eq, p_ne, p_lt, p_le, p_gt, p_ge, p_in, p_notin, p_isN, p_notN, p_isB, p_notB, p_item, p_rev, p_lenT, p_lenL, p_lenset, p_sorted, p_dict1, p_listT, p_isBoolB, sl_tup, ret_rt, bind_name, bindPar_ok, List.getElem?_cons_zero, List.getElem?_cons_succ, List.length_cons, List.length_nil, List.set_cons_zero, List.set_cons_succ, Option.some.injEq, D.int.injEq, D.bl.injEq, D.loc.injEq, exists_eq_left', exists_eq_left, exists_eq_left2, exists_eq_left3, bindT_two, bindPar_end, wipeE, ofC_one, ofC_nil, itT0, itT1, itT2, itT3, deq_str, if_true, if_false, Bool.false_eq_true, true_and, and_true, Nat.zero_add, p_listL h]
  exact ⟨m, 1, [], rfl, Le.push _ _ _ _ hm, ⟨by decide, cls_one⟩, q⟩
theorem sp5 {n : Nat} {S : Store} {m l : Nat} {xs : List D} (hm : S[m]? = some (.ins 2 [])) (h : S[l]? = some (.list xs)) {Q : D → Store → Prop} (q : Q .non ((S ++ [O.list xs]).set m (O.ins 2 [("way", D.loc S.length)]))) : wp (run G (n + 1) 5 [.loc m, .loc l] S) Q := by
  refine (wp_run (fn := ⟨2, 2, b5⟩) rfl rfl).mpr ?_
  show ws (execs G (run G n) b5 [some (.loc m), some (.loc l)] S) _
  unfold b5
  simp only [ws_cons, ws_nil, ws_ite, s_ret, s_expr, s_asg, s_par, s_pass, s_aug, s_setFld, s_setSub, s_for, e_prim, e_cons, e_nil, e_var, e_cst, e_glb, e_tup, e_lst, e_dnew, e_and, e_or, e_not, e_ifx, e_call, e_fld, e_meth, e_lm, e_sl2, e_slL, e_slH, p_addI, p_addT, p_addL, p_sub, p_mulI, p_mulL, p_mod, p_fdiv, p_pow, p_neg, p_eq, p_ne, p_lt, p_le, p_gt, p_ge, p_in, p_notin, p_isN, p_notN, p_isB, p_notB, p_item, p_rev, p_lenT, p_lenL, p_lenset, p_sorted, p_dict1, p_listT, p_isBoolB, sl_tup, ret_rt, bind_name, bindPar_ok, List.getElem?_cons_zero, List.getElem?_cons_succ, List.length_cons, List.length_nil, List.set_cons_zero, List.set_cons_succ, Option.some.injEq, D.int.injEq, D.bl.injEq, D.loc.injEq, exists_eq_left', exists_eq_left, exists_eq_left2, exists_eq_left3, bindT_two, bindPar_end, wipeE, ofC_one, ofC_nil, itT0, itT1, itT2, itT3, deq_str, if_true, if_false, Bool.false_eq_true, true_and, and_true, Nat.zero_add, p_listL h]
  exact ⟨m, 2, [], rfl, Le.push _ _ _ _ hm, ⟨by decide, cls_two⟩, q⟩
theorem sp7 {n : Nat} {S : Store} {m l : Nat} {xs : List D} (hm : S[m]? = some (.ins 3 [])) (h : S[l]? = some (.list xs)) {Q : D → Store → Prop} (q : Q .non ((S ++ [O.list xs]).set m (O.ins 3 [("chain", D.loc S.length)]))) : wp (run G (n + 1) 7 [.loc m, .loc l] S) Q := by
  refine (wp_run (fn := ⟨2, 2, b7⟩) rfl rfl).mpr ?_
  show ws (execs G (run G n) b7 [some (.loc m), some (.loc l)] S) _
  unfold b7
  simp only [ws_cons, ws_nil, ws_ite, s_ret, s_expr, s_asg, s_par, s_pass, s_aug, s_setFld, s_setSub, s_for, e_prim, e_cons, e_nil, e_var, e_cst, e_glb, e_tup, e_lst, e_dnew, e_and, e_or, e_not, e_ifx, e_call, e_fld, e_meth, e_lm, e_sl2, e_slL, e_slH, p_addI, p_addT, p_addL, p_sub, p_mulI, p_mulL, p_mod, p_fdiv, p_pow, p_neg, p_eq, p_ne, p_lt, p_le, p_gt, p_ge, p_in, p_notin, p_isN, p_notN, p_isB, p_notB, p_item, p_rev, p_lenT, p_lenL, p_lenset, p_sorted, p_dict1, p_listT, p_isBoolB, sl_tup, ret_rt, bind_name, bindPar_ok, List.getElem?_cons_zero, List.getElem?_cons_succ, List.length_cons, List.length_nil, List.set_cons_zero, List.set_cons_succ, Option.some.injEq, D.int.injEq, D.bl.injEq, D.loc.injEq, exists_eq_left', exists_eq_left, exists_eq_left2, exists_eq_left3, bindT_two, bindPar_end, wipeE, ofC_one, ofC_nil, itT0, itT1, itT2, itT3, deq_str, if_true, if_false, Bool.false_eq_true, true_and, and_true, Nat.zero_add, p_listL h]
  exact ⟨m, 3, [], rfl, Le.push _ _ _ _ hm, ⟨by decide, cls_three⟩, q⟩
theorem lk_way {d : D} : List.lookup ("way" : Str) [(("way" : Str), d)] = some d := by simp only [List.lookup, beq_self_eq_true]
theorem lk_chain {d : D} : List.lookup ("chain" : Str) [(("chain" : Str), d)] = some d := by simp only [List.lookup, beq_self_eq_true]
def stands (wl : List Word) (p : Part) (way : List Part) : Bool := isWay (ups wl) p way && !way.any fun q => decide (q ∈ outs wl)
def gone (wl : List Word) (p : Part) (way : List Part) : Bool := isWay (ups wl) p way && way.any fun q => decide (q ∈ outs wl)
theorem sp4 {n : Nat} {S : Store} {m w l : Nat} {wl : List Word} {p : Part} {way : List Part} (hm : S[m]? = some (.ins 1 [("way", .loc l)])) (hw : HasL S w dW wl) (h : HasL S l dP way) (hcw : wl.length < cap) (hc : way.length < cap) {Q : D → Store → Prop} (q : ∀ S', Le S S' → Q (.bl (stands wl p way)) S') : wp (run G (n + 2) 4 [.loc m, .loc w, dP p] S) Q := by
  refine (wp_run (fn := ⟨3, 5, b4⟩) rfl rfl).mpr ?_
  show ws (execs G (run G (n + 1)) b4 [some (.loc m), some (.loc w), some (dP p), none, none] S) _
  unfold b4
  simp only [ws_cons, ws_nil, ws_ite, s_ret, s_expr, s_asg, s_par, s_pass, s_aug, s_setFld, s_setSub, s_for, e_prim, e_cons, e_nil, e_var, e_cst, e_glb, e_tup, e_lst, e_dnew, e_and, e_or, e_not, e_ifx, e_call, e_fld, e_meth, e_lm, e_sl2, e_slL, e_slH, p_addI, p_addT, p_addL, p_sub, p_mulI, p_mulL, p_mod, p_fdiv, p_pow, p_neg, p_eq, p_ne, p_lt, p_le, p_gt, p_ge, p_in, p_notin, p_isN, p_notN, p_isB, p_notB, p_item, p_rev, p_lenT, p_lenL, p_lenset, p_sorted, p_dict1, p_listT, p_isBoolB, sl_tup, ret_rt, bind_name, bindPar_ok, List.getElem?_cons_zero, List.getElem?_cons_succ, List.length_cons, List.length_nil, List.set_cons_zero, List.set_cons_succ, Option.some.injEq, D.int.injEq, D.bl.injEq, D.loc.injEq, exists_eq_left', exists_eq_left, exists_eq_left2, exists_eq_left3, bindT_two, bindPar_end, wipeE, ofC_one, ofC_nil, itT0, itT1, itT2, itT3, deq_str, if_true, if_false, Bool.false_eq_true, true_and, and_true, Nat.zero_add]
  refine sp1 hw hcw fun S1 o le1 ho => ?_
  refine ⟨by decide, ?_⟩
  refine sp0 (hw.le le1) hcw fun S2 u le2 hu => ?_
  have le3 := le1.trans le2
  refine ⟨m, 1, _, .loc l, rfl, le3 _ _ hm, cls_one, lk_way, ?_⟩
  refine sp2 hu (h.le le3) hc fun S3 le4 => ?_
  have le5 := le3.trans le4
  simp only [ws_cons, ws_nil, ws_ite, s_ret, s_expr, s_asg, s_par, s_pass, s_aug, s_setFld, s_setSub, s_for, e_prim, e_cons, e_nil, e_var, e_cst, e_glb, e_tup, e_lst, e_dnew, e_and, e_or, e_not, e_ifx, e_call, e_fld, e_meth, e_lm, e_sl2, e_slL, e_slH, p_addI, p_addT, p_addL, p_sub, p_mulI, p_mulL, p_mod, p_fdiv, p_pow, p_neg, p_eq, p_ne, p_lt, p_le, p_gt, p_ge, p_in, p_notin, p_isN, p_notN, p_isB, p_notB, p_item, p_rev, p_lenT, p_lenL, p_lenset, p_sorted, p_dict1, p_listT, p_isBoolB, sl_tup, ret_rt, bind_name, bindPar_ok, List.getElem?_cons_zero, List.getElem?_cons_succ, List.length_cons, List.length_nil, List.set_cons_zero, List.set_cons_succ, Option.some.injEq, D.int.injEq, D.bl.injEq, D.loc.injEq, exists_eq_left', exists_eq_left, exists_eq_left2, exists_eq_left3, bindT_two, bindPar_end, wipeE, ofC_one, ofC_nil, itT0, itT1, itT2, itT3, deq_str, if_true, if_false, Bool.false_eq_true, true_and, and_true, Nat.zero_add]
  unfold stands at q
  cases hy : isWay (ups wl) p way with
  | false =>
    simp only [hy, ws_cons, ws_nil, ws_ite, s_ret, s_expr, s_asg, s_par, s_pass, s_aug, s_setFld, s_setSub, s_for, e_prim, e_cons, e_nil, e_var, e_cst, e_glb, e_tup, e_lst, e_dnew, e_and, e_or, e_not, e_ifx, e_call, e_fld, e_meth, e_lm, e_sl2, e_slL, e_slH, p_addI, p_addT, p_addL, p_sub, p_mulI, p_mulL, p_mod, p_fdiv, p_pow, p_neg, p_eq, p_ne, p_lt, p_le, p_gt, p_ge, p_in, p_notin, p_isN, p_notN, p_isB, p_notB, p_item, p_rev, p_lenT, p_lenL, p_lenset, p_sorted, p_dict1, p_listT, p_isBoolB, sl_tup, ret_rt, bind_name, bindPar_ok, List.getElem?_cons_zero, List.getElem?_cons_succ, List.length_cons, List.length_nil, List.set_cons_zero, List.set_cons_succ, Option.some.injEq, D.int.injEq, D.bl.injEq, D.loc.injEq, exists_eq_left', exists_eq_left, exists_eq_left2, exists_eq_left3, bindT_two, bindPar_end, wipeE, ofC_one, ofC_nil, itT0, itT1, itT2, itT3, deq_str, if_true, if_false, Bool.false_eq_true, true_and, and_true, Nat.zero_add, Bool.false_and] at q ⊢
    exact q _ le5
  | true =>
    simp only [hy, ws_cons, ws_nil, ws_ite, s_ret, s_expr, s_asg, s_par, s_pass, s_aug, s_setFld, s_setSub, s_for, e_prim, e_cons, e_nil, e_var, e_cst, e_glb, e_tup, e_lst, e_dnew, e_and, e_or, e_not, e_ifx, e_call, e_fld, e_meth, e_lm, e_sl2, e_slL, e_slH, p_addI, p_addT, p_addL, p_sub, p_mulI, p_mulL, p_mod, p_fdiv, p_pow, p_neg, p_eq, p_ne, p_lt, p_le, p_gt, p_ge, p_in, p_notin, p_isN, p_notN, p_isB, p_notB, p_item, p_rev, p_lenT, p_lenL, p_lenset, p_sorted, p_dict1, p_listT, p_isBoolB, sl_tup, ret_rt, bind_name, bindPar_ok, List.getElem?_cons_zero, List.getElem?_cons_succ, List.length_cons, List.length_nil, List.set_cons_zero, List.set_cons_succ, Option.some.injEq, D.int.injEq, D.bl.injEq, D.loc.injEq, exists_eq_left', exists_eq_left, exists_eq_left2, exists_eq_left3, bindT_two, bindPar_end, wipeE, ofC_one, ofC_nil, itT0, itT1, itT2, itT3, deq_str, if_true, if_false, Bool.false_eq_true, true_and, and_true, Nat.zero_add, Bool.true_and] at q ⊢
    refine e_mapL dP (fun b => .bl (decide (b ∈ outs wl))) ?_
    simp only [ws_cons, ws_nil, ws_ite, s_ret, s_expr, s_asg, s_par, s_pass, s_aug, s_setFld, s_setSub, s_for, e_prim, e_cons, e_nil, e_var, e_cst, e_glb, e_tup, e_lst, e_dnew, e_and, e_or, e_not, e_ifx, e_call, e_fld, e_meth, e_lm, e_sl2, e_slL, e_slH, p_addI, p_addT, p_addL, p_sub, p_mulI, p_mulL, p_mod, p_fdiv, p_pow, p_neg, p_eq, p_ne, p_lt, p_le, p_gt, p_ge, p_in, p_notin, p_isN, p_notN, p_isB, p_notB, p_item, p_rev, p_lenT, p_lenL, p_lenset, p_sorted, p_dict1, p_listT, p_isBoolB, sl_tup, ret_rt, bind_name, bindPar_ok, List.getElem?_cons_zero, List.getElem?_cons_succ, List.length_cons, List.length_nil, List.set_cons_zero, List.set_cons_succ, Option.some.injEq, D.int.injEq, D.bl.injEq, D.loc.injEq, exists_eq_left', exists_eq_left, exists_eq_left2, exists_eq_left3, bindT_two, bindPar_end, wipeE, ofC_one, ofC_nil, itT0, itT1, itT2, itT3, deq_str, if_true, if_false, Bool.false_eq_true, true_and, and_true, Nat.zero_add]
    refine ⟨m, 1, _, .loc l, rfl, le5 _ _ hm, cls_one, lk_way, l, way, rfl, h.le le5, hc, fun b S4 hb hle => ?_, fun S4 le6 hL => ?_⟩
    · simp only [ws_cons, ws_nil, ws_ite, s_ret, s_expr, s_asg, s_par, s_pass, s_aug, s_setFld, s_setSub, s_for, e_prim, e_cons, e_nil, e_var, e_cst, e_glb, e_tup, e_lst, e_dnew, e_and, e_or, e_not, e_ifx, e_call, e_fld, e_meth, e_lm, e_sl2, e_slL, e_slH, p_addI, p_addT, p_addL, p_sub, p_mulI, p_mulL, p_mod, p_fdiv, p_pow, p_neg, p_eq, p_ne, p_lt, p_le, p_gt, p_ge, p_in, p_notin, p_isN, p_notN, p_isB, p_notB, p_item, p_rev, p_lenT, p_lenL, p_lenset, p_sorted, p_dict1, p_listT, p_isBoolB, sl_tup, ret_rt, bind_name, bindPar_ok, List.getElem?_cons_zero, List.getElem?_cons_succ, List.length_cons, List.length_nil, List.set_cons_zero, List.set_cons_succ, Option.some.injEq, D.int.injEq, D.bl.injEq, D.loc.injEq, exists_eq_left', exists_eq_left, exists_eq_left2, exists_eq_left3, bindT_two, bindPar_end, wipeE, ofC_one, ofC_nil, itT0, itT1, itT2, itT3, deq_str, if_true, if_false, Bool.false_eq_true, true_and, and_true, Nat.zero_add, in_LP (ho.le ((le2.trans le4).trans hle))]
      exact ⟨by decide, Le.refl _⟩
    · simp only [p_any_map hL, ws_cons, ws_nil, ws_ite, s_ret, s_expr, s_asg, s_par, s_pass, s_aug, s_setFld, s_setSub, s_for, e_prim, e_cons, e_nil, e_var, e_cst, e_glb, e_tup, e_lst, e_dnew, e_and, e_or, e_not, e_ifx, e_call, e_fld, e_meth, e_lm, e_sl2, e_slL, e_slH, p_addI, p_addT, p_addL, p_sub, p_mulI, p_mulL, p_mod, p_fdiv, p_pow, p_neg, p_eq, p_ne, p_lt, p_le, p_gt, p_ge, p_in, p_notin, p_isN, p_notN, p_isB, p_notB, p_item, p_rev, p_lenT, p_lenL, p_lenset, p_sorted, p_dict1, p_listT, p_isBoolB, sl_tup, ret_rt, bind_name, bindPar_ok, List.getElem?_cons_zero, List.getElem?_cons_succ, List.length_cons, List.length_nil, List.set_cons_zero, List.set_cons_succ, Option.some.injEq, D.int.injEq, D.bl.injEq, D.loc.injEq, exists_eq_left', exists_eq_left, exists_eq_left2, exists_eq_left3, bindT_two, bindPar_end, wipeE, ofC_one, ofC_nil, itT0, itT1, itT2, itT3, deq_str, if_true, if_false, Bool.false_eq_true, true_and, and_true, Nat.zero_add]
      exact q _ (le5.trans le6)
theorem sp6 {n : Nat} {S : Store} {m w l : Nat} {wl : List Word} {p : Part} {way : List Part} (hm : S[m]? = some (.ins 2 [("way", .loc l)])) (hw : HasL S w dW wl) (h : HasL S l dP way) (hcw : wl.length < cap) (hc : way.length < cap) {Q : D → Store → Prop} (q : ∀ S', Le S S' → Q (.bl (gone wl p way)) S') : wp (run G (n + 2) 6 [.loc m, .loc w, dP p] S) Q := by
  refine (wp_run (fn := ⟨3, 5, b6⟩) rfl rfl).mpr ?_
  show ws (execs G (run G (n + 1)) b6 [some (.loc m), some (.loc w), some (dP p), none, none] S) _
  unfold b6
  simp only [ws_cons, ws_nil, ws_ite, s_ret, s_expr, s_asg, s_par, s_pass, s_aug, s_setFld, s_setSub, s_for, e_prim, e_cons, e_nil, e_var, e_cst, e_glb, e_tup, e_lst, e_dnew, e_and, e_or, e_not, e_ifx, e_call, e_fld, e_meth, e_lm, e_sl2, e_slL, e_slH, p_addI, p_addT, p_addL, p_sub, p_mulI, p_mulL, p_mod, p_fdiv, p_pow, p_neg, p_eq, p_ne, p_lt, p_le, p_gt, p_ge, p_in, p_notin, p_isN, p_notN, p_isB, p_notB, p_item, p_rev, p_lenT, p_lenL, p_lenset, p_sorted, p_dict1, p_listT, p_isBoolB, sl_tup, ret_rt, bind_name, bindPar_ok, List.getElem?_cons_zero, List.getElem?_cons_succ, List.length_cons, List.length_nil, List.set_cons_zero, List.set_cons_succ, Option.some.injEq, D.int.injEq, D.bl.injEq, D.loc.injEq, exists_eq_left', exists_eq_left, exists_eq_left2, exists_eq_left3, bindT_two, bindPar_end, wipeE, ofC_one, ofC_nil, itT0, itT1, itT2, itT3, deq_str, if_true, if_false, Bool.false_eq_true, true_and, and_true, Nat.zero_add]
  refine sp1 hw hcw fun S1 o le1 ho => ?_
  refine ⟨by decide, ?_⟩
  refine sp0 (hw.le le1) hcw fun S2 u le2 hu => ?_
  have le3 := le1.trans le2
  refine ⟨m, 2, _, .loc l, rfl, le3 _ _ hm, cls_two, lk_way, ?_⟩
  refine sp2 hu (h.le le3) hc fun S3 le4 => ?_
  have le5 := le3.trans le4
  simp only [ws_cons, ws_nil, ws_ite, s_ret, s_expr, s_asg, s_par, s_pass, s_aug, s_setFld, s_setSub, s_for, e_prim, e_cons, e_nil, e_var, e_cst, e_glb, e_tup, e_lst, e_dnew, e_and, e_or, e_not, e_ifx, e_call, e_fld, e_meth, e_lm, e_sl2, e_slL, e_slH, p_addI, p_addT, p_addL, p_sub, p_mulI, p_mulL, p_mod, p_fdiv, p_pow, p_neg, p_eq, p_ne, p_lt, p_le, p_gt, p_ge, p_in, p_notin, p_isN, p_notN, p_isB, p_notB, p_item, p_rev, p_lenT, p_lenL, p_lenset, p_sorted, p_dict1, p_listT, p_isBoolB, sl_tup, ret_rt, bind_name, bindPar_ok, List.getElem?_cons_zero, List.getElem?_cons_succ, List.length_cons, List.length_nil, List.set_cons_zero, List.set_cons_succ, Option.some.injEq, D.int.injEq, D.bl.injEq, D.loc.injEq, exists_eq_left', exists_eq_left, exists_eq_left2, exists_eq_left3, bindT_two, bindPar_end, wipeE, ofC_one, ofC_nil, itT0, itT1, itT2, itT3, deq_str, if_true, if_false, Bool.false_eq_true, true_and, and_true, Nat.zero_add]
  unfold gone at q
  cases hy : isWay (ups wl) p way with
  | false =>
    simp only [hy, ws_cons, ws_nil, ws_ite, s_ret, s_expr, s_asg, s_par, s_pass, s_aug, s_setFld, s_setSub, s_for, e_prim, e_cons, e_nil, e_var, e_cst, e_glb, e_tup, e_lst, e_dnew, e_and, e_or, e_not, e_ifx, e_call, e_fld, e_meth, e_lm, e_sl2, e_slL, e_slH, p_addI, p_addT, p_addL, p_sub, p_mulI, p_mulL, p_mod, p_fdiv, p_pow, p_neg, p_eq, p_ne, p_lt, p_le, p_gt, p_ge, p_in, p_notin, p_isN, p_notN, p_isB, p_notB, p_item, p_rev, p_lenT, p_lenL, p_lenset, p_sorted, p_dict1, p_listT, p_isBoolB, sl_tup, ret_rt, bind_name, bindPar_ok, List.getElem?_cons_zero, List.getElem?_cons_succ, List.length_cons, List.length_nil, List.set_cons_zero, List.set_cons_succ, Option.some.injEq, D.int.injEq, D.bl.injEq, D.loc.injEq, exists_eq_left', exists_eq_left, exists_eq_left2, exists_eq_left3, bindT_two, bindPar_end, wipeE, ofC_one, ofC_nil, itT0, itT1, itT2, itT3, deq_str, if_true, if_false, Bool.false_eq_true, true_and, and_true, Nat.zero_add, Bool.false_and] at q ⊢
    exact q _ le5
  | true =>
    simp only [hy, ws_cons, ws_nil, ws_ite, s_ret, s_expr, s_asg, s_par, s_pass, s_aug, s_setFld, s_setSub, s_for, e_prim, e_cons, e_nil, e_var, e_cst, e_glb, e_tup, e_lst, e_dnew, e_and, e_or, e_not, e_ifx, e_call, e_fld, e_meth, e_lm, e_sl2, e_slL, e_slH, p_addI, p_addT, p_addL, p_sub, p_mulI, p_mulL, p_mod, p_fdiv, p_pow, p_neg, p_eq, p_ne, p_lt, p_le, p_gt, p_ge, p_in, p_notin, p_isN, p_notN, p_isB, p_notB, p_item, p_rev, p_lenT, p_lenL, p_lenset, p_sorted, p_dict1, p_listT, p_isBoolB, sl_tup, ret_rt, bind_name, bindPar_ok, List.getElem?_cons_zero, List.getElem?_cons_succ, List.length_cons, List.length_nil, List.set_cons_zero, List.set_cons_succ, Option.some.injEq, D.int.injEq, D.bl.injEq, D.loc.injEq, exists_eq_left', exists_eq_left, exists_eq_left2, exists_eq_left3, bindT_two, bindPar_end, wipeE, ofC_one, ofC_nil, itT0, itT1, itT2, itT3, deq_str, if_true, if_false, Bool.false_eq_true, true_and, and_true, Nat.zero_add, Bool.true_and] at q ⊢
    refine e_mapL dP (fun b => .bl (decide (b ∈ outs wl))) ?_
    simp only [ws_cons, ws_nil, ws_ite, s_ret, s_expr, s_asg, s_par, s_pass, s_aug, s_setFld, s_setSub, s_for, e_prim, e_cons, e_nil, e_var, e_cst, e_glb, e_tup, e_lst, e_dnew, e_and, e_or, e_not, e_ifx, e_call, e_fld, e_meth, e_lm, e_sl2, e_slL, e_slH, p_addI, p_addT, p_addL, p_sub, p_mulI, p_mulL, p_mod, p_fdiv, p_pow, p_neg, p_eq, p_ne, p_lt, p_le, p_gt, p_ge, p_in, p_notin, p_isN, p_notN, p_isB, p_notB, p_item, p_rev, p_lenT, p_lenL, p_lenset, p_sorted, p_dict1, p_listT, p_isBoolB, sl_tup, ret_rt, bind_name, bindPar_ok, List.getElem?_cons_zero, List.getElem?_cons_succ, List.length_cons, List.length_nil, List.set_cons_zero, List.set_cons_succ, Option.some.injEq, D.int.injEq, D.bl.injEq, D.loc.injEq, exists_eq_left', exists_eq_left, exists_eq_left2, exists_eq_left3, bindT_two, bindPar_end, wipeE, ofC_one, ofC_nil, itT0, itT1, itT2, itT3, deq_str, if_true, if_false, Bool.false_eq_true, true_and, and_true, Nat.zero_add]
    refine ⟨m, 2, _, .loc l, rfl, le5 _ _ hm, cls_two, lk_way, l, way, rfl, h.le le5, hc, fun b S4 hb hle => ?_, fun S4 le6 hL => ?_⟩
    · simp only [ws_cons, ws_nil, ws_ite, s_ret, s_expr, s_asg, s_par, s_pass, s_aug, s_setFld, s_setSub, s_for, e_prim, e_cons, e_nil, e_var, e_cst, e_glb, e_tup, e_lst, e_dnew, e_and, e_or, e_not, e_ifx, e_call, e_fld, e_meth, e_lm, e_sl2, e_slL, e_slH, p_addI, p_addT, p_addL, p_sub, p_mulI, p_mulL, p_mod, p_fdiv, p_pow, p_neg, p_eq, p_ne, p_lt, p_le, p_gt, p_ge, p_in, p_notin, p_isN, p_notN, p_isB, p_notB, p_item, p_rev, p_lenT, p_lenL, p_lenset, p_sorted, p_dict1, p_listT, p_isBoolB, sl_tup, ret_rt, bind_name, bindPar_ok, List.getElem?_cons_zero, List.getElem?_cons_succ, List.length_cons, List.length_nil, List.set_cons_zero, List.set_cons_succ, Option.some.injEq, D.int.injEq, D.bl.injEq, D.loc.injEq, exists_eq_left', exists_eq_left, exists_eq_left2, exists_eq_left3, bindT_two, bindPar_end, wipeE, ofC_one, ofC_nil, itT0, itT1, itT2, itT3, deq_str, if_true, if_false, Bool.false_eq_true, true_and, and_true, Nat.zero_add, in_LP (ho.le ((le2.trans le4).trans hle))]
      exact ⟨by decide, Le.refl _⟩
    · simp only [p_any_map hL, ws_cons, ws_nil, ws_ite, s_ret, s_expr, s_asg, s_par, s_pass, s_aug, s_setFld, s_setSub, s_for, e_prim, e_cons, e_nil, e_var, e_cst, e_glb, e_tup, e_lst, e_dnew, e_and, e_or, e_not, e_ifx, e_call, e_fld, e_meth, e_lm, e_sl2, e_slL, e_slH, p_addI, p_addT, p_addL, p_sub, p_mulI, p_mulL, p_mod, p_fdiv, p_pow, p_neg, p_eq, p_ne, p_lt, p_le, p_gt, p_ge, p_in, p_notin, p_isN, p_notN, p_isB, p_notB, p_item, p_rev, p_lenT, p_lenL, p_lenset, p_sorted, p_dict1, p_listT, p_isBoolB, sl_tup, ret_rt, bind_name, bindPar_ok, List.getElem?_cons_zero, List.getElem?_cons_succ, List.length_cons, List.length_nil, List.set_cons_zero, List.set_cons_succ, Option.some.injEq, D.int.injEq, D.bl.injEq, D.loc.injEq, exists_eq_left', exists_eq_left, exists_eq_left2, exists_eq_left3, bindT_two, bindPar_end, wipeE, ofC_one, ofC_nil, itT0, itT1, itT2, itT3, deq_str, if_true, if_false, Bool.false_eq_true, true_and, and_true, Nat.zero_add]
      exact q _ (le5.trans le6)
end MI.Law

namespace MI.Law
open PySem MI
/-! ### waits -/
def lastOf (u : Ups) (chain : List Part) : Bool := match chain.getLast? with
  | none => false
  | some z => match uget u z with
    | some (some l) => !(uget u l).isSome || decide (l ∈ chain)
    | _ => false
def wait (wl : List Word) (p : Part) (chain : List Part) : Bool := match chain with
  | [] => false
  | a :: _ => decide (a = p) && chain.all (fun q => (uget (ups wl) q).isSome) && decide chain.Nodup && ((chain.zip chain.tail).all fun q => decide (uget (ups wl) q.1 = some (some q.2))) && lastOf (ups wl) chain
def iP (p : Part) : List Int := [p.1, p.2]
theorem iP_inj {p q : Part} (h : iP p = iP q) : p = q := by
  obtain ⟨a, b⟩ := p
  obtain ⟨c, d⟩ := q
  simp only [iP, List.cons.injEq] at h
  rw [h.1, h.2.1]
theorem dedup_le : ∀ xs : List (List Int), (dedupI xs).length ≤ xs.length
  | [] => Nat.le_refl _
  | x :: xs => by
    unfold dedupI
    have := dedup_le xs
    split
    · rw [List.length_cons]; omega
    · rw [List.length_cons, List.length_cons]; omega
theorem dedup_nodup : ∀ xs : List (List Int), (dedupI xs).length = xs.length ↔ xs.Nodup
  | [] => ⟨fun _ => List.nodup_nil, fun _ => rfl⟩
  | x :: xs => by
    have ih := dedup_nodup xs
    have le := dedup_le xs
    unfold dedupI
    rw [List.nodup_cons]
    split
    · rename_i h
      refine ⟨fun q => ?_, fun q => absurd (mem_dedupI.mp h) q.1⟩
      rw [List.length_cons] at q
      omega
    · rename_i h
      rw [List.length_cons, List.length_cons]
      exact ⟨fun q => ⟨fun z => h (mem_dedupI.mpr z), ih.mp (by omega)⟩, fun q => by rw [ih.mpr q.2]⟩
theorem nodup_iP {xs : List Part} : (xs.map iP).Nodup ↔ xs.Nodup := by
  induction xs with
  | nil => exact ⟨fun _ => List.nodup_nil, fun _ => List.nodup_nil⟩
  | cons x xs ih =>
    rw [List.map_cons, List.nodup_cons, List.nodup_cons, ih]
    refine and_congr_left fun _ => not_congr ⟨fun h => ?_, fun h => List.mem_map_of_mem h⟩
    obtain ⟨y, hy, e⟩ := List.mem_map.mp h
    rw [← iP_inj e]
    exact hy
theorem dedup_lt (xs : List Part) : decide ((((dedupI (xs.map iP)).length : Nat) : Int) < ((xs.length : Nat) : Int)) = !decide xs.Nodup := by
  have h1 := dedup_le (xs.map iP)
  have h2 := dedup_nodup (xs.map iP)
  rw [List.length_map] at h1 h2
  by_cases h : xs.Nodup
  · have := h2.mpr (nodup_iP.mpr h)
    rw [decide_eq_true h, decide_eq_false (by omega)]
    rfl
  · have : ¬ (dedupI (xs.map iP)).length = xs.length := fun z => h (nodup_iP.mp (h2.mp z))
    rw [decide_eq_false h, decide_eq_true (by omega)]
    rfl
theorem sp8 {n : Nat} {S : Store} {m w l : Nat} {wl : List Word} {p : Part} {chain : List Part} (hm : S[m]? = some (.ins 3 [("chain", .loc l)])) (hw : HasL S w dW wl) (h : HasL S l dP chain) (hcw : wl.length < cap) (hc : chain.length < 64) {Q : D → Store → Prop} (q : ∀ S', Le S S' → Q (.bl (wait wl p chain)) S') : wp (run G (n + 2) 8 [.loc m, .loc w, dP p] S) Q := by
  have hcc : chain.length < cap := Nat.lt_trans hc (by decide)
  refine (wp_run (fn := ⟨3, 7, b8⟩) rfl rfl).mpr ?_
  show ws (execs G (run G (n + 1)) b8 [some (.loc m), some (.loc w), some (dP p), none, none, none, none] S) _
  unfold b8
  simp only [ws_cons, ws_nil, ws_ite, s_ret, s_expr, s_asg, s_par, s_pass, s_aug, s_setFld, s_setSub, s_for, e_prim, e_cons, e_nil, e_var, e_cst, e_glb, e_tup, e_lst, e_dnew, e_and, e_or, e_not, e_ifx, e_call, e_fld, e_meth, e_lm, e_sl2, e_slL, e_slH, p_addI, p_addT, p_addL, p_sub, p_mulI, p_mulL, p_mod, p_fdiv, p_pow, p_neg, p_eq, p_ne, p_lt, p_le, p_gt, p_ge, p_in, p_notin, p_isN, p_notN, p_isB, p_notB, p_item, p_rev, p_lenT, p_lenL, p_lenset, p_sorted, p_dict1, p_listT, p_isBoolB, sl_tup, ret_rt, bind_name, bindPar_ok, List.getElem?_cons_zero, List.getElem?_cons_succ, List.length_cons, List.length_nil, List.set_cons_zero, List.set_cons_succ, Option.some.injEq, D.int.injEq, D.bl.injEq, D.loc.injEq, exists_eq_left', exists_eq_left, exists_eq_left2, exists_eq_left3, bindT_two, bindPar_end, wipeE, ofC_one, ofC_nil, itT0, itT1, itT2, itT3, deq_str, if_true, if_false, Bool.false_eq_true, true_and, and_true, Nat.zero_add]
  refine sp0 hw hcw fun S1 u le1 hu => ?_
  refine ⟨by decide, m, 3, _, .loc l, rfl, le1 _ _ hm, cls_three, lk_chain, Nat.zero_le _, ?_⟩
  rw [deq_LP ((h.le le1).le (Le.push S1 _)) push_nil]
  cases chain with
  | nil =>
    simp only [ws_cons, ws_nil, ws_ite, s_ret, s_expr, s_asg, s_par, s_pass, s_aug, s_setFld, s_setSub, s_for, e_prim, e_cons, e_nil, e_var, e_cst, e_glb, e_tup, e_lst, e_dnew, e_and, e_or, e_not, e_ifx, e_call, e_fld, e_meth, e_lm, e_sl2, e_slL, e_slH, p_addI, p_addT, p_addL, p_sub, p_mulI, p_mulL, p_mod, p_fdiv, p_pow, p_neg, p_eq, p_ne, p_lt, p_le, p_gt, p_ge, p_in, p_notin, p_isN, p_notN, p_isB, p_notB, p_item, p_rev, p_lenT, p_lenL, p_lenset, p_sorted, p_dict1, p_listT, p_isBoolB, sl_tup, ret_rt, bind_name, bindPar_ok, List.getElem?_cons_zero, List.getElem?_cons_succ, List.length_cons, List.length_nil, List.set_cons_zero, List.set_cons_succ, Option.some.injEq, D.int.injEq, D.bl.injEq, D.loc.injEq, exists_eq_left', exists_eq_left, exists_eq_left2, exists_eq_left3, bindT_two, bindPar_end, wipeE, ofC_one, ofC_nil, itT0, itT1, itT2, itT3, deq_str, if_true, if_false, Bool.false_eq_true, true_and, and_true, Nat.zero_add, decide_true]
    exact q _ (le1.trans (Le.push _ _))
  | cons a r =>
    simp only [ws_cons, ws_nil, ws_ite, s_ret, s_expr, s_asg, s_par, s_pass, s_aug, s_setFld, s_setSub, s_for, e_prim, e_cons, e_nil, e_var, e_cst, e_glb, e_tup, e_lst, e_dnew, e_and, e_or, e_not, e_ifx, e_call, e_fld, e_meth, e_lm, e_sl2, e_slL, e_slH, p_addI, p_addT, p_addL, p_sub, p_mulI, p_mulL, p_mod, p_fdiv, p_pow, p_neg, p_eq, p_ne, p_lt, p_le, p_gt, p_ge, p_in, p_notin, p_isN, p_notN, p_isB, p_notB, p_item, p_rev, p_lenT, p_lenL, p_lenset, p_sorted, p_dict1, p_listT, p_isBoolB, sl_tup, ret_rt, bind_name, bindPar_ok, List.getElem?_cons_zero, List.getElem?_cons_succ, List.length_cons, List.length_nil, List.set_cons_zero, List.set_cons_succ, Option.some.injEq, D.int.injEq, D.bl.injEq, D.loc.injEq, exists_eq_left', exists_eq_left, exists_eq_left2, exists_eq_left3, bindT_two, bindPar_end, wipeE, ofC_one, ofC_nil, itT0, itT1, itT2, itT3, deq_str, if_true, if_false, Bool.false_eq_true, true_and, and_true, Nat.zero_add, reduceCtorEq, decide_false]
    have le2 : Le S (S1 ++ [.list []]) := le1.trans (Le.push _ _)
    have lu : Le S1 (S1 ++ [.list []]) := Le.push _ _
    unfold wait at q
    refine ⟨m, 3, _, .loc l, rfl, le2 _ _ hm, cls_three, lk_chain, dP a, it_list (n := 0) (h.le le2) rfl, decide (a = p), deq_P, ?_⟩
    by_cases hap : a = p
    · subst hap
      simp only [decide_true, Bool.not_true, ws_cons, ws_nil, ws_ite, s_ret, s_expr, s_asg, s_par, s_pass, s_aug, s_setFld, s_setSub, s_for, e_prim, e_cons, e_nil, e_var, e_cst, e_glb, e_tup, e_lst, e_dnew, e_and, e_or, e_not, e_ifx, e_call, e_fld, e_meth, e_lm, e_sl2, e_slL, e_slH, p_addI, p_addT, p_addL, p_sub, p_mulI, p_mulL, p_mod, p_fdiv, p_pow, p_neg, p_eq, p_ne, p_lt, p_le, p_gt, p_ge, p_in, p_notin, p_isN, p_notN, p_isB, p_notB, p_item, p_rev, p_lenT, p_lenL, p_lenset, p_sorted, p_dict1, p_listT, p_isBoolB, sl_tup, ret_rt, bind_name, bindPar_ok, List.getElem?_cons_zero, List.getElem?_cons_succ, List.length_cons, List.length_nil, List.set_cons_zero, List.set_cons_succ, Option.some.injEq, D.int.injEq, D.bl.injEq, D.loc.injEq, exists_eq_left', exists_eq_left, exists_eq_left2, exists_eq_left3, bindT_two, bindPar_end, wipeE, ofC_one, ofC_nil, itT0, itT1, itT2, itT3, deq_str, if_true, if_false, Bool.false_eq_true, true_and, and_true, Nat.zero_add, Bool.true_and] at q ⊢
      refine e_mapL dP (fun b => .bl (uget (ups wl) b).isSome) ?_
      simp only [ws_cons, ws_nil, ws_ite, s_ret, s_expr, s_asg, s_par, s_pass, s_aug, s_setFld, s_setSub, s_for, e_prim, e_cons, e_nil, e_var, e_cst, e_glb, e_tup, e_lst, e_dnew, e_and, e_or, e_not, e_ifx, e_call, e_fld, e_meth, e_lm, e_sl2, e_slL, e_slH, p_addI, p_addT, p_addL, p_sub, p_mulI, p_mulL, p_mod, p_fdiv, p_pow, p_neg, p_eq, p_ne, p_lt, p_le, p_gt, p_ge, p_in, p_notin, p_isN, p_notN, p_isB, p_notB, p_item, p_rev, p_lenT, p_lenL, p_lenset, p_sorted, p_dict1, p_listT, p_isBoolB, sl_tup, ret_rt, bind_name, bindPar_ok, List.getElem?_cons_zero, List.getElem?_cons_succ, List.length_cons, List.length_nil, List.set_cons_zero, List.set_cons_succ, Option.some.injEq, D.int.injEq, D.bl.injEq, D.loc.injEq, exists_eq_left', exists_eq_left, exists_eq_left2, exists_eq_left3, bindT_two, bindPar_end, wipeE, ofC_one, ofC_nil, itT0, itT1, itT2, itT3, deq_str, if_true, if_false, Bool.false_eq_true, true_and, and_true, Nat.zero_add]
      refine ⟨m, 3, _, .loc l, rfl, le2 _ _ hm, cls_three, lk_chain, l, a :: r, rfl, h.le le2, hcc, fun b S4 hb hle => ?_, fun S2 le3 hL => ?_⟩
      · simp only [ws_cons, ws_nil, ws_ite, s_ret, s_expr, s_asg, s_par, s_pass, s_aug, s_setFld, s_setSub, s_for, e_prim, e_cons, e_nil, e_var, e_cst, e_glb, e_tup, e_lst, e_dnew, e_and, e_or, e_not, e_ifx, e_call, e_fld, e_meth, e_lm, e_sl2, e_slL, e_slH, p_addI, p_addT, p_addL, p_sub, p_mulI, p_mulL, p_mod, p_fdiv, p_pow, p_neg, p_eq, p_ne, p_lt, p_le, p_gt, p_ge, p_in, p_notin, p_isN, p_notN, p_isB, p_notB, p_item, p_rev, p_lenT, p_lenL, p_lenset, p_sorted, p_dict1, p_listT, p_isBoolB, sl_tup, ret_rt, bind_name, bindPar_ok, List.getElem?_cons_zero, List.getElem?_cons_succ, List.length_cons, List.length_nil, List.set_cons_zero, List.set_cons_succ, Option.some.injEq, D.int.injEq, D.bl.injEq, D.loc.injEq, exists_eq_left', exists_eq_left, exists_eq_left2, exists_eq_left3, bindT_two, bindPar_end, wipeE, ofC_one, ofC_nil, itT0, itT1, itT2, itT3, deq_str, if_true, if_false, Bool.false_eq_true, true_and, and_true, Nat.zero_add, in_U (hu.le (lu.trans hle))]
        exact ⟨by decide, Le.refl _⟩
      · have le4 := le2.trans le3
        simp only [p_all_map hL, ws_cons, ws_nil, ws_ite, s_ret, s_expr, s_asg, s_par, s_pass, s_aug, s_setFld, s_setSub, s_for, e_prim, e_cons, e_nil, e_var, e_cst, e_glb, e_tup, e_lst, e_dnew, e_and, e_or, e_not, e_ifx, e_call, e_fld, e_meth, e_lm, e_sl2, e_slL, e_slH, p_addI, p_addT, p_addL, p_sub, p_mulI, p_mulL, p_mod, p_fdiv, p_pow, p_neg, p_eq, p_ne, p_lt, p_le, p_gt, p_ge, p_in, p_notin, p_isN, p_notN, p_isB, p_notB, p_item, p_rev, p_lenT, p_lenL, p_lenset, p_sorted, p_dict1, p_listT, p_isBoolB, sl_tup, ret_rt, bind_name, bindPar_ok, List.getElem?_cons_zero, List.getElem?_cons_succ, List.length_cons, List.length_nil, List.set_cons_zero, List.set_cons_succ, Option.some.injEq, D.int.injEq, D.bl.injEq, D.loc.injEq, exists_eq_left', exists_eq_left, exists_eq_left2, exists_eq_left3, bindT_two, bindPar_end, wipeE, ofC_one, ofC_nil, itT0, itT1, itT2, itT3, deq_str, if_true, if_false, Bool.false_eq_true, true_and, and_true, Nat.zero_add]
        cases h2 : (a :: r).all fun q => (uget (ups wl) q).isSome with
        | false =>
          simp only [h2, Bool.not_false, ws_cons, ws_nil, ws_ite, s_ret, s_expr, s_asg, s_par, s_pass, s_aug, s_setFld, s_setSub, s_for, e_prim, e_cons, e_nil, e_var, e_cst, e_glb, e_tup, e_lst, e_dnew, e_and, e_or, e_not, e_ifx, e_call, e_fld, e_meth, e_lm, e_sl2, e_slL, e_slH, p_addI, p_addT, p_addL, p_sub, p_mulI, p_mulL, p_mod, p_fdiv, p_pow, p_neg, p_eq, p_ne, p_lt, p_le, p_gt, p_ge, p_in, p_notin, p_isN, p_notN, p_isB, p_notB, p_item, p_rev, p_lenT, p_lenL, p_lenset, p_sorted, p_dict1, p_listT, p_isBoolB, sl_tup, ret_rt, bind_name, bindPar_ok, List.getElem?_cons_zero, List.getElem?_cons_succ, List.length_cons, List.length_nil, List.set_cons_zero, List.set_cons_succ, Option.some.injEq, D.int.injEq, D.bl.injEq, D.loc.injEq, exists_eq_left', exists_eq_left, exists_eq_left2, exists_eq_left3, bindT_two, bindPar_end, wipeE, ofC_one, ofC_nil, itT0, itT1, itT2, itT3, deq_str, if_true, if_false, Bool.false_eq_true, true_and, and_true, Nat.zero_add, Bool.false_and] at q ⊢
          exact q _ le4
        | true =>
          simp only [h2, Bool.not_true, ws_cons, ws_nil, ws_ite, s_ret, s_expr, s_asg, s_par, s_pass, s_aug, s_setFld, s_setSub, s_for, e_prim, e_cons, e_nil, e_var, e_cst, e_glb, e_tup, e_lst, e_dnew, e_and, e_or, e_not, e_ifx, e_call, e_fld, e_meth, e_lm, e_sl2, e_slL, e_slH, p_addI, p_addT, p_addL, p_sub, p_mulI, p_mulL, p_mod, p_fdiv, p_pow, p_neg, p_eq, p_ne, p_lt, p_le, p_gt, p_ge, p_in, p_notin, p_isN, p_notN, p_isB, p_notB, p_item, p_rev, p_lenT, p_lenL, p_lenset, p_sorted, p_dict1, p_listT, p_isBoolB, sl_tup, ret_rt, bind_name, bindPar_ok, List.getElem?_cons_zero, List.getElem?_cons_succ, List.length_cons, List.length_nil, List.set_cons_zero, List.set_cons_succ, Option.some.injEq, D.int.injEq, D.bl.injEq, D.loc.injEq, exists_eq_left', exists_eq_left, exists_eq_left2, exists_eq_left3, bindT_two, bindPar_end, wipeE, ofC_one, ofC_nil, itT0, itT1, itT2, itT3, deq_str, if_true, if_false, Bool.false_eq_true, true_and, and_true, Nat.zero_add, Bool.true_and] at q ⊢
          refine ⟨m, 3, _, .loc l, rfl, le4 _ _ hm, cls_three, lk_chain, (a :: r).map dP, li_list (h.le le4), (a :: r).map iP, mapO_map (g := dP) (h := iP) (fun q => rfl) _, by rw [List.length_map]; exact hc, m, 3, _, .loc l, rfl, le4 _ _ hm, cls_three, lk_chain, ?_⟩
          refine p_lenL.mpr ⟨_, li_list (h.le le4), p_lt.mpr ?_⟩
          rw [List.length_map, dedup_lt]
          refine ⟨_, rfl, ?_⟩
          cases hnd : decide (a :: r).Nodup with
          | false =>
            simp only [hnd, Bool.not_false, ws_cons, ws_nil, ws_ite, s_ret, s_expr, s_asg, s_par, s_pass, s_aug, s_setFld, s_setSub, s_for, e_prim, e_cons, e_nil, e_var, e_cst, e_glb, e_tup, e_lst, e_dnew, e_and, e_or, e_not, e_ifx, e_call, e_fld, e_meth, e_lm, e_sl2, e_slL, e_slH, p_addI, p_addT, p_addL, p_sub, p_mulI, p_mulL, p_mod, p_fdiv, p_pow, p_neg, p_eq, p_ne, p_lt, p_le, p_gt, p_ge, p_in, p_notin, p_isN, p_notN, p_isB, p_notB, p_item, p_rev, p_lenT, p_lenL, p_lenset, p_sorted, p_dict1, p_listT, p_isBoolB, sl_tup, ret_rt, bind_name, bindPar_ok, List.getElem?_cons_zero, List.getElem?_cons_succ, List.length_cons, List.length_nil, List.set_cons_zero, List.set_cons_succ, Option.some.injEq, D.int.injEq, D.bl.injEq, D.loc.injEq, exists_eq_left', exists_eq_left, exists_eq_left2, exists_eq_left3, bindT_two, bindPar_end, wipeE, ofC_one, ofC_nil, itT0, itT1, itT2, itT3, deq_str, if_true, if_false, Bool.false_eq_true, true_and, and_true, Nat.zero_add, Bool.false_and] at q ⊢
            exact q _ le4
          | true =>
            simp only [hnd, Bool.not_true, ws_cons, ws_nil, ws_ite, s_ret, s_expr, s_asg, s_par, s_pass, s_aug, s_setFld, s_setSub, s_for, e_prim, e_cons, e_nil, e_var, e_cst, e_glb, e_tup, e_lst, e_dnew, e_and, e_or, e_not, e_ifx, e_call, e_fld, e_meth, e_lm, e_sl2, e_slL, e_slH, p_addI, p_addT, p_addL, p_sub, p_mulI, p_mulL, p_mod, p_fdiv, p_pow, p_neg, p_eq, p_ne, p_lt, p_le, p_gt, p_ge, p_in, p_notin, p_isN, p_notN, p_isB, p_notB, p_item, p_rev, p_lenT, p_lenL, p_lenset, p_sorted, p_dict1, p_listT, p_isBoolB, sl_tup, ret_rt, bind_name, bindPar_ok, List.getElem?_cons_zero, List.getElem?_cons_succ, List.length_cons, List.length_nil, List.set_cons_zero, List.set_cons_succ, Option.some.injEq, D.int.injEq, D.bl.injEq, D.loc.injEq, exists_eq_left', exists_eq_left, exists_eq_left2, exists_eq_left3, bindT_two, bindPar_end, wipeE, ofC_one, ofC_nil, itT0, itT1, itT2, itT3, deq_str, if_true, if_false, Bool.false_eq_true, true_and, and_true, Nat.zero_add, Bool.true_and] at q ⊢
            refine e_mapZ dP dP (fun b => .bl (decide (uget (ups wl) b.1 = some (some b.2)))) ?_
            simp only [ws_cons, ws_nil, ws_ite, s_ret, s_expr, s_asg, s_par, s_pass, s_aug, s_setFld, s_setSub, s_for, e_prim, e_cons, e_nil, e_var, e_cst, e_glb, e_tup, e_lst, e_dnew, e_and, e_or, e_not, e_ifx, e_call, e_fld, e_meth, e_lm, e_sl2, e_slL, e_slH, p_addI, p_addT, p_addL, p_sub, p_mulI, p_mulL, p_mod, p_fdiv, p_pow, p_neg, p_eq, p_ne, p_lt, p_le, p_gt, p_ge, p_in, p_notin, p_isN, p_notN, p_isB, p_notB, p_item, p_rev, p_lenT, p_lenL, p_lenset, p_sorted, p_dict1, p_listT, p_isBoolB, sl_tup, ret_rt, bind_name, bindPar_ok, List.getElem?_cons_zero, List.getElem?_cons_succ, List.length_cons, List.length_nil, List.set_cons_zero, List.set_cons_succ, Option.some.injEq, D.int.injEq, D.bl.injEq, D.loc.injEq, exists_eq_left', exists_eq_left, exists_eq_left2, exists_eq_left3, bindT_two, bindPar_end, wipeE, ofC_one, ofC_nil, itT0, itT1, itT2, itT3, deq_str, if_true, if_false, Bool.false_eq_true, true_and, and_true, Nat.zero_add]
            refine ⟨m, 3, _, .loc l, rfl, le4 _ _ hm, cls_three, lk_chain, m, 3, _, .loc l, rfl, le4 _ _ hm, cls_three, lk_chain, ?_⟩
            rw [sl_list (h.le le4)]
            have le5 : Le S2 (S2 ++ [.list (cut ((a :: r).map dP) (some 1) none)]) := Le.push _ _
            have le6 := le4.trans le5
            refine ⟨l, S2.length, a :: r, r, rfl, h.le le6, ?_, hcc, fun b S4 hb hle => ?_, fun S4 le7 hL2 => ?_⟩
            · unfold HasL
              rw [get_push, show (some (1 : Int)) = some ((1 : Nat) : Int) from rfl, cut_drop]
              rfl
            · obtain ⟨b1, b2⟩ := b
              have hm1 : b1 ∈ a :: r := (List.of_mem_zip hb).1
              obtain ⟨w1, hw2⟩ := Option.isSome_iff_exists.mp (List.all_eq_true.mp h2 b1 hm1)
              simp only [ws_cons, ws_nil, ws_ite, s_ret, s_expr, s_asg, s_par, s_pass, s_aug, s_setFld, s_setSub, s_for, e_prim, e_cons, e_nil, e_var, e_cst, e_glb, e_tup, e_lst, e_dnew, e_and, e_or, e_not, e_ifx, e_call, e_fld, e_meth, e_lm, e_sl2, e_slL, e_slH, p_addI, p_addT, p_addL, p_sub, p_mulI, p_mulL, p_mod, p_fdiv, p_pow, p_neg, p_eq, p_ne, p_lt, p_le, p_gt, p_ge, p_in, p_notin, p_isN, p_notN, p_isB, p_notB, p_item, p_rev, p_lenT, p_lenL, p_lenset, p_sorted, p_dict1, p_listT, p_isBoolB, sl_tup, ret_rt, bind_name, bindPar_ok, List.getElem?_cons_zero, List.getElem?_cons_succ, List.length_cons, List.length_nil, List.set_cons_zero, List.set_cons_succ, Option.some.injEq, D.int.injEq, D.bl.injEq, D.loc.injEq, exists_eq_left', exists_eq_left, exists_eq_left2, exists_eq_left3, bindT_two, bindPar_end, wipeE, ofC_one, ofC_nil, itT0, itT1, itT2, itT3, deq_str, if_true, if_false, Bool.false_eq_true, true_and, and_true, Nat.zero_add, item_U (hu.le (((lu.trans le3).trans le5).trans hle)) hw2, deq_UP, hw2]
              exact ⟨by decide, by decide, Le.refl _⟩
            · have le8 := le6.trans le7
              have lu8 := ((lu.trans le3).trans le5).trans le7
              simp only [p_all_map hL2, ws_cons, ws_nil, ws_ite, s_ret, s_expr, s_asg, s_par, s_pass, s_aug, s_setFld, s_setSub, s_for, e_prim, e_cons, e_nil, e_var, e_cst, e_glb, e_tup, e_lst, e_dnew, e_and, e_or, e_not, e_ifx, e_call, e_fld, e_meth, e_lm, e_sl2, e_slL, e_slH, p_addI, p_addT, p_addL, p_sub, p_mulI, p_mulL, p_mod, p_fdiv, p_pow, p_neg, p_eq, p_ne, p_lt, p_le, p_gt, p_ge, p_in, p_notin, p_isN, p_notN, p_isB, p_notB, p_item, p_rev, p_lenT, p_lenL, p_lenset, p_sorted, p_dict1, p_listT, p_isBoolB, sl_tup, ret_rt, bind_name, bindPar_ok, List.getElem?_cons_zero, List.getElem?_cons_succ, List.length_cons, List.length_nil, List.set_cons_zero, List.set_cons_succ, Option.some.injEq, D.int.injEq, D.bl.injEq, D.loc.injEq, exists_eq_left', exists_eq_left, exists_eq_left2, exists_eq_left3, bindT_two, bindPar_end, wipeE, ofC_one, ofC_nil, itT0, itT1, itT2, itT3, deq_str, if_true, if_false, Bool.false_eq_true, true_and, and_true, Nat.zero_add]
              cases h3 : ((a :: r).zip r).all fun q => decide (uget (ups wl) q.1 = some (some q.2)) with
              | false =>
                have h3' : (((a :: r).zip (a :: r).tail).all fun q => decide (uget (ups wl) q.1 = some (some q.2))) = false := h3
                simp only [h3', Bool.not_false, ws_cons, ws_nil, ws_ite, s_ret, s_expr, s_asg, s_par, s_pass, s_aug, s_setFld, s_setSub, s_for, e_prim, e_cons, e_nil, e_var, e_cst, e_glb, e_tup, e_lst, e_dnew, e_and, e_or, e_not, e_ifx, e_call, e_fld, e_meth, e_lm, e_sl2, e_slL, e_slH, p_addI, p_addT, p_addL, p_sub, p_mulI, p_mulL, p_mod, p_fdiv, p_pow, p_neg, p_eq, p_ne, p_lt, p_le, p_gt, p_ge, p_in, p_notin, p_isN, p_notN, p_isB, p_notB, p_item, p_rev, p_lenT, p_lenL, p_lenset, p_sorted, p_dict1, p_listT, p_isBoolB, sl_tup, ret_rt, bind_name, bindPar_ok, List.getElem?_cons_zero, List.getElem?_cons_succ, List.length_cons, List.length_nil, List.set_cons_zero, List.set_cons_succ, Option.some.injEq, D.int.injEq, D.bl.injEq, D.loc.injEq, exists_eq_left', exists_eq_left, exists_eq_left2, exists_eq_left3, bindT_two, bindPar_end, wipeE, ofC_one, ofC_nil, itT0, itT1, itT2, itT3, deq_str, if_true, if_false, Bool.false_eq_true, true_and, and_true, Nat.zero_add, Bool.false_and] at q ⊢
                exact q _ le8
              | true =>
                have h3' : (((a :: r).zip (a :: r).tail).all fun q => decide (uget (ups wl) q.1 = some (some q.2))) = true := h3
                simp only [h3', Bool.not_true, ws_cons, ws_nil, ws_ite, s_ret, s_expr, s_asg, s_par, s_pass, s_aug, s_setFld, s_setSub, s_for, e_prim, e_cons, e_nil, e_var, e_cst, e_glb, e_tup, e_lst, e_dnew, e_and, e_or, e_not, e_ifx, e_call, e_fld, e_meth, e_lm, e_sl2, e_slL, e_slH, p_addI, p_addT, p_addL, p_sub, p_mulI, p_mulL, p_mod, p_fdiv, p_pow, p_neg, p_eq, p_ne, p_lt, p_le, p_gt, p_ge, p_in, p_notin, p_isN, p_notN, p_isB, p_notB, p_item, p_rev, p_lenT, p_lenL, p_lenset, p_sorted, p_dict1, p_listT, p_isBoolB, sl_tup, ret_rt, bind_name, bindPar_ok, List.getElem?_cons_zero, List.getElem?_cons_succ, List.length_cons, List.length_nil, List.set_cons_zero, List.set_cons_succ, Option.some.injEq, D.int.injEq, D.bl.injEq, D.loc.injEq, exists_eq_left', exists_eq_left, exists_eq_left2, exists_eq_left3, bindT_two, bindPar_end, wipeE, ofC_one, ofC_nil, itT0, itT1, itT2, itT3, deq_str, if_true, if_false, Bool.false_eq_true, true_and, and_true, Nat.zero_add, Bool.true_and] at q ⊢
                obtain ⟨z, hz⟩ : ∃ z, (a :: r).getLast? = some z := ⟨_, List.getLast?_eq_some_getLast (by simp)⟩
                obtain ⟨v, hv⟩ := Option.isSome_iff_exists.mp (List.all_eq_true.mp h2 z (List.mem_of_getLast? hz))
                unfold lastOf at q
                simp only [hz, hv] at q
                refine ⟨m, 3, _, .loc l, rfl, le8 _ _ hm, cls_three, lk_chain, dP z, it_last (h.le le8) (by rw [List.getLast?_map, hz]; rfl), dU v, item_U (hu.le lu8) hv, by decide, ?_⟩
                cases v with
                | none =>
                  simp only [isNon_dU, decide_true, Bool.not_true, ws_cons, ws_nil, ws_ite, s_ret, s_expr, s_asg, s_par, s_pass, s_aug, s_setFld, s_setSub, s_for, e_prim, e_cons, e_nil, e_var, e_cst, e_glb, e_tup, e_lst, e_dnew, e_and, e_or, e_not, e_ifx, e_call, e_fld, e_meth, e_lm, e_sl2, e_slL, e_slH, p_addI, p_addT, p_addL, p_sub, p_mulI, p_mulL, p_mod, p_fdiv, p_pow, p_neg, p_eq, p_ne, p_lt, p_le, p_gt, p_ge, p_in, p_notin, p_isN, p_notN, p_isB, p_notB, p_item, p_rev, p_lenT, p_lenL, p_lenset, p_sorted, p_dict1, p_listT, p_isBoolB, sl_tup, ret_rt, bind_name, bindPar_ok, List.getElem?_cons_zero, List.getElem?_cons_succ, List.length_cons, List.length_nil, List.set_cons_zero, List.set_cons_succ, Option.some.injEq, D.int.injEq, D.bl.injEq, D.loc.injEq, exists_eq_left', exists_eq_left, exists_eq_left2, exists_eq_left3, bindT_two, bindPar_end, wipeE, ofC_one, ofC_nil, itT0, itT1, itT2, itT3, deq_str, if_true, if_false, Bool.false_eq_true, true_and, and_true, Nat.zero_add] at q ⊢
                  exact q _ le8
                | some g =>
                  simp only [isNon_dU, reduceCtorEq, decide_false, Bool.not_false, ws_cons, ws_nil, ws_ite, s_ret, s_expr, s_asg, s_par, s_pass, s_aug, s_setFld, s_setSub, s_for, e_prim, e_cons, e_nil, e_var, e_cst, e_glb, e_tup, e_lst, e_dnew, e_and, e_or, e_not, e_ifx, e_call, e_fld, e_meth, e_lm, e_sl2, e_slL, e_slH, p_addI, p_addT, p_addL, p_sub, p_mulI, p_mulL, p_mod, p_fdiv, p_pow, p_neg, p_eq, p_ne, p_lt, p_le, p_gt, p_ge, p_in, p_notin, p_isN, p_notN, p_isB, p_notB, p_item, p_rev, p_lenT, p_lenL, p_lenset, p_sorted, p_dict1, p_listT, p_isBoolB, sl_tup, ret_rt, bind_name, bindPar_ok, List.getElem?_cons_zero, List.getElem?_cons_succ, List.length_cons, List.length_nil, List.set_cons_zero, List.set_cons_succ, Option.some.injEq, D.int.injEq, D.bl.injEq, D.loc.injEq, exists_eq_left', exists_eq_left, exists_eq_left2, exists_eq_left3, bindT_two, bindPar_end, wipeE, ofC_one, ofC_nil, itT0, itT1, itT2, itT3, deq_str, if_true, if_false, Bool.false_eq_true, true_and, and_true, Nat.zero_add] at q ⊢
                  have hin := in_U (hu.le lu8) g
                  refine ⟨_, hin, ?_⟩
                  cases hg : (uget (ups wl) g).isSome with
                  | false =>
                    simp only [hg, Bool.not_false, Bool.true_or, ws_cons, ws_nil, ws_ite, s_ret, s_expr, s_asg, s_par, s_pass, s_aug, s_setFld, s_setSub, s_for, e_prim, e_cons, e_nil, e_var, e_cst, e_glb, e_tup, e_lst, e_dnew, e_and, e_or, e_not, e_ifx, e_call, e_fld, e_meth, e_lm, e_sl2, e_slL, e_slH, p_addI, p_addT, p_addL, p_sub, p_mulI, p_mulL, p_mod, p_fdiv, p_pow, p_neg, p_eq, p_ne, p_lt, p_le, p_gt, p_ge, p_in, p_notin, p_isN, p_notN, p_isB, p_notB, p_item, p_rev, p_lenT, p_lenL, p_lenset, p_sorted, p_dict1, p_listT, p_isBoolB, sl_tup, ret_rt, bind_name, bindPar_ok, List.getElem?_cons_zero, List.getElem?_cons_succ, List.length_cons, List.length_nil, List.set_cons_zero, List.set_cons_succ, Option.some.injEq, D.int.injEq, D.bl.injEq, D.loc.injEq, exists_eq_left', exists_eq_left, exists_eq_left2, exists_eq_left3, bindT_two, bindPar_end, wipeE, ofC_one, ofC_nil, itT0, itT1, itT2, itT3, deq_str, if_true, if_false, Bool.false_eq_true, true_and, and_true, Nat.zero_add] at q ⊢
                    exact q _ le8
                  | true =>
                    simp only [hg, Bool.not_true, Bool.false_or, ws_cons, ws_nil, ws_ite, s_ret, s_expr, s_asg, s_par, s_pass, s_aug, s_setFld, s_setSub, s_for, e_prim, e_cons, e_nil, e_var, e_cst, e_glb, e_tup, e_lst, e_dnew, e_and, e_or, e_not, e_ifx, e_call, e_fld, e_meth, e_lm, e_sl2, e_slL, e_slH, p_addI, p_addT, p_addL, p_sub, p_mulI, p_mulL, p_mod, p_fdiv, p_pow, p_neg, p_eq, p_ne, p_lt, p_le, p_gt, p_ge, p_in, p_notin, p_isN, p_notN, p_isB, p_notB, p_item, p_rev, p_lenT, p_lenL, p_lenset, p_sorted, p_dict1, p_listT, p_isBoolB, sl_tup, ret_rt, bind_name, bindPar_ok, List.getElem?_cons_zero, List.getElem?_cons_succ, List.length_cons, List.length_nil, List.set_cons_zero, List.set_cons_succ, Option.some.injEq, D.int.injEq, D.bl.injEq, D.loc.injEq, exists_eq_left', exists_eq_left, exists_eq_left2, exists_eq_left3, bindT_two, bindPar_end, wipeE, ofC_one, ofC_nil, itT0, itT1, itT2, itT3, deq_str, if_true, if_false, Bool.false_eq_true, true_and, and_true, Nat.zero_add] at q ⊢
                    exact ⟨m, 3, _, .loc l, rfl, le8 _ _ hm, cls_three, lk_chain, _, in_LP (h.le le8) g, q _ le8⟩
    · simp only [hap, decide_false, Bool.not_false, ws_cons, ws_nil, ws_ite, s_ret, s_expr, s_asg, s_par, s_pass, s_aug, s_setFld, s_setSub, s_for, e_prim, e_cons, e_nil, e_var, e_cst, e_glb, e_tup, e_lst, e_dnew, e_and, e_or, e_not, e_ifx, e_call, e_fld, e_meth, e_lm, e_sl2, e_slL, e_slH, p_addI, p_addT, p_addL, p_sub, p_mulI, p_mulL, p_mod, p_fdiv, p_pow, p_neg, p_eq, p_ne, p_lt, p_le, p_gt, p_ge, p_in, p_notin, p_isN, p_notN, p_isB, p_notB, p_item, p_rev, p_lenT, p_lenL, p_lenset, p_sorted, p_dict1, p_listT, p_isBoolB, sl_tup, ret_rt, bind_name, bindPar_ok, List.getElem?_cons_zero, List.getElem?_cons_succ, List.length_cons, List.length_nil, List.set_cons_zero, List.set_cons_succ, Option.some.injEq, D.int.injEq, D.bl.injEq, D.loc.injEq, exists_eq_left', exists_eq_left, exists_eq_left2, exists_eq_left3, bindT_two, bindPar_end, wipeE, ofC_one, ofC_nil, itT0, itT1, itT2, itT3, deq_str, if_true, if_false, Bool.false_eq_true, true_and, and_true, Nat.zero_add, Bool.false_and] at q ⊢
      exact q _ le2
end MI.Law

namespace MI.Law
open PySem MI
def pairOf : Word → Option (Part × Option Part)
  | .part p v => some (p, v)
  | .out _ => none
theorem ups_pairs (wl : List Word) : ∀ kvs : Ups, wl.foldl stepU kvs = (wl.filterMap pairOf).foldl (fun u q => uput u q.1 q.2) kvs := by
  induction wl with
  | nil => intro kvs; rfl
  | cons w wl ih =>
    intro kvs
    rw [List.foldl_cons, ih]
    cases w <;> rfl
theorem dputs_kv (ps : Ups) : ∀ u : Ups, dputs (dKv u) (ps.map fun q => (kP q.1, dU q.2)) = dKv (ps.foldl (fun u q => uput u q.1 q.2) u) := by
  induction ps with
  | nil => intro u; rfl
  | cons q ps ih =>
    intro u
    show dputs (dput (dKv u) (kP q.1) (dU q.2)) (ps.map fun q => (kP q.1, dU q.2)) = _
    rw [dput_kv, ih]
    rfl
theorem sp13 {n : Nat} {S : Store} {l : Nat} {wl : List Word} (h : HasL S l dW wl) (hc : wl.length < cap) {Q : D → Store → Prop} (q : ∀ S' m, Le S S' → HasU S' m (ups wl) → Q (.loc m) S') : wp (run G (n + 1) 13 [.loc l] S) Q := by
  refine (wp_run (fn := ⟨1, 2, b13⟩) rfl rfl).mpr ?_
  show ws (execs G (run G n) b13 [some (.loc l), none] S) _
  unfold b13
  simp only [ws_cons, ws_nil, ws_ite, s_ret, s_expr, s_asg, s_par, s_pass, s_aug, s_setFld, s_setSub, s_for, e_prim, e_cons, e_nil, e_var, e_cst, e_glb, e_tup, e_lst, e_dnew, e_and, e_or, e_not, e_ifx, e_call, e_fld, e_meth, e_lm, e_sl2, e_slL, e_slH, p_addI, p_addT, p_addL, p_sub, p_mulI, p_mulL, p_mod, p_fdiv, p_pow, p_neg, p_eq, p_ne, p_lt, p_le, p_gt, p_ge, p_in, p_notin, p_isN, p_notN, p_isB, p_notB, p_item, p_rev, p_lenT, p_lenL, p_lenset, p_sorted, p_dict1, p_listT, p_isBoolB, sl_tup, ret_rt, bind_name, bindPar_ok, List.getElem?_cons_zero, List.getElem?_cons_succ, List.length_cons, List.length_nil, List.set_cons_zero, List.set_cons_succ, Option.some.injEq, D.int.injEq, D.bl.injEq, D.loc.injEq, exists_eq_left', exists_eq_left, exists_eq_left2, exists_eq_left3, bindT_two, bindPar_end, wipeE, ofC_one, ofC_nil, itT0, itT1, itT2, itT3, deq_str, if_true, if_false, Bool.false_eq_true, true_and, and_true, Nat.zero_add]
  refine e_comp (A := Word) ?_
  simp only [ws_cons, ws_nil, ws_ite, s_ret, s_expr, s_asg, s_par, s_pass, s_aug, s_setFld, s_setSub, s_for, e_prim, e_cons, e_nil, e_var, e_cst, e_glb, e_tup, e_lst, e_dnew, e_and, e_or, e_not, e_ifx, e_call, e_fld, e_meth, e_lm, e_sl2, e_slL, e_slH, p_addI, p_addT, p_addL, p_sub, p_mulI, p_mulL, p_mod, p_fdiv, p_pow, p_neg, p_eq, p_ne, p_lt, p_le, p_gt, p_ge, p_in, p_notin, p_isN, p_notN, p_isB, p_notB, p_item, p_rev, p_lenT, p_lenL, p_lenset, p_sorted, p_dict1, p_listT, p_isBoolB, sl_tup, ret_rt, bind_name, bindPar_ok, List.getElem?_cons_zero, List.getElem?_cons_succ, List.length_cons, List.length_nil, List.set_cons_zero, List.set_cons_succ, Option.some.injEq, D.int.injEq, D.bl.injEq, D.loc.injEq, exists_eq_left', exists_eq_left, exists_eq_left2, exists_eq_left3, bindT_two, bindPar_end, wipeE, ofC_one, ofC_nil, itT0, itT1, itT2, itT3, deq_str, if_true, if_false, Bool.false_eq_true, true_and, and_true, Nat.zero_add]
  refine ⟨.list l, wl.length, wl, dW, fun w => (pairOf w).map fun q => .tup [dP q.1, dU q.2], mk_list h, Nat.le_refl _, hc, fun S2 hle i => next_list (h.le hle), fun w S2 hw hle => ?_, fun S' hle hS => ?_⟩
  · simp only [ws_cons, ws_nil, ws_ite, s_ret, s_expr, s_asg, s_par, s_pass, s_aug, s_setFld, s_setSub, s_for, e_prim, e_cons, e_nil, e_var, e_cst, e_glb, e_tup, e_lst, e_dnew, e_and, e_or, e_not, e_ifx, e_call, e_fld, e_meth, e_lm, e_sl2, e_slL, e_slH, p_addI, p_addT, p_addL, p_sub, p_mulI, p_mulL, p_mod, p_fdiv, p_pow, p_neg, p_eq, p_ne, p_lt, p_le, p_gt, p_ge, p_in, p_notin, p_isN, p_notN, p_isB, p_notB, p_item, p_rev, p_lenT, p_lenL, p_lenset, p_sorted, p_dict1, p_listT, p_isBoolB, sl_tup, ret_rt, bind_name, bindPar_ok, List.getElem?_cons_zero, List.getElem?_cons_succ, List.length_cons, List.length_nil, List.set_cons_zero, List.set_cons_succ, Option.some.injEq, D.int.injEq, D.bl.injEq, D.loc.injEq, exists_eq_left', exists_eq_left, exists_eq_left2, exists_eq_left3, bindT_two, bindPar_end, wipeE, ofC_one, ofC_nil, itT0, itT1, itT2, itT3, deq_str, if_true, if_false, Bool.false_eq_true, true_and, and_true, Nat.zero_add]
    cases w with
    | out p =>
      simp only [dW, ws_cons, ws_nil, ws_ite, s_ret, s_expr, s_asg, s_par, s_pass, s_aug, s_setFld, s_setSub, s_for, e_prim, e_cons, e_nil, e_var, e_cst, e_glb, e_tup, e_lst, e_dnew, e_and, e_or, e_not, e_ifx, e_call, e_fld, e_meth, e_lm, e_sl2, e_slL, e_slH, p_addI, p_addT, p_addL, p_sub, p_mulI, p_mulL, p_mod, p_fdiv, p_pow, p_neg, p_eq, p_ne, p_lt, p_le, p_gt, p_ge, p_in, p_notin, p_isN, p_notN, p_isB, p_notB, p_item, p_rev, p_lenT, p_lenL, p_lenset, p_sorted, p_dict1, p_listT, p_isBoolB, sl_tup, ret_rt, bind_name, bindPar_ok, List.getElem?_cons_zero, List.getElem?_cons_succ, List.length_cons, List.length_nil, List.set_cons_zero, List.set_cons_succ, Option.some.injEq, D.int.injEq, D.bl.injEq, D.loc.injEq, exists_eq_left', exists_eq_left, exists_eq_left2, exists_eq_left3, bindT_two, bindPar_end, wipeE, ofC_one, ofC_nil, itT0, itT1, itT2, itT3, deq_str, if_true, if_false, Bool.false_eq_true, true_and, and_true, Nat.zero_add, op_]
      exact ⟨by decide, Le.refl _, rfl⟩
    | part p v =>
      simp only [dW, ws_cons, ws_nil, ws_ite, s_ret, s_expr, s_asg, s_par, s_pass, s_aug, s_setFld, s_setSub, s_for, e_prim, e_cons, e_nil, e_var, e_cst, e_glb, e_tup, e_lst, e_dnew, e_and, e_or, e_not, e_ifx, e_call, e_fld, e_meth, e_lm, e_sl2, e_slL, e_slH, p_addI, p_addT, p_addL, p_sub, p_mulI, p_mulL, p_mod, p_fdiv, p_pow, p_neg, p_eq, p_ne, p_lt, p_le, p_gt, p_ge, p_in, p_notin, p_isN, p_notN, p_isB, p_notB, p_item, p_rev, p_lenT, p_lenL, p_lenset, p_sorted, p_dict1, p_listT, p_isBoolB, sl_tup, ret_rt, bind_name, bindPar_ok, List.getElem?_cons_zero, List.getElem?_cons_succ, List.length_cons, List.length_nil, List.set_cons_zero, List.set_cons_succ, Option.some.injEq, D.int.injEq, D.bl.injEq, D.loc.injEq, exists_eq_left', exists_eq_left, exists_eq_left2, exists_eq_left3, bindT_two, bindPar_end, wipeE, ofC_one, ofC_nil, itT0, itT1, itT2, itT3, deq_str, if_true, if_false, Bool.false_eq_true, true_and, and_true, Nat.zero_add, pp_]
      exact ⟨by decide, Le.refl _, Nat.le_of_lt (by decide), Nat.le_of_lt (by decide), Le.refl _, rfl⟩
  · have e0 : wl.filterMap (fun w => (pairOf w).map fun q => D.tup [dP q.1, dU q.2]) = (wl.filterMap pairOf).map fun q => D.tup [dP q.1, dU q.2] := by rw [List.map_filterMap]
    refine ⟨_, li_list hS, (wl.filterMap pairOf).map fun q => (kP q.1, dU q.2), ?_, ?_, ?_⟩
    · rw [e0]
      exact mapO_map (g := fun q : Part × Option Part => D.tup [dP q.1, dU q.2]) (h := fun q => (kP q.1, dU q.2)) (fun q => rfl) _
    · rw [List.length_map]
      have := List.length_filterMap_le pairOf wl
      omega
    · refine q _ _ (hle.trans (Le.push _ _)) ⟨false, ?_⟩
      rw [get_push]
      have e1 := dputs_kv (wl.filterMap pairOf) []
      rw [show dKv [] = [] from rfl] at e1
      rw [e1]
      unfold ups
      rw [ups_pairs]
/-! ### the law's own way -/
theorem way_eq (u : Ups) (way : List Part) (a : Part) (r : List Part) (hw : way = a :: r) (h : way.all (fun q => (uget u q).isSome) = true) (f : Part → Option Part) (hf : ∀ q ∈ way, uget u q = some (f q)) :
    decide (way.map f = none :: way.dropLast.map some) = (decide (uget u a = some none) && (way.zip way.tail).all fun q => decide (uget u q.2 = some (some q.1))) := by
  subst hw
  have go : ∀ (r : List Part) (a : Part), (∀ q ∈ r, uget u q = some (f q)) → decide (r.map f = (a :: r).dropLast.map some) = ((a :: r).zip r).all fun q => decide (uget u q.2 = some (some q.1)) := by
    intro r
    induction r with
    | nil => intro a _; rfl
    | cons b r ih =>
      intro a hr
      have e1 : (a :: b :: r).dropLast = a :: (b :: r).dropLast := rfl
      rw [e1, List.map_cons, List.map_cons, List.zip_cons_cons, List.all_cons, ← ih b fun q hq => hr q (List.mem_cons_of_mem _ hq), hr b List.mem_cons_self, ← Bool.decide_and, decide_eq_decide]
      simp only [List.cons.injEq, Option.some.injEq]
  have g := go r a fun q hq => hf q (List.mem_cons_of_mem _ hq)
  show decide (f a :: r.map f = none :: (a :: r).dropLast.map some) = (decide (uget u a = some none) && ((a :: r).zip r).all fun q => decide (uget u q.2 = some (some q.1)))
  rw [← g, hf a List.mem_cons_self, ← Bool.decide_and, decide_eq_decide]
  simp only [List.cons.injEq, Option.some.injEq]
theorem any_not (u : Ups) (way : List Part) : (way.any fun q => !(uget u q).isSome) = !(way.all fun q => (uget u q).isSome) := by
  induction way with
  | nil => rfl
  | cons a r ih => rw [List.any_cons, List.all_cons, ih, Bool.not_and]
theorem sp16 {n : Nat} {S : Store} {w l : Nat} {wl : List Word} {way : List Part} {p : Part} (hw : HasL S w dW wl) (h : HasL S l dP way) (hcw : wl.length < cap) (hc : way.length < cap) {Q : D → Store → Prop} (q : ∀ S', Le S S' → Q (.bl (isWay (ups wl) p way)) S') : wp (run G (n + 2) 16 [.loc w, dP p, .loc l] S) Q := by
  refine (wp_run (fn := ⟨3, 5, b16⟩) rfl rfl).mpr ?_
  show ws (execs G (run G (n + 1)) b16 [some (.loc w), some (dP p), some (.loc l), none, none] S) _
  unfold b16
  simp only [ws_cons, ws_nil, ws_ite, s_ret, s_expr, s_asg, s_par, s_pass, s_aug, s_setFld, s_setSub, s_for, e_prim, e_cons, e_nil, e_var, e_cst, e_glb, e_tup, e_lst, e_dnew, e_and, e_or, e_not, e_ifx, e_call, e_fld, e_meth, e_lm, e_sl2, e_slL, e_slH, p_addI, p_addT, p_addL, p_sub, p_mulI, p_mulL, p_mod, p_fdiv, p_pow, p_neg, p_eq, p_ne, p_lt, p_le, p_gt, p_ge, p_in, p_notin, p_isN, p_notN, p_isB, p_notB, p_item, p_rev, p_lenT, p_lenL, p_lenset, p_sorted, p_dict1, p_listT, p_isBoolB, sl_tup, ret_rt, bind_name, bindPar_ok, List.getElem?_cons_zero, List.getElem?_cons_succ, List.length_cons, List.length_nil, List.set_cons_zero, List.set_cons_succ, Option.some.injEq, D.int.injEq, D.bl.injEq, D.loc.injEq, exists_eq_left', exists_eq_left, exists_eq_left2, exists_eq_left3, bindT_two, bindPar_end, wipeE, ofC_one, ofC_nil, itT0, itT1, itT2, itT3, deq_str, if_true, if_false, Bool.false_eq_true, true_and, and_true, Nat.zero_add]
  refine sp13 hw hcw fun S1 m le1 hu => ?_
  refine ⟨by decide, Nat.zero_le _, ?_⟩
  have le2 : Le S (S1 ++ [.list []]) := le1.trans (Le.push _ _)
  have lu : Le S1 (S1 ++ [.list []]) := Le.push _ _
  rw [deq_LP (h.le le2) push_nil]
  cases way with
  | nil =>
    simp only [ws_cons, ws_nil, ws_ite, s_ret, s_expr, s_asg, s_par, s_pass, s_aug, s_setFld, s_setSub, s_for, e_prim, e_cons, e_nil, e_var, e_cst, e_glb, e_tup, e_lst, e_dnew, e_and, e_or, e_not, e_ifx, e_call, e_fld, e_meth, e_lm, e_sl2, e_slL, e_slH, p_addI, p_addT, p_addL, p_sub, p_mulI, p_mulL, p_mod, p_fdiv, p_pow, p_neg, p_eq, p_ne, p_lt, p_le, p_gt, p_ge, p_in, p_notin, p_isN, p_notN, p_isB, p_notB, p_item, p_rev, p_lenT, p_lenL, p_lenset, p_sorted, p_dict1, p_listT, p_isBoolB, sl_tup, ret_rt, bind_name, bindPar_ok, List.getElem?_cons_zero, List.getElem?_cons_succ, List.length_cons, List.length_nil, List.set_cons_zero, List.set_cons_succ, Option.some.injEq, D.int.injEq, D.bl.injEq, D.loc.injEq, exists_eq_left', exists_eq_left, exists_eq_left2, exists_eq_left3, bindT_two, bindPar_end, wipeE, ofC_one, ofC_nil, itT0, itT1, itT2, itT3, deq_str, if_true, if_false, Bool.false_eq_true, true_and, and_true, Nat.zero_add, decide_true]
    exact q _ le2
  | cons a r =>
    simp only [ws_cons, ws_nil, ws_ite, s_ret, s_expr, s_asg, s_par, s_pass, s_aug, s_setFld, s_setSub, s_for, e_prim, e_cons, e_nil, e_var, e_cst, e_glb, e_tup, e_lst, e_dnew, e_and, e_or, e_not, e_ifx, e_call, e_fld, e_meth, e_lm, e_sl2, e_slL, e_slH, p_addI, p_addT, p_addL, p_sub, p_mulI, p_mulL, p_mod, p_fdiv, p_pow, p_neg, p_eq, p_ne, p_lt, p_le, p_gt, p_ge, p_in, p_notin, p_isN, p_notN, p_isB, p_notB, p_item, p_rev, p_lenT, p_lenL, p_lenset, p_sorted, p_dict1, p_listT, p_isBoolB, sl_tup, ret_rt, bind_name, bindPar_ok, List.getElem?_cons_zero, List.getElem?_cons_succ, List.length_cons, List.length_nil, List.set_cons_zero, List.set_cons_succ, Option.some.injEq, D.int.injEq, D.bl.injEq, D.loc.injEq, exists_eq_left', exists_eq_left, exists_eq_left2, exists_eq_left3, bindT_two, bindPar_end, wipeE, ofC_one, ofC_nil, itT0, itT1, itT2, itT3, deq_str, if_true, if_false, Bool.false_eq_true, true_and, and_true, Nat.zero_add, reduceCtorEq, decide_false]
    obtain ⟨z, hz⟩ : ∃ z, (a :: r).getLast? = some z := ⟨_, List.getLast?_eq_some_getLast (by simp)⟩
    have hway : isWay (ups wl) p (a :: r) = (decide (z = p) && (a :: r).all (fun q => (uget (ups wl) q).isSome) && decide (uget (ups wl) a = some none) && ((a :: r).zip (a :: r).tail).all fun q => decide (uget (ups wl) q.2 = some (some q.1))) := by
      unfold isWay
      rw [hz]
      simp only [Option.some.injEq]
    rw [hway] at q
    refine ⟨dP z, it_last (h.le le2) (by rw [List.getLast?_map, hz]; rfl), decide (z = p), deq_P, ?_⟩
    by_cases hzp : z = p
    · subst hzp
      simp only [decide_true, Bool.not_true, ws_cons, ws_nil, ws_ite, s_ret, s_expr, s_asg, s_par, s_pass, s_aug, s_setFld, s_setSub, s_for, e_prim, e_cons, e_nil, e_var, e_cst, e_glb, e_tup, e_lst, e_dnew, e_and, e_or, e_not, e_ifx, e_call, e_fld, e_meth, e_lm, e_sl2, e_slL, e_slH, p_addI, p_addT, p_addL, p_sub, p_mulI, p_mulL, p_mod, p_fdiv, p_pow, p_neg, p_eq, p_ne, p_lt, p_le, p_gt, p_ge, p_in, p_notin, p_isN, p_notN, p_isB, p_notB, p_item, p_rev, p_lenT, p_lenL, p_lenset, p_sorted, p_dict1, p_listT, p_isBoolB, sl_tup, ret_rt, bind_name, bindPar_ok, List.getElem?_cons_zero, List.getElem?_cons_succ, List.length_cons, List.length_nil, List.set_cons_zero, List.set_cons_succ, Option.some.injEq, D.int.injEq, D.bl.injEq, D.loc.injEq, exists_eq_left', exists_eq_left, exists_eq_left2, exists_eq_left3, bindT_two, bindPar_end, wipeE, ofC_one, ofC_nil, itT0, itT1, itT2, itT3, deq_str, if_true, if_false, Bool.false_eq_true, true_and, and_true, Nat.zero_add, Bool.true_and] at q ⊢
      refine e_mapL dP (fun b => .bl (!(uget (ups wl) b).isSome)) ?_
      simp only [ws_cons, ws_nil, ws_ite, s_ret, s_expr, s_asg, s_par, s_pass, s_aug, s_setFld, s_setSub, s_for, e_prim, e_cons, e_nil, e_var, e_cst, e_glb, e_tup, e_lst, e_dnew, e_and, e_or, e_not, e_ifx, e_call, e_fld, e_meth, e_lm, e_sl2, e_slL, e_slH, p_addI, p_addT, p_addL, p_sub, p_mulI, p_mulL, p_mod, p_fdiv, p_pow, p_neg, p_eq, p_ne, p_lt, p_le, p_gt, p_ge, p_in, p_notin, p_isN, p_notN, p_isB, p_notB, p_item, p_rev, p_lenT, p_lenL, p_lenset, p_sorted, p_dict1, p_listT, p_isBoolB, sl_tup, ret_rt, bind_name, bindPar_ok, List.getElem?_cons_zero, List.getElem?_cons_succ, List.length_cons, List.length_nil, List.set_cons_zero, List.set_cons_succ, Option.some.injEq, D.int.injEq, D.bl.injEq, D.loc.injEq, exists_eq_left', exists_eq_left, exists_eq_left2, exists_eq_left3, bindT_two, bindPar_end, wipeE, ofC_one, ofC_nil, itT0, itT1, itT2, itT3, deq_str, if_true, if_false, Bool.false_eq_true, true_and, and_true, Nat.zero_add]
      refine ⟨l, a :: r, rfl, h.le le2, hc, fun b S4 hb hle => ?_, fun S2 le3 hL => ?_⟩
      · simp only [ws_cons, ws_nil, ws_ite, s_ret, s_expr, s_asg, s_par, s_pass, s_aug, s_setFld, s_setSub, s_for, e_prim, e_cons, e_nil, e_var, e_cst, e_glb, e_tup, e_lst, e_dnew, e_and, e_or, e_not, e_ifx, e_call, e_fld, e_meth, e_lm, e_sl2, e_slL, e_slH, p_addI, p_addT, p_addL, p_sub, p_mulI, p_mulL, p_mod, p_fdiv, p_pow, p_neg, p_eq, p_ne, p_lt, p_le, p_gt, p_ge, p_in, p_notin, p_isN, p_notN, p_isB, p_notB, p_item, p_rev, p_lenT, p_lenL, p_lenset, p_sorted, p_dict1, p_listT, p_isBoolB, sl_tup, ret_rt, bind_name, bindPar_ok, List.getElem?_cons_zero, List.getElem?_cons_succ, List.length_cons, List.length_nil, List.set_cons_zero, List.set_cons_succ, Option.some.injEq, D.int.injEq, D.bl.injEq, D.loc.injEq, exists_eq_left', exists_eq_left, exists_eq_left2, exists_eq_left3, bindT_two, bindPar_end, wipeE, ofC_one, ofC_nil, itT0, itT1, itT2, itT3, deq_str, if_true, if_false, Bool.false_eq_true, true_and, and_true, Nat.zero_add, in_U (hu.le (lu.trans hle))]
        exact ⟨by decide, Le.refl _⟩
      · have le4 := le2.trans le3
        simp only [p_any_map hL, any_not, ws_cons, ws_nil, ws_ite, s_ret, s_expr, s_asg, s_par, s_pass, s_aug, s_setFld, s_setSub, s_for, e_prim, e_cons, e_nil, e_var, e_cst, e_glb, e_tup, e_lst, e_dnew, e_and, e_or, e_not, e_ifx, e_call, e_fld, e_meth, e_lm, e_sl2, e_slL, e_slH, p_addI, p_addT, p_addL, p_sub, p_mulI, p_mulL, p_mod, p_fdiv, p_pow, p_neg, p_eq, p_ne, p_lt, p_le, p_gt, p_ge, p_in, p_notin, p_isN, p_notN, p_isB, p_notB, p_item, p_rev, p_lenT, p_lenL, p_lenset, p_sorted, p_dict1, p_listT, p_isBoolB, sl_tup, ret_rt, bind_name, bindPar_ok, List.getElem?_cons_zero, List.getElem?_cons_succ, List.length_cons, List.length_nil, List.set_cons_zero, List.set_cons_succ, Option.some.injEq, D.int.injEq, D.bl.injEq, D.loc.injEq, exists_eq_left', exists_eq_left, exists_eq_left2, exists_eq_left3, bindT_two, bindPar_end, wipeE, ofC_one, ofC_nil, itT0, itT1, itT2, itT3, deq_str, if_true, if_false, Bool.false_eq_true, true_and, and_true, Nat.zero_add]
        cases h2 : (a :: r).all fun q => (uget (ups wl) q).isSome with
        | false =>
          simp only [h2, Bool.not_false, ws_cons, ws_nil, ws_ite, s_ret, s_expr, s_asg, s_par, s_pass, s_aug, s_setFld, s_setSub, s_for, e_prim, e_cons, e_nil, e_var, e_cst, e_glb, e_tup, e_lst, e_dnew, e_and, e_or, e_not, e_ifx, e_call, e_fld, e_meth, e_lm, e_sl2, e_slL, e_slH, p_addI, p_addT, p_addL, p_sub, p_mulI, p_mulL, p_mod, p_fdiv, p_pow, p_neg, p_eq, p_ne, p_lt, p_le, p_gt, p_ge, p_in, p_notin, p_isN, p_notN, p_isB, p_notB, p_item, p_rev, p_lenT, p_lenL, p_lenset, p_sorted, p_dict1, p_listT, p_isBoolB, sl_tup, ret_rt, bind_name, bindPar_ok, List.getElem?_cons_zero, List.getElem?_cons_succ, List.length_cons, List.length_nil, List.set_cons_zero, List.set_cons_succ, Option.some.injEq, D.int.injEq, D.bl.injEq, D.loc.injEq, exists_eq_left', exists_eq_left, exists_eq_left2, exists_eq_left3, bindT_two, bindPar_end, wipeE, ofC_one, ofC_nil, itT0, itT1, itT2, itT3, deq_str, if_true, if_false, Bool.false_eq_true, true_and, and_true, Nat.zero_add, Bool.false_and] at q ⊢
          exact q _ le4
        | true =>
          simp only [h2, Bool.not_true, ws_cons, ws_nil, ws_ite, s_ret, s_expr, s_asg, s_par, s_pass, s_aug, s_setFld, s_setSub, s_for, e_prim, e_cons, e_nil, e_var, e_cst, e_glb, e_tup, e_lst, e_dnew, e_and, e_or, e_not, e_ifx, e_call, e_fld, e_meth, e_lm, e_sl2, e_slL, e_slH, p_addI, p_addT, p_addL, p_sub, p_mulI, p_mulL, p_mod, p_fdiv, p_pow, p_neg, p_eq, p_ne, p_lt, p_le, p_gt, p_ge, p_in, p_notin, p_isN, p_notN, p_isB, p_notB, p_item, p_rev, p_lenT, p_lenL, p_lenset, p_sorted, p_dict1, p_listT, p_isBoolB, sl_tup, ret_rt, bind_name, bindPar_ok, List.getElem?_cons_zero, List.getElem?_cons_succ, List.length_cons, List.length_nil, List.set_cons_zero, List.set_cons_succ, Option.some.injEq, D.int.injEq, D.bl.injEq, D.loc.injEq, exists_eq_left', exists_eq_left, exists_eq_left2, exists_eq_left3, bindT_two, bindPar_end, wipeE, ofC_one, ofC_nil, itT0, itT1, itT2, itT3, deq_str, if_true, if_false, Bool.false_eq_true, true_and, and_true, Nat.zero_add, Bool.true_and] at q ⊢
          have hf : ∀ b ∈ a :: r, uget (ups wl) b = some ((uget (ups wl) b).getD none) := fun b hb => by
            obtain ⟨v, hv⟩ := Option.isSome_iff_exists.mp (List.all_eq_true.mp h2 b hb)
            rw [hv]
            rfl
          refine e_mapL dP (fun b => dU ((uget (ups wl) b).getD none)) ?_
          simp only [ws_cons, ws_nil, ws_ite, s_ret, s_expr, s_asg, s_par, s_pass, s_aug, s_setFld, s_setSub, s_for, e_prim, e_cons, e_nil, e_var, e_cst, e_glb, e_tup, e_lst, e_dnew, e_and, e_or, e_not, e_ifx, e_call, e_fld, e_meth, e_lm, e_sl2, e_slL, e_slH, p_addI, p_addT, p_addL, p_sub, p_mulI, p_mulL, p_mod, p_fdiv, p_pow, p_neg, p_eq, p_ne, p_lt, p_le, p_gt, p_ge, p_in, p_notin, p_isN, p_notN, p_isB, p_notB, p_item, p_rev, p_lenT, p_lenL, p_lenset, p_sorted, p_dict1, p_listT, p_isBoolB, sl_tup, ret_rt, bind_name, bindPar_ok, List.getElem?_cons_zero, List.getElem?_cons_succ, List.length_cons, List.length_nil, List.set_cons_zero, List.set_cons_succ, Option.some.injEq, D.int.injEq, D.bl.injEq, D.loc.injEq, exists_eq_left', exists_eq_left, exists_eq_left2, exists_eq_left3, bindT_two, bindPar_end, wipeE, ofC_one, ofC_nil, itT0, itT1, itT2, itT3, deq_str, if_true, if_false, Bool.false_eq_true, true_and, and_true, Nat.zero_add]
          refine ⟨l, a :: r, rfl, h.le le4, hc, fun b S4 hb hle => ?_, fun S4 le5 hL2 => ?_⟩
          · simp only [ws_cons, ws_nil, ws_ite, s_ret, s_expr, s_asg, s_par, s_pass, s_aug, s_setFld, s_setSub, s_for, e_prim, e_cons, e_nil, e_var, e_cst, e_glb, e_tup, e_lst, e_dnew, e_and, e_or, e_not, e_ifx, e_call, e_fld, e_meth, e_lm, e_sl2, e_slL, e_slH, p_addI, p_addT, p_addL, p_sub, p_mulI, p_mulL, p_mod, p_fdiv, p_pow, p_neg, p_eq, p_ne, p_lt, p_le, p_gt, p_ge, p_in, p_notin, p_isN, p_notN, p_isB, p_notB, p_item, p_rev, p_lenT, p_lenL, p_lenset, p_sorted, p_dict1, p_listT, p_isBoolB, sl_tup, ret_rt, bind_name, bindPar_ok, List.getElem?_cons_zero, List.getElem?_cons_succ, List.length_cons, List.length_nil, List.set_cons_zero, List.set_cons_succ, Option.some.injEq, D.int.injEq, D.bl.injEq, D.loc.injEq, exists_eq_left', exists_eq_left, exists_eq_left2, exists_eq_left3, bindT_two, bindPar_end, wipeE, ofC_one, ofC_nil, itT0, itT1, itT2, itT3, deq_str, if_true, if_false, Bool.false_eq_true, true_and, and_true, Nat.zero_add, item_U (hu.le ((lu.trans le3).trans hle)) (hf b hb)]
            exact ⟨by decide, Le.refl _⟩
          · have le6 := le4.trans le5
            have le7 : Le S4 (S4 ++ [.list [.non]]) := Le.push _ _
            refine ⟨by decide, ?_⟩
            rw [sl_list ((h.le le6).le le7), cut_init]
            have le8 : Le (S4 ++ [.list [.non]]) ((S4 ++ [.list [.non]]) ++ [.list ((a :: r).map dP).dropLast]) := Le.push _ _
            refine p_addL.mpr ⟨[.non], wi_list (le8 _ _ get_push), ((a :: r).map dP).dropLast, wi_list get_push, ?_, ?_⟩
            · rw [List.length_dropLast, List.length_map, List.length_cons]
              simp only [List.length_cons, List.length_nil] at hc ⊢
              omega
            · have le9 := (le7.trans le8).trans (Le.push ((S4 ++ [.list [.non]]) ++ [.list ((a :: r).map dP).dropLast]) (.list ([.non] ++ ((a :: r).map dP).dropLast)))
              have h3 : HasL _ S2.length dU ((a :: r).map fun b => (uget (ups wl) b).getD none) := (show HasL S4 S2.length dU ((a :: r).map fun b => (uget (ups wl) b).getD none) by
                unfold HasL at hL2 ⊢
                rw [hL2, List.map_map]
                rfl).le le9
              refine ⟨_, deq_LU h3 (ys := none :: (a :: r).dropLast.map some) ?_, ?_⟩
              · unfold HasL
                have e : ((a :: r).map dP).dropLast = ((a :: r).dropLast.map some).map dU := by
                  rw [List.map_map, List.map_dropLast]
                  rfl
                rw [get_push, e]
                rfl
              · rw [way_eq (ups wl) (a :: r) a r rfl h2 _ hf]
                exact q _ (le6.trans le9)
    · simp only [hzp, decide_false, Bool.not_false, ws_cons, ws_nil, ws_ite, s_ret, s_expr, s_asg, s_par, s_pass, s_aug, s_setFld, s_setSub, s_for, e_prim, e_cons, e_nil, e_var, e_cst, e_glb, e_tup, e_lst, e_dnew, e_and, e_or, e_not, e_ifx, e_call, e_fld, e_meth, e_lm, e_sl2, e_slL, e_slH, p_addI, p_addT, p_addL, p_sub, p_mulI, p_mulL, p_mod, p_fdiv, p_pow, p_neg, p_eq, p_ne, p_lt, p_le, p_gt, p_ge, p_in, p_notin, p_isN, p_notN, p_isB, p_notB, p_item, p_rev, p_lenT, p_lenL, p_lenset, p_sorted, p_dict1, p_listT, p_isBoolB, sl_tup, ret_rt, bind_name, bindPar_ok, List.getElem?_cons_zero, List.getElem?_cons_succ, List.length_cons, List.length_nil, List.set_cons_zero, List.set_cons_succ, Option.some.injEq, D.int.injEq, D.bl.injEq, D.loc.injEq, exists_eq_left', exists_eq_left, exists_eq_left2, exists_eq_left3, bindT_two, bindPar_end, wipeE, ofC_one, ofC_nil, itT0, itT1, itT2, itT3, deq_str, if_true, if_false, Bool.false_eq_true, true_and, and_true, Nat.zero_add, Bool.false_and] at q ⊢
      exact q _ le2
theorem sp18 {n : Nat} {S : Store} {a b : Bool} {Q : D → Store → Prop} (q : Q (.bl (a == b)) S) : wp (run G (n + 1) 18 [.bl a, .bl b] S) Q := by
  refine (wp_run (fn := ⟨2, 2, b18⟩) rfl rfl).mpr ?_
  show ws (execs G (run G n) b18 [some (.bl a), some (.bl b)] S) _
  unfold b18
  simp only [ws_cons, ws_nil, ws_ite, s_ret, s_expr, s_asg, s_par, s_pass, s_aug, s_setFld, s_setSub, s_for, e_prim, e_cons, e_nil, e_var, e_cst, e_glb, e_tup, e_lst, e_dnew, e_and, e_or, e_not, e_ifx, e_call, e_fld, e_meth, e_lm, e_sl2, e_slL, e_slH, p_addI, p_addT, p_addL, p_sub, p_mulI, p_mulL, p_mod, p_fdiv, p_pow, p_neg, p_eq, p_ne, p_lt, p_le, p_gt, p_ge, p_in, p_notin, p_isN, p_notN, p_isB, p_notB, p_item, p_rev, p_lenT, p_lenL, p_lenset, p_sorted, p_dict1, p_listT, p_isBoolB, sl_tup, ret_rt, bind_name, bindPar_ok, List.getElem?_cons_zero, List.getElem?_cons_succ, List.length_cons, List.length_nil, List.set_cons_zero, List.set_cons_succ, Option.some.injEq, D.int.injEq, D.bl.injEq, D.loc.injEq, exists_eq_left', exists_eq_left, exists_eq_left2, exists_eq_left3, bindT_two, bindPar_end, wipeE, ofC_one, ofC_nil, itT0, itT1, itT2, itT3, deq_str, if_true, if_false, Bool.false_eq_true, true_and, and_true, Nat.zero_add, deq_bl]
  exact q
/-! ### what the law says of a row -/
def kindS : Nat → Str
  | 0 => "stands" | 1 => "gone" | _ => "waits"
def due (k : Nat) (wl : List Word) (p : Part) (row : List Part) : Bool := match k with
  | 0 => stands wl p row | 1 => gone wl p row | _ => wait wl p row
theorem frz_LW {S : Store} {l : Nat} {wl : List Word} (h : HasL S l dW wl) : mapO (frz S deep) (wl.map dW) = some (wl.map pW) := mapO_map (fun w => frz_dW w 4) wl
theorem eqv_out (p : Part) (w : Word) : PyData.eqv (pW w) (.tuple [.str "out", .int p.1, .int p.2]) = (match w with | .out q => decide (q = p) | _ => false) := by
  cases w with
  | part q v => simp only [pW, PyData.eqv, PyData.eqvAll, po_, Bool.false_and]
  | out q =>
    obtain ⟨a, b⟩ := p
    obtain ⟨c, d⟩ := q
    simp only [pW, PyData.eqv, PyData.eqvAll, oo_, Bool.true_and, Bool.and_true, Prod.mk.injEq, Bool.decide_and]
    rfl
theorem any_out (p : Part) : ∀ wl : List Word, (wl.map pW).any (fun z => PyData.eqv z (.tuple [.str "out", .int p.1, .int p.2])) = decide (p ∈ outs wl)
  | [] => rfl
  | w :: wl => by
    rw [List.map_cons, List.any_cons, any_out p wl, eqv_out]
    cases w with
    | part q v => rfl
    | out q =>
      show (decide (q = p) || decide (p ∈ outs wl)) = decide (p ∈ q :: outs wl)
      rw [← Bool.decide_or, decide_eq_decide, List.mem_cons]
      constructor
      · rintro (rfl | h)
        · exact .inl rfl
        · exact .inr h
      · rintro (rfl | h)
        · exact .inl rfl
        · exact .inr h
theorem in_out {S : Store} {w : Nat} {wl : List Word} (h : HasL S w dW wl) (p : Part) : isinD (.tup [.str "out", .int p.1, .int p.2]) (.loc w) S = some (decide (p ∈ outs wl)) := by
  have h1 : S[w]? = some (.list (wl.map dW)) := h
  have h2 : frz S deep (.tup [.str "out", .int p.1, .int p.2]) = some (.tuple [.str "out", .int p.1, .int p.2]) := rfl
  unfold isinD
  simp only [h1, frz_LW h, h2, any_out]
end MI.Law

namespace MI.Law
open PySem MI
theorem ws_ : (("waits" : Str) == "waits") = true := by decide +kernel
theorem kw0 : (kindS 0 == ("waits" : Str)) = false := by decide +kernel
theorem kw1 : (kindS 1 == ("waits" : Str)) = false := by decide +kernel
theorem kw2 : (kindS 2 == ("waits" : Str)) = true := by decide +kernel
theorem ks0 : (kindS 0 == ("stands" : Str)) = true := by decide +kernel
theorem ks1 : (kindS 1 == ("stands" : Str)) = false := by decide +kernel
theorem filter_nil (xs ys : List Part) : decide (ys.filter (fun q => decide (q ∈ xs)) = []) = !ys.any fun q => decide (q ∈ xs) := by
  induction ys with
  | nil => rfl
  | cons y ys ih =>
    rw [List.any_cons, List.filter_cons]
    cases decide (y ∈ xs) with
    | true => rfl
    | false => exact ih
theorem sp17a {n : Nat} {S : Store} {w l : Nat} {wl : List Word} {row : List Part} {p : Part} {k : Nat} (hk : k < 2) (hw : HasL S w dW wl) (h : HasL S l dP row) (hcw : wl.length < cap) (hc : row.length < cap) {Q : D → Store → Prop} (q : ∀ S', Le S S' → Q (.bl (due k wl p row)) S') : wp (run G (n + 3) 17 [.str (kindS k), .loc w, dP p, .loc l] S) Q := by
  have hkw : (kindS k == ("waits" : Str)) = false := by
    rcases (show k = 0 ∨ k = 1 by omega) with rfl | rfl
    · exact kw0
    · exact kw1
  refine (wp_run (fn := ⟨4, 8, b17⟩) rfl rfl).mpr ?_
  show ws (execs G (run G (n + 2)) b17 [some (.str (kindS k)), some (.loc w), some (dP p), some (.loc l), none, none, none, none] S) _
  unfold b17
  simp only [ws_cons, ws_nil, ws_ite, s_ret, s_expr, s_asg, s_par, s_pass, s_aug, s_setFld, s_setSub, s_for, e_prim, e_cons, e_nil, e_var, e_cst, e_glb, e_tup, e_lst, e_dnew, e_and, e_or, e_not, e_ifx, e_call, e_fld, e_meth, e_lm, e_sl2, e_slL, e_slH, p_addI, p_addT, p_addL, p_sub, p_mulI, p_mulL, p_mod, p_fdiv, p_pow, p_neg, p_eq, p_ne, p_lt, p_le, p_gt, p_ge, p_in, p_notin, p_isN, p_notN, p_isB, p_notB, p_item, p_rev, p_lenT, p_lenL, p_lenset, p_sorted, p_dict1, p_listT, p_isBoolB, sl_tup, ret_rt, bind_name, bindPar_ok, List.getElem?_cons_zero, List.getElem?_cons_succ, List.length_cons, List.length_nil, List.set_cons_zero, List.set_cons_succ, Option.some.injEq, D.int.injEq, D.bl.injEq, D.loc.injEq, exists_eq_left', exists_eq_left, exists_eq_left2, exists_eq_left3, bindT_two, bindPar_end, wipeE, ofC_one, ofC_nil, itT0, itT1, itT2, itT3, deq_str, if_true, if_false, Bool.false_eq_true, true_and, and_true, Nat.zero_add]
  refine sp13 hw hcw fun S1 m le1 hu => ?_
  refine ⟨by decide, ?_⟩
  simp only [hkw, Bool.not_false, ws_cons, ws_nil, ws_ite, s_ret, s_expr, s_asg, s_par, s_pass, s_aug, s_setFld, s_setSub, s_for, e_prim, e_cons, e_nil, e_var, e_cst, e_glb, e_tup, e_lst, e_dnew, e_and, e_or, e_not, e_ifx, e_call, e_fld, e_meth, e_lm, e_sl2, e_slL, e_slH, p_addI, p_addT, p_addL, p_sub, p_mulI, p_mulL, p_mod, p_fdiv, p_pow, p_neg, p_eq, p_ne, p_lt, p_le, p_gt, p_ge, p_in, p_notin, p_isN, p_notN, p_isB, p_notB, p_item, p_rev, p_lenT, p_lenL, p_lenset, p_sorted, p_dict1, p_listT, p_isBoolB, sl_tup, ret_rt, bind_name, bindPar_ok, List.getElem?_cons_zero, List.getElem?_cons_succ, List.length_cons, List.length_nil, List.set_cons_zero, List.set_cons_succ, Option.some.injEq, D.int.injEq, D.bl.injEq, D.loc.injEq, exists_eq_left', exists_eq_left, exists_eq_left2, exists_eq_left3, bindT_two, bindPar_end, wipeE, ofC_one, ofC_nil, itT0, itT1, itT2, itT3, deq_str, if_true, if_false, Bool.false_eq_true, true_and, and_true, Nat.zero_add]
  refine e_comp (A := Part) ?_
  simp only [ws_cons, ws_nil, ws_ite, s_ret, s_expr, s_asg, s_par, s_pass, s_aug, s_setFld, s_setSub, s_for, e_prim, e_cons, e_nil, e_var, e_cst, e_glb, e_tup, e_lst, e_dnew, e_and, e_or, e_not, e_ifx, e_call, e_fld, e_meth, e_lm, e_sl2, e_slL, e_slH, p_addI, p_addT, p_addL, p_sub, p_mulI, p_mulL, p_mod, p_fdiv, p_pow, p_neg, p_eq, p_ne, p_lt, p_le, p_gt, p_ge, p_in, p_notin, p_isN, p_notN, p_isB, p_notB, p_item, p_rev, p_lenT, p_lenL, p_lenset, p_sorted, p_dict1, p_listT, p_isBoolB, sl_tup, ret_rt, bind_name, bindPar_ok, List.getElem?_cons_zero, List.getElem?_cons_succ, List.length_cons, List.length_nil, List.set_cons_zero, List.set_cons_succ, Option.some.injEq, D.int.injEq, D.bl.injEq, D.loc.injEq, exists_eq_left', exists_eq_left, exists_eq_left2, exists_eq_left3, bindT_two, bindPar_end, wipeE, ofC_one, ofC_nil, itT0, itT1, itT2, itT3, deq_str, if_true, if_false, Bool.false_eq_true, true_and, and_true, Nat.zero_add]
  refine ⟨.list l, row.length, row, dP, fun q => if decide (q ∈ outs wl) then some (dP q) else none, mk_list (h.le le1), Nat.le_refl _, hc, fun S2 hle i => next_list ((h.le le1).le hle), fun b S2 hb hle => ?_, fun S2 hle hS => ?_⟩
  · simp only [ws_cons, ws_nil, ws_ite, s_ret, s_expr, s_asg, s_par, s_pass, s_aug, s_setFld, s_setSub, s_for, e_prim, e_cons, e_nil, e_var, e_cst, e_glb, e_tup, e_lst, e_dnew, e_and, e_or, e_not, e_ifx, e_call, e_fld, e_meth, e_lm, e_sl2, e_slL, e_slH, p_addI, p_addT, p_addL, p_sub, p_mulI, p_mulL, p_mod, p_fdiv, p_pow, p_neg, p_eq, p_ne, p_lt, p_le, p_gt, p_ge, p_in, p_notin, p_isN, p_notN, p_isB, p_notB, p_item, p_rev, p_lenT, p_lenL, p_lenset, p_sorted, p_dict1, p_listT, p_isBoolB, sl_tup, ret_rt, bind_name, bindPar_ok, List.getElem?_cons_zero, List.getElem?_cons_succ, List.length_cons, List.length_nil, List.set_cons_zero, List.set_cons_succ, Option.some.injEq, D.int.injEq, D.bl.injEq, D.loc.injEq, exists_eq_left', exists_eq_left, exists_eq_left2, exists_eq_left3, bindT_two, bindPar_end, wipeE, ofC_one, ofC_nil, itT0, itT1, itT2, itT3, deq_str, if_true, if_false, Bool.false_eq_true, true_and, and_true, Nat.zero_add]
    refine ⟨by decide, Nat.le_of_lt (by decide), ?_⟩
    show wp (prim .add [.tup [.str "out"], .tup [.int b.1, .int b.2]] S2) _
    simp only [ws_cons, ws_nil, ws_ite, s_ret, s_expr, s_asg, s_par, s_pass, s_aug, s_setFld, s_setSub, s_for, e_prim, e_cons, e_nil, e_var, e_cst, e_glb, e_tup, e_lst, e_dnew, e_and, e_or, e_not, e_ifx, e_call, e_fld, e_meth, e_lm, e_sl2, e_slL, e_slH, p_addI, p_addT, p_addL, p_sub, p_mulI, p_mulL, p_mod, p_fdiv, p_pow, p_neg, p_eq, p_ne, p_lt, p_le, p_gt, p_ge, p_in, p_notin, p_isN, p_notN, p_isB, p_notB, p_item, p_rev, p_lenT, p_lenL, p_lenset, p_sorted, p_dict1, p_listT, p_isBoolB, sl_tup, ret_rt, bind_name, bindPar_ok, List.getElem?_cons_zero, List.getElem?_cons_succ, List.length_cons, List.length_nil, List.set_cons_zero, List.set_cons_succ, Option.some.injEq, D.int.injEq, D.bl.injEq, D.loc.injEq, exists_eq_left', exists_eq_left, exists_eq_left2, exists_eq_left3, bindT_two, bindPar_end, wipeE, ofC_one, ofC_nil, itT0, itT1, itT2, itT3, deq_str, if_true, if_false, Bool.false_eq_true, true_and, and_true, Nat.zero_add]
    refine ⟨by decide, decide (b ∈ outs wl), in_out ((hw.le le1).le hle) b, Le.refl _, ?_⟩
    cases decide (b ∈ outs wl) with
    | true => exact ⟨Le.refl _, rfl⟩
    | false => rfl
  · have le2 : Le S S2 := le1.trans hle
    have hf : row.filterMap (fun q => if decide (q ∈ outs wl) then some (dP q) else none) = (row.filter fun q => decide (q ∈ outs wl)).map dP := by
      clear h hc hS q
      induction row with
      | nil => rfl
      | cons a r ih =>
        rw [List.filterMap_cons, List.filter_cons]
        cases decide (a ∈ outs wl) with
        | true => simp only [if_true, ih, List.map_cons]
        | false => simp only [Bool.false_eq_true, if_false, ih]
    rw [hf] at hS
    refine ⟨by decide, ?_⟩
    refine sp16 (hw.le le2) (h.le le2) hcw hc fun S3 le3 => ?_
    have le4 := le2.trans le3
    have hS3 : HasL S3 S1.length dP (row.filter fun q => decide (q ∈ outs wl)) := le3 _ _ hS
    refine ⟨_, rfl, ?_⟩
    have hd : due k wl p row = (isWay (ups wl) p row && ((!row.any fun q => decide (q ∈ outs wl)) == (kindS k == ("stands" : Str)))) := by
      rcases (show k = 0 ∨ k = 1 by omega) with rfl | rfl
      · rw [ks0]
        show stands wl p row = _
        unfold stands
        simp only [beq_true]
      · rw [ks1]
        show gone wl p row = _
        unfold gone
        simp only [beq_false, Bool.not_not]
    rw [hd] at q
    cases hy : isWay (ups wl) p row with
    | false =>
      simp only [hy, ws_cons, ws_nil, ws_ite, s_ret, s_expr, s_asg, s_par, s_pass, s_aug, s_setFld, s_setSub, s_for, e_prim, e_cons, e_nil, e_var, e_cst, e_glb, e_tup, e_lst, e_dnew, e_and, e_or, e_not, e_ifx, e_call, e_fld, e_meth, e_lm, e_sl2, e_slL, e_slH, p_addI, p_addT, p_addL, p_sub, p_mulI, p_mulL, p_mod, p_fdiv, p_pow, p_neg, p_eq, p_ne, p_lt, p_le, p_gt, p_ge, p_in, p_notin, p_isN, p_notN, p_isB, p_notB, p_item, p_rev, p_lenT, p_lenL, p_lenset, p_sorted, p_dict1, p_listT, p_isBoolB, sl_tup, ret_rt, bind_name, bindPar_ok, List.getElem?_cons_zero, List.getElem?_cons_succ, List.length_cons, List.length_nil, List.set_cons_zero, List.set_cons_succ, Option.some.injEq, D.int.injEq, D.bl.injEq, D.loc.injEq, exists_eq_left', exists_eq_left, exists_eq_left2, exists_eq_left3, bindT_two, bindPar_end, wipeE, ofC_one, ofC_nil, itT0, itT1, itT2, itT3, deq_str, if_true, if_false, Bool.false_eq_true, true_and, and_true, Nat.zero_add, Bool.false_and] at q ⊢
      exact q _ le4
    | true =>
      simp only [hy, ws_cons, ws_nil, ws_ite, s_ret, s_expr, s_asg, s_par, s_pass, s_aug, s_setFld, s_setSub, s_for, e_prim, e_cons, e_nil, e_var, e_cst, e_glb, e_tup, e_lst, e_dnew, e_and, e_or, e_not, e_ifx, e_call, e_fld, e_meth, e_lm, e_sl2, e_slL, e_slH, p_addI, p_addT, p_addL, p_sub, p_mulI, p_mulL, p_mod, p_fdiv, p_pow, p_neg, p_eq, p_ne, p_lt, p_le, p_gt, p_ge, p_in, p_notin, p_isN, p_notN, p_isB, p_notB, p_item, p_rev, p_lenT, p_lenL, p_lenset, p_sorted, p_dict1, p_listT, p_isBoolB, sl_tup, ret_rt, bind_name, bindPar_ok, List.getElem?_cons_zero, List.getElem?_cons_succ, List.length_cons, List.length_nil, List.set_cons_zero, List.set_cons_succ, Option.some.injEq, D.int.injEq, D.bl.injEq, D.loc.injEq, exists_eq_left', exists_eq_left, exists_eq_left2, exists_eq_left3, bindT_two, bindPar_end, wipeE, ofC_one, ofC_nil, itT0, itT1, itT2, itT3, deq_str, if_true, if_false, Bool.false_eq_true, true_and, and_true, Nat.zero_add, Bool.true_and] at q ⊢
      refine ⟨Nat.zero_le _, ?_⟩
      rw [deq_LP (hS3.le (Le.push _ _)) push_nil, filter_nil]
      simp only [ws_cons, ws_nil, ws_ite, s_ret, s_expr, s_asg, s_par, s_pass, s_aug, s_setFld, s_setSub, s_for, e_prim, e_cons, e_nil, e_var, e_cst, e_glb, e_tup, e_lst, e_dnew, e_and, e_or, e_not, e_ifx, e_call, e_fld, e_meth, e_lm, e_sl2, e_slL, e_slH, p_addI, p_addT, p_addL, p_sub, p_mulI, p_mulL, p_mod, p_fdiv, p_pow, p_neg, p_eq, p_ne, p_lt, p_le, p_gt, p_ge, p_in, p_notin, p_isN, p_notN, p_isB, p_notB, p_item, p_rev, p_lenT, p_lenL, p_lenset, p_sorted, p_dict1, p_listT, p_isBoolB, sl_tup, ret_rt, bind_name, bindPar_ok, List.getElem?_cons_zero, List.getElem?_cons_succ, List.length_cons, List.length_nil, List.set_cons_zero, List.set_cons_succ, Option.some.injEq, D.int.injEq, D.bl.injEq, D.loc.injEq, exists_eq_left', exists_eq_left, exists_eq_left2, exists_eq_left3, bindT_two, bindPar_end, wipeE, ofC_one, ofC_nil, itT0, itT1, itT2, itT3, deq_str, if_true, if_false, Bool.false_eq_true, true_and, and_true, Nat.zero_add, deq_bl]
      exact q _ (le4.trans (Le.push _ _))
end MI.Law

namespace MI.Law
open PySem MI
theorem cntP (b : Part) : ∀ row : List Part, (row.map pP).countP (fun z => PyData.eqv z (pP b)) = row.countP fun q => decide (q = b)
  | [] => rfl
  | a :: r => by
    rw [List.map_cons, List.countP_cons, List.countP_cons, cntP b r, eqv_P]
theorem count_zero (b : Part) : ∀ row : List Part, row.countP (fun q => decide (q = b)) = 0 ↔ b ∉ row
  | [] => ⟨fun _ h => (by cases h), fun _ => rfl⟩
  | a :: r => by
    rw [List.countP_cons, List.mem_cons]
    have ih := count_zero b r
    by_cases h : a = b
    · rw [decide_eq_true h]
      constructor
      · intro z; simp at z
      · intro z; exact absurd (.inl h.symm) z
    · rw [decide_eq_false h]
      simp only [Bool.false_eq_true, if_false, Nat.add_zero, ih]
      exact ⟨fun z q => q.elim (fun e => h e.symm) z, fun z q => z (.inr q)⟩
theorem nodup_cnt : ∀ row : List Part, row.Nodup ↔ ∀ b ∈ row, row.countP (fun q => decide (q = b)) ≤ 1
  | [] => ⟨fun _ _ h => (by cases h), fun _ => List.nodup_nil⟩
  | a :: r => by
    rw [List.nodup_cons, nodup_cnt r]
    constructor
    · rintro ⟨h1, h2⟩ b hb
      rw [List.countP_cons]
      by_cases h : a = b
      · subst h
        rw [(count_zero a r).mpr h1]
        simp
      · rw [decide_eq_false h]
        have hb' : b ∈ r := (List.mem_cons.mp hb).resolve_left fun e => h e.symm
        simpa using h2 b hb'
    · intro h
      have h0 := h a List.mem_cons_self
      rw [List.countP_cons, decide_eq_true rfl] at h0
      have h1 : a ∉ r := (count_zero a r).mp (by simp at h0; simpa using h0)
      refine ⟨h1, fun b hb => ?_⟩
      have hne : a ≠ b := fun e => h1 (e ▸ hb)
      have := h b (List.mem_cons_of_mem _ hb)
      rw [List.countP_cons, decide_eq_false hne] at this
      simpa using this
theorem any_wait (u : Ups) (row : List Part) : (row.any fun b => !(uget u b).isSome || decide (((1 : Nat) : Int) < ((row.countP fun q => decide (q = b) : Nat) : Int))) = !(row.all (fun b => (uget u b).isSome) && decide row.Nodup) := by
  rw [Bool.eq_iff_iff]
  simp only [List.any_eq_true, Bool.or_eq_true, Bool.not_eq_true', decide_eq_true_eq, Bool.and_eq_false_iff, decide_eq_false_iff_not, List.all_eq_false]
  rw [nodup_cnt]
  constructor
  · rintro ⟨b, hb, h | h⟩
    · exact .inl ⟨b, hb, by rw [h]; exact Bool.false_ne_true⟩
    · refine .inr fun z => ?_
      have := z b hb
      omega
  · rintro (⟨b, hb, h⟩ | h)
    · exact ⟨b, hb, .inl (by simpa using h)⟩
    · rw [Classical.not_forall] at h
      obtain ⟨b, h⟩ := h
      rw [Classical.not_imp] at h
      exact ⟨b, h.1, .inr (by omega)⟩
theorem chain_eq (u : Ups) (f : Part → Option Part) : ∀ (row : List Part), (∀ q ∈ row, uget u q = some (f q)) → decide (row.dropLast.map f = row.tail.map some) = (row.zip row.tail).all fun q => decide (uget u q.1 = some (some q.2))
  | [], _ => rfl
  | [a], _ => rfl
  | a :: b :: r, h => by
    have ih := chain_eq u f (b :: r) fun q hq => h q (List.mem_cons_of_mem _ hq)
    have e1 : (a :: b :: r).dropLast = a :: (b :: r).dropLast := rfl
    show decide ((a :: b :: r).dropLast.map f = (b :: r).map some) = (((a, b) :: (b :: r).zip r).all fun q => decide (uget u q.1 = some (some q.2)))
    rw [e1, List.map_cons, List.map_cons, List.all_cons]
    have ih' : decide ((b :: r).dropLast.map f = r.map some) = ((b :: r).zip r).all fun q => decide (uget u q.1 = some (some q.2)) := ih
    rw [← ih', h a List.mem_cons_self, ← Bool.decide_and, decide_eq_decide]
    simp only [List.cons.injEq, Option.some.injEq]
theorem sp17b {n : Nat} {S : Store} {w l : Nat} {wl : List Word} {row : List Part} {p : Part} (hw : HasL S w dW wl) (h : HasL S l dP row) (hcw : wl.length < cap) (hc : row.length < cap) {Q : D → Store → Prop} (q : ∀ S', Le S S' → Q (.bl (wait wl p row)) S') : wp (run G (n + 3) 17 [.str (kindS 2), .loc w, dP p, .loc l] S) Q := by
  refine (wp_run (fn := ⟨4, 8, b17⟩) rfl rfl).mpr ?_
  show ws (execs G (run G (n + 2)) b17 [some (.str (kindS 2)), some (.loc w), some (dP p), some (.loc l), none, none, none, none] S) _
  unfold b17
  simp only [ws_cons, ws_nil, ws_ite, s_ret, s_expr, s_asg, s_par, s_pass, s_aug, s_setFld, s_setSub, s_for, e_prim, e_cons, e_nil, e_var, e_cst, e_glb, e_tup, e_lst, e_dnew, e_and, e_or, e_not, e_ifx, e_call, e_fld, e_meth, e_lm, e_sl2, e_slL, e_slH, p_addI, p_addT, p_addL, p_sub, p_mulI, p_mulL, p_mod, p_fdiv, p_pow, p_neg, p_eq, p_ne, p_lt, p_le, p_gt, p_ge, p_in, p_notin, p_isN, p_notN, p_isB, p_notB, p_item, p_rev, p_lenT, p_lenL, p_lenset, p_sorted, p_dict1, p_listT, p_isBoolB, sl_tup, ret_rt, bind_name, bindPar_ok, List.getElem?_cons_zero, List.getElem?_cons_succ, List.length_cons, List.length_nil, List.set_cons_zero, List.set_cons_succ, Option.some.injEq, D.int.injEq, D.bl.injEq, D.loc.injEq, exists_eq_left', exists_eq_left, exists_eq_left2, exists_eq_left3, bindT_two, bindPar_end, wipeE, ofC_one, ofC_nil, itT0, itT1, itT2, itT3, deq_str, if_true, if_false, Bool.false_eq_true, true_and, and_true, Nat.zero_add]
  refine sp13 hw hcw fun S1 m le1 hu => ?_
  refine ⟨by decide, ?_⟩
  simp only [kw2, Bool.not_true, ws_cons, ws_nil, ws_ite, s_ret, s_expr, s_asg, s_par, s_pass, s_aug, s_setFld, s_setSub, s_for, e_prim, e_cons, e_nil, e_var, e_cst, e_glb, e_tup, e_lst, e_dnew, e_and, e_or, e_not, e_ifx, e_call, e_fld, e_meth, e_lm, e_sl2, e_slL, e_slH, p_addI, p_addT, p_addL, p_sub, p_mulI, p_mulL, p_mod, p_fdiv, p_pow, p_neg, p_eq, p_ne, p_lt, p_le, p_gt, p_ge, p_in, p_notin, p_isN, p_notN, p_isB, p_notB, p_item, p_rev, p_lenT, p_lenL, p_lenset, p_sorted, p_dict1, p_listT, p_isBoolB, sl_tup, ret_rt, bind_name, bindPar_ok, List.getElem?_cons_zero, List.getElem?_cons_succ, List.length_cons, List.length_nil, List.set_cons_zero, List.set_cons_succ, Option.some.injEq, D.int.injEq, D.bl.injEq, D.loc.injEq, exists_eq_left', exists_eq_left, exists_eq_left2, exists_eq_left3, bindT_two, bindPar_end, wipeE, ofC_one, ofC_nil, itT0, itT1, itT2, itT3, deq_str, if_true, if_false, Bool.false_eq_true, true_and, and_true, Nat.zero_add]
  refine ⟨Nat.zero_le _, ?_⟩
  have le2 : Le S (S1 ++ [.list []]) := le1.trans (Le.push _ _)
  have lu : Le S1 (S1 ++ [.list []]) := Le.push _ _
  rw [deq_LP (h.le le2) push_nil]
  cases row with
  | nil =>
    simp only [ws_cons, ws_nil, ws_ite, s_ret, s_expr, s_asg, s_par, s_pass, s_aug, s_setFld, s_setSub, s_for, e_prim, e_cons, e_nil, e_var, e_cst, e_glb, e_tup, e_lst, e_dnew, e_and, e_or, e_not, e_ifx, e_call, e_fld, e_meth, e_lm, e_sl2, e_slL, e_slH, p_addI, p_addT, p_addL, p_sub, p_mulI, p_mulL, p_mod, p_fdiv, p_pow, p_neg, p_eq, p_ne, p_lt, p_le, p_gt, p_ge, p_in, p_notin, p_isN, p_notN, p_isB, p_notB, p_item, p_rev, p_lenT, p_lenL, p_lenset, p_sorted, p_dict1, p_listT, p_isBoolB, sl_tup, ret_rt, bind_name, bindPar_ok, List.getElem?_cons_zero, List.getElem?_cons_succ, List.length_cons, List.length_nil, List.set_cons_zero, List.set_cons_succ, Option.some.injEq, D.int.injEq, D.bl.injEq, D.loc.injEq, exists_eq_left', exists_eq_left, exists_eq_left2, exists_eq_left3, bindT_two, bindPar_end, wipeE, ofC_one, ofC_nil, itT0, itT1, itT2, itT3, deq_str, if_true, if_false, Bool.false_eq_true, true_and, and_true, Nat.zero_add, decide_true]
    exact q _ le2
  | cons a r =>
    simp only [ws_cons, ws_nil, ws_ite, s_ret, s_expr, s_asg, s_par, s_pass, s_aug, s_setFld, s_setSub, s_for, e_prim, e_cons, e_nil, e_var, e_cst, e_glb, e_tup, e_lst, e_dnew, e_and, e_or, e_not, e_ifx, e_call, e_fld, e_meth, e_lm, e_sl2, e_slL, e_slH, p_addI, p_addT, p_addL, p_sub, p_mulI, p_mulL, p_mod, p_fdiv, p_pow, p_neg, p_eq, p_ne, p_lt, p_le, p_gt, p_ge, p_in, p_notin, p_isN, p_notN, p_isB, p_notB, p_item, p_rev, p_lenT, p_lenL, p_lenset, p_sorted, p_dict1, p_listT, p_isBoolB, sl_tup, ret_rt, bind_name, bindPar_ok, List.getElem?_cons_zero, List.getElem?_cons_succ, List.length_cons, List.length_nil, List.set_cons_zero, List.set_cons_succ, Option.some.injEq, D.int.injEq, D.bl.injEq, D.loc.injEq, exists_eq_left', exists_eq_left, exists_eq_left2, exists_eq_left3, bindT_two, bindPar_end, wipeE, ofC_one, ofC_nil, itT0, itT1, itT2, itT3, deq_str, if_true, if_false, Bool.false_eq_true, true_and, and_true, Nat.zero_add, reduceCtorEq, decide_false]
    have hww : wait wl p (a :: r) = (decide (a = p) && (((a :: r).all (fun q => (uget (ups wl) q).isSome) && decide (a :: r).Nodup) && (((a :: r).zip (a :: r).tail).all (fun q => decide (uget (ups wl) q.1 = some (some q.2))) && lastOf (ups wl) (a :: r)))) := by
      unfold wait
      simp only [Bool.and_assoc]
    rw [hww] at q
    refine ⟨dP a, it_list (n := 0) (h.le le2) rfl, decide (a = p), deq_P, ?_⟩
    by_cases hap : a = p
    · subst hap
      simp only [decide_true, Bool.not_true, ws_cons, ws_nil, ws_ite, s_ret, s_expr, s_asg, s_par, s_pass, s_aug, s_setFld, s_setSub, s_for, e_prim, e_cons, e_nil, e_var, e_cst, e_glb, e_tup, e_lst, e_dnew, e_and, e_or, e_not, e_ifx, e_call, e_fld, e_meth, e_lm, e_sl2, e_slL, e_slH, p_addI, p_addT, p_addL, p_sub, p_mulI, p_mulL, p_mod, p_fdiv, p_pow, p_neg, p_eq, p_ne, p_lt, p_le, p_gt, p_ge, p_in, p_notin, p_isN, p_notN, p_isB, p_notB, p_item, p_rev, p_lenT, p_lenL, p_lenset, p_sorted, p_dict1, p_listT, p_isBoolB, sl_tup, ret_rt, bind_name, bindPar_ok, List.getElem?_cons_zero, List.getElem?_cons_succ, List.length_cons, List.length_nil, List.set_cons_zero, List.set_cons_succ, Option.some.injEq, D.int.injEq, D.bl.injEq, D.loc.injEq, exists_eq_left', exists_eq_left, exists_eq_left2, exists_eq_left3, bindT_two, bindPar_end, wipeE, ofC_one, ofC_nil, itT0, itT1, itT2, itT3, deq_str, if_true, if_false, Bool.false_eq_true, true_and, and_true, Nat.zero_add, Bool.true_and] at q ⊢
      refine e_mapL dP (fun b => .bl (!(uget (ups wl) b).isSome || decide (((1 : Nat) : Int) < (((a :: r).countP fun q => decide (q = b) : Nat) : Int)))) ?_
      simp only [ws_cons, ws_nil, ws_ite, s_ret, s_expr, s_asg, s_par, s_pass, s_aug, s_setFld, s_setSub, s_for, e_prim, e_cons, e_nil, e_var, e_cst, e_glb, e_tup, e_lst, e_dnew, e_and, e_or, e_not, e_ifx, e_call, e_fld, e_meth, e_lm, e_sl2, e_slL, e_slH, p_addI, p_addT, p_addL, p_sub, p_mulI, p_mulL, p_mod, p_fdiv, p_pow, p_neg, p_eq, p_ne, p_lt, p_le, p_gt, p_ge, p_in, p_notin, p_isN, p_notN, p_isB, p_notB, p_item, p_rev, p_lenT, p_lenL, p_lenset, p_sorted, p_dict1, p_listT, p_isBoolB, sl_tup, ret_rt, bind_name, bindPar_ok, List.getElem?_cons_zero, List.getElem?_cons_succ, List.length_cons, List.length_nil, List.set_cons_zero, List.set_cons_succ, Option.some.injEq, D.int.injEq, D.bl.injEq, D.loc.injEq, exists_eq_left', exists_eq_left, exists_eq_left2, exists_eq_left3, bindT_two, bindPar_end, wipeE, ofC_one, ofC_nil, itT0, itT1, itT2, itT3, deq_str, if_true, if_false, Bool.false_eq_true, true_and, and_true, Nat.zero_add]
      refine ⟨l, a :: r, rfl, h.le le2, hc, fun b S4 hb hle => ?_, fun S2 le3 hL => ?_⟩
      · simp only [ws_cons, ws_nil, ws_ite, s_ret, s_expr, s_asg, s_par, s_pass, s_aug, s_setFld, s_setSub, s_for, e_prim, e_cons, e_nil, e_var, e_cst, e_glb, e_tup, e_lst, e_dnew, e_and, e_or, e_not, e_ifx, e_call, e_fld, e_meth, e_lm, e_sl2, e_slL, e_slH, p_addI, p_addT, p_addL, p_sub, p_mulI, p_mulL, p_mod, p_fdiv, p_pow, p_neg, p_eq, p_ne, p_lt, p_le, p_gt, p_ge, p_in, p_notin, p_isN, p_notN, p_isB, p_notB, p_item, p_rev, p_lenT, p_lenL, p_lenset, p_sorted, p_dict1, p_listT, p_isBoolB, sl_tup, ret_rt, bind_name, bindPar_ok, List.getElem?_cons_zero, List.getElem?_cons_succ, List.length_cons, List.length_nil, List.set_cons_zero, List.set_cons_succ, Option.some.injEq, D.int.injEq, D.bl.injEq, D.loc.injEq, exists_eq_left', exists_eq_left, exists_eq_left2, exists_eq_left3, bindT_two, bindPar_end, wipeE, ofC_one, ofC_nil, itT0, itT1, itT2, itT3, deq_str, if_true, if_false, Bool.false_eq_true, true_and, and_true, Nat.zero_add, in_U (hu.le (lu.trans hle))]
        refine ⟨by decide, ?_⟩
        have hrow : HasL S4 l dP (a :: r) := h.le (le2.trans hle)
        cases hb1 : (uget (ups wl) b).isSome with
        | false =>
          simp only [Bool.not_false, ws_cons, ws_nil, ws_ite, s_ret, s_expr, s_asg, s_par, s_pass, s_aug, s_setFld, s_setSub, s_for, e_prim, e_cons, e_nil, e_var, e_cst, e_glb, e_tup, e_lst, e_dnew, e_and, e_or, e_not, e_ifx, e_call, e_fld, e_meth, e_lm, e_sl2, e_slL, e_slH, p_addI, p_addT, p_addL, p_sub, p_mulI, p_mulL, p_mod, p_fdiv, p_pow, p_neg, p_eq, p_ne, p_lt, p_le, p_gt, p_ge, p_in, p_notin, p_isN, p_notN, p_isB, p_notB, p_item, p_rev, p_lenT, p_lenL, p_lenset, p_sorted, p_dict1, p_listT, p_isBoolB, sl_tup, ret_rt, bind_name, bindPar_ok, List.getElem?_cons_zero, List.getElem?_cons_succ, List.length_cons, List.length_nil, List.set_cons_zero, List.set_cons_succ, Option.some.injEq, D.int.injEq, D.bl.injEq, D.loc.injEq, exists_eq_left', exists_eq_left, exists_eq_left2, exists_eq_left3, bindT_two, bindPar_end, wipeE, ofC_one, ofC_nil, itT0, itT1, itT2, itT3, deq_str, if_true, if_false, Bool.false_eq_true, true_and, and_true, Nat.zero_add, Bool.true_or]
          exact Le.refl _
        | true =>
          simp only [Bool.not_true, ws_cons, ws_nil, ws_ite, s_ret, s_expr, s_asg, s_par, s_pass, s_aug, s_setFld, s_setSub, s_for, e_prim, e_cons, e_nil, e_var, e_cst, e_glb, e_tup, e_lst, e_dnew, e_and, e_or, e_not, e_ifx, e_call, e_fld, e_meth, e_lm, e_sl2, e_slL, e_slH, p_addI, p_addT, p_addL, p_sub, p_mulI, p_mulL, p_mod, p_fdiv, p_pow, p_neg, p_eq, p_ne, p_lt, p_le, p_gt, p_ge, p_in, p_notin, p_isN, p_notN, p_isB, p_notB, p_item, p_rev, p_lenT, p_lenL, p_lenset, p_sorted, p_dict1, p_listT, p_isBoolB, sl_tup, ret_rt, bind_name, bindPar_ok, List.getElem?_cons_zero, List.getElem?_cons_succ, List.length_cons, List.length_nil, List.set_cons_zero, List.set_cons_succ, Option.some.injEq, D.int.injEq, D.bl.injEq, D.loc.injEq, exists_eq_left', exists_eq_left, exists_eq_left2, exists_eq_left3, bindT_two, bindPar_end, wipeE, ofC_one, ofC_nil, itT0, itT1, itT2, itT3, deq_str, if_true, if_false, Bool.false_eq_true, true_and, and_true, Nat.zero_add, Bool.false_or]
          refine ⟨by rw [li_list hrow]; rfl, ?_⟩
          rw [p_count (li_list hrow) (frz_dP b 6) (mapO_map (fun p => frz_dP p 6) _), cntP]
          simp only [ws_cons, ws_nil, ws_ite, s_ret, s_expr, s_asg, s_par, s_pass, s_aug, s_setFld, s_setSub, s_for, e_prim, e_cons, e_nil, e_var, e_cst, e_glb, e_tup, e_lst, e_dnew, e_and, e_or, e_not, e_ifx, e_call, e_fld, e_meth, e_lm, e_sl2, e_slL, e_slH, p_addI, p_addT, p_addL, p_sub, p_mulI, p_mulL, p_mod, p_fdiv, p_pow, p_neg, p_eq, p_ne, p_lt, p_le, p_gt, p_ge, p_in, p_notin, p_isN, p_notN, p_isB, p_notB, p_item, p_rev, p_lenT, p_lenL, p_lenset, p_sorted, p_dict1, p_listT, p_isBoolB, sl_tup, ret_rt, bind_name, bindPar_ok, List.getElem?_cons_zero, List.getElem?_cons_succ, List.length_cons, List.length_nil, List.set_cons_zero, List.set_cons_succ, Option.some.injEq, D.int.injEq, D.bl.injEq, D.loc.injEq, exists_eq_left', exists_eq_left, exists_eq_left2, exists_eq_left3, bindT_two, bindPar_end, wipeE, ofC_one, ofC_nil, itT0, itT1, itT2, itT3, deq_str, if_true, if_false, Bool.false_eq_true, true_and, and_true, Nat.zero_add]
          exact ⟨Le.refl _, rfl⟩
      · have le4 := le2.trans le3
        simp only [p_any_map hL, any_wait, ws_cons, ws_nil, ws_ite, s_ret, s_expr, s_asg, s_par, s_pass, s_aug, s_setFld, s_setSub, s_for, e_prim, e_cons, e_nil, e_var, e_cst, e_glb, e_tup, e_lst, e_dnew, e_and, e_or, e_not, e_ifx, e_call, e_fld, e_meth, e_lm, e_sl2, e_slL, e_slH, p_addI, p_addT, p_addL, p_sub, p_mulI, p_mulL, p_mod, p_fdiv, p_pow, p_neg, p_eq, p_ne, p_lt, p_le, p_gt, p_ge, p_in, p_notin, p_isN, p_notN, p_isB, p_notB, p_item, p_rev, p_lenT, p_lenL, p_lenset, p_sorted, p_dict1, p_listT, p_isBoolB, sl_tup, ret_rt, bind_name, bindPar_ok, List.getElem?_cons_zero, List.getElem?_cons_succ, List.length_cons, List.length_nil, List.set_cons_zero, List.set_cons_succ, Option.some.injEq, D.int.injEq, D.bl.injEq, D.loc.injEq, exists_eq_left', exists_eq_left, exists_eq_left2, exists_eq_left3, bindT_two, bindPar_end, wipeE, ofC_one, ofC_nil, itT0, itT1, itT2, itT3, deq_str, if_true, if_false, Bool.false_eq_true, true_and, and_true, Nat.zero_add]
        cases h2 : (a :: r).all (fun q => (uget (ups wl) q).isSome) && decide (a :: r).Nodup with
        | false =>
          simp only [h2, Bool.not_false, ws_cons, ws_nil, ws_ite, s_ret, s_expr, s_asg, s_par, s_pass, s_aug, s_setFld, s_setSub, s_for, e_prim, e_cons, e_nil, e_var, e_cst, e_glb, e_tup, e_lst, e_dnew, e_and, e_or, e_not, e_ifx, e_call, e_fld, e_meth, e_lm, e_sl2, e_slL, e_slH, p_addI, p_addT, p_addL, p_sub, p_mulI, p_mulL, p_mod, p_fdiv, p_pow, p_neg, p_eq, p_ne, p_lt, p_le, p_gt, p_ge, p_in, p_notin, p_isN, p_notN, p_isB, p_notB, p_item, p_rev, p_lenT, p_lenL, p_lenset, p_sorted, p_dict1, p_listT, p_isBoolB, sl_tup, ret_rt, bind_name, bindPar_ok, List.getElem?_cons_zero, List.getElem?_cons_succ, List.length_cons, List.length_nil, List.set_cons_zero, List.set_cons_succ, Option.some.injEq, D.int.injEq, D.bl.injEq, D.loc.injEq, exists_eq_left', exists_eq_left, exists_eq_left2, exists_eq_left3, bindT_two, bindPar_end, wipeE, ofC_one, ofC_nil, itT0, itT1, itT2, itT3, deq_str, if_true, if_false, Bool.false_eq_true, true_and, and_true, Nat.zero_add, Bool.false_and] at q ⊢
          exact q _ le4
        | true =>
          simp only [h2, Bool.not_true, ws_cons, ws_nil, ws_ite, s_ret, s_expr, s_asg, s_par, s_pass, s_aug, s_setFld, s_setSub, s_for, e_prim, e_cons, e_nil, e_var, e_cst, e_glb, e_tup, e_lst, e_dnew, e_and, e_or, e_not, e_ifx, e_call, e_fld, e_meth, e_lm, e_sl2, e_slL, e_slH, p_addI, p_addT, p_addL, p_sub, p_mulI, p_mulL, p_mod, p_fdiv, p_pow, p_neg, p_eq, p_ne, p_lt, p_le, p_gt, p_ge, p_in, p_notin, p_isN, p_notN, p_isB, p_notB, p_item, p_rev, p_lenT, p_lenL, p_lenset, p_sorted, p_dict1, p_listT, p_isBoolB, sl_tup, ret_rt, bind_name, bindPar_ok, List.getElem?_cons_zero, List.getElem?_cons_succ, List.length_cons, List.length_nil, List.set_cons_zero, List.set_cons_succ, Option.some.injEq, D.int.injEq, D.bl.injEq, D.loc.injEq, exists_eq_left', exists_eq_left, exists_eq_left2, exists_eq_left3, bindT_two, bindPar_end, wipeE, ofC_one, ofC_nil, itT0, itT1, itT2, itT3, deq_str, if_true, if_false, Bool.false_eq_true, true_and, and_true, Nat.zero_add, Bool.true_and] at q ⊢
          rw [Bool.and_eq_true] at h2
          obtain ⟨z, hz⟩ : ∃ z, (a :: r).getLast? = some z := ⟨_, List.getLast?_eq_some_getLast (by simp)⟩
          obtain ⟨v, hv⟩ := Option.isSome_iff_exists.mp (List.all_eq_true.mp h2.1 z (List.mem_of_getLast? hz))
          have hf : ∀ b ∈ a :: r, uget (ups wl) b = some ((uget (ups wl) b).getD none) := fun b hb => by
            obtain ⟨v, hv⟩ := Option.isSome_iff_exists.mp (List.all_eq_true.mp h2.1 b hb)
            rw [hv]
            rfl
          refine ⟨dP z, it_last (h.le le4) (by rw [List.getLast?_map, hz]; rfl), dU v, item_U (hu.le (lu.trans le3)) hv, by decide, ?_⟩
          refine e_mapL dP (fun b => dU ((uget (ups wl) b).getD none)) ?_
          simp only [ws_cons, ws_nil, ws_ite, s_ret, s_expr, s_asg, s_par, s_pass, s_aug, s_setFld, s_setSub, s_for, e_prim, e_cons, e_nil, e_var, e_cst, e_glb, e_tup, e_lst, e_dnew, e_and, e_or, e_not, e_ifx, e_call, e_fld, e_meth, e_lm, e_sl2, e_slL, e_slH, p_addI, p_addT, p_addL, p_sub, p_mulI, p_mulL, p_mod, p_fdiv, p_pow, p_neg, p_eq, p_ne, p_lt, p_le, p_gt, p_ge, p_in, p_notin, p_isN, p_notN, p_isB, p_notB, p_item, p_rev, p_lenT, p_lenL, p_lenset, p_sorted, p_dict1, p_listT, p_isBoolB, sl_tup, ret_rt, bind_name, bindPar_ok, List.getElem?_cons_zero, List.getElem?_cons_succ, List.length_cons, List.length_nil, List.set_cons_zero, List.set_cons_succ, Option.some.injEq, D.int.injEq, D.bl.injEq, D.loc.injEq, exists_eq_left', exists_eq_left, exists_eq_left2, exists_eq_left3, bindT_two, bindPar_end, wipeE, ofC_one, ofC_nil, itT0, itT1, itT2, itT3, deq_str, if_true, if_false, Bool.false_eq_true, true_and, and_true, Nat.zero_add]
          rw [sl_list (h.le le4), cut_init]
          have le5 : Le S2 (S2 ++ [.list ((a :: r).map dP).dropLast]) := Le.push _ _
          refine ⟨S2.length, (a :: r).dropLast, rfl, ?_, ?_, fun b S4 hb hle => ?_, fun S4 le6 hL2 => ?_⟩
          · unfold HasL
            rw [get_push, List.map_dropLast]
          · rw [List.length_dropLast]
            omega
          · simp only [ws_cons, ws_nil, ws_ite, s_ret, s_expr, s_asg, s_par, s_pass, s_aug, s_setFld, s_setSub, s_for, e_prim, e_cons, e_nil, e_var, e_cst, e_glb, e_tup, e_lst, e_dnew, e_and, e_or, e_not, e_ifx, e_call, e_fld, e_meth, e_lm, e_sl2, e_slL, e_slH, p_addI, p_addT, p_addL, p_sub, p_mulI, p_mulL, p_mod, p_fdiv, p_pow, p_neg, p_eq, p_ne, p_lt, p_le, p_gt, p_ge, p_in, p_notin, p_isN, p_notN, p_isB, p_notB, p_item, p_rev, p_lenT, p_lenL, p_lenset, p_sorted, p_dict1, p_listT, p_isBoolB, sl_tup, ret_rt, bind_name, bindPar_ok, List.getElem?_cons_zero, List.getElem?_cons_succ, List.length_cons, List.length_nil, List.set_cons_zero, List.set_cons_succ, Option.some.injEq, D.int.injEq, D.bl.injEq, D.loc.injEq, exists_eq_left', exists_eq_left, exists_eq_left2, exists_eq_left3, bindT_two, bindPar_end, wipeE, ofC_one, ofC_nil, itT0, itT1, itT2, itT3, deq_str, if_true, if_false, Bool.false_eq_true, true_and, and_true, Nat.zero_add, item_U (hu.le (((lu.trans le3).trans le5).trans hle)) (hf b ((List.dropLast_sublist _).subset hb))]
            exact ⟨by decide, Le.refl _⟩
          · have le8 := (le4.trans le5).trans le6
            have lu8 := ((lu.trans le3).trans le5).trans le6
            rw [sl_list (h.le le8)]
            have le9 : Le S4 (S4 ++ [.list (cut ((a :: r).map dP) (some 1) none)]) := Le.push _ _
            have h3 : HasL (S4 ++ [O.list (cut ((a :: r).map dP) (some 1) none)]) (S2 ++ [O.list ((a :: r).map dP).dropLast]).length dU ((a :: r).dropLast.map fun b => (uget (ups wl) b).getD none) := (show HasL S4 _ dU _ by
              unfold HasL at hL2 ⊢
              rw [hL2, List.map_map]
              rfl).le le9
            have h4 : HasL (S4 ++ [.list (cut ((a :: r).map dP) (some 1) none)]) S4.length dU (r.map some) := by
              unfold HasL
              rw [get_push, show (some (1 : Int)) = some ((1 : Nat) : Int) from rfl, cut_drop, List.map_map]
              rfl
            refine ⟨_, deq_LU h3 h4, ?_⟩
            have hce : decide (((a :: r).dropLast.map fun b => (uget (ups wl) b).getD none) = r.map some) = ((a :: r).zip (a :: r).tail).all fun q => decide (uget (ups wl) q.1 = some (some q.2)) := chain_eq (ups wl) _ (a :: r) hf
            rw [hce]
            cases h5 : ((a :: r).zip (a :: r).tail).all fun q => decide (uget (ups wl) q.1 = some (some q.2)) with
            | false =>
              simp only [h5, ws_cons, ws_nil, ws_ite, s_ret, s_expr, s_asg, s_par, s_pass, s_aug, s_setFld, s_setSub, s_for, e_prim, e_cons, e_nil, e_var, e_cst, e_glb, e_tup, e_lst, e_dnew, e_and, e_or, e_not, e_ifx, e_call, e_fld, e_meth, e_lm, e_sl2, e_slL, e_slH, p_addI, p_addT, p_addL, p_sub, p_mulI, p_mulL, p_mod, p_fdiv, p_pow, p_neg, p_eq, p_ne, p_lt, p_le, p_gt, p_ge, p_in, p_notin, p_isN, p_notN, p_isB, p_notB, p_item, p_rev, p_lenT, p_lenL, p_lenset, p_sorted, p_dict1, p_listT, p_isBoolB, sl_tup, ret_rt, bind_name, bindPar_ok, List.getElem?_cons_zero, List.getElem?_cons_succ, List.length_cons, List.length_nil, List.set_cons_zero, List.set_cons_succ, Option.some.injEq, D.int.injEq, D.bl.injEq, D.loc.injEq, exists_eq_left', exists_eq_left, exists_eq_left2, exists_eq_left3, bindT_two, bindPar_end, wipeE, ofC_one, ofC_nil, itT0, itT1, itT2, itT3, deq_str, if_true, if_false, Bool.false_eq_true, true_and, and_true, Nat.zero_add, Bool.false_and] at q ⊢
              exact q _ (le8.trans le9)
            | true =>
              simp only [h5, ws_cons, ws_nil, ws_ite, s_ret, s_expr, s_asg, s_par, s_pass, s_aug, s_setFld, s_setSub, s_for, e_prim, e_cons, e_nil, e_var, e_cst, e_glb, e_tup, e_lst, e_dnew, e_and, e_or, e_not, e_ifx, e_call, e_fld, e_meth, e_lm, e_sl2, e_slL, e_slH, p_addI, p_addT, p_addL, p_sub, p_mulI, p_mulL, p_mod, p_fdiv, p_pow, p_neg, p_eq, p_ne, p_lt, p_le, p_gt, p_ge, p_in, p_notin, p_isN, p_notN, p_isB, p_notB, p_item, p_rev, p_lenT, p_lenL, p_lenset, p_sorted, p_dict1, p_listT, p_isBoolB, sl_tup, ret_rt, bind_name, bindPar_ok, List.getElem?_cons_zero, List.getElem?_cons_succ, List.length_cons, List.length_nil, List.set_cons_zero, List.set_cons_succ, Option.some.injEq, D.int.injEq, D.bl.injEq, D.loc.injEq, exists_eq_left', exists_eq_left, exists_eq_left2, exists_eq_left3, bindT_two, bindPar_end, wipeE, ofC_one, ofC_nil, itT0, itT1, itT2, itT3, deq_str, if_true, if_false, Bool.false_eq_true, true_and, and_true, Nat.zero_add, Bool.true_and] at q ⊢
              unfold lastOf at q
              simp only [hz, hv] at q
              cases v with
              | none =>
                simp only [isNon_dU, decide_true, Bool.not_true, ws_cons, ws_nil, ws_ite, s_ret, s_expr, s_asg, s_par, s_pass, s_aug, s_setFld, s_setSub, s_for, e_prim, e_cons, e_nil, e_var, e_cst, e_glb, e_tup, e_lst, e_dnew, e_and, e_or, e_not, e_ifx, e_call, e_fld, e_meth, e_lm, e_sl2, e_slL, e_slH, p_addI, p_addT, p_addL, p_sub, p_mulI, p_mulL, p_mod, p_fdiv, p_pow, p_neg, p_eq, p_ne, p_lt, p_le, p_gt, p_ge, p_in, p_notin, p_isN, p_notN, p_isB, p_notB, p_item, p_rev, p_lenT, p_lenL, p_lenset, p_sorted, p_dict1, p_listT, p_isBoolB, sl_tup, ret_rt, bind_name, bindPar_ok, List.getElem?_cons_zero, List.getElem?_cons_succ, List.length_cons, List.length_nil, List.set_cons_zero, List.set_cons_succ, Option.some.injEq, D.int.injEq, D.bl.injEq, D.loc.injEq, exists_eq_left', exists_eq_left, exists_eq_left2, exists_eq_left3, bindT_two, bindPar_end, wipeE, ofC_one, ofC_nil, itT0, itT1, itT2, itT3, deq_str, if_true, if_false, Bool.false_eq_true, true_and, and_true, Nat.zero_add] at q ⊢
                exact q _ (le8.trans le9)
              | some g =>
                simp only [isNon_dU, reduceCtorEq, decide_false, Bool.not_false, ws_cons, ws_nil, ws_ite, s_ret, s_expr, s_asg, s_par, s_pass, s_aug, s_setFld, s_setSub, s_for, e_prim, e_cons, e_nil, e_var, e_cst, e_glb, e_tup, e_lst, e_dnew, e_and, e_or, e_not, e_ifx, e_call, e_fld, e_meth, e_lm, e_sl2, e_slL, e_slH, p_addI, p_addT, p_addL, p_sub, p_mulI, p_mulL, p_mod, p_fdiv, p_pow, p_neg, p_eq, p_ne, p_lt, p_le, p_gt, p_ge, p_in, p_notin, p_isN, p_notN, p_isB, p_notB, p_item, p_rev, p_lenT, p_lenL, p_lenset, p_sorted, p_dict1, p_listT, p_isBoolB, sl_tup, ret_rt, bind_name, bindPar_ok, List.getElem?_cons_zero, List.getElem?_cons_succ, List.length_cons, List.length_nil, List.set_cons_zero, List.set_cons_succ, Option.some.injEq, D.int.injEq, D.bl.injEq, D.loc.injEq, exists_eq_left', exists_eq_left, exists_eq_left2, exists_eq_left3, bindT_two, bindPar_end, wipeE, ofC_one, ofC_nil, itT0, itT1, itT2, itT3, deq_str, if_true, if_false, Bool.false_eq_true, true_and, and_true, Nat.zero_add] at q ⊢
                refine ⟨_, in_U (hu.le (lu8.trans le9)) g, ?_⟩
                cases hg : (uget (ups wl) g).isSome with
                | false =>
                  simp only [hg, Bool.not_false, Bool.true_or, ws_cons, ws_nil, ws_ite, s_ret, s_expr, s_asg, s_par, s_pass, s_aug, s_setFld, s_setSub, s_for, e_prim, e_cons, e_nil, e_var, e_cst, e_glb, e_tup, e_lst, e_dnew, e_and, e_or, e_not, e_ifx, e_call, e_fld, e_meth, e_lm, e_sl2, e_slL, e_slH, p_addI, p_addT, p_addL, p_sub, p_mulI, p_mulL, p_mod, p_fdiv, p_pow, p_neg, p_eq, p_ne, p_lt, p_le, p_gt, p_ge, p_in, p_notin, p_isN, p_notN, p_isB, p_notB, p_item, p_rev, p_lenT, p_lenL, p_lenset, p_sorted, p_dict1, p_listT, p_isBoolB, sl_tup, ret_rt, bind_name, bindPar_ok, List.getElem?_cons_zero, List.getElem?_cons_succ, List.length_cons, List.length_nil, List.set_cons_zero, List.set_cons_succ, Option.some.injEq, D.int.injEq, D.bl.injEq, D.loc.injEq, exists_eq_left', exists_eq_left, exists_eq_left2, exists_eq_left3, bindT_two, bindPar_end, wipeE, ofC_one, ofC_nil, itT0, itT1, itT2, itT3, deq_str, if_true, if_false, Bool.false_eq_true, true_and, and_true, Nat.zero_add] at q ⊢
                  exact q _ (le8.trans le9)
                | true =>
                  simp only [hg, Bool.not_true, Bool.false_or, ws_cons, ws_nil, ws_ite, s_ret, s_expr, s_asg, s_par, s_pass, s_aug, s_setFld, s_setSub, s_for, e_prim, e_cons, e_nil, e_var, e_cst, e_glb, e_tup, e_lst, e_dnew, e_and, e_or, e_not, e_ifx, e_call, e_fld, e_meth, e_lm, e_sl2, e_slL, e_slH, p_addI, p_addT, p_addL, p_sub, p_mulI, p_mulL, p_mod, p_fdiv, p_pow, p_neg, p_eq, p_ne, p_lt, p_le, p_gt, p_ge, p_in, p_notin, p_isN, p_notN, p_isB, p_notB, p_item, p_rev, p_lenT, p_lenL, p_lenset, p_sorted, p_dict1, p_listT, p_isBoolB, sl_tup, ret_rt, bind_name, bindPar_ok, List.getElem?_cons_zero, List.getElem?_cons_succ, List.length_cons, List.length_nil, List.set_cons_zero, List.set_cons_succ, Option.some.injEq, D.int.injEq, D.bl.injEq, D.loc.injEq, exists_eq_left', exists_eq_left, exists_eq_left2, exists_eq_left3, bindT_two, bindPar_end, wipeE, ofC_one, ofC_nil, itT0, itT1, itT2, itT3, deq_str, if_true, if_false, Bool.false_eq_true, true_and, and_true, Nat.zero_add] at q ⊢
                  exact ⟨_, in_LP (h.le (le8.trans le9)) g, q _ (le8.trans le9)⟩
    · simp only [hap, decide_false, Bool.not_false, ws_cons, ws_nil, ws_ite, s_ret, s_expr, s_asg, s_par, s_pass, s_aug, s_setFld, s_setSub, s_for, e_prim, e_cons, e_nil, e_var, e_cst, e_glb, e_tup, e_lst, e_dnew, e_and, e_or, e_not, e_ifx, e_call, e_fld, e_meth, e_lm, e_sl2, e_slL, e_slH, p_addI, p_addT, p_addL, p_sub, p_mulI, p_mulL, p_mod, p_fdiv, p_pow, p_neg, p_eq, p_ne, p_lt, p_le, p_gt, p_ge, p_in, p_notin, p_isN, p_notN, p_isB, p_notB, p_item, p_rev, p_lenT, p_lenL, p_lenset, p_sorted, p_dict1, p_listT, p_isBoolB, sl_tup, ret_rt, bind_name, bindPar_ok, List.getElem?_cons_zero, List.getElem?_cons_succ, List.length_cons, List.length_nil, List.set_cons_zero, List.set_cons_succ, Option.some.injEq, D.int.injEq, D.bl.injEq, D.loc.injEq, exists_eq_left', exists_eq_left, exists_eq_left2, exists_eq_left3, bindT_two, bindPar_end, wipeE, ofC_one, ofC_nil, itT0, itT1, itT2, itT3, deq_str, if_true, if_false, Bool.false_eq_true, true_and, and_true, Nat.zero_add, Bool.false_and] at q ⊢
      exact q _ le2
end MI.Law

namespace MI.Law
open PySem MI
theorem nodup_len : ∀ xs ys : List Part, xs.Nodup → (∀ x ∈ xs, x ∈ ys) → xs.length ≤ ys.length
  | [], _, _, _ => Nat.zero_le _
  | x :: xs, ys, h, hs => by
    have hx : x ∈ ys := hs x List.mem_cons_self
    have ih := nodup_len xs (ys.erase x) (List.nodup_cons.mp h).2 fun y hy => by
      have hne : y ≠ x := fun e => (List.nodup_cons.mp h).1 (e ▸ hy)
      exact (List.mem_erase_of_ne hne).mpr (hs y (List.mem_cons_of_mem _ hy))
    rw [List.length_erase_of_mem hx] at ih
    have : 0 < ys.length := List.length_pos_of_mem hx
    rw [List.length_cons]
    omega
theorem uget_mem {u : Ups} {p : Part} (h : (uget u p).isSome = true) : p ∈ u.map (·.1) := by
  unfold uget at h
  rw [Option.isSome_map, List.find?_isSome] at h
  obtain ⟨q, h1, h2⟩ := h
  exact List.mem_map.mpr ⟨q, h1, of_decide_eq_true h2⟩
theorem chain_len {u : Ups} {xs : List Part} (h : xs.Nodup) (hs : ∀ x ∈ xs, (uget u x).isSome = true) : xs.length ≤ u.length := by
  have := nodup_len xs (u.map (·.1)) h fun x hx => uget_mem (hs x hx)
  rwa [List.length_map] at this
theorem filterMap_keep (xs os : List Part) : xs.filterMap (fun q => if decide (q ∈ os) then some (dP q) else none) = (xs.filter fun q => decide (q ∈ os)).map dP := by
  induction xs with
  | nil => rfl
  | cons a r ih =>
    rw [List.filterMap_cons, List.filter_cons]
    cases decide (a ∈ os) with
    | true => simp only [if_true, ih, List.map_cons]
    | false => simp only [Bool.false_eq_true, if_false, ih]
theorem sp14 {n : Nat} {S : Store} {m o : Nat} {u : Ups} {os : List Part} {p : Part} (hu : HasU S m u) (ho : HasL S o dP os) (hp : (uget u p).isSome = true) (hcu : u.length < 1000) {Q : D → Store → Prop} (q : ∀ S' s l row, Le S S' → HasL S' l dP row → row ≠ [] → row.length ≤ u.length → Q (.tup [.str s, .loc l]) S') : wp (run G (n + 1) 14 [.loc m, .loc o, dP p] S) Q := by
  refine (wp_run (fn := ⟨3, 7, b14⟩) rfl rfl).mpr ?_
  show ws (execs G (run G n) b14 [some (.loc m), some (.loc o), some (dP p), none, none, none, none] S) _
  unfold b14
  simp only [ws_cons, ws_nil, ws_ite, s_ret, s_expr, s_asg, s_par, s_pass, s_aug, s_setFld, s_setSub, s_for, e_prim, e_cons, e_nil, e_var, e_cst, e_glb, e_tup, e_lst, e_dnew, e_and, e_or, e_not, e_ifx, e_call, e_fld, e_meth, e_lm, e_sl2, e_slL, e_slH, p_addI, p_addT, p_addL, p_sub, p_mulI, p_mulL, p_mod, p_fdiv, p_pow, p_neg, p_eq, p_ne, p_lt, p_le, p_gt, p_ge, p_in, p_notin, p_isN, p_notN, p_isB, p_notB, p_item, p_rev, p_lenT, p_lenL, p_lenset, p_sorted, p_dict1, p_listT, p_isBoolB, sl_tup, ret_rt, bind_name, bindPar_ok, List.getElem?_cons_zero, List.getElem?_cons_succ, List.length_cons, List.length_nil, List.set_cons_zero, List.set_cons_succ, Option.some.injEq, D.int.injEq, D.bl.injEq, D.loc.injEq, exists_eq_left', exists_eq_left, exists_eq_left2, exists_eq_left3, bindT_two, bindPar_end, wipeE, ofC_one, ofC_nil, itT0, itT1, itT2, itT3, deq_str, if_true, if_false, Bool.false_eq_true, true_and, and_true, Nat.zero_add]
  refine ⟨by decide, by decide, ?_⟩
  refine while_run (fun e S' => ∃ (chain : List Part) (x : Option D), e = [some (.loc m), some (.loc o), some (dP p), some (.loc S.length), x, none, none] ∧ Le S S' ∧ HasL S' S.length dP chain ∧ chain ≠ [] ∧ chain.Nodup ∧ ∀ q ∈ chain, (uget u q).isSome = true) (fun e S' => match S'[S.length]? with | some (.list xs) => u.length + 1 - xs.length | _ => 0) ⟨[p], none, rfl, Le.push _ _, get_push, by simp, by simp, by simpa using hp⟩ ?_ ?_
  · show (match (S ++ [O.list [dP p]])[S.length]? with | some (.list xs) => u.length + 1 - xs.length | _ => 0) < fuelW
    rw [get_push]
    show u.length + 1 - 1 < 5000
    omega
  · rintro e S1 ⟨chain, x, rfl, le1, hc, hne, hnd, hk⟩
    obtain ⟨z, hz⟩ : ∃ z, chain.getLast? = some z := ⟨_, List.getLast?_eq_some_getLast hne⟩
    have hzk := hk z (List.mem_of_getLast? hz)
    obtain ⟨v, hv⟩ := Option.isSome_iff_exists.mp hzk
    have hlen := chain_len hnd hk
    have hmu : (match S1[S.length]? with | some (.list xs) => u.length + 1 - xs.length | _ => 0) = u.length + 1 - chain.length := by
      rw [show S1[S.length]? = some (.list (chain.map dP)) from hc]
      simp only [List.length_map]
    rw [hmu]
    simp only [ws_cons, ws_nil, ws_ite, s_ret, s_expr, s_asg, s_par, s_pass, s_aug, s_setFld, s_setSub, s_for, e_prim, e_cons, e_nil, e_var, e_cst, e_glb, e_tup, e_lst, e_dnew, e_and, e_or, e_not, e_ifx, e_call, e_fld, e_meth, e_lm, e_sl2, e_slL, e_slH, p_addI, p_addT, p_addL, p_sub, p_mulI, p_mulL, p_mod, p_fdiv, p_pow, p_neg, p_eq, p_ne, p_lt, p_le, p_gt, p_ge, p_in, p_notin, p_isN, p_notN, p_isB, p_notB, p_item, p_rev, p_lenT, p_lenL, p_lenset, p_sorted, p_dict1, p_listT, p_isBoolB, sl_tup, ret_rt, bind_name, bindPar_ok, List.getElem?_cons_zero, List.getElem?_cons_succ, List.length_cons, List.length_nil, List.set_cons_zero, List.set_cons_succ, Option.some.injEq, D.int.injEq, D.bl.injEq, D.loc.injEq, exists_eq_left', exists_eq_left, exists_eq_left2, exists_eq_left3, bindT_two, bindPar_end, wipeE, ofC_one, ofC_nil, itT0, itT1, itT2, itT3, deq_str, if_true, if_false, Bool.false_eq_true, true_and, and_true, Nat.zero_add]
    refine ⟨dP z, it_last hc (by rw [List.getLast?_map, hz]; rfl), dU v, item_U (hu.le le1) hv, by decide, ?_⟩
    cases v with
    | none =>
      simp only [isNon_dU, decide_true, ws_cons, ws_nil, ws_ite, s_ret, s_expr, s_asg, s_par, s_pass, s_aug, s_setFld, s_setSub, s_for, e_prim, e_cons, e_nil, e_var, e_cst, e_glb, e_tup, e_lst, e_dnew, e_and, e_or, e_not, e_ifx, e_call, e_fld, e_meth, e_lm, e_sl2, e_slL, e_slH, p_addI, p_addT, p_addL, p_sub, p_mulI, p_mulL, p_mod, p_fdiv, p_pow, p_neg, p_eq, p_ne, p_lt, p_le, p_gt, p_ge, p_in, p_notin, p_isN, p_notN, p_isB, p_notB, p_item, p_rev, p_lenT, p_lenL, p_lenset, p_sorted, p_dict1, p_listT, p_isBoolB, sl_tup, ret_rt, bind_name, bindPar_ok, List.getElem?_cons_zero, List.getElem?_cons_succ, List.length_cons, List.length_nil, List.set_cons_zero, List.set_cons_succ, Option.some.injEq, D.int.injEq, D.bl.injEq, D.loc.injEq, exists_eq_left', exists_eq_left, exists_eq_left2, exists_eq_left3, bindT_two, bindPar_end, wipeE, ofC_one, ofC_nil, itT0, itT1, itT2, itT3, deq_str, if_true, if_false, Bool.false_eq_true, true_and, and_true, Nat.zero_add]
      refine e_comp (A := Part) ?_
      simp only [ws_cons, ws_nil, ws_ite, s_ret, s_expr, s_asg, s_par, s_pass, s_aug, s_setFld, s_setSub, s_for, e_prim, e_cons, e_nil, e_var, e_cst, e_glb, e_tup, e_lst, e_dnew, e_and, e_or, e_not, e_ifx, e_call, e_fld, e_meth, e_lm, e_sl2, e_slL, e_slH, p_addI, p_addT, p_addL, p_sub, p_mulI, p_mulL, p_mod, p_fdiv, p_pow, p_neg, p_eq, p_ne, p_lt, p_le, p_gt, p_ge, p_in, p_notin, p_isN, p_notN, p_isB, p_notB, p_item, p_rev, p_lenT, p_lenL, p_lenset, p_sorted, p_dict1, p_listT, p_isBoolB, sl_tup, ret_rt, bind_name, bindPar_ok, List.getElem?_cons_zero, List.getElem?_cons_succ, List.length_cons, List.length_nil, List.set_cons_zero, List.set_cons_succ, Option.some.injEq, D.int.injEq, D.bl.injEq, D.loc.injEq, exists_eq_left', exists_eq_left, exists_eq_left2, exists_eq_left3, bindT_two, bindPar_end, wipeE, ofC_one, ofC_nil, itT0, itT1, itT2, itT3, deq_str, if_true, if_false, Bool.false_eq_true, true_and, and_true, Nat.zero_add]
      refine ⟨.list S.length, chain.length, chain, dP, fun q => if decide (q ∈ os) then some (dP q) else none, mk_list hc, Nat.le_refl _, ?_, fun S2 hle i => next_list (hc.le hle), fun b S2 hb hle => ?_, fun S2 hle hS => ?_⟩
      · have : (1000 : Nat) < cap := by decide
        omega
      · simp only [ws_cons, ws_nil, ws_ite, s_ret, s_expr, s_asg, s_par, s_pass, s_aug, s_setFld, s_setSub, s_for, e_prim, e_cons, e_nil, e_var, e_cst, e_glb, e_tup, e_lst, e_dnew, e_and, e_or, e_not, e_ifx, e_call, e_fld, e_meth, e_lm, e_sl2, e_slL, e_slH, p_addI, p_addT, p_addL, p_sub, p_mulI, p_mulL, p_mod, p_fdiv, p_pow, p_neg, p_eq, p_ne, p_lt, p_le, p_gt, p_ge, p_in, p_notin, p_isN, p_notN, p_isB, p_notB, p_item, p_rev, p_lenT, p_lenL, p_lenset, p_sorted, p_dict1, p_listT, p_isBoolB, sl_tup, ret_rt, bind_name, bindPar_ok, List.getElem?_cons_zero, List.getElem?_cons_succ, List.length_cons, List.length_nil, List.set_cons_zero, List.set_cons_succ, Option.some.injEq, D.int.injEq, D.bl.injEq, D.loc.injEq, exists_eq_left', exists_eq_left, exists_eq_left2, exists_eq_left3, bindT_two, bindPar_end, wipeE, ofC_one, ofC_nil, itT0, itT1, itT2, itT3, deq_str, if_true, if_false, Bool.false_eq_true, true_and, and_true, Nat.zero_add]
        refine ⟨by decide, decide (b ∈ os), in_LP ((ho.le le1).le hle) b, Le.refl _, ?_⟩
        cases decide (b ∈ os) with
        | true => exact ⟨Le.refl _, rfl⟩
        | false => rfl
      · rw [filterMap_keep] at hS
        have le2 : Le S S2 := le1.trans hle
        have hc2 : HasL S2 S.length dP chain := hc.le hle
        have hS2 : HasL S2 S1.length dP (chain.filter fun q => decide (q ∈ os)) := hS
        have fin : ∀ s, wp (prim .rev [.loc S.length] (S2 ++ [.list []])) fun d S' => Q (.tup [.str s, d]) S' := fun s => by
          simp only [ws_cons, ws_nil, ws_ite, s_ret, s_expr, s_asg, s_par, s_pass, s_aug, s_setFld, s_setSub, s_for, e_prim, e_cons, e_nil, e_var, e_cst, e_glb, e_tup, e_lst, e_dnew, e_and, e_or, e_not, e_ifx, e_call, e_fld, e_meth, e_lm, e_sl2, e_slL, e_slH, p_addI, p_addT, p_addL, p_sub, p_mulI, p_mulL, p_mod, p_fdiv, p_pow, p_neg, p_eq, p_ne, p_lt, p_le, p_gt, p_ge, p_in, p_notin, p_isN, p_notN, p_isB, p_notB, p_item, p_rev, p_lenT, p_lenL, p_lenset, p_sorted, p_dict1, p_listT, p_isBoolB, sl_tup, ret_rt, bind_name, bindPar_ok, List.getElem?_cons_zero, List.getElem?_cons_succ, List.length_cons, List.length_nil, List.set_cons_zero, List.set_cons_succ, Option.some.injEq, D.int.injEq, D.bl.injEq, D.loc.injEq, exists_eq_left', exists_eq_left, exists_eq_left2, exists_eq_left3, bindT_two, bindPar_end, wipeE, ofC_one, ofC_nil, itT0, itT1, itT2, itT3, deq_str, if_true, if_false, Bool.false_eq_true, true_and, and_true, Nat.zero_add]
          refine ⟨_, li_list (hc2.le (Le.push _ _)), q _ _ _ chain.reverse ((le2.trans (Le.push _ _)).trans (Le.push _ _)) ?_ (by simpa using hne) (by rw [List.length_reverse]; exact hlen)⟩
          unfold HasL
          rw [get_push, List.map_reverse]
        refine ⟨by decide, Nat.zero_le _, ?_⟩
        rw [deq_LP (hS2.le (Le.push _ _)) push_nil]
        refine ⟨_, rfl, ?_⟩
        have fs := fin "stands"
        have fg := fin "gone"
        simp only [ws_cons, ws_nil, ws_ite, s_ret, s_expr, s_asg, s_par, s_pass, s_aug, s_setFld, s_setSub, s_for, e_prim, e_cons, e_nil, e_var, e_cst, e_glb, e_tup, e_lst, e_dnew, e_and, e_or, e_not, e_ifx, e_call, e_fld, e_meth, e_lm, e_sl2, e_slL, e_slH, p_addI, p_addT, p_addL, p_sub, p_mulI, p_mulL, p_mod, p_fdiv, p_pow, p_neg, p_eq, p_ne, p_lt, p_le, p_gt, p_ge, p_in, p_notin, p_isN, p_notN, p_isB, p_notB, p_item, p_rev, p_lenT, p_lenL, p_lenset, p_sorted, p_dict1, p_listT, p_isBoolB, sl_tup, ret_rt, bind_name, bindPar_ok, List.getElem?_cons_zero, List.getElem?_cons_succ, List.length_cons, List.length_nil, List.set_cons_zero, List.set_cons_succ, Option.some.injEq, D.int.injEq, D.bl.injEq, D.loc.injEq, exists_eq_left', exists_eq_left, exists_eq_left2, exists_eq_left3, bindT_two, bindPar_end, wipeE, ofC_one, ofC_nil, itT0, itT1, itT2, itT3, deq_str, if_true, if_false, Bool.false_eq_true, true_and, and_true, Nat.zero_add] at fs fg
        obtain ⟨ys, f1, f2⟩ := fs
        obtain ⟨zs, g1, g2⟩ := fg
        cases decide ((chain.filter fun q => decide (q ∈ os)) = []) with
        | true =>
          simp only [ws_cons, ws_nil, ws_ite, s_ret, s_expr, s_asg, s_par, s_pass, s_aug, s_setFld, s_setSub, s_for, e_prim, e_cons, e_nil, e_var, e_cst, e_glb, e_tup, e_lst, e_dnew, e_and, e_or, e_not, e_ifx, e_call, e_fld, e_meth, e_lm, e_sl2, e_slL, e_slH, p_addI, p_addT, p_addL, p_sub, p_mulI, p_mulL, p_mod, p_fdiv, p_pow, p_neg, p_eq, p_ne, p_lt, p_le, p_gt, p_ge, p_in, p_notin, p_isN, p_notN, p_isB, p_notB, p_item, p_rev, p_lenT, p_lenL, p_lenset, p_sorted, p_dict1, p_listT, p_isBoolB, sl_tup, ret_rt, bind_name, bindPar_ok, List.getElem?_cons_zero, List.getElem?_cons_succ, List.length_cons, List.length_nil, List.set_cons_zero, List.set_cons_succ, Option.some.injEq, D.int.injEq, D.bl.injEq, D.loc.injEq, exists_eq_left', exists_eq_left, exists_eq_left2, exists_eq_left3, bindT_two, bindPar_end, wipeE, ofC_one, ofC_nil, itT0, itT1, itT2, itT3, deq_str, if_true, if_false, Bool.false_eq_true, true_and, and_true, Nat.zero_add]
          exact ⟨ys, f1, by decide, f2⟩
        | false =>
          simp only [ws_cons, ws_nil, ws_ite, s_ret, s_expr, s_asg, s_par, s_pass, s_aug, s_setFld, s_setSub, s_for, e_prim, e_cons, e_nil, e_var, e_cst, e_glb, e_tup, e_lst, e_dnew, e_and, e_or, e_not, e_ifx, e_call, e_fld, e_meth, e_lm, e_sl2, e_slL, e_slH, p_addI, p_addT, p_addL, p_sub, p_mulI, p_mulL, p_mod, p_fdiv, p_pow, p_neg, p_eq, p_ne, p_lt, p_le, p_gt, p_ge, p_in, p_notin, p_isN, p_notN, p_isB, p_notB, p_item, p_rev, p_lenT, p_lenL, p_lenset, p_sorted, p_dict1, p_listT, p_isBoolB, sl_tup, ret_rt, bind_name, bindPar_ok, List.getElem?_cons_zero, List.getElem?_cons_succ, List.length_cons, List.length_nil, List.set_cons_zero, List.set_cons_succ, Option.some.injEq, D.int.injEq, D.bl.injEq, D.loc.injEq, exists_eq_left', exists_eq_left, exists_eq_left2, exists_eq_left3, bindT_two, bindPar_end, wipeE, ofC_one, ofC_nil, itT0, itT1, itT2, itT3, deq_str, if_true, if_false, Bool.false_eq_true, true_and, and_true, Nat.zero_add]
          exact ⟨zs, g1, by decide, g2⟩
    | some g =>
      simp only [isNon_dU, reduceCtorEq, decide_false, ws_cons, ws_nil, ws_ite, s_ret, s_expr, s_asg, s_par, s_pass, s_aug, s_setFld, s_setSub, s_for, e_prim, e_cons, e_nil, e_var, e_cst, e_glb, e_tup, e_lst, e_dnew, e_and, e_or, e_not, e_ifx, e_call, e_fld, e_meth, e_lm, e_sl2, e_slL, e_slH, p_addI, p_addT, p_addL, p_sub, p_mulI, p_mulL, p_mod, p_fdiv, p_pow, p_neg, p_eq, p_ne, p_lt, p_le, p_gt, p_ge, p_in, p_notin, p_isN, p_notN, p_isB, p_notB, p_item, p_rev, p_lenT, p_lenL, p_lenset, p_sorted, p_dict1, p_listT, p_isBoolB, sl_tup, ret_rt, bind_name, bindPar_ok, List.getElem?_cons_zero, List.getElem?_cons_succ, List.length_cons, List.length_nil, List.set_cons_zero, List.set_cons_succ, Option.some.injEq, D.int.injEq, D.bl.injEq, D.loc.injEq, exists_eq_left', exists_eq_left, exists_eq_left2, exists_eq_left3, bindT_two, bindPar_end, wipeE, ofC_one, ofC_nil, itT0, itT1, itT2, itT3, deq_str, if_true, if_false, Bool.false_eq_true, true_and, and_true, Nat.zero_add]
      refine ⟨_, in_U (hu.le le1) g, ?_⟩
      cases hg : (uget u g).isSome with
      | false =>
        simp only [Bool.not_false, ws_cons, ws_nil, ws_ite, s_ret, s_expr, s_asg, s_par, s_pass, s_aug, s_setFld, s_setSub, s_for, e_prim, e_cons, e_nil, e_var, e_cst, e_glb, e_tup, e_lst, e_dnew, e_and, e_or, e_not, e_ifx, e_call, e_fld, e_meth, e_lm, e_sl2, e_slL, e_slH, p_addI, p_addT, p_addL, p_sub, p_mulI, p_mulL, p_mod, p_fdiv, p_pow, p_neg, p_eq, p_ne, p_lt, p_le, p_gt, p_ge, p_in, p_notin, p_isN, p_notN, p_isB, p_notB, p_item, p_rev, p_lenT, p_lenL, p_lenset, p_sorted, p_dict1, p_listT, p_isBoolB, sl_tup, ret_rt, bind_name, bindPar_ok, List.getElem?_cons_zero, List.getElem?_cons_succ, List.length_cons, List.length_nil, List.set_cons_zero, List.set_cons_succ, Option.some.injEq, D.int.injEq, D.bl.injEq, D.loc.injEq, exists_eq_left', exists_eq_left, exists_eq_left2, exists_eq_left3, bindT_two, bindPar_end, wipeE, ofC_one, ofC_nil, itT0, itT1, itT2, itT3, deq_str, if_true, if_false, Bool.false_eq_true, true_and, and_true, Nat.zero_add]
        exact ⟨by decide, q _ _ _ chain le1 hc hne hlen⟩
      | true =>
        simp only [Bool.not_true, ws_cons, ws_nil, ws_ite, s_ret, s_expr, s_asg, s_par, s_pass, s_aug, s_setFld, s_setSub, s_for, e_prim, e_cons, e_nil, e_var, e_cst, e_glb, e_tup, e_lst, e_dnew, e_and, e_or, e_not, e_ifx, e_call, e_fld, e_meth, e_lm, e_sl2, e_slL, e_slH, p_addI, p_addT, p_addL, p_sub, p_mulI, p_mulL, p_mod, p_fdiv, p_pow, p_neg, p_eq, p_ne, p_lt, p_le, p_gt, p_ge, p_in, p_notin, p_isN, p_notN, p_isB, p_notB, p_item, p_rev, p_lenT, p_lenL, p_lenset, p_sorted, p_dict1, p_listT, p_isBoolB, sl_tup, ret_rt, bind_name, bindPar_ok, List.getElem?_cons_zero, List.getElem?_cons_succ, List.length_cons, List.length_nil, List.set_cons_zero, List.set_cons_succ, Option.some.injEq, D.int.injEq, D.bl.injEq, D.loc.injEq, exists_eq_left', exists_eq_left, exists_eq_left2, exists_eq_left3, bindT_two, bindPar_end, wipeE, ofC_one, ofC_nil, itT0, itT1, itT2, itT3, deq_str, if_true, if_false, Bool.false_eq_true, true_and, and_true, Nat.zero_add]
        refine ⟨_, in_LP hc g, ?_⟩
        by_cases hgc : g ∈ chain
        · simp only [decide_eq_true hgc, ws_cons, ws_nil, ws_ite, s_ret, s_expr, s_asg, s_par, s_pass, s_aug, s_setFld, s_setSub, s_for, e_prim, e_cons, e_nil, e_var, e_cst, e_glb, e_tup, e_lst, e_dnew, e_and, e_or, e_not, e_ifx, e_call, e_fld, e_meth, e_lm, e_sl2, e_slL, e_slH, p_addI, p_addT, p_addL, p_sub, p_mulI, p_mulL, p_mod, p_fdiv, p_pow, p_neg, p_eq, p_ne, p_lt, p_le, p_gt, p_ge, p_in, p_notin, p_isN, p_notN, p_isB, p_notB, p_item, p_rev, p_lenT, p_lenL, p_lenset, p_sorted, p_dict1, p_listT, p_isBoolB, sl_tup, ret_rt, bind_name, bindPar_ok, List.getElem?_cons_zero, List.getElem?_cons_succ, List.length_cons, List.length_nil, List.set_cons_zero, List.set_cons_succ, Option.some.injEq, D.int.injEq, D.bl.injEq, D.loc.injEq, exists_eq_left', exists_eq_left, exists_eq_left2, exists_eq_left3, bindT_two, bindPar_end, wipeE, ofC_one, ofC_nil, itT0, itT1, itT2, itT3, deq_str, if_true, if_false, Bool.false_eq_true, true_and, and_true, Nat.zero_add]
          exact ⟨by decide, q _ _ _ chain le1 hc hne hlen⟩
        · simp only [decide_eq_false hgc, ws_cons, ws_nil, ws_ite, s_ret, s_expr, s_asg, s_par, s_pass, s_aug, s_setFld, s_setSub, s_for, e_prim, e_cons, e_nil, e_var, e_cst, e_glb, e_tup, e_lst, e_dnew, e_and, e_or, e_not, e_ifx, e_call, e_fld, e_meth, e_lm, e_sl2, e_slL, e_slH, p_addI, p_addT, p_addL, p_sub, p_mulI, p_mulL, p_mod, p_fdiv, p_pow, p_neg, p_eq, p_ne, p_lt, p_le, p_gt, p_ge, p_in, p_notin, p_isN, p_notN, p_isB, p_notB, p_item, p_rev, p_lenT, p_lenL, p_lenset, p_sorted, p_dict1, p_listT, p_isBoolB, sl_tup, ret_rt, bind_name, bindPar_ok, List.getElem?_cons_zero, List.getElem?_cons_succ, List.length_cons, List.length_nil, List.set_cons_zero, List.set_cons_succ, Option.some.injEq, D.int.injEq, D.bl.injEq, D.loc.injEq, exists_eq_left', exists_eq_left, exists_eq_left2, exists_eq_left3, bindT_two, bindPar_end, wipeE, ofC_one, ofC_nil, itT0, itT1, itT2, itT3, deq_str, if_true, if_false, Bool.false_eq_true, true_and, and_true, Nat.zero_add]
          have hnd2 : (chain ++ [g]).Nodup := List.nodup_append.mpr ⟨hnd, by simp, fun a ha b hb => by
            have : b = g := by simpa using hb
            intro e
            exact hgc (by rw [← this, ← e]; exact ha)⟩
          have hk2 : ∀ q ∈ chain ++ [g], (uget u q).isSome = true := fun q hq => by
            rcases List.mem_append.mp hq with h | h
            · exact hk q h
            · have : q = g := by simpa using h
              rw [this]; exact hg
          have hlen2 := chain_len hnd2 hk2
          rw [List.length_append, List.length_singleton] at hlen2
          refine ⟨by rw [li_list hc]; rfl, ?_⟩
          rw [p_append hc]
          have hset : HasL (S1.set S.length (.list (chain.map dP ++ [dU (some g)]))) S.length dP (chain ++ [g]) := by
            unfold HasL
            rw [set_get hc, List.map_append]
            rfl
          refine ⟨?_, ⟨chain ++ [g], _, rfl, le1.put (Nat.le_refl _) _, hset, by simp, hnd2, hk2⟩, ?_⟩
          · rw [List.length_map]
            have : (1000 : Nat) < cap := by decide
            omega
          · rw [show (S1.set S.length (.list (chain.map dP ++ [dU (some g)])))[S.length]? = _ from hset]
            simp only [List.length_map, List.length_append, List.length_singleton]
            omega
theorem sp15 {n : Nat} {S : Store} {w : Nat} {wl : List Word} {p : Part} (hw : HasL S w dW wl) (hcw : wl.length < 1000) (hp : (uget (ups wl) p).isSome = true) {Q : D → Store → Prop} (q : ∀ S' s l row, Le S S' → HasL S' l dP row → row ≠ [] → row.length ≤ (ups wl).length → Q (.tup [.str s, .loc l]) S') : wp (run G (n + 2) 15 [.loc w, dP p] S) Q := by
  have hcap : wl.length < cap := by
    have : (1000 : Nat) < cap := by decide
    omega
  refine (wp_run (fn := ⟨2, 3, b15⟩) rfl rfl).mpr ?_
  show ws (execs G (run G (n + 1)) b15 [some (.loc w), some (dP p), none] S) _
  unfold b15
  simp only [ws_cons, ws_nil, ws_ite, s_ret, s_expr, s_asg, s_par, s_pass, s_aug, s_setFld, s_setSub, s_for, e_prim, e_cons, e_nil, e_var, e_cst, e_glb, e_tup, e_lst, e_dnew, e_and, e_or, e_not, e_ifx, e_call, e_fld, e_meth, e_lm, e_sl2, e_slL, e_slH, p_addI, p_addT, p_addL, p_sub, p_mulI, p_mulL, p_mod, p_fdiv, p_pow, p_neg, p_eq, p_ne, p_lt, p_le, p_gt, p_ge, p_in, p_notin, p_isN, p_notN, p_isB, p_notB, p_item, p_rev, p_lenT, p_lenL, p_lenset, p_sorted, p_dict1, p_listT, p_isBoolB, sl_tup, ret_rt, bind_name, bindPar_ok, List.getElem?_cons_zero, List.getElem?_cons_succ, List.length_cons, List.length_nil, List.set_cons_zero, List.set_cons_succ, Option.some.injEq, D.int.injEq, D.bl.injEq, D.loc.injEq, exists_eq_left', exists_eq_left, exists_eq_left2, exists_eq_left3, bindT_two, bindPar_end, wipeE, ofC_one, ofC_nil, itT0, itT1, itT2, itT3, deq_str, if_true, if_false, Bool.false_eq_true, true_and, and_true, Nat.zero_add]
  refine sp13 hw hcap fun S1 m le1 hu => ?_
  refine e_comp (A := Word) ?_
  simp only [ws_cons, ws_nil, ws_ite, s_ret, s_expr, s_asg, s_par, s_pass, s_aug, s_setFld, s_setSub, s_for, e_prim, e_cons, e_nil, e_var, e_cst, e_glb, e_tup, e_lst, e_dnew, e_and, e_or, e_not, e_ifx, e_call, e_fld, e_meth, e_lm, e_sl2, e_slL, e_slH, p_addI, p_addT, p_addL, p_sub, p_mulI, p_mulL, p_mod, p_fdiv, p_pow, p_neg, p_eq, p_ne, p_lt, p_le, p_gt, p_ge, p_in, p_notin, p_isN, p_notN, p_isB, p_notB, p_item, p_rev, p_lenT, p_lenL, p_lenset, p_sorted, p_dict1, p_listT, p_isBoolB, sl_tup, ret_rt, bind_name, bindPar_ok, List.getElem?_cons_zero, List.getElem?_cons_succ, List.length_cons, List.length_nil, List.set_cons_zero, List.set_cons_succ, Option.some.injEq, D.int.injEq, D.bl.injEq, D.loc.injEq, exists_eq_left', exists_eq_left, exists_eq_left2, exists_eq_left3, bindT_two, bindPar_end, wipeE, ofC_one, ofC_nil, itT0, itT1, itT2, itT3, deq_str, if_true, if_false, Bool.false_eq_true, true_and, and_true, Nat.zero_add]
  refine ⟨.list w, wl.length, wl, dW, fun w => match w with | .out p => some (dP p) | _ => none, mk_list (hw.le le1), Nat.le_refl _, hcap, fun S2 hle i => next_list ((hw.le le1).le hle), fun w S2 hw hle => ?_, fun S2 hle hS => ?_⟩
  · simp only [ws_cons, ws_nil, ws_ite, s_ret, s_expr, s_asg, s_par, s_pass, s_aug, s_setFld, s_setSub, s_for, e_prim, e_cons, e_nil, e_var, e_cst, e_glb, e_tup, e_lst, e_dnew, e_and, e_or, e_not, e_ifx, e_call, e_fld, e_meth, e_lm, e_sl2, e_slL, e_slH, p_addI, p_addT, p_addL, p_sub, p_mulI, p_mulL, p_mod, p_fdiv, p_pow, p_neg, p_eq, p_ne, p_lt, p_le, p_gt, p_ge, p_in, p_notin, p_isN, p_notN, p_isB, p_notB, p_item, p_rev, p_lenT, p_lenL, p_lenset, p_sorted, p_dict1, p_listT, p_isBoolB, sl_tup, ret_rt, bind_name, bindPar_ok, List.getElem?_cons_zero, List.getElem?_cons_succ, List.length_cons, List.length_nil, List.set_cons_zero, List.set_cons_succ, Option.some.injEq, D.int.injEq, D.bl.injEq, D.loc.injEq, exists_eq_left', exists_eq_left, exists_eq_left2, exists_eq_left3, bindT_two, bindPar_end, wipeE, ofC_one, ofC_nil, itT0, itT1, itT2, itT3, deq_str, if_true, if_false, Bool.false_eq_true, true_and, and_true, Nat.zero_add]
    cases w with
    | out p =>
      simp only [dW, ws_cons, ws_nil, ws_ite, s_ret, s_expr, s_asg, s_par, s_pass, s_aug, s_setFld, s_setSub, s_for, e_prim, e_cons, e_nil, e_var, e_cst, e_glb, e_tup, e_lst, e_dnew, e_and, e_or, e_not, e_ifx, e_call, e_fld, e_meth, e_lm, e_sl2, e_slL, e_slH, p_addI, p_addT, p_addL, p_sub, p_mulI, p_mulL, p_mod, p_fdiv, p_pow, p_neg, p_eq, p_ne, p_lt, p_le, p_gt, p_ge, p_in, p_notin, p_isN, p_notN, p_isB, p_notB, p_item, p_rev, p_lenT, p_lenL, p_lenset, p_sorted, p_dict1, p_listT, p_isBoolB, sl_tup, ret_rt, bind_name, bindPar_ok, List.getElem?_cons_zero, List.getElem?_cons_succ, List.length_cons, List.length_nil, List.set_cons_zero, List.set_cons_succ, Option.some.injEq, D.int.injEq, D.bl.injEq, D.loc.injEq, exists_eq_left', exists_eq_left, exists_eq_left2, exists_eq_left3, bindT_two, bindPar_end, wipeE, ofC_one, ofC_nil, itT0, itT1, itT2, itT3, deq_str, if_true, if_false, Bool.false_eq_true, true_and, and_true, Nat.zero_add, oo_]
      exact ⟨by decide, Le.refl _, Le.refl _, rfl⟩
    | part p v =>
      simp only [dW, ws_cons, ws_nil, ws_ite, s_ret, s_expr, s_asg, s_par, s_pass, s_aug, s_setFld, s_setSub, s_for, e_prim, e_cons, e_nil, e_var, e_cst, e_glb, e_tup, e_lst, e_dnew, e_and, e_or, e_not, e_ifx, e_call, e_fld, e_meth, e_lm, e_sl2, e_slL, e_slH, p_addI, p_addT, p_addL, p_sub, p_mulI, p_mulL, p_mod, p_fdiv, p_pow, p_neg, p_eq, p_ne, p_lt, p_le, p_gt, p_ge, p_in, p_notin, p_isN, p_notN, p_isB, p_notB, p_item, p_rev, p_lenT, p_lenL, p_lenset, p_sorted, p_dict1, p_listT, p_isBoolB, sl_tup, ret_rt, bind_name, bindPar_ok, List.getElem?_cons_zero, List.getElem?_cons_succ, List.length_cons, List.length_nil, List.set_cons_zero, List.set_cons_succ, Option.some.injEq, D.int.injEq, D.bl.injEq, D.loc.injEq, exists_eq_left', exists_eq_left, exists_eq_left2, exists_eq_left3, bindT_two, bindPar_end, wipeE, ofC_one, ofC_nil, itT0, itT1, itT2, itT3, deq_str, if_true, if_false, Bool.false_eq_true, true_and, and_true, Nat.zero_add, po_]
      exact ⟨by decide, Le.refl _⟩
  · have hS2 : HasL S2 S1.length dP (outs wl) := by
      unfold HasL
      rw [hS]
      unfold outs
      rw [List.map_filterMap]
      congr 3
      funext w
      cases w <;> rfl
    have hul := ups_len wl
    refine sp14 (hu.le hle) hS2 hp (by omega) fun S' s l row le3 h1 h2 h3 => q _ _ _ _ ((le1.trans hle).trans le3) h1 h2 h3
end MI.Law

namespace MI.Law
open PySem MI
section
variable {S : Store} {Q : D → Store → Prop}
theorem new_P {ds : List D} (xs : List Part) (e : ds = xs.map dP) (q : ∀ S' l, Le S S' → HasL S' l dP xs → S.length ≤ l → Q (.loc l) S') : Q (.loc S.length) (S ++ [.list ds]) := by
  subst e
  exact q _ _ (Le.push _ _) get_push (Nat.le_refl _)
theorem rev_P {l : Nat} {xs : List Part} (h : HasL S l dP xs) (q : ∀ S' l, Le S S' → HasL S' l dP xs.reverse → S.length ≤ l → Q (.loc l) S') : wp (prim .rev [.loc l] S) Q :=
  p_rev.mpr ⟨_, li_list h, new_P xs.reverse (by rw [List.map_reverse]) q⟩
theorem lst_P {G : Prog} {call : Nat → List D → Store → R D} {es : List CE} {e : Env} (xs : List Part) (h : evalL G call es e S = .ok (xs.map dP) S) (hx : xs.length ≤ cap) (q : ∀ S' l, Le S S' → HasL S' l dP xs → S.length ≤ l → Q (.loc l) S') : wp (eval G call (.lst es) e S) Q := by
  rw [e_lst, h]
  exact ⟨by rw [List.length_map]; exact hx, new_P xs rfl q⟩
theorem slL_P {l n : Nat} {xs : List Part} (h : HasL S l dP xs) (q : ∀ S' l, Le S S' → HasL S' l dP (xs.drop n) → S.length ≤ l → Q (.loc l) S') : wp (sliceD (.loc l) (some (n : Nat)) none S) Q := by
  rw [sl_list h, cut_drop]
  exact new_P (xs.drop n) (by rw [List.map_drop]) q
theorem slH_P {l n : Nat} {xs : List Part} (h : HasL S l dP xs) (q : ∀ S' l, Le S S' → HasL S' l dP (xs.take n) → S.length ≤ l → Q (.loc l) S') : wp (sliceD (.loc l) none (some (n : Nat)) S) Q := by
  rw [sl_list h, cut_take]
  exact new_P (xs.take n) (by rw [List.map_take]) q
theorem slI_P {l : Nat} {xs : List Part} (h : HasL S l dP xs) (q : ∀ S' l, Le S S' → HasL S' l dP xs.dropLast → S.length ≤ l → Q (.loc l) S') : wp (sliceD (.loc l) none (some (-1)) S) Q := by
  rw [sl_list h, cut_init]
  exact new_P xs.dropLast (by rw [List.map_dropLast]) q
theorem slZ_P {l : Nat} {xs : List Part} (h : HasL S l dP xs) (q : ∀ S' l, Le S S' → HasL S' l dP (xs.drop (xs.length - 1)) → S.length ≤ l → Q (.loc l) S') : wp (sliceD (.loc l) (some (-1)) none S) Q := by
  rw [sl_list h, cut_last, List.length_map]
  exact new_P (xs.drop (xs.length - 1)) (by rw [List.map_drop]) q
theorem add_P {l m : Nat} {xs ys : List Part} (h : HasL S l dP xs) (h2 : HasL S m dP ys) (hl : xs.length + ys.length ≤ cap) (q : ∀ S' l, Le S S' → HasL S' l dP (xs ++ ys) → S.length ≤ l → Q (.loc l) S') : wp (prim .add [.loc l, .loc m] S) Q :=
  p_addL.mpr ⟨_, wi_list h, _, wi_list h2, by rw [List.length_map, List.length_map]; exact hl, new_P (xs ++ ys) (by rw [List.map_append]) q⟩
end
/-- rows found so far -/
def RowAt (S : Store) (l : Nat) : Prop := ∃ r : List Part, HasL S l dP r ∧ r.length ≤ 40
def AllR (S : Store) (ls : List Nat) : Prop := ∀ l ∈ ls, RowAt S l
theorem RowAt.le {S S' : Store} {l : Nat} (h : RowAt S l) (e : Le S S') : RowAt S' l := h.imp fun _ q => ⟨q.1.le e, q.2⟩
theorem AllR.le {S S' : Store} {ls : List Nat} (h : AllR S ls) (e : Le S S') : AllR S' ls := fun l hl => (h l hl).le e
theorem AllR.snoc {S S' : Store} {ls : List Nat} {l : Nat} (h : AllR S ls) (e : Le S S') (q : RowAt S' l) : AllR S' (ls ++ [l]) := fun m hm => by
  rcases List.mem_append.mp hm with a | a
  · exact (h.le e) m a
  · rw [List.mem_singleton.mp a]; exact q
def Found (S : Store) (L k : Nat) : Prop := ∃ ls : List Nat, S[L]? = some (.list (ls.map D.loc)) ∧ ls.length = k ∧ AllR S ls
theorem Found.le {S S' : Store} {L k : Nat} (h : Found S L k) (e : Le S S') : Found S' L k := h.imp fun _ q => ⟨e _ _ q.1, q.2.1, q.2.2.le e⟩
/-- no list of rows is a row -/
theorem row_ne {S : Store} {L l : Nat} {ls : List Nat} (h : S[L]? = some (.list (ls.map D.loc))) (hl : ls ≠ []) {r : List Part} (hr : HasL S l dP r) : l ≠ L := fun e => by
  subst e
  unfold HasL at hr
  rw [h] at hr
  cases ls with
  | nil => exact hl rfl
  | cons a ls =>
    cases r with
    | nil => cases hr
    | cons b r =>
      have := (List.cons.inj (O.list.inj (Option.some.inj hr))).1
      cases this
theorem found_app {S0 S : Store} {L k l : Nat} {Q : D → Store → Prop} (h : Found S L k) (hk : 0 < k ∧ k < 1000) (h0 : Le S0 S) (hL : S0.length ≤ L) (hr : RowAt S l) (q : ∀ S', Le S0 S' → Found S' L (k + 1) → Q .non S') : wp (prim .append [.loc L, .loc l] S) Q := by
  obtain ⟨ls, h1, h2, h3⟩ := h
  rw [p_append h1]
  have hne : ls ≠ [] := fun e => by subst e; rw [← h2] at hk; exact absurd hk.1 (Nat.lt_irrefl 0)
  have keep : ∀ m, RowAt S m → RowAt (S.set L (.list (ls.map D.loc ++ [.loc l]))) m := fun m ⟨r, a, b⟩ => ⟨r, set_ne a (row_ne h1 hne a), b⟩
  refine ⟨?_, q _ (h0.put hL _) ⟨ls ++ [l], ?_, ?_, ?_⟩⟩
  · rw [List.length_map, h2]
    have : (1000 : Nat) < cap := by decide
    omega
  · rw [set_get h1, List.map_append]
    rfl
  · rw [List.length_append, List.length_singleton, h2]
  · intro m hm
    rcases List.mem_append.mp hm with a | a
    · exact keep m (h3 m a)
    · rw [List.mem_singleton.mp a]; exact keep l hr
theorem sp19 {n : Nat} {S : Store} {l : Nat} {ns : List Int} {by_ : Int} {r : Nat} {row : List Part} {p : Part} (h : S[l]? = some (.fix (ns.map .int))) (hb : 0 ≤ by_ ∧ by_ < 3) (hr : HasL S r dP row) (hne : row ≠ []) (hl : row.length ≤ 16) {Q : D → Store → Prop} (q : ∀ S' L k, Le S S' → Found S' L k → k < 100 → Q (.loc L) S') : wp (run G (n + 3) 19 [.loc l, .int by_, .loc r, dP p] S) Q := by
  refine (wp_run (fn := ⟨4, 8, b19⟩) rfl rfl).mpr ?_
  show ws (execs G (run G (n + 2)) b19 [some (.loc l), some (.int by_), some (.loc r), some (dP p), none, none, none, none] S) _
  unfold b19
  simp only [ws_cons, ws_nil, ws_ite, s_ret, s_expr, s_asg, s_par, s_pass, s_aug, s_setFld, s_setSub, s_for, e_prim, e_cons, e_nil, e_var, e_cst, e_glb, e_tup, e_dnew, e_and, e_or, e_not, e_ifx, e_call, e_fld, e_meth, e_lm, e_sl2, e_slL, e_slH, p_addI, p_addT, p_sub, p_mulI, p_mulL, p_mod, p_fdiv, p_pow, p_neg, p_eq, p_ne, p_lt, p_le, p_gt, p_ge, p_in, p_notin, p_isN, p_notN, p_isB, p_notB, p_item, p_lenT, p_lenL, p_lenset, p_sorted, p_dict1, p_listT, p_isBoolB, sl_tup, ret_rt, bind_name, bindPar_ok, List.getElem?_cons_zero, List.getElem?_cons_succ, List.length_cons, List.length_nil, List.set_cons_zero, List.set_cons_succ, Option.some.injEq, D.int.injEq, D.bl.injEq, D.loc.injEq, exists_eq_left', exists_eq_left, exists_eq_left2, exists_eq_left3, bindT_two, bindPar_end, wipeE, ofC_one, ofC_nil, itT0, itT1, itT2, itT3, deq_str, if_true, if_false, Bool.false_eq_true, true_and, and_true, Nat.zero_add]
  have hpos : 0 < row.length := List.length_pos_iff.mpr hne
  have hc40 : (40 : Nat) ≤ cap := by decide
  refine sp9 h hb.1 fun c => ?_
  simp only [li_list hr, ws_cons, ws_nil, ws_ite, s_ret, s_expr, s_asg, s_par, s_pass, s_aug, s_setFld, s_setSub, s_for, e_prim, e_cons, e_nil, e_var, e_cst, e_glb, e_tup, e_dnew, e_and, e_or, e_not, e_ifx, e_call, e_fld, e_meth, e_lm, e_sl2, e_slL, e_slH, p_addI, p_addT, p_sub, p_mulI, p_mulL, p_mod, p_fdiv, p_pow, p_neg, p_eq, p_ne, p_lt, p_le, p_gt, p_ge, p_in, p_notin, p_isN, p_notN, p_isB, p_notB, p_item, p_lenT, p_lenL, p_lenset, p_sorted, p_dict1, p_listT, p_isBoolB, sl_tup, ret_rt, bind_name, bindPar_ok, List.getElem?_cons_zero, List.getElem?_cons_succ, List.length_cons, List.length_nil, List.set_cons_zero, List.set_cons_succ, Option.some.injEq, D.int.injEq, D.bl.injEq, D.loc.injEq, exists_eq_left', exists_eq_left, exists_eq_left2, exists_eq_left3, bindT_two, bindPar_end, wipeE, ofC_one, ofC_nil, itT0, itT1, itT2, itT3, deq_str, if_true, if_false, Bool.false_eq_true, true_and, and_true, Nat.zero_add]
  rw [List.length_map]
  refine sp11 (by omega) (by omega) fun i h1 h2 => ?_
  obtain ⟨a, rfl⟩ := Int.eq_ofNat_of_zero_le h1
  have ha : a < row.length := by omega
  refine ⟨by decide, dP row[a], it_list hr (by rw [List.getElem?_map, List.getElem?_eq_getElem ha]; rfl), by decide, ?_⟩
  generalize row[a] = one
  have R0 : RowAt S r := ⟨row, hr, by omega⟩
  have A0 : AllR S [r] := fun m hm => by rw [List.mem_singleton.mp hm]; exact R0
  rw [e_lst]
  simp only [ws_cons, ws_nil, ws_ite, s_ret, s_expr, s_asg, s_par, s_pass, s_aug, s_setFld, s_setSub, s_for, e_prim, e_cons, e_nil, e_var, e_cst, e_glb, e_tup, e_dnew, e_and, e_or, e_not, e_ifx, e_call, e_fld, e_meth, e_lm, e_sl2, e_slL, e_slH, p_addI, p_addT, p_sub, p_mulI, p_mulL, p_mod, p_fdiv, p_pow, p_neg, p_eq, p_ne, p_lt, p_le, p_gt, p_ge, p_in, p_notin, p_isN, p_notN, p_isB, p_notB, p_item, p_lenT, p_lenL, p_lenset, p_sorted, p_dict1, p_listT, p_isBoolB, sl_tup, ret_rt, bind_name, bindPar_ok, List.getElem?_cons_zero, List.getElem?_cons_succ, List.length_cons, List.length_nil, List.set_cons_zero, List.set_cons_succ, Option.some.injEq, D.int.injEq, D.bl.injEq, D.loc.injEq, exists_eq_left', exists_eq_left, exists_eq_left2, exists_eq_left3, bindT_two, bindPar_end, wipeE, ofC_one, ofC_nil, itT0, itT1, itT2, itT3, deq_str, if_true, if_false, Bool.false_eq_true, true_and, and_true, Nat.zero_add]
  refine rev_P hr fun S1 l1 e1 q1 z1 => ?_
  have A1 : AllR S1 [r, l1] := A0.snoc e1 ⟨_, q1, by rw [List.length_reverse]; omega⟩
  have le1 := e1
  refine slL_P (n := 1) (hr.le le1) fun S2 l2 e2 q2 z2 => ?_
  have A2 : AllR S2 [r, l1, l2] := A1.snoc e2 ⟨_, q2, by rw [List.length_drop]; omega⟩
  have le2 := le1.trans e2
  refine slI_P (hr.le le2) fun S3 l3 e3 q3 z3 => ?_
  have A3 : AllR S3 [r, l1, l2, l3] := A2.snoc e3 ⟨_, q3, by rw [List.length_dropLast]; omega⟩
  have le3 := le2.trans e3
  refine slZ_P (hr.le le3) fun S4 l4 e4 q4 z4 => ?_
  have le4 := le3.trans e4
  refine add_P (hr.le le4) q4 (by rw [List.length_drop]; omega) fun S5 l5 e5 q5 z5 => ?_
  have A5 : AllR S5 [r, l1, l2, l3, l5] := A3.snoc (e4.trans e5) ⟨_, q5, by rw [List.length_append, List.length_drop]; omega⟩
  have le5 := le4.trans e5
  refine slH_P (n := 1) (hr.le le5) fun S6 l6 e6 q6 z6 => ?_
  have le6 := le5.trans e6
  refine add_P q6 (hr.le le6) (by rw [List.length_take]; omega) fun S7 l7 e7 q7 z7 => ?_
  have A7 : AllR S7 [r, l1, l2, l3, l5, l7] := A5.snoc (e6.trans e7) ⟨_, q7, by rw [List.length_append, List.length_take]; omega⟩
  have le7 := le6.trans e7
  refine lst_P [] rfl (by decide) fun S8 l8 e8 q8 z8 => ?_
  have A8 : AllR S8 [r, l1, l2, l3, l5, l7, l8] := A7.snoc e8 ⟨_, q8, by decide⟩
  have le8 := le7.trans e8
  refine lst_P [p] rfl (show 1 ≤ cap by decide) fun S9 l9 e9 q9 z9 => ?_
  have A9 : AllR S9 [r, l1, l2, l3, l5, l7, l8, l9] := A8.snoc e9 ⟨_, q9, show 1 ≤ 40 by decide⟩
  have le9 := le8.trans e9
  refine lst_P [(-1, 0)] rfl (by decide) fun S10 l10 e10 q10 z10 => ?_
  have A10 : AllR S10 [r, l1, l2, l3, l5, l7, l8, l9, l10] := A9.snoc e10 ⟨_, q10, by decide⟩
  have le10 := le9.trans e10
  refine ⟨(show 9 ≤ cap by decide), by decide, ?_⟩
  have F0 : Found (S10 ++ [O.list ([r, l1, l2, l3, l5, l7, l8, l9, l10].map D.loc)]) S10.length 9 := ⟨_, get_push, rfl, A10.le (Le.push _ _)⟩
  have hL : S.length ≤ S10.length := le10.len
  have le11 : Le S (S10 ++ [O.list ([r, l1, l2, l3, l5, l7, l8, l9, l10].map D.loc)]) := le10.trans (Le.push _ _)
  have hli : (litems (S10 ++ [O.list ([r, l1, l2, l3, l5, l7, l8, l9, l10].map D.loc)]) (.loc S10.length)).isSome = true := by rw [li_list get_push]; rfl
  revert F0 le11 hli
  show Found (S10 ++ [O.list [.loc r, .loc l1, .loc l2, .loc l3, .loc l5, .loc l7, .loc l8, .loc l9, .loc l10]]) S10.length 9 → Le S (S10 ++ [O.list [.loc r, .loc l1, .loc l2, .loc l3, .loc l5, .loc l7, .loc l8, .loc l9, .loc l10]]) → (litems (S10 ++ [O.list [.loc r, .loc l1, .loc l2, .loc l3, .loc l5, .loc l7, .loc l8, .loc l9, .loc l10]]) (.loc S10.length)).isSome = true → _
  generalize (S10 ++ [O.list [.loc r, .loc l1, .loc l2, .loc l3, .loc l5, .loc l7, .loc l8, .loc l9, .loc l10]]) = S11
  revert hL
  generalize S10.length = L
  intro hL F0 le11 hli
  refine ⟨hli, ?_⟩
  refine lst_P [(0, 10 ^ 20), p] ?_ (show 2 ≤ cap by decide) fun S12 l12 e12 q12 z12 => ?_
  · rfl
  refine found_app (F0.le e12) (by decide) (le11.trans e12) hL ⟨_, q12, show 2 ≤ 40 by decide⟩ fun S13 le13 F1 => ?_
  have ea : ((a : Nat) : Int) + 1 = ((a + 1 : Nat) : Int) := rfl
  refine ⟨.int one.1, rfl, p_addI.mpr ⟨.int one.2, rfl, by decide, .int one.1, rfl, .int one.2, rfl, p_sub.mpr ⟨by decide, by decide, by decide, .int one.2, rfl, .int one.1, rfl, by decide, by decide, .tuple ([(one.1 + 1, one.2), (one.1, one.2 - 1), p, (10 ^ Int.toNat 20, -1), (one.2, one.1)].map dP), 5, rfl, ?_⟩⟩⟩
  refine for_run [(one.1 + 1, one.2), (one.1, one.2 - 1), p, (10 ^ Int.toNat 20, -1), (one.2, one.1)] dP (fun i e S' => Le S S' ∧ Found S' L (10 + i) ∧ ∃ x, e = [some (.loc l), some (.int by_), some (.loc r), some (dP p), some (.int a), some (dP one), some (.loc L), x]) (Nat.le_refl _) ⟨le13, F1, none, rfl⟩ ?_ ?_
  · rintro i o e S' ho ⟨hle, hF, x, rfl⟩
    have hi : i < 5 := (List.getElem?_eq_some_iff.mp ho).1
    refine ⟨by rw [next_tup, List.getElem?_map, ho]; rfl, ?_⟩
    simp only [ws_cons, ws_nil, ws_ite, s_ret, s_expr, s_asg, s_par, s_pass, s_aug, s_setFld, s_setSub, s_for, e_prim, e_cons, e_nil, e_var, e_cst, e_glb, e_tup, e_dnew, e_and, e_or, e_not, e_ifx, e_call, e_fld, e_meth, e_lm, e_sl2, e_slL, e_slH, p_addI, p_addT, p_sub, p_mulI, p_mulL, p_mod, p_fdiv, p_pow, p_neg, p_eq, p_ne, p_lt, p_le, p_gt, p_ge, p_in, p_notin, p_isN, p_notN, p_isB, p_notB, p_item, p_lenT, p_lenL, p_lenset, p_sorted, p_dict1, p_listT, p_isBoolB, sl_tup, ret_rt, bind_name, bindPar_ok, List.getElem?_cons_zero, List.getElem?_cons_succ, List.length_cons, List.length_nil, List.set_cons_zero, List.set_cons_succ, Option.some.injEq, D.int.injEq, D.bl.injEq, D.loc.injEq, exists_eq_left', exists_eq_left, exists_eq_left2, exists_eq_left3, bindT_two, bindPar_end, wipeE, ofC_one, ofC_nil, itT0, itT1, itT2, itT3, deq_str, if_true, if_false, Bool.false_eq_true, true_and, and_true, Nat.zero_add]
    have hLi : (litems S' (.loc L)).isSome = true := by
      obtain ⟨ls, f1, _⟩ := hF
      rw [li_list f1]; rfl
    refine ⟨by decide, hLi, ?_⟩
    refine slH_P (n := a) (hr.le hle) fun T1 m1 d1 w1 y1 => ?_
    have k1 := hle.trans d1
    refine lst_P [o] rfl (show 1 ≤ cap by decide) fun T2 m2 d2 w2 y2 => ?_
    have k2 := k1.trans d2
    refine add_P (w1.le d2) w2 (by rw [List.length_take, List.length_singleton]; omega) fun T3 m3 d3 w3 y3 => ?_
    have k3 := k2.trans d3
    rw [ea]
    refine slL_P (n := a + 1) (hr.le k3) fun T4 m4 d4 w4 y4 => ?_
    have k4 := k3.trans d4
    refine add_P (w3.le d4) w4 (by rw [List.length_append, List.length_take, List.length_drop, List.length_singleton]; omega) fun T5 m5 d5 w5 y5 => ?_
    have k5 := k4.trans d5
    refine found_app (hF.le ((((d1.trans d2).trans d3).trans d4).trans d5)) (by omega) k5 hL ⟨_, w5, by rw [List.length_append, List.length_append, List.length_take, List.length_drop, List.length_singleton]; omega⟩ fun T6 k6 hF6 => ?_
    exact ⟨k6, hF6, _, rfl⟩
  · rintro e S' ⟨hle, hF, x, rfl⟩
    refine ⟨by rw [next_tup, List.getElem?_map, List.getElem?_eq_none (Nat.le_refl _)]; rfl, ?_⟩
    simp only [ws_cons, ws_nil, ws_ite, s_ret, s_expr, s_asg, s_par, s_pass, s_aug, s_setFld, s_setSub, s_for, e_prim, e_cons, e_nil, e_var, e_cst, e_glb, e_tup, e_dnew, e_and, e_or, e_not, e_ifx, e_call, e_fld, e_meth, e_lm, e_sl2, e_slL, e_slH, p_addI, p_addT, p_sub, p_mulI, p_mulL, p_mod, p_fdiv, p_pow, p_neg, p_eq, p_ne, p_lt, p_le, p_gt, p_ge, p_in, p_notin, p_isN, p_notN, p_isB, p_notB, p_item, p_lenT, p_lenL, p_lenset, p_sorted, p_dict1, p_listT, p_isBoolB, sl_tup, ret_rt, bind_name, bindPar_ok, List.getElem?_cons_zero, List.getElem?_cons_succ, List.length_cons, List.length_nil, List.set_cons_zero, List.set_cons_succ, Option.some.injEq, D.int.injEq, D.bl.injEq, D.loc.injEq, exists_eq_left', exists_eq_left, exists_eq_left2, exists_eq_left3, bindT_two, bindPar_end, wipeE, ofC_one, ofC_nil, itT0, itT1, itT2, itT3, deq_str, if_true, if_false, Bool.false_eq_true, true_and, and_true, Nat.zero_add]
    rw [e_lst]
    simp only [ws_cons, ws_nil, ws_ite, s_ret, s_expr, s_asg, s_par, s_pass, s_aug, s_setFld, s_setSub, s_for, e_prim, e_cons, e_nil, e_var, e_cst, e_glb, e_tup, e_dnew, e_and, e_or, e_not, e_ifx, e_call, e_fld, e_meth, e_lm, e_sl2, e_slL, e_slH, p_addI, p_addT, p_sub, p_mulI, p_mulL, p_mod, p_fdiv, p_pow, p_neg, p_eq, p_ne, p_lt, p_le, p_gt, p_ge, p_in, p_notin, p_isN, p_notN, p_isB, p_notB, p_item, p_lenT, p_lenL, p_lenset, p_sorted, p_dict1, p_listT, p_isBoolB, sl_tup, ret_rt, bind_name, bindPar_ok, List.getElem?_cons_zero, List.getElem?_cons_succ, List.length_cons, List.length_nil, List.set_cons_zero, List.set_cons_succ, Option.some.injEq, D.int.injEq, D.bl.injEq, D.loc.injEq, exists_eq_left', exists_eq_left, exists_eq_left2, exists_eq_left3, bindT_two, bindPar_end, wipeE, ofC_one, ofC_nil, itT0, itT1, itT2, itT3, deq_str, if_true, if_false, Bool.false_eq_true, true_and, and_true, Nat.zero_add]
    refine slH_P (n := a) (hr.le hle) fun T1 m1 d1 w1 y1 => ?_
    have k1 := hle.trans d1
    rw [ea]
    refine slL_P (n := a + 1) (hr.le k1) fun T2 m2 d2 w2 y2 => ?_
    have k2 := k1.trans d2
    refine add_P (w1.le d2) w2 (by rw [List.length_take, List.length_drop]; omega) fun T3 m3 d3 w3 y3 => ?_
    have k3 := k2.trans d3
    have B3 : AllR T3 [m3] := fun m hm => by rw [List.mem_singleton.mp hm]; exact ⟨_, w3, by rw [List.length_append, List.length_take, List.length_drop]; omega⟩
    refine lst_P [p] rfl (show 1 ≤ cap by decide) fun T4 m4 d4 w4 y4 => ?_
    have k4 := k3.trans d4
    refine add_P (hr.le k4) w4 (by rw [List.length_singleton]; omega) fun T5 m5 d5 w5 y5 => ?_
    have k5 := k4.trans d5
    have B5 : AllR T5 [m3, m5] := B3.snoc (d4.trans d5) ⟨_, w5, by rw [List.length_append, List.length_singleton]; omega⟩
    refine lst_P [p] rfl (show 1 ≤ cap by decide) fun T6 m6 d6 w6 y6 => ?_
    have k6 := k5.trans d6
    refine add_P w6 (hr.le k6) (by rw [List.length_singleton]; omega) fun T7 m7 d7 w7 y7 => ?_
    have k7 := k6.trans d7
    have B7 : AllR T7 [m3, m5, m7] := B5.snoc (d6.trans d7) ⟨_, w7, by rw [List.length_append, List.length_singleton]; omega⟩
    refine add_P (hr.le k7) (hr.le k7) (by omega) fun T8 m8 d8 w8 y8 => ?_
    have k8 := k7.trans d8
    have B8 : AllR T8 [m3, m5, m7, m8] := B7.snoc d8 ⟨_, w8, by rw [List.length_append]; omega⟩
    refine ⟨show 4 ≤ cap by decide, ?_⟩
    obtain ⟨ls, f1, f2, f3⟩ := hF.le (((((((d1.trans d2).trans d3).trans d4).trans d5).trans d6).trans d7).trans d8)
    refine p_addL.mpr ⟨_, wi_list (Le.push _ _ _ _ f1), _, wi_list get_push, ?_, ?_⟩
    · rw [List.length_map, f2]
      exact show (19 : Nat) ≤ cap by decide
    · refine q _ _ 19 ((k8.trans (Le.push _ _)).trans (Le.push _ _)) ⟨ls ++ [m3, m5, m7, m8], ?_, ?_, ?_⟩ (by decide)
      · rw [get_push, List.map_append]
        rfl
      · rw [List.length_append, f2]
        rfl
      · intro m hm
        rcases List.mem_append.mp hm with h | h
        · exact (f3.le ((Le.push _ _).trans (Le.push _ _))) m h
        · exact (B8.le ((Le.push _ _).trans (Le.push _ _))) m h
end MI.Law

namespace MI.Law
open PySem MI
def isPart : Word → Bool
  | .part _ _ => true
  | .out _ => false
theorem fold_parts (wl : List Word) : ∀ u : Ups, (wl.foldl stepU u).length ≤ u.length + wl.countP isPart := by
  induction wl with
  | nil => intro u; exact Nat.le_refl _
  | cons w wl ih =>
    intro u
    rw [List.foldl_cons, List.countP_cons]
    have h := ih (stepU u w)
    cases w with
    | part p v =>
      have h2 : (stepU u (.part p v)).length ≤ u.length + 1 := uput_len u p v
      simp only [isPart, if_true]
      omega
    | out p => exact Nat.le_trans h (Nat.le_refl _)
theorem ups_parts (wl : List Word) : (ups wl).length ≤ wl.countP isPart := by
  have := fold_parts wl []
  rwa [List.length_nil, Nat.zero_add] at this
abbrev A1 : CS := .asg (.name 10) (.ifx (.prim .ne [.var 4, .lst []]) (.prim .item [.var 4, .call 11 [.var 8, .prim .add [.var 7, .cst (.int 3)], .prim .len [.var 4]]]) (.cst .non))
abbrev A2 : CS := .ite (.and (.prim .eq [.var 6, .cst (.int 0)]) (.prim .ne [.var 4, .lst []])) [.asg (.name 10) (.prim .item [.var 4, .prim .neg [.cst (.int 1)]])] []
abbrev A3 : CS := .ite (.and (.prim .gt [.var 6, .cst (.int 0)]) (.prim .eq [.call 11 [.var 8, .prim .add [.var 7, .cst (.int 4)], .cst (.int 7)], .cst (.int 0)])) [.asg (.name 10) (.cst .non)] []
abbrev A4 : CS := .ite (.and (.prim .gt [.var 6, .cst (.int 1)]) (.prim .eq [.call 11 [.var 8, .var 7, .cst (.int 6)], .cst (.int 0)])) [.asg (.name 10) (.tup [.call 11 [.var 8, .prim .add [.var 7, .cst (.int 3)], .cst (.int 6)], .call 11 [.var 8, .prim .add [.var 7, .cst (.int 1)], .cst (.int 10)]])] []
abbrev A5 : CS := .expr (.lm .append (.var 4) [.var 9])
abbrev A6 : CS := .expr (.lm .insert (.var 5) [.call 11 [.var 8, .prim .add [.var 7, .cst (.int 5)], .prim .add [.prim .len [.var 5], .cst (.int 1)]], .tup [.cst (.str "part"), .prim .item [.var 9, .cst (.int 0)], .prim .item [.var 9, .cst (.int 1)], .var 10]])
abbrev A7 : CS := .ite (.prim .eq [.call 11 [.var 8, .prim .add [.var 7, .cst (.int 3)], .prim .item [.tup [.cst (.int 19), .cst (.int 8), .cst (.int 9), .cst (.int 8)], .var 6]], .cst (.int 0)]) [.expr (.lm .insert (.var 5) [.cst (.int 0), .tup [.cst (.str "out"), .prim .item [.var 9, .cst (.int 0)], .prim .item [.var 9, .cst (.int 1)]]])] []
/-- what stands while the words are drawn -/
def Drawn (S0 S : Store) (K F : Nat) (nk nw np : Nat) : Prop := Le S0 S ∧ S0.length ≤ K ∧ S0.length ≤ F ∧ K ≠ F ∧ (∃ keys : List Part, HasL S K dP keys ∧ keys.length ≤ nk) ∧ ∃ wl : List Word, HasL S F dW wl ∧ wl.length ≤ nw ∧ wl.countP isPart ≤ np
theorem Drawn.le {S0 S S' : Store} {K F a b c : Nat} (h : Drawn S0 S K F a b c) (e : Le S S') : Drawn S0 S' K F a b c :=
  ⟨h.1.trans e, h.2.1, h.2.2.1, h.2.2.2.1, h.2.2.2.2.1.imp fun _ q => ⟨q.1.le e, q.2⟩, h.2.2.2.2.2.imp fun _ q => ⟨q.1.le e, q.2⟩⟩
theorem Drawn.mono {S0 S : Store} {K F a b c a' b' c' : Nat} (h : Drawn S0 S K F a b c) (ha : a ≤ a') (hb : b ≤ b') (hc : c ≤ c') : Drawn S0 S K F a' b' c' :=
  ⟨h.1, h.2.1, h.2.2.1, h.2.2.2.1, h.2.2.2.2.1.imp fun _ q => ⟨q.1, Nat.le_trans q.2 ha⟩, h.2.2.2.2.2.imp fun _ q => ⟨q.1, Nat.le_trans q.2.1 hb, Nat.le_trans q.2.2 hc⟩⟩
section
variable {n : Nat} {S0 S : Store} {K F l i nk nw np : Nat} {by_ lead kind cell : Int} {key : Part} {P : Ws}
abbrev envW (l : Nat) (by_ lead : Int) (K F : Nat) (kind : Int) (i : Nat) (cell : Int) (key : Part) (u : Option D) : Env := [some (.loc l), some (.int by_), some (.int 16), some (.int lead), some (.loc K), some (.loc F), some (.int kind), some (.int i), some (.int cell), some (dP key), u]
theorem aA7 (hd : Drawn S0 S K F nk nw np) (hw : nw < 1000) (hi : i < 100) (hk : 0 ≤ kind ∧ kind < 4) {u : Option D} (q : ∀ S', Drawn S0 S' K F nk (nw + 1) np → P.nx (envW l by_ lead K F kind i cell key u) S') : ws (execs G (run G (n + 2)) [A7] (envW l by_ lead K F kind i cell key u) S) P := by
  have hm : ∃ m : Int, 0 < m ∧ itemD (.tup [.int 19, .int 8, .int 9, .int 8]) (.int kind) S = some (.int m) := by
    rcases (show kind = 0 ∨ kind = 1 ∨ kind = 2 ∨ kind = 3 by omega) with rfl | rfl | rfl | rfl
    · exact ⟨19, by decide, rfl⟩
    · exact ⟨8, by decide, rfl⟩
    · exact ⟨9, by decide, rfl⟩
    · exact ⟨8, by decide, rfl⟩
  obtain ⟨m, m0, m1⟩ := hm
  simp only [ws_cons, ws_nil, ws_ite, s_ret, s_expr, s_asg, s_par, s_pass, s_aug, s_setFld, s_setSub, s_for, e_prim, e_cons, e_nil, e_var, e_cst, e_glb, e_tup, e_lst, e_dnew, e_and, e_or, e_not, e_ifx, e_call, e_fld, e_meth, e_lm, e_sl2, e_slL, e_slH, p_addI, p_addT, p_addL, p_sub, p_mulI, p_mulL, p_mod, p_fdiv, p_pow, p_neg, p_eq, p_ne, p_lt, p_le, p_gt, p_ge, p_in, p_notin, p_isN, p_notN, p_isB, p_notB, p_item, p_rev, p_lenT, p_lenL, p_lenset, p_sorted, p_dict1, p_listT, p_isBoolB, sl_tup, ret_rt, bind_name, bindPar_ok, List.getElem?_cons_zero, List.getElem?_cons_succ, List.length_cons, List.length_nil, List.set_cons_zero, List.set_cons_succ, Option.some.injEq, D.int.injEq, D.bl.injEq, D.loc.injEq, exists_eq_left', exists_eq_left, exists_eq_left2, exists_eq_left3, bindT_two, bindPar_end, wipeE, ofC_one, ofC_nil, itT0, itT1, itT2, itT3, deq_str, if_true, if_false, Bool.false_eq_true, true_and, and_true, Nat.zero_add]
  refine ⟨by decide, _, m1, ?_⟩
  refine sp11 (by omega) m0 fun j h1 h2 => ?_
  refine ⟨_, rfl, ?_⟩
  cases PyData.eqv (.int j) (.int 0) with
  | false =>
    simp only [ws_cons, ws_nil, ws_ite, s_ret, s_expr, s_asg, s_par, s_pass, s_aug, s_setFld, s_setSub, s_for, e_prim, e_cons, e_nil, e_var, e_cst, e_glb, e_tup, e_lst, e_dnew, e_and, e_or, e_not, e_ifx, e_call, e_fld, e_meth, e_lm, e_sl2, e_slL, e_slH, p_addI, p_addT, p_addL, p_sub, p_mulI, p_mulL, p_mod, p_fdiv, p_pow, p_neg, p_eq, p_ne, p_lt, p_le, p_gt, p_ge, p_in, p_notin, p_isN, p_notN, p_isB, p_notB, p_item, p_rev, p_lenT, p_lenL, p_lenset, p_sorted, p_dict1, p_listT, p_isBoolB, sl_tup, ret_rt, bind_name, bindPar_ok, List.getElem?_cons_zero, List.getElem?_cons_succ, List.length_cons, List.length_nil, List.set_cons_zero, List.set_cons_succ, Option.some.injEq, D.int.injEq, D.bl.injEq, D.loc.injEq, exists_eq_left', exists_eq_left, exists_eq_left2, exists_eq_left3, bindT_two, bindPar_end, wipeE, ofC_one, ofC_nil, itT0, itT1, itT2, itT3, deq_str, if_true, if_false, Bool.false_eq_true, true_and, and_true, Nat.zero_add]
    exact q _ (hd.mono (Nat.le_refl _) (Nat.le_succ _) (Nat.le_refl _))
  | true =>
    simp only [ws_cons, ws_nil, ws_ite, s_ret, s_expr, s_asg, s_par, s_pass, s_aug, s_setFld, s_setSub, s_for, e_prim, e_cons, e_nil, e_var, e_cst, e_glb, e_tup, e_lst, e_dnew, e_and, e_or, e_not, e_ifx, e_call, e_fld, e_meth, e_lm, e_sl2, e_slL, e_slH, p_addI, p_addT, p_addL, p_sub, p_mulI, p_mulL, p_mod, p_fdiv, p_pow, p_neg, p_eq, p_ne, p_lt, p_le, p_gt, p_ge, p_in, p_notin, p_isN, p_notN, p_isB, p_notB, p_item, p_rev, p_lenT, p_lenL, p_lenset, p_sorted, p_dict1, p_listT, p_isBoolB, sl_tup, ret_rt, bind_name, bindPar_ok, List.getElem?_cons_zero, List.getElem?_cons_succ, List.length_cons, List.length_nil, List.set_cons_zero, List.set_cons_succ, Option.some.injEq, D.int.injEq, D.bl.injEq, D.loc.injEq, exists_eq_left', exists_eq_left, exists_eq_left2, exists_eq_left3, bindT_two, bindPar_end, wipeE, ofC_one, ofC_nil, itT0, itT1, itT2, itT3, deq_str, if_true, if_false, Bool.false_eq_true, true_and, and_true, Nat.zero_add]
    obtain ⟨h1, h2, h3, h4, h5, wl, w1, w2, w3⟩ := hd
    refine ⟨by rw [li_list w1]; rfl, .int key.1, rfl, .int key.2, rfl, by decide, ?_⟩
    rw [p_insert w1]
    refine ⟨⟨?_, by decide, by decide⟩, ?_⟩
    · rw [List.length_map]
      have : (1000 : Nat) < cap := by decide
      omega
    · refine q _ ⟨h1.put h3 _, h2, h3, h4, ?_, .out key :: wl, ?_, ?_, ?_⟩
      · obtain ⟨keys, k1, k2⟩ := h5
        exact ⟨keys, set_ne k1 h4, k2⟩
      · unfold HasL
        rw [set_get w1]
        rfl
      · rw [List.length_cons]; omega
      · rw [List.countP_cons]
        exact w3
theorem aA5 (hd : Drawn S0 S K F nk nw np) (hw : nk < 1000 ∧ nw < 1000) (hi : i < 100) {u : Option Part} (q : ∀ S', Drawn S0 S' K F (nk + 1) (nw + 1) (np + 1) → P.nx (envW l by_ lead K F kind i cell key (some (dU u))) S') : ws (execs G (run G (n + 2)) [A5, A6] (envW l by_ lead K F kind i cell key (some (dU u))) S) P := by
  obtain ⟨h1, h2, h3, h4, ⟨keys, k1, k2⟩, wl, w1, w2, w3⟩ := hd
  have hc : (1000 : Nat) < cap := by decide
  simp only [ws_cons, ws_nil, ws_ite, s_ret, s_expr, s_asg, s_par, s_pass, s_aug, s_setFld, s_setSub, s_for, e_prim, e_cons, e_nil, e_var, e_cst, e_glb, e_tup, e_lst, e_dnew, e_and, e_or, e_not, e_ifx, e_call, e_fld, e_meth, e_lm, e_sl2, e_slL, e_slH, p_addI, p_addT, p_addL, p_sub, p_mulI, p_mulL, p_mod, p_fdiv, p_pow, p_neg, p_eq, p_ne, p_lt, p_le, p_gt, p_ge, p_in, p_notin, p_isN, p_notN, p_isB, p_notB, p_item, p_rev, p_lenT, p_lenL, p_lenset, p_sorted, p_dict1, p_listT, p_isBoolB, sl_tup, ret_rt, bind_name, bindPar_ok, List.getElem?_cons_zero, List.getElem?_cons_succ, List.length_cons, List.length_nil, List.set_cons_zero, List.set_cons_succ, Option.some.injEq, D.int.injEq, D.bl.injEq, D.loc.injEq, exists_eq_left', exists_eq_left, exists_eq_left2, exists_eq_left3, bindT_two, bindPar_end, wipeE, ofC_one, ofC_nil, itT0, itT1, itT2, itT3, deq_str, if_true, if_false, Bool.false_eq_true, true_and, and_true, Nat.zero_add]
  refine ⟨by rw [li_list k1]; rfl, ?_⟩
  rw [p_append k1]
  have w4 : HasL (S.set K (.list (keys.map dP ++ [dP key]))) F dW wl := set_ne w1 (Ne.symm h4)
  have k4 : HasL (S.set K (.list (keys.map dP ++ [dP key]))) K dP (keys ++ [key]) := by
    unfold HasL
    rw [set_get k1, List.map_append]
    rfl
  have e4 := h1.put h2 (.list (keys.map dP ++ [dP key]))
  refine ⟨by rw [List.length_map]; omega, by rw [li_list w4]; rfl, _, li_list w4, ?_⟩
  rw [List.length_map]
  refine sp11 (by omega) (by omega) fun j j1 j2 => ?_
  refine ⟨.int key.1, rfl, .int key.2, rfl, by decide, ?_⟩
  rw [p_insert w4]
  refine ⟨⟨by rw [List.length_map]; omega, j1, by omega⟩, ?_⟩
  refine q _ ⟨e4.put h3 _, h2, h3, h4, ⟨keys ++ [key], set_ne k4 h4, by rw [List.length_append, List.length_singleton]; omega⟩, wl.take j.toNat ++ [.part key u] ++ wl.drop j.toNat, ?_, ?_, ?_⟩
  · unfold HasL
    rw [set_get w4, List.map_append, List.map_append, List.map_take, List.map_drop]
    rfl
  · have := congrArg List.length (List.take_append_drop j.toNat wl)
    rw [List.length_append] at this
    rw [List.length_append, List.length_append, List.length_singleton]
    omega
  · have := congrArg (List.countP isPart) (List.take_append_drop j.toNat wl)
    rw [List.countP_append] at this
    rw [List.countP_append, List.countP_append]
    have e1 : List.countP isPart [Word.part key u] = 1 := rfl
    omega
theorem aA4 (hd : Drawn S0 S K F nk nw np) (hw : nk < 1000 ∧ nw < 1000) (hi : i < 100) {u : Option Part} (q : ∀ S' u, Drawn S0 S' K F (nk + 1) (nw + 1) (np + 1) → P.nx (envW l by_ lead K F kind i cell key (some (dU u))) S') : ws (execs G (run G (n + 2)) [A4, A5, A6] (envW l by_ lead K F kind i cell key (some (dU u))) S) P := by
  have rest : ∀ u : Option Part, ws (execs G (run G (n + 2)) [A5, A6] (envW l by_ lead K F kind i cell key (some (dU u))) S) P := fun u => aA5 hd hw hi fun S' => q S' u
  rw [ws_cons, ws_ite, e_and]
  simp only [ws_cons, ws_nil, ws_ite, s_ret, s_expr, s_asg, s_par, s_pass, s_aug, s_setFld, s_setSub, s_for, e_prim, e_cons, e_nil, e_var, e_cst, e_glb, e_tup, e_lst, e_dnew, e_and, e_or, e_not, e_ifx, e_call, e_fld, e_meth, e_lm, e_sl2, e_slL, e_slH, p_addI, p_addT, p_addL, p_sub, p_mulI, p_mulL, p_mod, p_fdiv, p_pow, p_neg, p_eq, p_ne, p_lt, p_le, p_gt, p_ge, p_in, p_notin, p_isN, p_notN, p_isB, p_notB, p_item, p_rev, p_lenT, p_lenL, p_lenset, p_sorted, p_dict1, p_listT, p_isBoolB, sl_tup, ret_rt, bind_name, bindPar_ok, List.getElem?_cons_zero, List.getElem?_cons_succ, List.length_cons, List.length_nil, List.set_cons_zero, List.set_cons_succ, Option.some.injEq, D.int.injEq, D.bl.injEq, D.loc.injEq, exists_eq_left', exists_eq_left, exists_eq_left2, exists_eq_left3, bindT_two, bindPar_end, wipeE, ofC_one, ofC_nil, itT0, itT1, itT2, itT3, deq_str, if_true, if_false, Bool.false_eq_true, true_and, and_true, Nat.zero_add] at rest ⊢
  cases decide ((1 : Int) < kind) with
  | false =>
    simp only [ws_cons, ws_nil, ws_ite, s_ret, s_expr, s_asg, s_par, s_pass, s_aug, s_setFld, s_setSub, s_for, e_prim, e_cons, e_nil, e_var, e_cst, e_glb, e_tup, e_lst, e_dnew, e_and, e_or, e_not, e_ifx, e_call, e_fld, e_meth, e_lm, e_sl2, e_slL, e_slH, p_addI, p_addT, p_addL, p_sub, p_mulI, p_mulL, p_mod, p_fdiv, p_pow, p_neg, p_eq, p_ne, p_lt, p_le, p_gt, p_ge, p_in, p_notin, p_isN, p_notN, p_isB, p_notB, p_item, p_rev, p_lenT, p_lenL, p_lenset, p_sorted, p_dict1, p_listT, p_isBoolB, sl_tup, ret_rt, bind_name, bindPar_ok, List.getElem?_cons_zero, List.getElem?_cons_succ, List.length_cons, List.length_nil, List.set_cons_zero, List.set_cons_succ, Option.some.injEq, D.int.injEq, D.bl.injEq, D.loc.injEq, exists_eq_left', exists_eq_left, exists_eq_left2, exists_eq_left3, bindT_two, bindPar_end, wipeE, ofC_one, ofC_nil, itT0, itT1, itT2, itT3, deq_str, if_true, if_false, Bool.false_eq_true, true_and, and_true, Nat.zero_add]
    exact rest u
  | true =>
    simp only [ws_cons, ws_nil, ws_ite, s_ret, s_expr, s_asg, s_par, s_pass, s_aug, s_setFld, s_setSub, s_for, e_prim, e_cons, e_nil, e_var, e_cst, e_glb, e_tup, e_lst, e_dnew, e_and, e_or, e_not, e_ifx, e_call, e_fld, e_meth, e_lm, e_sl2, e_slL, e_slH, p_addI, p_addT, p_addL, p_sub, p_mulI, p_mulL, p_mod, p_fdiv, p_pow, p_neg, p_eq, p_ne, p_lt, p_le, p_gt, p_ge, p_in, p_notin, p_isN, p_notN, p_isB, p_notB, p_item, p_rev, p_lenT, p_lenL, p_lenset, p_sorted, p_dict1, p_listT, p_isBoolB, sl_tup, ret_rt, bind_name, bindPar_ok, List.getElem?_cons_zero, List.getElem?_cons_succ, List.length_cons, List.length_nil, List.set_cons_zero, List.set_cons_succ, Option.some.injEq, D.int.injEq, D.bl.injEq, D.loc.injEq, exists_eq_left', exists_eq_left, exists_eq_left2, exists_eq_left3, bindT_two, bindPar_end, wipeE, ofC_one, ofC_nil, itT0, itT1, itT2, itT3, deq_str, if_true, if_false, Bool.false_eq_true, true_and, and_true, Nat.zero_add]
    refine sp11 (by omega) (by decide) fun j j1 j2 => ?_
    refine ⟨_, rfl, ?_⟩
    cases PyData.eqv (.int j) (.int 0) with
    | false =>
      simp only [ws_cons, ws_nil, ws_ite, s_ret, s_expr, s_asg, s_par, s_pass, s_aug, s_setFld, s_setSub, s_for, e_prim, e_cons, e_nil, e_var, e_cst, e_glb, e_tup, e_lst, e_dnew, e_and, e_or, e_not, e_ifx, e_call, e_fld, e_meth, e_lm, e_sl2, e_slL, e_slH, p_addI, p_addT, p_addL, p_sub, p_mulI, p_mulL, p_mod, p_fdiv, p_pow, p_neg, p_eq, p_ne, p_lt, p_le, p_gt, p_ge, p_in, p_notin, p_isN, p_notN, p_isB, p_notB, p_item, p_rev, p_lenT, p_lenL, p_lenset, p_sorted, p_dict1, p_listT, p_isBoolB, sl_tup, ret_rt, bind_name, bindPar_ok, List.getElem?_cons_zero, List.getElem?_cons_succ, List.length_cons, List.length_nil, List.set_cons_zero, List.set_cons_succ, Option.some.injEq, D.int.injEq, D.bl.injEq, D.loc.injEq, exists_eq_left', exists_eq_left, exists_eq_left2, exists_eq_left3, bindT_two, bindPar_end, wipeE, ofC_one, ofC_nil, itT0, itT1, itT2, itT3, deq_str, if_true, if_false, Bool.false_eq_true, true_and, and_true, Nat.zero_add]
      exact rest u
    | true =>
      simp only [ws_cons, ws_nil, ws_ite, s_ret, s_expr, s_asg, s_par, s_pass, s_aug, s_setFld, s_setSub, s_for, e_prim, e_cons, e_nil, e_var, e_cst, e_glb, e_tup, e_lst, e_dnew, e_and, e_or, e_not, e_ifx, e_call, e_fld, e_meth, e_lm, e_sl2, e_slL, e_slH, p_addI, p_addT, p_addL, p_sub, p_mulI, p_mulL, p_mod, p_fdiv, p_pow, p_neg, p_eq, p_ne, p_lt, p_le, p_gt, p_ge, p_in, p_notin, p_isN, p_notN, p_isB, p_notB, p_item, p_rev, p_lenT, p_lenL, p_lenset, p_sorted, p_dict1, p_listT, p_isBoolB, sl_tup, ret_rt, bind_name, bindPar_ok, List.getElem?_cons_zero, List.getElem?_cons_succ, List.length_cons, List.length_nil, List.set_cons_zero, List.set_cons_succ, Option.some.injEq, D.int.injEq, D.bl.injEq, D.loc.injEq, exists_eq_left', exists_eq_left, exists_eq_left2, exists_eq_left3, bindT_two, bindPar_end, wipeE, ofC_one, ofC_nil, itT0, itT1, itT2, itT3, deq_str, if_true, if_false, Bool.false_eq_true, true_and, and_true, Nat.zero_add]
      refine sp11 (by omega) (by decide) fun a _ _ => ?_
      refine sp11 (by omega) (by decide) fun b _ _ => ?_
      refine ⟨by decide, by decide, ?_⟩
      exact rest (some (a, b))
theorem aA3 (hd : Drawn S0 S K F nk nw np) (hw : nk < 1000 ∧ nw < 1000) (hi : i < 100) {u : Option Part} (q : ∀ S' u, Drawn S0 S' K F (nk + 1) (nw + 1) (np + 1) → P.nx (envW l by_ lead K F kind i cell key (some (dU u))) S') : ws (execs G (run G (n + 2)) [A3, A4, A5, A6] (envW l by_ lead K F kind i cell key (some (dU u))) S) P := by
  have rest : ∀ u : Option Part, ws (execs G (run G (n + 2)) [A4, A5, A6] (envW l by_ lead K F kind i cell key (some (dU u))) S) P := fun u => aA4 hd hw hi q
  rw [ws_cons, ws_ite, e_and]
  generalize [A4, A5, A6] = tl at rest ⊢
  simp only [ws_cons, ws_nil, ws_ite, s_ret, s_expr, s_asg, s_par, s_pass, s_aug, s_setFld, s_setSub, s_for, e_prim, e_cons, e_nil, e_var, e_cst, e_glb, e_tup, e_lst, e_dnew, e_and, e_or, e_not, e_ifx, e_call, e_fld, e_meth, e_lm, e_sl2, e_slL, e_slH, p_addI, p_addT, p_addL, p_sub, p_mulI, p_mulL, p_mod, p_fdiv, p_pow, p_neg, p_eq, p_ne, p_lt, p_le, p_gt, p_ge, p_in, p_notin, p_isN, p_notN, p_isB, p_notB, p_item, p_rev, p_lenT, p_lenL, p_lenset, p_sorted, p_dict1, p_listT, p_isBoolB, sl_tup, ret_rt, bind_name, bindPar_ok, List.getElem?_cons_zero, List.getElem?_cons_succ, List.length_cons, List.length_nil, List.set_cons_zero, List.set_cons_succ, Option.some.injEq, D.int.injEq, D.bl.injEq, D.loc.injEq, exists_eq_left', exists_eq_left, exists_eq_left2, exists_eq_left3, bindT_two, bindPar_end, wipeE, ofC_one, ofC_nil, itT0, itT1, itT2, itT3, deq_str, if_true, if_false, Bool.false_eq_true, true_and, and_true, Nat.zero_add]
  cases decide ((0 : Int) < kind) with
  | false =>
    simp only [ws_cons, ws_nil, ws_ite, s_ret, s_expr, s_asg, s_par, s_pass, s_aug, s_setFld, s_setSub, s_for, e_prim, e_cons, e_nil, e_var, e_cst, e_glb, e_tup, e_lst, e_dnew, e_and, e_or, e_not, e_ifx, e_call, e_fld, e_meth, e_lm, e_sl2, e_slL, e_slH, p_addI, p_addT, p_addL, p_sub, p_mulI, p_mulL, p_mod, p_fdiv, p_pow, p_neg, p_eq, p_ne, p_lt, p_le, p_gt, p_ge, p_in, p_notin, p_isN, p_notN, p_isB, p_notB, p_item, p_rev, p_lenT, p_lenL, p_lenset, p_sorted, p_dict1, p_listT, p_isBoolB, sl_tup, ret_rt, bind_name, bindPar_ok, List.getElem?_cons_zero, List.getElem?_cons_succ, List.length_cons, List.length_nil, List.set_cons_zero, List.set_cons_succ, Option.some.injEq, D.int.injEq, D.bl.injEq, D.loc.injEq, exists_eq_left', exists_eq_left, exists_eq_left2, exists_eq_left3, bindT_two, bindPar_end, wipeE, ofC_one, ofC_nil, itT0, itT1, itT2, itT3, deq_str, if_true, if_false, Bool.false_eq_true, true_and, and_true, Nat.zero_add]
    exact rest u
  | true =>
    simp only [ws_cons, ws_nil, ws_ite, s_ret, s_expr, s_asg, s_par, s_pass, s_aug, s_setFld, s_setSub, s_for, e_prim, e_cons, e_nil, e_var, e_cst, e_glb, e_tup, e_lst, e_dnew, e_and, e_or, e_not, e_ifx, e_call, e_fld, e_meth, e_lm, e_sl2, e_slL, e_slH, p_addI, p_addT, p_addL, p_sub, p_mulI, p_mulL, p_mod, p_fdiv, p_pow, p_neg, p_eq, p_ne, p_lt, p_le, p_gt, p_ge, p_in, p_notin, p_isN, p_notN, p_isB, p_notB, p_item, p_rev, p_lenT, p_lenL, p_lenset, p_sorted, p_dict1, p_listT, p_isBoolB, sl_tup, ret_rt, bind_name, bindPar_ok, List.getElem?_cons_zero, List.getElem?_cons_succ, List.length_cons, List.length_nil, List.set_cons_zero, List.set_cons_succ, Option.some.injEq, D.int.injEq, D.bl.injEq, D.loc.injEq, exists_eq_left', exists_eq_left, exists_eq_left2, exists_eq_left3, bindT_two, bindPar_end, wipeE, ofC_one, ofC_nil, itT0, itT1, itT2, itT3, deq_str, if_true, if_false, Bool.false_eq_true, true_and, and_true, Nat.zero_add]
    refine sp11 (by omega) (by decide) fun j j1 j2 => ?_
    refine ⟨_, rfl, ?_⟩
    cases PyData.eqv (.int j) (.int 0) with
    | false =>
      simp only [ws_cons, ws_nil, ws_ite, s_ret, s_expr, s_asg, s_par, s_pass, s_aug, s_setFld, s_setSub, s_for, e_prim, e_cons, e_nil, e_var, e_cst, e_glb, e_tup, e_lst, e_dnew, e_and, e_or, e_not, e_ifx, e_call, e_fld, e_meth, e_lm, e_sl2, e_slL, e_slH, p_addI, p_addT, p_addL, p_sub, p_mulI, p_mulL, p_mod, p_fdiv, p_pow, p_neg, p_eq, p_ne, p_lt, p_le, p_gt, p_ge, p_in, p_notin, p_isN, p_notN, p_isB, p_notB, p_item, p_rev, p_lenT, p_lenL, p_lenset, p_sorted, p_dict1, p_listT, p_isBoolB, sl_tup, ret_rt, bind_name, bindPar_ok, List.getElem?_cons_zero, List.getElem?_cons_succ, List.length_cons, List.length_nil, List.set_cons_zero, List.set_cons_succ, Option.some.injEq, D.int.injEq, D.bl.injEq, D.loc.injEq, exists_eq_left', exists_eq_left, exists_eq_left2, exists_eq_left3, bindT_two, bindPar_end, wipeE, ofC_one, ofC_nil, itT0, itT1, itT2, itT3, deq_str, if_true, if_false, Bool.false_eq_true, true_and, and_true, Nat.zero_add]
      exact rest u
    | true =>
      simp only [ws_cons, ws_nil, ws_ite, s_ret, s_expr, s_asg, s_par, s_pass, s_aug, s_setFld, s_setSub, s_for, e_prim, e_cons, e_nil, e_var, e_cst, e_glb, e_tup, e_lst, e_dnew, e_and, e_or, e_not, e_ifx, e_call, e_fld, e_meth, e_lm, e_sl2, e_slL, e_slH, p_addI, p_addT, p_addL, p_sub, p_mulI, p_mulL, p_mod, p_fdiv, p_pow, p_neg, p_eq, p_ne, p_lt, p_le, p_gt, p_ge, p_in, p_notin, p_isN, p_notN, p_isB, p_notB, p_item, p_rev, p_lenT, p_lenL, p_lenset, p_sorted, p_dict1, p_listT, p_isBoolB, sl_tup, ret_rt, bind_name, bindPar_ok, List.getElem?_cons_zero, List.getElem?_cons_succ, List.length_cons, List.length_nil, List.set_cons_zero, List.set_cons_succ, Option.some.injEq, D.int.injEq, D.bl.injEq, D.loc.injEq, exists_eq_left', exists_eq_left, exists_eq_left2, exists_eq_left3, bindT_two, bindPar_end, wipeE, ofC_one, ofC_nil, itT0, itT1, itT2, itT3, deq_str, if_true, if_false, Bool.false_eq_true, true_and, and_true, Nat.zero_add]
      exact ⟨by decide, rest none⟩
theorem aA2 (hd : Drawn S0 S K F nk nw np) (hw : nk < 1000 ∧ nw < 1000) (hi : i < 100) {u : Option Part} (q : ∀ S' u, Drawn S0 S' K F (nk + 1) (nw + 1) (np + 1) → P.nx (envW l by_ lead K F kind i cell key (some (dU u))) S') : ws (execs G (run G (n + 2)) [A2, A3, A4, A5, A6] (envW l by_ lead K F kind i cell key (some (dU u))) S) P := by
  have rest : ∀ (S' : Store) (u : Option Part), Le S S' → ws (execs G (run G (n + 2)) [A3, A4, A5, A6] (envW l by_ lead K F kind i cell key (some (dU u))) S') P := fun S' u e => aA3 (hd.le e) hw hi q
  rw [ws_cons, ws_ite, e_and]
  generalize [A3, A4, A5, A6] = tl at rest ⊢
  simp only [ws_cons, ws_nil, ws_ite, s_ret, s_expr, s_asg, s_par, s_pass, s_aug, s_setFld, s_setSub, s_for, e_prim, e_cons, e_nil, e_var, e_cst, e_glb, e_tup, e_lst, e_dnew, e_and, e_or, e_not, e_ifx, e_call, e_fld, e_meth, e_lm, e_sl2, e_slL, e_slH, p_addI, p_addT, p_addL, p_sub, p_mulI, p_mulL, p_mod, p_fdiv, p_pow, p_neg, p_eq, p_ne, p_lt, p_le, p_gt, p_ge, p_in, p_notin, p_isN, p_notN, p_isB, p_notB, p_item, p_rev, p_lenT, p_lenL, p_lenset, p_sorted, p_dict1, p_listT, p_isBoolB, sl_tup, ret_rt, bind_name, bindPar_ok, List.getElem?_cons_zero, List.getElem?_cons_succ, List.length_cons, List.length_nil, List.set_cons_zero, List.set_cons_succ, Option.some.injEq, D.int.injEq, D.bl.injEq, D.loc.injEq, exists_eq_left', exists_eq_left, exists_eq_left2, exists_eq_left3, bindT_two, bindPar_end, wipeE, ofC_one, ofC_nil, itT0, itT1, itT2, itT3, deq_str, if_true, if_false, Bool.false_eq_true, true_and, and_true, Nat.zero_add]
  refine ⟨_, rfl, ?_⟩
  cases PyData.eqv (.int kind) (.int 0) with
  | false =>
    simp only [ws_cons, ws_nil, ws_ite, s_ret, s_expr, s_asg, s_par, s_pass, s_aug, s_setFld, s_setSub, s_for, e_prim, e_cons, e_nil, e_var, e_cst, e_glb, e_tup, e_lst, e_dnew, e_and, e_or, e_not, e_ifx, e_call, e_fld, e_meth, e_lm, e_sl2, e_slL, e_slH, p_addI, p_addT, p_addL, p_sub, p_mulI, p_mulL, p_mod, p_fdiv, p_pow, p_neg, p_eq, p_ne, p_lt, p_le, p_gt, p_ge, p_in, p_notin, p_isN, p_notN, p_isB, p_notB, p_item, p_rev, p_lenT, p_lenL, p_lenset, p_sorted, p_dict1, p_listT, p_isBoolB, sl_tup, ret_rt, bind_name, bindPar_ok, List.getElem?_cons_zero, List.getElem?_cons_succ, List.length_cons, List.length_nil, List.set_cons_zero, List.set_cons_succ, Option.some.injEq, D.int.injEq, D.bl.injEq, D.loc.injEq, exists_eq_left', exists_eq_left, exists_eq_left2, exists_eq_left3, bindT_two, bindPar_end, wipeE, ofC_one, ofC_nil, itT0, itT1, itT2, itT3, deq_str, if_true, if_false, Bool.false_eq_true, true_and, and_true, Nat.zero_add]
    exact rest S u (Le.refl _)
  | true =>
    simp only [ws_cons, ws_nil, ws_ite, s_ret, s_expr, s_asg, s_par, s_pass, s_aug, s_setFld, s_setSub, s_for, e_prim, e_cons, e_nil, e_var, e_cst, e_glb, e_tup, e_lst, e_dnew, e_and, e_or, e_not, e_ifx, e_call, e_fld, e_meth, e_lm, e_sl2, e_slL, e_slH, p_addI, p_addT, p_addL, p_sub, p_mulI, p_mulL, p_mod, p_fdiv, p_pow, p_neg, p_eq, p_ne, p_lt, p_le, p_gt, p_ge, p_in, p_notin, p_isN, p_notN, p_isB, p_notB, p_item, p_rev, p_lenT, p_lenL, p_lenset, p_sorted, p_dict1, p_listT, p_isBoolB, sl_tup, ret_rt, bind_name, bindPar_ok, List.getElem?_cons_zero, List.getElem?_cons_succ, List.length_cons, List.length_nil, List.set_cons_zero, List.set_cons_succ, Option.some.injEq, D.int.injEq, D.bl.injEq, D.loc.injEq, exists_eq_left', exists_eq_left, exists_eq_left2, exists_eq_left3, bindT_two, bindPar_end, wipeE, ofC_one, ofC_nil, itT0, itT1, itT2, itT3, deq_str, if_true, if_false, Bool.false_eq_true, true_and, and_true, Nat.zero_add]
    obtain ⟨h1, h2, h3, h4, ⟨keys, k1, k2⟩, _⟩ := hd
    have e1 : Le S (S ++ [.list []]) := Le.push _ _
    refine ⟨Nat.zero_le _, ?_⟩
    rw [deq_LP (k1.le e1) push_nil]
    cases keys with
    | nil =>
      simp only [ws_cons, ws_nil, ws_ite, s_ret, s_expr, s_asg, s_par, s_pass, s_aug, s_setFld, s_setSub, s_for, e_prim, e_cons, e_nil, e_var, e_cst, e_glb, e_tup, e_lst, e_dnew, e_and, e_or, e_not, e_ifx, e_call, e_fld, e_meth, e_lm, e_sl2, e_slL, e_slH, p_addI, p_addT, p_addL, p_sub, p_mulI, p_mulL, p_mod, p_fdiv, p_pow, p_neg, p_eq, p_ne, p_lt, p_le, p_gt, p_ge, p_in, p_notin, p_isN, p_notN, p_isB, p_notB, p_item, p_rev, p_lenT, p_lenL, p_lenset, p_sorted, p_dict1, p_listT, p_isBoolB, sl_tup, ret_rt, bind_name, bindPar_ok, List.getElem?_cons_zero, List.getElem?_cons_succ, List.length_cons, List.length_nil, List.set_cons_zero, List.set_cons_succ, Option.some.injEq, D.int.injEq, D.bl.injEq, D.loc.injEq, exists_eq_left', exists_eq_left, exists_eq_left2, exists_eq_left3, bindT_two, bindPar_end, wipeE, ofC_one, ofC_nil, itT0, itT1, itT2, itT3, deq_str, if_true, if_false, Bool.false_eq_true, true_and, and_true, Nat.zero_add, decide_true, Bool.not_true]
      exact rest _ u e1
    | cons a r =>
      simp only [ws_cons, ws_nil, ws_ite, s_ret, s_expr, s_asg, s_par, s_pass, s_aug, s_setFld, s_setSub, s_for, e_prim, e_cons, e_nil, e_var, e_cst, e_glb, e_tup, e_lst, e_dnew, e_and, e_or, e_not, e_ifx, e_call, e_fld, e_meth, e_lm, e_sl2, e_slL, e_slH, p_addI, p_addT, p_addL, p_sub, p_mulI, p_mulL, p_mod, p_fdiv, p_pow, p_neg, p_eq, p_ne, p_lt, p_le, p_gt, p_ge, p_in, p_notin, p_isN, p_notN, p_isB, p_notB, p_item, p_rev, p_lenT, p_lenL, p_lenset, p_sorted, p_dict1, p_listT, p_isBoolB, sl_tup, ret_rt, bind_name, bindPar_ok, List.getElem?_cons_zero, List.getElem?_cons_succ, List.length_cons, List.length_nil, List.set_cons_zero, List.set_cons_succ, Option.some.injEq, D.int.injEq, D.bl.injEq, D.loc.injEq, exists_eq_left', exists_eq_left, exists_eq_left2, exists_eq_left3, bindT_two, bindPar_end, wipeE, ofC_one, ofC_nil, itT0, itT1, itT2, itT3, deq_str, if_true, if_false, Bool.false_eq_true, true_and, and_true, Nat.zero_add, reduceCtorEq, decide_false, Bool.not_false]
      obtain ⟨z, hz⟩ : ∃ z, (a :: r).getLast? = some z := ⟨_, List.getLast?_eq_some_getLast (by simp)⟩
      exact ⟨dP z, it_last (k1.le e1) (by rw [List.getLast?_map, hz]; rfl), by decide, rest _ (some z) e1⟩
theorem aA1 (hd : Drawn S0 S K F nk nw np) (hw : nk < 1000 ∧ nw < 1000) (hi : i < 100) {u : Option D} (q : ∀ S' u, Drawn S0 S' K F (nk + 1) (nw + 1) (np + 1) → P.nx (envW l by_ lead K F kind i cell key (some (dU u))) S') : ws (execs G (run G (n + 2)) [A1, A2, A3, A4, A5, A6] (envW l by_ lead K F kind i cell key u) S) P := by
  have rest : ∀ (S' : Store) (u : Option Part), Le S S' → ws (execs G (run G (n + 2)) [A2, A3, A4, A5, A6] (envW l by_ lead K F kind i cell key (some (dU u))) S') P := fun S' u e => aA2 (hd.le e) hw hi q
  rw [ws_cons]
  generalize [A2, A3, A4, A5, A6] = tl at rest ⊢
  simp only [ws_cons, ws_nil, ws_ite, s_ret, s_expr, s_asg, s_par, s_pass, s_aug, s_setFld, s_setSub, s_for, e_prim, e_cons, e_nil, e_var, e_cst, e_glb, e_tup, e_lst, e_dnew, e_and, e_or, e_not, e_ifx, e_call, e_fld, e_meth, e_lm, e_sl2, e_slL, e_slH, p_addI, p_addT, p_addL, p_sub, p_mulI, p_mulL, p_mod, p_fdiv, p_pow, p_neg, p_eq, p_ne, p_lt, p_le, p_gt, p_ge, p_in, p_notin, p_isN, p_notN, p_isB, p_notB, p_item, p_rev, p_lenT, p_lenL, p_lenset, p_sorted, p_dict1, p_listT, p_isBoolB, sl_tup, ret_rt, bind_name, bindPar_ok, List.getElem?_cons_zero, List.getElem?_cons_succ, List.length_cons, List.length_nil, List.set_cons_zero, List.set_cons_succ, Option.some.injEq, D.int.injEq, D.bl.injEq, D.loc.injEq, exists_eq_left', exists_eq_left, exists_eq_left2, exists_eq_left3, bindT_two, bindPar_end, wipeE, ofC_one, ofC_nil, itT0, itT1, itT2, itT3, deq_str, if_true, if_false, Bool.false_eq_true, true_and, and_true, Nat.zero_add]
  obtain ⟨h1, h2, h3, h4, ⟨keys, k1, k2⟩, _⟩ := hd
  have e1 : Le S (S ++ [.list []]) := Le.push _ _
  refine ⟨Nat.zero_le _, ?_⟩
  rw [deq_LP (k1.le e1) push_nil]
  cases keys with
  | nil =>
    refine ⟨_, rfl, ?_⟩
    simp only [ws_cons, ws_nil, ws_ite, s_ret, s_expr, s_asg, s_par, s_pass, s_aug, s_setFld, s_setSub, s_for, e_prim, e_cons, e_nil, e_var, e_cst, e_glb, e_tup, e_lst, e_dnew, e_and, e_or, e_not, e_ifx, e_call, e_fld, e_meth, e_lm, e_sl2, e_slL, e_slH, p_addI, p_addT, p_addL, p_sub, p_mulI, p_mulL, p_mod, p_fdiv, p_pow, p_neg, p_eq, p_ne, p_lt, p_le, p_gt, p_ge, p_in, p_notin, p_isN, p_notN, p_isB, p_notB, p_item, p_rev, p_lenT, p_lenL, p_lenset, p_sorted, p_dict1, p_listT, p_isBoolB, sl_tup, ret_rt, bind_name, bindPar_ok, List.getElem?_cons_zero, List.getElem?_cons_succ, List.length_cons, List.length_nil, List.set_cons_zero, List.set_cons_succ, Option.some.injEq, D.int.injEq, D.bl.injEq, D.loc.injEq, exists_eq_left', exists_eq_left, exists_eq_left2, exists_eq_left3, bindT_two, bindPar_end, wipeE, ofC_one, ofC_nil, itT0, itT1, itT2, itT3, deq_str, if_true, if_false, Bool.false_eq_true, true_and, and_true, Nat.zero_add, decide_true, Bool.not_true]
    exact ⟨by decide, rest _ none e1⟩
  | cons a r =>
    refine ⟨_, rfl, ?_⟩
    simp only [ws_cons, ws_nil, ws_ite, s_ret, s_expr, s_asg, s_par, s_pass, s_aug, s_setFld, s_setSub, s_for, e_prim, e_cons, e_nil, e_var, e_cst, e_glb, e_tup, e_lst, e_dnew, e_and, e_or, e_not, e_ifx, e_call, e_fld, e_meth, e_lm, e_sl2, e_slL, e_slH, p_addI, p_addT, p_addL, p_sub, p_mulI, p_mulL, p_mod, p_fdiv, p_pow, p_neg, p_eq, p_ne, p_lt, p_le, p_gt, p_ge, p_in, p_notin, p_isN, p_notN, p_isB, p_notB, p_item, p_rev, p_lenT, p_lenL, p_lenset, p_sorted, p_dict1, p_listT, p_isBoolB, sl_tup, ret_rt, bind_name, bindPar_ok, List.getElem?_cons_zero, List.getElem?_cons_succ, List.length_cons, List.length_nil, List.set_cons_zero, List.set_cons_succ, Option.some.injEq, D.int.injEq, D.bl.injEq, D.loc.injEq, exists_eq_left', exists_eq_left, exists_eq_left2, exists_eq_left3, bindT_two, bindPar_end, wipeE, ofC_one, ofC_nil, itT0, itT1, itT2, itT3, deq_str, if_true, if_false, Bool.false_eq_true, true_and, and_true, Nat.zero_add, reduceCtorEq, decide_false, Bool.not_false]
    refine ⟨_, li_list (k1.le e1), ?_⟩
    rw [List.length_map]
    refine sp11 (by omega) (by rw [List.length_cons]; omega) fun j j1 j2 => ?_
    obtain ⟨m, rfl⟩ := Int.eq_ofNat_of_zero_le j1
    have hm : m < (a :: r).length := by omega
    exact ⟨dP (a :: r)[m], it_list (k1.le e1) (by rw [List.getElem?_map, List.getElem?_eq_getElem hm]; rfl), by decide, rest _ (some _) e1⟩
abbrev B1 : CS := .asg (.name 8) (.prim .add [.call 9 [.var 0, .prim .add [.var 1, .prim .mod [.var 7, .cst (.int 7)]]], .prim .mul [.cst (.int 17), .var 7]])
abbrev B2 : CS := .asg (.name 9) (.tup [.call 11 [.var 8, .prim .add [.var 7, .cst (.int 1)], .cst (.int 6)], .call 11 [.var 8, .prim .add [.var 7, .cst (.int 2)], .cst (.int 10)]])
theorem aB {ns : List Int} {x8 x9 x10 : Option D} (h : S0[l]? = some (.fix (ns.map .int))) (hb : 0 ≤ by_ ∧ by_ < 3) (hd : Drawn S0 S K F i (2 * i) i) (hi : i < 100) (hk : 0 ≤ kind ∧ kind < 4) (q : ∀ S' cell key u, Drawn S0 S' K F (i + 1) (2 * i + 2) (i + 1) → P.nx (envW l by_ lead K F kind i cell key u) S') : ws (execs G (run G (n + 2)) [B1, B2, .ite (.prim .notin [.var 9, .var 4]) [A1, A2, A3, A4, A5, A6] [], A7] [some (.loc l), some (.int by_), some (.int 16), some (.int lead), some (.loc K), some (.loc F), some (.int kind), some (.int i), x8, x9, x10] S) P := by
  have r7 : ∀ (S' : Store) (cell : Int) (key : Part) (u : Option D), Drawn S0 S' K F (i + 1) (2 * i + 1) (i + 1) → ws (execs G (run G (n + 2)) [A7] (envW l by_ lead K F kind i cell key u) S') P := fun S' cell key u hd => aA7 hd (by omega) hi hk fun S2 hd2 => q S2 cell key u hd2
  have r1 : ∀ (cell : Int) (key : Part) (u : Option D), ws (execs G (run G (n + 2)) [A1, A2, A3, A4, A5, A6] (envW l by_ lead K F kind i cell key u) S) { P with nx := fun e S => ws (execs G (run G (n + 2)) [A7] e S) P } := fun cell key u => aA1 hd (by omega) hi fun S' u hd => r7 S' cell key _ hd
  generalize [A1, A2, A3, A4, A5, A6] = tl at r1 ⊢
  generalize [A7] = t7 at r1 r7 ⊢
  simp only [ws_cons, ws_nil, ws_ite, s_ret, s_expr, s_asg, s_par, s_pass, s_aug, s_setFld, s_setSub, s_for, e_prim, e_cons, e_nil, e_var, e_cst, e_glb, e_tup, e_lst, e_dnew, e_and, e_or, e_not, e_ifx, e_call, e_fld, e_meth, e_lm, e_sl2, e_slL, e_slH, p_addI, p_addT, p_addL, p_sub, p_mulI, p_mulL, p_mod, p_fdiv, p_pow, p_neg, p_eq, p_ne, p_lt, p_le, p_gt, p_ge, p_in, p_notin, p_isN, p_notN, p_isB, p_notB, p_item, p_rev, p_lenT, p_lenL, p_lenset, p_sorted, p_dict1, p_listT, p_isBoolB, sl_tup, ret_rt, bind_name, bindPar_ok, List.getElem?_cons_zero, List.getElem?_cons_succ, List.length_cons, List.length_nil, List.set_cons_zero, List.set_cons_succ, Option.some.injEq, D.int.injEq, D.bl.injEq, D.loc.injEq, exists_eq_left', exists_eq_left, exists_eq_left2, exists_eq_left3, bindT_two, bindPar_end, wipeE, ofC_one, ofC_nil, itT0, itT1, itT2, itT3, deq_str, if_true, if_false, Bool.false_eq_true, true_and, and_true, Nat.zero_add]
  refine ⟨by decide, ?_⟩
  refine sp9 (hd.1 _ _ h) (by have := Int.emod_nonneg (i : Int) (show (7 : Int) ≠ 0 by decide); omega) fun c => ?_
  simp only [ws_cons, ws_nil, ws_ite, s_ret, s_expr, s_asg, s_par, s_pass, s_aug, s_setFld, s_setSub, s_for, e_prim, e_cons, e_nil, e_var, e_cst, e_glb, e_tup, e_lst, e_dnew, e_and, e_or, e_not, e_ifx, e_call, e_fld, e_meth, e_lm, e_sl2, e_slL, e_slH, p_addI, p_addT, p_addL, p_sub, p_mulI, p_mulL, p_mod, p_fdiv, p_pow, p_neg, p_eq, p_ne, p_lt, p_le, p_gt, p_ge, p_in, p_notin, p_isN, p_notN, p_isB, p_notB, p_item, p_rev, p_lenT, p_lenL, p_lenset, p_sorted, p_dict1, p_listT, p_isBoolB, sl_tup, ret_rt, bind_name, bindPar_ok, List.getElem?_cons_zero, List.getElem?_cons_succ, List.length_cons, List.length_nil, List.set_cons_zero, List.set_cons_succ, Option.some.injEq, D.int.injEq, D.bl.injEq, D.loc.injEq, exists_eq_left', exists_eq_left, exists_eq_left2, exists_eq_left3, bindT_two, bindPar_end, wipeE, ofC_one, ofC_nil, itT0, itT1, itT2, itT3, deq_str, if_true, if_false, Bool.false_eq_true, true_and, and_true, Nat.zero_add]
  refine ⟨.inl (by decide), by decide, ?_⟩
  refine sp11 (by omega) (by decide) fun a _ _ => ?_
  refine sp11 (by omega) (by decide) fun b _ _ => ?_
  refine ⟨by decide, by decide, ?_⟩
  obtain ⟨keys, k1, k2⟩ := hd.2.2.2.2.1
  refine ⟨_, in_LP k1 (a, b), ?_⟩
  cases decide ((a, b) ∈ keys) with
  | true =>
    simp only [Bool.not_true, ws_cons, ws_nil, ws_ite, s_ret, s_expr, s_asg, s_par, s_pass, s_aug, s_setFld, s_setSub, s_for, e_prim, e_cons, e_nil, e_var, e_cst, e_glb, e_tup, e_lst, e_dnew, e_and, e_or, e_not, e_ifx, e_call, e_fld, e_meth, e_lm, e_sl2, e_slL, e_slH, p_addI, p_addT, p_addL, p_sub, p_mulI, p_mulL, p_mod, p_fdiv, p_pow, p_neg, p_eq, p_ne, p_lt, p_le, p_gt, p_ge, p_in, p_notin, p_isN, p_notN, p_isB, p_notB, p_item, p_rev, p_lenT, p_lenL, p_lenset, p_sorted, p_dict1, p_listT, p_isBoolB, sl_tup, ret_rt, bind_name, bindPar_ok, List.getElem?_cons_zero, List.getElem?_cons_succ, List.length_cons, List.length_nil, List.set_cons_zero, List.set_cons_succ, Option.some.injEq, D.int.injEq, D.bl.injEq, D.loc.injEq, exists_eq_left', exists_eq_left, exists_eq_left2, exists_eq_left3, bindT_two, bindPar_end, wipeE, ofC_one, ofC_nil, itT0, itT1, itT2, itT3, deq_str, if_true, if_false, Bool.false_eq_true, true_and, and_true, Nat.zero_add]
    exact r7 S _ (a, b) _ (hd.mono (Nat.le_succ _) (Nat.le_succ _) (Nat.le_succ _))
  | false =>
    simp only [Bool.not_false, ws_cons, ws_nil, ws_ite, s_ret, s_expr, s_asg, s_par, s_pass, s_aug, s_setFld, s_setSub, s_for, e_prim, e_cons, e_nil, e_var, e_cst, e_glb, e_tup, e_lst, e_dnew, e_and, e_or, e_not, e_ifx, e_call, e_fld, e_meth, e_lm, e_sl2, e_slL, e_slH, p_addI, p_addT, p_addL, p_sub, p_mulI, p_mulL, p_mod, p_fdiv, p_pow, p_neg, p_eq, p_ne, p_lt, p_le, p_gt, p_ge, p_in, p_notin, p_isN, p_notN, p_isB, p_notB, p_item, p_rev, p_lenT, p_lenL, p_lenset, p_sorted, p_dict1, p_listT, p_isBoolB, sl_tup, ret_rt, bind_name, bindPar_ok, List.getElem?_cons_zero, List.getElem?_cons_succ, List.length_cons, List.length_nil, List.set_cons_zero, List.set_cons_succ, Option.some.injEq, D.int.injEq, D.bl.injEq, D.loc.injEq, exists_eq_left', exists_eq_left, exists_eq_left2, exists_eq_left3, bindT_two, bindPar_end, wipeE, ofC_one, ofC_nil, itT0, itT1, itT2, itT3, deq_str, if_true, if_false, Bool.false_eq_true, true_and, and_true, Nat.zero_add]
    exact r1 _ (a, b) _
end
theorem sp12 {n : Nat} {S : Store} {l : Nat} {ns : List Int} {by_ : Int} (h : S[l]? = some (.fix (ns.map .int))) (hb : 0 ≤ by_ ∧ by_ < 3) {Q : D → Store → Prop} (q : ∀ S' L wl, Le S S' → HasL S' L dW wl → wl.length ≤ 60 → wl.countP isPart ≤ 16 → Q (.loc L) S') : wp (run G (n + 3) 12 [.loc l, .int by_, .int 16] S) Q := by
  refine (wp_run (fn := ⟨3, 11, b12⟩) rfl rfl).mpr ?_
  show ws (execs G (run G (n + 2)) b12 [some (.loc l), some (.int by_), some (.int 16), none, none, none, none, none, none, none, none] S) _
  unfold b12
  simp only [ws_cons, ws_nil, ws_ite, s_ret, s_expr, s_asg, s_par, s_pass, s_aug, s_setFld, s_setSub, s_for, e_prim, e_cons, e_nil, e_var, e_cst, e_glb, e_tup, e_lst, e_dnew, e_and, e_or, e_not, e_ifx, e_call, e_fld, e_meth, e_lm, e_sl2, e_slL, e_slH, p_addI, p_addT, p_addL, p_sub, p_mulI, p_mulL, p_mod, p_fdiv, p_pow, p_neg, p_eq, p_ne, p_lt, p_le, p_gt, p_ge, p_in, p_notin, p_isN, p_notN, p_isB, p_notB, p_item, p_rev, p_lenT, p_lenL, p_lenset, p_sorted, p_dict1, p_listT, p_isBoolB, sl_tup, ret_rt, bind_name, bindPar_ok, List.getElem?_cons_zero, List.getElem?_cons_succ, List.length_cons, List.length_nil, List.set_cons_zero, List.set_cons_succ, Option.some.injEq, D.int.injEq, D.bl.injEq, D.loc.injEq, exists_eq_left', exists_eq_left, exists_eq_left2, exists_eq_left3, bindT_two, bindPar_end, wipeE, ofC_one, ofC_nil, itT0, itT1, itT2, itT3, deq_str, if_true, if_false, Bool.false_eq_true, true_and, and_true, Nat.zero_add]
  refine sp9 h hb.1 fun lead => ?_
  refine ⟨Nat.zero_le _, Nat.zero_le _, ?_⟩
  have leA : Le S ((S ++ [.list []]) ++ [.list []]) := (Le.push _ _).trans (Le.push _ _)
  have D0 : Drawn S ((S ++ [.list []]) ++ [.list []]) S.length (S ++ [O.list []]).length 0 0 0 := ⟨leA, Nat.le_refl _, by rw [List.length_append]; exact Nat.le_add_right _ _, by rw [List.length_append, List.length_singleton]; omega, ⟨[], Le.push _ _ _ _ get_push, Nat.le_refl _⟩, [], get_push, Nat.le_refl _, Nat.le_refl _⟩
  revert D0 leA
  generalize ((S ++ [O.list []]) ++ [O.list []]) = S1
  generalize (S ++ [O.list []]).length = F
  generalize S.length = K
  intro leA D0
  refine ⟨_, ⟨by decide, by decide, by decide, rfl⟩, ?_⟩
  simp only [ws_cons, ws_nil, ws_ite, s_ret, s_expr, s_asg, s_par, s_pass, s_aug, s_setFld, s_setSub, s_for, e_prim, e_cons, e_nil, e_var, e_cst, e_glb, e_tup, e_lst, e_dnew, e_and, e_or, e_not, e_ifx, e_call, e_fld, e_meth, e_lm, e_sl2, e_slL, e_slH, p_addI, p_addT, p_addL, p_sub, p_mulI, p_mulL, p_mod, p_fdiv, p_pow, p_neg, p_eq, p_ne, p_lt, p_le, p_gt, p_ge, p_in, p_notin, p_isN, p_notN, p_isB, p_notB, p_item, p_rev, p_lenT, p_lenL, p_lenset, p_sorted, p_dict1, p_listT, p_isBoolB, sl_tup, ret_rt, bind_name, bindPar_ok, List.getElem?_cons_zero, List.getElem?_cons_succ, List.length_cons, List.length_nil, List.set_cons_zero, List.set_cons_succ, Option.some.injEq, D.int.injEq, D.bl.injEq, D.loc.injEq, exists_eq_left', exists_eq_left, exists_eq_left2, exists_eq_left3, bindT_two, bindPar_end, wipeE, ofC_one, ofC_nil, itT0, itT1, itT2, itT3, deq_str, if_true, if_false, Bool.false_eq_true, true_and, and_true, Nat.zero_add]
  refine sp11 (by omega) (by decide) fun kind kd1 kd2 => ?_
  refine ⟨by decide, ?_⟩
  refine sp11 (by omega) (by decide) fun c c1 c2 => ?_
  obtain ⟨m, rfl⟩ := Int.eq_ofNat_of_zero_le c1
  have hm : m ≤ 16 := by omega
  have hbig : (1000 : Int) ≤ big := by decide
  refine ⟨_, _, mk_r1 (by omega), ?_⟩
  refine for_run (A := Nat) (List.range m) (fun j : Nat => D.int (Int.ofNat j)) (fun i e S' => Drawn S S' K F i (2 * i) i ∧ ∃ x7 x8 x9 x10, e = [some (.loc l), some (.int by_), some (.int 16), some (.int lead), some (.loc K), some (.loc F), some (.int kind), x7, x8, x9, x10]) (by rw [List.length_range]; exact Nat.le_of_eq rfl) ⟨D0, none, none, none, none, rfl⟩ ?_ ?_
  · rintro i j e S' hj ⟨hd, x7, x8, x9, x10, rfl⟩
    have hi : i < m := by
      have := (List.getElem?_eq_some_iff.mp hj).1
      rwa [List.length_range] at this
    rw [List.getElem?_range hi] at hj
    cases hj
    refine ⟨?_, _, bind_name.mpr ⟨(show 7 < 11 by decide), rfl⟩, ?_⟩
    · show itNext S' i (.range 0 1 m) = _
      rw [next_range, List.getElem?_range hi]
      show some (some (D.int (0 + (i : Int)))) = _
      rw [Int.zero_add]
      rfl
    · exact aB h hb hd (by omega) ⟨kd1, kd2⟩ fun S2 cell key u hd2 => ⟨hd2, _, _, _, _, rfl⟩
  · rintro e S' ⟨hd, x7, x8, x9, x10, rfl⟩
    rw [List.length_range] at hd ⊢
    refine ⟨?_, ?_⟩
    · show itNext S' m (.range 0 1 m) = _
      rw [next_range, List.getElem?_eq_none (by rw [List.length_range]; exact Nat.le_refl _)]
      rfl
    · simp only [ws_cons, ws_nil, ws_ite, s_ret, s_expr, s_asg, s_par, s_pass, s_aug, s_setFld, s_setSub, s_for, e_prim, e_cons, e_nil, e_var, e_cst, e_glb, e_tup, e_lst, e_dnew, e_and, e_or, e_not, e_ifx, e_call, e_fld, e_meth, e_lm, e_sl2, e_slL, e_slH, p_addI, p_addT, p_addL, p_sub, p_mulI, p_mulL, p_mod, p_fdiv, p_pow, p_neg, p_eq, p_ne, p_lt, p_le, p_gt, p_ge, p_in, p_notin, p_isN, p_notN, p_isB, p_notB, p_item, p_rev, p_lenT, p_lenL, p_lenset, p_sorted, p_dict1, p_listT, p_isBoolB, sl_tup, ret_rt, bind_name, bindPar_ok, List.getElem?_cons_zero, List.getElem?_cons_succ, List.length_cons, List.length_nil, List.set_cons_zero, List.set_cons_succ, Option.some.injEq, D.int.injEq, D.bl.injEq, D.loc.injEq, exists_eq_left', exists_eq_left, exists_eq_left2, exists_eq_left3, bindT_two, bindPar_end, wipeE, ofC_one, ofC_nil, itT0, itT1, itT2, itT3, deq_str, if_true, if_false, Bool.false_eq_true, true_and, and_true, Nat.zero_add]
      obtain ⟨h1, h2, h3, h4, h5, wl, w1, w2, w3⟩ := hd
      rw [sl_list w1, show (some (60 : Int)) = some ((60 : Nat) : Int) from rfl, cut_take]
      refine q _ _ wl (h1.trans (Le.push _ _)) ?_ (by omega) (by omega)
      unfold HasL
      rw [get_push, List.take_of_length_le (by rw [List.length_map]; omega)]
end MI.Law

namespace MI.Law
open PySem MI
section
variable {n : Nat} {S : Store} {Q : D → Store → Prop} {e : Env}
theorem cpy_P {l : Nat} {xs : List Part} (h : HasL S l dP xs) (q : ∀ S' l, Le S S' → HasL S' l dP xs → S.length ≤ l → Q (.loc l) S') : wp (prim .list1 [.loc l] S) Q :=
  (p_listL h).mpr (new_P xs rfl q)
theorem ins_st {c : Nat} {f : Str} {xs : List Part} : let T := ((S ++ [O.ins c []]) ++ [O.list (xs.map dP)]).set S.length (O.ins c [(f, D.loc (S ++ [O.ins c []]).length)]); Le S T ∧ T[S.length]? = some (O.ins c [(f, D.loc (S ++ [O.ins c []]).length)]) ∧ HasL T (S ++ [O.ins c []]).length dP xs := by
  have h0 : ((S ++ [O.ins c []]) ++ [O.list (xs.map dP)])[S.length]? = some (O.ins c []) := Le.push _ _ _ _ get_push
  refine ⟨((Le.push S (O.ins c [])).trans (Le.push _ _)).put (Nat.le_refl _) _, set_get h0, set_ne get_push ?_⟩
  rw [List.length_append, List.length_singleton]
  omega
theorem in1 : G.init 1 = some 3 := rfl
theorem in2 : G.init 2 = some 5 := rfl
theorem in3 : G.init 3 = some 7 := rfl
theorem mt1 : G.meth 1 "shows" = some 4 := by decide +kernel
theorem mt2 : G.meth 2 "shows" = some 6 := by decide +kernel
theorem mt3 : G.meth 3 "shows" = some 8 := by decide +kernel
theorem lkw {d : D} : List.lookup ("shows" : Str) [(("way" : Str), d)] = none := by
  simp only [List.lookup, show (("shows" : Str) == "way") = false by decide +kernel]
theorem lkc {d : D} : List.lookup ("shows" : Str) [(("chain" : Str), d)] = none := by
  simp only [List.lookup, show (("shows" : Str) == "chain") = false by decide +kernel]
theorem new1_P {x : CE} {l : Nat} {xs : List Part} (hx : evalL G (run G (n + 1)) [x] e S = .ok [.loc l] S) (h : HasL S l dP xs) (q : ∀ S' m k, Le S S' → S'[m]? = some (.ins 1 [("way", .loc k)]) → HasL S' k dP xs → S.length ≤ m → S.length ≤ k → Q (.loc m) S') : wp (eval G (run G (n + 1)) (.new 1 [x]) e S) Q := by
  rw [e_new in1, hx]
  obtain ⟨a, b, c⟩ := ins_st (S := S) (c := 1) (f := "way") (xs := xs)
  exact sp3 get_push (h.le (Le.push _ _)) ⟨rfl, q _ _ _ a b c (Nat.le_refl _) (by rw [List.length_append]; exact Nat.le_add_right _ _)⟩
theorem new2_P {x : CE} {l : Nat} {xs : List Part} (hx : evalL G (run G (n + 1)) [x] e S = .ok [.loc l] S) (h : HasL S l dP xs) (q : ∀ S' m k, Le S S' → S'[m]? = some (.ins 2 [("way", .loc k)]) → HasL S' k dP xs → S.length ≤ m → S.length ≤ k → Q (.loc m) S') : wp (eval G (run G (n + 1)) (.new 2 [x]) e S) Q := by
  rw [e_new in2, hx]
  obtain ⟨a, b, c⟩ := ins_st (S := S) (c := 2) (f := "way") (xs := xs)
  exact sp5 get_push (h.le (Le.push _ _)) ⟨rfl, q _ _ _ a b c (Nat.le_refl _) (by rw [List.length_append]; exact Nat.le_add_right _ _)⟩
theorem new3_P {x : CE} {l : Nat} {xs : List Part} (hx : evalL G (run G (n + 1)) [x] e S = .ok [.loc l] S) (h : HasL S l dP xs) (q : ∀ S' m k, Le S S' → S'[m]? = some (.ins 3 [("chain", .loc k)]) → HasL S' k dP xs → S.length ≤ m → S.length ≤ k → Q (.loc m) S') : wp (eval G (run G (n + 1)) (.new 3 [x]) e S) Q := by
  rw [e_new in3, hx]
  obtain ⟨a, b, c⟩ := ins_st (S := S) (c := 3) (f := "chain") (xs := xs)
  exact sp7 get_push (h.le (Le.push _ _)) ⟨rfl, q _ _ _ a b c (Nat.le_refl _) (by rw [List.length_append]; exact Nat.le_add_right _ _)⟩
end
/-- what an answer of kind k over a row says -/
def Ans (S : Store) (k m : Nat) (row : List Part) : Prop := match k with
  | 0 => ∃ x, S[m]? = some (.ins 1 [("way", .loc x)]) ∧ HasL S x dP row
  | 1 => ∃ x, S[m]? = some (.ins 2 [("way", .loc x)]) ∧ HasL S x dP row
  | _ => ∃ x, S[m]? = some (.ins 3 [("chain", .loc x)]) ∧ HasL S x dP row
theorem shows_P {n : Nat} {S : Store} {k m w : Nat} {wl : List Word} {p : Part} {row : List Part} {Q : D → Store → Prop} (h : Ans S k m row) (hw : HasL S w dW wl) (hcw : wl.length < cap) (hc : row.length < 64) (q : ∀ S', Le S S' → Q (.bl (due k wl p row)) S') : ∃ l c fs j, D.loc m = .loc l ∧ S[l]? = some (.ins c fs) ∧ G.meth c "shows" = some j ∧ fs.lookup ("shows" : Str) = none ∧ wp (run G (n + 2) j [.loc l, .loc w, dP p] S) Q := by
  have h64 : (64 : Nat) < cap := by decide
  match k, h with
  | 0, ⟨x, a, b⟩ => exact ⟨m, 1, _, 4, rfl, a, mt1, lkw, sp4 a hw b hcw (by omega) q⟩
  | 1, ⟨x, a, b⟩ => exact ⟨m, 2, _, 6, rfl, a, mt2, lkw, sp6 a hw b hcw (by omega) q⟩
  | k + 2, ⟨x, a, b⟩ => exact ⟨m, 3, _, 8, rfl, a, mt3, lkc, sp8 a hw b hcw hc q⟩
theorem says_P {n : Nat} {S : Store} {k w l : Nat} {wl : List Word} {p : Part} {row : List Part} {Q : D → Store → Prop} (hk : k < 3) (hw : HasL S w dW wl) (h : HasL S l dP row) (hcw : wl.length < cap) (hc : row.length < cap) (q : ∀ S', Le S S' → Q (.bl (due k wl p row)) S') : wp (run G (n + 3) 17 [.str (kindS k), .loc w, dP p, .loc l] S) Q := by
  by_cases h2 : k < 2
  · exact sp17a h2 hw h hcw hc q
  · obtain rfl : k = 2 := by omega
    exact sp17b hw h hcw hc q
abbrev C1 : CS := .asg (.name 7) (.lst [.prim .list1 [.var 6], .prim .list1 [.var 6], .prim .list1 [.var 6]])
abbrev C2 : CS := .asg (.name 8) (.lst [.tup [.cst (.str "stands"), .new 1 [.prim .item [.var 7, .cst (.int 0)]]], .tup [.cst (.str "gone"), .new 2 [.prim .item [.var 7, .cst (.int 1)]]], .tup [.cst (.str "waits"), .new 3 [.prim .item [.var 7, .cst (.int 2)]]]])
abbrev C3 : CS := .for_ .list [.var 7] (.name 9) [.expr (.lm .append (.var 9) [.var 3])]
abbrev C4 : CS := .ite (.prim .ne [.lst [.fld "way" (.prim .item [.prim .item [.var 8, .cst (.int 0)], .cst (.int 1)]), .fld "way" (.prim .item [.prim .item [.var 8, .cst (.int 1)], .cst (.int 1)]), .fld "chain" (.prim .item [.prim .item [.var 8, .cst (.int 2)], .cst (.int 1)])], .lst [.var 6, .var 6, .var 6]]) [.ret (.cst (.bl false))] []
abbrev C5 : CS := .for_ .list [.var 8] (.tup [.name 10, .name 11]) [.ite (.not (.call 18 [.meth "shows" (.var 11) [.var 2, .var 3], .call 17 [.var 10, .var 2, .var 3, .var 6]])) [.ret (.cst (.bl false))] []]
abbrev envL (l : Nat) (by_ : Int) (w : Nat) (p : Part) (st : D) (r s : Nat) (x7 x8 x9 x10 x11 : Option D) : Env := [some (.loc l), some (.int by_), some (.loc w), some (dP p), some st, some (.loc r), some (.loc s), x7, x8, x9, x10, x11, none, none, none]
theorem aC5 {n : Nat} {S : Store} {l w r s R m0 m1 m2 : Nat} {by_ : Int} {p : Part} {st : D} {wl : List Word} {row : List Part} {x7 x9 x10 x11 : Option D} {P : Ws} (hw : HasL S w dW wl) (hcw : wl.length < cap) (hs : HasL S s dP row) (hc : row.length < 64) (hR : S[R]? = some (.list [.tup [.str "stands", .loc m0], .tup [.str "gone", .loc m1], .tup [.str "waits", .loc m2]])) (h0 : Ans S 0 m0 row) (h1 : Ans S 1 m1 row) (h2 : Ans S 2 m2 row) (q : ∀ S' x10 x11, Le S S' → P.nx (envL l by_ w p st r s x7 (some (.loc R)) x9 x10 x11) S') : ws (execs G (run G (n + 3)) [C5] (envL l by_ w p st r s x7 (some (.loc R)) x9 x10 x11) S) P := by
  have h64 : (64 : Nat) < cap := by decide
  have hR2 : HasL S R (fun q : Nat × Nat => D.tup [.str (kindS q.1), .loc q.2]) [(0, m0), (1, m1), (2, m2)] := hR
  have hA : ∀ q ∈ [(0, m0), (1, m1), (2, m2)], q.1 < 3 ∧ ∀ S', Le S S' → Ans S' q.1 q.2 row := by
    intro q hq
    simp only [List.mem_cons, List.not_mem_nil, or_false] at hq
    rcases hq with rfl | rfl | rfl
    · exact ⟨show 0 < 3 by decide, fun S' e => h0.imp fun _ z => ⟨e _ _ z.1, z.2.le e⟩⟩
    · exact ⟨show 1 < 3 by decide, fun S' e => h1.imp fun _ z => ⟨e _ _ z.1, z.2.le e⟩⟩
    · exact ⟨show 2 < 3 by decide, fun S' e => h2.imp fun _ z => ⟨e _ _ z.1, z.2.le e⟩⟩
  rw [ws_cons, s_for]
  simp only [ws_cons, ws_nil, ws_ite, s_ret, s_expr, s_asg, s_par, s_pass, s_aug, s_setFld, s_setSub, s_for, e_prim, e_cons, e_nil, e_var, e_cst, e_glb, e_tup, e_lst, e_dnew, e_and, e_or, e_not, e_ifx, e_call, e_fld, e_meth, e_lm, e_sl2, e_slL, e_slH, p_addI, p_addT, p_addL, p_sub, p_mulI, p_mulL, p_mod, p_fdiv, p_pow, p_neg, p_eq, p_ne, p_lt, p_le, p_gt, p_ge, p_in, p_notin, p_isN, p_notN, p_isB, p_notB, p_item, p_rev, p_lenT, p_lenL, p_lenset, p_sorted, p_dict1, p_listT, p_isBoolB, sl_tup, ret_rt, bind_name, bindPar_ok, List.getElem?_cons_zero, List.getElem?_cons_succ, List.length_cons, List.length_nil, List.set_cons_zero, List.set_cons_succ, Option.some.injEq, D.int.injEq, D.bl.injEq, D.loc.injEq, exists_eq_left', exists_eq_left, exists_eq_left2, exists_eq_left3, bindT_two, bindPar_end, wipeE, ofC_one, ofC_nil, itT0, itT1, itT2, itT3, deq_str, if_true, if_false, Bool.false_eq_true, true_and, and_true, Nat.zero_add]
  refine ⟨_, _, mk_list hR2, ?_⟩
  refine for_run [(0, m0), (1, m1), (2, m2)] (fun q : Nat × Nat => D.tup [.str (kindS q.1), .loc q.2]) (fun i e S' => Le S S' ∧ ∃ x10 x11, e = envL l by_ w p st r s x7 (some (.loc R)) x9 x10 x11) (Nat.le_refl _) ⟨Le.refl _, _, _, rfl⟩ ?_ ?_
  · rintro i ⟨k, m⟩ e S' hi ⟨hle, y10, y11, rfl⟩
    obtain ⟨hk, hAns⟩ := hA (k, m) (List.mem_of_getElem? hi)
    refine ⟨by rw [next_list (hR2.le hle), hi]; rfl, _, bindT_two.mpr ⟨(show 10 < 15 by decide), (show 11 < 15 by decide), rfl⟩, ?_⟩
    simp only [ws_cons, ws_nil, ws_ite, s_ret, s_expr, s_asg, s_par, s_pass, s_aug, s_setFld, s_setSub, s_for, e_prim, e_cons, e_nil, e_var, e_cst, e_glb, e_tup, e_lst, e_dnew, e_and, e_or, e_not, e_ifx, e_call, e_fld, e_meth, e_lm, e_sl2, e_slL, e_slH, p_addI, p_addT, p_addL, p_sub, p_mulI, p_mulL, p_mod, p_fdiv, p_pow, p_neg, p_eq, p_ne, p_lt, p_le, p_gt, p_ge, p_in, p_notin, p_isN, p_notN, p_isB, p_notB, p_item, p_rev, p_lenT, p_lenL, p_lenset, p_sorted, p_dict1, p_listT, p_isBoolB, sl_tup, ret_rt, bind_name, bindPar_ok, List.getElem?_cons_zero, List.getElem?_cons_succ, List.length_cons, List.length_nil, List.set_cons_zero, List.set_cons_succ, Option.some.injEq, D.int.injEq, D.bl.injEq, D.loc.injEq, exists_eq_left', exists_eq_left, exists_eq_left2, exists_eq_left3, bindT_two, bindPar_end, wipeE, ofC_one, ofC_nil, itT0, itT1, itT2, itT3, deq_str, if_true, if_false, Bool.false_eq_true, true_and, and_true, Nat.zero_add]
    obtain ⟨l', c, fs, j, z1, z2, z3, z4, z5⟩ := shows_P (n := n + 1) (w := w) (wl := wl) (p := p) (Q := fun d T => d = .bl (due k wl p row) ∧ Le S' T) (hAns S' hle) (hw.le hle) hcw hc (fun T e => ⟨rfl, e⟩)
    cases z1
    refine ⟨m, c, fs, j, rfl, z2, z3, z4, wp_mono z5 ?_⟩
    rintro d T ⟨rfl, e1⟩
    have k1 := hle.trans e1
    refine says_P hk (hw.le k1) (hs.le k1) hcw (by omega) fun T2 e2 => ?_
    have k2 := k1.trans e2
    refine sp18 ?_
    refine ⟨_, rfl, ?_⟩
    rw [beq_self_eq_true]
    simp only [Bool.not_true, ws_cons, ws_nil, ws_ite, s_ret, s_expr, s_asg, s_par, s_pass, s_aug, s_setFld, s_setSub, s_for, e_prim, e_cons, e_nil, e_var, e_cst, e_glb, e_tup, e_lst, e_dnew, e_and, e_or, e_not, e_ifx, e_call, e_fld, e_meth, e_lm, e_sl2, e_slL, e_slH, p_addI, p_addT, p_addL, p_sub, p_mulI, p_mulL, p_mod, p_fdiv, p_pow, p_neg, p_eq, p_ne, p_lt, p_le, p_gt, p_ge, p_in, p_notin, p_isN, p_notN, p_isB, p_notB, p_item, p_rev, p_lenT, p_lenL, p_lenset, p_sorted, p_dict1, p_listT, p_isBoolB, sl_tup, ret_rt, bind_name, bindPar_ok, List.getElem?_cons_zero, List.getElem?_cons_succ, List.length_cons, List.length_nil, List.set_cons_zero, List.set_cons_succ, Option.some.injEq, D.int.injEq, D.bl.injEq, D.loc.injEq, exists_eq_left', exists_eq_left, exists_eq_left2, exists_eq_left3, bindT_two, bindPar_end, wipeE, ofC_one, ofC_nil, itT0, itT1, itT2, itT3, deq_str, if_true, if_false, Bool.false_eq_true, true_and, and_true, Nat.zero_add]
    exact ⟨k2, _, _, rfl⟩
  · rintro e S' ⟨hle, y10, y11, rfl⟩
    exact ⟨by rw [next_list (hR2.le hle), List.getElem?_eq_none (Nat.le_refl _)]; rfl, q _ _ _ hle⟩
end MI.Law

namespace MI.Law
open PySem MI
theorem frz3 {S : Store} {l a b c : Nat} {x y z : PyData} {n : Nat} (h : S[l]? = some (.list [.loc a, .loc b, .loc c])) (ha : frz S n (.loc a) = some x) (hb : frz S n (.loc b) = some y) (hc : frz S n (.loc c) = some z) : frz S (n + 1) (.loc l) = some (.list [x, y, z]) := by
  simp only [frz, h, mapO, ha, hb, hc, Option.map_some]
theorem frzR {S : Store} {l n : Nat} {r : List Part} (h : HasL S l dP r) : frz S (n + 3) (.loc l) = some (.list (r.map pP)) := frz_list h fun p => frz_dP p n
theorem eqR (r : List Part) : PyData.eqv (.list (r.map pP)) (.list (r.map pP)) = true := by
  rw [eqv_list eqv_P]
  exact decide_eq_true rfl
theorem aC4 {n : Nat} {S : Store} {l w r s R m0 m1 m2 : Nat} {by_ : Int} {p : Part} {st : D} {wl : List Word} {row : List Part} {x7 x9 x10 x11 : Option D} {P : Ws} (hw : HasL S w dW wl) (hcw : wl.length < cap) (hs : HasL S s dP row) (hc : row.length < 64) (hR : S[R]? = some (.list [.tup [.str "stands", .loc m0], .tup [.str "gone", .loc m1], .tup [.str "waits", .loc m2]])) (h0 : Ans S 0 m0 row) (h1 : Ans S 1 m1 row) (h2 : Ans S 2 m2 row) (q : ∀ S' x10 x11, Le S S' → P.nx (envL l by_ w p st r s x7 (some (.loc R)) x9 x10 x11) S') : ws (execs G (run G (n + 3)) [C4, C5] (envL l by_ w p st r s x7 (some (.loc R)) x9 x10 x11) S) P := by
  have r5 : ∀ S', Le S S' → ws (execs G (run G (n + 3)) [C5] (envL l by_ w p st r s x7 (some (.loc R)) x9 x10 x11) S') P := fun S' e => aC5 (hw.le e) hcw (hs.le e) hc (e _ _ hR) (h0.imp fun _ z => ⟨e _ _ z.1, z.2.le e⟩) (h1.imp fun _ z => ⟨e _ _ z.1, z.2.le e⟩) (h2.imp fun _ z => ⟨e _ _ z.1, z.2.le e⟩) fun S2 y10 y11 e2 => q _ _ _ (e.trans e2)
  rw [ws_cons]
  generalize [C5] = tl at r5 ⊢
  obtain ⟨k0, a0, b0⟩ := h0
  obtain ⟨k1, a1, b1⟩ := h1
  obtain ⟨k2, a2, b2⟩ := h2
  simp only [ws_cons, ws_nil, ws_ite, s_ret, s_expr, s_asg, s_par, s_pass, s_aug, s_setFld, s_setSub, s_for, e_prim, e_cons, e_nil, e_var, e_cst, e_glb, e_tup, e_lst, e_dnew, e_and, e_or, e_not, e_ifx, e_call, e_fld, e_meth, e_lm, e_sl2, e_slL, e_slH, p_addI, p_addT, p_addL, p_sub, p_mulI, p_mulL, p_mod, p_fdiv, p_pow, p_neg, p_eq, p_ne, p_lt, p_le, p_gt, p_ge, p_in, p_notin, p_isN, p_notN, p_isB, p_notB, p_item, p_rev, p_lenT, p_lenL, p_lenset, p_sorted, p_dict1, p_listT, p_isBoolB, sl_tup, ret_rt, bind_name, bindPar_ok, List.getElem?_cons_zero, List.getElem?_cons_succ, List.length_cons, List.length_nil, List.set_cons_zero, List.set_cons_succ, Option.some.injEq, D.int.injEq, D.bl.injEq, D.loc.injEq, exists_eq_left', exists_eq_left, exists_eq_left2, exists_eq_left3, bindT_two, bindPar_end, wipeE, ofC_one, ofC_nil, itT0, itT1, itT2, itT3, deq_str, if_true, if_false, Bool.false_eq_true, true_and, and_true, Nat.zero_add]
  refine ⟨_, it_list (n := 0) hR rfl, .loc m0, rfl, m0, 1, _, .loc k0, rfl, a0, cls_one, lk_way, ?_⟩
  refine ⟨_, it_list (n := 1) hR rfl, .loc m1, rfl, m1, 2, _, .loc k1, rfl, a1, cls_two, lk_way, ?_⟩
  refine ⟨_, it_list (n := 2) hR rfl, .loc m2, rfl, m2, 3, _, .loc k2, rfl, a2, cls_three, lk_chain, by decide, by decide, ?_⟩
  have e1 : Le S (S ++ [.list [.loc k0, .loc k1, .loc k2]]) := Le.push _ _
  have e2 : Le (S ++ [.list [.loc k0, .loc k1, .loc k2]]) ((S ++ [.list [.loc k0, .loc k1, .loc k2]]) ++ [.list [.loc s, .loc s, .loc s]]) := Le.push _ _
  have e3 := e1.trans e2
  have f1 := frz3 (n := 7) (e2 _ _ get_push) (frzR (b0.le e3)) (frzR (b1.le e3)) (frzR (b2.le e3))
  have f2 := frz3 (n := 7) (S := (S ++ [.list [.loc k0, .loc k1, .loc k2]]) ++ [.list [.loc s, .loc s, .loc s]]) get_push (frzR (hs.le e3)) (frzR (hs.le e3)) (frzR (hs.le e3))
  refine ⟨_, deq_of f1 f2, ?_⟩
  have e4 : PyData.eqv (.list [.list (row.map pP), .list (row.map pP), .list (row.map pP)]) (.list [.list (row.map pP), .list (row.map pP), .list (row.map pP)]) = true := by
    show PyData.eqvAll _ _ = true
    simp only [PyData.eqvAll, eqR, Bool.and_true]
  rw [e4]
  simp only [Bool.not_true, ws_cons, ws_nil, ws_ite, s_ret, s_expr, s_asg, s_par, s_pass, s_aug, s_setFld, s_setSub, s_for, e_prim, e_cons, e_nil, e_var, e_cst, e_glb, e_tup, e_lst, e_dnew, e_and, e_or, e_not, e_ifx, e_call, e_fld, e_meth, e_lm, e_sl2, e_slL, e_slH, p_addI, p_addT, p_addL, p_sub, p_mulI, p_mulL, p_mod, p_fdiv, p_pow, p_neg, p_eq, p_ne, p_lt, p_le, p_gt, p_ge, p_in, p_notin, p_isN, p_notN, p_isB, p_notB, p_item, p_rev, p_lenT, p_lenL, p_lenset, p_sorted, p_dict1, p_listT, p_isBoolB, sl_tup, ret_rt, bind_name, bindPar_ok, List.getElem?_cons_zero, List.getElem?_cons_succ, List.length_cons, List.length_nil, List.set_cons_zero, List.set_cons_succ, Option.some.injEq, D.int.injEq, D.bl.injEq, D.loc.injEq, exists_eq_left', exists_eq_left, exists_eq_left2, exists_eq_left3, bindT_two, bindPar_end, wipeE, ofC_one, ofC_nil, itT0, itT1, itT2, itT3, deq_str, if_true, if_false, Bool.false_eq_true, true_and, and_true, Nat.zero_add]
  exact r5 _ e3
theorem aC3 {n : Nat} {S0 S : Store} {l w r s H R m0 m1 m2 l0 l1 l2 B : Nat} {by_ : Int} {p : Part} {st : D} {wl : List Word} {row : List Part} {x9 x10 x11 : Option D} {P : Ws} (h00 : Le S0 S) (hw : HasL S0 w dW wl) (hcw : wl.length < cap) (hs : HasL S0 s dP row) (hc : row.length < 64) (hR : S[R]? = some (.list [.tup [.str "stands", .loc m0], .tup [.str "gone", .loc m1], .tup [.str "waits", .loc m2]])) (hH : S[H]? = some (.list [.loc l0, .loc l1, .loc l2])) (h0 : Ans S 0 m0 row) (h1 : Ans S 1 m1 row) (h2 : Ans S 2 m2 row)
    (hl : ∀ x ∈ [l0, l1, l2], S0.length ≤ x ∧ x < B ∧ HasL S x dP row) (hB : B ≤ H ∧ B ≤ R)
    (hk : ∀ S', (∀ x o, B ≤ x → S[x]? = some o → S'[x]? = some o) → Ans S' 0 m0 row ∧ Ans S' 1 m1 row ∧ Ans S' 2 m2 row)
    (q : ∀ S' x9 x10 x11, Le S0 S' → P.nx (envL l by_ w p st r s (some (.loc H)) (some (.loc R)) x9 x10 x11) S') : ws (execs G (run G (n + 3)) [C3, C4, C5] (envL l by_ w p st r s (some (.loc H)) (some (.loc R)) x9 x10 x11) S) P := by
  have h64 : (64 : Nat) < cap := by decide
  have r4 : ∀ S' x9, Le S0 S' → (∀ x o, B ≤ x → S[x]? = some o → S'[x]? = some o) → ws (execs G (run G (n + 3)) [C4, C5] (envL l by_ w p st r s (some (.loc H)) (some (.loc R)) x9 x10 x11) S') P := fun S' x9 e kp =>
    have ⟨g0, g1, g2⟩ := hk S' kp
    aC4 (hw.le e) hcw (hs.le e) hc (kp _ _ hB.2 hR) g0 g1 g2 fun S2 y10 y11 e2 => q _ _ _ _ (e.trans e2)
  rw [ws_cons]
  generalize [C4, C5] = tl at r4 ⊢
  simp only [ws_cons, ws_nil, ws_ite, s_ret, s_expr, s_asg, s_par, s_pass, s_aug, s_setFld, s_setSub, s_for, e_prim, e_cons, e_nil, e_var, e_cst, e_glb, e_tup, e_lst, e_dnew, e_and, e_or, e_not, e_ifx, e_call, e_fld, e_meth, e_lm, e_sl2, e_slL, e_slH, p_addI, p_addT, p_addL, p_sub, p_mulI, p_mulL, p_mod, p_fdiv, p_pow, p_neg, p_eq, p_ne, p_lt, p_le, p_gt, p_ge, p_in, p_notin, p_isN, p_notN, p_isB, p_notB, p_item, p_rev, p_lenT, p_lenL, p_lenset, p_sorted, p_dict1, p_listT, p_isBoolB, sl_tup, ret_rt, bind_name, bindPar_ok, List.getElem?_cons_zero, List.getElem?_cons_succ, List.length_cons, List.length_nil, List.set_cons_zero, List.set_cons_succ, Option.some.injEq, D.int.injEq, D.bl.injEq, D.loc.injEq, exists_eq_left', exists_eq_left, exists_eq_left2, exists_eq_left3, bindT_two, bindPar_end, wipeE, ofC_one, ofC_nil, itT0, itT1, itT2, itT3, deq_str, if_true, if_false, Bool.false_eq_true, true_and, and_true, Nat.zero_add]
  have hH2 : HasL S H D.loc [l0, l1, l2] := hH
  refine ⟨_, _, mk_list hH2, ?_⟩
  refine for_run [l0, l1, l2] D.loc (fun i e S' => Le S0 S' ∧ (∀ x o, B ≤ x → S[x]? = some o → S'[x]? = some o) ∧ (∀ x ∈ [l0, l1, l2], ∃ xs : List D, S'[x]? = some (.list xs) ∧ xs.length ≤ 64 + i) ∧ ∃ x9, e = envL l by_ w p st r s (some (.loc H)) (some (.loc R)) x9 x10 x11) (Nat.le_refl _) ⟨h00, fun _ _ _ h => h, fun x hx => ⟨_, (hl x hx).2.2, by rw [List.length_map]; omega⟩, _, rfl⟩ ?_ ?_
  · rintro i a e S' ha ⟨hle, kp, hx, y9, rfl⟩
    have ham := List.mem_of_getElem? ha
    have hi : i < 3 := (List.getElem?_eq_some_iff.mp ha).1
    obtain ⟨z1, z2, z3⟩ := hl a ham
    obtain ⟨xs, w1, w2⟩ := hx a ham
    refine ⟨?_, _, bind_name.mpr ⟨(show 9 < 15 by decide), rfl⟩, ?_⟩
    · rw [next_list (show HasL S' H D.loc [l0, l1, l2] from kp _ _ hB.1 hH), ha]
      rfl
    · simp only [ws_cons, ws_nil, ws_ite, s_ret, s_expr, s_asg, s_par, s_pass, s_aug, s_setFld, s_setSub, s_for, e_prim, e_cons, e_nil, e_var, e_cst, e_glb, e_tup, e_lst, e_dnew, e_and, e_or, e_not, e_ifx, e_call, e_fld, e_meth, e_lm, e_sl2, e_slL, e_slH, p_addI, p_addT, p_addL, p_sub, p_mulI, p_mulL, p_mod, p_fdiv, p_pow, p_neg, p_eq, p_ne, p_lt, p_le, p_gt, p_ge, p_in, p_notin, p_isN, p_notN, p_isB, p_notB, p_item, p_rev, p_lenT, p_lenL, p_lenset, p_sorted, p_dict1, p_listT, p_isBoolB, sl_tup, ret_rt, bind_name, bindPar_ok, List.getElem?_cons_zero, List.getElem?_cons_succ, List.length_cons, List.length_nil, List.set_cons_zero, List.set_cons_succ, Option.some.injEq, D.int.injEq, D.bl.injEq, D.loc.injEq, exists_eq_left', exists_eq_left, exists_eq_left2, exists_eq_left3, bindT_two, bindPar_end, wipeE, ofC_one, ofC_nil, itT0, itT1, itT2, itT3, deq_str, if_true, if_false, Bool.false_eq_true, true_and, and_true, Nat.zero_add]
      refine ⟨by rw [li_list w1]; rfl, ?_⟩
      rw [p_append w1]
      have hcap : (1000 : Nat) < cap := by decide
      refine ⟨by omega, hle.put z1 _, ?_, ?_, _, rfl⟩
      · intro x o hx ho
        exact set_ne (kp x o hx ho) (by omega)
      · intro x hxm
        by_cases hxa : x = a
        · subst hxa
          exact ⟨_, set_get w1, by rw [List.length_append, List.length_singleton]; omega⟩
        · obtain ⟨ys, y1, y2⟩ := hx x hxm
          exact ⟨ys, set_ne y1 hxa, by omega⟩
  · rintro e S' ⟨hle, kp, hx, y9, rfl⟩
    refine ⟨?_, r4 S' _ hle kp⟩
    rw [next_list (show HasL S' H D.loc [l0, l1, l2] from kp _ _ hB.1 hH), List.getElem?_eq_none (Nat.le_refl _)]
    rfl
end MI.Law

namespace MI.Law
open PySem MI
theorem wp_eq {A : Type} {m : R A} {a : A} {S : Store} (h : wp m fun x T => x = a ∧ T = S) : m = .ok a S := by
  cases m with
  | ok x T => rw [h.1, h.2]
  | _ => exact h.elim
theorem ev7 {n : Nat} {S : Store} {e : Env} {H l : Nat} {i : Int} (he : e[7]? = some (some (.loc H))) (h : itemD (.loc H) (.int i) S = some (.loc l)) : evalL G (run G n) [.prim .item [.var 7, .cst (.int i)]] e S = .ok [.loc l] S := by
  refine wp_eq ?_
  simp only [ws_cons, ws_nil, ws_ite, s_ret, s_expr, s_asg, s_par, s_pass, s_aug, s_setFld, s_setSub, s_for, e_prim, e_cons, e_nil, e_var, e_cst, e_glb, e_tup, e_lst, e_dnew, e_and, e_or, e_not, e_ifx, e_call, e_fld, e_meth, e_lm, e_sl2, e_slL, e_slH, p_addI, p_addT, p_addL, p_sub, p_mulI, p_mulL, p_mod, p_fdiv, p_pow, p_neg, p_eq, p_ne, p_lt, p_le, p_gt, p_ge, p_in, p_notin, p_isN, p_notN, p_isB, p_notB, p_item, p_rev, p_lenT, p_lenL, p_lenset, p_sorted, p_dict1, p_listT, p_isBoolB, sl_tup, ret_rt, bind_name, bindPar_ok, List.getElem?_cons_zero, List.getElem?_cons_succ, List.length_cons, List.length_nil, List.set_cons_zero, List.set_cons_succ, Option.some.injEq, D.int.injEq, D.bl.injEq, D.loc.injEq, exists_eq_left', exists_eq_left, exists_eq_left2, exists_eq_left3, bindT_two, bindPar_end, wipeE, ofC_one, ofC_nil, itT0, itT1, itT2, itT3, deq_str, if_true, if_false, Bool.false_eq_true, true_and, and_true, Nat.zero_add, he]
  exact ⟨_, h, rfl⟩
theorem aC2 {n : Nat} {S0 S : Store} {l w r s H l0 l1 l2 : Nat} {by_ : Int} {p : Part} {st : D} {wl : List Word} {row : List Part} {x8 x9 x10 x11 : Option D} {P : Ws} (h00 : Le S0 S) (hw : HasL S0 w dW wl) (hcw : wl.length < cap) (hs : HasL S0 s dP row) (hc : row.length < 64) (hH : S[H]? = some (.list [.loc l0, .loc l1, .loc l2]))
    (hl : ∀ x ∈ [l0, l1, l2], S0.length ≤ x ∧ x < H ∧ HasL S x dP row)
    (q : ∀ S' x8 x9 x10 x11, Le S0 S' → P.nx (envL l by_ w p st r s (some (.loc H)) x8 x9 x10 x11) S') : ws (execs G (run G (n + 3)) [C2, C3, C4, C5] (envL l by_ w p st r s (some (.loc H)) x8 x9 x10 x11) S) P := by
  have r3 : ∀ S3 R m0 m1 m2, Le S S3 → H ≤ R → S3[R]? = some (.list [.tup [.str "stands", .loc m0], .tup [.str "gone", .loc m1], .tup [.str "waits", .loc m2]]) → (Ans S3 0 m0 row ∧ Ans S3 1 m1 row ∧ Ans S3 2 m2 row) → (∀ S', (∀ x o, H ≤ x → S3[x]? = some o → S'[x]? = some o) → Ans S' 0 m0 row ∧ Ans S' 1 m1 row ∧ Ans S' 2 m2 row) → ws (execs G (run G (n + 3)) [C3, C4, C5] (envL l by_ w p st r s (some (.loc H)) (some (.loc R)) x9 x10 x11) S3) P := fun S3 R m0 m1 m2 e hHR hR ⟨g0, g1, g2⟩ hk =>
    aC3 (B := H) (h00.trans e) hw hcw hs hc hR (e _ _ hH) g0 g1 g2 (fun x hx => ⟨(hl x hx).1, (hl x hx).2.1, (hl x hx).2.2.le e⟩) ⟨Nat.le_refl _, hHR⟩ hk fun S' y9 y10 y11 e2 => q _ _ _ _ _ e2
  rw [ws_cons]
  generalize [C3, C4, C5] = tl at r3 ⊢
  rw [s_asg, e_lst]
  simp only [ws_cons, ws_nil, ws_ite, s_ret, s_expr, s_asg, s_par, s_pass, s_aug, s_setFld, s_setSub, s_for, e_prim, e_cons, e_nil, e_var, e_cst, e_glb, e_tup, e_dnew, e_and, e_or, e_not, e_ifx, e_call, e_fld, e_meth, e_lm, e_sl2, e_slL, e_slH, p_addI, p_addT, p_sub, p_mulI, p_mulL, p_mod, p_fdiv, p_pow, p_neg, p_eq, p_ne, p_lt, p_le, p_gt, p_ge, p_in, p_notin, p_isN, p_notN, p_isB, p_notB, p_item, p_lenT, p_lenL, p_lenset, p_sorted, p_dict1, p_listT, p_isBoolB, sl_tup, ret_rt, bind_name, bindPar_ok, List.getElem?_cons_zero, List.getElem?_cons_succ, List.length_cons, List.length_nil, List.set_cons_zero, List.set_cons_succ, Option.some.injEq, D.int.injEq, D.bl.injEq, D.loc.injEq, exists_eq_left', exists_eq_left, exists_eq_left2, exists_eq_left3, bindT_two, bindPar_end, wipeE, ofC_one, ofC_nil, itT0, itT1, itT2, itT3, deq_str, if_true, if_false, Bool.false_eq_true, true_and, and_true, Nat.zero_add]
  have hHl : H < S.length := len_lt hH
  obtain ⟨u0, v0, w0⟩ := hl l0 (by simp)
  obtain ⟨u1, v1, w1⟩ := hl l1 (by simp)
  obtain ⟨u2, v2, w2⟩ := hl l2 (by simp)
  refine new1_P (ev7 rfl (it_list (n := 0) hH rfl)) w0 fun S1 m0 k0 e1 a0 b0 c0 d0 => ?_
  refine ⟨by decide, ?_⟩
  refine new2_P (ev7 rfl (it_list (n := 1) (e1 _ _ hH) rfl)) (w1.le e1) fun S2 m1 k1 e2 a1 b1 c1 d1 => ?_
  refine ⟨by decide, ?_⟩
  refine new3_P (ev7 rfl (it_list (n := 2) ((e1.trans e2) _ _ hH) rfl)) (w2.le (e1.trans e2)) fun S3 m2 k2 e3 a2 b2 c2 d2 => ?_
  refine ⟨by decide, by decide, by decide, ?_⟩
  have t1 := e1.len
  have t2 := e2.len
  have t3 := e3.len
  have e4 : Le S3 (S3 ++ [.list [.tup [.str "stands", .loc m0], .tup [.str "gone", .loc m1], .tup [.str "waits", .loc m2]]]) := Le.push _ _
  have e24 := (e2.trans e3).trans e4
  have e34 := e3.trans e4
  refine r3 _ _ m0 m1 m2 (e1.trans e24) (by omega) get_push ⟨⟨k0, e24 _ _ a0, b0.le e24⟩, ⟨k1, e34 _ _ a1, b1.le e34⟩, ⟨k2, e4 _ _ a2, b2.le e4⟩⟩ fun S' kp => ?_
  exact ⟨⟨k0, kp _ _ (by omega) (e24 _ _ a0), kp _ _ (by omega) (b0.le e24)⟩, ⟨k1, kp _ _ (by omega) (e34 _ _ a1), kp _ _ (by omega) (b1.le e34)⟩, ⟨k2, kp _ _ (by omega) (e4 _ _ a2), kp _ _ (by omega) (b2.le e4)⟩⟩
theorem aC1 {n : Nat} {S : Store} {l w r s : Nat} {by_ : Int} {p : Part} {st : D} {wl : List Word} {row : List Part} {x7 x8 x9 x10 x11 : Option D} {P : Ws} (hw : HasL S w dW wl) (hcw : wl.length < cap) (hs : HasL S s dP row) (hc : row.length < 64)
    (q : ∀ S' x7 x8 x9 x10 x11, Le S S' → P.nx (envL l by_ w p st r s x7 x8 x9 x10 x11) S') : ws (execs G (run G (n + 3)) [C1, C2, C3, C4, C5] (envL l by_ w p st r s x7 x8 x9 x10 x11) S) P := by
  have r2 : ∀ S3 H l0 l1 l2, Le S S3 → S3[H]? = some (.list [.loc l0, .loc l1, .loc l2]) → (∀ x ∈ [l0, l1, l2], S.length ≤ x ∧ x < H ∧ HasL S3 x dP row) → ws (execs G (run G (n + 3)) [C2, C3, C4, C5] (envL l by_ w p st r s (some (.loc H)) x8 x9 x10 x11) S3) P := fun S3 H l0 l1 l2 e hH hl => aC2 e hw hcw hs hc hH hl fun S' y8 y9 y10 y11 e2 => q _ _ _ _ _ _ e2
  rw [ws_cons]
  generalize [C2, C3, C4, C5] = tl at r2 ⊢
  rw [s_asg, e_lst]
  simp only [ws_cons, ws_nil, ws_ite, s_ret, s_expr, s_asg, s_par, s_pass, s_aug, s_setFld, s_setSub, s_for, e_prim, e_cons, e_nil, e_var, e_cst, e_glb, e_tup, e_dnew, e_and, e_or, e_not, e_ifx, e_call, e_fld, e_meth, e_lm, e_sl2, e_slL, e_slH, p_addI, p_addT, p_sub, p_mulI, p_mulL, p_mod, p_fdiv, p_pow, p_neg, p_eq, p_ne, p_lt, p_le, p_gt, p_ge, p_in, p_notin, p_isN, p_notN, p_isB, p_notB, p_item, p_lenT, p_lenL, p_lenset, p_sorted, p_dict1, p_listT, p_isBoolB, sl_tup, ret_rt, bind_name, bindPar_ok, List.getElem?_cons_zero, List.getElem?_cons_succ, List.length_cons, List.length_nil, List.set_cons_zero, List.set_cons_succ, Option.some.injEq, D.int.injEq, D.bl.injEq, D.loc.injEq, exists_eq_left', exists_eq_left, exists_eq_left2, exists_eq_left3, bindT_two, bindPar_end, wipeE, ofC_one, ofC_nil, itT0, itT1, itT2, itT3, deq_str, if_true, if_false, Bool.false_eq_true, true_and, and_true, Nat.zero_add]
  refine cpy_P hs fun S1 l0 e1 a0 b0 => ?_
  refine cpy_P (hs.le e1) fun S2 l1 e2 a1 b1 => ?_
  refine cpy_P (hs.le (e1.trans e2)) fun S3 l2 e3 a2 b2 => ?_
  have t1 := e1.len
  have t2 := e2.len
  have t3 := e3.len
  have e4 : Le S3 (S3 ++ [.list [.loc l0, .loc l1, .loc l2]]) := Le.push _ _
  have z0 := len_lt (a0.le (e2.trans e3))
  have z1 := len_lt (a1.le e3)
  have z2 := len_lt a2
  refine ⟨by decide, by decide, r2 _ _ l0 l1 l2 (((e1.trans e2).trans e3).trans e4) get_push ?_⟩
  intro x hx
  simp only [List.mem_cons, List.not_mem_nil, or_false] at hx
  rcases hx with rfl | rfl | rfl
  · exact ⟨by omega, z0, a0.le ((e2.trans e3).trans e4)⟩
  · exact ⟨by omega, z1, a1.le (e3.trans e4)⟩
  · exact ⟨by omega, z2, a2.le e4⟩
end MI.Law

namespace MI.Law
open PySem MI
theorem alikeP (p q : Part) : PySem.W.alike (pP p) (pP q) = true := rfl
theorem allAlikeP : ∀ ks : List Part, allAlike (ks.map pP) = true
  | [] => rfl
  | k :: ks => by
    rw [List.map_cons]
    simp only [allAlike, allAlikeP ks, alikeP, Bool.and_true, List.all_map]
    rw [List.all_eq_true]
    intro q _
    rfl
theorem sortableP (ks : List Part) : sortable (ks.map pP) = true := by
  unfold sortable
  rw [Bool.or_eq_true]
  refine .inl ?_
  rw [List.all_map, List.all_eq_true]
  intro q _
  rfl
theorem liftP (keys : List Part) : ∀ ys : List D, (∀ y ∈ ys, ∃ k ∈ keys, dP k = y) → ∃ ks : List Part, ys = ks.map dP ∧ ks.length = ys.length ∧ ∀ k ∈ ks, k ∈ keys
  | [], _ => ⟨[], rfl, rfl, fun _ h => by cases h⟩
  | y :: ys, h => by
    obtain ⟨k, k1, k2⟩ := h y List.mem_cons_self
    obtain ⟨ks, a, b, c⟩ := liftP keys ys fun z hz => h z (List.mem_cons_of_mem _ hz)
    refine ⟨k :: ks, by rw [List.map_cons, k2, ← a], by rw [List.length_cons, List.length_cons, b], fun z hz => ?_⟩
    rcases List.mem_cons.mp hz with rfl | hz
    · exact k1
    · exact c z hz
theorem sortP {S : Store} (keys : List Part) : ∃ ks : List Part, sortD S (keys.map dP) = some (ks.map dP) ∧ ks.length = keys.length ∧ ∀ k ∈ ks, k ∈ keys := by
  have hp := (isort_perm ((keys.map dP).zip (keys.map pP))).map (·.1)
  have hz : ((keys.map dP).zip (keys.map pP)).map (·.1) = keys.map dP := by
    rw [List.map_fst_zip]
    rw [List.length_map, List.length_map]
    exact Nat.le_refl _
  rw [hz] at hp
  obtain ⟨ks, a, b, c⟩ := liftP keys _ fun y hy => List.mem_map.mp (hp.mem_iff.mp hy)
  refine ⟨ks, ?_, ?_, c⟩
  · unfold sortD
    rw [mapO_map (g := dP) (h := pP) (fun p => frz_dP p 6) keys]
    simp only [allAlikeP, sortableP, Bool.and_true, if_true]
    rw [a]
  · rw [b, hp.length_eq, List.length_map]
abbrev envX (l : Nat) (x1 x2 x3 x4 x5 x6 x7 x8 x9 x10 x11 : Option D) : Env := [some (.loc l), x1, x2, x3, x4, x5, x6, x7, x8, x9, x10, x11, none, none, none]
abbrev R1 : CS := .for_ .list [.call 19 [.var 0, .var 1, .var 5, .var 3]] (.name 6) [C1, C2, C3, C4, C5]
abbrev R2 : CS := .for_ .list [.prim .sorted [.prim .list1 [.call 13 [.var 2]]]] (.name 3) [.asg (.tup [.name 4, .name 5]) (.call 15 [.var 2, .var 3]), R1]
section
variable {n : Nat} {S : Store} {l w r : Nat} {ns : List Int} {by_ : Int} {p : Part} {st : D} {wl : List Word} {row : List Part} {x2 x3 x4 x5 x6 x7 x8 x9 x10 x11 : Option D} {P : Ws}
theorem aR1 (h : S[l]? = some (.fix (ns.map .int))) (hb : 0 ≤ by_ ∧ by_ < 3) (hw : HasL S w dW wl) (hcw : wl.length < cap) (hr : HasL S r dP row) (hne : row ≠ []) (hl : row.length ≤ 16)
    (q : ∀ S' x6 x7 x8 x9 x10 x11, Le S S' → P.nx (envX l (some (.int by_)) (some (.loc w)) (some (dP p)) (some st) (some (.loc r)) x6 x7 x8 x9 x10 x11) S') : ws (execs G (run G (n + 3)) [R1] (envX l (some (.int by_)) (some (.loc w)) (some (dP p)) (some st) (some (.loc r)) x6 x7 x8 x9 x10 x11) S) P := by
  have r1 : ∀ (S' : Store) (s : Nat) (x7 x8 x9 x10 x11 : Option D) (P : Ws), Le S S' → RowAt S' s → (∀ S2 x7 x8 x9 x10 x11, Le S' S2 → P.nx (envL l by_ w p st r s x7 x8 x9 x10 x11) S2) → ws (execs G (run G (n + 3)) [C1, C2, C3, C4, C5] (envL l by_ w p st r s x7 x8 x9 x10 x11) S') P := fun S' s x7 x8 x9 x10 x11 P e ⟨row, a, b⟩ k => aC1 (hw.le e) hcw a (by omega) fun S2 y7 y8 y9 y10 y11 e2 => k _ _ _ _ _ _ e2
  show ws (execs G (run G (n + 3)) [.for_ .list [.call 19 [.var 0, .var 1, .var 5, .var 3]] (.name 6) [C1, C2, C3, C4, C5]] _ S) P
  generalize [C1, C2, C3, C4, C5] = tl at r1 ⊢
  simp only [ws_cons, ws_nil, ws_ite, s_ret, s_expr, s_asg, s_par, s_pass, s_aug, s_setFld, s_setSub, s_for, e_prim, e_cons, e_nil, e_var, e_cst, e_glb, e_tup, e_lst, e_dnew, e_and, e_or, e_not, e_ifx, e_call, e_fld, e_meth, e_lm, e_sl2, e_slL, e_slH, p_addI, p_addT, p_addL, p_sub, p_mulI, p_mulL, p_mod, p_fdiv, p_pow, p_neg, p_eq, p_ne, p_lt, p_le, p_gt, p_ge, p_in, p_notin, p_isN, p_notN, p_isB, p_notB, p_item, p_rev, p_lenT, p_lenL, p_lenset, p_sorted, p_dict1, p_listT, p_isBoolB, sl_tup, ret_rt, bind_name, bindPar_ok, List.getElem?_cons_zero, List.getElem?_cons_succ, List.length_cons, List.length_nil, List.set_cons_zero, List.set_cons_succ, Option.some.injEq, D.int.injEq, D.bl.injEq, D.loc.injEq, exists_eq_left', exists_eq_left, exists_eq_left2, exists_eq_left3, bindT_two, bindPar_end, wipeE, ofC_one, ofC_nil, itT0, itT1, itT2, itT3, deq_str, if_true, if_false, Bool.false_eq_true, true_and, and_true, Nat.zero_add]
  refine sp19 h hb hr hne hl fun S1 L k e1 hF hk => ?_
  obtain ⟨ls, f1, f2, f3⟩ := hF
  have f1' : HasL S1 L D.loc ls := f1
  refine ⟨_, _, mk_list f1', ?_⟩
  refine for_run ls D.loc (fun i e S' => Le S1 S' ∧ ∃ x6 x7 x8 x9 x10 x11, e = envX l (some (.int by_)) (some (.loc w)) (some (dP p)) (some st) (some (.loc r)) x6 x7 x8 x9 x10 x11) (Nat.le_refl _) ⟨Le.refl _, _, _, _, _, _, _, rfl⟩ ?_ ?_
  · rintro i a e S' ha ⟨hle, y6, y7, y8, y9, y10, y11, rfl⟩
    refine ⟨by rw [next_list (f1'.le hle), ha]; rfl, _, bind_name.mpr ⟨(show 6 < 15 by decide), rfl⟩, ?_⟩
    have ha2 := (f3 a (List.mem_of_getElem? ha)).le hle
    exact r1 S' a y7 y8 y9 y10 y11 _ (e1.trans hle) ha2 fun S2 z7 z8 z9 z10 z11 e2 => ⟨hle.trans e2, _, _, _, _, _, _, rfl⟩
  · rintro e S' ⟨hle, y6, y7, y8, y9, y10, y11, rfl⟩
    exact ⟨by rw [next_list (f1'.le hle), List.getElem?_eq_none (Nat.le_refl _)]; rfl, q _ _ _ _ _ _ _ (e1.trans hle)⟩
theorem aR2 (h : S[l]? = some (.fix (ns.map .int))) (hb : 0 ≤ by_ ∧ by_ < 3) (hw : HasL S w dW wl) (hcw : wl.length ≤ 60) (hcp : wl.countP isPart ≤ 16)
    (q : ∀ S' x3 x4 x5 x6 x7 x8 x9 x10 x11, Le S S' → P.nx (envX l (some (.int by_)) (some (.loc w)) x3 x4 x5 x6 x7 x8 x9 x10 x11) S') : ws (execs G (run G (n + 3)) [R2] (envX l (some (.int by_)) (some (.loc w)) x3 x4 x5 x6 x7 x8 x9 x10 x11) S) P := by
  have hc60 : (60 : Nat) < cap := by decide
  have hul := Nat.le_trans (ups_parts wl) hcp
  have r1 : ∀ (S' : Store) (p : Part) (st : D) (r : Nat) (row : List Part) (x6 x7 x8 x9 x10 x11 : Option D) (P : Ws), Le S S' → HasL S' r dP row → row ≠ [] → row.length ≤ 16 → (∀ S2 x6 x7 x8 x9 x10 x11, Le S' S2 → P.nx (envX l (some (.int by_)) (some (.loc w)) (some (dP p)) (some st) (some (.loc r)) x6 x7 x8 x9 x10 x11) S2) → ws (exec G (run G (n + 3)) R1 (envX l (some (.int by_)) (some (.loc w)) (some (dP p)) (some st) (some (.loc r)) x6 x7 x8 x9 x10 x11) S') P := fun S' p st r row x6 x7 x8 x9 x10 x11 P e a b c k => ws_cons.mp (aR1 (P := P) (e _ _ h) hb (hw.le e) (by omega) a b c k)
  show ws (execs G (run G (n + 3)) [.for_ .list [.prim .sorted [.prim .list1 [.call 13 [.var 2]]]] (.name 3) [.asg (.tup [.name 4, .name 5]) (.call 15 [.var 2, .var 3]), R1]] _ S) P
  generalize R1 = t1 at r1 ⊢
  simp only [ws_cons, ws_nil, ws_ite, s_ret, s_expr, s_asg, s_par, s_pass, s_aug, s_setFld, s_setSub, s_for, e_prim, e_cons, e_nil, e_var, e_cst, e_glb, e_tup, e_lst, e_dnew, e_and, e_or, e_not, e_ifx, e_call, e_fld, e_meth, e_lm, e_sl2, e_slL, e_slH, p_addI, p_addT, p_addL, p_sub, p_mulI, p_mulL, p_mod, p_fdiv, p_pow, p_neg, p_eq, p_ne, p_lt, p_le, p_gt, p_ge, p_in, p_notin, p_isN, p_notN, p_isB, p_notB, p_item, p_rev, p_lenT, p_lenL, p_lenset, p_sorted, p_dict1, p_listT, p_isBoolB, sl_tup, ret_rt, bind_name, bindPar_ok, List.getElem?_cons_zero, List.getElem?_cons_succ, List.length_cons, List.length_nil, List.set_cons_zero, List.set_cons_succ, Option.some.injEq, D.int.injEq, D.bl.injEq, D.loc.injEq, exists_eq_left', exists_eq_left, exists_eq_left2, exists_eq_left3, bindT_two, bindPar_end, wipeE, ofC_one, ofC_nil, itT0, itT1, itT2, itT3, deq_str, if_true, if_false, Bool.false_eq_true, true_and, and_true, Nat.zero_add]
  refine sp13 hw (by omega) fun S1 m e1 hu => ?_
  obtain ⟨b, hu⟩ := hu
  rw [p_listD hu]
  have hk : (dKv (ups wl)).map (fun p => D.tup (p.1.map keyD)) = ((ups wl).map (·.1)).map dP := by
    unfold dKv
    rw [List.map_map, List.map_map]
    rfl
  rw [hk]
  have e2 : Le S1 (S1 ++ [.list (((ups wl).map (·.1)).map dP)]) := Le.push _ _
  obtain ⟨ks, k1, k2, k3⟩ := sortP (S := S1 ++ [.list (((ups wl).map (·.1)).map dP)]) ((ups wl).map (·.1))
  refine ⟨_, li_list get_push, _, k1, by rw [List.length_map, List.length_map]; omega, ?_⟩
  have e3 := (e1.trans e2).trans (Le.push _ (.list (ks.map dP)))
  have hK : HasL ((S1 ++ [O.list (((ups wl).map (·.1)).map dP)]) ++ [.list (ks.map dP)]) (S1 ++ [O.list (((ups wl).map (·.1)).map dP)]).length dP ks := get_push
  revert hK e3
  generalize ((S1 ++ [O.list (((ups wl).map (·.1)).map dP)]) ++ [.list (ks.map dP)]) = S2
  generalize (S1 ++ [O.list (((ups wl).map (·.1)).map dP)]).length = L
  intro e3 hK
  refine ⟨_, _, mk_list hK, ?_⟩
  refine for_run ks dP (fun i e S' => Le S2 S' ∧ ∃ x3 x4 x5 x6 x7 x8 x9 x10 x11, e = envX l (some (.int by_)) (some (.loc w)) x3 x4 x5 x6 x7 x8 x9 x10 x11) (Nat.le_refl _) ⟨Le.refl _, _, _, _, _, _, _, _, _, _, rfl⟩ ?_ ?_
  · rintro i a e S' ha ⟨hle, y3, y4, y5, y6, y7, y8, y9, y10, y11, rfl⟩
    refine ⟨by rw [next_list (hK.le hle), ha]; rfl, _, bind_name.mpr ⟨(show 3 < 15 by decide), rfl⟩, ?_⟩
    have ham := k3 a (List.mem_of_getElem? ha)
    have hisS : (uget (ups wl) a).isSome = true := by
      obtain ⟨z, z1, z2⟩ := List.mem_map.mp ham
      unfold uget
      rw [Option.isSome_map, List.find?_isSome]
      exact ⟨z, z1, decide_eq_true z2⟩
    rw [ws_cons]
    simp only [ws_cons, ws_nil, ws_ite, s_ret, s_expr, s_asg, s_par, s_pass, s_aug, s_setFld, s_setSub, s_for, e_prim, e_cons, e_nil, e_var, e_cst, e_glb, e_tup, e_lst, e_dnew, e_and, e_or, e_not, e_ifx, e_call, e_fld, e_meth, e_lm, e_sl2, e_slL, e_slH, p_addI, p_addT, p_addL, p_sub, p_mulI, p_mulL, p_mod, p_fdiv, p_pow, p_neg, p_eq, p_ne, p_lt, p_le, p_gt, p_ge, p_in, p_notin, p_isN, p_notN, p_isB, p_notB, p_item, p_rev, p_lenT, p_lenL, p_lenset, p_sorted, p_dict1, p_listT, p_isBoolB, sl_tup, ret_rt, bind_name, bindPar_ok, List.getElem?_cons_zero, List.getElem?_cons_succ, List.length_cons, List.length_nil, List.set_cons_zero, List.set_cons_succ, Option.some.injEq, D.int.injEq, D.bl.injEq, D.loc.injEq, exists_eq_left', exists_eq_left, exists_eq_left2, exists_eq_left3, bindT_two, bindPar_end, wipeE, ofC_one, ofC_nil, itT0, itT1, itT2, itT3, deq_str, if_true, if_false, Bool.false_eq_true, true_and, and_true, Nat.zero_add]
    refine sp15 (hw.le (e3.trans hle)) (by omega) hisS fun S3 s r row e4 g1 g2 g3 => ?_
    refine ⟨_, bindT_two.mpr ⟨(show 4 < 15 by decide), (show 5 < 15 by decide), rfl⟩, ?_⟩
    refine r1 S3 a (.str s) r row y6 y7 y8 y9 y10 y11 _ ((e3.trans hle).trans e4) g1 g2 (by omega) ?_
    exact fun S4 z6 z7 z8 z9 z10 z11 e5 => ⟨(hle.trans e4).trans e5, _, _, _, _, _, _, _, _, _, rfl⟩
  · rintro e S' ⟨hle, y3, y4, y5, y6, y7, y8, y9, y10, y11, rfl⟩
    exact ⟨by rw [next_list (hK.le hle), List.getElem?_eq_none (Nat.le_refl _)]; rfl, q _ _ _ _ _ _ _ _ _ _ (e3.trans hle)⟩
abbrev M1 : CS := .for_ .range1 [.cst (.int 2)] (.name 1) [.asg (.name 2) (.call 12 [.var 0, .var 1, .cst (.int 16)]), R2]
theorem aM1 (h : S[l]? = some (.fix (ns.map .int))) {x1 : Option D}
    (q : ∀ S' x1 x2 x3 x4 x5 x6 x7 x8 x9 x10 x11, Le S S' → P.nx (envX l x1 x2 x3 x4 x5 x6 x7 x8 x9 x10 x11) S') : ws (execs G (run G (n + 3)) [M1] (envX l x1 x2 x3 x4 x5 x6 x7 x8 x9 x10 x11) S) P := by
  have r2 : ∀ (S' : Store) (by_ : Int) (w : Nat) (wl : List Word) (x3 x4 x5 x6 x7 x8 x9 x10 x11 : Option D) (P : Ws), Le S S' → 0 ≤ by_ ∧ by_ < 3 → HasL S' w dW wl → wl.length ≤ 60 → wl.countP isPart ≤ 16 → (∀ S2 x3 x4 x5 x6 x7 x8 x9 x10 x11, Le S' S2 → P.nx (envX l (some (.int by_)) (some (.loc w)) x3 x4 x5 x6 x7 x8 x9 x10 x11) S2) → ws (exec G (run G (n + 3)) R2 (envX l (some (.int by_)) (some (.loc w)) x3 x4 x5 x6 x7 x8 x9 x10 x11) S') P := fun S' by_ w wl x3 x4 x5 x6 x7 x8 x9 x10 x11 P e a b c d k => ws_cons.mp (aR2 (P := P) (e _ _ h) a b c d k)
  show ws (execs G (run G (n + 3)) [.for_ .range1 [.cst (.int 2)] (.name 1) [.asg (.name 2) (.call 12 [.var 0, .var 1, .cst (.int 16)]), R2]] _ S) P
  generalize R2 = t1 at r2 ⊢
  simp only [ws_cons, ws_nil, ws_ite, s_ret, s_expr, s_asg, s_par, s_pass, s_aug, s_setFld, s_setSub, s_for, e_prim, e_cons, e_nil, e_var, e_cst, e_glb, e_tup, e_lst, e_dnew, e_and, e_or, e_not, e_ifx, e_call, e_fld, e_meth, e_lm, e_sl2, e_slL, e_slH, p_addI, p_addT, p_addL, p_sub, p_mulI, p_mulL, p_mod, p_fdiv, p_pow, p_neg, p_eq, p_ne, p_lt, p_le, p_gt, p_ge, p_in, p_notin, p_isN, p_notN, p_isB, p_notB, p_item, p_rev, p_lenT, p_lenL, p_lenset, p_sorted, p_dict1, p_listT, p_isBoolB, sl_tup, ret_rt, bind_name, bindPar_ok, List.getElem?_cons_zero, List.getElem?_cons_succ, List.length_cons, List.length_nil, List.set_cons_zero, List.set_cons_succ, Option.some.injEq, D.int.injEq, D.bl.injEq, D.loc.injEq, exists_eq_left', exists_eq_left, exists_eq_left2, exists_eq_left3, bindT_two, bindPar_end, wipeE, ofC_one, ofC_nil, itT0, itT1, itT2, itT3, deq_str, if_true, if_false, Bool.false_eq_true, true_and, and_true, Nat.zero_add]
  refine ⟨_, _, mk_r1 (by decide), ?_⟩
  refine for_run (A := Nat) (List.range 2) (fun j : Nat => D.int (Int.ofNat j)) (fun i e S' => Le S S' ∧ ∃ x1 x2 x3 x4 x5 x6 x7 x8 x9 x10 x11, e = envX l x1 x2 x3 x4 x5 x6 x7 x8 x9 x10 x11) (Nat.le_refl _) ⟨Le.refl _, _, _, _, _, _, _, _, _, _, _, _, rfl⟩ ?_ ?_
  · rintro i j e S' hj ⟨hle, y1, y2, y3, y4, y5, y6, y7, y8, y9, y10, y11, rfl⟩
    have hi : i < 2 := (List.getElem?_eq_some_iff.mp hj).1
    rw [List.getElem?_range hi] at hj
    cases hj
    refine ⟨?_, _, bind_name.mpr ⟨(show 1 < 15 by decide), rfl⟩, ?_⟩
    · show itNext S' i (.range 0 1 2) = _
      rw [next_range, List.getElem?_range hi]
      show some (some (D.int (0 + (i : Int)))) = _
      rw [Int.zero_add]
      rfl
    · rw [ws_cons]
      simp only [ws_cons, ws_nil, ws_ite, s_ret, s_expr, s_asg, s_par, s_pass, s_aug, s_setFld, s_setSub, s_for, e_prim, e_cons, e_nil, e_var, e_cst, e_glb, e_tup, e_lst, e_dnew, e_and, e_or, e_not, e_ifx, e_call, e_fld, e_meth, e_lm, e_sl2, e_slL, e_slH, p_addI, p_addT, p_addL, p_sub, p_mulI, p_mulL, p_mod, p_fdiv, p_pow, p_neg, p_eq, p_ne, p_lt, p_le, p_gt, p_ge, p_in, p_notin, p_isN, p_notN, p_isB, p_notB, p_item, p_rev, p_lenT, p_lenL, p_lenset, p_sorted, p_dict1, p_listT, p_isBoolB, sl_tup, ret_rt, bind_name, bindPar_ok, List.getElem?_cons_zero, List.getElem?_cons_succ, List.length_cons, List.length_nil, List.set_cons_zero, List.set_cons_succ, Option.some.injEq, D.int.injEq, D.bl.injEq, D.loc.injEq, exists_eq_left', exists_eq_left, exists_eq_left2, exists_eq_left3, bindT_two, bindPar_end, wipeE, ofC_one, ofC_nil, itT0, itT1, itT2, itT3, deq_str, if_true, if_false, Bool.false_eq_true, true_and, and_true, Nat.zero_add]
      have hb : (0 : Int) ≤ Int.ofNat i ∧ Int.ofNat i < 3 := ⟨Int.natCast_nonneg i, by show (i : Int) < 3; omega⟩
      refine sp12 (hle _ _ h) hb fun S2 w wl e2 g1 g2 g3 => ?_
      refine ⟨by decide, ?_⟩
      refine r2 S2 _ w wl y3 y4 y5 y6 y7 y8 y9 y10 y11 _ (hle.trans e2) hb g1 g2 g3 ?_
      exact fun S4 z3 z4 z5 z6 z7 z8 z9 z10 z11 e5 => ⟨(hle.trans e2).trans e5, _, _, _, _, _, _, _, _, _, _, _, rfl⟩
  · rintro e S' ⟨hle, y1, y2, y3, y4, y5, y6, y7, y8, y9, y10, y11, rfl⟩
    exact ⟨by rfl, q _ _ _ _ _ _ _ _ _ _ _ _ hle⟩
end
end MI.Law

namespace MI.Law
open PySem MI
section
variable {n : Nat} {S : Store} {Q : D → Store → Prop} {e : Env}
theorem newA_P {k : Nat} {x : CE} {xs : List Part} (hk : k < 3) (hx : wp (evalL G (run G (n + 1)) [x] e S) fun ds S1 => Le S S1 ∧ ∃ l, ds = [.loc l] ∧ HasL S1 l dP xs) (q : ∀ S' m, Le S S' → Ans S' k m xs → Q (.loc m) S') : wp (eval G (run G (n + 1)) (.new (k + 1) [x]) e S) Q := by
  rcases (show k = 0 ∨ k = 1 ∨ k = 2 by omega) with rfl | rfl | rfl
  · rw [e_new in1]
    refine wp_mono hx ?_
    rintro ds S1 ⟨e1, l, rfl, h⟩
    obtain ⟨a, b, c⟩ := ins_st (S := S1) (c := 1) (f := "way") (xs := xs)
    exact sp3 get_push (h.le (Le.push _ _)) ⟨rfl, q _ _ (e1.trans a) ⟨_, b, c⟩⟩
  · rw [e_new in2]
    refine wp_mono hx ?_
    rintro ds S1 ⟨e1, l, rfl, h⟩
    obtain ⟨a, b, c⟩ := ins_st (S := S1) (c := 2) (f := "way") (xs := xs)
    exact sp5 get_push (h.le (Le.push _ _)) ⟨rfl, q _ _ (e1.trans a) ⟨_, b, c⟩⟩
  · rw [e_new in3]
    refine wp_mono hx ?_
    rintro ds S1 ⟨e1, l, rfl, h⟩
    obtain ⟨a, b, c⟩ := ins_st (S := S1) (c := 3) (f := "chain") (xs := xs)
    exact sp7 get_push (h.le (Le.push _ _)) ⟨rfl, q _ _ (e1.trans a) ⟨_, b, c⟩⟩
theorem qry_P {k : Nat} {x a b : CE} {xs : List Part} {wl : List Word} {p : Part} (hk : k < 3) (hx : wp (evalL G (run G (n + 2)) [x] e S) fun ds S1 => Le S S1 ∧ ∃ l, ds = [.loc l] ∧ HasL S1 l dP xs)
    (hab : ∀ S1, Le S S1 → wp (evalL G (run G (n + 2)) [a, b] e S1) fun ds S2 => Le S1 S2 ∧ ∃ w, ds = [.loc w, dP p] ∧ HasL S2 w dW wl) (hcw : wl.length < cap) (hc : xs.length < cap) (hc2 : k = 2 → xs.length < 64)
    (q : ∀ S', Le S S' → Q (.bl (due k wl p xs)) S') : wp (eval G (run G (n + 2)) (.meth "shows" (.new (k + 1) [x]) [a, b]) e S) Q := by
  rw [e_meth]
  refine newA_P hk hx fun S1 m e1 hA => ?_
  rcases (show k = 0 ∨ k = 1 ∨ k = 2 by omega) with rfl | rfl | rfl
  · obtain ⟨x, a, b⟩ := hA
    refine ⟨m, 1, _, 4, rfl, a, mt1, lkw, wp_mono (hab S1 e1) ?_⟩
    rintro ds S2 ⟨e2, w, rfl, hw⟩
    exact sp4 (e2 _ _ a) hw (b.le e2) hcw hc fun S' e3 => q S' ((e1.trans e2).trans e3)
  · obtain ⟨x, a, b⟩ := hA
    refine ⟨m, 2, _, 6, rfl, a, mt2, lkw, wp_mono (hab S1 e1) ?_⟩
    rintro ds S2 ⟨e2, w, rfl, hw⟩
    exact sp6 (e2 _ _ a) hw (b.le e2) hcw hc fun S' e3 => q S' ((e1.trans e2).trans e3)
  · obtain ⟨x, a, b⟩ := hA
    refine ⟨m, 3, _, 8, rfl, a, mt3, lkc, wp_mono (hab S1 e1) ?_⟩
    rintro ds S2 ⟨e2, w, rfl, hw⟩
    exact sp8 (e2 _ _ a) hw (b.le e2) hcw (hc2 rfl) fun S' e3 => q S' ((e1.trans e2).trans e3)
end
def W4 : List Word := [.part (0, 0) none, .part (1, 0) (some (0, 0)), .part (2, 0) (some (3, 0)), .part (3, 0) (some (2, 0)), .out (0, 0)]
theorem du1 : due 1 W4 (1, 0) [(0, 0), (1, 0)] = true := by decide +kernel
theorem du2 : due 0 W4 (1, 0) [(0, 0), (1, 0)] = false := by decide +kernel
theorem du3 : ∀ q ∈ [([((2 : Int), (0 : Int)), (3, 0)], true), ([(2, 0)], false), ([(2, 0), (3, 0), (2, 0)], false)], due 2 W4 (2, 0) q.1 = q.2 ∧ q.1.length < 64 := by decide +kernel
theorem du4 : due 0 [.part (0, 0) none] (0, 0) (List.replicate 3000 (0, 0)) = false := by decide +kernel
theorem du5 : due 2 W4 (1, 0) [(1, 0), (0, 0)] = false := by decide +kernel
end MI.Law

namespace MI.Law
open PySem MI
abbrev T1 : CS := .asg (.name 2) (.lst [.tup [.cst (.str "part"), .cst (.int 0), .cst (.int 0), .cst .non], .tup [.cst (.str "part"), .cst (.int 1), .cst (.int 0), .tup [.cst (.int 0), .cst (.int 0)]], .tup [.cst (.str "part"), .cst (.int 2), .cst (.int 0), .tup [.cst (.int 3), .cst (.int 0)]], .tup [.cst (.str "part"), .cst (.int 3), .cst (.int 0), .tup [.cst (.int 2), .cst (.int 0)]]])
abbrev T2 : CS := .expr (.lm .append (.var 2) [.tup [.cst (.str "out"), .cst (.int 0), .cst (.int 0)]])
abbrev T3 : CS := .asg (.name 12) (.lst [.tup [.cst (.int 0), .cst (.int 0)], .tup [.cst (.int 1), .cst (.int 0)]])
abbrev T4 : CS := .ite (.or (.prim .notB [.meth "shows" (.new 2 [.var 12]) [.var 2, .tup [.cst (.int 1), .cst (.int 0)]], .cst (.bl true)]) (.prim .notB [.meth "shows" (.new 1 [.var 12]) [.var 2, .tup [.cst (.int 1), .cst (.int 0)]], .cst (.bl false)])) [.ret (.cst (.bl false))] []
abbrev T5 : CS := .for_ .tuple [.tup [.tup [.lst [.tup [.cst (.int 2), .cst (.int 0)], .tup [.cst (.int 3), .cst (.int 0)]], .cst (.bl true)], .tup [.lst [.tup [.cst (.int 2), .cst (.int 0)]], .cst (.bl false)], .tup [.lst [.tup [.cst (.int 2), .cst (.int 0)], .tup [.cst (.int 3), .cst (.int 0)], .tup [.cst (.int 2), .cst (.int 0)]], .cst (.bl false)]]] (.tup [.name 13, .name 14]) [.ite (.prim .ne [.meth "shows" (.new 3 [.var 13]) [.var 2, .tup [.cst (.int 2), .cst (.int 0)]], .var 14]) [.ret (.cst (.bl false))] []]
abbrev T6 : CS := .ite (.prim .notB [.meth "shows" (.new 1 [.prim .mul [.lst [.tup [.cst (.int 0), .cst (.int 0)]], .cst (.int 3000)]]) [.lst [.tup [.cst (.str "part"), .cst (.int 0), .cst (.int 0), .cst .non]], .tup [.cst (.int 0), .cst (.int 0)]], .cst (.bl false)]) [.ret (.cst (.bl false))] []
abbrev T7 : CS := .ret (.prim .isB [.meth "shows" (.new 3 [.lst [.tup [.cst (.int 1), .cst (.int 0)], .tup [.cst (.int 0), .cst (.int 0)]]]) [.var 2, .tup [.cst (.int 1), .cst (.int 0)]], .cst (.bl false)])
abbrev envT (l w : Nat) (x1 x3 x4 x5 x6 x7 x8 x9 x10 x11 x12 x13 x14 : Option D) : Env := [some (.loc l), x1, some (.loc w), x3, x4, x5, x6, x7, x8, x9, x10, x11, x12, x13, x14]
section
variable {n : Nat} {S : Store} {l w : Nat} {x1 x3 x4 x5 x6 x7 x8 x9 x10 x11 x12 x13 x14 : Option D} {P : Ws}
theorem c60 : W4.length < cap := by decide +kernel
theorem arg_P {k : Nat} {S1 : Store} {e : Env} {p : Part} (hw : HasL S1 w dW W4) (he : e[2]? = some (some (.loc w))) : wp (evalL G (run G k) [.var 2, .tup [.cst (.int p.1), .cst (.int p.2)]] e S1) fun ds S2 => Le S1 S2 ∧ ∃ w, ds = [.loc w, dP p] ∧ HasL S2 w dW W4 := by
  simp only [ws_cons, ws_nil, ws_ite, s_ret, s_expr, s_asg, s_par, s_pass, s_aug, s_setFld, s_setSub, s_for, e_prim, e_cons, e_nil, e_var, e_cst, e_glb, e_tup, e_lst, e_dnew, e_and, e_or, e_not, e_ifx, e_call, e_fld, e_meth, e_lm, e_sl2, e_slL, e_slH, p_addI, p_addT, p_addL, p_sub, p_mulI, p_mulL, p_mod, p_fdiv, p_pow, p_neg, p_eq, p_ne, p_lt, p_le, p_gt, p_ge, p_in, p_notin, p_isN, p_notN, p_isB, p_notB, p_item, p_rev, p_lenT, p_lenL, p_lenset, p_sorted, p_dict1, p_listT, p_isBoolB, sl_tup, ret_rt, bind_name, bindPar_ok, List.getElem?_cons_zero, List.getElem?_cons_succ, List.length_cons, List.length_nil, List.set_cons_zero, List.set_cons_succ, Option.some.injEq, D.int.injEq, D.bl.injEq, D.loc.injEq, exists_eq_left', exists_eq_left, exists_eq_left2, exists_eq_left3, bindT_two, bindPar_end, wipeE, ofC_one, ofC_nil, itT0, itT1, itT2, itT3, deq_str, if_true, if_false, Bool.false_eq_true, true_and, and_true, Nat.zero_add, he]
  exact ⟨by decide, Le.refl _, w, rfl, hw⟩
theorem aT7 (hw : HasL S w dW W4) (q : ∀ S', P.rt (.bl true) S') : ws (execs G (run G (n + 3)) [T7] (envT l w x1 x3 x4 x5 x6 x7 x8 x9 x10 x11 x12 x13 x14) S) P := by
  simp only [ws_cons, s_ret, e_prim, e_cons]
  refine qry_P (n := n + 1) (k := 2) (xs := [(1, 0), (0, 0)]) (wl := W4) (p := (1, 0)) (by decide) ?_ (fun S1 e1 => arg_P (p := (1, 0)) (hw.le e1) rfl) c60 (show 2 < cap by decide) (fun _ => by decide) fun S2 e2 => ?_
  · simp only [ws_cons, ws_nil, ws_ite, s_ret, s_expr, s_asg, s_par, s_pass, s_aug, s_setFld, s_setSub, s_for, e_prim, e_cons, e_nil, e_var, e_cst, e_glb, e_tup, e_lst, e_dnew, e_and, e_or, e_not, e_ifx, e_call, e_fld, e_meth, e_lm, e_sl2, e_slL, e_slH, p_addI, p_addT, p_addL, p_sub, p_mulI, p_mulL, p_mod, p_fdiv, p_pow, p_neg, p_eq, p_ne, p_lt, p_le, p_gt, p_ge, p_in, p_notin, p_isN, p_notN, p_isB, p_notB, p_item, p_rev, p_lenT, p_lenL, p_lenset, p_sorted, p_dict1, p_listT, p_isBoolB, sl_tup, ret_rt, bind_name, bindPar_ok, List.getElem?_cons_zero, List.getElem?_cons_succ, List.length_cons, List.length_nil, List.set_cons_zero, List.set_cons_succ, Option.some.injEq, D.int.injEq, D.bl.injEq, D.loc.injEq, exists_eq_left', exists_eq_left, exists_eq_left2, exists_eq_left3, bindT_two, bindPar_end, wipeE, ofC_one, ofC_nil, itT0, itT1, itT2, itT3, deq_str, if_true, if_false, Bool.false_eq_true, true_and, and_true, Nat.zero_add]
    exact ⟨by decide, by decide, by decide, Le.push _ _, _, rfl, get_push⟩
  · rw [du5]
    simp only [ws_cons, ws_nil, ws_ite, s_ret, s_expr, s_asg, s_par, s_pass, s_aug, s_setFld, s_setSub, s_for, e_prim, e_cons, e_nil, e_var, e_cst, e_glb, e_tup, e_lst, e_dnew, e_and, e_or, e_not, e_ifx, e_call, e_fld, e_meth, e_lm, e_sl2, e_slL, e_slH, p_addI, p_addT, p_addL, p_sub, p_mulI, p_mulL, p_mod, p_fdiv, p_pow, p_neg, p_eq, p_ne, p_lt, p_le, p_gt, p_ge, p_in, p_notin, p_isN, p_notN, p_isB, p_notB, p_item, p_rev, p_lenT, p_lenL, p_lenset, p_sorted, p_dict1, p_listT, p_isBoolB, sl_tup, ret_rt, bind_name, bindPar_ok, List.getElem?_cons_zero, List.getElem?_cons_succ, List.length_cons, List.length_nil, List.set_cons_zero, List.set_cons_succ, Option.some.injEq, D.int.injEq, D.bl.injEq, D.loc.injEq, exists_eq_left', exists_eq_left, exists_eq_left2, exists_eq_left3, bindT_two, bindPar_end, wipeE, ofC_one, ofC_nil, itT0, itT1, itT2, itT3, deq_str, if_true, if_false, Bool.false_eq_true, true_and, and_true, Nat.zero_add]
    exact q _
theorem aT6 (hw : HasL S w dW W4) (q : ∀ S', P.rt (.bl true) S') : ws (execs G (run G (n + 3)) [T6, T7] (envT l w x1 x3 x4 x5 x6 x7 x8 x9 x10 x11 x12 x13 x14) S) P := by
  have r7 : ∀ S', Le S S' → ws (execs G (run G (n + 3)) [T7] (envT l w x1 x3 x4 x5 x6 x7 x8 x9 x10 x11 x12 x13 x14) S') P := fun S' e => aT7 (hw.le e) q
  rw [ws_cons]
  generalize [T7] = tl at r7 ⊢
  simp only [ws_ite, e_prim, e_cons]
  refine qry_P (n := n + 1) (k := 0) (xs := List.replicate 3000 (0, 0)) (wl := [.part (0, 0) none]) (p := (0, 0)) (by decide) ?_ (fun S1 e1 => ?_) (show 1 < cap by decide) (by rw [List.length_replicate]; exact show 3000 < cap by decide) (fun h => by cases h) fun S2 e2 => ?_
  · simp only [ws_cons, ws_nil, ws_ite, s_ret, s_expr, s_asg, s_par, s_pass, s_aug, s_setFld, s_setSub, s_for, e_prim, e_cons, e_nil, e_var, e_cst, e_glb, e_tup, e_lst, e_dnew, e_and, e_or, e_not, e_ifx, e_call, e_fld, e_meth, e_lm, e_sl2, e_slL, e_slH, p_addI, p_addT, p_addL, p_sub, p_mulI, p_mulL, p_mod, p_fdiv, p_pow, p_neg, p_eq, p_ne, p_lt, p_le, p_gt, p_ge, p_in, p_notin, p_isN, p_notN, p_isB, p_notB, p_item, p_rev, p_lenT, p_lenL, p_lenset, p_sorted, p_dict1, p_listT, p_isBoolB, sl_tup, ret_rt, bind_name, bindPar_ok, List.getElem?_cons_zero, List.getElem?_cons_succ, List.length_cons, List.length_nil, List.set_cons_zero, List.set_cons_succ, Option.some.injEq, D.int.injEq, D.bl.injEq, D.loc.injEq, exists_eq_left', exists_eq_left, exists_eq_left2, exists_eq_left3, bindT_two, bindPar_end, wipeE, ofC_one, ofC_nil, itT0, itT1, itT2, itT3, deq_str, if_true, if_false, Bool.false_eq_true, true_and, and_true, Nat.zero_add]
    refine ⟨by decide, by decide, ?_⟩
    first | rw [p_mulL] | skip
    refine ⟨[dP (0, 0)], wi_list get_push, ⟨by decide, by decide, show 1 * 3000 ≤ cap by decide⟩, ?_⟩
    refine ⟨(Le.push _ _).trans (Le.push _ _), _, rfl, ?_⟩
    unfold HasL
    rw [get_push, List.map_replicate]
    show some (O.list (List.flatten (List.replicate 3000 [dP (0, 0)]))) = _
    rw [List.flatten_replicate_singleton]
  · simp only [ws_cons, ws_nil, ws_ite, s_ret, s_expr, s_asg, s_par, s_pass, s_aug, s_setFld, s_setSub, s_for, e_prim, e_cons, e_nil, e_var, e_cst, e_glb, e_tup, e_lst, e_dnew, e_and, e_or, e_not, e_ifx, e_call, e_fld, e_meth, e_lm, e_sl2, e_slL, e_slH, p_addI, p_addT, p_addL, p_sub, p_mulI, p_mulL, p_mod, p_fdiv, p_pow, p_neg, p_eq, p_ne, p_lt, p_le, p_gt, p_ge, p_in, p_notin, p_isN, p_notN, p_isB, p_notB, p_item, p_rev, p_lenT, p_lenL, p_lenset, p_sorted, p_dict1, p_listT, p_isBoolB, sl_tup, ret_rt, bind_name, bindPar_ok, List.getElem?_cons_zero, List.getElem?_cons_succ, List.length_cons, List.length_nil, List.set_cons_zero, List.set_cons_succ, Option.some.injEq, D.int.injEq, D.bl.injEq, D.loc.injEq, exists_eq_left', exists_eq_left, exists_eq_left2, exists_eq_left3, bindT_two, bindPar_end, wipeE, ofC_one, ofC_nil, itT0, itT1, itT2, itT3, deq_str, if_true, if_false, Bool.false_eq_true, true_and, and_true, Nat.zero_add]
    exact ⟨by decide, by decide, by decide, Le.push _ _, _, rfl, get_push⟩
  · rw [du4]
    simp only [ws_cons, ws_nil, ws_ite, s_ret, s_expr, s_asg, s_par, s_pass, s_aug, s_setFld, s_setSub, s_for, e_prim, e_cons, e_nil, e_var, e_cst, e_glb, e_tup, e_lst, e_dnew, e_and, e_or, e_not, e_ifx, e_call, e_fld, e_meth, e_lm, e_sl2, e_slL, e_slH, p_addI, p_addT, p_addL, p_sub, p_mulI, p_mulL, p_mod, p_fdiv, p_pow, p_neg, p_eq, p_ne, p_lt, p_le, p_gt, p_ge, p_in, p_notin, p_isN, p_notN, p_isB, p_notB, p_item, p_rev, p_lenT, p_lenL, p_lenset, p_sorted, p_dict1, p_listT, p_isBoolB, sl_tup, ret_rt, bind_name, bindPar_ok, List.getElem?_cons_zero, List.getElem?_cons_succ, List.length_cons, List.length_nil, List.set_cons_zero, List.set_cons_succ, Option.some.injEq, D.int.injEq, D.bl.injEq, D.loc.injEq, exists_eq_left', exists_eq_left, exists_eq_left2, exists_eq_left3, bindT_two, bindPar_end, wipeE, ofC_one, ofC_nil, itT0, itT1, itT2, itT3, deq_str, if_true, if_false, Bool.false_eq_true, true_and, and_true, Nat.zero_add]
    exact r7 S2 e2
theorem aT5 (hw : HasL S w dW W4) (q : ∀ S', P.rt (.bl true) S') : ws (execs G (run G (n + 3)) [T5, T6, T7] (envT l w x1 x3 x4 x5 x6 x7 x8 x9 x10 x11 x12 x13 x14) S) P := by
  have r6 : ∀ S' x13 x14, Le S S' → ws (execs G (run G (n + 3)) [T6, T7] (envT l w x1 x3 x4 x5 x6 x7 x8 x9 x10 x11 x12 x13 x14) S') P := fun S' _ _ e => aT6 (hw.le e) q
  rw [ws_cons]
  generalize [T6, T7] = tl at r6 ⊢
  rw [s_for]
  simp only [e_tup, e_cst, e_nil, e_cons]
  refine lst_P [(2, 0), (3, 0)] rfl (show 2 ≤ cap by decide) fun S1 l1 e1 q1 _ => ?_
  refine ⟨show 2 ≤ cap by decide, ?_⟩
  refine lst_P [(2, 0)] rfl (show 1 ≤ cap by decide) fun S2 l2 e2 q2 _ => ?_
  refine ⟨show 2 ≤ cap by decide, ?_⟩
  refine lst_P [(2, 0), (3, 0), (2, 0)] rfl (show 3 ≤ cap by decide) fun S3 l3 e3 q3 _ => ?_
  refine ⟨show 2 ≤ cap by decide, show 3 ≤ cap by decide, _, _, mk_tup, ?_⟩
  have hq : ∀ z ∈ [(l1, [((2 : Int), (0 : Int)), (3, 0)], true), (l2, [(2, 0)], false), (l3, [(2, 0), (3, 0), (2, 0)], false)], HasL S3 z.1 dP z.2.1 ∧ due 2 W4 (2, 0) z.2.1 = z.2.2 ∧ z.2.1.length < 64 := by
    intro z hz
    simp only [List.mem_cons, List.not_mem_nil, or_false] at hz
    rcases hz with rfl | rfl | rfl
    · exact ⟨q1.le (e2.trans e3), du3 ([(2, 0), (3, 0)], true) (by simp)⟩
    · exact ⟨q2.le e3, du3 ([(2, 0)], false) (by simp)⟩
    · exact ⟨q3, du3 ([(2, 0), (3, 0), (2, 0)], false) (by simp)⟩
  have e0 := (e1.trans e2).trans e3
  refine for_run [(l1, [((2 : Int), (0 : Int)), (3, 0)], true), (l2, [(2, 0)], false), (l3, [(2, 0), (3, 0), (2, 0)], false)] (fun z : Nat × List Part × Bool => D.tup [.loc z.1, .bl z.2.2]) (fun i e S' => Le S3 S' ∧ ∃ x13 x14, e = envT l w x1 x3 x4 x5 x6 x7 x8 x9 x10 x11 x12 x13 x14) (Nat.le_refl _) ⟨Le.refl _, _, _, rfl⟩ ?_ ?_
  · rintro i ⟨a, xs, b⟩ e S' hi ⟨hle, y13, y14, rfl⟩
    obtain ⟨g1, g2, g3⟩ := hq _ (List.mem_of_getElem? hi)
    refine ⟨?_, _, bindT_two.mpr ⟨(show 13 < 15 by decide), (show 14 < 15 by decide), rfl⟩, ?_⟩
    · rw [next_tup]
      have := congrArg (Option.map (fun z : Nat × List Part × Bool => D.tup [.loc z.1, .bl z.2.2])) hi
      rw [← List.getElem?_map] at this
      exact congrArg some this
    · simp only [ws_cons, ws_ite, e_prim, e_cons]
      refine qry_P (n := n + 1) (k := 2) (xs := xs) (wl := W4) (p := (2, 0)) (by decide) ?_ (fun S1 e1 => arg_P (p := (2, 0)) ((hw.le (e0.trans hle)).le e1) rfl) c60 (Nat.lt_trans g3 (show 64 < cap by decide)) (fun _ => g3) fun S2 e2 => ?_
      · simp only [ws_cons, ws_nil, ws_ite, s_ret, s_expr, s_asg, s_par, s_pass, s_aug, s_setFld, s_setSub, s_for, e_prim, e_cons, e_nil, e_var, e_cst, e_glb, e_tup, e_lst, e_dnew, e_and, e_or, e_not, e_ifx, e_call, e_fld, e_meth, e_lm, e_sl2, e_slL, e_slH, p_addI, p_addT, p_addL, p_sub, p_mulI, p_mulL, p_mod, p_fdiv, p_pow, p_neg, p_eq, p_ne, p_lt, p_le, p_gt, p_ge, p_in, p_notin, p_isN, p_notN, p_isB, p_notB, p_item, p_rev, p_lenT, p_lenL, p_lenset, p_sorted, p_dict1, p_listT, p_isBoolB, sl_tup, ret_rt, bind_name, bindPar_ok, List.getElem?_cons_zero, List.getElem?_cons_succ, List.length_cons, List.length_nil, List.set_cons_zero, List.set_cons_succ, Option.some.injEq, D.int.injEq, D.bl.injEq, D.loc.injEq, exists_eq_left', exists_eq_left, exists_eq_left2, exists_eq_left3, bindT_two, bindPar_end, wipeE, ofC_one, ofC_nil, itT0, itT1, itT2, itT3, deq_str, if_true, if_false, Bool.false_eq_true, true_and, and_true, Nat.zero_add]
        exact ⟨Le.refl _, a, rfl, g1.le hle⟩
      · rw [g2]
        simp only [ws_cons, ws_nil, ws_ite, s_ret, s_expr, s_asg, s_par, s_pass, s_aug, s_setFld, s_setSub, s_for, e_prim, e_cons, e_nil, e_var, e_cst, e_glb, e_tup, e_lst, e_dnew, e_and, e_or, e_not, e_ifx, e_call, e_fld, e_meth, e_lm, e_sl2, e_slL, e_slH, p_addI, p_addT, p_addL, p_sub, p_mulI, p_mulL, p_mod, p_fdiv, p_pow, p_neg, p_eq, p_ne, p_lt, p_le, p_gt, p_ge, p_in, p_notin, p_isN, p_notN, p_isB, p_notB, p_item, p_rev, p_lenT, p_lenL, p_lenset, p_sorted, p_dict1, p_listT, p_isBoolB, sl_tup, ret_rt, bind_name, bindPar_ok, List.getElem?_cons_zero, List.getElem?_cons_succ, List.length_cons, List.length_nil, List.set_cons_zero, List.set_cons_succ, Option.some.injEq, D.int.injEq, D.bl.injEq, D.loc.injEq, exists_eq_left', exists_eq_left, exists_eq_left2, exists_eq_left3, bindT_two, bindPar_end, wipeE, ofC_one, ofC_nil, itT0, itT1, itT2, itT3, deq_str, if_true, if_false, Bool.false_eq_true, true_and, and_true, Nat.zero_add]
        refine ⟨_, deq_bl, ?_⟩
        rw [beq_self_eq_true]
        simp only [Bool.not_true, ws_cons, ws_nil, ws_ite, s_ret, s_expr, s_asg, s_par, s_pass, s_aug, s_setFld, s_setSub, s_for, e_prim, e_cons, e_nil, e_var, e_cst, e_glb, e_tup, e_lst, e_dnew, e_and, e_or, e_not, e_ifx, e_call, e_fld, e_meth, e_lm, e_sl2, e_slL, e_slH, p_addI, p_addT, p_addL, p_sub, p_mulI, p_mulL, p_mod, p_fdiv, p_pow, p_neg, p_eq, p_ne, p_lt, p_le, p_gt, p_ge, p_in, p_notin, p_isN, p_notN, p_isB, p_notB, p_item, p_rev, p_lenT, p_lenL, p_lenset, p_sorted, p_dict1, p_listT, p_isBoolB, sl_tup, ret_rt, bind_name, bindPar_ok, List.getElem?_cons_zero, List.getElem?_cons_succ, List.length_cons, List.length_nil, List.set_cons_zero, List.set_cons_succ, Option.some.injEq, D.int.injEq, D.bl.injEq, D.loc.injEq, exists_eq_left', exists_eq_left, exists_eq_left2, exists_eq_left3, bindT_two, bindPar_end, wipeE, ofC_one, ofC_nil, itT0, itT1, itT2, itT3, deq_str, if_true, if_false, Bool.false_eq_true, true_and, and_true, Nat.zero_add]
        exact ⟨hle.trans e2, _, _, rfl⟩
  · rintro e S' ⟨hle, y13, y14, rfl⟩
    exact ⟨rfl, r6 S' _ _ (e0.trans hle)⟩
theorem aT4 (hw : HasL S w dW W4) {m : Nat} (hm : HasL S m dP [(0, 0), (1, 0)]) (q : ∀ S', P.rt (.bl true) S') : ws (execs G (run G (n + 3)) [T4, T5, T6, T7] (envT l w x1 x3 x4 x5 x6 x7 x8 x9 x10 x11 (some (.loc m)) x13 x14) S) P := by
  have r5 : ∀ S', Le S S' → ws (execs G (run G (n + 3)) [T5, T6, T7] (envT l w x1 x3 x4 x5 x6 x7 x8 x9 x10 x11 (some (.loc m)) x13 x14) S') P := fun S' e => aT5 (hw.le e) q
  rw [ws_cons]
  generalize [T5, T6, T7] = tl at r5 ⊢
  simp only [ws_ite, e_or, e_prim, e_cons]
  refine qry_P (n := n + 1) (k := 1) (xs := [(0, 0), (1, 0)]) (wl := W4) (p := (1, 0)) (by decide) ?_ (fun S1 e1 => arg_P (p := (1, 0)) (hw.le e1) rfl) c60 (show 2 < cap by decide) (fun h => by cases h) fun S2 e2 => ?_
  · simp only [ws_cons, ws_nil, ws_ite, s_ret, s_expr, s_asg, s_par, s_pass, s_aug, s_setFld, s_setSub, s_for, e_prim, e_cons, e_nil, e_var, e_cst, e_glb, e_tup, e_lst, e_dnew, e_and, e_or, e_not, e_ifx, e_call, e_fld, e_meth, e_lm, e_sl2, e_slL, e_slH, p_addI, p_addT, p_addL, p_sub, p_mulI, p_mulL, p_mod, p_fdiv, p_pow, p_neg, p_eq, p_ne, p_lt, p_le, p_gt, p_ge, p_in, p_notin, p_isN, p_notN, p_isB, p_notB, p_item, p_rev, p_lenT, p_lenL, p_lenset, p_sorted, p_dict1, p_listT, p_isBoolB, sl_tup, ret_rt, bind_name, bindPar_ok, List.getElem?_cons_zero, List.getElem?_cons_succ, List.length_cons, List.length_nil, List.set_cons_zero, List.set_cons_succ, Option.some.injEq, D.int.injEq, D.bl.injEq, D.loc.injEq, exists_eq_left', exists_eq_left, exists_eq_left2, exists_eq_left3, bindT_two, bindPar_end, wipeE, ofC_one, ofC_nil, itT0, itT1, itT2, itT3, deq_str, if_true, if_false, Bool.false_eq_true, true_and, and_true, Nat.zero_add]
    exact ⟨Le.refl _, m, rfl, hm⟩
  · rw [du1]
    simp only [e_cst, e_nil, p_notB, D.bl.injEq, exists_eq_left', decide_true, Bool.not_true, Bool.false_eq_true, if_false]
    refine qry_P (n := n + 1) (k := 0) (xs := [(0, 0), (1, 0)]) (wl := W4) (p := (1, 0)) (by decide) ?_ (fun S1 e1 => arg_P (p := (1, 0)) ((hw.le e2).le e1) rfl) c60 (show 2 < cap by decide) (fun h => by cases h) fun S3 e3 => ?_
    · simp only [ws_cons, ws_nil, ws_ite, s_ret, s_expr, s_asg, s_par, s_pass, s_aug, s_setFld, s_setSub, s_for, e_prim, e_cons, e_nil, e_var, e_cst, e_glb, e_tup, e_lst, e_dnew, e_and, e_or, e_not, e_ifx, e_call, e_fld, e_meth, e_lm, e_sl2, e_slL, e_slH, p_addI, p_addT, p_addL, p_sub, p_mulI, p_mulL, p_mod, p_fdiv, p_pow, p_neg, p_eq, p_ne, p_lt, p_le, p_gt, p_ge, p_in, p_notin, p_isN, p_notN, p_isB, p_notB, p_item, p_rev, p_lenT, p_lenL, p_lenset, p_sorted, p_dict1, p_listT, p_isBoolB, sl_tup, ret_rt, bind_name, bindPar_ok, List.getElem?_cons_zero, List.getElem?_cons_succ, List.length_cons, List.length_nil, List.set_cons_zero, List.set_cons_succ, Option.some.injEq, D.int.injEq, D.bl.injEq, D.loc.injEq, exists_eq_left', exists_eq_left, exists_eq_left2, exists_eq_left3, bindT_two, bindPar_end, wipeE, ofC_one, ofC_nil, itT0, itT1, itT2, itT3, deq_str, if_true, if_false, Bool.false_eq_true, true_and, and_true, Nat.zero_add]
      exact ⟨Le.refl _, m, rfl, hm.le e2⟩
    · rw [du2]
      simp only [ws_cons, ws_nil, ws_ite, s_ret, s_expr, s_asg, s_par, s_pass, s_aug, s_setFld, s_setSub, s_for, e_prim, e_cons, e_nil, e_var, e_cst, e_glb, e_tup, e_lst, e_dnew, e_and, e_or, e_not, e_ifx, e_call, e_fld, e_meth, e_lm, e_sl2, e_slL, e_slH, p_addI, p_addT, p_addL, p_sub, p_mulI, p_mulL, p_mod, p_fdiv, p_pow, p_neg, p_eq, p_ne, p_lt, p_le, p_gt, p_ge, p_in, p_notin, p_isN, p_notN, p_isB, p_notB, p_item, p_rev, p_lenT, p_lenL, p_lenset, p_sorted, p_dict1, p_listT, p_isBoolB, sl_tup, ret_rt, bind_name, bindPar_ok, List.getElem?_cons_zero, List.getElem?_cons_succ, List.length_cons, List.length_nil, List.set_cons_zero, List.set_cons_succ, Option.some.injEq, D.int.injEq, D.bl.injEq, D.loc.injEq, exists_eq_left', exists_eq_left, exists_eq_left2, exists_eq_left3, bindT_two, bindPar_end, wipeE, ofC_one, ofC_nil, itT0, itT1, itT2, itT3, deq_str, if_true, if_false, Bool.false_eq_true, true_and, and_true, Nat.zero_add]
      exact r5 S3 (e2.trans e3)
theorem aT1 (q : ∀ S', P.rt (.bl true) S') {x2 : Option D} : ws (execs G (run G (n + 3)) [T1, T2, T3, T4, T5, T6, T7] (envX l x1 x2 x3 x4 x5 x6 x7 x8 x9 x10 x11) S) P := by
  have r4 : ∀ S' w m, HasL S' w dW W4 → HasL S' m dP [(0, 0), (1, 0)] → ws (execs G (run G (n + 3)) [T4, T5, T6, T7] (envT l w x1 x3 x4 x5 x6 x7 x8 x9 x10 x11 (some (.loc m)) none none) S') P := fun S' w m a b => aT4 a b q
  generalize [T4, T5, T6, T7] = tl at r4 ⊢
  simp only [ws_cons, ws_nil, ws_ite, s_ret, s_expr, s_asg, s_par, s_pass, s_aug, s_setFld, s_setSub, s_for, e_prim, e_cons, e_nil, e_var, e_cst, e_glb, e_tup, e_dnew, e_and, e_or, e_not, e_ifx, e_call, e_fld, e_meth, e_lm, e_sl2, e_slL, e_slH, p_addI, p_addT, p_sub, p_mulI, p_mulL, p_mod, p_fdiv, p_pow, p_neg, p_eq, p_ne, p_lt, p_le, p_gt, p_ge, p_in, p_notin, p_isN, p_notN, p_isB, p_notB, p_item, p_lenT, p_lenL, p_lenset, p_sorted, p_dict1, p_listT, p_isBoolB, sl_tup, ret_rt, bind_name, bindPar_ok, List.getElem?_cons_zero, List.getElem?_cons_succ, List.length_cons, List.length_nil, List.set_cons_zero, List.set_cons_succ, Option.some.injEq, D.int.injEq, D.bl.injEq, D.loc.injEq, exists_eq_left', exists_eq_left, exists_eq_left2, exists_eq_left3, bindT_two, bindPar_end, wipeE, ofC_one, ofC_nil, itT0, itT1, itT2, itT3, deq_str, if_true, if_false, Bool.false_eq_true, true_and, and_true, Nat.zero_add]
  rw [e_lst]
  simp only [ws_cons, ws_nil, ws_ite, s_ret, s_expr, s_asg, s_par, s_pass, s_aug, s_setFld, s_setSub, s_for, e_prim, e_cons, e_nil, e_var, e_cst, e_glb, e_tup, e_dnew, e_and, e_or, e_not, e_ifx, e_call, e_fld, e_meth, e_lm, e_sl2, e_slL, e_slH, p_addI, p_addT, p_sub, p_mulI, p_mulL, p_mod, p_fdiv, p_pow, p_neg, p_eq, p_ne, p_lt, p_le, p_gt, p_ge, p_in, p_notin, p_isN, p_notN, p_isB, p_notB, p_item, p_lenT, p_lenL, p_lenset, p_sorted, p_dict1, p_listT, p_isBoolB, sl_tup, ret_rt, bind_name, bindPar_ok, List.getElem?_cons_zero, List.getElem?_cons_succ, List.length_cons, List.length_nil, List.set_cons_zero, List.set_cons_succ, Option.some.injEq, D.int.injEq, D.bl.injEq, D.loc.injEq, exists_eq_left', exists_eq_left, exists_eq_left2, exists_eq_left3, bindT_two, bindPar_end, wipeE, ofC_one, ofC_nil, itT0, itT1, itT2, itT3, deq_str, if_true, if_false, Bool.false_eq_true, true_and, and_true, Nat.zero_add]
  refine ⟨by decide, by decide, by decide, by decide, by decide, by decide, by decide, by decide, by decide, ?_⟩
  have h1 : (S ++ [O.list ((W4.take 4).map dW)])[S.length]? = some (.list ((W4.take 4).map dW)) := get_push
  have h2 : HasL ((S ++ [O.list ((W4.take 4).map dW)]).set S.length (.list ((W4.take 4).map dW ++ [dW (.out (0, 0))]))) S.length dW W4 := set_get h1
  refine ⟨by rw [li_list get_push]; rfl, by decide, ?_⟩
  rw [p_append get_push]
  refine ⟨show 4 < cap by decide, ?_⟩
  refine lst_P [(0, 0), (1, 0)] rfl (show 2 ≤ cap by decide) fun S2 m e2 q2 _ => ?_
  exact ⟨by decide, r4 S2 S.length m (HasL.le (show HasL _ S.length dW W4 from h2) e2) q2⟩
end
theorem law_ws {S : Store} {l : Nat} {ns : List Int} (h : S[l]? = some (.fix (ns.map .int))) : wp (run G 30 20 [.loc l] S) fun d _ => d = .bl true := by
  refine (wp_run (n := 29) (fn := ⟨1, 15, b20⟩) rfl rfl).mpr ?_
  show ws (execs G (run G (26 + 3)) (M1 :: [T1, T2, T3, T4, T5, T6, T7]) (envX l none none none none none none none none none none none) S) _
  have rt : ∀ (S' : Store) (x1 x2 x3 x4 x5 x6 x7 x8 x9 x10 x11 : Option D), ws (execs G (run G (26 + 3)) [T1, T2, T3, T4, T5, T6, T7] (envX l x1 x2 x3 x4 x5 x6 x7 x8 x9 x10 x11) S') { nx := fun _ S => D.non = .bl true, rt := fun d _ => d = .bl true } := fun S' x1 x2 x3 x4 x5 x6 x7 x8 x9 x10 x11 => aT1 fun _ => rfl
  generalize [T1, T2, T3, T4, T5, T6, T7] = tl at rt ⊢
  rw [ws_cons]
  have h2 := aM1 (n := 26) (x1 := none) (x2 := none) (x3 := none) (x4 := none) (x5 := none) (x6 := none) (x7 := none) (x8 := none) (x9 := none) (x10 := none) (x11 := none) (P := { nx := fun e S => ws (execs G (run G (26 + 3)) tl e S) { nx := fun _ S => D.non = .bl true, rt := fun d _ => d = .bl true }, rt := fun d _ => d = .bl true }) h fun S' x1 x2 x3 x4 x5 x6 x7 x8 x9 x10 x11 _ => rt _ _ _ _ _ _ _ _ _ _ _ _
  rw [ws_cons] at h2
  exact h2
theorem law_run : ∀ ns : List Int, ns.length ≤ 63 → ∃ S', run G 30 20 [.loc 0] [.fix (ns.map .int)] = .ok (.bl true) S' := by
  intro ns _
  have h := law_ws (S := [.fix (ns.map .int)]) (l := 0) (ns := ns) rfl
  revert h
  cases run G 30 20 [.loc 0] [.fix (ns.map .int)] with
  | ok d S =>
    intro h
    have e : d = .bl true := h
    exact ⟨S, by rw [e]⟩
  | _ => exact fun h => h.elim
end MI.Law

namespace MI.Law
open PySem PySem.Spec PyProof.Rows L2 MI
theorem all_mk {l : PySem.W.OpenLaw} {w : World} {K : PySem.W.Frag} {h : Heap} {mg : Str → Option Value} {fa0 : Addr} (X : K.In h) (GG : h.Ns mainGlobals mg) (hfa : mg "law" = some (.ref fa0))
    (hrun : ∀ ns : List Int, ns.length ≤ 63 → ∃ S', run G 30 20 [.loc 0] [.fix (ns.map .int)] = .ok (.bl true) S')
    {C1 C2 C3 f0 f1 f2 f3 f4 f5 f6 f7 f8 f9 f10 f11 f12 f13 f14 f15 f16 f17 f18 f19 f20 : Addr}
    {od0 : Option Addr}
    {an0 : Option Addr}
    {sl0 : Array (Option Value)}
    {oc0 : Value}
    {kV0 : Value}
    {dc0 : Value}
    {pm0 : Value}
    {cd0 : Value}
    {ct0 : Value}
    {od1 : Option Addr}
    {an1 : Option Addr}
    {sl1 : Array (Option Value)}
    {oc1 : Value}
    {kV1 : Value}
    {dc1 : Value}
    {pm1 : Value}
    {cd1 : Value}
    {ct1 : Value}
    {od2 : Option Addr}
    {an2 : Option Addr}
    {sl2 : Array (Option Value)}
    {oc2 : Value}
    {kV2 : Value}
    {dc2 : Value}
    {pm2 : Value}
    {cd2 : Value}
    {ct2 : Value}
    {od3 : Option Addr}
    {an3 : Option Addr}
    {sl3 : Array (Option Value)}
    {oc3 : Value}
    {kV3 : Value}
    {dc3 : Value}
    {pm3 : Value}
    {cd3 : Value}
    {ct3 : Value}
    {od4 : Option Addr}
    {an4 : Option Addr}
    {sl4 : Array (Option Value)}
    {oc4 : Value}
    {kV4 : Value}
    {dc4 : Value}
    {pm4 : Value}
    {cd4 : Value}
    {ct4 : Value}
    {od5 : Option Addr}
    {an5 : Option Addr}
    {sl5 : Array (Option Value)}
    {oc5 : Value}
    {kV5 : Value}
    {dc5 : Value}
    {pm5 : Value}
    {cd5 : Value}
    {ct5 : Value}
    {od6 : Option Addr}
    {an6 : Option Addr}
    {sl6 : Array (Option Value)}
    {oc6 : Value}
    {kV6 : Value}
    {dc6 : Value}
    {pm6 : Value}
    {cd6 : Value}
    {ct6 : Value}
    {od7 : Option Addr}
    {an7 : Option Addr}
    {sl7 : Array (Option Value)}
    {oc7 : Value}
    {kV7 : Value}
    {dc7 : Value}
    {pm7 : Value}
    {cd7 : Value}
    {ct7 : Value}
    {od8 : Option Addr}
    {an8 : Option Addr}
    {sl8 : Array (Option Value)}
    {oc8 : Value}
    {kV8 : Value}
    {dc8 : Value}
    {pm8 : Value}
    {cd8 : Value}
    {ct8 : Value}
    {od9 : Option Addr}
    {an9 : Option Addr}
    {sl9 : Array (Option Value)}
    {oc9 : Value}
    {kV9 : Value}
    {dc9 : Value}
    {pm9 : Value}
    {cd9 : Value}
    {ct9 : Value}
    {od10 : Option Addr}
    {an10 : Option Addr}
    {sl10 : Array (Option Value)}
    {oc10 : Value}
    {kV10 : Value}
    {dc10 : Value}
    {pm10 : Value}
    {cd10 : Value}
    {ct10 : Value}
    {od11 : Option Addr}
    {an11 : Option Addr}
    {sl11 : Array (Option Value)}
    {oc11 : Value}
    {kV11 : Value}
    {dc11 : Value}
    {pm11 : Value}
    {cd11 : Value}
    {ct11 : Value}
    {od12 : Option Addr}
    {an12 : Option Addr}
    {sl12 : Array (Option Value)}
    {oc12 : Value}
    {kV12 : Value}
    {dc12 : Value}
    {pm12 : Value}
    {cd12 : Value}
    {ct12 : Value}
    {od13 : Option Addr}
    {an13 : Option Addr}
    {sl13 : Array (Option Value)}
    {oc13 : Value}
    {kV13 : Value}
    {dc13 : Value}
    {pm13 : Value}
    {cd13 : Value}
    {ct13 : Value}
    {od14 : Option Addr}
    {an14 : Option Addr}
    {sl14 : Array (Option Value)}
    {oc14 : Value}
    {kV14 : Value}
    {dc14 : Value}
    {pm14 : Value}
    {cd14 : Value}
    {ct14 : Value}
    {od15 : Option Addr}
    {an15 : Option Addr}
    {sl15 : Array (Option Value)}
    {oc15 : Value}
    {kV15 : Value}
    {dc15 : Value}
    {pm15 : Value}
    {cd15 : Value}
    {ct15 : Value}
    {od16 : Option Addr}
    {an16 : Option Addr}
    {sl16 : Array (Option Value)}
    {oc16 : Value}
    {kV16 : Value}
    {dc16 : Value}
    {pm16 : Value}
    {cd16 : Value}
    {ct16 : Value}
    {od17 : Option Addr}
    {an17 : Option Addr}
    {sl17 : Array (Option Value)}
    {oc17 : Value}
    {kV17 : Value}
    {dc17 : Value}
    {pm17 : Value}
    {cd17 : Value}
    {ct17 : Value}
    {od18 : Option Addr}
    {an18 : Option Addr}
    {sl18 : Array (Option Value)}
    {oc18 : Value}
    {kV18 : Value}
    {dc18 : Value}
    {pm18 : Value}
    {cd18 : Value}
    {ct18 : Value}
    {od19 : Option Addr}
    {an19 : Option Addr}
    {sl19 : Array (Option Value)}
    {oc19 : Value}
    {kV19 : Value}
    {dc19 : Value}
    {pm19 : Value}
    {cd19 : Value}
    {ct19 : Value}
    {od20 : Option Addr}
    {an20 : Option Addr}
    {sl20 : Array (Option Value)}
    {oc20 : Value}
    {kV20 : Value}
    {dc20 : Value}
    {pm20 : Value}
    {cd20 : Value}
    {ct20 : Value}
    (aC1 : PySem.W.nsIn K mainGlobals "Stands" = some (some (.ref C1)))
    (pg1 : PySem.W.plainGet K C1 Str.empty = true)
    (hd1 : PySem.W.hasDictIn K C1 = true)
    (po1 : PySem.W.plainOver K C1 = true)
    (sa1 : PySem.W.findIn K (.ref C1) "__setattr__" = some (some (.builtin "object.__setattr__")))
    (mk1 : PySem.W.makesIn K C1 = true)
    (kc1 : PySem.W.keepIn K (.ref C1) = true)
    (nf1_0 : PySem.W.findIn K (.ref C1) "way" = some none)
    (aC2 : PySem.W.nsIn K mainGlobals "Gone" = some (some (.ref C2)))
    (pg2 : PySem.W.plainGet K C2 Str.empty = true)
    (hd2 : PySem.W.hasDictIn K C2 = true)
    (po2 : PySem.W.plainOver K C2 = true)
    (sa2 : PySem.W.findIn K (.ref C2) "__setattr__" = some (some (.builtin "object.__setattr__")))
    (mk2 : PySem.W.makesIn K C2 = true)
    (kc2 : PySem.W.keepIn K (.ref C2) = true)
    (nf2_0 : PySem.W.findIn K (.ref C2) "way" = some none)
    (aC3 : PySem.W.nsIn K mainGlobals "Waits" = some (some (.ref C3)))
    (pg3 : PySem.W.plainGet K C3 Str.empty = true)
    (hd3 : PySem.W.hasDictIn K C3 = true)
    (po3 : PySem.W.plainOver K C3 = true)
    (sa3 : PySem.W.findIn K (.ref C3) "__setattr__" = some (some (.builtin "object.__setattr__")))
    (mk3 : PySem.W.makesIn K C3 = true)
    (kc3 : PySem.W.keepIn K (.ref C3) = true)
    (nf3_0 : PySem.W.findIn K (.ref C3) "chain" = some none)
    (a0 : PySem.W.nsIn K mainGlobals "uppers_of" = some (some (.ref f0)))
    (l0 : K.lookup f0 = some ⟨oc0, od0, .func (PySem.W.fnOf "uppers_of" "uppers_of" (defArgs st0) (defBody st0) (defScope st0) .none kV0 dc0 pm0 an0 cd0 ct0), sl0⟩)
    (c0 : PySem.W.codeIn K cd0 "uppers_of" = true)
    (k0 : PySem.W.keepIn K (.ref f0) = true)
    (a1 : PySem.W.nsIn K mainGlobals "outs_of" = some (some (.ref f1)))
    (l1 : K.lookup f1 = some ⟨oc1, od1, .func (PySem.W.fnOf "outs_of" "outs_of" (defArgs st1) (defBody st1) (defScope st1) .none kV1 dc1 pm1 an1 cd1 ct1), sl1⟩)
    (c1 : PySem.W.codeIn K cd1 "outs_of" = true)
    (k1 : PySem.W.keepIn K (.ref f1) = true)
    (a2 : PySem.W.nsIn K mainGlobals "is_way" = some (some (.ref f2)))
    (l2 : K.lookup f2 = some ⟨oc2, od2, .func (PySem.W.fnOf "is_way" "is_way" (defArgs st2) (defBody st2) (defScope st2) .none kV2 dc2 pm2 an2 cd2 ct2), sl2⟩)
    (c2 : PySem.W.codeIn K cd2 "is_way" = true)
    (k2 : PySem.W.keepIn K (.ref f2) = true)
    (a3 : PySem.W.findIn K (.ref C1) "__init__" = some (some (.ref f3)))
    (i3 : PySem.W.isFn K (.ref f3) = true)
    (l3 : K.lookup f3 = some ⟨oc3, od3, .func (PySem.W.fnOf "__init__" "Stands.__init__" (defArgs st3) (defBody st3) (defScope st3) .none kV3 dc3 pm3 an3 cd3 ct3), sl3⟩)
    (c3 : PySem.W.codeIn K cd3 "Stands.__init__" = true)
    (k3 : PySem.W.keepIn K (.ref f3) = true)
    (a4 : PySem.W.findIn K (.ref C1) "shows" = some (some (.ref f4)))
    (i4 : PySem.W.isFn K (.ref f4) = true)
    (l4 : K.lookup f4 = some ⟨oc4, od4, .func (PySem.W.fnOf "shows" "Stands.shows" (defArgs st4) (defBody st4) (defScope st4) .none kV4 dc4 pm4 an4 cd4 ct4), sl4⟩)
    (c4 : PySem.W.codeIn K cd4 "Stands.shows" = true)
    (k4 : PySem.W.keepIn K (.ref f4) = true)
    (a5 : PySem.W.findIn K (.ref C2) "__init__" = some (some (.ref f5)))
    (i5 : PySem.W.isFn K (.ref f5) = true)
    (l5 : K.lookup f5 = some ⟨oc5, od5, .func (PySem.W.fnOf "__init__" "Gone.__init__" (defArgs st5) (defBody st5) (defScope st5) .none kV5 dc5 pm5 an5 cd5 ct5), sl5⟩)
    (c5 : PySem.W.codeIn K cd5 "Gone.__init__" = true)
    (k5 : PySem.W.keepIn K (.ref f5) = true)
    (a6 : PySem.W.findIn K (.ref C2) "shows" = some (some (.ref f6)))
    (i6 : PySem.W.isFn K (.ref f6) = true)
    (l6 : K.lookup f6 = some ⟨oc6, od6, .func (PySem.W.fnOf "shows" "Gone.shows" (defArgs st6) (defBody st6) (defScope st6) .none kV6 dc6 pm6 an6 cd6 ct6), sl6⟩)
    (c6 : PySem.W.codeIn K cd6 "Gone.shows" = true)
    (k6 : PySem.W.keepIn K (.ref f6) = true)
    (a7 : PySem.W.findIn K (.ref C3) "__init__" = some (some (.ref f7)))
    (i7 : PySem.W.isFn K (.ref f7) = true)
    (l7 : K.lookup f7 = some ⟨oc7, od7, .func (PySem.W.fnOf "__init__" "Waits.__init__" (defArgs st7) (defBody st7) (defScope st7) .none kV7 dc7 pm7 an7 cd7 ct7), sl7⟩)
    (c7 : PySem.W.codeIn K cd7 "Waits.__init__" = true)
    (k7 : PySem.W.keepIn K (.ref f7) = true)
    (a8 : PySem.W.findIn K (.ref C3) "shows" = some (some (.ref f8)))
    (i8 : PySem.W.isFn K (.ref f8) = true)
    (l8 : K.lookup f8 = some ⟨oc8, od8, .func (PySem.W.fnOf "shows" "Waits.shows" (defArgs st8) (defBody st8) (defScope st8) .none kV8 dc8 pm8 an8 cd8 ct8), sl8⟩)
    (c8 : PySem.W.codeIn K cd8 "Waits.shows" = true)
    (k8 : PySem.W.keepIn K (.ref f8) = true)
    (a9 : PySem.W.nsIn K mainGlobals "_law_cell_at" = some (some (.ref f9)))
    (l9 : K.lookup f9 = some ⟨oc9, od9, .func (PySem.W.fnOf "_law_cell_at" "_law_cell_at" (defArgs st9) (defBody st9) (defScope st9) .none kV9 dc9 pm9 an9 cd9 ct9), sl9⟩)
    (c9 : PySem.W.codeIn K cd9 "_law_cell_at" = true)
    (k9 : PySem.W.keepIn K (.ref f9) = true)
    (a10 : PySem.W.nsIn K mainGlobals "_law_draw" = some (some (.ref f10)))
    (l10 : K.lookup f10 = some ⟨oc10, od10, .func (PySem.W.fnOf "_law_draw" "_law_draw" (defArgs st10) (defBody st10) (defScope st10) .none kV10 dc10 pm10 an10 cd10 ct10), sl10⟩)
    (c10 : PySem.W.codeIn K cd10 "_law_draw" = true)
    (k10 : PySem.W.keepIn K (.ref f10) = true)
    (a11 : PySem.W.nsIn K mainGlobals "_law_number" = some (some (.ref f11)))
    (l11 : K.lookup f11 = some ⟨oc11, od11, .func (PySem.W.fnOf "_law_number" "_law_number" (defArgs st11) (defBody st11) (defScope st11) .none kV11 dc11 pm11 an11 cd11 ct11), sl11⟩)
    (c11 : PySem.W.codeIn K cd11 "_law_number" = true)
    (k11 : PySem.W.keepIn K (.ref f11) = true)
    (a12 : PySem.W.nsIn K mainGlobals "_law_words" = some (some (.ref f12)))
    (l12 : K.lookup f12 = some ⟨oc12, od12, .func (PySem.W.fnOf "_law_words" "_law_words" (defArgs st12) (defBody st12) (defScope st12) .none kV12 dc12 pm12 an12 cd12 ct12), sl12⟩)
    (c12 : PySem.W.codeIn K cd12 "_law_words" = true)
    (k12 : PySem.W.keepIn K (.ref f12) = true)
    (a13 : PySem.W.nsIn K mainGlobals "_law_uppers" = some (some (.ref f13)))
    (l13 : K.lookup f13 = some ⟨oc13, od13, .func (PySem.W.fnOf "_law_uppers" "_law_uppers" (defArgs st13) (defBody st13) (defScope st13) .none kV13 dc13 pm13 an13 cd13 ct13), sl13⟩)
    (c13 : PySem.W.codeIn K cd13 "_law_uppers" = true)
    (k13 : PySem.W.keepIn K (.ref f13) = true)
    (a14 : PySem.W.nsIn K mainGlobals "_law_state_by" = some (some (.ref f14)))
    (l14 : K.lookup f14 = some ⟨oc14, od14, .func (PySem.W.fnOf "_law_state_by" "_law_state_by" (defArgs st14) (defBody st14) (defScope st14) .none kV14 dc14 pm14 an14 cd14 ct14), sl14⟩)
    (c14 : PySem.W.codeIn K cd14 "_law_state_by" = true)
    (k14 : PySem.W.keepIn K (.ref f14) = true)
    (a15 : PySem.W.nsIn K mainGlobals "_law_state" = some (some (.ref f15)))
    (l15 : K.lookup f15 = some ⟨oc15, od15, .func (PySem.W.fnOf "_law_state" "_law_state" (defArgs st15) (defBody st15) (defScope st15) .none kV15 dc15 pm15 an15 cd15 ct15), sl15⟩)
    (c15 : PySem.W.codeIn K cd15 "_law_state" = true)
    (k15 : PySem.W.keepIn K (.ref f15) = true)
    (a16 : PySem.W.nsIn K mainGlobals "_law_is_way" = some (some (.ref f16)))
    (l16 : K.lookup f16 = some ⟨oc16, od16, .func (PySem.W.fnOf "_law_is_way" "_law_is_way" (defArgs st16) (defBody st16) (defScope st16) .none kV16 dc16 pm16 an16 cd16 ct16), sl16⟩)
    (c16 : PySem.W.codeIn K cd16 "_law_is_way" = true)
    (k16 : PySem.W.keepIn K (.ref f16) = true)
    (a17 : PySem.W.nsIn K mainGlobals "_law_shows" = some (some (.ref f17)))
    (l17 : K.lookup f17 = some ⟨oc17, od17, .func (PySem.W.fnOf "_law_shows" "_law_shows" (defArgs st17) (defBody st17) (defScope st17) .none kV17 dc17 pm17 an17 cd17 ct17), sl17⟩)
    (c17 : PySem.W.codeIn K cd17 "_law_shows" = true)
    (k17 : PySem.W.keepIn K (.ref f17) = true)
    (a18 : PySem.W.nsIn K mainGlobals "_law_says" = some (some (.ref f18)))
    (l18 : K.lookup f18 = some ⟨oc18, od18, .func (PySem.W.fnOf "_law_says" "_law_says" (defArgs st18) (defBody st18) (defScope st18) .none kV18 dc18 pm18 an18 cd18 ct18), sl18⟩)
    (c18 : PySem.W.codeIn K cd18 "_law_says" = true)
    (k18 : PySem.W.keepIn K (.ref f18) = true)
    (a19 : PySem.W.nsIn K mainGlobals "_law_rows" = some (some (.ref f19)))
    (l19 : K.lookup f19 = some ⟨oc19, od19, .func (PySem.W.fnOf "_law_rows" "_law_rows" (defArgs st19) (defBody st19) (defScope st19) .none kV19 dc19 pm19 an19 cd19 ct19), sl19⟩)
    (c19 : PySem.W.codeIn K cd19 "_law_rows" = true)
    (k19 : PySem.W.keepIn K (.ref f19) = true)
    (a20 : PySem.W.nsIn K mainGlobals "law" = some (some (.ref f20)))
    (l20 : K.lookup f20 = some ⟨oc20, od20, .func (PySem.W.fnOf "law" "law" (defArgs st20) (defBody st20) (defScope st20) .none kV20 dc20 pm20 an20 cd20 ct20), sl20⟩)
    (c20 : PySem.W.codeIn K cd20 "law" = true)
    (k20 : PySem.W.keepIn K (.ref f20) = true)
    (z0 : PySem.W.nsIn K mainGlobals "all" = some none)
    (z1 : PySem.W.nsIn K mainGlobals "any" = some none)
    (z2 : PySem.W.nsIn K mainGlobals "bool" = some none)
    (z3 : PySem.W.nsIn K mainGlobals "dict" = some none)
    (z4 : PySem.W.nsIn K mainGlobals "isinstance" = some none)
    (z5 : PySem.W.nsIn K mainGlobals "len" = some none)
    (z6 : PySem.W.nsIn K mainGlobals "list" = some none)
    (z7 : PySem.W.nsIn K mainGlobals "range" = some none)
    (z8 : PySem.W.nsIn K mainGlobals "set" = some none)
    (z9 : PySem.W.nsIn K mainGlobals "sorted" = some none)
    (z10 : PySem.W.nsIn K mainGlobals "zip" = some none)
    : ∃ fd : FuncData, (∀ (s : Shared) (v : Value), BindsTo s fd ⟨[v], []⟩ [("_law_script", v)]) ∧ ∀ base : Heap, K.In base → base.Ns mainGlobals mg → FnOk l.prog w K mg base (L2.CX l.prog w) 60 fa0 fd ["_law_script"] (spLaw K) := by
  have e := hfa.symm.trans (PySem.W.mg_of X GG a20)
  cases e
  let ca : CA := fun c => [0, C1, C2, C3].getD c 0
  let fa : Nat → Addr := fun j => [f0, f1, f2, f3, f4, f5, f6, f7, f8, f9, f10, f11, f12, f13, f14, f15, f16, f17, f18, f19, fa0].getD j 0
  have cl1 : Cls K C1 := ⟨pg1, hd1, po1, sa1⟩
  have cl2 : Cls K C2 := ⟨pg2, hd2, po2, sa2⟩
  have cl3 : Cls K C3 := ⟨pg3, hd3, po3, sa3⟩
  have F0 := fun_mk (st := st0) l0 c0 k0
  have F1 := fun_mk (st := st1) l1 c1 k1
  have F2 := fun_mk (st := st2) l2 c2 k2
  have F3 := fun_mk (st := st3) l3 c3 k3
  have F4 := fun_mk (st := st4) l4 c4 k4
  have F5 := fun_mk (st := st5) l5 c5 k5
  have F6 := fun_mk (st := st6) l6 c6 k6
  have F7 := fun_mk (st := st7) l7 c7 k7
  have F8 := fun_mk (st := st8) l8 c8 k8
  have F9 := fun_mk (st := st9) l9 c9 k9
  have F10 := fun_mk (st := st10) l10 c10 k10
  have F11 := fun_mk (st := st11) l11 c11 k11
  have F12 := fun_mk (st := st12) l12 c12 k12
  have F13 := fun_mk (st := st13) l13 c13 k13
  have F14 := fun_mk (st := st14) l14 c14 k14
  have F15 := fun_mk (st := st15) l15 c15 k15
  have F16 := fun_mk (st := st16) l16 c16 k16
  have F17 := fun_mk (st := st17) l17 c17 k17
  have F18 := fun_mk (st := st18) l18 c18 k18
  have F19 := fun_mk (st := st19) l19 c19 k19
  have F20 := fun_mk (st := st20) l20 c20 k20
  have D0 : DefOk K f0 G T ⟨1, 3, b0⟩ _ (["words"] : List Str) := ⟨⟨"uppers_of", "uppers_of", st0, N0, F0, sc0, rfl, rfl, ck0⟩, F0.binds fun _ _ _ _ _ _ us hl => match us, hl with | [_], _ => rfl⟩
  have D1 : DefOk K f1 G T ⟨1, 2, b1⟩ _ (["words"] : List Str) := ⟨⟨"outs_of", "outs_of", st1, N1, F1, sc1, rfl, rfl, ck1⟩, F1.binds fun _ _ _ _ _ _ us hl => match us, hl with | [_], _ => rfl⟩
  have D2 : DefOk K f2 G T ⟨3, 5, b2⟩ _ (["uppers", "part", "way"] : List Str) := ⟨⟨"is_way", "is_way", st2, N2, F2, sc2, rfl, rfl, ck2⟩, F2.binds fun _ _ _ _ _ _ us hl => match us, hl with | [_, _, _], _ => rfl⟩
  have D3 : DefOk K f3 G T ⟨2, 2, b3⟩ _ (["self", "way"] : List Str) := ⟨⟨"__init__", "Stands.__init__", st3, N3, F3, sc3, rfl, rfl, ck3⟩, F3.binds fun _ _ _ _ _ _ us hl => match us, hl with | [_, _], _ => rfl⟩
  have D4 : DefOk K f4 G T ⟨3, 5, b4⟩ _ (["self", "words", "part"] : List Str) := ⟨⟨"shows", "Stands.shows", st4, N4, F4, sc4, rfl, rfl, ck4⟩, F4.binds fun _ _ _ _ _ _ us hl => match us, hl with | [_, _, _], _ => rfl⟩
  have D5 : DefOk K f5 G T ⟨2, 2, b5⟩ _ (["self", "way"] : List Str) := ⟨⟨"__init__", "Gone.__init__", st5, N5, F5, sc5, rfl, rfl, ck5⟩, F5.binds fun _ _ _ _ _ _ us hl => match us, hl with | [_, _], _ => rfl⟩
  have D6 : DefOk K f6 G T ⟨3, 5, b6⟩ _ (["self", "words", "part"] : List Str) := ⟨⟨"shows", "Gone.shows", st6, N6, F6, sc6, rfl, rfl, ck6⟩, F6.binds fun _ _ _ _ _ _ us hl => match us, hl with | [_, _, _], _ => rfl⟩
  have D7 : DefOk K f7 G T ⟨2, 2, b7⟩ _ (["self", "chain"] : List Str) := ⟨⟨"__init__", "Waits.__init__", st7, N7, F7, sc7, rfl, rfl, ck7⟩, F7.binds fun _ _ _ _ _ _ us hl => match us, hl with | [_, _], _ => rfl⟩
  have D8 : DefOk K f8 G T ⟨3, 7, b8⟩ _ (["self", "words", "part"] : List Str) := ⟨⟨"shows", "Waits.shows", st8, N8, F8, sc8, rfl, rfl, ck8⟩, F8.binds fun _ _ _ _ _ _ us hl => match us, hl with | [_, _, _], _ => rfl⟩
  have D9 : DefOk K f9 G T ⟨2, 2, b9⟩ _ (["_law_script", "_law_k"] : List Str) := ⟨⟨"_law_cell_at", "_law_cell_at", st9, N9, F9, sc9, rfl, rfl, ck9⟩, F9.binds fun _ _ _ _ _ _ us hl => match us, hl with | [_, _], _ => rfl⟩
  have D10 : DefOk K f10 G T ⟨3, 4, b10⟩ _ (["_law_cell", "_law_k", "_law_most"] : List Str) := ⟨⟨"_law_draw", "_law_draw", st10, N10, F10, sc10, rfl, rfl, ck10⟩, F10.binds fun _ _ _ _ _ _ us hl => match us, hl with | [_, _, _], _ => rfl⟩
  have D11 : DefOk K f11 G T ⟨3, 4, b11⟩ _ (["_law_cell", "_law_k", "_law_limit"] : List Str) := ⟨⟨"_law_number", "_law_number", st11, N11, F11, sc11, rfl, rfl, ck11⟩, F11.binds fun _ _ _ _ _ _ us hl => match us, hl with | [_, _, _], _ => rfl⟩
  have D12 : DefOk K f12 G T ⟨3, 11, b12⟩ _ (["_law_script", "_law_by", "_law_most"] : List Str) := ⟨⟨"_law_words", "_law_words", st12, N12, F12, sc12, rfl, rfl, ck12⟩, F12.binds fun _ _ _ _ _ _ us hl => match us, hl with | [_, _, _], _ => rfl⟩
  have D13 : DefOk K f13 G T ⟨1, 2, b13⟩ _ (["_law_words_here"] : List Str) := ⟨⟨"_law_uppers", "_law_uppers", st13, N13, F13, sc13, rfl, rfl, ck13⟩, F13.binds fun _ _ _ _ _ _ us hl => match us, hl with | [_], _ => rfl⟩
  have D14 : DefOk K f14 G T ⟨3, 7, b14⟩ _ (["_law_uppers_here", "_law_outs", "_law_part"] : List Str) := ⟨⟨"_law_state_by", "_law_state_by", st14, N14, F14, sc14, rfl, rfl, ck14⟩, F14.binds fun _ _ _ _ _ _ us hl => match us, hl with | [_, _, _], _ => rfl⟩
  have D15 : DefOk K f15 G T ⟨2, 3, b15⟩ _ (["_law_words_here", "_law_part"] : List Str) := ⟨⟨"_law_state", "_law_state", st15, N15, F15, sc15, rfl, rfl, ck15⟩, F15.binds fun _ _ _ _ _ _ us hl => match us, hl with | [_, _], _ => rfl⟩
  have D16 : DefOk K f16 G T ⟨3, 5, b16⟩ _ (["_law_words_here", "_law_part", "_law_way"] : List Str) := ⟨⟨"_law_is_way", "_law_is_way", st16, N16, F16, sc16, rfl, rfl, ck16⟩, F16.binds fun _ _ _ _ _ _ us hl => match us, hl with | [_, _, _], _ => rfl⟩
  have D17 : DefOk K f17 G T ⟨4, 8, b17⟩ _ (["_law_kind", "_law_words_here", "_law_part", "_law_row"] : List Str) := ⟨⟨"_law_shows", "_law_shows", st17, N17, F17, sc17, rfl, rfl, ck17⟩, F17.binds fun _ _ _ _ _ _ us hl => match us, hl with | [_, _, _, _], _ => rfl⟩
  have D18 : DefOk K f18 G T ⟨2, 2, b18⟩ _ (["_law_said", "_law_due"] : List Str) := ⟨⟨"_law_says", "_law_says", st18, N18, F18, sc18, rfl, rfl, ck18⟩, F18.binds fun _ _ _ _ _ _ us hl => match us, hl with | [_, _], _ => rfl⟩
  have D19 : DefOk K f19 G T ⟨4, 8, b19⟩ _ (["_law_script", "_law_by", "_law_row", "_law_part"] : List Str) := ⟨⟨"_law_rows", "_law_rows", st19, N19, F19, sc19, rfl, rfl, ck19⟩, F19.binds fun _ _ _ _ _ _ us hl => match us, hl with | [_, _, _, _], _ => rfl⟩
  have D20 : DefOk K fa0 G T ⟨1, 15, b20⟩ _ (["_law_script"] : List Str) := ⟨⟨"law", "law", st20, N20, F20, sc20, rfl, rfl, ck20⟩, F20.binds fun _ _ _ _ _ _ us hl => match us, hl with | [_], _ => rfl⟩
  have M : ModOk K mg ca fa G T := {
    fld := fun c f h => (show ∀ p ∈ FL, Cls K (ca p.1) ∧ NoAttr K (ca p.1) p.2 from (List.forall_mem_cons.mpr ⟨⟨cl1, nf1_0⟩, (List.forall_mem_cons.mpr ⟨⟨cl2, nf2_0⟩, (List.forall_mem_cons.mpr ⟨⟨cl3, nf3_0⟩, (fun _ h => nomatch h)⟩)⟩)⟩)) (c, f) (List.contains_iff_mem.mp h)
    meth := fun c m j h => (show ∀ p ∈ ML, Cls K (ca p.1.1) ∧ Meth K (ca p.1.1) p.1.2 (fa p.2) from (List.forall_mem_cons.mpr ⟨⟨cl1, ⟨a4, i4, k4⟩⟩, (List.forall_mem_cons.mpr ⟨⟨cl2, ⟨a6, i6, k6⟩⟩, (List.forall_mem_cons.mpr ⟨⟨cl3, ⟨a8, i8, k8⟩⟩, (fun _ h => nomatch h)⟩)⟩)⟩)) ((c, m), j) (lookup_in h)
    init := fun c j h => (show ∀ p ∈ IL, Mk K (ca p.1) (fa p.2) from (List.forall_mem_cons.mpr ⟨⟨mk1, a3, i3, kc1⟩, (List.forall_mem_cons.mpr ⟨⟨mk2, a5, i5, kc2⟩, (List.forall_mem_cons.mpr ⟨⟨mk3, a7, i7, kc3⟩, (fun _ h => nomatch h)⟩)⟩)⟩)) (c, j) (lookup_in h)
    gfn := fun x j h => (show ∀ p ∈ T.fns, mg p.1 = some (.ref (fa p.2)) ∧ PySem.W.keepIn K (.ref (fa p.2)) = true from (List.forall_mem_cons.mpr ⟨⟨PySem.W.mg_of X GG a9, k9⟩, (List.forall_mem_cons.mpr ⟨⟨PySem.W.mg_of X GG a10, k10⟩, (List.forall_mem_cons.mpr ⟨⟨PySem.W.mg_of X GG a16, k16⟩, (List.forall_mem_cons.mpr ⟨⟨PySem.W.mg_of X GG a11, k11⟩, (List.forall_mem_cons.mpr ⟨⟨PySem.W.mg_of X GG a19, k19⟩, (List.forall_mem_cons.mpr ⟨⟨PySem.W.mg_of X GG a18, k18⟩, (List.forall_mem_cons.mpr ⟨⟨PySem.W.mg_of X GG a17, k17⟩, (List.forall_mem_cons.mpr ⟨⟨PySem.W.mg_of X GG a15, k15⟩, (List.forall_mem_cons.mpr ⟨⟨PySem.W.mg_of X GG a14, k14⟩, (List.forall_mem_cons.mpr ⟨⟨PySem.W.mg_of X GG a13, k13⟩, (List.forall_mem_cons.mpr ⟨⟨PySem.W.mg_of X GG a12, k12⟩, (List.forall_mem_cons.mpr ⟨⟨PySem.W.mg_of X GG a2, k2⟩, (List.forall_mem_cons.mpr ⟨⟨PySem.W.mg_of X GG a1, k1⟩, (List.forall_mem_cons.mpr ⟨⟨PySem.W.mg_of X GG a0, k0⟩, (fun _ h => nomatch h)⟩)⟩)⟩)⟩)⟩)⟩)⟩)⟩)⟩)⟩)⟩)⟩)⟩)⟩)) (x, j) (lookup_in h)
    gcl := fun x c h => (show ∀ p ∈ T.cls, mg p.1 = some (.ref (ca p.2)) from (List.forall_mem_cons.mpr ⟨PySem.W.mg_of X GG aC2, (List.forall_mem_cons.mpr ⟨PySem.W.mg_of X GG aC1, (List.forall_mem_cons.mpr ⟨PySem.W.mg_of X GG aC3, (fun _ h => nomatch h)⟩)⟩)⟩)) (x, c) (lookup_in h)
    gnum := fun x i h => (show ∀ p ∈ T.num, ∃ t, mg p.1 = some (.int p.2 t) from (fun _ h => nomatch h)) (x, i) (lookup_in h)
    gno := (show ∀ x ∈ T.blt, mg x = none from (List.forall_mem_cons.mpr ⟨PySem.W.mg_none_of X GG z0, (List.forall_mem_cons.mpr ⟨PySem.W.mg_none_of X GG z1, (List.forall_mem_cons.mpr ⟨PySem.W.mg_none_of X GG z2, (List.forall_mem_cons.mpr ⟨PySem.W.mg_none_of X GG z3, (List.forall_mem_cons.mpr ⟨PySem.W.mg_none_of X GG z4, (List.forall_mem_cons.mpr ⟨PySem.W.mg_none_of X GG z5, (List.forall_mem_cons.mpr ⟨PySem.W.mg_none_of X GG z6, (List.forall_mem_cons.mpr ⟨PySem.W.mg_none_of X GG z7, (List.forall_mem_cons.mpr ⟨PySem.W.mg_none_of X GG z8, (List.forall_mem_cons.mpr ⟨PySem.W.mg_none_of X GG z9, (List.forall_mem_cons.mpr ⟨PySem.W.mg_none_of X GG z10, (fun _ h => nomatch h)⟩)⟩)⟩)⟩)⟩)⟩)⟩)⟩)⟩)⟩)⟩))
    rais := fun _ _ _ _ _ _ _ _ _ _ _ _ _ _ h => nomatch h }
  have hd : ∀ j fn, G.fns[j]? = some fn → ∃ fd ps, DefOk K (fa j) G T fn fd ps := fun j fn h => match j, h with
    | 0, h => by cases h; exact ⟨_, _, D0⟩
    | 1, h => by cases h; exact ⟨_, _, D1⟩
    | 2, h => by cases h; exact ⟨_, _, D2⟩
    | 3, h => by cases h; exact ⟨_, _, D3⟩
    | 4, h => by cases h; exact ⟨_, _, D4⟩
    | 5, h => by cases h; exact ⟨_, _, D5⟩
    | 6, h => by cases h; exact ⟨_, _, D6⟩
    | 7, h => by cases h; exact ⟨_, _, D7⟩
    | 8, h => by cases h; exact ⟨_, _, D8⟩
    | 9, h => by cases h; exact ⟨_, _, D9⟩
    | 10, h => by cases h; exact ⟨_, _, D10⟩
    | 11, h => by cases h; exact ⟨_, _, D11⟩
    | 12, h => by cases h; exact ⟨_, _, D12⟩
    | 13, h => by cases h; exact ⟨_, _, D13⟩
    | 14, h => by cases h; exact ⟨_, _, D14⟩
    | 15, h => by cases h; exact ⟨_, _, D15⟩
    | 16, h => by cases h; exact ⟨_, _, D16⟩
    | 17, h => by cases h; exact ⟨_, _, D17⟩
    | 18, h => by cases h; exact ⟨_, _, D18⟩
    | 19, h => by cases h; exact ⟨_, _, D19⟩
    | 20, h => by cases h; exact ⟨_, _, D20⟩
    | _ + 21, h => nomatch h
  exact ⟨_, fun s v => .of_eq rfl, fun base _ _ => (law_fn (fa := fa) (j := 20) M hd 29 rfl D20).imp fun vs H Q E => law_sp hrun vs H Q E⟩
end MI.Law
open PySem PySem.W PyProof.Rows in
set_option maxRecDepth 100000 in
set_option maxHeartbeats 0 in
theorem PySem.Challenge.cw_storyturns_k03_why_by_hand_holds : PySem.Challenge.rw_storyturns_k03_why_by_hand.Holds := by
  w_on; o_law; k_head; (case hw => w_witness2)
  k_fill
  refine MI.mi_walk (l := PySem.Challenge.rw_storyturns_k03_why_by_hand) (k := 60) (x := "_law_script") ⟨rfl, by decide, by decide⟩ rfl rfl (fun w h Y => PySem.W.kIn_of Y) ?F
  case F =>
    intro w mg fa h KX G hmg
    refine' MI.Law.all_mk KX G hmg MI.Law.law_run ?aC1 ?pg1 ?hd1 ?po1 ?sa1 ?mk1 ?kc1 ?nf1_0 ?aC2 ?pg2 ?hd2 ?po2 ?sa2 ?mk2 ?kc2 ?nf2_0 ?aC3 ?pg3 ?hd3 ?po3 ?sa3 ?mk3 ?kc3 ?nf3_0 ?a0 ?l0 ?c0 ?k0 ?a1 ?l1 ?c1 ?k1 ?a2 ?l2 ?c2 ?k2 ?a3 ?i3 ?l3 ?c3 ?k3 ?a4 ?i4 ?l4 ?c4 ?k4 ?a5 ?i5 ?l5 ?c5 ?k5 ?a6 ?i6 ?l6 ?c6 ?k6 ?a7 ?i7 ?l7 ?c7 ?k7 ?a8 ?i8 ?l8 ?c8 ?k8 ?a9 ?l9 ?c9 ?k9 ?a10 ?l10 ?c10 ?k10 ?a11 ?l11 ?c11 ?k11 ?a12 ?l12 ?c12 ?k12 ?a13 ?l13 ?c13 ?k13 ?a14 ?l14 ?c14 ?k14 ?a15 ?l15 ?c15 ?k15 ?a16 ?l16 ?c16 ?k16 ?a17 ?l17 ?c17 ?k17 ?a18 ?l18 ?c18 ?k18 ?a19 ?l19 ?c19 ?k19 ?a20 ?l20 ?c20 ?k20 ?z0 ?z1 ?z2 ?z3 ?z4 ?z5 ?z6 ?z7 ?z8 ?z9 ?z10
    (case aC1 => k_is)
    (case pg1 => k_is)
    (case hd1 => k_is)
    (case po1 => k_is)
    (case sa1 => k_is)
    (case mk1 => k_is)
    (case kc1 => k_is)
    (case nf1_0 => k_is)
    (case aC2 => k_is)
    (case pg2 => k_is)
    (case hd2 => k_is)
    (case po2 => k_is)
    (case sa2 => k_is)
    (case mk2 => k_is)
    (case kc2 => k_is)
    (case nf2_0 => k_is)
    (case aC3 => k_is)
    (case pg3 => k_is)
    (case hd3 => k_is)
    (case po3 => k_is)
    (case sa3 => k_is)
    (case mk3 => k_is)
    (case kc3 => k_is)
    (case nf3_0 => k_is)
    (case a0 => k_is)
    (case l0 => k_is)
    (case c0 => k_is)
    (case k0 => k_is)
    (case a1 => k_is)
    (case l1 => k_is)
    (case c1 => k_is)
    (case k1 => k_is)
    (case a2 => k_is)
    (case l2 => k_is)
    (case c2 => k_is)
    (case k2 => k_is)
    (case a3 => k_is)
    (case i3 => k_is)
    (case l3 => k_is)
    (case c3 => k_is)
    (case k3 => k_is)
    (case a4 => k_is)
    (case i4 => k_is)
    (case l4 => k_is)
    (case c4 => k_is)
    (case k4 => k_is)
    (case a5 => k_is)
    (case i5 => k_is)
    (case l5 => k_is)
    (case c5 => k_is)
    (case k5 => k_is)
    (case a6 => k_is)
    (case i6 => k_is)
    (case l6 => k_is)
    (case c6 => k_is)
    (case k6 => k_is)
    (case a7 => k_is)
    (case i7 => k_is)
    (case l7 => k_is)
    (case c7 => k_is)
    (case k7 => k_is)
    (case a8 => k_is)
    (case i8 => k_is)
    (case l8 => k_is)
    (case c8 => k_is)
    (case k8 => k_is)
    (case a9 => k_is)
    (case l9 => k_is)
    (case c9 => k_is)
    (case k9 => k_is)
    (case a10 => k_is)
    (case l10 => k_is)
    (case c10 => k_is)
    (case k10 => k_is)
    (case a11 => k_is)
    (case l11 => k_is)
    (case c11 => k_is)
    (case k11 => k_is)
    (case a12 => k_is)
    (case l12 => k_is)
    (case c12 => k_is)
    (case k12 => k_is)
    (case a13 => k_is)
    (case l13 => k_is)
    (case c13 => k_is)
    (case k13 => k_is)
    (case a14 => k_is)
    (case l14 => k_is)
    (case c14 => k_is)
    (case k14 => k_is)
    (case a15 => k_is)
    (case l15 => k_is)
    (case c15 => k_is)
    (case k15 => k_is)
    (case a16 => k_is)
    (case l16 => k_is)
    (case c16 => k_is)
    (case k16 => k_is)
    (case a17 => k_is)
    (case l17 => k_is)
    (case c17 => k_is)
    (case k17 => k_is)
    (case a18 => k_is)
    (case l18 => k_is)
    (case c18 => k_is)
    (case k18 => k_is)
    (case a19 => k_is)
    (case l19 => k_is)
    (case c19 => k_is)
    (case k19 => k_is)
    (case a20 => k_is)
    (case l20 => k_is)
    (case c20 => k_is)
    (case k20 => k_is)
    (case z0 => k_is)
    (case z1 => k_is)
    (case z2 => k_is)
    (case z3 => k_is)
    (case z4 => k_is)
    (case z5 => k_is)
    (case z6 => k_is)
    (case z7 => k_is)
    (case z8 => k_is)
    (case z9 => k_is)
    (case z10 => k_is)

