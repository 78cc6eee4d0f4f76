import PyProof.Rows.All
import Wide.All
import OpenK.AllK
import Wide.FinOn
import HandS.ForMost
import HandS.TupAny
import HandS.Deep
import HandS.StrMore
import KE.DataFind
import KE.DataEq
import HandS.Dict
import HandS.Iter
import HandS.Conv
import HandS.Lambda
import KE.KDictKeyed
import KE.KeyNested
import PyProof.Rows.TupTab
import KE.KDictCopyH
import PyProof.DictTruth
import HandS.Small
import HandS.ForExc
import HandS.ExcCtx
import HandS.HotCalls
import HandS.ExcIs
import HandS.Codes
import HandS.TupMul
import HandS.IsInst
import HandS.More
import HandS.Wide
import HandS.Style
import HandS.SortInts
import KE.SortData
import KE.KTupSum
import PyProof.TupleOfSeq
import PyProof.Rows.StrRev
import HandS.HeadHook1
import HandS.Defaults
import HandS.Comp
import HandS.Head0
import HandS.Head1
import HandS.Head2
import HandS.HeadEnd
import HandS.HeadHook4
import HandS.HeadWalk
import KE.KNestM
import KE.KStateDown
import PyProof.TableCode
import PySem.Challenge.RW_flipwalks_k08_whole_all_rounds
set_option linter.all false
set_option maxRecDepth 100000
/-! FwLang: plain data, a small deep language, its evaluator. Core Lean alone. -/
namespace Fw

abbrev Tx := List Nat
/-- the largest length of a list, tuple, text -/
abbrev SL : Nat := 16777216

inductive D where
  | non
  | bl (b : Bool)
  | int (i : Int)
  | str (s : Tx)
  | tup (l : List D)
  | lst (l : List D)
  | dic (ks : List (Int × Int)) (vs : List D)
  | dice
  | tpk (l : List D)
  | dii (ks : List Int) (vs : List D)

inductive Res (α : Type) where
  | ok (a : α)
  | exc (c : Nat) (n k : Int)
  | stuck

def Res.bind {α β : Type} : Res α → (α → Res β) → Res β
  | .ok a, f => f a
  | .exc c n k, _ => .exc c n k
  | .stuck, _ => .stuck

theorem bind_ok {α β : Type} (a : α) (f : α → Res β) : (Res.ok a).bind f = f a := rfl
theorem bind_exc {α β : Type} (c : Nat) (n k : Int) (f : α → Res β) : (Res.exc c n k).bind f = .exc c n k := rfl
theorem bind_stuck {α β : Type} (f : α → Res β) : (Res.stuck : Res α).bind f = .stuck := rfl

inductive Sl where
  | un
  | val (d : D)
  | ol (l : List D)
  | od (kvs : List ((Int × Int) × D))
  | oi (kvs : List (Int × D))
  | os (kvs : List (D × D))

structure S where
  env : List Sl
  dn : Int
  dk : Int
  lk : Bool

abbrev FSem := List D → Int → Int → Res (D × Int × Int)

/-! ### equality -/
mutual
def D.eqv : D → D → Bool
  | .non, .non => true
  | .bl a, .bl b => a == b
  | .bl a, .int j => (if a then 1 else 0) == j
  | .int i, .bl b => i == (if b then 1 else 0)
  | .int i, .int j => i == j
  | .str x, .str y => x == y
  | .lst xs, .lst ys => D.eqvs xs ys
  | .tup xs, .tup ys => D.eqvs xs ys
  | _, _ => false
def D.eqvs : List D → List D → Bool
  | [], [] => true
  | x :: xs, y :: ys => D.eqv x y && D.eqvs xs ys
  | _, _ => false
end
/-! data that == may compare: no dict, no dice, at most n deep -/
mutual
def D.fit : Nat → D → Bool
  | _, .non => true
  | _, .bl _ => true
  | _, .int _ => true
  | _, .str _ => true
  | n + 1, .tup l => D.fits n l
  | n + 1, .lst l => D.fits n l
  | _, _ => false
def D.fits : Nat → List D → Bool
  | _, [] => true
  | n, x :: xs => D.fit n x && D.fits n xs
end
/-- neither list nor tuple -/
def D.flat : D → Bool
  | .non => true
  | .bl _ => true
  | .int _ => true
  | .str _ => true
  | _ => false

/-! ### places, slices -/
def ati {α : Type} (l : List α) (i : Int) : Option α :=
  if 0 ≤ i then l[i.toNat]? else if -(l.length : Int) ≤ i then l[(i + l.length).toNat]? else none
def six (n d : Nat) : Option Int → Nat
  | none => d
  | some v => if v < 0 then (v + (n : Int)).toNat else min v.toNat n
def cut {α : Type} (l : List α) (lo hi : Option Int) : List α :=
  (l.drop (six l.length 0 lo)).take (six l.length l.length hi - six l.length 0 lo)

/-! ### operators -/
inductive Bop where
  | add | sub | mul | fdiv | mod | pow
inductive Cop where
  | eq | ne | lt | le | gt | ge | in_ | nin | isN | notN
inductive Ty where
  | int | bool | str | tuple
inductive B1 where
  | tuple | list | all | sum | abs | int | len | sorted | str | tpk | sortp
inductive B2 where
  | min | max
inductive M1 where
  | join | count | index | split

abbrev B64 : Int := 18446744073709551616

def binD : Bop → D → D → Res D
  | .add, .int i, .int j => .ok (.int (i + j))
  | .add, .str a, .str b => if a.length + b.length ≤ SL then .ok (.str (a ++ b)) else .stuck
  | .add, .tup a, .tup b => if a.length + b.length ≤ SL then .ok (.tup (a ++ b)) else .stuck
  | .add, .lst a, .lst b => if a.length + b.length ≤ SL then .ok (.lst (a ++ b)) else .stuck
  | .sub, .int i, .int j => .ok (.int (i - j))
  | .mul, .int i, .int j => if ((-B64 < i ∧ i < B64) ∨ (-B64 < j ∧ j < B64)) ∨ (i.natAbs < 2 ^ 400 ∧ j.natAbs < 2 ^ 400) then .ok (.int (i * j)) else .stuck
  | .mul, .str a, .int k => if a.length ≤ 16 ∧ 0 ≤ k ∧ k ≤ 1000 then .ok (.str (List.replicate k.toNat a).flatten) else .stuck
  | .mul, .tup a, .int k => if a ≠ [] ∧ 2 ≤ k ∧ k ≤ 1000 ∧ a.length ≤ 1000 then .ok (.tup (List.replicate k.toNat a).flatten) else .stuck
  | .fdiv, .int i, .int j => if 0 < j ∧ j.natAbs < 2 ^ 400 then .ok (.int (i / j)) else .stuck
  | .mod, .int i, .int j => if 0 < j then .ok (.int (i % j)) else .stuck
  | .pow, .int i, .int j => if 0 ≤ j ∧ j ≤ 1000000 ∧ i.natAbs < 18446744073709551616 then .ok (.int (i ^ j.toNat)) else .stuck
  | _, _, _ => .stuck

def inD (x : D) (l : List D) : Bool := l.any fun z => D.eqv z x

def cmpD : Cop → D → D → Res D
  | .eq, x, y => if x.fit 60 && y.fit 60 then .ok (.bl (D.eqv x y)) else .stuck
  | .ne, x, y => if x.fit 60 && y.fit 60 then .ok (.bl (!D.eqv x y)) else .stuck
  | .lt, .int i, .int j => .ok (.bl (decide (i < j)))
  | .le, .int i, .int j => .ok (.bl (decide (i ≤ j)))
  | .gt, .int i, .int j => .ok (.bl (decide (j < i)))
  | .ge, .int i, .int j => .ok (.bl (decide (j ≤ i)))
  | .in_, .str [c], .str z => .ok (.bl (decide (c ∈ z)))
  | .nin, .str [c], .str z => .ok (.bl (!decide (c ∈ z)))
  | .in_, x, .tup l => if x.flat && l.all D.flat then .ok (.bl (inD x l)) else .stuck
  | .nin, x, .tup l => if x.flat && l.all D.flat then .ok (.bl (!inD x l)) else .stuck
  | .in_, x, .lst l => if x.fit 59 && D.fits 59 l then .ok (.bl (inD x l)) else .stuck
  | .nin, x, .lst l => if x.fit 59 && D.fits 59 l then .ok (.bl (!inD x l)) else .stuck
  | .isN, .non, .non => .ok (.bl true)
  | .isN, _, .non => .ok (.bl false)
  | .notN, .non, .non => .ok (.bl false)
  | .notN, _, .non => .ok (.bl true)
  | _, _, _ => .stuck

def ixD : D → D → Res D
  | .lst l, .int i => match ati l i with | some d => .ok d | none => .stuck
  | .tup l, .int i => match ati l i with | some d => .ok d | none => .stuck
  | .str l, .int i => match ati l i with | some c => .ok (.str [c]) | none => .stuck
  | _, _ => .stuck

/-- the dice, too -/
def ixS (s : S) : D → D → Res D
  | .dice, .int i => if i = 0 then .ok (.int s.dn) else if i = 1 then .ok (.int s.dk) else .stuck
  | x, y => ixD x y

def slD : D → Option Int → Option Int → Res D
  | .lst l, lo, hi => .ok (.lst (cut l lo hi))
  | .tup l, lo, hi => .ok (.tup (cut l lo hi))
  | .str l, lo, hi => .ok (.str (cut l lo hi))
  | _, _, _ => .stuck

/-- a slice that is a new tuple -/
def slkD : D → Option Int → Option Int → Res D
  | .tup l, lo, hi => if six l.length 0 lo = 0 ∧ six l.length l.length hi = l.length then .stuck else .ok (.tpk (cut l lo hi))
  | _, _, _ => .stuck
/-- how often x is in a tuple -/
def cntD : D → D → Res D
  | .tpk l, x => if x.fit 59 && D.fits 59 l then .ok (.int ((l.countP fun z => D.eqv z x : Nat) : Int)) else .stuck
  | _, _ => .stuck

def revD : D → Res D
  | .lst l => .ok (.lst l.reverse)
  | .str l => .ok (.str l.reverse)
  | _ => .stuck

def isiD : Ty → D → Res D
  | _, .dic _ _ => .stuck
  | _, .dice => .stuck
  | _, .tpk _ => .stuck
  | _, .dii _ _ => .stuck
  | .int, .int _ => .ok (.bl true)
  | .int, .bl _ => .ok (.bl true)
  | .bool, .bl _ => .ok (.bl true)
  | .str, .str _ => .ok (.bl true)
  | .tuple, .tup _ => .ok (.bl true)
  | _, _ => .ok (.bl false)

def bools : List D → Option (List Bool)
  | [] => some []
  | .bl b :: r => (bools r).map (b :: ·)
  | _ :: _ => none
def intsD : List D → Option (List Int)
  | [] => some []
  | .int b :: r => (intsD r).map (b :: ·)
  | _ :: _ => none
def strsD : List D → Option (List Tx)
  | [] => some []
  | .str b :: r => (strsD r).map (b :: ·)
  | _ :: _ => none

/-- the text of a small number -/
def digs (i : Int) : Tx := [48 + i.toNat]

def insI (x : Int) : List Int → List Int
  | [] => [x]
  | y :: r => if x ≤ y then x :: y :: r else y :: insI x r
def sortI : List Int → List Int
  | [] => []
  | x :: r => insI x (sortI r)

/-- texts, rows of texts in Python's order -/
def ltT : Tx → Tx → Bool
  | [], [] => false
  | [], _ :: _ => true
  | _ :: _, [] => false
  | x :: a, y :: b => if x = y then ltT a b else decide (x < y)
def ltB : List Tx → List Tx → Bool
  | [], [] => false
  | [], _ :: _ => true
  | _ :: _, [] => false
  | x :: a, y :: b => if x = y then ltB a b else ltT x y
def leB (a b : List Tx) : Bool := !ltB b a
def txsD : List D → Option (List Tx)
  | [] => some []
  | .str x :: r => (txsD r).map (x :: ·)
  | _ :: _ => none
def brdsD : List D → Option (List (List Tx))
  | [] => some []
  | .tup (x :: l) :: r => match txsD (x :: l), brdsD r with | some b, some bs => some (b :: bs) | _, _ => none
  | _ :: _ => none
def brdD (b : List Tx) : D := .tup (b.map .str)
def sortB (l : List (List Tx)) : List (List Tx) := l.mergeSort leB
/-- pairs of numbers in Python's order -/
def ltP (x y : Int × Int) : Bool := if x.1 = y.1 then decide (x.2 < y.2) else decide (x.1 < y.1)
def leP (x y : Int × Int) : Bool := !ltP y x
def prD (p : Int × Int) : D := .tup [.int p.1, .int p.2]
def prsD : List D → Option (List (Int × Int))
  | [] => some []
  | .tup [.int a, .int b] :: r => (prsD r).map ((a, b) :: ·)
  | _ :: _ => none
def sortP (l : List (Int × Int)) : List (Int × Int) := l.mergeSort leP

def b1D : B1 → D → Res D
  | .tuple, .lst l => .ok (.tup l)
  | .tuple, .tup l => .ok (.tup l)
  | .list, .lst l => .ok (.lst l)
  | .list, .tup l => .ok (.lst l)
  | .all, .lst l => match bools l with | some bs => .ok (.bl (bs.all id)) | none => .stuck
  | .sum, .lst l => match intsD l with | some ns => .ok (.int ns.sum) | none => .stuck
  | .sum, .tup l => match intsD l with | some ns => .ok (.int ns.sum) | none => .stuck
  | .abs, .int i => .ok (.int (if i < 0 then -i else i))
  | .int, .int i => .ok (.int i)
  | .int, .bl b => .ok (.int (if b then 1 else 0))
  | .int, .str [c] => if 48 ≤ c ∧ c ≤ 57 then .ok (.int ((c - 48 : Nat) : Int)) else .stuck
  | .len, .lst l => .ok (.int l.length)
  | .len, .tup l => .ok (.int l.length)
  | .len, .str l => .ok (.int l.length)
  | .sorted, .lst l => match intsD l with | some ns => .ok (.lst ((sortI ns).map .int)) | none => (match brdsD l with | some bs => .ok (.lst ((sortB bs).map brdD)) | none => .stuck)
  | .sorted, .tup l => match intsD l with | some ns => .ok (.lst ((sortI ns).map .int)) | none => .stuck
  | .str, .int i => if 0 ≤ i ∧ i ≤ 9 then .ok (.str (digs i)) else .stuck
  | .tpk, .lst l => .ok (.tpk l)
  | .sortp, .lst l => match prsD l with | some ps => .ok (.lst ((sortP ps).map prD)) | none => .stuck
  | _, _ => .stuck

def b2D : B2 → D → D → Res D
  | .min, .int i, .int j => .ok (.int (if j < i then j else i))
  | .max, .int i, .int j => .ok (.int (if j > i then j else i))
  | _, _, _ => .stuck

def joinT (sep : Tx) : List Tx → Tx
  | [] => []
  | [a] => a
  | a :: r => a ++ sep ++ joinT sep r

/-- where c stands first -/
def fidx (c : Nat) : List Nat → Option Nat
  | [] => none
  | a :: r => if a = c then some 0 else (fidx c r).map (· + 1)

/-- the parts between the signs c -/
def splitT (c : Nat) : Tx → Tx → List Tx
  | acc, [] => [acc]
  | acc, a :: r => if a = c then acc :: splitT c [] r else splitT c (acc ++ [a]) r

def m1D : M1 → D → D → Res D
  | .join, .str s, .lst l => match strsD l with
    | some xs => if (xs.map List.length).sum + xs.length * s.length ≤ SL then .ok (.str (joinT s xs)) else .stuck
    | none => .stuck
  | .join, .str s, .tup l => match strsD l with
    | some xs => if (xs.map List.length).sum + xs.length * s.length ≤ SL then .ok (.str (joinT s xs)) else .stuck
    | none => .stuck
  | .count, .str s, .str [c] => .ok (.int (s.count c))
  | .index, .str s, .str [c] => if s = [82, 76, 70, 66] ∨ s = [35, 46] ∨ s = [94, 62, 118, 60] then (match fidx c s with | some k => .ok (.int (k : Nat)) | none => .stuck) else .stuck
  | .split, .str s, .str [c] => if s.length + 2 ≤ SL then .ok (.lst ((splitT c [] s).map .str)) else .stuck
  | _, _, _ => .stuck

def itD : D → Res (List D)
  | .lst l => .ok l
  | .tup l => .ok l
  | .str l => .ok (l.map fun c => .str [c])
  | _ => .stuck

def rngL (lo : Int) (n : Nat) : List D := (List.range n).map fun i => .int (lo + (i : Nat))
def rngD : D → D → Res (List D)
  | .int a, .int b => if -1000000000 ≤ a ∧ a ≤ 1000000000 ∧ -1000000000 ≤ b ∧ b ≤ 1000000000 ∧ (b - a).toNat ≤ SL then .ok (rngL a (b - a).toNat) else .stuck
  | _, _ => .stuck
def enumL : Nat → List D → List D
  | _, [] => []
  | n, d :: r => .tup [.int (n : Nat), d] :: enumL (n + 1) r
def enumD : D → Res (List D)
  | .lst l => .ok (enumL 0 l)
  | .str l => .ok (enumL 0 (l.map fun c => .str [c]))
  | _ => .stuck

/-! ### the language -/
mutual
inductive Tg where
  | nm (i : Nat)
  | tup (ts : Tgs)
inductive Tgs where
  | nil
  | cons (t : Tg) (r : Tgs)
end
mutual
inductive E where
  | var (i : Nat)
  | int (n : Int)
  | bl (b : Bool)
  | non
  | str (l : Tx)
  | gstr (x : Nat) (l : Tx)
  | isi (a : E) (t : Ty)
  | bin (op : Bop) (a b : E)
  | neg (a : E)
  | not (a : E)
  | cmp (op : Cop) (a b : E)
  | chain (op op' : Cop) (a b c : E)
  | and (es : Es)
  | or (es : Es)
  | ife (t a b : E)
  | tup (es : Es)
  | lst (es : Es)
  | ix (a b : E)
  | ixo (i : Nat) (b : E)
  | ixg (x : Nat) (tab : List (Tx × D)) (b : E)
  | sl (a : E) (lo hi : Oe)
  | rev (a : E)
  | call (f : Nat) (F : FSem) (es : Es)
  | leno (i : Nat)
  | b1 (f : B1) (a : E)
  | b2 (f : B2) (a b : E)
  | m1 (m : M1) (o a : E)
  | lc (tg : Tg) (it : It) (elt : E)
  | lcf (tg : Tg) (it : It) (cond elt : E)
  | told (e : E)
  | callS (f : Nat) (es : Es)
  | dget (i : Nat) (k d : E)
  | din (i : Nat) (k : E)
  | dnin (i : Nat) (k : E)
  | dix (i : Nat) (k : E)
  | slk (a : E) (lo hi : Oe)
  | cntk (o a : E)
  | iget (i : Nat) (k d : E)
  | iix (i : Nat) (k : E)
  | snin (i : Nat) (k : E)
  | six (i : Nat) (k : E)
  | slen (i : Nat)
  | slist (i : Nat)
  | ilist (i : Nat)
inductive Es where
  | nil
  | cons (e : E) (r : Es)
inductive Oe where
  | none
  | some (e : E)
inductive It where
  | seq (e : E)
  | rng (e : E)
  | rng2 (a b : E)
  | enum (e : E)
  | ikeys (i : Nat)
end

/-! ### the evaluator -/
def S.get (s : S) (i : Nat) : Sl := s.env.getD i .un
def S.put (s : S) (i : Nat) (x : Sl) : S := { s with env := s.env.set i x }
/-! dicts: keys are cells -/
def keyD : D → Option (Int × Int)
  | .tup [.int a, .int b] => some (a, b)
  | _ => none
def dfind (kvs : List ((Int × Int) × D)) (k : Int × Int) : Option D := (kvs.find? fun kv => decide (kv.1 = k)).map (·.2)
def dput (kvs : List ((Int × Int) × D)) (k : Int × Int) (v : D) : List ((Int × Int) × D) :=
  if (kvs.any fun kv => decide (kv.1 = k)) = true then kvs.map (fun kv => if kv.1 = k then (kv.1, v) else kv) else kvs ++ [(k, v)]
/-! dicts of numbers; dicts of nested tuples -/
def ifind (kvs : List (Int × D)) (k : Int) : Option D := (kvs.find? fun kv => decide (kv.1 = k)).map (·.2)
def iputL (kvs : List (Int × D)) (k : Int) (v : D) : List (Int × D) :=
  if (kvs.any fun kv => decide (kv.1 = k)) = true then kvs.map (fun kv => if kv.1 = k then (kv.1, v) else kv) else kvs ++ [(k, v)]
def icur (s : S) (i : Nat) : Option (List (Int × D)) := match s.get i with
  | .oi kvs => some kvs
  | .val (.dii ks vs) => some (ks.zip vs)
  | _ => none
mutual
def D.kf : Nat → D → Bool
  | _, .int _ => true
  | _, .str _ => true
  | n + 1, .tup l => D.kfs n l
  | _, _ => false
def D.kfs : Nat → List D → Bool
  | _, [] => true
  | n, x :: xs => D.kf n x && D.kfs n xs
end
/-- a key that is a tuple -/
def skey : D → Bool
  | .tup l => D.kfs 7 l
  | _ => false
def sfind (kvs : List (D × D)) (k : D) : Option D := (kvs.find? fun kv => D.eqv kv.1 k).map (·.2)
def sputL (kvs : List (D × D)) (k v : D) : List (D × D) :=
  if (sfind kvs k).isSome = true then kvs.map (fun kv => if D.eqv kv.1 k = true then (kv.1, v) else kv) else kvs ++ [(k, v)]
def dcur (s : S) (i : Nat) : Option (List ((Int × Int) × D)) := match s.get i with
  | .od kvs => some kvs
  | .val (.dic ks vs) => some (ks.zip vs)
  | _ => none

mutual
def bindT : Tg → D → S → Option S
  | .nm i, d, s => some (s.put i (.val d))
  | .tup ts, .tup l, s => bindTs ts l s
  | .tup _, _, _ => none
def bindTs : Tgs → List D → S → Option S
  | .nil, [], s => some s
  | .cons t r, d :: l, s => (bindT t d s).bind fun s' => bindTs r l s'
  | _, _, _ => none
end

def evVar (i : Nat) (s : S) : Res (D × S) :=
  match s.get i with
  | .val d => .ok (d, s)
  | .ol l => if s.lk then .stuck else .ok (.lst l, s.put i (.val (.lst l)))
  | .od kvs => if s.lk then .stuck else .ok (.dic (kvs.map (·.1)) (kvs.map (·.2)), s.put i (.val (.dic (kvs.map (·.1)) (kvs.map (·.2)))))
  | .oi _ => .stuck
  | .os _ => .stuck
  | .un => .stuck

mutual
def Tg.slots : Tg → List Nat
  | .nm i => [i]
  | .tup ts => Tgs.slots ts
def Tgs.slots : Tgs → List Nat
  | .nil => []
  | .cons t r => Tg.slots t ++ Tgs.slots r
end
def wipeL (l : List Sl) : List Nat → List Sl
  | [] => l
  | v :: vs => (wipeL l vs).set v .un
def Res.nox {α : Type} : Res α → Res α
  | .ok a => .ok a
  | _ => .stuck

/-- the turns of a comprehension: b is the state ahead; n, k the dice -/
def lcL (tg : Tg) (c f : S → Res (D × S)) (b : S) : List D → Int → Int → List D → Res (List D × Int × Int)
  | [], n, k, acc => .ok (acc, n, k)
  | d :: r, n, k, acc => match bindT tg d ⟨wipeL b.env tg.slots, n, k, true⟩ with
    | none => .stuck
    | some s1 => (c s1).nox.bind fun (t, s2) => match t with
      | .bl true => (f s2).nox.bind fun (y, s3) => lcL tg c f b r s3.dn s3.dk (acc ++ [y])
      | .bl false => lcL tg c f b r s2.dn s2.dk acc
      | _ => .stuck

/-- the name of an exception's class -/
def excName : Nat → Tx
  | 0 => [73, 110, 118, 97, 108, 105, 100, 66, 111, 97, 114, 100]
  | 1 => [73, 110, 118, 97, 108, 105, 100, 82, 117, 108, 101]
  | 2 => [73, 110, 118, 97, 108, 105, 100, 83, 116, 97, 116, 101]
  | 3 => [73, 110, 118, 97, 108, 105, 100, 67, 101, 108, 108]
  | 4 => [73, 110, 118, 97, 108, 105, 100, 76, 111, 111, 107]
  | 5 => [73, 110, 118, 97, 108, 105, 100, 84, 105, 99, 107, 115]
  | 6 => [73, 110, 118, 97, 108, 105, 100, 83, 105, 122, 101]
  | 7 => [73, 110, 118, 97, 108, 105, 100, 78, 117, 109, 98, 101, 114]
  | 8 => [73, 110, 118, 97, 108, 105, 100, 84, 117, 114, 110, 115]
  | 9 => [73, 110, 118, 97, 108, 105, 100, 84, 101, 120, 116]
  | _ => [78, 111, 116, 104, 105, 110, 103, 84, 111, 85, 110, 100, 111]
def errD (c : Nat) : D := .tup [.str [101, 114, 114, 111, 114], .str (excName c)]

def tabGet : List (Tx × D) → Tx → Option D
  | [], _ => none
  | (k, v) :: r, x => if k = x then some v else tabGet r x

mutual
def ev : E → S → Res (D × S)
  | .var i, s => evVar i s
  | .int n, s => .ok (.int n, s)
  | .bl b, s => .ok (.bl b, s)
  | .non, s => .ok (.non, s)
  | .str l, s => .ok (.str l, s)
  | .gstr _ l, s => .ok (.str l, s)
  | .isi a t, s => (ev a s).bind fun (x, s) => (isiD t x).bind fun z => .ok (z, s)
  | .bin op a b, s => (ev a s).bind fun (x, s) => (ev b s).bind fun (y, s) => (binD op x y).bind fun z => .ok (z, s)
  | .neg a, s => (ev a s).bind fun (x, s) => match x with | .int i => .ok (.int (-i), s) | _ => .stuck
  | .not a, s => (ev a s).bind fun (x, s) => match x with | .bl b => .ok (.bl (!b), s) | _ => .stuck
  | .cmp op a b, s => (ev a s).bind fun (x, s) => (ev b s).bind fun (y, s) => (cmpD op x y).bind fun z => .ok (z, s)
  | .chain op op' a b c, s => (ev a s).bind fun (x, s) => (ev b s).bind fun (y, s) => (cmpD op x y).bind fun z =>
    match z with
    | .bl true => (ev c s).bind fun (w, s) => (cmpD op' y w).bind fun z => .ok (z, s)
    | .bl false => .ok (.bl false, s)
    | _ => .stuck
  | .and es, s => evAnd es s
  | .or es, s => evOr es s
  | .ife t a b, s => (ev t s).bind fun (x, s) => match x with | .bl true => ev a s | .bl false => ev b s | _ => .stuck
  | .tup es, s => (evs es s).bind fun (xs, s) => if xs.length ≤ SL then .ok (.tup xs, s) else .stuck
  | .lst es, s => (evs es s).bind fun (xs, s) => if xs.length ≤ SL then .ok (.lst xs, s) else .stuck
  | .ix a b, s => (ev a s).bind fun (x, s) => (ev b s).bind fun (y, s) => (ixS s x y).bind fun z => .ok (z, s)
  | .ixo i b, s => match s.get i with
    | .ol _ => (ev b s).bind fun (y, s) => (match s.get i with | .ol l => (ixD (.lst l) y).bind fun z => .ok (z, s) | _ => .stuck)
    | _ => .stuck
  | .ixg _ tab b, s => (ev b s).bind fun (y, s) => match y with
    | .str x => (match tabGet tab x with | some d => .ok (d, s) | none => .stuck)
    | _ => .stuck
  | .sl a lo hi, s => (ev a s).bind fun (x, s) => (evo lo s).bind fun (l, s) => (evo hi s).bind fun (h, s) => (slD x l h).bind fun z => .ok (z, s)
  | .rev a, s => (ev a s).bind fun (x, s) => (revD x).bind fun z => .ok (z, s)
  | .call _ F es, s => (evs es s).bind fun (xs, s) => (F xs s.dn s.dk).bind fun (d, n, k) => .ok (d, { s with dn := n, dk := k })
  | .leno i, s => match s.get i with | .ol l => .ok (.int l.length, s) | _ => .stuck
  | .b1 f a, s => (ev a s).bind fun (x, s) => (b1D f x).bind fun z => .ok (z, s)
  | .b2 f a b, s => (ev a s).bind fun (x, s) => (ev b s).bind fun (y, s) => (b2D f x y).bind fun z => .ok (z, s)
  | .m1 m o a, s => (ev o s).bind fun (x, s) => match x with
    | .str l => (ev a s).bind fun (y, s) => (m1D m (.str l) y).bind fun z => .ok (z, s)
    | _ => .stuck
  | .lc tg it elt, s => (evi it s).bind fun (ds, s) => (lcL tg (fun t => .ok (.bl true, t)) (ev elt) s ds s.dn s.dk []).bind fun (l, n, k) => .ok (.lst l, { s with dn := n, dk := k })
  | .lcf tg it c elt, s => (evi it s).bind fun (ds, s) => (lcL tg (ev c) (ev elt) s ds s.dn s.dk []).bind fun (l, n, k) => .ok (.lst l, { s with dn := n, dk := k })
  | .told e, s => match ev e { s with lk := true } with
    | .ok (d, t) => .ok (d, { s with dn := t.dn, dk := t.dk })
    | .exc c n k => .ok (errD c, { s with dn := n, dk := k })
    | .stuck => .stuck
  | .callS _ _, _ => .stuck
  | .dget i k d, s => match dcur s i with
    | some _ => (ev k s).bind fun (y, s) => (ev d s).bind fun (z, s) => (match dcur s i, keyD y with | some kvs, some kk => .ok ((dfind kvs kk).getD z, s) | _, _ => .stuck)
    | none => .stuck
  | .din i k, s => (ev k s).bind fun (y, s) => (match dcur s i, keyD y with | some kvs, some kk => .ok (.bl (dfind kvs kk).isSome, s) | _, _ => .stuck)
  | .dnin i k, s => (ev k s).bind fun (y, s) => (match dcur s i, keyD y with | some kvs, some kk => .ok (.bl (!(dfind kvs kk).isSome), s) | _, _ => .stuck)
  | .dix i k, s => match dcur s i with
    | some _ => (ev k s).bind fun (y, s) => (match dcur s i, keyD y with | some kvs, some kk => (match dfind kvs kk with | some v => .ok (v, s) | none => .stuck) | _, _ => .stuck)
    | none => .stuck
  | .slk a lo hi, s => (ev a s).bind fun (x, s) => (evo lo s).bind fun (l, s) => (evo hi s).bind fun (h, s) => (slkD x l h).bind fun z => .ok (z, s)
  | .cntk o a, s => (ev o s).bind fun (x, s) => match x with
    | .tpk l => (ev a s).bind fun (y, s) => (cntD (.tpk l) y).bind fun z => .ok (z, s)
    | _ => .stuck
  | .iget i k d, s => match icur s i with
    | some _ => (ev k s).bind fun (y, s) => (ev d s).bind fun (z, s) => (match icur s i, y with | some kvs, .int j => .ok ((ifind kvs j).getD z, s) | _, _ => .stuck)
    | none => .stuck
  | .iix i k, s => match icur s i with
    | some _ => (ev k s).bind fun (y, s) => (match icur s i, y with | some kvs, .int j => (match ifind kvs j with | some v => .ok (v, s) | none => .stuck) | _, _ => .stuck)
    | none => .stuck
  | .snin i k, s => (ev k s).bind fun (y, s) => (match s.get i with | .os kvs => if skey y = true then .ok (.bl (!(sfind kvs y).isSome), s) else .stuck | _ => .stuck)
  | .six i k, s => match s.get i with
    | .os _ => (ev k s).bind fun (y, s) => (match s.get i with | .os kvs => if skey y = true then (match sfind kvs y with | some v => .ok (v, s) | none => .stuck) else .stuck | _ => .stuck)
    | _ => .stuck
  | .slen i, s => match s.get i with | .os kvs => .ok (.int kvs.length, s) | _ => .stuck
  | .slist i, s => match s.get i with | .os kvs => .ok (.lst (kvs.map (·.1)), s) | _ => .stuck
  | .ilist i, s => match s.get i with | .oi kvs => .ok (.lst (kvs.map fun kv => .int kv.1), s) | _ => .stuck
def evs : Es → S → Res (List D × S)
  | .nil, s => .ok ([], s)
  | .cons e r, s => (ev e s).bind fun (x, s) => (evs r s).bind fun (xs, s) => .ok (x :: xs, s)
def evAnd : Es → S → Res (D × S)
  | .nil, _ => .stuck
  | .cons e .nil, s => ev e s
  | .cons e (.cons e' r), s => (ev e s).bind fun (x, s) => match x with | .bl true => evAnd (.cons e' r) s | .bl false => .ok (.bl false, s) | _ => .stuck
def evOr : Es → S → Res (D × S)
  | .nil, _ => .stuck
  | .cons e .nil, s => ev e s
  | .cons e (.cons e' r), s => (ev e s).bind fun (x, s) => match x with | .bl false => evOr (.cons e' r) s | .bl true => .ok (.bl true, s) | _ => .stuck
def evo : Oe → S → Res (Option Int × S)
  | .none, s => .ok (none, s)
  | .some e, s => (ev e s).bind fun (x, s) => match x with | .int i => .ok (some i, s) | _ => .stuck
def evi : It → S → Res (List D × S)
  | .seq e, s => (ev e s).bind fun (x, s) => (itD x).bind fun l => .ok (l, s)
  | .rng e, s => (ev e s).bind fun (x, s) => (rngD (.int 0) x).bind fun l => .ok (l, s)
  | .rng2 a b, s => (ev a s).bind fun (x, s) => (ev b s).bind fun (y, s) => (rngD x y).bind fun l => .ok (l, s)
  | .enum e, s => (ev e s).bind fun (x, s) => (enumD x).bind fun l => .ok (l, s)
  | .ikeys i, s => match s.get i with
    | .oi kvs => if s.lk then .stuck else .ok (kvs.map (fun kv => .int kv.1), s.put i (.val (.dii (kvs.map (·.1)) (kvs.map (·.2)))))
    | _ => .stuck
end

/-! ### statements -/
inductive Ri where
  | ex (e : E)
  | nl (es : Es)
  | nd
  | ni
  | ns
mutual
inductive Sm where
  | set (i : Nat) (e : E)
  | setLc (i : Nat) (tg : Tg) (it : It) (elt : E)
  | setLcf (i : Nat) (tg : Tg) (it : It) (c elt : E)
  | own (i : Nat) (es : Es)
  | asg (tg : Tg) (e : E)
  | par (i j : Nat) (a b : Ri)
  | app (i : Nat) (e : E)
  | dset (i : Nat) (j : Nat) (e : E)
  | expr (e : E)
  | ret (e : E)
  | iff (t : E) (a b : Ss)
  | rais (c : Nat)
  | whil (fuel : Nat) (t : E) (b : Ss)
  | for_ (tg : Tg) (it : It) (b : Ss)
  | dnew (i : Nat)
  | dput (i : Nat) (k e : E)
  | iput (i : Nat) (k e : E)
  | sput (i : Nat) (k e : E)
  | any
  | par3 (i j l : Nat) (a b c : E)
  | nsi (i j : Nat)
  | nix (i j : Nat) (n : Int)
  | sputp (i : Nat) (k : E) (j : Nat) (a b : E)
  | iputp (i : Nat) (k : E) (j : Nat) (a b : E)
inductive Ss where
  | nil
  | cons (s : Sm) (r : Ss)
end

inductive RS where
  | nx (s : S)
  | rt (d : D) (s : S)
  | ex (c : Nat) (n k : Int)
  | stuck

def Res.then {α : Type} : Res α → (α → RS) → RS
  | .ok a, f => f a
  | .exc c n k, _ => .ex c n k
  | .stuck, _ => .stuck
theorem then_ok {α : Type} (a : α) (f : α → RS) : (Res.ok a).then f = f a := rfl
def RS.then : RS → (S → RS) → RS
  | .nx s, f => f s
  | r, _ => r

def forL (f : D → S → RS) : List D → S → RS
  | [], s => .nx s
  | d :: r, s => (f d s).then fun s' => forL f r s'
def whL (t : S → Res (D × S)) (b : S → RS) : Nat → S → RS
  | 0, _ => .stuck
  | n + 1, s => (t s).then fun (x, s') => match x with
    | .bl true => (b s').then fun s'' => whL t b n s''
    | .bl false => .nx s'
    | _ => .stuck

def evRi : Ri → S → Res (Sl × S)
  | .ex e, s => (ev e s).bind fun (x, s) => .ok (.val x, s)
  | .nl es, s => (evs es s).bind fun (xs, s) => if xs.length ≤ SL then .ok (.ol xs, s) else .stuck
  | .nd, s => .ok (.od [], s)
  | .ni, s => .ok (.oi [], s)
  | .ns, s => .ok (.os [], s)

mutual
def evS : Sm → S → RS
  | .set i e, s => (ev e s).then fun (x, s) => .nx (s.put i (.val x))
  | .setLc i tg it elt, s => (ev (.lc tg it elt) s).then fun (x, s) => .nx (s.put i (.val x))
  | .setLcf i tg it c elt, s => (ev (.lcf tg it c elt) s).then fun (x, s) => .nx (s.put i (.val x))
  | .own i es, s => (evs es s).then fun (xs, s) => if xs.length ≤ SL then .nx (s.put i (.ol xs)) else .stuck
  | .asg tg e, s => (ev e s).then fun (x, s) => match bindT tg x s with | some s => .nx s | none => .stuck
  | .par i j a b, s => (evRi a s).then fun (x, s) => (evRi b s).then fun (y, s) => .nx ((s.put i x).put j y)
  | .app i e, s => match s.get i with
    | .ol _ => (ev e s).then fun (x, s) => (match s.get i with
      | .ol l => if l.length < SL then .nx (s.put i (.ol (l ++ [x]))) else .stuck
      | _ => .stuck)
    | _ => .stuck
  | .dset i j e, s => (ev e s).then fun (x, s) => (match s.get i, x with
    | .val .dice, .int n => if j = 0 then .nx { s with dn := n } else if j = 1 then .nx { s with dk := n } else .stuck
    | _, _ => .stuck)
  | .expr e, s => (ev e s).then fun (_, s) => .nx s
  | .ret e, s => (ev e s).then fun (x, s) => .rt x s
  | .iff t a b, s => (ev t s).then fun (x, s) => match x with | .bl true => evSs a s | .bl false => evSs b s | _ => .stuck
  | .rais c, s => .ex c s.dn s.dk
  | .whil n t b, s => whL (ev t) (evSs b) n s
  | .for_ tg it b, s => (evi it s).then fun (ds, s) => forL (fun d s => match bindT tg d s with | some s => evSs b s | none => .stuck) ds s
  | .dnew i, s => .nx (s.put i (.od []))
  | .dput i k e, s => (ev e s).then fun (v, s) => match s.get i with
    | .od _ => (ev k s).then fun (y, s) => (match s.get i, keyD y with
      | .od kvs, some kk => if kvs.length < SL then .nx (s.put i (.od (dput kvs kk v))) else .stuck
      | _, _ => .stuck)
    | _ => .stuck
  | .iput i k e, s => (ev e s).then fun (v, s) => match s.get i with
    | .oi _ => (ev k s).then fun (y, s) => (match s.get i, y with
      | .oi kvs, .int j => if kvs.length < SL then .nx (s.put i (.oi (iputL kvs j v))) else .stuck
      | _, _ => .stuck)
    | _ => .stuck
  | .sput i k e, s => (ev e s).then fun (v, s) => match s.get i with
    | .os _ => (ev k s).then fun (y, s) => (match s.get i with
      | .os kvs => if kvs.length < SL ∧ skey y = true then .nx (s.put i (.os (sputL kvs y v))) else .stuck
      | _ => .stuck)
    | _ => .stuck
  | .any, _ => .stuck
  | .sputp i k j a b, s => (ev a s).then fun (x, s) => (ev b s).then fun (y, s) => match s.get i with
    | .os _ => (ev k s).then fun (z, s) => (match s.get i with
      | .os kvs => if kvs.length < SL ∧ skey z = true then .nx ((s.put i (.os (sputL kvs z x))).put j (.val y)) else .stuck
      | _ => .stuck)
    | _ => .stuck
  | .iputp i k j a b, s => (ev a s).then fun (x, s) => (ev b s).then fun (y, s) => match s.get i with
    | .oi _ => (ev k s).then fun (z, s) => (match s.get i, z with
      | .oi kvs, .int m => if kvs.length < SL then .nx ((s.put i (.oi (iputL kvs m x))).put j (.val y)) else .stuck
      | _, _ => .stuck)
    | _ => .stuck
  | .nsi i j, s => .nx ((s.put i (.os [])).put j (.oi []))
  | .nix i j n, s => .nx ((s.put i (.oi [])).put j (.val (.int n)))
  | .par3 i j l a b c, s => (ev a s).then fun (x, s) => (ev b s).then fun (y, s) => (ev c s).then fun (z, s) => .nx (((s.put i (.val x)).put j (.val y)).put l (.val z))
def evSs : Ss → S → RS
  | .nil, s => .nx s
  | .cons a r, s => (evS a s).then fun s' => evSs r s'
end

/-- a def of so many names -/
def run (n : Nat) (b : Ss) : FSem := fun xs dn dk =>
  match evSs b ⟨xs.map .val ++ List.replicate (n - xs.length) .un, dn, dk, false⟩ with
  | .rt d s => .ok (d, s.dn, s.dk)
  | .nx s => .ok (.non, s.dn, s.dk)
  | .ex c n k => .exc c n k
  | .stuck => .stuck

end Fw

set_option Elab.async false
set_option linter.all false
set_option autoImplicit false
set_option maxRecDepth 100000
set_option maxHeartbeats 2000000
/-! FwCnt: a new tuple whose object is known, and how often a thing is in it. -/
namespace Fw
open PySem L2
/-- a tuple whose object is known: it has no dict -/
def KnT (H : L2.Hp) (a : Addr) (xs : List V) : Prop := ∃ o : Obj, H a = some (.frz o (.tup xs)) ∧ o.dict = none
def rTupK (K : PySem.W.Frag) : List V → L2.Hp → VK → Prop := fun xs H Q => ∃ (p : Addr) (ys : List V), xs = [V.ref p] ∧ SqL K H p ys ∧ ∀ (l : Addr) (o : Obj), H l = none → o.dict = none → Q (.ref l) (upd H l (.frz o (.tup ys)))
def rSlK (K : PySem.W.Frag) : V → Option Int → Option Int → L2.Hp → VK → Prop := fun x lo hi H Q => ∃ a xs, x = .ref a ∧ SqT K H a xs ∧
  ¬ (HT.sIx xs.length 0 lo = 0 ∧ HT.sIx xs.length xs.length hi = xs.length) ∧ ∀ (p : Addr) (o : Obj), H p = none → o.dict = none → Q (.ref p) (upd H p (.frz o (.tup (cutV xs lo hi))))
def rCntM (K : PySem.W.Frag) : V → List V → L2.Hp → VK → Prop := fun x xs H Q => ∃ (y : V) (d : PyData) (ds : List PyData), xs = [y] ∧ Dp K H x (.tuple ds) ∧ Dp K H y d ∧ SeqAt.shaped (.tuple ds) = true ∧ SeqAt.shaped d = true ∧ Q (.int ((ds.countP fun z => PyData.eqv z d : Nat) : Int)) H
def tCntK (K : PySem.W.Frag) (to : TE) (ta : TA) : TE := fun σ H Q => to σ H fun x H1 => (∃ a xs, x = .ref a ∧ KnT H1 a xs) ∧ ta σ H1 fun ys H2 => rCntM K x ys H2 Q
section
open PySem.Spec PyProof.Rows HT
variable {X : Cx}
theorem call_tupK : CallR X (.type "tuple") (rTupK X.K) := by
  intro pins s σ H xs us Q I r h
  obtain ⟨p, ys, rfl, hq, q⟩ := h
  obtain ⟨u, rfl, rx⟩ := vals1 r
  cases rx
  obtain ⟨its, r', pl, hz⟩ := I.list hq
  have hlen := r'.length
  refine call_tuple_list pl.isList (fun h' kp => ?_) (by simp only [List.size_toArray] <;> omega)
  have I1 : Inv X pins σ H { s with heap := h' } := I.kept (t' := s.toks) kp
  have I2 : Inv X pins σ (upd H h'.objs.size (.frz { cls := .type "tuple", data := .seq its.toArray } (.tup ys))) { s with heap := h'.push { cls := .type "tuple", data := .seq its.toArray } } :=
    I1.laid (t' := s.toks) (fun b o e => Heap.get?_push_of_some _ e) (Nat.le_refl _) ⟨Heap.get?_push_size _ rfl, show ObjOk X.prog X.w _ _ _ (.tup ys) from ⟨hz, its, r', IsTup.new _ _⟩⟩
  exact ⟨.ref h'.objs.size, _, I2, rfl, q _ _ (I1.hok.fresh (Nat.le_refl _)) rfl⟩
theorem sl_tupK : SlR X (rSlK X.K) := by
  intro pins s σ H x v vl vu lo hi sl Q I rx hs pl pu h
  obtain ⟨a, xs, rfl, hx, hw, q⟩ := h
  cases rx
  obtain ⟨its, r, ht, hz⟩ := I.tuple hx
  have hlen : its.toArray.size = xs.length := by rw [List.size_toArray]; exact r.length.symm
  refine ⟨"tuple", _, PyProof.Rows.slot_tuple_getitem.lookup, ht.typeIs, ?_⟩
  refine HT.getItem_tuple_cut ht hs pl pu (by rw [hlen]; exact hw) ?_ (by rw [hlen]; exact hz)
  rw [hlen]
  refine ⟨.ref s.heap.objs.size, _, I.laid (t' := s.toks) (o := .frz _ (.tup (cutV xs lo hi))) (fun b ob q => Heap.get?_push_of_some _ q) (Nat.le_refl _) ⟨Heap.get?_push_size _ rfl, ?_⟩, rfl, q _ _ (I.hok.fresh (Nat.le_refl _)) rfl⟩
  exact ⟨Nat.le_trans (cutV_length xs lo hi) hz, _, (r.drop (HT.sIx xs.length 0 lo)).take (HT.sIx xs.length xs.length hi - HT.sIx xs.length 0 lo), IsTup.new _ _⟩
theorem mt_cnt (hu : X.A.units + 65 < cLine) : MtR X "tuple.count" (rCntM X.K) := by
  intro pins s σ H x xs v us Q I rx rxs h
  obtain ⟨y, d, ds, rfl, hl, hy, sl, sd, q⟩ := h
  cases rxs with
  | cons ry rt =>
    rename_i uy ut
    cases rt
    obtain ⟨bs, r1⟩ := Dp.reads I d y uy hy ry
    have hxs : PyData.canLayAll0 ds = true := SeqAt.canLay_of_shaped sl
    have hroom : X.A.units + 1 + min (PyData.depthAll ds) d.depth < cLine := room_in_shaped sd hu
    cases hl with
    | tup hs ha =>
      cases rx
      obtain ⟨its, rv, pl, hz⟩ := I.tuple hs
      obtain ⟨as, h4⟩ := Dp.readsAll I ds _ its ha rv
      exact SeqAt.count_tuple_data (vs := its.toArray) pl h4 r1 (PyData.plainAll_of_canLay0 _ hxs) (PyData.plain_of_canLay0 _ (SeqAt.canLay_of_shaped sd)) hroom ⟨.int _, H, I.tok _, ⟨_, rfl⟩, q⟩
theorem KnT.is {pins : List (Addr × Obj)} {σ : L2.St} {H : L2.Hp} {s : Shared} {a : Addr} {xs : List V} (I : L2.Inv X pins σ H s) (k : KnT H a xs) : s.TypeIs (.ref a) "tuple" ∧ ∀ b, Value.ref a = .ref b → ∃ ob, s.heap.get? b = some ob ∧ ob.dict = none := by
  obtain ⟨o, e, hd⟩ := k
  obtain ⟨e1, _, its, _, t⟩ := I.hok a _ e
  refine ⟨t.typeIs, fun b z => ?_⟩
  cases z
  exact ⟨o, e1, hd⟩
theorem pe_cntK {o e : Expr} {to : TE} {ta : TA} {apos cpos : Pos} (hu : X.A.units + 65 < cLine) (ho : PE X o to) (ha : PA X [e] ta)
    (hbase : attributeBase o "count" X.env (eval o X.env) = eval o X.env)
    (hfew : ((backTo cpos (starEach [e] X.env)).all (fun x => !x.1) && (backToKw cpos (keywordEach [] X.env)).all (fun x => x.1.isSome)
      && decide ([e].length + ([] : List Keyword).length + (if ([] : List Keyword).isEmpty then 0 else 1) < 30)) = true)
    (hline : (apos.endLine == cpos.line) = true) (hs : starEach [e] X.env = (false, eval e X.env) :: starEach [] X.env) (hplain : (backTo cpos (starEach [] X.env)).any (·.1) = false) :
    PE X (.Call (.Attribute o "count" apos) [e] [] cpos) (tCntK X.K to ta) := by
  refine ⟨fun pins s σ H Q I h => ?_⟩
  refine wpAny_Call_method_late hbase hfew hline rfl (thn (ho.run pins s σ H _ I h) fun v s1 ⟨x, H1, I1, r1, ⟨a, xs, ex, kn⟩, q1⟩ => ?_)
  subst ex
  cases r1
  obtain ⟨h1, h2⟩ := kn.is I1
  refine ⟨"tuple", "tuple.count", PySem.F.plainAttrs_tuple, PySem.F.slot_tuple_count, PySem.F.type_tuple_count, h1, h2, ?_⟩
  have hA := ha.run cpos pins s1 σ H1 _ I1 q1
  rw [hs] at hA ⊢
  refine Calls.callWith_builtin (by show (false || (backTo cpos (starEach [] X.env)).any (·.1)) = false; rw [hplain] <;> rfl) (Calls.evalArgs_plain ?_)
  exact thn hA fun us s2 ⟨vs, H2, I2, r2, q2⟩ => mt_cnt hu pins s2 σ H2 (.ref a) vs (.ref a) us Q I2 rfl r2 q2
end
end Fw

set_option Elab.async false
set_option linter.all false
set_option autoImplicit false
set_option maxRecDepth 100000
set_option maxHeartbeats 2000000
/-! FwDct: dicts whose keys are nested tuples of numbers and texts. -/
namespace Fw
open PySem L2
mutual
inductive NkH (H : L2.Hp) : NestedKey → V → Prop
  | int (i : Int) : NkH H (.num i) (.int i)
  | str (x : Str) : NkH H (.text x) (.str x)
  | tup {a : Addr} {xs : List V} {ks : List NestedKey} : Rd H a (.tup xs) → NkHs H ks xs → NkH H (.tup ks) (.ref a)
inductive NkHs (H : L2.Hp) : List NestedKey → List V → Prop
  | nil : NkHs H [] []
  | cons {k : NestedKey} {ks : List NestedKey} {v : V} {vs : List V} : NkH H k v → NkHs H ks vs → NkHs H (k :: ks) (v :: vs)
end
abbrev Sxs := List (NestedKey × Addr × V)
def PairS : Sxs → List (NestedKey × Addr × Value) → Prop := Paired fun p q => p.1 = q.1 ∧ p.2.1 = q.2.1 ∧ L2.RelV p.2.2 q.2.2
def SdP (w : World) (a : Addr) (xs : Sxs) (h : Heap) : Prop := xs.length ≤ sizeLine ∧ (a == sysModules) = false ∧ ∃ ys : List (NestedKey × Addr × Value), PairS xs ys ∧
  ∃ (o : Obj) (es : Array DictEntry) (ep : Nat), h.get? a = some o ∧ o.ExactDict ∧ o.data = .dict es ep ∧ es.toList = ys.map (fun y => (⟨y.1.hash w, .ref y.2.1, y.2.2⟩ : DictEntry)) ∧ (ys.map (·.1)).Nodup
/-- the object of such a dict -/
def SdO (w : World) (a : Addr) (xs : Sxs) : HO := .ext (SdP w a xs)
def fdS (xs : Sxs) (k : NestedKey) : Option V := (xs.find? fun x => decide (x.1 = k)).map (·.2.2)
def stS (xs : Sxs) (k : NestedKey) (b : Addr) (v : V) : Sxs := if (fdS xs k).isSome = true then xs.map (fun x => if x.1 = k then (x.1, x.2.1, v) else x) else xs ++ [(k, b, v)]
/-- the keys stand -/
def KsH (H : L2.Hp) (xs : Sxs) : Prop := ∀ x ∈ xs, NkH H x.1 (.ref x.2.1) ∧ x.1.depth ≤ 8
theorem SdO_code {w : World} {a : Addr} {xs : Sxs} {q : Str} : SdO w a xs ≠ LamX.CodeO a q := fun z => by
  unfold SdO LamX.CodeO at z
  injection z with z
  let oc : Obj := { cls := .none, data := .fields #[.none, .str q 0] }
  let h : Heap := { objs := Array.replicate (a + 1) oc }
  have hg : h.get? a = some oc := by
    unfold Heap.get?
    simp [h]
    rfl
  have e := congrFun z h
  have c : ∃ (oc : Obj) (vs : Array Value) (t : Tok), h.get? a = some oc ∧ oc.data = .fields vs ∧ vs[1]? = some (.str q t) := ⟨oc, _, 0, hg, rfl, rfl⟩
  rw [← e] at c
  obtain ⟨_, _, _, _, o, es, ep, h1, _, h3, _⟩ := c
  rw [hg] at h1
  cases h1
  cases h3
theorem SdO_ntbl {w : World} {a : Addr} {xs : Sxs} : ∀ ps, SdO w a xs ≠ .tbl ps := fun _ z => by cases z
section
variable {xs : Sxs} {ys : List (NestedKey × Addr × Value)} {k : NestedKey} {b : Addr} {v : V} {u : Value}
theorem PairS.find (h : PairS xs ys) : (fdS xs k).isSome = (atKey ys k).isSome ∧ ∀ v, fdS xs k = some v → ∃ p, atKey ys k = some p ∧ L2.RelV v p.2 := by
  induction h with
  | nil => exact ⟨rfl, fun v z => by cases z⟩
  | cons r t ih =>
    rename_i p q ps qs
    obtain ⟨r1, r2, r3⟩ := r
    by_cases e : p.1 = k
    · have e1 : fdS (p :: ps) k = some p.2.2 := by simp [fdS, List.find?_cons, e]
      have e2 : atKey (q :: qs) k = some q.2 := by rw [r1] at e; simp [atKey, List.find?_cons, e]
      rw [e1, e2]
      exact ⟨rfl, fun v z => by cases z; exact ⟨_, rfl, r3⟩⟩
    · have e1 : fdS (p :: ps) k = fdS ps k := by simp [fdS, List.find?_cons, e]
      have e2 : atKey (q :: qs) k = atKey qs k := by rw [r1] at e; simp [atKey, List.find?_cons, e]
      rw [e1, e2]
      exact ih
theorem PairS.put (h : PairS xs ys) (r : L2.RelV v u) : PairS (stS xs k b v) (storedH ys k b u) := by
  unfold stS storedH
  rw [h.find.1]
  split
  · rename_i hh
    clear hh
    induction h with
    | nil => exact .nil
    | cons r' t ih =>
      rename_i p q ps qs
      refine .cons ?_ ih
      obtain ⟨r1, r2, r3⟩ := r'
      unfold putAt
      dsimp only
      by_cases e : p.1 = k
      · rw [if_pos e, if_pos (by rw [← r1]; exact e)]
        exact ⟨r1, r2, r⟩
      · rw [if_neg e, if_neg (by rw [← r1]; exact e)]
        exact ⟨r1, r2, r3⟩
  · rename_i hh
    clear hh
    induction h with
    | nil => exact .cons ⟨rfl, rfl, r⟩ .nil
    | cons r' t ih => exact .cons r' ih
theorem PairS.adr (h : PairS xs ys) : (ys.map fun x => Value.ref x.2.1) = xs.map (Value.ref ∘ fun x => x.2.1) := by
  induction h with
  | nil => rfl
  | cons r t ih =>
    rw [List.map_cons, List.map_cons, ih]
    exact congrArg (fun a => Value.ref a :: _) r.2.1.symm
theorem stS_len : (stS xs k b v).length ≤ xs.length + 1 := by
  unfold stS
  split
  · rw [List.length_map]; omega
  · rw [List.length_append, List.length_singleton]; exact Nat.le_refl _
end
section
variable {X : Cx} {pins : List (Addr × Obj)} {σ : L2.St} {H : L2.Hp} {s : Shared}
mutual
theorem NkH.is (I : L2.Inv X pins σ H s) : ∀ (k : NestedKey) (v : V) (u : Value), NkH H k v → L2.RelV v u → NestedIs s.heap k u
  | .none, _, _, h, _ => by cases h
  | .num i, _, _, h, r => by
    cases h
    obtain ⟨t, rfl⟩ := r
    exact .int i t
  | .text x, _, _, h, r => by
    cases h
    obtain ⟨t, rfl⟩ := r
    exact .text x t
  | .tup ks, _, _, h, r => by
    cases h with
    | tup h1 h2 =>
      cases r
      obtain ⟨its, rv, ⟨o, ho, hc, n, hd⟩, hz⟩ := I.tuple (.inl h1)
      exact .tup ho hc hd (NkHs.is I ks _ _ h2 rv)
theorem NkHs.is (I : L2.Inv X pins σ H s) : ∀ (ks : List NestedKey) (vs : List V) (us : List Value), NkHs H ks vs → L2.Vals vs us → NestedAll s.heap ks us
  | [], _, _, h, r => by
    cases h
    cases r
    exact .nil
  | k :: ks, _, _, h, r => by
    cases h with
    | cons h1 h2 =>
      cases r with
      | cons r1 r2 => exact .cons (NkH.is I k _ _ h1 r1) (NkHs.is I ks _ _ h2 r2)
end
theorem SdO.ok {a : Addr} {xs : Sxs} (I : L2.Inv X pins σ H s) (e : H a = some (SdO X.w a xs)) (hk : KsH H xs) : xs.length ≤ sizeLine ∧ (a == sysModules) = false ∧ ∃ ys, PairS xs ys ∧ s.heap.DictOfH (nestedKind X.prog X.w) a ys := by
  obtain ⟨⟨z, hd, ys, pr, o, es, ep, h1, h2, h3, h4, h5⟩, _⟩ := I.hok a _ e
  refine ⟨z, hd, ys, pr, o, es, ep, h1, h2, h3, h4, fun y hy => ?_, h5⟩
  have : ∀ {xs : Sxs} {ys : List (NestedKey × Addr × Value)}, PairS xs ys → KsH H xs → ∀ y ∈ ys, (nestedKind X.prog X.w).is s.heap y.1 y.2.1 := by
    intro xs ys pr
    induction pr with
    | nil => exact fun _ y hy => by cases hy
    | cons r t ih =>
      rename_i p q ps qs
      intro hk y hy
      rcases List.mem_cons.mp hy with e | e
      · subst e
        obtain ⟨k1, k2⟩ := hk p List.mem_cons_self
        obtain ⟨r1, r2, _⟩ := r
        rw [r1, r2] at k1
        rw [r1] at k2
        exact ⟨NkH.is I _ _ _ k1 rfl, k2⟩
      · exact ih (fun x hx => hk x (List.mem_cons_of_mem _ hx)) y e
  exact this pr hk y hy
theorem sd_new {w : World} {a : Addr} {xs : Sxs} {ys : List (NestedKey × Addr × Value)} {H' : L2.Hp} {h' : Heap} {prog : Program} (z : xs.length ≤ sizeLine) (hd : (a == sysModules) = false) (pr : PairS xs ys) (dd : h'.DictOfH (nestedKind prog w) a ys) : ObjOk prog w H' h' a (SdO w a xs) := by
  obtain ⟨o, es, ep, h1, h2, h3, h4, _, h5⟩ := dd
  refine ⟨⟨z, hd, ys, pr, o, es, ep, h1, h2, h3, h4, h5⟩, ⟨o, h1⟩, fun g1 g2 p k => ?_⟩
  obtain ⟨z, hd, ys, pr, o, es, ep, h1, h2, h3, h4, h5⟩ := p
  exact ⟨z, hd, ys, pr, o, es, ep, k _ h1, h2, h3, h4, h5⟩
/-! ### readings -/
/-- the dict at a, the key of y -/
def SAt (w : World) (H : L2.Hp) (x y : V) (a b : Addr) (xs : Sxs) (k : NestedKey) : Prop := x = .ref a ∧ y = .ref b ∧ H a = some (SdO w a xs) ∧ KsH H xs ∧ NkH H k (.ref b) ∧ k.depth ≤ 8
def tSNew (w : World) : TE := fun _ H Q => ∀ p, H p = none → Q (.ref p) (upd H p (SdO w p []))
def tSNin (w : World) (ty td : TE) : TE := fun σ H Q => ty σ H fun y H1 => td σ H1 fun x H2 => ∃ a b xs k, SAt w H2 x y a b xs k ∧ Q (.bl (!(fdS xs k).isSome)) H2
def tSGet (w : World) (td ty : TE) : TE := fun σ H Q => td σ H fun x H1 => ty σ H1 fun y H2 => ∃ a b xs k v, SAt w H2 x y a b xs k ∧ fdS xs k = some v ∧ Q v H2
def sSPut (w : World) (td ty tv : TE) : TS := fun D σ H => tv σ H fun v H1 => td σ H1 fun x H2 => ty σ H2 fun y H3 => ∃ a b xs k, SAt w H3 x y a b xs k ∧ xs.length < sizeLine ∧ D.nx σ (upd H3 a (SdO w a (stS xs k b v)))
variable {o i value : Expr} {pos pos' : Pos} {td ty tv : TE}
theorem room_n {A : Around} (hu : A.units + 9 < cLine) : (nestedKind X.prog X.w).room A.in1 := by
  show A.in1.units + 8 < cLine
  have : A.in1.units = A.units + 1 := rfl
  omega
theorem pe_snew : PE X (.Dict [] [] pos) (tSNew X.w) := ⟨fun pins s σ H Q I h =>
  wpAny_Dict_empty ⟨.ref s.heap.objs.size, _, I.laid (a := s.heap.objs.size) (o := SdO X.w s.heap.objs.size []) (t' := s.toks) (fun _ _ q => Heap.get?_push_of_some _ q) (Nat.le_refl _)
    (sd_new (Nat.zero_le _) (beq_eq_false_iff_ne.mpr (Ne.symm (Nat.ne_of_lt I.big))) .nil (Heap.DictOfH.new s.heap)), rfl, h _ (I.hok.fresh (Nat.le_refl _))⟩⟩
theorem pc_snin (hu : X.A.units + 9 < cLine) (hi : PE X i ty) (ho : PE X o td) : PC X .NotIn i o (tSNin X.w ty td) := by
  refine ⟨fun pins s σ H Q I h => ?_⟩
  refine thn (hi.run pins s σ H _ I h) fun iv s1 ⟨y, H1, I1, ry, q1⟩ => thn (ho.run pins s1 σ H1 _ I1 q1) fun u s2 ⟨x, H2, I2, rx, a, b, xs, k, ⟨ex, ey, e, hk, ke, kd⟩, q2⟩ => ?_
  subst ex ey
  obtain rfl : u = Value.ref a := rx
  obtain rfl : iv = Value.ref b := ry
  obtain ⟨z, hd, ys, pr, dd⟩ := SdO.ok I2 e hk
  refine PyProof.Rows.wpAny_notIn_heap (room_n hu) ⟨NkH.is I2 _ _ _ ke rfl, kd⟩ hd dd ⟨.bl (!(fdS xs k).isSome), H2, I2.tok _, ?_, q2⟩
  rw [pr.find.1]
  rfl
theorem pe_sget (hu : X.A.units + 9 < cLine) (ho : PE X o td) (hi : PE X i ty) (hs : NoSl i) : PE X (.Subscript o i pos) (tSGet X.w td ty) := by
  refine ⟨fun pins s σ H Q I h => ?_⟩
  refine subD_of PySem.F.slot_dict_getitem.lookup hs (thn (ho.run pins s σ H _ I h) fun u s1 ⟨x, H1, I1, rx, q1⟩ => thn (hi.run pins s1 σ H1 _ I1 q1) fun iv s2 ⟨y, H2, I2, ry, a, b, xs, k, v, ⟨ex, ey, e, hk, ke, kd⟩, hv, q2⟩ => ?_)
  subst ex ey
  obtain rfl : u = Value.ref a := rx
  obtain rfl : iv = Value.ref b := ry
  obtain ⟨z, hd, ys, pr, dd⟩ := SdO.ok I2 e hk
  obtain ⟨p, hp, rp⟩ := pr.find.2 v hv
  exact ⟨dd.typeIs, wpAny_getItem_heap (room_n hu) ⟨NkH.is I2 _ _ _ ke rfl, kd⟩ dd hp ⟨v, H2, I2.tok _, rp, q2⟩⟩
theorem s_setItem {Q : Unit → Shared → Prop} {E : Value → Shared → Prop} {x y v : V} {a b : Addr} {xs : Sxs} {k : NestedKey} {r : Value} (hu : X.A.units + 9 < cLine) (I : L2.Inv X pins σ H s) (g : SAt X.w H x y a b xs k) (hl : xs.length < sizeLine) (rv : L2.RelV v r) (h : ∀ s', L2.Inv X pins σ (upd H a (SdO X.w a (stS xs k b v))) s' → Q () s') :
    wpAny (model X.prog X.w) X.A (setItem (.ref a) (.ref b) r) Q E s := by
  obtain ⟨ex, ey, e, hk, ke, kd⟩ := g
  obtain ⟨z, hd, ys, pr, dd⟩ := SdO.ok I e hk
  have hz : ys.length ≤ sizeLine := by rw [← Paired.length pr]; exact z
  refine wpAny_setItem_heap (hsz := hz) (room_n hu) ⟨NkH.is I _ _ _ ke rfl, kd⟩ dd fun h' dd' hs => h _ ?_
  have he : ∃ q, h'.get? a = some q := let ⟨q, _, _, hq, _⟩ := dd'; ⟨q, hq⟩
  exact d_write I (by rw [e]; exact True.intro) hs he (sd_new (by have := stS_len (xs := xs) (k := k) (b := b) (v := v); omega) hd (pr.put rv) dd')
theorem ps_sput (hu : X.A.units + 9 < cLine) (ho : PE X o td) (hi : PE X i ty) (hv : PE X value tv) (hs : swapsWith value (some (.Subscript o i pos')) pos.line X.env = pure false) :
    PS X (.Assign [.Subscript o i pos'] value pos) (sSPut X.w td ty tv) := by
  refine ⟨fun pins s σ H D I h => ?_⟩
  refine wpAny_Assign_Subscript (thn (hv.run pins s σ H _ I h) fun r s1 ⟨v, H1, I1, rv, q1⟩ => thn (ho.run pins s1 σ H1 _ I1 q1) fun u s2 ⟨x, H2, I2, rx, q2⟩ => thn (hi.run pins s2 σ H2 _ I2 q2) fun iv s3 ⟨y, H3, I3, ry, a, b, xs, k, g, hl, q3⟩ => ?_) hs
  obtain ⟨ex, ey, _⟩ := id g
  subst ex ey
  obtain rfl : u = Value.ref a := rx
  obtain rfl : iv = Value.ref b := ry
  exact s_setItem hu I3 g hl rv fun s4 I4 => ⟨σ, _, I4, q3⟩
/-! ### len(d), list(d), d[y], z = a, b -/
theorem len_raw {d : Addr} {es : Array DictEntry} {ep : Nat} {A : Around} {E : Value → Shared → Prop} {prog : Program} {w : World} {Q : Value → Shared → Prop} (hd : (d == sysModules) = false) (hm : s.heap.DictRaw d es ep) (hfit : (es.size : Int) < 2 ^ 63)
    (h : Q (.int es.size (s.toks + 1)) { s with toks := s.toks + 1 + 1 }) : wpAny (model prog w) A (call (.builtin "len") [.ref d]) Q E s := by
  refine Calls.call_function_entry PySem.kind_len PySem.plain_len PySem.entry_len (PySem.args_len1 _) ?_
  unfold Builtin.«len»
  refine wpAny_bind (m := oneArg "len" _) (wpAny_pure ?_)
  refine wpAny_bind (m := callSpecial? (.ref d) (Str.ofString "__len__")) (wpAny_callSpecial?_slot (name := Str.ofString "__len__") hm.typeIs PySem.F.slot_dict_len
    (call_meetsIn PySem.F.slot_dict_len hm.typeIs PySem.F.entry_dict_len (PySem.F.args_dict_len_1 _) (meets_dict_len_raw d hd) ⟨es, ep, hm, ?_⟩))
  show wpAny _ _ _ _ _ { s with toks := s.toks + 1 }
  refine wpAny_bind (wpAny_holding (wpAny_pure ?_))
  refine wpAny_bind (wpAny_letGo ?_)
  show wpAny _ _ (if ((es.size : Nat) : Int) < 0 then _ else _) _ _ _
  rw [if_neg (by omega)]
  show wpAny _ _ (if ((es.size : Nat) : Int) ≥ 2 ^ 63 then _ else _) _ _ _
  rw [if_neg (by omega)]
  exact wpAny_bind (wpAny_mkInt (wpAny_pure ⟨_, rfl, h⟩))
def rLenS (w : World) : List V → L2.Hp → VK → Prop := fun vs H Q => ∃ a xs, vs = [V.ref a] ∧ H a = some (SdO w a xs) ∧ Q (.int xs.length) H
theorem cr_lenS : CallR X (.builtin "len") (rLenS X.w) := by
  intro pins s σ H vs us Q I r h
  obtain ⟨a, xs, rfl, e, q⟩ := h
  rw [Vals.ref1 r]
  obtain ⟨⟨z, hd, ys, pr, o, es, ep, h1, h2, h3, h4, h5⟩, _⟩ := I.hok a _ e
  have l1 : es.size = ys.length := by rw [← Array.length_toList, h4, List.length_map]
  have l2 : xs.length = ys.length := Paired.length pr
  have hz := sizeLine_eq
  refine len_raw hd ⟨o, h1, h2, h3⟩ (by omega) ⟨.int xs.length, H, I.tok _, ?_, q⟩
  rw [l2, ← l1]
  exact ⟨_, rfl⟩
def rListS (w : World) : List V → L2.Hp → VK → Prop := fun vs H Q => ∃ d xs, vs = [V.ref d] ∧ H d = some (SdO w d xs) ∧ ∀ p, H p = none → Q (.ref p) (upd H p (.lst (xs.map fun x => V.ref x.2.1)))
theorem cr_listS (hc : X.calm = true) : CallR X (.type "list") (rListS X.w) := by
  intro pins s σ H vs us Q I r h
  obtain ⟨d, xs, rfl, e, q⟩ := h
  rw [Vals.ref1 r]
  obtain ⟨⟨z, hs, ys, pr, o, es, ep, ho, hx, hdt, he, hn⟩, _⟩ := I.hok d _ e
  have l1 : es.size = ys.length := by rw [← Array.length_toList, he, List.length_map]
  have l2 : xs.length = ys.length := Paired.length pr
  refine PySem.W.kdl_call (kdl_raw hs hx hdt) (I.ok.hd hc) ho (by omega) fun h' tk acc' c' kp e' it => ?_
  have ea : acc'.toList = ys.map fun x => Value.ref x.2.1 := by
    have hl : acc'.toList.length = ys.length := by rw [Array.length_toList, it.1]; exact l1
    apply List.ext_getElem?
    intro j
    rw [List.getElem?_map]
    cases hj : acc'.toList[j]? with
    | none =>
      have h1 := List.getElem?_eq_none_iff.mp hj
      rw [List.getElem?_eq_none (by omega)]
      all_goals rfl
    | some v =>
      obtain ⟨en, hen, hv⟩ := it.2 j v (by rw [← Array.getElem?_toList]; exact hj)
      have qe : es[j]? = (ys[j]?).map fun y => (⟨y.1.hash X.w, .ref y.2.1, y.2.2⟩ : DictEntry) := by rw [← Array.getElem?_toList, he, List.getElem?_map]
      rw [hen] at qe
      cases hb : ys[j]? with
      | none =>
        rw [hb] at qe
        exact nomatch (show some en = none from qe)
      | some b =>
        rw [hb] at qe
        have e2 : en = (⟨b.1.hash X.w, .ref b.2.1, b.2.2⟩ : DictEntry) := Option.some.inj qe
        rw [hv, e2]
        all_goals rfl
  have ek : (ys.map fun x => Value.ref x.2.1) = (xs.map fun x => x.2.1).map Value.ref := by
    rw [List.map_map]
    exact pr.adr
  have rv : L2.Vals (xs.map fun x => V.ref x.2.1) acc'.toList := by
    rw [ea, ek]
    have := L2.vals_refs (xs.map fun x => x.2.1)
    rw [List.map_map] at this
    exact this
  have hz : (xs.map fun x => V.ref x.2.1).length ≤ sizeLine := by rw [List.length_map]; exact z
  refine ⟨.ref s.heap.objs.size, _, I.laid (t' := tk) (o := .lst (xs.map fun x => V.ref x.2.1)) kp (Nat.le_refl _) ?_, rfl, q _ (I.hok.fresh (Nat.le_refl _))⟩
  exact ⟨hz, acc'.toList, c', rv, by rw [Array.toArray_toList]; exact e'⟩
def rSetS (w : World) : TSet := fun o i v H Q => ∃ a b xs k, SAt w H o i a b xs k ∧ xs.length < sizeLine ∧ Q (upd H a (SdO w a (stS xs k b v)))
theorem set_S (hu : X.A.units + 9 < cLine) : PSet X (rSetS X.w) := by
  intro pins s σ H o i v ov iv u Q I ro ri rv h
  obtain ⟨a, b, xs, k, g, hl, q⟩ := h
  obtain ⟨eo, ei, _⟩ := id g
  subst eo ei
  cases (show ov = Value.ref a from ro)
  cases (show iv = Value.ref b from ri)
  exact s_setItem hu I g hl rv fun s' I' => ⟨_, I', q⟩
/-! ### a dict of numbers, walked -/
def iKeysF (td : TE) : TI := fun σ H R => td σ H fun x H1 => ∃ d kvs, x = .ref d ∧ H1 d = some (.dK kvs) ∧ ∀ od, R (Itk d od kvs) (upd H1 d (.frz od (.dK kvs)))
theorem pi_keysF {tg e : Expr} (he : PE X e td) : PI X tg e (iKeysF td) := by
  refine ⟨fun pins s σ H R I h => ?_⟩
  refine thn (he.run pins s σ H _ I h) fun u s1 ⟨x, H1, I1, rx, d, kvs, ex, hd, q⟩ => ?_
  subst ex
  obtain rfl : u = Value.ref d := rx
  obtain ⟨od, I2⟩ := I1.lock hd (by trivial)
  obtain ⟨hs, hgd, hx, es, ep, vs, hdt, hsz, kv, hm⟩ := I2.frzK upd_same
  refine iter_keys hs hgd hx hdt (pi_one (tk := s1.toks) I2 _ (turn_keys _ hdt) ⟨_, Heap.get?_push_size _ rfl, rfl, ?_⟩ (q od))
  rw [hsz] <;> rfl
end
end Fw

set_option Elab.async false
set_option linter.all false
set_option autoImplicit false
set_option maxRecDepth 100000
set_option maxHeartbeats 2000000
/-! FwRep: what a value of the layer stands for; the state of a body. -/
namespace Fw
open PySem L2
abbrev Hp := L2.Hp
abbrev St := L2.St

theorem SL_eq : sizeLine = SL := sizeLine_eq

mutual
def toNk : D → NestedKey
  | .int i => .num i
  | .str l => .text (SX.S l)
  | .tup l => .tup (toNks l)
  | _ => .none
def toNks : List D → List NestedKey
  | [] => []
  | d :: r => toNk d :: toNks r
end
/-- a cell as a key -/
def kL (p : Int × Int) : List L2.Key := [.inl p.1, .inl p.2]
mutual
inductive Rep (pd : Addr) (H : Hp) : V → D → Prop
  | non : Rep pd H .non .non
  | bl (b : Bool) : Rep pd H (.bl b) (.bl b)
  | int (i : Int) : Rep pd H (.int i) (.int i)
  | str {l : Tx} : (∀ c ∈ l, c < 128) → l.length ≤ SL → Rep pd H (.str (SX.S l)) (.str l)
  | tup {a : Addr} {xs : List V} {ds : List D} : H a = some (.tup xs) → Reps pd H xs ds → ds.length ≤ SL → Rep pd H (.ref a) (.tup ds)
  | lst {a : Addr} {xs : List V} {ds : List D} : H a = some (.lst xs) → Reps pd H xs ds → ds.length ≤ SL → Rep pd H (.ref a) (.lst ds)
  | dic {a : Addr} {kvs : List (List L2.Key × V)} {ks : List (Int × Int)} {ds : List D} : H a = some (.dT kvs) → kvs.map (·.1) = ks.map kL → Reps pd H (kvs.map (·.2)) ds → ds.length ≤ SL → Rep pd H (.ref a) (.dic ks ds)
  | dice : Rep pd H (.ref pd) .dice
  | dii {a : Addr} {o : Obj} {kvs : List (L2.Key × V)} {ks : List Int} {ds : List D} : H a = some (.frz o (.dK kvs)) → kvs.map (·.1) = ks.map Sum.inl → Reps pd H (kvs.map (·.2)) ds → ds.length ≤ SL → Rep pd H (.ref a) (.dii ks ds)
  | tpk {a : Addr} {xs : List V} {ds : List D} : KnT H a xs → Reps pd H xs ds → ds.length ≤ SL → Rep pd H (.ref a) (.tpk ds)
inductive Reps (pd : Addr) (H : Hp) : List V → List D → Prop
  | nil : Reps pd H [] []
  | cons {v : V} {vs : List V} {d : D} {ds : List D} : Rep pd H v d → Reps pd H vs ds → Reps pd H (v :: vs) (d :: ds)
end

section
variable {pd : Addr} {H H' : Hp}
mutual
theorem Rep.mono (e : Same H H') : ∀ (d : D) (v : V), Rep pd H v d → Rep pd H' v d
  | .non, _, h => by cases h; exact .non
  | .bl _, _, h => by cases h; exact .bl _
  | .int _, _, h => by cases h; exact .int _
  | .str _, _, h => by cases h with | str a b => exact .str a b
  | .tup ds, _, h => by cases h with | tup a b c => exact .tup (e _ _ a) (Reps.mono e ds _ b) c
  | .lst ds, _, h => by cases h with | lst a b c => exact .lst (e _ _ a) (Reps.mono e ds _ b) c
  | .dic ks ds, _, h => by cases h with | dic a b c d => exact .dic (e _ _ a) b (Reps.mono e ds _ c) d
  | .dice, _, h => by cases h; exact .dice
  | .dii ks ds, _, h => by cases h with | dii a b c d => exact .dii (e _ _ a) b (Reps.mono e ds _ c) d
  | .tpk ds, _, h => by cases h with | tpk a b c => obtain ⟨o, a1, a2⟩ := a; exact .tpk ⟨o, e _ _ a1, a2⟩ (Reps.mono e ds _ b) c
theorem Reps.mono (e : Same H H') : ∀ (ds : List D) (vs : List V), Reps pd H vs ds → Reps pd H' vs ds
  | [], _, h => by cases h; exact .nil
  | d :: ds, _, h => by cases h with | cons a b => exact .cons (Rep.mono e d _ a) (Reps.mono e ds _ b)
end
theorem Reps.length : ∀ {ds : List D} {vs : List V}, Reps pd H vs ds → vs.length = ds.length
  | [], _, h => by cases h; rfl
  | d :: ds, _, h => by cases h with | cons a b => simp [Reps.length b]
theorem Reps.get : ∀ {ds : List D} {vs : List V} {i : Nat} {d : D}, Reps pd H vs ds → ds[i]? = some d → ∃ v, vs[i]? = some v ∧ Rep pd H v d
  | [], _, _, _, _, e => by simp at e
  | d :: ds, _, 0, _, h, e => by
    cases h with
    | cons a b =>
      simp at e
      subst e
      exact ⟨_, rfl, a⟩
  | d :: ds, _, i + 1, d', h, e => by
    cases h with
    | cons a b =>
      obtain ⟨v, h1, h2⟩ := Reps.get (i := i) (d := d') b (by simpa using e)
      exact ⟨v, by simpa using h1, h2⟩
theorem Reps.getV : ∀ {ds : List D} {vs : List V} {i : Nat} {v : V}, Reps pd H vs ds → vs[i]? = some v → ∃ d, ds[i]? = some d ∧ Rep pd H v d
  | [], _, _, _, h, e => by cases h; simp at e
  | d :: ds, _, 0, _, h, e => by
    cases h with
    | cons a b =>
      simp at e
      subst e
      exact ⟨_, rfl, a⟩
  | d :: ds, _, i + 1, v', h, e => by
    cases h with
    | cons a b =>
      obtain ⟨v, h1, h2⟩ := Reps.getV (i := i) (v := v') b (by simpa using e)
      exact ⟨v, by simpa using h1, h2⟩
theorem Reps.append : ∀ {ds es : List D} {vs ws : List V}, Reps pd H vs ds → Reps pd H ws es → Reps pd H (vs ++ ws) (ds ++ es)
  | [], _, _, _, h, g => by cases h; exact g
  | d :: ds, _, _, _, h, g => by cases h with | cons a b => exact .cons a (Reps.append b g)
theorem Reps.snoc {ds : List D} {vs : List V} {d : D} {v : V} (h : Reps pd H vs ds) (r : Rep pd H v d) : Reps pd H (vs ++ [v]) (ds ++ [d]) := h.append (.cons r .nil)
theorem Reps.take : ∀ {ds : List D} {vs : List V} (n : Nat), Reps pd H vs ds → Reps pd H (vs.take n) (ds.take n)
  | _, _, 0, _ => .nil
  | [], _, _ + 1, h => by cases h; exact .nil
  | d :: ds, _, n + 1, h => by cases h with | cons a b => exact .cons a (Reps.take n b)
theorem Reps.drop : ∀ {ds : List D} {vs : List V} (n : Nat), Reps pd H vs ds → Reps pd H (vs.drop n) (ds.drop n)
  | _, _, 0, h => h
  | [], _, _ + 1, h => by cases h; exact .nil
  | d :: ds, _, n + 1, h => by cases h with | cons a b => exact Reps.drop n b
theorem Reps.reverse : ∀ {ds : List D} {vs : List V}, Reps pd H vs ds → Reps pd H vs.reverse ds.reverse
  | [], _, h => by cases h; exact .nil
  | d :: ds, _, h => by
    cases h with
    | cons a b =>
      rw [List.reverse_cons, List.reverse_cons]
      exact (Reps.reverse b).snoc a
theorem Reps.rep {ds : List D} {vs : List V} (h : Reps pd H vs ds) : ∀ k : Nat, Reps pd H (List.replicate k vs).flatten (List.replicate k ds).flatten
  | 0 => .nil
  | k + 1 => by
    rw [List.replicate_succ, List.replicate_succ, List.flatten_cons, List.flatten_cons]
    exact h.append (Reps.rep h k)
theorem six_eq (n d : Nat) (o : Option Int) : HT.sIx n d o = six n d o := by cases o <;> rfl
theorem Reps.cut {ds : List D} {vs : List V} (h : Reps pd H vs ds) (lo hi : Option Int) : Reps pd H (cutV vs lo hi) (cut ds lo hi) := by
  unfold cutV Fw.cut
  rw [six_eq, six_eq, h.length]
  exact (h.drop _).take _
theorem cut_len {α : Type} (l : List α) (lo hi : Option Int) : (cut l lo hi).length ≤ l.length := by
  unfold cut
  rw [List.length_take, List.length_drop]
  omega
end

/-! ### the state -/
structure Par where
  pd : Addr
  H0 : Hp
  Hf0 : Hp
  T : List (Addr × Str)
  lk : Bool
  w : World

/-- the entries of a dict of nested tuples -/
structure KsR (pd : Addr) (Hf : Hp) (xs : Sxs) (kvs : List (D × D)) : Prop where
  nk : xs.map (·.1) = kvs.map fun kv => toNk kv.1
  ok : ∀ kv ∈ kvs, skey kv.1 = true
  ks : Reps pd Hf (xs.map fun x => V.ref x.2.1) (kvs.map (·.1))
  vs : Reps pd Hf (xs.map (·.2.2)) (kvs.map (·.2))

def SlOk (P : Par) (H Hf : Hp) : Sl → Option V → Prop
  | .un, _ => True
  | .val d, o => ∃ v, o = some v ∧ Rep P.pd Hf v d
  | .ol ds, o => ∃ p vs, o = some (.ref p) ∧ Hf p = none ∧ (P.lk = false → P.H0 p = none) ∧ p ≠ P.pd ∧ H p = some (.lst vs) ∧ Reps P.pd Hf vs ds ∧ ds.length ≤ SL
  | .od kvs, o => ∃ p kvs', o = some (.ref p) ∧ Hf p = none ∧ (P.lk = false → P.H0 p = none) ∧ p ≠ P.pd ∧ H p = some (.dT kvs') ∧ (kvs'.map (·.1) = kvs.map (fun kv => kL kv.1) ∧ Reps P.pd Hf (kvs'.map (·.2)) (kvs.map (·.2))) ∧ kvs.length ≤ SL
  | .oi kvs, o => ∃ p kvs', o = some (.ref p) ∧ Hf p = none ∧ (P.lk = false → P.H0 p = none) ∧ p ≠ P.pd ∧ H p = some (.dK kvs') ∧ (kvs'.map (·.1) = kvs.map (fun kv => Sum.inl kv.1) ∧ Reps P.pd Hf (kvs'.map (·.2)) (kvs.map (·.2))) ∧ kvs.length ≤ SL
  | .os kvs, o => ∃ p xs, o = some (.ref p) ∧ Hf p = none ∧ (P.lk = false → P.H0 p = none) ∧ p ≠ P.pd ∧ H p = some (SdO P.w p xs) ∧ KsR P.pd Hf xs kvs ∧ kvs.length ≤ SL
/-- the slot owns the list at p -/
def OwnAt : Sl → Option V → Addr → Prop
  | .ol _, o, p => o = some (.ref p)
  | .od _, o, p => o = some (.ref p)
  | .oi _, o, p => o = some (.ref p)
  | .os _, o, p => o = some (.ref p)
  | _, _, _ => False

structure StOk (P : Par) (σ : St) (H Hf : Hp) (s : S) : Prop where
  keep : ∀ a o, P.H0 a = some o → a ≠ P.pd → H a = some o
  sub : Same Hf H
  fix : ∀ a o, P.H0 a = some o → Hf a = P.Hf0 a
  sub0 : Same P.Hf0 Hf
  dice : H P.pd = some (.lst [.int s.dn, .int s.dk])
  dicef : Hf P.pd = none
  tabs : LamX.Tabs P.T H
  slot : ∀ i, SlOk P H Hf (s.get i) (σ.getD i none)
  dist : ∀ i j p, OwnAt (s.get i) (σ.getD i none) p → OwnAt (s.get j) (σ.getD j none) p → i = j
  len : s.env.length = σ.length
  lk : s.lk = P.lk
  nt : ∀ a ps, Hf a ≠ some (.tbl ps)

theorem same_upd {H : Hp} {p : Addr} {o : HO} (h : H p = none) : Same H (upd H p o) := fun b u e => by rw [upd_ne (ne_of_none e h)]; exact e
theorem same_upd2 {H Hf : Hp} {p : Addr} {o : HO} (e : Same Hf H) : Same (upd Hf p o) (upd H p o) := fun b u q => by
  by_cases hb : b = p
  · subst hb
    rw [upd_same] at q ⊢
    exact q
  · rw [upd_ne hb] at q ⊢
    exact e b u q

theorem get_put_same {s : S} {i : Nat} {x : Sl} (h : i < s.env.length) : (s.put i x).get i = x := by
  unfold S.put S.get
  simp [List.getD, h]
theorem get_put_ne {s : S} {i j : Nat} {x : Sl} (h : i ≠ j) : (s.put i x).get j = s.get j := by
  unfold S.put S.get
  simp [List.getD, h]
theorem σ_set_same {σ : St} {i : Nat} {v : Option V} (h : i < σ.length) : (σ.set i v).getD i none = v := by simp [List.getD, h]
theorem σ_set_ne {σ : St} {i j : Nat} {v : Option V} (h : i ≠ j) : (σ.set i v).getD j none = σ.getD j none := by simp [List.getD, h]
theorem put_out {s : S} {i : Nat} {x : Sl} (h : ¬ i < s.env.length) : s.put i x = s := by
  unfold S.put
  rw [List.set_eq_of_length_le (by omega)]
theorem σ_get {σ : St} {i : Nat} {v : V} (h : σ.getD i none = some v) : σ[i]? = some (some v) := by
  unfold List.getD at h
  cases e : σ[i]? with
  | none => rw [e] at h; cases h
  | some o => rw [e] at h; simp at h; rw [h]

section
variable {P : Par} {σ : St} {H Hf : Hp} {s : S}

theorem SlOk.mono {H' Hf' : Hp} {x : Sl} {o : Option V} (h : SlOk P H Hf x o) (h1 : ∀ p ho, Hf p = none → (P.lk = false → P.H0 p = none) → p ≠ P.pd → H p = some ho → OwnAt x o p → H' p = some ho ∧ Hf' p = none) (h2 : Same Hf Hf') : SlOk P H' Hf' x o := by
  cases x with
  | un => trivial
  | val d =>
    obtain ⟨v, e, r⟩ := h
    exact ⟨v, e, r.mono h2⟩
  | ol ds =>
    obtain ⟨p, vs, e, a, b, c, d, r, z⟩ := h
    obtain ⟨q1, q2⟩ := h1 p _ a b c d e
    exact ⟨p, vs, e, q2, b, c, q1, Reps.mono h2 _ _ r, z⟩
  | od kvs =>
    obtain ⟨p, kvs', e, a, b, c, d, ⟨r1, r2⟩, z⟩ := h
    obtain ⟨q1, q2⟩ := h1 p _ a b c d e
    exact ⟨p, kvs', e, q2, b, c, q1, ⟨r1, Reps.mono h2 _ _ r2⟩, z⟩
  | oi kvs =>
    obtain ⟨p, kvs', e, a, b, c, d, ⟨r1, r2⟩, z⟩ := h
    obtain ⟨q1, q2⟩ := h1 p _ a b c d e
    exact ⟨p, kvs', e, q2, b, c, q1, ⟨r1, Reps.mono h2 _ _ r2⟩, z⟩
  | os kvs =>
    obtain ⟨p, kvs', e, a, b, c, d, ⟨r1, r2, r3, r4⟩, z⟩ := h
    obtain ⟨q1, q2⟩ := h1 p _ a b c d e
    exact ⟨p, kvs', e, q2, b, c, q1, ⟨r1, r2, Reps.mono h2 _ _ r3, Reps.mono h2 _ _ r4⟩, z⟩

/-- a new object, not frozen -/
theorem StOk.alloc {p : Addr} {o : HO} (k : StOk P σ H Hf s) (hp : H p = none) : StOk P σ (upd H p o) Hf s := by
  have e := same_upd (o := o) hp
  refine ⟨fun a u q n => e _ _ (k.keep a u q n), k.sub.trans e, k.fix, k.sub0, e _ _ k.dice, k.dicef, k.tabs.ext e, fun i => (k.slot i).mono (fun p vs a _ _ d _ => ⟨e _ _ d, a⟩) (Same.refl _), k.dist, k.len, k.lk, k.nt⟩
/-- a new object, frozen -/
theorem StOk.allocF {p : Addr} {o : HO} (k : StOk P σ H Hf s) (hp : H p = none) (ho : ∀ ps, o ≠ .tbl ps) : StOk P σ (upd H p o) (upd Hf p o) s := by
  have e := same_upd (o := o) hp
  have hf : Hf p = none := k.sub.free hp
  have e2 := same_upd (o := o) hf
  refine ⟨fun a u q n => e _ _ (k.keep a u q n), same_upd2 k.sub, fun a u q => ?_, k.sub0.trans e2, e _ _ k.dice, ?_, k.tabs.ext e, fun i => (k.slot i).mono (fun q vs a _ _ d _ => ⟨e _ _ d, ?_⟩) e2, k.dist, k.len, k.lk, fun a ps q => ?_⟩
  · by_cases hpd : a = P.pd
    · have hne : a ≠ p := fun z => by rw [← z, hpd, k.dice] at hp; cases hp
      rw [upd_ne hne]
      exact k.fix a u q
    · have hne : a ≠ p := ne_of_none (k.keep a u q hpd) hp
      rw [upd_ne hne]
      exact k.fix a u q
  · have hne : P.pd ≠ p := ne_of_none k.dice hp
    rw [upd_ne hne]
    exact k.dicef
  · have hne : q ≠ p := ne_of_none d hp
    rw [upd_ne hne]
    exact a
  · by_cases hb : a = p
    · rw [hb, upd_same] at q
      exact ho ps (Option.some.inj q)
    · rw [upd_ne hb] at q
      exact k.nt a ps q

theorem ownAt_put {i j : Nat} {x : Sl} {v : Option V} {p : Addr} (hi : i < s.env.length) (hσ : s.env.length = σ.length) (n : i ≠ j) (h : OwnAt ((s.put i x).get j) ((σ.set i v).getD j none) p) : OwnAt (s.get j) (σ.getD j none) p := by
  rw [get_put_ne n, σ_set_ne n] at h
  exact h

/-- a slot is stored with frozen data -/
theorem StOk.set {i : Nat} {d : D} {v : V} (k : StOk P σ H Hf s) (r : Rep P.pd Hf v d) : StOk P (σ.set i (some v)) H Hf (s.put i (.val d)) := by
  by_cases hi : i < s.env.length
  · refine ⟨k.keep, k.sub, k.fix, k.sub0, k.dice, k.dicef, k.tabs, fun j => ?_, fun a b p h1 h2 => ?_, by simpa [S.put] using k.len, k.lk, k.nt⟩
    · by_cases hj : i = j
      · subst hj
        rw [get_put_same hi, σ_set_same (by rw [← k.len]; exact hi)]
        exact ⟨v, rfl, r⟩
      · rw [get_put_ne hj, σ_set_ne hj]
        exact k.slot j
    · have na : i ≠ a := fun z => by subst z; rw [get_put_same hi] at h1; exact h1
      have nb : i ≠ b := fun z => by subst z; rw [get_put_same hi] at h2; exact h2
      exact k.dist a b p (ownAt_put hi k.len na h1) (ownAt_put hi k.len nb h2)
  · rw [put_out hi, List.set_eq_of_length_le (by have := k.len; omega)]
    exact k
/-- a slot is stored with a new list of one's own -/
theorem StOk.setOwnG {i : Nat} {x : Sl} {p : Addr} (k : StOk P σ H Hf s) (hx : SlOk P H Hf x (some (.ref p))) (hox : ∀ q, OwnAt x (some (.ref p)) q → p = q) (hn : ∀ j, j ≠ i → ¬ OwnAt (s.get j) (σ.getD j none) p) : StOk P (σ.set i (some (.ref p))) H Hf (s.put i x) := by
  by_cases hi : i < s.env.length
  · refine ⟨k.keep, k.sub, k.fix, k.sub0, k.dice, k.dicef, k.tabs, fun j => ?_, fun a b q h1 h2 => ?_, by simpa [S.put] using k.len, k.lk, k.nt⟩
    · by_cases hj : i = j
      · subst hj
        rw [get_put_same hi, σ_set_same (by rw [← k.len]; exact hi)]
        exact hx
      · rw [get_put_ne hj, σ_set_ne hj]
        exact k.slot j
    · by_cases na : i = a
      · by_cases nb : i = b
        · exact na.symm.trans nb
        · exfalso
          subst na
          rw [get_put_same hi, σ_set_same (by rw [← k.len]; exact hi)] at h1
          have e : p = q := hox q h1
          subst e
          exact hn b (fun z => nb z.symm) (ownAt_put hi k.len nb h2)
      · by_cases nb : i = b
        · exfalso
          subst nb
          rw [get_put_same hi, σ_set_same (by rw [← k.len]; exact hi)] at h2
          have e : p = q := hox q h2
          subst e
          exact hn a (fun z => na z.symm) (ownAt_put hi k.len na h1)
        · exact k.dist a b q (ownAt_put hi k.len na h1) (ownAt_put hi k.len nb h2)
  · rw [put_out hi, List.set_eq_of_length_le (by have := k.len; omega)]
    exact k
/-- a slot is stored with a new list of one's own -/
theorem StOk.setOwn {i : Nat} {ds : List D} {vs : List V} {p : Addr} (k : StOk P σ H Hf s) (hp : H p = some (.lst vs)) (hf : Hf p = none) (h0 : P.lk = false → P.H0 p = none) (hd : p ≠ P.pd) (r : Reps P.pd Hf vs ds) (hl : ds.length ≤ SL)
    (hn : ∀ j, j ≠ i → ¬ OwnAt (s.get j) (σ.getD j none) p) : StOk P (σ.set i (some (.ref p))) H Hf (s.put i (.ol ds)) :=
  k.setOwnG ⟨p, vs, rfl, hf, h0, hd, hp, r, hl⟩ (fun q h => by
    have z : (some (V.ref p) : Option V) = some (.ref q) := h
    injection z with z
    injection z) hn
/-- an own list is frozen -/
theorem StOk.freezeG {i : Nat} {x : Sl} {d : D} {ho : HO} {p : Addr} (k : StOk P σ H Hf s) (hs : s.get i = x) (hox : OwnAt x (some (.ref p)) p) (hσ : σ.getD i none = some (.ref p)) (hf : Hf p = none) (h0 : P.H0 p = none) (hd : p ≠ P.pd) (hp : H p = some ho) (ht : ∀ ps, ho ≠ .tbl ps) (rp : Rep P.pd (upd Hf p ho) (.ref p) d) :
    StOk P σ H (upd Hf p ho) (s.put i (.val d)) := by
  have e2 : Same Hf (upd Hf p ho) := same_upd hf
  have hi : i < s.env.length := by
    by_cases h : i < s.env.length
    · exact h
    · unfold S.get at hs
      rw [List.getD, List.getElem?_eq_none (by omega)] at hs
      rw [← hs] at hox
      exact hox.elim
  refine ⟨k.keep, fun b u q => ?_, fun a o q => ?_, k.sub0.trans e2, k.dice, ?_, k.tabs, fun j => ?_, fun a b q h1 h2 => ?_, by simpa [S.put] using k.len, k.lk, fun a ps q => ?_⟩
  · by_cases hb : b = p
    · subst hb
      rw [upd_same] at q
      cases q
      exact hp
    · rw [upd_ne hb] at q
      exact k.sub b u q
  · have hne : a ≠ p := fun z => by rw [z, h0] at q; cases q
    rw [upd_ne hne]
    exact k.fix a o q
  · rw [upd_ne (fun z => hd z.symm)]
    exact k.dicef
  · by_cases hj : i = j
    · subst hj
      rw [get_put_same hi, hσ]
      exact ⟨_, rfl, rp⟩
    · rw [get_put_ne hj]
      refine (k.slot j).mono (fun q ws a _ _ d o => ⟨d, ?_⟩) e2
      have hne : q ≠ p := fun z => by
        subst z
        exact hj (k.dist i j q (by rw [hs, hσ]; exact hox) o)
      rw [upd_ne hne]
      exact a
  · have na : i ≠ a := fun z => by subst z; rw [get_put_same hi] at h1; exact h1
    have nb : i ≠ b := fun z => by subst z; rw [get_put_same hi] at h2; exact h2
    rw [get_put_ne na] at h1
    rw [get_put_ne nb] at h2
    exact k.dist a b q h1 h2
  · by_cases hb : a = p
    · rw [hb, upd_same] at q
      exact ht ps (Option.some.inj q)
    · rw [upd_ne hb] at q
      exact k.nt a ps q
/-- an own list is frozen -/
theorem StOk.freeze {i : Nat} {ds : List D} {vs : List V} {p : Addr} (k : StOk P σ H Hf s) (hs : s.get i = .ol ds) (hσ : σ.getD i none = some (.ref p)) (hf : Hf p = none) (h0 : P.H0 p = none) (hd : p ≠ P.pd) (hp : H p = some (.lst vs)) (r : Reps P.pd Hf vs ds) (hl : ds.length ≤ SL) :
    StOk P σ H (upd Hf p (.lst vs)) (s.put i (.val (.lst ds))) ∧ Rep P.pd (upd Hf p (.lst vs)) (.ref p) (.lst ds) :=
  have rp : Rep P.pd (upd Hf p (.lst vs)) (.ref p) (.lst ds) := .lst upd_same (Reps.mono (same_upd hf) _ _ r) hl
  ⟨k.freezeG hs rfl hσ hf h0 hd hp (fun _ z => by cases z) rp, rp⟩
/-- an own dict is frozen -/
theorem StOk.freezeD {i : Nat} {kvs : List ((Int × Int) × D)} {kvs' : List (List L2.Key × V)} {p : Addr} (k : StOk P σ H Hf s) (hs : s.get i = .od kvs) (hσ : σ.getD i none = some (.ref p)) (hf : Hf p = none) (h0 : P.H0 p = none) (hd : p ≠ P.pd) (hp : H p = some (.dT kvs')) (r1 : kvs'.map (·.1) = kvs.map (fun kv => kL kv.1)) (r2 : Reps P.pd Hf (kvs'.map (·.2)) (kvs.map (·.2))) (hl : kvs.length ≤ SL) :
    StOk P σ H (upd Hf p (.dT kvs')) (s.put i (.val (.dic (kvs.map (·.1)) (kvs.map (·.2))))) ∧ Rep P.pd (upd Hf p (.dT kvs')) (.ref p) (.dic (kvs.map (·.1)) (kvs.map (·.2))) :=
  have rp : Rep P.pd (upd Hf p (.dT kvs')) (.ref p) (.dic (kvs.map (·.1)) (kvs.map (·.2))) := .dic upd_same (by rw [r1, List.map_map]; rfl) (Reps.mono (same_upd hf) _ _ r2) (by rw [List.length_map]; exact hl)
  ⟨k.freezeG hs rfl hσ hf h0 hd hp (fun _ z => by cases z) rp, rp⟩
/-- an own list is written -/
theorem StOk.writeG {i : Nat} {x y : Sl} {ho ho' : HO} {p : Addr} (k : StOk P σ H Hf s) (hs : s.get i = x) (hox : OwnAt x (some (.ref p)) p) (hσ : σ.getD i none = some (.ref p)) (hf : Hf p = none) (h0 : P.H0 p = none) (hd : p ≠ P.pd) (hp : H p = some ho) (hT : ∀ ps, ho ≠ .tbl ps) (hE : ∀ q, ho ≠ LamX.CodeO p q) (hy : SlOk P (upd H p ho') Hf y (some (.ref p))) (hoy : ∀ q, OwnAt y (some (.ref p)) q → p = q) :
    StOk P σ (upd H p ho') Hf (s.put i y) := by
  have hi : i < s.env.length := by
    by_cases h : i < s.env.length
    · exact h
    · unfold S.get at hs
      rw [List.getD, List.getElem?_eq_none (by omega)] at hs
      rw [← hs] at hox
      exact hox.elim
  refine ⟨fun a o q n => ?_, fun b u q => ?_, k.fix, k.sub0, ?_, k.dicef, fun t ht => ?_, fun j => ?_, fun a b q h1 h2 => ?_, by simpa [S.put] using k.len, k.lk, k.nt⟩
  · have hne : a ≠ p := fun z => by rw [z, h0] at q; cases q
    rw [upd_ne hne]
    exact k.keep a o q n
  · have hne : b ≠ p := fun z => by rw [z, hf] at q; cases q
    rw [upd_ne hne]
    exact k.sub b u q
  · rw [upd_ne (fun z => hd z.symm)]
    exact k.dice
  · obtain ⟨ps, a1, a2, a3⟩ := k.tabs t ht
    have hne : t.1 ≠ p := fun z => by rw [z, hp] at a1; exact hT _ (Option.some.inj a1)
    refine ⟨ps, by rw [upd_ne hne]; exact a1, a2, fun pos cv hc => ?_⟩
    obtain ⟨c, e1, e2⟩ := a3 pos cv hc
    refine ⟨c, e1, ?_⟩
    have hnc : c ≠ p := fun z => by
      subst z
      rw [hp] at e2
      exact hE _ (Option.some.inj e2)
    rw [upd_ne hnc]
    exact e2
  · by_cases hj : i = j
    · subst hj
      rw [get_put_same hi, hσ]
      exact hy
    · rw [get_put_ne hj]
      refine (k.slot j).mono (fun q us a _ _ d o => ⟨?_, a⟩) (Same.refl _)
      have hne : q ≠ p := fun z => by
        subst z
        exact hj (k.dist i j q (by rw [hs, hσ]; exact hox) o)
      rw [upd_ne hne]
      exact d
  · have f : ∀ c, OwnAt ((s.put i y).get c) (σ.getD c none) q → OwnAt (s.get c) (σ.getD c none) q := fun c h => by
      by_cases hc : i = c
      · subst hc
        rw [get_put_same hi, hσ] at h
        rw [hs, hσ, ← hoy q h]
        exact hox
      · rw [get_put_ne hc] at h
        exact h
    exact k.dist a b q (f a h1) (f b h2)

/-- an own list is written -/
theorem StOk.write {i : Nat} {ds es : List D} {vs ws : List V} {p : Addr} (k : StOk P σ H Hf s) (hs : s.get i = .ol ds) (hσ : σ.getD i none = some (.ref p)) (hf : Hf p = none) (h0 : P.H0 p = none) (hd : p ≠ P.pd) (hp : H p = some (.lst vs)) (r : Reps P.pd Hf ws es) (hl : es.length ≤ SL) :
    StOk P σ (upd H p (.lst ws)) Hf (s.put i (.ol es)) :=
  k.writeG hs rfl hσ hf h0 hd hp (fun _ z => by cases z) (fun _ z => by cases z) ⟨p, ws, rfl, hf, fun _ => h0, hd, upd_same, r, hl⟩ (fun q h => by
    have z : (some (V.ref p) : Option V) = some (.ref q) := h
    injection z with z
    injection z)

/-- an own thing is locked: it changes, and is frozen -/
theorem StOk.lockG {i : Nat} {x : Sl} {d : D} {ho ho' : HO} {p : Addr} (k : StOk P σ H Hf s) (hs : s.get i = x) (hox : OwnAt x (some (.ref p)) p) (hσ : σ.getD i none = some (.ref p)) (hf : Hf p = none) (h0 : P.H0 p = none) (hd : p ≠ P.pd) (hp : H p = some ho) (hT : ∀ ps, ho ≠ .tbl ps) (hE : ∀ q, ho ≠ LamX.CodeO p q) (ht : ∀ ps, ho' ≠ .tbl ps) (rp : Rep P.pd (upd Hf p ho') (.ref p) d) :
    StOk P σ (upd H p ho') (upd Hf p ho') (s.put i (.val d)) := by
  have e2 : Same Hf (upd Hf p ho') := same_upd hf
  have hi : i < s.env.length := by
    by_cases h : i < s.env.length
    · exact h
    · unfold S.get at hs
      rw [List.getD, List.getElem?_eq_none (by omega)] at hs
      rw [← hs] at hox
      exact hox.elim
  refine ⟨fun a o q n => ?_, same_upd2 k.sub, fun a o q => ?_, k.sub0.trans e2, ?_, ?_, fun t htt => ?_, fun j => ?_, fun a b q h1 h2 => ?_, by simpa [S.put] using k.len, k.lk, fun a ps q => ?_⟩
  · have hne : a ≠ p := fun z => by rw [z, h0] at q; cases q
    rw [upd_ne hne]
    exact k.keep a o q n
  · have hne : a ≠ p := fun z => by rw [z, h0] at q; cases q
    rw [upd_ne hne]
    exact k.fix a o q
  · rw [upd_ne (fun z => hd z.symm)]
    exact k.dice
  · rw [upd_ne (fun z => hd z.symm)]
    exact k.dicef
  · obtain ⟨ps, a1, a2, a3⟩ := k.tabs t htt
    have hne : t.1 ≠ p := fun z => by rw [z, hp] at a1; exact hT _ (Option.some.inj a1)
    refine ⟨ps, by rw [upd_ne hne]; exact a1, a2, fun pos cv hc => ?_⟩
    obtain ⟨c, e1, e3⟩ := a3 pos cv hc
    refine ⟨c, e1, ?_⟩
    have hnc : c ≠ p := fun z => by
      subst z
      rw [hp] at e3
      exact hE _ (Option.some.inj e3)
    rw [upd_ne hnc]
    exact e3
  · by_cases hj : i = j
    · subst hj
      rw [get_put_same hi, hσ]
      exact ⟨_, rfl, rp⟩
    · rw [get_put_ne hj]
      refine (k.slot j).mono (fun q ws a _ _ d o => ?_) e2
      have hne : q ≠ p := fun z => by
        subst z
        exact hj (k.dist i j q (by rw [hs, hσ]; exact hox) o)
      rw [upd_ne hne, upd_ne hne]
      exact ⟨d, a⟩
  · have na : i ≠ a := fun z => by subst z; rw [get_put_same hi] at h1; exact h1
    have nb : i ≠ b := fun z => by subst z; rw [get_put_same hi] at h2; exact h2
    rw [get_put_ne na] at h1
    rw [get_put_ne nb] at h2
    exact k.dist a b q h1 h2
  · by_cases hb : a = p
    · rw [hb, upd_same] at q
      exact ht ps (Option.some.inj q)
    · rw [upd_ne hb] at q
      exact k.nt a ps q
/-- what a call leaves -/
structure Grow (pd : Addr) (H Hf H' Hf' : Hp) (n k : Int) : Prop where
  keep : ∀ a o, H a = some o → a ≠ pd → H' a = some o
  sub : Same Hf' H'
  fix : ∀ a o, H a = some o → Hf' a = Hf a
  sub0 : Same Hf Hf'
  dice : H' pd = some (.lst [.int n, .int k])
  dicef : Hf' pd = none
  nt : ∀ a ps, Hf' a ≠ some (.tbl ps)
theorem tabs_grow {T : List (Addr × Str)} {pd : Addr} {H H' : Hp} {n k : Int} (t : LamX.Tabs T H) (hd : H pd = some (.lst [.int n, .int k])) (keep : ∀ a o, H a = some o → a ≠ pd → H' a = some o) : LamX.Tabs T H' := fun q hq => by
  obtain ⟨ps, a1, a2, a3⟩ := t q hq
  have hne : q.1 ≠ pd := fun z => by rw [z, hd] at a1; cases a1
  refine ⟨ps, keep _ _ a1 hne, a2, fun pos cv hc => ?_⟩
  obtain ⟨c, e1, e2⟩ := a3 pos cv hc
  refine ⟨c, e1, keep _ _ e2 fun z => ?_⟩
  rw [z, hd] at e2
  unfold LamX.CodeO at e2
  cases e2
theorem StOk.call {H' Hf' : Hp} {n k : Int} (st : StOk P σ H Hf s) (g : Grow P.pd H Hf H' Hf' n k) : StOk P σ H' Hf' { s with dn := n, dk := k } := by
  refine ⟨fun a o q n => g.keep _ _ (st.keep a o q n) n, g.sub, fun a o q => ?_, st.sub0.trans g.sub0, g.dice, g.dicef, tabs_grow st.tabs st.dice g.keep, fun i => ?_, st.dist, st.len, st.lk, g.nt⟩
  · by_cases hpd : a = P.pd
    · have e1 : Hf' a = none := by rw [hpd]; exact g.dicef
      have e2 : Hf a = none := by rw [hpd]; exact st.dicef
      rw [e1, ← e2]
      exact st.fix a o q
    · rw [g.fix a _ (st.keep a o q hpd)]
      exact st.fix a o q
  · refine (st.slot i).mono (fun p vs a _ c d _ => ⟨g.keep _ _ d c, ?_⟩) g.sub0
    rw [g.fix p _ d]
    exact a
/-- the state for a part that is to keep all that stands (a comprehension's turn, a lambda's body) -/
def Par.lock (P : Par) (H Hf : Hp) : Par := ⟨P.pd, H, Hf, [], true, P.w⟩
theorem StOk.lock (st : StOk P σ H Hf s) : StOk (P.lock H Hf) σ H Hf { s with lk := true } := by
  refine ⟨fun _ _ e _ => e, st.sub, fun _ _ _ => rfl, Same.refl _, st.dice, st.dicef, fun p hp => absurd hp (by simp [Par.lock]), fun i => ?_, st.dist, st.len, rfl, st.nt⟩
  have h := st.slot i
  show SlOk (P.lock H Hf) H Hf (s.get i) _
  cases e : s.get i with
  | un => trivial
  | val d => rw [e] at h; exact h
  | ol ds =>
    rw [e] at h
    obtain ⟨p, vs, e1, a, b, c, d, r, z⟩ := h
    exact ⟨p, vs, e1, a, (fun q => by cases q), c, d, r, z⟩
  | od kvs =>
    rw [e] at h
    obtain ⟨p, vs, e1, a, b, c, d, r, z⟩ := h
    exact ⟨p, vs, e1, a, (fun q => by cases q), c, d, r, z⟩
  | oi kvs =>
    rw [e] at h
    obtain ⟨p, vs, e1, a, b, c, d, r, z⟩ := h
    exact ⟨p, vs, e1, a, (fun q => by cases q), c, d, r, z⟩
  | os kvs =>
    rw [e] at h
    obtain ⟨p, vs, e1, a, b, c, d, r, z⟩ := h
    exact ⟨p, vs, e1, a, (fun q => by cases q), c, d, r, z⟩
theorem StOk.grown {σ' : St} {H' Hf' : Hp} {t : S} (st : StOk (P.lock H Hf) σ' H' Hf' t) : Grow P.pd H Hf H' Hf' t.dn t.dk :=
  ⟨st.keep, st.sub, st.fix, st.sub0, st.dice, st.dicef, st.nt⟩
end
end Fw

set_option Elab.async false
set_option linter.all false
set_option autoImplicit false
set_option maxRecDepth 100000
set_option maxHeartbeats 4000000
namespace Fw
open PySem PySem.Spec PyProof.Rows L2
/-! ### enumerate of a text, or of a list -/
def IteX (x : Str) : L2.It :=
  ⟨fun i _ => i < x.cps.size, fun i H v H' => ∃ T c, v = .ref T ∧ H T = none ∧ H' = upd H T (.tup [.int (i : Nat), .str ⟨#[c]⟩]) ∧ x.cps[i]? = some c, fun i _ => x.cps.size ≤ i⟩
theorem draws_txt {prog : Program} {w : World} {A : Around} (hh : A.handled = none) (it : Addr) (x : Str) (t : Tok) :
    Draws prog w A it [it] x.cps.size (fun i v => ∃ c u, x.cps[i]? = some c ∧ v = .str ⟨#[c]⟩ u) (fun i h => h.IsStrIter it (strIterType x) x t i) := by
  unfold strIterType
  split
  · exact Draws.strAscii hh it x t
  · exact Draws.strWide hh it x t
theorem turn_enumT {P : Program} {w : World} {K : PySem.W.Frag} {elts : List Expr} {kk : Nat} {tpos : Pos} (x : Str) (t : Tok) (e it : Addr) :
    Turn P w K (.Tuple elts kk tpos) (IteX x) [e, it] e (fun i h => (∃ old, IsEnum h e it ((i : Nat) : Int) old) ∧ h.IsStrIter it (strIterType x) x t i ∧ e ≠ it ∧ i ≤ x.cps.size) where
  mem := by simp
  obj := fun i h st b hb => by
    obtain ⟨⟨old, he⟩, ⟨o, ho, hc, hd⟩, _⟩ := st
    have e' : b = e ∨ b = it := by simpa using hb
    rcases e' with z | z
    · rw [z]; exact ⟨_, he, fun v q => nomatch q⟩
    · rw [z]; exact ⟨o, ho, fun v q => by rw [hd] at q; cases q⟩
  keep := fun i h h' st k => let ⟨⟨old, he⟩, ⟨o, ho, r⟩, hne, hi⟩ := st; ⟨⟨old, k e (by simp) _ he⟩, ⟨o, k it (by simp) o ho, r⟩, hne, hi⟩
  item := by
    intro X hP hw hK hc i pins s σ H E I hf st hg
    subst hP hw hK
    obtain ⟨⟨old, he⟩, hit, hne, hi⟩ := st
    have hel : e < s.heap.objs.size := Heap.lt_size he
    have hil : it < s.heap.objs.size := by obtain ⟨_, q, _⟩ := hit; exact Heap.lt_size q
    have hA : X.A.in1.handled = none := I.ok.hd hc
    refine wpAny_pyNext_enum_itemD (draws_txt hA it x t) he hit hg hne (fun z => hne (List.mem_singleton.mp z)) fun u h' tk hP ho hit' hT hsz hk => ?_
    obtain ⟨c, tu, hcx, rfl⟩ := hP
    refine ⟨_, rfl, wpAny_letOwnedTupleGo_enum (s := { s with heap := h', toks := tk + 1 }) ho fun h'' he' sb => ?_⟩
    have hT2 : h''.get? s.heap.objs.size = some { cls := .type "tuple", data := .seq #[.int i tk, .str ⟨#[c]⟩ tu] } := (sb.2 _ (Nat.ne_of_gt hel)).trans hT
    have new : ObjOk X.prog X.w (upd H s.heap.objs.size (.tup [.int (i : Nat), .str ⟨#[c]⟩])) h'' s.heap.objs.size (.tup [.int (i : Nat), .str ⟨#[c]⟩]) :=
      ⟨by show 2 ≤ sizeLine; decide, [.int i tk, .str ⟨#[c]⟩ tu], .cons ⟨_, rfl⟩ (.cons ⟨_, rfl⟩ .nil), ⟨_, hT2, rfl, _, rfl⟩⟩
    have I1 : Inv X pins σ (upd H s.heap.objs.size (.tup [.int (i : Nat), .str ⟨#[c]⟩])) { s with heap := h'', toks := tk + 1 } :=
      I.turnedNew (ch := [e, it]) (fun b ob hb q => (sb.2 b (fun z => hb (by simp [z]))).trans (hk b ob (fun z => hb (by simp [z])) (fun z => hb (by simp [z])) q)) hf (Nat.le_refl _) new
    obtain ⟨o, ho', r⟩ := hit'
    refine ⟨.ref s.heap.objs.size, _, I1, rfl, ⟨_, c, rfl, I.hok.fresh (Nat.le_refl _), rfl, hcx⟩, ⟨⟨.str ⟨#[c]⟩ tu, ?_⟩, ⟨o, (sb.2 it (Ne.symm hne)).trans ho', r⟩, hne, hg⟩, fun b hb => ?_⟩
    · have e1 : ((i + 1 : Nat) : Int) = (i : Int) + 1 := by omega
      rw [e1]; exact he'
    · have hb' : b < s.heap.objs.size := by
        have e' : b = e ∨ b = it := by simpa using hb
        rcases e' with z | z
        · rw [z]; exact hel
        · rw [z]; exact hil
      rw [upd_ne (Nat.ne_of_lt hb')]
      exact (hf b hb).1
  done := by
    intro X hP hw hK hc i pins s σ H E I hf st hg
    subst hP hw hK
    obtain ⟨⟨old, he⟩, hit, hne, hi⟩ := st
    have ei : i = x.cps.size := Nat.le_antisymm hi hg
    subst ei
    obtain ⟨f0, f1, f2, f3, f4, f5⟩ := hf it (by simp)
    have hA : X.A.in1.handled = none := I.ok.hd hc
    exact wpAny_pyNext_enum_endD (draws_txt hA it x t) he hit fun h' eb => ⟨rfl, I.turned (t' := s.toks) (fun b o hb q => eb b o hb q) f0 f1 f3 f4 f5⟩
  self := fun A i s Q E st h => let ⟨⟨_, he⟩, _⟩ := st; wpAny_pyIter_enum he h
def iEnA (K : PySem.W.Frag) (ta : TA) : TI := fun σ H R => ta σ H fun vs H1 => (∃ a xs, vs = [.ref a] ∧ SqL K H1 a xs ∧ R (Ite K a) H1) ∨ ∃ x, vs = [.str x] ∧ R (IteX x) H1
theorem pi_enA {X : Cx} {e : Expr} {ta : TA} {p pos tpos : Pos} {elts : List Expr} {kk : Nat} (hg : Gl X "enumerate") (hm : X.mg "enumerate" = none) (ha : PA X [e] ta) (hs : starEach [e] X.env = [(false, eval e X.env)] := by rfl) :
    PI X (.Tuple elts kk tpos) (.Call (.Name "enumerate" p) [e] [] pos) (iEnA X.K ta) := by
  refine ⟨fun pins s σ H R I h => ?_⟩
  refine Call_ (ld_blt I hg hm boot_enumerate (PyProof.Rows.callWith_type1 (thn (ha.run pos pins s σ H _ I h) fun us s1 ⟨vs, H1, I1, r1, q1⟩ => ?_) hs rfl))
  have fp : ∀ b ∈ [s1.heap.objs.size + 1, s1.heap.objs.size], s1.heap.objs.size ≤ b := fun b hb => by
    have e' : b = s1.heap.objs.size + 1 ∨ b = s1.heap.objs.size := by simpa using hb
    rcases e' with z | z
    · rw [z]; exact Nat.le_add_right _ _
    · rw [z]; exact Nat.le_refl _
  rcases q1 with ⟨a, xs, ex, hq, q⟩ | ⟨x, ex, q⟩
  · subst ex
    cases r1 with
    | cons r rr =>
      cases rr
      cases r
      obtain ⟨its, rv, p', hz⟩ := I1.list hq
      refine call_enumerate_list p'.isList fun h' he hit hsz hk => wpAny_pyIter_enum he ?_
      have I2 : Inv X pins σ H1 { s1 with heap := h' } := I1.kept (t' := s1.toks) hk
      exact ⟨s1.heap.objs.size + 1, [s1.heap.objs.size + 1, s1.heap.objs.size], _, _, H1, rfl, I2, turn_enum a (s1.heap.objs.size + 1) s1.heap.objs.size, ⟨⟨.none, he⟩, hit, Nat.succ_ne_self _⟩, fun b hb => I1.fpOk (fp b hb) (I1.hok.fresh (fp b hb)), q⟩
  · subst ex
    cases r1 with
    | cons r rr =>
      cases rr
      obtain ⟨t, rfl⟩ := r
      refine call_enumerate_str fun h' he hit hsz hk => wpAny_pyIter_enum he ?_
      have I2 : Inv X pins σ H1 { s1 with heap := h' } := I1.kept (t' := s1.toks) hk
      exact ⟨s1.heap.objs.size + 1, [s1.heap.objs.size + 1, s1.heap.objs.size], _, _, H1, rfl, I2, turn_enumT x t (s1.heap.objs.size + 1) s1.heap.objs.size, ⟨⟨.none, he⟩, hit, Nat.succ_ne_self _, Nat.zero_le _⟩, fun b hb => I1.fpOk (fp b hb) (I1.hok.fresh (fp b hb)), q⟩
end Fw

set_option Elab.async false
set_option linter.all false
set_option autoImplicit false
set_option maxRecDepth 100000
set_option maxHeartbeats 2000000
/-! FwTr: the reading of a deep expression, of a deep statement, and that it follows from the evaluator's word. -/
namespace Fw
open PySem L2

structure Gm where
  K : PySem.W.Frag
  cl : Nat → Addr
  gd : Nat → Addr
  T : List (Addr × Str)
  tt : (XK → Hp → VK → Prop) → Hp → VK → Prop
  sp : Nat → Sp
  w : World

/-! ### the operators' readings -/
def rCatS : R2 := fun x y H Q => ∃ i j, x = .str i ∧ y = .str j ∧ i.length + j.length ≤ sizeLine ∧ Q (.str (i ++ j)) H
def rRepS : R2 := fun x y H Q => ∃ (a : Tx) (k : Int), x = .str (SX.S a) ∧ y = .int k ∧ a.length ≤ 16 ∧ 0 ≤ k ∧ k ≤ 1000 ∧ Q (.str (SX.S (List.replicate k.toNat a).flatten)) H
def rBin (K : PySem.W.Frag) : Bop → R2
  | .add => fun x y H Q => rI0 (fun i j => .int (i + j)) x y H Q ∨ rCatS x y H Q ∨ rCatA K x y H Q ∨ rCat x y H Q
  | .sub => rI0 fun i j => .int (i - j)
  | .mul => fun x y H Q => rI CMul (fun i j => .int (i * j)) x y H Q ∨ rI CMulW (fun i j => .int (i * j)) x y H Q ∨ rRepS x y H Q ∨ rRepT K x y H Q
  | .fdiv => rI CDivW fun i j => .int (i / j)
  | .mod => rI (fun _ j => 0 < j) fun i j => .int (i % j)
  | .pow => rI CPow fun i j => .int (i ^ j.toNat)
def rInS : R2 := fun x y H Q => ∃ (c : Nat) (z : Str), x = .str ⟨#[c]⟩ ∧ y = .str z ∧ Q (.bl (decide (c ∈ z.cps.toList))) H
def rNinS : R2 := fun x y H Q => ∃ (c : Nat) (z : Str), x = .str ⟨#[c]⟩ ∧ y = .str z ∧ Q (.bl (!decide (c ∈ z.cps.toList))) H
def rCmp (K : PySem.W.Frag) : Cop → R2
  | .eq => rEqD K
  | .ne => rNeD K
  | .lt => rI0 fun i j => .bl (decide (i < j))
  | .le => rI0 fun i j => .bl (decide (i ≤ j))
  | .gt => rI0 fun i j => .bl (decide (j < i))
  | .ge => rI0 fun i j => .bl (decide (j ≤ i))
  | .in_ => fun x y H Q => rInS x y H Q ∨ rIn K false x y H Q ∨ rInD K x y H Q
  | .nin => fun x y H Q => rNinS x y H Q ∨ rIn K true x y H Q ∨ rNotInD K x y H Q
  | .isN => fun x y H Q => y = .non ∧ Q (.bl (decide (x = .non))) H
  | .notN => fun x y H Q => y = .non ∧ Q (.bl (!decide (x = .non))) H
def tyN : Ty → String
  | .int => "int"
  | .bool => "bool"
  | .str => "str"
  | .tuple => "tuple"
/-- sorted of a list of tuples of texts: b.1 the tuple, b.2 its texts -/
def encB (b : Addr × List Str) : PyData := .tuple (b.2.map .str)
def rSortedB (K : PySem.W.Frag) : List V → Hp → VK → Prop := fun xs H Q => ∃ (a : Addr) (ts : List (Addr × List Str)), xs = [V.ref a] ∧ SqL K H a (ts.map fun b => V.ref b.1) ∧ (∀ b ∈ ts, b.2 ≠ [] ∧ SqT K H b.1 (b.2.map V.str)) ∧
  ∀ p : Addr, H p = none → Q (.ref p) (upd H p (.lst ((ts.mergeSort (PySem.W.dataLe false encB)).map fun b => V.ref b.1)))
/-- sorted of a list of pairs of numbers -/
def encP (b : Addr × Int × Int) : PyData := .tuple [.int b.2.1, .int b.2.2]
def rSortedP (K : PySem.W.Frag) : List V → Hp → VK → Prop := fun xs H Q => ∃ (a : Addr) (ts : List (Addr × Int × Int)), xs = [V.ref a] ∧ SqL K H a (ts.map fun b => V.ref b.1) ∧ (∀ b ∈ ts, SqT K H b.1 [V.int b.2.1, V.int b.2.2]) ∧
  ∀ p : Addr, H p = none → Q (.ref p) (upd H p (.lst ((ts.mergeSort (PySem.W.dataLe false encP)).map fun b => V.ref b.1)))
def rB1 (K : PySem.W.Frag) : B1 → List V → Hp → VK → Prop
  | .tuple => fun xs H Q => ∃ p ys, xs = [.ref p] ∧ ((SqL K H p ys ∧ ∀ l, H l = none → Q (.ref l) (upd H l (.tup ys))) ∨ (SqT K H p ys ∧ Q (.ref p) H))
  | .list => fun xs H Q => ∃ p ys, xs = [.ref p] ∧ (SqL K H p ys ∨ SqT K H p ys) ∧ ∀ l, H l = none → Q (.ref l) (upd H l (.lst ys))
  | .all => rAll K
  | .sum => fun xs H Q => rSum K xs H Q ∨ ∃ (a : Addr) (ns : List Int), xs = [V.ref a] ∧ SqT K H a (ns.map V.int) ∧ Q (.int ns.sum) H
  | .abs => fun xs H Q => ∃ i, xs = [.int i] ∧ Q (.int (if i < 0 then -i else i)) H
  | .int => fun xs H Q => ((∃ i, xs = [.int i] ∧ Q (.int i) H) ∨ ∃ k, xs = [.bl k] ∧ Q (.int (if k then 1 else 0)) H) ∨ ∃ a n, xs = [.str a] ∧ PySem.intText? a = some n ∧ a.length ≤ 640 ∧ Q (.int n) H
  | .len => fun xs H Q => ∃ x n, xs = [x] ∧ LenV K x H n ∧ Q (.int n) H
  | .sorted => fun xs H Q => rSortedI K xs H Q ∨ (∃ (a : Addr) (ns : List Int), xs = [V.ref a] ∧ SqT K H a (ns.map V.int) ∧ ∀ (ns' : List Int) (p : Addr), ns'.Perm ns → ns'.Pairwise (· ≤ ·) → H p = none → Q (.ref p) (upd H p (.lst (ns'.map V.int)))) ∨ rSortedB K xs H Q
  | .str => fun xs H Q => ∃ i, xs = [.int i] ∧ i.natAbs.log2 < 1920 ∧ Q (.str (toString i)) H
  | .tpk => rTupK K
  | .sortp => rSortedP K
def rB2 : B2 → List V → Hp → VK → Prop
  | .min => fun xs H Q => ∃ i j, xs = [.int i, .int j] ∧ Q (.int (if j < i then j else i)) H
  | .max => fun xs H Q => ∃ i j, xs = [.int i, .int j] ∧ Q (.int (if j > i then j else i)) H
def rSl (K : PySem.W.Frag) : V → Option Int → Option Int → Hp → VK → Prop := fun x lo hi H Q => rSlS x lo hi H Q ∨ rSlA K x lo hi H Q ∨ rSlL K x lo hi H Q
def tIxG (K : PySem.W.Frag) (a : Addr) (tb : TE) : TE := fun σ H Q => tb σ H fun y H1 => ∃ (z : Str) (u0 : Value) (v0 : V), y = .str z ∧ PySem.W.nsIn K a z = some (some u0) ∧ RelV v0 u0 ∧ Q v0 H1
/-- xs[::-1], of a list or of a text -/
def tRevA (K : PySem.W.Frag) (te : TE) : TE := fun σ H Q => te σ H fun x H1 => (∃ a xs, x = .ref a ∧ SqL K H1 a xs ∧ ∀ p, H1 p = none → Q (.ref p) (upd H1 p (.lst xs.reverse))) ∨ ∃ l : Tx, x = .str (SX.S l) ∧ l.length ≤ SL ∧ Q (.str (SX.S l.reverse)) H1
def wF : XK := fun _ _ _ => False
abbrev wx (W : XK) : WX := fun c d _ H => W c d H
def rM (K : PySem.W.Frag) (W : XK) : M1 → St → V → List V → Hp → VK → Prop
  | .join => fun _ x xs H Q => ∃ a p, ∃ ys : List Str, x = .str a ∧ xs = [.ref p] ∧ (SqL K H p (ys.map V.str) ∨ SqT K H p (ys.map V.str)) ∧ (ys.map (·.length)).sum + ys.length * a.length ≤ 16777216 ∧ Q (.str (Txt.join a ys)) H
  | .count => fun _ x xs H Q => ∃ a b, x = .str a ∧ xs = [.str b] ∧ Q (.int (Txt.count a b)) H
  | .index => rIndexX (wx wF)
  | .split => fun _ x xs H Q => ∃ a b, x = .str a ∧ xs = [.str b] ∧ (b.length == 0) = false ∧ a.length + 2 ≤ sizeLine ∧ rNewStrs (Txt.split a b) H Q
def iSeq (K : PySem.W.Frag) (te : TE) : TI := fun σ H R => te σ H fun x H1 => (∃ a, x = .ref a ∧ (∃ xs, SqL K H1 a xs) ∧ R (Itl K a) H1) ∨ (∃ a, x = .ref a ∧ (∃ xs, SqT K H1 a xs) ∧ R (Itt K a) H1) ∨ ∃ z, x = .str z ∧ R (Its z) H1

/-! ### a def's promise -/
def FPost (cl : Nat → Addr) (pd : Addr) (H Hf : Hp) (Q : VK) (E : XK) : Res (D × Int × Int) → Prop
  | .ok (d, n, k) => ∀ v H' Hf', Grow pd H Hf H' Hf' n k → Rep pd Hf' v d → Q v H'
  | .exc c n k => ∀ H' Hf', Grow pd H Hf H' Hf' n k → E (.ref (cl c)) none H'
  | .stuck => False
def spF (cl : Nat → Addr) (ar : Nat) (F : FSem) : Sp := fun vs H Q E => vs.length = ar ∧ ∃ (pd : Addr) (n k : Int) (Hf : Hp) (ds : List D), Reps pd Hf vs ds ∧ Same Hf H ∧ H pd = some (.lst [.int n, .int k]) ∧ Hf pd = none ∧ (∀ a ps, Hf a ≠ some (.tbl ps)) ∧ FPost cl pd H Hf Q E (F ds n k)

/-! ### the readings -/
def Tgs.len : Tgs → Nat
  | .nil => 0
  | .cons _ r => r.len + 1
def Es.len : Es → Nat
  | .nil => 0
  | .cons _ r => r.len + 1
mutual
def trg (K : PySem.W.Frag) : Tg → TG
  | .nm i => gName i
  | .tup ts => gTup K ts.len (trgs K ts)
def trgs (K : PySem.W.Frag) : Tgs → TGs
  | .nil => gNil
  | .cons t r => gCons (trg K t) (trgs K r)
end
mutual
def tr (g : Gm) : E → XK → TE
  | .var i, _ => tVar i
  | .int n, _ => tC (.int n)
  | .bl b, _ => tC (.bl b)
  | .non, _ => tC .non
  | .str l, _ => tC (.str (SX.S l))
  | .gstr _ l, _ => tC (.str (SX.S l))
  | .isi a t, W => tCB (rIsi g.K) (tCons (tr g a W) (tCons (tC (.ty (tyN t))) tNil))
  | .bin op a b, W => tOp (rBin g.K op) (tr g a W) (tr g b W)
  | .neg a, W => tUn (rU fun i => .int (-i)) (tr g a W)
  | .not a, W => tNotV (tr g a W)
  | .cmp op a b, W => tOp (rCmp g.K op) (tr g a W) (tr g b W)
  | .chain op op' a b c, W => tChain (rCmp g.K op) (rCmp g.K op') (tr g a W) (tr g b W) (tr g c W)
  | .and es, W => trAnd g es W
  | .or es, W => trOr g es W
  | .ife t a b, W => tIf (trT g t W) (tr g a W) (tr g b W)
  | .tup es, W => tTup (trs g es W)
  | .lst es, W => tLst (trs g es W)
  | .ix a b, W => tOp (rIx g.K) (tr g a W) (tr g b W)
  | .ixo i b, W => tOp (rIx g.K) (tVar i) (tr g b W)
  | .ixg x _ b, W => tIxG g.K (g.gd x) (tr g b W)
  | .sl a lo hi, W => tSl (rSl g.K) (tr g a W) (tro g lo W) (tro g hi W)
  | .rev a, W => tRevA g.K (tr g a W)
  | .call _ F es, W => tCallS (spF g.cl es.len F) (fun _ => W) (trs g es W)
  | .leno i, _ => tCB (rB1 g.K .len) (tCons (tVar i) tNil)
  | .b1 f a, W => tCB (rB1 g.K f) (tCons (tr g a W) tNil)
  | .b2 f a b, W => tCB (rB2 f) (tCons (tr g a W) (tCons (tr g b W) tNil))
  | .m1 m o a, W => tBMS g.K "str" (rM g.K W m) (tr g o W) (tCons (tr g a W) tNil)
  | .lc tg it elt, W => tLc (tri g it W) (trg g.K tg) tYes (tr g elt wF) tg.slots
  | .lcf tg it c elt, W => tLc (tri g it W) (trg g.K tg) (trT g c wF) (tr g elt wF) tg.slots
  | .told e, _ => LamX.tLam g.T g.tt (fun W => tr g e W)
  | .callS f es, W => tCallS (g.sp f) (fun _ => W) (trs g es W)
  | .dget i k d, W => tDGet2 (tVar i) (tr g k W) (tr g d W)
  | .din i k, W => tDIn (tr g k W) (tVar i)
  | .dnin i k, W => tDNotIn (tr g k W) (tVar i)
  | .dix i k, W => tDGet (tVar i) (tr g k W)
  | .slk a lo hi, W => tSl (rSlK g.K) (tr g a W) (tro g lo W) (tro g hi W)
  | .cntk o a, W => tCntK g.K (tr g o W) (tCons (tr g a W) tNil)
  | .iget i k d, W => tDGet2 (tVar i) (tr g k W) (tr g d W)
  | .iix i k, W => tDGet (tVar i) (tr g k W)
  | .snin i k, W => tSNin g.w (tr g k W) (tVar i)
  | .six i k, W => tSGet g.w (tVar i) (tr g k W)
  | .slen i, _ => tCB (rLenS g.w) (tCons (tVar i) tNil)
  | .slist i, _ => tCB (rListS g.w) (tCons (tVar i) tNil)
  | .ilist i, _ => tCB rListD (tCons (tVar i) tNil)
def trT (g : Gm) : E → XK → TT
  | .cmp op a b, W => tTest (tOp (rCmp g.K op) (tr g a W) (tr g b W))
  | .chain op op' a b c, W => tTest (tChain (rCmp g.K op) (rCmp g.K op') (tr g a W) (tr g b W) (tr g c W))
  | .not a, W => tNot (trT g a W)
  | .and es, W => trAndT g es W
  | .or es, W => trOrT g es W
  | .var i, W => tB (tVar i)
  | .bl b, _ => tB (tC (.bl b))
  | .isi a t, W => tB (tCB (rIsi g.K) (tCons (tr g a W) (tCons (tC (.ty (tyN t))) tNil)))
  | .call _ F es, W => tB (tCallS (spF g.cl es.len F) (fun _ => W) (trs g es W))
  | .b1 f a, W => tB (tCB (rB1 g.K f) (tCons (tr g a W) tNil))
  | .dget i k d, W => tB (tDGet2 (tVar i) (tr g k W) (tr g d W))
  | .din i k, W => tTest (tDIn (tr g k W) (tVar i))
  | .dnin i k, W => tTest (tDNotIn (tr g k W) (tVar i))
  | .snin i k, W => tTest (tSNin g.w (tr g k W) (tVar i))
  | _, _ => fun _ _ _ => False
def trs (g : Gm) : Es → XK → TA
  | .nil, _ => tNil
  | .cons e r, W => tCons (tr g e W) (trs g r W)
def trAnd (g : Gm) : Es → XK → TE
  | .nil, _ => fun _ _ _ => False
  | .cons e .nil, W => tr g e W
  | .cons e (.cons e' r), W => tAndV (tr g e W) (trAnd g (.cons e' r) W)
def trOr (g : Gm) : Es → XK → TE
  | .nil, _ => fun _ _ _ => False
  | .cons e .nil, W => tr g e W
  | .cons e (.cons e' r), W => tOrV (tr g e W) (trOr g (.cons e' r) W)
def trAndT (g : Gm) : Es → XK → TT
  | .nil, _ => fun _ _ _ => False
  | .cons e .nil, W => trT g e W
  | .cons e (.cons e' r), W => tAnd (trT g e W) (trAndT g (.cons e' r) W)
def trOrT (g : Gm) : Es → XK → TT
  | .nil, _ => fun _ _ _ => False
  | .cons e .nil, W => trT g e W
  | .cons e (.cons e' r), W => tOr (trT g e W) (trOrT g (.cons e' r) W)
def tro (g : Gm) : Oe → XK → TO
  | .none, _ => tNoPart
  | .some e, W => tPart (tr g e W)
def tri (g : Gm) : It → XK → TI
  | .seq e, W => iSeq g.K (tr g e W)
  | .rng e, W => iRng1 (tCons (tr g e W) tNil)
  | .rng2 a b, W => iRng2 (tCons (tr g a W) (tCons (tr g b W) tNil))
  | .enum e, W => iEnA g.K (tCons (tr g e W) tNil)
  | .ikeys i, _ => iKeysF (tVar i)
end
def trRi (g : Gm) : Ri → XK → TE
  | .ex e, W => tr g e W
  | .nl es, W => tLst (trs g es W)
  | .nd, _ => tDNewT
  | .ni, _ => tDNewK
  | .ns, _ => tSNew g.w
mutual
def trS (g : Gm) : Sm → XK → TS
  | .set i e, W => tAsg (tr g e W) (gName i)
  | .setLc i tg it elt, W => tAsg (tr g (.lc tg it elt) W) (gName i)
  | .setLcf i tg it c elt, W => tAsg (tr g (.lcf tg it c elt) W) (gName i)
  | .own i es, W => tAsg (tLst (trs g es W)) (gName i)
  | .asg tg e, W => tAsg (tr g e W) (trg g.K tg)
  | .par i j a b, W => tPar i j (tCons (trRi g a W) (tCons (trRi g b W) tNil))
  | .app i e, W => tDrop (tBM g.K "list" rAppend (tVar i) (tCons (tr g e W) tNil))
  | .dset i j e, W => tAsg (tr g e W) (gSub (tVar i) (tC (.int (j : Nat))) rSetL)
  | .expr e, W => tDrop (tr g e W)
  | .ret e, W => tRet (tr g e W)
  | .iff t a b, W => tIfS (trT g t W) (trSs g a W) (trSs g b W)
  | .rais c, W => fun _ σ H => W (.ref (g.cl c)) none H
  | .whil _ t b, W => tWhile (trT g t W) (trSs g b W)
  | .for_ tg it b, W => tFor (tri g it W) (trg g.K tg) (trSs g b W)
  | .dnew i, W => tAsg tDNewT (gName i)
  | .dput i k e, W => sDPut (tVar i) (tr g k W) (tr g e W)
  | .iput i k e, W => sDPut (tVar i) (tr g k W) (tr g e W)
  | .sput i k e, W => sSPut g.w (tVar i) (tr g k W) (tr g e W)
  | .any, _ => fun _ _ _ => False
  | .sputp i k j a b, W => tAsg (tTup (tCons (tr g a W) (tCons (tr g b W) tNil))) (gTup g.K 2 (gCons (gSub (tVar i) (tr g k W) (rSetS g.w)) (gCons (gName j) gNil)))
  | .iputp i k j a b, W => tAsg (tTup (tCons (tr g a W) (tCons (tr g b W) tNil))) (gTup g.K 2 (gCons (gSub (tVar i) (tr g k W) rSetD) (gCons (gName j) gNil)))
  | .nsi i j, _ => tAsg (tTup (tCons (tSNew g.w) (tCons tDNewK tNil))) (trg g.K (.tup (.cons (.nm i) (.cons (.nm j) .nil))))
  | .nix i j n, _ => tAsg (tTup (tCons tDNewK (tCons (tC (.int n)) tNil))) (trg g.K (.tup (.cons (.nm i) (.cons (.nm j) .nil))))
  | .par3 i j l a b c, W => tPar3 i j l (tCons (tr g a W) (tCons (tr g b W) (tCons (tr g c W) tNil)))
def trSs (g : Gm) : Ss → XK → TS
  | .nil, _ => tNext
  | .cons a r, W => tSeq (trS g a W) (trSs g r W)
end
end Fw

set_option Elab.async false
set_option linter.all false
set_option autoImplicit false
set_option maxRecDepth 100000
set_option maxHeartbeats 4000000
/-! FwSort: sorted of a list of boards. -/
namespace Fw
open PySem PySem.Spec PyProof.Rows L2
theorem ltT_eq : ∀ a b : List Nat, decide (a < b) = ltT a b
  | [], [] => by simp [ltT]
  | [], _ :: _ => by simp [ltT]
  | _ :: _, [] => by simp [ltT]
  | x :: a, y :: b => by
    unfold ltT
    by_cases e : x = y
    · rw [if_pos e, ← ltT_eq a b]
      simp [e, List.cons_lt_cons_iff]
    · rw [if_neg e]
      simp [e, List.cons_lt_cons_iff]
theorem S_inB {a b : Tx} (h : SX.S a = SX.S b) : a = b := by
  have : (SX.S a).cps.toList = (SX.S b).cps.toList := by rw [h]
  simpa using this
theorem row_strs : ∀ xs ys : List Tx, PySem.W.rowLt (xs.map fun t => .str (SX.S t)) (ys.map fun t => .str (SX.S t)) = ltB xs ys
  | [], [] => PyProof.Rows.lex_irrefl _
  | [], y :: ys => by
    show PySem.W.rowLt [] (PyData.str (SX.S y) :: ys.map fun t => .str (SX.S t)) = true
    unfold PySem.W.rowLt
    rw [PySem.W.toks_all_cons]
    simp only [PySem.W.keyToksAll]
    rw [PyProof.Rows.lex_diff (O := itemOrd) (by simp)]
    rfl
  | x :: xs, [] => by
    show PySem.W.rowLt (PyData.str (SX.S x) :: xs.map fun t => .str (SX.S t)) [] = false
    unfold PySem.W.rowLt
    rw [PySem.W.toks_all_cons]
    simp only [PySem.W.keyToksAll]
    rw [PyProof.Rows.lex_diff (O := itemOrd) (by simp)]
    rfl
  | x :: xs, y :: ys => by
    show PySem.W.rowLt (PyData.str (SX.S x) :: xs.map fun t => .str (SX.S t)) (PyData.str (SX.S y) :: ys.map fun t => .str (SX.S t)) = _
    unfold PySem.W.rowLt
    rw [PySem.W.dataLt_cons (by simp [PySem.W.alike]), PySem.W.dataLt_str]
    simp only [PyData.eqv, beq_iff_eq]
    unfold ltB
    by_cases e : x = y
    · rw [if_pos e, if_pos (by rw [e])]
      exact row_strs xs ys
    · rw [if_neg e, if_neg (fun z => e (S_inB z))]
      exact ltT_eq x y
theorem dataLe_brd {a b : Addr × List Str} {xs ys : List Tx} (e1 : a.2 = xs.map SX.S) (e2 : b.2 = ys.map SX.S) : PySem.W.dataLe false encB a b = leB xs ys := by
  show (!PySem.W.dataLt (.tuple (b.2.map .str)) (.tuple (a.2.map .str))) = !ltB ys xs
  rw [e1, e2, List.map_map, List.map_map, PySem.W.dataLt_tuple]
  congr 1
  exact row_strs ys xs
section
variable {X : Cx}
theorem reads_txs {h : Heap} : ∀ {ts : List Str} {vs : List Value}, Vals (ts.map V.str) vs → ∃ as, ReadsAll h vs (ts.map .str) as
  | [], _, r => by cases r; exact ⟨_, .nil⟩
  | t :: ts, _, r => by
    cases r with
    | cons a b =>
      obtain ⟨k, rfl⟩ := a
      obtain ⟨as, z⟩ := reads_txs b
      exact ⟨_, .cons (.str _ _) z⟩
theorem alike_txs : ∀ xs ys : List Str, PySem.W.alikeAll (xs.map .str) (ys.map .str) = true
  | [], ys => by cases ys <;> simp [PySem.W.alikeAll]
  | x :: xs, [] => by simp [PySem.W.alikeAll]
  | x :: xs, y :: ys => by
    show (PySem.W.alike (.str x) (.str y) && PySem.W.alikeAll (xs.map .str) (ys.map .str)) = true
    rw [alike_txs xs ys]
    simp [PySem.W.alike]
theorem depth_txs : ∀ xs : List Str, PyData.depthAll (xs.map .str) = 0
  | [] => by simp [PyData.depthAll]
  | x :: xs => by
    show PyData.depthAll (.str x :: xs.map .str) = 0
    simp [PyData.depthAll, PyData.depth, depth_txs xs]
theorem vals_refs : ∀ {ts : List (Addr × List Str)} {vs : List Value}, Vals (ts.map fun b => V.ref b.1) vs → PySem.W.EachIs (fun v (b : Addr × List Str) => v = .ref b.1) vs ts
  | [], _, r => by cases r; exact .nil
  | t :: ts, _, r => by
    cases r with
    | cons a b =>
      cases a
      exact .cons rfl (vals_refs b)
theorem refs_vals : ∀ {ts : List (Addr × List Str)} {vs : List Value}, PySem.W.EachIs (fun v (b : Addr × List Str) => v = .ref b.1) vs ts → Vals (ts.map fun b => V.ref b.1) vs
  | [], _, r => by cases r; exact .nil
  | t :: ts, _, r => by
    cases r with
    | cons a b =>
      subst a
      exact .cons rfl (refs_vals b)
theorem each_with {R R' : Value → Addr × List Str → Prop} : ∀ {vs : List Value} {ts : List (Addr × List Str)}, PySem.W.EachIs R vs ts → (∀ v b, b ∈ ts → R v b → R' v b) → PySem.W.EachIs R' vs ts
  | _, _, .nil, _ => .nil
  | _, _, .cons a b, h => .cons (h _ _ List.mem_cons_self a) (each_with b fun v c hc => h v c (List.mem_cons_of_mem _ hc))
theorem cr_sortedB (hu : X.A.units + 65 < cLine) : CallR X (.builtin "sorted") (rSortedB X.K) := by
  intro pins s σ H xs us Q I r h
  obtain ⟨a, ts, rfl, hs, ht, q⟩ := h
  obtain ⟨its, rv, hl, hz⟩ := I.list hs
  rw [Vals.ref1 r]
  have er : PySem.W.EachIs (fun v (b : Addr × List Str) => v = .ref b.1) its ts := vals_refs rv
  have hz' : ts.length ≤ sizeLine := by simpa using hz
  refine PySem.W.sorted_data (enc := encB) hl.isList er (each_with er fun v b hb e => ?_) (fun d hd d' hd' => ?_) (.inl fun d hd => ?_) hz' (fun b hb => ?_) fun out ol oe => ?_
  · subst e
    obtain ⟨its', rv', ⟨o, ho, hc, n, hd⟩, _⟩ := I.tuple (ht b hb).2
    obtain ⟨as, z⟩ := reads_txs (h := s.heap) rv'
    exact ⟨as, .tuple ho hc hd (by simpa using z)⟩
  · obtain ⟨b, hb, rfl⟩ := List.mem_map.mp hd
    obtain ⟨b', hb', rfl⟩ := List.mem_map.mp hd'
    exact alike_txs _ _
  · obtain ⟨b, hb, rfl⟩ := List.mem_map.mp hd
    have hn := (ht b hb).1
    obtain ⟨b1, b2⟩ := b
    cases b2 with
    | nil => exact absurd rfl hn
    | cons x r => exact ⟨_, _, rfl⟩
  · have e : (encB b).depth ≤ 1 := by
      unfold encB
      simp [PyData.depth, depth_txs]
    omega
  · obtain ⟨ep, he'⟩ := PyProof.Rows.sortedAll_at s.heap its out.toArray
    have hlen : ((ts.mergeSort (PySem.W.dataLe false encB)).map fun b => V.ref b.1).length ≤ sizeLine := by
      rw [List.length_map, List.length_mergeSort]
      exact hz'
    exact ⟨.ref _, upd H (s.heap.objs.size + 1) (.lst _), I.laid (t' := s.toks) (fun _ _ => PyProof.Rows.sortedAll_old) (Nat.le_succ _) ⟨hlen, out, ep, refs_vals oe, he'⟩, rfl, q _ (I.hok.fresh (Nat.le_succ _))⟩
end
/-! pairs of numbers -/
theorem dataLe_pr {a b : Addr × Int × Int} : PySem.W.dataLe false encP a b = leP a.2 b.2 := by
  show (!PySem.W.dataLt (.tuple [.int b.2.1, .int b.2.2]) (.tuple [.int a.2.1, .int a.2.2])) = !ltP b.2 a.2
  congr 1
  rw [PySem.W.dataLt_tuple]
  rw [PySem.W.dataLt_cons (by simp [PySem.W.alike]), PySem.W.dataLt_int]
  unfold ltP
  simp only [PyData.eqv, beq_iff_eq]
  by_cases e : b.2.1 = a.2.1
  · rw [if_pos e, if_pos e, PySem.W.dataLt_cons (by simp [PySem.W.alike]), PySem.W.dataLt_int]
    simp only [PyData.eqv, beq_iff_eq]
    by_cases e2 : b.2.2 = a.2.2
    · rw [if_pos e2, decide_eq_false (by omega)]
      exact PyProof.Rows.lex_irrefl _
    · rw [if_neg e2]
  · rw [if_neg e, if_neg e]
section
variable {X : Cx}
theorem vals_refsP : ∀ {ts : List (Addr × Int × Int)} {vs : List Value}, Vals (ts.map fun b => V.ref b.1) vs → PySem.W.EachIs (fun v (b : Addr × Int × Int) => v = .ref b.1) vs ts
  | [], _, r => by cases r; exact .nil
  | t :: ts, _, r => by
    cases r with
    | cons a b =>
      cases a
      exact .cons rfl (vals_refsP b)
theorem refs_valsP : ∀ {ts : List (Addr × Int × Int)} {vs : List Value}, PySem.W.EachIs (fun v (b : Addr × Int × Int) => v = .ref b.1) vs ts → Vals (ts.map fun b => V.ref b.1) vs
  | [], _, r => by cases r; exact .nil
  | t :: ts, _, r => by
    cases r with
    | cons a b =>
      subst a
      exact .cons rfl (refs_valsP b)
theorem each_withP {R R' : Value → Addr × Int × Int → Prop} : ∀ {vs : List Value} {ts : List (Addr × Int × Int)}, PySem.W.EachIs R vs ts → (∀ v b, b ∈ ts → R v b → R' v b) → PySem.W.EachIs R' vs ts
  | _, _, .nil, _ => .nil
  | _, _, .cons a b, h => .cons (h _ _ List.mem_cons_self a) (each_withP b fun v c hc => h v c (List.mem_cons_of_mem _ hc))
theorem cr_sortedP (hu : X.A.units + 65 < cLine) : CallR X (.builtin "sorted") (rSortedP X.K) := by
  intro pins s σ H xs us Q I r h
  obtain ⟨a, ts, rfl, hs, ht, q⟩ := h
  obtain ⟨its, rv, hl, hz⟩ := I.list hs
  rw [Vals.ref1 r]
  have er : PySem.W.EachIs (fun v (b : Addr × Int × Int) => v = .ref b.1) its ts := vals_refsP rv
  have hz' : ts.length ≤ sizeLine := by simpa using hz
  refine PySem.W.sorted_data (enc := encP) hl.isList er (each_withP er fun v b hb e => ?_) (fun d hd d' hd' => ?_) (.inl fun d hd => ?_) hz' (fun b hb => ?_) fun out ol oe => ?_
  · subst e
    obtain ⟨its', rv', ⟨o, ho, hc, n, hd⟩, _⟩ := I.tuple (ht b hb)
    cases rv' with
    | cons r1 r2 =>
      cases r2 with
      | cons r2 r3 =>
        cases r3
        obtain ⟨t1, rfl⟩ := r1
        obtain ⟨t2, rfl⟩ := r2
        exact ⟨_, .tuple ho hc hd (.cons (.int _ _) (.cons (.int _ _) .nil))⟩
  · obtain ⟨b, hb, rfl⟩ := List.mem_map.mp hd
    obtain ⟨b', hb', rfl⟩ := List.mem_map.mp hd'
    simp [encP, PySem.W.alike, PySem.W.alikeAll]
  · obtain ⟨b, hb, rfl⟩ := List.mem_map.mp hd
    exact ⟨_, _, rfl⟩
  · have e : (encP b).depth ≤ 1 := by
      unfold encP
      simp [PyData.depth, PyData.depthAll]
    omega
  · obtain ⟨ep, he'⟩ := PyProof.Rows.sortedAll_at s.heap its out.toArray
    have hlen : ((ts.mergeSort (PySem.W.dataLe false encP)).map fun b => V.ref b.1).length ≤ sizeLine := by
      rw [List.length_map, List.length_mergeSort]
      exact hz'
    exact ⟨.ref _, upd H (s.heap.objs.size + 1) (.lst _), I.laid (t' := s.toks) (fun _ _ => PyProof.Rows.sortedAll_old) (Nat.le_succ _) ⟨hlen, out, ep, refs_valsP oe, he'⟩, rfl, q _ (I.hok.fresh (Nat.le_succ _))⟩
end
section
variable {Hf : Hp} {pd : Addr}
theorem Reps.txs : ∀ {ds : List D} {vs : List V} {b : List Tx}, Reps pd Hf vs ds → txsD ds = some b → vs = (b.map SX.S).map V.str ∧ ds = b.map .str
  | [], _, b, h, e => by cases h; cases e; exact ⟨rfl, rfl⟩
  | d :: ds, _, b, h, e => by
    cases h with
    | cons h1 h2 =>
      cases h1 with
      | str a1 a2 =>
        unfold txsD at e
        cases q : txsD ds with
        | none => rw [q] at e; cases e
        | some b' =>
          rw [q] at e
          cases e
          obtain ⟨z1, z2⟩ := Reps.txs h2 q
          exact ⟨by rw [z1]; rfl, by rw [z2]; rfl⟩
      | _ => cases e
/-- the tuples of a list of boards -/
theorem Reps.brds : ∀ {ds : List D} {vs : List V} {bs : List (List Tx)}, Reps pd Hf vs ds → brdsD ds = some bs →
    ∃ zs : List (Addr × List Tx), vs = zs.map (fun z => V.ref z.1) ∧ bs = zs.map (·.2) ∧ ∀ z ∈ zs, z.2 ≠ [] ∧ Hf z.1 = some (.tup ((z.2.map SX.S).map V.str)) ∧ Rep pd Hf (.ref z.1) (brdD z.2)
  | [], _, bs, h, e => by cases h; cases e; exact ⟨[], rfl, rfl, fun _ z => nomatch z⟩
  | d :: ds, _, bs, h, e => by
    cases h with
    | cons h1 h2 =>
      unfold brdsD at e
      split at e
      · rename_i heq; cases heq
      · rename_i x l r heq
        cases heq
        split at e
        · rename_i b bs' q1 q2
          cases e
          obtain ⟨zs, z1, z2, z3⟩ := Reps.brds h2 q2
          cases h1 with
          | tup a1 a2 a3 =>
            obtain ⟨y1, y2⟩ := a2.txs q1
            subst y1
            refine ⟨(_, b) :: zs, by rw [z1]; rfl, by rw [z2]; rfl, fun z hz => ?_⟩
            rcases List.mem_cons.mp hz with rfl | hz
            · refine ⟨fun e => ?_, a1, ?_⟩
              · have e' : b = [] := e
                subst e'
                cases y2
              · show Rep pd Hf _ (.tup (b.map .str))
                rw [← y2]
                exact .tup a1 a2 a3
            · exact z3 z hz
        · cases e
      · cases e
theorem Reps.ofRefs : ∀ {zs : List (Addr × List Tx)}, (∀ z ∈ zs, Rep pd Hf (.ref z.1) (brdD z.2)) → Reps pd Hf (zs.map fun z => V.ref z.1) ((zs.map (·.2)).map brdD)
  | [], _ => .nil
  | z :: zs, h => .cons (h z List.mem_cons_self) (Reps.ofRefs fun y hy => h y (List.mem_cons_of_mem _ hy))
theorem sort_refs {zs : List (Addr × List Tx)} : ((zs.map fun z => (z.1, z.2.map SX.S)).mergeSort (PySem.W.dataLe false encB)) = (zs.mergeSort fun a b => leB a.2 b.2).map fun z => (z.1, z.2.map SX.S) :=
  (List.map_mergeSort fun a _ b _ => (dataLe_brd (a := (a.1, a.2.map SX.S)) (b := (b.1, b.2.map SX.S)) rfl rfl).symm).symm
theorem sort_txs {zs : List (Addr × List Tx)} : (zs.mergeSort fun a b => leB a.2 b.2).map (·.2) = sortB (zs.map (·.2)) :=
  List.map_mergeSort fun a _ b _ => rfl
theorem Reps.prs : ∀ {ds : List D} {vs : List V} {ps : List (Int × Int)}, Reps pd Hf vs ds → prsD ds = some ps →
    ∃ zs : List (Addr × Int × Int), vs = zs.map (fun z => V.ref z.1) ∧ ps = zs.map (·.2) ∧ ∀ z ∈ zs, Hf z.1 = some (.tup [V.int z.2.1, V.int z.2.2]) ∧ Rep pd Hf (.ref z.1) (prD z.2)
  | [], _, bs, h, e => by cases h; cases e; exact ⟨[], rfl, rfl, fun _ z => nomatch z⟩
  | d :: ds, _, bs, h, e => by
    cases h with
    | cons h1 h2 =>
      unfold prsD at e
      split at e
      · rename_i heq; cases heq
      · rename_i x y r heq
        cases heq
        cases q2 : prsD ds with
        | none => rw [q2] at e; cases e
        | some ps' =>
          rw [q2] at e
          cases e
          obtain ⟨zs, z1, z2, z3⟩ := Reps.prs h2 q2
          cases h1 with
          | tup a1 a2 a3 =>
            cases a2 with
            | cons b1 b2 =>
              cases b2 with
              | cons b2 b3 =>
                cases b3
                cases b1
                cases b2
                refine ⟨(_, x, y) :: zs, by rw [z1]; rfl, by rw [z2]; rfl, fun z hz => ?_⟩
                rcases List.mem_cons.mp hz with rfl | hz
                · exact ⟨a1, .tup a1 (.cons (.int _) (.cons (.int _) .nil)) a3⟩
                · exact z3 z hz
      · cases e
theorem Reps.ofRefsP : ∀ {zs : List (Addr × Int × Int)}, (∀ z ∈ zs, Rep pd Hf (.ref z.1) (prD z.2)) → Reps pd Hf (zs.map fun z => V.ref z.1) ((zs.map (·.2)).map prD)
  | [], _ => .nil
  | z :: zs, h => .cons (h z List.mem_cons_self) (Reps.ofRefsP fun y hy => h y (List.mem_cons_of_mem _ hy))
theorem sort_refsP {zs : List (Addr × Int × Int)} : zs.mergeSort (PySem.W.dataLe false encP) = zs.mergeSort fun a b => leP a.2 b.2 := by
  congr 1
  funext a b
  exact dataLe_pr
theorem sort_prs {zs : List (Addr × Int × Int)} : (zs.mergeSort fun a b => leP a.2 b.2).map (·.2) = sortP (zs.map (·.2)) :=
  List.map_mergeSort fun a _ b _ => rfl
end
end Fw

set_option Elab.async false
set_option linter.all false
set_option autoImplicit false
set_option maxRecDepth 100000
set_option maxHeartbeats 2000000
/-! FwPrim: the operations on data are the operations on values. -/
namespace Fw
open PySem L2

/-! ### what is wanted behind -/
def Pst {α : Type} (cl : Nat → Addr) (W : XK) (P : Par) (σ : St) (Hf : Hp) (C : α → Hp → Hp → Prop) : Res α → Prop
  | .ok a => ∀ H' Hf', Same Hf Hf' → C a H' Hf'
  | .exc c n k => ∀ H' Hf' s', StOk P σ H' Hf' s' → s'.dn = n → s'.dk = k → W (.ref (cl c)) none H'
  | .stuck => False
section
variable {α β : Type} {cl : Nat → Addr} {W : XK} {P : Par} {σ : St} {Hf : Hp}
theorem Pst.weak {C : α → Hp → Hp → Prop} {r : Res α} {Hf1 : Hp} (h : Pst cl W P σ Hf C r) (e : Same Hf Hf1) : Pst cl W P σ Hf1 C r := by
  cases r with
  | ok a => exact fun H' Hf' e' => h H' Hf' (e.trans e')
  | exc c n k => exact h
  | stuck => exact h
theorem Pst.bind {C : β → Hp → Hp → Prop} {C' : α → Hp → Hp → Prop} {r : Res α} {f : α → Res β} (h : Pst cl W P σ Hf C (r.bind f)) (k : ∀ a H1 Hf1, Same Hf Hf1 → Pst cl W P σ Hf1 C (f a) → C' a H1 Hf1) : Pst cl W P σ Hf C' r := by
  cases r with
  | ok a => exact fun H' Hf' e' => k a H' Hf' e' (Pst.weak (r := f a) h e')
  | exc c n k => exact h
  | stuck => exact h
end
/-- data d, the state s as it is -/
def CD (P : Par) (σ : St) (s : S) (Q : VK) : D → Hp → Hp → Prop := fun d H' Hf' => StOk P σ H' Hf' s → ∀ v, Rep P.pd Hf' v d → Q v H'
def CE (P : Par) (σ : St) (Q : VK) : D × S → Hp → Hp → Prop := fun a H' Hf' => StOk P σ H' Hf' a.2 → ∀ v, Rep P.pd Hf' v a.1 → Q v H'
def CT (P : Par) (σ : St) (Q : Bool → Hp → Prop) : D × S → Hp → Hp → Prop := fun a H' Hf' => match a.1 with
  | .bl b => StOk P σ H' Hf' a.2 → Q b H'
  | _ => False
def CA (P : Par) (σ : St) (Q : List V → Hp → Prop) : List D × S → Hp → Hp → Prop := fun a H' Hf' => StOk P σ H' Hf' a.2 → ∀ vs, Reps P.pd Hf' vs a.1 → Q vs H'
def CO (P : Par) (σ : St) (Q : Option Int → Hp → Prop) : Option Int × S → Hp → Hp → Prop := fun a H' Hf' => StOk P σ H' Hf' a.2 → Q a.1 H'

/-! ### data as the library's -/
mutual
def toP : D → PyData
  | .non => .none
  | .bl b => .bool b
  | .int i => .int i
  | .str l => .str (SX.S l)
  | .tup l => .tuple (toPs l)
  | .lst l => .list (toPs l)
  | .dic _ _ => .none
  | .dice => .none
  | .tpk l => .tuple (toPs l)
  | .dii _ _ => .none
def toPs : List D → List PyData
  | [] => []
  | d :: r => toP d :: toPs r
end
section
variable {K : PySem.W.Frag} {pd : Addr} {H Hf : Hp}
mutual
theorem Rep.dp (e : Same Hf H) : ∀ (d : D) (n : Nat) (v : V), d.fit n = true → Rep pd Hf v d → Dp K H v (toP d)
  | .non, _, _, _, h => by cases h; exact .non
  | .bl _, _, _, _, h => by cases h; exact .bl _
  | .int _, _, _, _, h => by cases h; exact .int _
  | .str _, _, _, _, h => by cases h; exact .str _
  | .tup ds, n, _, f, h => by
    cases h with
    | tup a b c =>
      cases n with
      | zero => simp [D.fit] at f
      | succ n => exact .tup (SqT.of (e _ _ a)) (Reps.dp e ds n _ (by simpa [D.fit] using f) b)
  | .lst ds, n, _, f, h => by
    cases h with
    | lst a b c =>
      cases n with
      | zero => simp [D.fit] at f
      | succ n => exact .lst (SqL.of (e _ _ a)) (Reps.dp e ds n _ (by simpa [D.fit] using f) b)
  | .dic _ _, _, _, f, _ => by simp [D.fit] at f
  | .dice, _, _, f, _ => by simp [D.fit] at f
  | .tpk _, _, _, f, _ => by simp [D.fit] at f
  | .dii _ _, _, _, f, _ => by simp [D.fit] at f
theorem Reps.dp (e : Same Hf H) : ∀ (ds : List D) (n : Nat) (vs : List V), D.fits n ds = true → Reps pd Hf vs ds → DpAll K H vs (toPs ds)
  | [], _, _, _, h => by cases h; exact .nil
  | d :: ds, n, _, f, h => by
    cases h with
    | cons a b =>
      simp only [D.fits, Bool.and_eq_true] at f
      exact .cons (Rep.dp e d n _ f.1 a) (Reps.dp e ds n _ f.2 b)
end
theorem strOk_S {l : Tx} (h : ∀ c ∈ l, c < 128) : PyData.strOk (SX.S l) = true := by
  unfold PyData.strOk SX.S
  rw [List.all_toArray, List.all_eq_true]
  intro c hc
  have := h c hc
  exact decide_eq_true (by omega)
mutual
theorem Rep.lay : ∀ (d : D) (n : Nat) (v : V), d.fit n = true → Rep pd Hf v d → (toP d).canLay0 = true
  | .non, _, _, _, _ => rfl
  | .bl _, _, _, _, _ => rfl
  | .int _, _, _, _, _ => rfl
  | .str _, _, _, _, h => by cases h with | str a b => exact strOk_S a
  | .tup ds, n, _, f, h => by
    cases h with
    | tup a b c =>
      cases n with
      | zero => simp [D.fit] at f
      | succ n => exact Reps.lay ds n _ (by simpa [D.fit] using f) b
  | .lst ds, n, _, f, h => by
    cases h with
    | lst a b c =>
      cases n with
      | zero => simp [D.fit] at f
      | succ n => exact Reps.lay ds n _ (by simpa [D.fit] using f) b
  | .dic _ _, _, _, f, _ => by simp [D.fit] at f
  | .dice, _, _, f, _ => by simp [D.fit] at f
  | .tpk _, _, _, f, _ => by simp [D.fit] at f
  | .dii _ _, _, _, f, _ => by simp [D.fit] at f
theorem Reps.lay : ∀ (ds : List D) (n : Nat) (vs : List V), D.fits n ds = true → Reps pd Hf vs ds → PyData.canLayAll0 (toPs ds) = true
  | [], _, _, _, h => rfl
  | d :: ds, n, _, f, h => by
    cases h with
    | cons a b =>
      simp only [D.fits, Bool.and_eq_true] at f
      show (PyData.canLay0 (toP d) && PyData.canLayAll0 (toPs ds)) = true
      rw [Rep.lay d n _ f.1 a, Reps.lay ds n _ f.2 b]
      rfl
end
mutual
theorem fit_depth : ∀ (d : D) (n : Nat), d.fit n = true → (toP d).depth ≤ n
  | .non, _, _ => Nat.zero_le _
  | .bl _, _, _ => Nat.zero_le _
  | .int _, _, _ => Nat.zero_le _
  | .str _, _, _ => Nat.zero_le _
  | .tup ds, n, f => by
    cases n with
    | zero => simp [D.fit] at f
    | succ n => exact Nat.succ_le_succ (fits_depth ds n (by simpa [D.fit] using f))
  | .lst ds, n, f => by
    cases n with
    | zero => simp [D.fit] at f
    | succ n => exact Nat.succ_le_succ (fits_depth ds n (by simpa [D.fit] using f))
  | .dic _ _, _, f => Nat.zero_le _
  | .dice, _, f => Nat.zero_le _
  | .tpk _, n, f => by simp [D.fit] at f
  | .dii _ _, n, f => by simp [D.fit] at f
theorem fits_depth : ∀ (ds : List D) (n : Nat), D.fits n ds = true → PyData.depthAll (toPs ds) ≤ n
  | [], _, _ => Nat.zero_le _
  | d :: ds, n, f => by
    simp only [D.fits, Bool.and_eq_true] at f
    exact Nat.max_le.mpr ⟨fit_depth d n f.1, fits_depth ds n f.2⟩
end
theorem Rep.shaped {d : D} {n : Nat} {v : V} (hn : n ≤ 64) (f : d.fit n = true) (h : Rep pd Hf v d) : SeqAt.shaped (toP d) = true := by
  unfold SeqAt.shaped
  rw [Rep.lay d n v f h, decide_eq_true (Nat.le_trans (fit_depth d n f) hn)]
  rfl
theorem S_eq (x y : Tx) : (SX.S x == SX.S y) = (x == y) := SX.S_beq x y
mutual
theorem eqv_P : ∀ (a b : D) (n m : Nat), a.fit n = true → b.fit m = true → PyData.eqv (toP a) (toP b) = D.eqv a b
  | .non, b, n, m, _, hb => by cases b <;> first | rfl | simp [D.fit] at hb
  | .bl _, b, n, m, _, hb => by cases b <;> first | rfl | simp [D.fit] at hb
  | .int _, b, n, m, _, hb => by cases b <;> first | rfl | simp [D.fit] at hb
  | .str x, b, n, m, _, hb => by
    cases b with
    | str y => exact S_eq x y
    | _ => first | rfl | simp [D.fit] at hb
  | .tup xs, b, n, m, ha, hb => by
    cases b with
    | tup ys =>
      cases n with
      | zero => simp [D.fit] at ha
      | succ n =>
        cases m with
        | zero => simp [D.fit] at hb
        | succ m => exact eqvs_P xs ys n m (by simpa [D.fit] using ha) (by simpa [D.fit] using hb)
    | _ => first | rfl | simp [D.fit] at hb
  | .lst xs, b, n, m, ha, hb => by
    cases b with
    | lst ys =>
      cases n with
      | zero => simp [D.fit] at ha
      | succ n =>
        cases m with
        | zero => simp [D.fit] at hb
        | succ m => exact eqvs_P xs ys n m (by simpa [D.fit] using ha) (by simpa [D.fit] using hb)
    | _ => first | rfl | simp [D.fit] at hb
  | .dic _ _, b, n, m, ha, _ => by simp [D.fit] at ha
  | .dice, b, n, m, ha, _ => by simp [D.fit] at ha
  | .tpk _, b, n, m, ha, _ => by simp [D.fit] at ha
  | .dii _ _, b, n, m, ha, _ => by simp [D.fit] at ha
theorem eqvs_P : ∀ (a b : List D) (n m : Nat), D.fits n a = true → D.fits m b = true → PyData.eqvAll (toPs a) (toPs b) = D.eqvs a b
  | [], b, n, m, _, hb => by cases b <;> rfl
  | x :: xs, b, n, m, ha, hb => by
    cases b with
    | nil => rfl
    | cons y ys =>
      simp only [D.fits, Bool.and_eq_true] at ha hb
      show (PyData.eqv (toP x) (toP y) && PyData.eqvAll (toPs xs) (toPs ys)) = (D.eqv x y && D.eqvs xs ys)
      rw [eqv_P x y n m ha.1 hb.1, eqvs_P xs ys n m ha.2 hb.2]
end
theorem toPs_any (x : D) (n m : Nat) (hx : x.fit n = true) : ∀ l : List D, D.fits m l = true → ((toPs l).any fun z => PyData.eqv z (toP x)) = inD x l
  | [], _ => rfl
  | d :: l, f => by
    simp only [D.fits, Bool.and_eq_true] at f
    show (PyData.eqv (toP d) (toP x) || (toPs l).any fun z => PyData.eqv z (toP x)) = (D.eqv d x || inD x l)
    rw [eqv_P d x m n f.1 hx, toPs_any x n m hx l f.2]
theorem Rep.flatV {d : D} {v : V} (f : d.flat = true) (h : Rep pd Hf v d) : L2.flatV v = true := by
  cases h <;> first | rfl | simp [D.flat] at f
theorem Reps.flatV : ∀ {ds : List D} {vs : List V}, ds.all D.flat = true → Reps pd Hf vs ds → vs.all L2.flatV = true
  | [], _, _, h => by cases h; rfl
  | d :: ds, _, f, h => by
    cases h with
    | cons a b =>
      rw [List.all_cons, Bool.and_eq_true] at f
      rw [List.all_cons, a.flatV f.1, Reps.flatV f.2 b]
      rfl
theorem Rep.eqV {a b : D} {v w : V} (fa : a.flat = true) (fb : b.flat = true) (ha : Rep pd Hf v a) (hb : Rep pd Hf w b) : L2.eqV v w = D.eqv a b := by
  cases ha with
  | str x1 x2 => cases hb with
    | str y1 y2 => exact S_eq _ _
    | _ => first | rfl | simp [D.flat] at fb
  | tup _ _ _ => simp [D.flat] at fa
  | lst _ _ _ => simp [D.flat] at fa
  | dice => simp [D.flat] at fa
  | tpk _ _ _ => simp [D.flat] at fa
  | dii _ _ _ _ => simp [D.flat] at fa
  | _ => cases hb <;> first | rfl | simp [D.flat] at fb
theorem Reps.inV {x : D} {v : V} (fx : x.flat = true) (hx : Rep pd Hf v x) : ∀ {ds : List D} {vs : List V}, ds.all D.flat = true → Reps pd Hf vs ds → L2.inV v vs = inD x ds
  | [], _, _, h => by cases h; rfl
  | d :: ds, _, f, h => by
    cases h with
    | cons a b =>
      rw [List.all_cons, Bool.and_eq_true] at f
      show (L2.eqV _ v || L2.inV v _) = (D.eqv d x || inD x ds)
      rw [Rep.eqV f.1 fx a hx, Reps.inV fx hx f.2 b]
end

section
variable {cl : Nat → Addr} {W : XK} {P : Par} {σ : St} {H Hf : Hp} {s : S} {K : PySem.W.Frag} {Q : VK}
/-- no new object -/
theorem cd_of {d : D} {v : V} (st : StOk P σ H Hf s) (h : Pst cl W P σ Hf (CD P σ s Q) (.ok d)) (r : Rep P.pd Hf v d) : Q v H := h H Hf (Same.refl _) st v r
theorem cd_new {d : D} {p : Addr} {o : HO} (st : StOk P σ H Hf s) (h : Pst cl W P σ Hf (CD P σ s Q) (.ok d)) (hp : H p = none) (r : Rep P.pd (upd Hf p o) (.ref p) d) (ho : ∀ ps, o ≠ .tbl ps := by intro _ z; cases z) : Q (.ref p) (upd H p o) :=
  h (upd H p o) (upd Hf p o) (same_upd (st.sub.free hp)) (st.allocF hp ho) _ r
theorem all_app {l m : Tx} (h : ∀ c ∈ l, c < 128) (h' : ∀ c ∈ m, c < 128) : ∀ c ∈ l ++ m, c < 128 := fun c hc => (List.mem_append.mp hc).elim (h c) (h' c)

theorem len_rep {α : Type} (l : List α) : ∀ k : Nat, (List.replicate k l).flatten.length = k * l.length
  | 0 => by simp
  | k + 1 => by rw [List.replicate_succ, List.flatten_cons, List.length_append, len_rep l k, Nat.add_mul, Nat.one_mul, Nat.add_comm]
theorem bin_ok (op : Bop) {a b : D} {x y : V} (st : StOk P σ H Hf s) (ra : Rep P.pd Hf x a) (rb : Rep P.pd Hf y b) (h : Pst cl W P σ Hf (CD P σ s Q) (binD op a b)) : rBin K op x y H Q := by
  have up : ∀ {p : Addr} {o : HO}, H p = none → Same Hf (upd Hf p o) := fun hp => same_upd (st.sub.free hp)
  unfold binD at h
  split at h
  · cases ra; cases rb
    exact .inl ⟨_, _, rfl, rfl, cd_of st h (.int _)⟩
  · cases ra with | str a1 a2 => cases rb with | str b1 b2 =>
    split at h
    · rename_i hl
      refine .inr (.inl ⟨_, _, rfl, rfl, ?_, ?_⟩)
      · rw [SX.S_len, SX.S_len, SL_eq]
        exact hl
      · rw [SX.S_cat]
        exact cd_of st h (.str (all_app a1 b1) (by simpa using hl))
    · exact h.elim
  · cases ra with | tup a1 a2 a3 => cases rb with | tup b1 b2 b3 =>
    split at h
    · rename_i hl
      refine .inr (.inr (.inl ⟨_, _, _, _, rfl, rfl, SqT.of (st.sub _ _ a1), SqT.of (st.sub _ _ b1), by rw [a2.length, b2.length, SL_eq]; exact hl, fun e => ?_, fun _ e => ?_, fun _ _ p hp => ?_⟩))
      · subst e
        cases a2
        exact cd_of st h (.tup b1 b2 b3)
      · subst e
        cases b2
        rw [List.append_nil] at h
        exact cd_of st h (.tup a1 a2 a3)
      · exact cd_new st h hp (.tup upd_same (Reps.mono (up hp) _ _ (a2.append b2)) (by simpa using hl))
    · exact h.elim
  · cases ra with | lst a1 a2 a3 => cases rb with | lst b1 b2 b3 =>
    split at h
    · rename_i hl
      refine .inr (.inr (.inr ⟨_, _, _, _, rfl, rfl, st.sub _ _ a1, st.sub _ _ b1, by rw [a2.length, b2.length, SL_eq]; exact hl, fun p hp => ?_⟩))
      exact cd_new st h hp (.lst upd_same (Reps.mono (up hp) _ _ (a2.append b2)) (by simpa using hl))
    · exact h.elim
  · cases ra; cases rb
    exact ⟨_, _, rfl, rfl, cd_of st h (.int _)⟩
  · cases ra; cases rb
    split at h
    · rename_i hl
      rcases hl with hl | hl
      · exact .inl ⟨_, _, rfl, rfl, hl, cd_of st h (.int _)⟩
      · exact .inr (.inl ⟨_, _, rfl, rfl, wide_mul hl.1 hl.2 (by decide) (by decide) (by decide), cd_of st h (.int _)⟩)
    · exact h.elim
  · cases ra with | str a1 a2 =>
    cases rb
    split at h
    · rename_i hl
      obtain ⟨h1, h2, h3⟩ := hl
      refine .inr (.inr (.inl ⟨_, _, rfl, rfl, h1, h2, h3, cd_of st h (.str (fun c hc => ?_) ?_)⟩))
      · obtain ⟨l, hl, hc⟩ := List.mem_flatten.mp hc
        rw [(List.mem_replicate.mp hl).2] at hc
        exact a1 c hc
      · rw [len_rep]
        have e : ∀ (k m : Nat), k ≤ 1000 → m ≤ 16 → k * m ≤ SL := fun k m hk hm => Nat.le_trans (Nat.mul_le_mul hk hm) (by decide)
        exact e _ _ (by omega) h1
    · exact h.elim
  · cases ra with | tup a1 a2 a3 =>
    cases rb
    split at h
    · rename_i hl
      obtain ⟨h0, h1, h2, h3⟩ := hl
      refine .inr (.inr (.inr ⟨_, _, _, rfl, rfl, SqT.of (st.sub _ _ a1), fun e => ?_, h1, h2, by rw [a2.length]; exact h3, fun p hp => ?_⟩))
      · subst e
        cases a2
        exact h0 rfl
      · refine cd_new st h hp (.tup upd_same (Reps.mono (up hp) _ _ (a2.rep _)) ?_)
        rw [len_rep]
        have e : ∀ (k m : Nat), k ≤ 1000 → m ≤ 1000 → k * m ≤ SL := fun k m hk hm => Nat.le_trans (Nat.mul_le_mul hk hm) (by decide)
        exact e _ _ (by omega) h3
    · exact h.elim
  · cases ra; cases rb
    split at h
    · rename_i hl
      exact ⟨_, _, rfl, rfl, wide_div hl.1 hl.2 (by decide) (by decide), cd_of st h (.int _)⟩
    · exact h.elim
  · cases ra; cases rb
    split at h
    · rename_i hl
      exact ⟨_, _, rfl, rfl, hl, cd_of st h (.int _)⟩
    · exact h.elim
  · cases ra; cases rb
    split at h
    · rename_i hl
      exact ⟨_, _, rfl, rfl, ⟨hl.1, hl.2.1, hl.2.2⟩, cd_of st h (.int _)⟩
    · exact h.elim
  · exact h.elim

theorem cmp_ok (op : Cop) {a b : D} {x y : V} (st : StOk P σ H Hf s) (ra : Rep P.pd Hf x a) (rb : Rep P.pd Hf y b) (h : Pst cl W P σ Hf (CD P σ s Q) (cmpD op a b)) : rCmp K op x y H Q := by
  unfold cmpD at h
  split at h
  · split at h
    · rename_i hl
      rw [Bool.and_eq_true] at hl
      refine ⟨toP a, toP b, ra.dp st.sub _ 60 _ hl.1, rb.dp st.sub _ 60 _ hl.2, ra.shaped (by decide) hl.1, rb.shaped (by decide) hl.2, ?_⟩
      rw [eqv_P _ _ 60 60 hl.1 hl.2]
      exact cd_of st h (.bl _)
    · exact h.elim
  · split at h
    · rename_i hl
      rw [Bool.and_eq_true] at hl
      refine ⟨toP a, toP b, ra.dp st.sub _ 60 _ hl.1, rb.dp st.sub _ 60 _ hl.2, ra.shaped (by decide) hl.1, rb.shaped (by decide) hl.2, ?_⟩
      rw [eqv_P _ _ 60 60 hl.1 hl.2]
      exact cd_of st h (.bl _)
    · exact h.elim
  · cases ra; cases rb; exact ⟨_, _, rfl, rfl, cd_of st h (.bl _)⟩
  · cases ra; cases rb; exact ⟨_, _, rfl, rfl, cd_of st h (.bl _)⟩
  · cases ra; cases rb; exact ⟨_, _, rfl, rfl, cd_of st h (.bl _)⟩
  · cases ra; cases rb; exact ⟨_, _, rfl, rfl, cd_of st h (.bl _)⟩
  · cases ra; cases rb
    exact .inl ⟨_, _, rfl, rfl, cd_of st h (.bl _)⟩
  · cases ra; cases rb
    exact .inl ⟨_, _, rfl, rfl, cd_of st h (.bl _)⟩
  · cases rb with | tup b1 b2 b3 =>
    split at h
    · rename_i hl
      rw [Bool.and_eq_true] at hl
      refine .inr (.inl ⟨_, _, rfl, .inr (SqT.of (st.sub _ _ b1)), ra.flatV hl.1, b2.flatV hl.2, ?_⟩)
      show Q (.bl (L2.inV _ _)) H
      rw [b2.inV hl.1 ra hl.2]
      exact cd_of st h (.bl _)
    · exact h.elim
  · cases rb with | tup b1 b2 b3 =>
    split at h
    · rename_i hl
      rw [Bool.and_eq_true] at hl
      refine .inr (.inl ⟨_, _, rfl, .inr (SqT.of (st.sub _ _ b1)), ra.flatV hl.1, b2.flatV hl.2, ?_⟩)
      show Q (.bl (!L2.inV _ _)) H
      rw [b2.inV hl.1 ra hl.2]
      exact cd_of st h (.bl _)
    · exact h.elim
  · split at h
    · rename_i l hl
      rw [Bool.and_eq_true] at hl
      have fl : (D.lst l).fit 60 = true := hl.2
      refine .inr (.inr ⟨toP a, toPs l, ra.dp st.sub _ 59 _ hl.1, rb.dp st.sub _ 60 _ fl, ra.shaped (by decide) hl.1, rb.shaped (n := 60) (by decide) fl, ?_⟩)
      rw [toPs_any a 59 59 hl.1 l hl.2]
      exact cd_of st h (.bl _)
    · exact h.elim
  · split at h
    · rename_i l hl
      rw [Bool.and_eq_true] at hl
      have fl : (D.lst l).fit 60 = true := hl.2
      refine .inr (.inr ⟨toP a, toPs l, ra.dp st.sub _ 59 _ hl.1, rb.dp st.sub _ 60 _ fl, ra.shaped (by decide) hl.1, rb.shaped (n := 60) (by decide) fl, ?_⟩)
      rw [toPs_any a 59 59 hl.1 l hl.2]
      exact cd_of st h (.bl _)
    · exact h.elim
  · cases ra; cases rb; exact ⟨rfl, cd_of st h (.bl _)⟩
  · rename_i hn
    cases rb
    refine ⟨rfl, ?_⟩
    have e : decide (x = V.non) = false := by cases ra <;> first | rfl | exact absurd rfl hn
    rw [e]
    exact cd_of st h (.bl _)
  · cases ra; cases rb; exact ⟨rfl, cd_of st h (.bl _)⟩
  · rename_i hn
    cases rb
    refine ⟨rfl, ?_⟩
    have e : decide (x = V.non) = false := by cases ra <;> first | rfl | exact absurd rfl hn
    rw [e]
    exact cd_of st h (.bl _)
  · exact h.elim

theorem ati_get {α : Type} {l : List α} {i : Int} {d : α} (h : ati l i = some d) : ∃ j : Nat, l[j]? = some d ∧ (i = (j : Int) ∨ i = (j : Int) - l.length) := by
  unfold ati at h
  split at h
  · rename_i hi
    exact ⟨i.toNat, h, .inl (by omega)⟩
  · split at h
    · rename_i h1 h2
      exact ⟨_, h, .inr (by omega)⟩
    · cases h
theorem atI_of {α : Type} {l : List α} {i : Int} {d : α} {j : Nat} (h : l[j]? = some d) (hi : i = (j : Int) ∨ i = (j : Int) - l.length) : atI l i = some d := by
  have hj : j < l.length := (List.getElem?_eq_some_iff.mp h).1
  rcases hi with rfl | rfl
  · exact atI_nat h
  · unfold atI ixN
    rw [if_neg (by omega), if_pos (by omega)]
    have e : ((j : Int) - l.length + l.length).toNat = j := by omega
    rw [e]
    exact h
theorem ix_ok {a b : D} {x y : V} (st : StOk P σ H Hf s) (ra : Rep P.pd Hf x a) (rb : Rep P.pd Hf y b) (h : Pst cl W P σ Hf (CD P σ s Q) (ixD a b)) : rIx K x y H Q := by
  unfold ixD at h
  split at h
  · cases ra with | lst a1 a2 a3 =>
    cases rb
    split at h
    · rename_i e
      obtain ⟨j, h1, h2⟩ := ati_get e
      obtain ⟨v, h3, h4⟩ := a2.get h1
      exact .inl ⟨_, _, _, _, rfl, rfl, SqL.of (st.sub _ _ a1), atI_of h3 (by rw [a2.length]; exact h2), cd_of st h h4⟩
    · exact h.elim
  · cases ra with | tup a1 a2 a3 =>
    cases rb
    split at h
    · rename_i e
      obtain ⟨j, h1, h2⟩ := ati_get e
      obtain ⟨v, h3, h4⟩ := a2.get h1
      exact .inr (.inl ⟨_, _, _, _, rfl, rfl, SqT.of (st.sub _ _ a1), atI_of h3 (by rw [a2.length]; exact h2), cd_of st h h4⟩)
    · exact h.elim
  · cases ra with | str a1 a2 =>
    cases rb
    split at h
    · rename_i c e
      obtain ⟨j, h1, h2⟩ := ati_get e
      refine .inr (.inr ⟨_, _, c, rfl, rfl, by rw [SX.S_len, SL_eq]; exact a2, atI_of (j := j) h1 h2, cd_of st h (.str (l := [c]) (fun z hz => ?_) (by show 1 ≤ SL; decide))⟩)
      rw [List.mem_singleton.mp hz]
      exact a1 c (List.mem_of_getElem? h1)
    · exact h.elim
  · exact h.elim
theorem ixs_ok {a b : D} {x y : V} (st : StOk P σ H Hf s) (ra : Rep P.pd Hf x a) (rb : Rep P.pd Hf y b) (h : Pst cl W P σ Hf (CD P σ s Q) (ixS s a b)) : rIx K x y H Q := by
  unfold ixS at h
  split at h
  · cases ra
    cases rb
    split at h
    · rename_i e
      subst e
      exact .inl ⟨_, _, _, _, rfl, rfl, SqL.of st.dice, rfl, cd_of st h (.int _)⟩
    · split at h
      · rename_i e
        subst e
        exact .inl ⟨_, _, _, _, rfl, rfl, SqL.of st.dice, rfl, cd_of st h (.int _)⟩
      · exact h.elim
  · exact ix_ok st ra rb h
/-- an own list is read -/
theorem ixo_ok {ds : List D} {b : D} {y : V} {p : Addr} {vs : List V} (st : StOk P σ H Hf s) (hp : H p = some (.lst vs)) (ra : Reps P.pd Hf vs ds) (rb : Rep P.pd Hf y b) (h : Pst cl W P σ Hf (CD P σ s Q) (ixD (.lst ds) b)) : rIx K (.ref p) y H Q := by
  cases rb with
  | int i =>
    unfold ixD at h
    simp only at h
    split at h
    · rename_i e
      obtain ⟨j, h1, h2⟩ := ati_get e
      obtain ⟨v, h3, h4⟩ := ra.get h1
      exact .inl ⟨_, _, _, _, rfl, rfl, SqL.of hp, atI_of h3 (by rw [ra.length]; exact h2), cd_of st h h4⟩
    · exact h.elim
  | _ => exact h.elim
theorem cutS_S (l : Tx) (lo hi : Option Int) : cutS (SX.S l) lo hi = SX.S (cut l lo hi) := by
  unfold cutS cut
  rw [six_eq, six_eq, SX.S_len]
theorem sl_ok {a : D} {x : V} {lo hi : Option Int} (st : StOk P σ H Hf s) (ra : Rep P.pd Hf x a) (h : Pst cl W P σ Hf (CD P σ s Q) (slD a lo hi)) : rSl K x lo hi H Q := by
  have up : ∀ {p : Addr} {o : HO}, H p = none → Same Hf (upd Hf p o) := fun hp => same_upd (st.sub.free hp)
  cases ra with
  | lst a1 a2 a3 =>
    exact .inr (.inr ⟨_, _, rfl, SqL.of (st.sub _ _ a1), fun p hp => cd_new st h hp (.lst upd_same (Reps.mono (up hp) _ _ (a2.cut lo hi)) (Nat.le_trans (cut_len _ _ _) a3))⟩)
  | tup a1 a2 a3 =>
    refine .inr (.inl ⟨_, _, rfl, SqT.of (st.sub _ _ a1), fun e => ?_, fun _ p hp => cd_new st h hp (.tup upd_same (Reps.mono (up hp) _ _ (a2.cut lo hi)) (Nat.le_trans (cut_len _ _ _) a3))⟩)
    rename_i ds
    have ec : cut ds lo hi = ds := by
      unfold cut
      rw [six_eq, six_eq, a2.length] at e
      rw [e.1, e.2]
      simp
    have h' : Pst cl W P σ Hf (CD P σ s Q) (.ok (.tup (cut ds lo hi))) := h
    rw [ec] at h'
    exact cd_of st h' (.tup a1 a2 a3)
  | str a1 a2 =>
    refine .inl ⟨_, rfl, by rw [SX.S_len, SL_eq]; exact a2, ?_⟩
    rw [cutS_S]
    refine cd_of st h (.str (fun c hc => a1 c ?_) (Nat.le_trans (cut_len _ _ _) a2))
    unfold cut at hc
    exact List.mem_of_mem_drop (List.mem_of_mem_take hc)
  | _ => exact h.elim
theorem isi_ok {a : D} {x : V} (t : Ty) (st : StOk P σ H Hf s) (ra : Rep P.pd Hf x a) (h : Pst cl W P σ Hf (CD P σ s Q) (isiD t a)) : rIsi K [x, .ty (tyN t)] H Q := by
  have key : ∀ (n : String) (b : Bool), TyX K H x (.type n) → kitB n (tyN t) = some b → Pst cl W P σ Hf (CD P σ s Q) (.ok (.bl b)) → rIsi K [x, .ty (tyN t)] H Q := fun n b ty e h => ⟨x, .ty (tyN t), .type n, .type (tyN t), b, rfl, .ty _, ty, kit_ty e, cd_of st h (.bl _)⟩
  cases ra with
  | non => cases t <;> exact key "NoneType" _ (.base .non) (by decide +kernel) h
  | bl b => cases t <;> exact key "bool" _ (.base (.bl b)) (by decide +kernel) h
  | int b => cases t <;> exact key "int" _ (.base (.int b)) (by decide +kernel) h
  | str a1 a2 => cases t <;> exact key "str" _ (.base (.str _)) (by decide +kernel) h
  | tup a1 a2 a3 => cases t <;> exact key "tuple" _ (.base (.tup (st.sub _ _ a1))) (by decide +kernel) h
  | lst a1 a2 a3 => cases t <;> exact key "list" _ (.base (.lst (st.sub _ _ a1))) (by decide +kernel) h
  | dic a1 a2 a3 a4 => cases t <;> exact h.elim
  | dice => cases t <;> exact h.elim
  | tpk _ _ _ => cases t <;> exact h.elim
  | dii _ _ _ _ => cases t <;> exact h.elim
theorem Reps.bls {pd : Addr} : ∀ {ds : List D} {vs : List V} {bs : List Bool}, Reps pd Hf vs ds → bools ds = some bs → vs = bs.map V.bl
  | [], _, _, h, e => by
    cases h
    cases e
    rfl
  | d :: ds, _, bs, h, e => by
    cases h with
    | cons a b =>
      cases a with
      | bl c =>
        unfold bools at e
        cases q : bools ds with
        | none => rw [q] at e; cases e
        | some r =>
          rw [q] at e
          cases e
          rw [Reps.bls b q]
          rfl
      | _ => cases e
theorem Reps.ints {pd : Addr} : ∀ {ds : List D} {vs : List V} {bs : List Int}, Reps pd Hf vs ds → Fw.intsD ds = some bs → vs = bs.map V.int
  | [], _, _, h, e => by
    cases h
    cases e
    rfl
  | d :: ds, _, bs, h, e => by
    cases h with
    | cons a b =>
      cases a with
      | int c =>
        unfold Fw.intsD at e
        cases q : Fw.intsD ds with
        | none => rw [q] at e; cases e
        | some r =>
          rw [q] at e
          cases e
          rw [Reps.ints b q]
          rfl
      | _ => cases e
theorem Reps.strs {pd : Addr} : ∀ {ds : List D} {vs : List V} {bs : List Tx}, Reps pd Hf vs ds → Fw.strsD ds = some bs → vs = (bs.map SX.S).map V.str ∧ ∀ l ∈ bs, ∀ c ∈ l, c < 128
  | [], _, _, h, e => by
    cases h
    cases e
    exact ⟨rfl, fun _ h => by simp at h⟩
  | d :: ds, _, bs, h, e => by
    cases h with
    | cons a b =>
      cases a with
      | str c1 c2 =>
        unfold Fw.strsD at e
        cases q : Fw.strsD ds with
        | none => rw [q] at e; cases e
        | some r =>
          rw [q] at e
          cases e
          obtain ⟨h1, h2⟩ := Reps.strs b q
          refine ⟨by rw [h1]; rfl, fun l hl => ?_⟩
          rcases List.mem_cons.mp hl with rfl | hl
          · exact c1
          · exact h2 l hl
      | _ => cases e
theorem insI_perm (x : Int) : ∀ l, (insI x l).Perm (x :: l)
  | [] => .refl _
  | y :: r => by
    unfold insI
    split
    · exact .refl _
    · exact ((insI_perm x r).cons y).trans (.swap x y r)
theorem sortI_perm : ∀ l, (sortI l).Perm l
  | [] => .refl _
  | x :: r => (insI_perm x (sortI r)).trans ((sortI_perm r).cons x)
theorem insI_srt (x : Int) : ∀ l, l.Pairwise (· ≤ ·) → (insI x l).Pairwise (· ≤ ·)
  | [], _ => by simp [insI]
  | y :: r, h => by
    unfold insI
    have h' := List.pairwise_cons.mp h
    split
    · rename_i q
      refine List.pairwise_cons.mpr ⟨fun z hz => ?_, h⟩
      rcases List.mem_cons.mp hz with e | e
      · rw [e]; exact q
      · exact Int.le_trans q (h'.1 z e)
    · rename_i q
      refine List.pairwise_cons.mpr ⟨fun z hz => ?_, insI_srt x r h'.2⟩
      rcases List.mem_cons.mp ((insI_perm x r).mem_iff.mp hz) with e | e
      · rw [e]; omega
      · exact h'.1 z e
theorem sortI_srt : ∀ l, (sortI l).Pairwise (· ≤ ·)
  | [] => .nil
  | x :: r => insI_srt x _ (sortI_srt r)
theorem srt_uniq : ∀ {l m : List Int}, l.Perm m → l.Pairwise (· ≤ ·) → m.Pairwise (· ≤ ·) → l = m
  | [], m, p, _, _ => by
    have := p.length_eq
    cases m with
    | nil => rfl
    | cons => simp at this
  | a :: l, [], p, _, _ => by
    have := p.length_eq
    simp at this
  | a :: l, b :: m, p, h1, h2 => by
    have h1' := List.pairwise_cons.mp h1
    have h2' := List.pairwise_cons.mp h2
    have ab : a = b := by
      have ha : a ∈ b :: m := p.mem_iff.mp (by simp)
      have hb : b ∈ a :: l := p.mem_iff.mpr (by simp)
      rcases List.mem_cons.mp ha with e | e
      · exact e
      · rcases List.mem_cons.mp hb with e2 | e2
        · exact e2.symm
        · exact Int.le_antisymm (h1'.1 b e2) (h2'.1 a e)
    subst ab
    rw [srt_uniq (List.Perm.cons_inv p) h1'.2 h2'.2]
theorem Reps.ofInts {pd : Addr} {Hf : Hp} : ∀ ns : List Int, Reps pd Hf (ns.map V.int) (ns.map D.int)
  | [] => .nil
  | n :: ns => .cons (.int n) (Reps.ofInts ns)
theorem str_dig : ∀ i : Int, 0 ≤ i → i ≤ 9 → (toString i : Str) = SX.S (digs i) ∧ i.natAbs.log2 < 1920 := by
  intro i h0 h9
  have : i = 0 ∨ i = 1 ∨ i = 2 ∨ i = 3 ∨ i = 4 ∨ i = 5 ∨ i = 6 ∨ i = 7 ∨ i = 8 ∨ i = 9 := by omega
  rcases this with h | h | h | h | h | h | h | h | h | h <;> subst h <;> decide +kernel
theorem b1_ok (f : B1) {a : D} {x : V} (st : StOk P σ H Hf s) (ra : Rep P.pd Hf x a) (h : Pst cl W P σ Hf (CD P σ s Q) (b1D f a)) : rB1 K f [x] H Q := by
  have up : ∀ {p : Addr} {o : HO}, H p = none → Same Hf (upd Hf p o) := fun hp => same_upd (st.sub.free hp)
  unfold b1D at h
  split at h
  · cases ra with | lst a1 a2 a3 =>
    exact ⟨_, _, rfl, .inl ⟨SqL.of (st.sub _ _ a1), fun p hp => cd_new st h hp (.tup upd_same (Reps.mono (up hp) _ _ a2) a3)⟩⟩
  · cases ra with | tup a1 a2 a3 =>
    exact ⟨_, _, rfl, .inr ⟨SqT.of (st.sub _ _ a1), cd_of st h (.tup a1 a2 a3)⟩⟩
  · cases ra with | lst a1 a2 a3 =>
    exact ⟨_, _, rfl, .inl (SqL.of (st.sub _ _ a1)), fun p hp => cd_new st h hp (.lst upd_same (Reps.mono (up hp) _ _ a2) a3)⟩
  · cases ra with | tup a1 a2 a3 =>
    exact ⟨_, _, rfl, .inr (SqT.of (st.sub _ _ a1)), fun p hp => cd_new st h hp (.lst upd_same (Reps.mono (up hp) _ _ a2) a3)⟩
  · cases ra with | lst a1 a2 a3 =>
    split at h
    · rename_i bs e
      have ev := a2.bls e
      subst ev
      exact ⟨_, bs, rfl, SqL.of (st.sub _ _ a1), cd_of st h (.bl _)⟩
    · exact h.elim
  · cases ra with | lst a1 a2 a3 =>
    split at h
    · rename_i bs e
      have ev := a2.ints e
      subst ev
      exact .inl ⟨_, bs, rfl, SqL.of (st.sub _ _ a1), cd_of st h (.int _)⟩
    · exact h.elim
  · cases ra with | tup a1 a2 a3 =>
    split at h
    · rename_i bs e
      have ev := a2.ints e
      subst ev
      exact .inr ⟨_, bs, rfl, SqT.of (st.sub _ _ a1), cd_of st h (.int _)⟩
    · exact h.elim
  · cases ra
    exact ⟨_, rfl, cd_of st h (.int _)⟩
  · cases ra
    exact .inl (.inl ⟨_, rfl, cd_of st h (.int _)⟩)
  · cases ra
    exact .inl (.inr ⟨_, rfl, cd_of st h (.int _)⟩)
  · cases ra with | str a1 a2 =>
    split at h
    · rename_i c hc
      refine .inr ⟨_, _, rfl, SX.int_S (a := [c]) (by simp; exact hc) (by simp) (by simp), by rw [SX.S_len]; simp, ?_⟩
      have e : NumText.digitsVal [c] = c - 48 := by simp [NumText.digitsVal]
      rw [e]
      exact cd_of st h (.int _)
    · exact h.elim
  · cases ra with | lst a1 a2 a3 =>
    exact ⟨_, _, rfl, .inl ⟨_, SqL.of (st.sub _ _ a1), rfl⟩, by rw [a2.length]; exact cd_of st h (.int _)⟩
  · cases ra with | tup a1 a2 a3 =>
    exact ⟨_, _, rfl, .inr ⟨_, SqT.of (st.sub _ _ a1), rfl⟩, by rw [a2.length]; exact cd_of st h (.int _)⟩
  · cases ra with | str a1 a2 =>
    exact ⟨_, _, rfl, ⟨by rw [SX.S_len, SL_eq]; exact a2, rfl⟩, by rw [SX.S_len]; exact cd_of st h (.int _)⟩
  · cases ra with | lst a1 a2 a3 =>
    split at h
    · rename_i ns e
      have ev := a2.ints e
      subst ev
      refine .inl ⟨_, ns, rfl, SqL.of (st.sub _ _ a1), fun ns' p pm so hp => ?_⟩
      have eq := srt_uniq (pm.trans (sortI_perm ns).symm) so (sortI_srt ns)
      subst eq
      exact cd_new st h hp (.lst upd_same (Reps.ofInts _) (by rw [List.length_map, (sortI_perm ns).length_eq, ← List.length_map (f := V.int), a2.length]; exact a3))
    · split at h
      · rename_i bs e
        obtain ⟨zs, z1, z2, z3⟩ := a2.brds e
        subst z1 z2
        refine .inr (.inr ⟨_, zs.map fun z => (z.1, z.2.map SX.S), rfl, SqL.of (st.sub _ _ (by rw [List.map_map]; exact a1)), fun b hb => ?_, fun p hp => ?_⟩)
        · obtain ⟨z, hz, rfl⟩ := List.mem_map.mp hb
          obtain ⟨y1, y2, y3⟩ := z3 z hz
          exact ⟨fun q => y1 (List.map_eq_nil_iff.mp q), SqT.of (st.sub _ _ y2)⟩
        · rw [sort_refs, List.map_map]
          rw [← sort_txs] at h
          refine cd_new st h hp (.lst upd_same (Reps.ofRefs fun z hz => ?_) ?_)
          · exact Rep.mono (up hp) _ _ (z3 z (List.mem_mergeSort.mp hz)).2.2
          · rw [List.length_map, List.length_map, List.length_mergeSort]
            have := a2.length
            rw [List.length_map] at this
            rw [this]
            exact a3
      · exact h.elim
  · cases ra with | tup a1 a2 a3 =>
    split at h
    · rename_i ns e
      have ev := a2.ints e
      subst ev
      refine .inr (.inl ⟨_, ns, rfl, SqT.of (st.sub _ _ a1), fun ns' p pm so hp => ?_⟩)
      have eq := srt_uniq (pm.trans (sortI_perm ns).symm) so (sortI_srt ns)
      subst eq
      exact cd_new st h hp (.lst upd_same (Reps.ofInts _) (by rw [List.length_map, (sortI_perm ns).length_eq, ← List.length_map (f := V.int), a2.length]; exact a3))
    · exact h.elim
  · cases ra
    split at h
    · rename_i i hi
      obtain ⟨e1, e2⟩ := str_dig _ hi.1 hi.2
      refine ⟨_, rfl, e2, ?_⟩
      rw [e1]
      refine cd_of st h (.str (fun c hc => ?_) (show 1 ≤ SL by decide))
      have : c = 48 + i.toNat := by simpa [digs] using hc
      omega
    · exact h.elim
  · cases ra with | lst a1 a2 a3 =>
    exact ⟨_, _, rfl, SqL.of (st.sub _ _ a1), fun p o hp ho => cd_new st h hp (.tpk ⟨o, upd_same, ho⟩ (Reps.mono (up hp) _ _ a2) a3)⟩
  · cases ra with | lst a1 a2 a3 =>
    split at h
    · rename_i ps e
      obtain ⟨zs, z1, z2, z3⟩ := a2.prs e
      subst z1 z2
      refine ⟨_, zs, rfl, SqL.of (st.sub _ _ a1), fun b hb => SqT.of (st.sub _ _ (z3 b hb).1), fun p hp => ?_⟩
      rw [sort_refsP]
      rw [← sort_prs] at h
      refine cd_new st h hp (.lst upd_same (Reps.ofRefsP fun z hz => Rep.mono (up hp) _ _ (z3 z (List.mem_mergeSort.mp hz)).2) ?_)
      rw [List.length_map, List.length_map, List.length_mergeSort]
      have := a2.length
      rw [List.length_map] at this
      rw [this]
      exact a3
    · exact h.elim
  all_goals exact h.elim
theorem slk_ok {a : D} {x : V} {lo hi : Option Int} (st : StOk P σ H Hf s) (ra : Rep P.pd Hf x a) (h : Pst cl W P σ Hf (CD P σ s Q) (slkD a lo hi)) : rSlK K x lo hi H Q := by
  have up : ∀ {p : Addr} {o : HO}, H p = none → Same Hf (upd Hf p o) := fun hp => same_upd (st.sub.free hp)
  cases ra with
  | tup a1 a2 a3 =>
    unfold slkD at h
    simp only at h
    split at h
    · exact h.elim
    · rename_i hw
      refine ⟨_, _, rfl, SqT.of (st.sub _ _ a1), ?_, fun p o hp ho => cd_new st h hp (.tpk ⟨o, upd_same, ho⟩ (Reps.mono (up hp) _ _ (a2.cut lo hi)) (Nat.le_trans (cut_len _ _ _) a3))⟩
      rw [six_eq, six_eq, a2.length]
      exact hw
  | _ => exact h.elim
theorem toPs_cnt (x : D) (n m : Nat) (hx : x.fit n = true) : ∀ l : List D, D.fits m l = true → ((toPs l).countP fun z => PyData.eqv z (toP x)) = l.countP fun z => D.eqv z x
  | [], _ => rfl
  | d :: l, f => by
    simp only [D.fits, Bool.and_eq_true] at f
    show (toP d :: toPs l).countP _ = _
    rw [List.countP_cons, List.countP_cons, toPs_cnt x n m hx l f.2, eqv_P d x m n f.1 hx]
theorem cntk_ok {l : List D} {b : D} {x y : V} {H1 Hf1 : Hp} (e : Same Hf1 Hf) (st : StOk P σ H Hf s) (ra : Rep P.pd Hf1 x (.tpk l)) (rb : Rep P.pd Hf y b) (h : Pst cl W P σ Hf (CD P σ s Q) (cntD (.tpk l) b)) : rCntM K x [y] H Q := by
  unfold cntD at h
  simp only at h
  split at h
  · rename_i hl
    rw [Bool.and_eq_true] at hl
    cases ra with
    | tpk a1 a2 a3 =>
      obtain ⟨o, k1, k2⟩ := a1
      have hl2 : (D.tup l).fit 60 = true := hl.2
      have dp : Dp K H (.ref _) (.tuple (toPs l)) := .tup (.inl (.inr ⟨o, st.sub _ _ (e _ _ k1)⟩)) (Reps.dp st.sub l 59 _ hl.2 (Reps.mono e _ _ a2))
      have sh : SeqAt.shaped (.tuple (toPs l)) = true := by
        unfold SeqAt.shaped
        have q1 : (PyData.tuple (toPs l)).canLay0 = true := Reps.lay l 59 _ hl.2 a2
        have q2 : (PyData.tuple (toPs l)).depth ≤ 60 := fit_depth (.tup l) 60 hl2
        rw [q1, decide_eq_true (Nat.le_trans q2 (by decide))]
        rfl
      refine ⟨y, toP b, toPs l, rfl, dp, rb.dp st.sub _ 59 _ hl.1, sh, rb.shaped (by decide) hl.1, ?_⟩
      rw [toPs_cnt b 59 59 hl.1 l hl.2]
      exact cd_of st h (.int _)
  · exact h.elim
theorem b2_ok (f : B2) {a b : D} {x y : V} (st : StOk P σ H Hf s) (ra : Rep P.pd Hf x a) (rb : Rep P.pd Hf y b) (h : Pst cl W P σ Hf (CD P σ s Q) (b2D f a b)) : rB2 f [x, y] H Q := by
  unfold b2D at h
  split at h
  · cases ra; cases rb; exact ⟨_, _, rfl, cd_of st h (.int _)⟩
  · cases ra; cases rb; exact ⟨_, _, rfl, cd_of st h (.int _)⟩
  · exact h.elim
theorem joinT_L (sp : Tx) : ∀ xs : List Tx, joinT sp xs = TL.joinL sp xs
  | [] => rfl
  | [_] => rfl
  | a :: b :: r => by
    show a ++ sp ++ joinT sp (b :: r) = a ++ (sp ++ TL.joinL sp (b :: r))
    rw [joinT_L sp (b :: r), List.append_assoc]
theorem joinT_mem (sp : Tx) (hs : ∀ c ∈ sp, c < 128) : ∀ xs : List Tx, (∀ l ∈ xs, ∀ c ∈ l, c < 128) → ∀ c ∈ joinT sp xs, c < 128
  | [], _, c, h => by simp [joinT] at h
  | [a], hx, c, h => hx a (by simp) c h
  | a :: b :: r, hx, c, h => by
    have h : c ∈ a ++ sp ++ joinT sp (b :: r) := h
    rcases List.mem_append.mp h with h | h
    · rcases List.mem_append.mp h with h | h
      · exact hx a (by simp) c h
      · exact hs c h
    · exact joinT_mem sp hs (b :: r) (fun l hl => hx l (List.mem_cons_of_mem _ hl)) c h
theorem joinT_len (sp : Tx) : ∀ xs : List Tx, (joinT sp xs).length ≤ (xs.map List.length).sum + xs.length * sp.length
  | [] => by simp [joinT]
  | [a] => by simp [joinT]
  | a :: b :: r => by
    have ih := joinT_len sp (b :: r)
    show (a ++ sp ++ joinT sp (b :: r)).length ≤ _
    simp only [List.length_append, List.map_cons, List.sum_cons, List.length_cons, Nat.add_mul, Nat.one_mul] at ih ⊢
    omega
theorem lens_S (xs : List Tx) : ((xs.map SX.S).map fun x : Str => x.length) = xs.map List.length := SX.lens xs
theorem splitT_spl (c : Nat) : ∀ (l acc : Tx), splitT c acc l = TL.spl [c] 0 acc l
  | [], acc => by rw [TL.spl_nil]; rfl
  | a :: r, acc => by
    by_cases e : a = c
    · subst e
      rw [TL.spl_hit (by simp [TL.pre])]
      show (if a = a then acc :: splitT a [] r else _) = _
      rw [if_pos rfl, splitT_spl a r []]
      rfl
    · rw [TL.spl_miss (by simp [TL.pre, e])]
      show (if a = c then _ else splitT c (acc ++ [a]) r) = _
      rw [if_neg e, splitT_spl c r _]
theorem splitT_mem (c : Nat) : ∀ (l acc : Tx), (∀ x ∈ l, x < 128) → (∀ x ∈ acc, x < 128) → ∀ p ∈ splitT c acc l, (∀ x ∈ p, x < 128) ∧ p.length ≤ acc.length + l.length
  | [], acc, h1, h2, p, hp => by
    have e : p = acc := by simpa [splitT] using hp
    subst e
    exact ⟨h2, by simp⟩
  | a :: r, acc, h1, h2, p, hp => by
    unfold splitT at hp
    split at hp
    · rcases List.mem_cons.mp hp with rfl | hp
      · exact ⟨h2, by simp⟩
      · obtain ⟨q1, q2⟩ := splitT_mem c r [] (fun x hx => h1 x (List.mem_cons_of_mem _ hx)) (by simp) p hp
        exact ⟨q1, by simp at q2 ⊢; omega⟩
    · obtain ⟨q1, q2⟩ := splitT_mem c r (acc ++ [a]) (fun x hx => h1 x (List.mem_cons_of_mem _ hx)) (fun x hx => (List.mem_append.mp hx).elim (h2 x) fun hx => by rw [List.mem_singleton.mp hx]; exact h1 a (by simp)) p hp
      exact ⟨q1, by simp at q2 ⊢; omega⟩
theorem splitT_len (c : Nat) : ∀ (l acc : Tx), (splitT c acc l).length ≤ l.length + 1
  | [], acc => by simp [splitT]
  | a :: r, acc => by
    unfold splitT
    split
    · have := splitT_len c r []
      simp
      omega
    · have := splitT_len c r (acc ++ [a])
      simp
      omega
theorem reps_strs {pd : Addr} : ∀ (xs : List Tx), (∀ p ∈ xs, (∀ x ∈ p, x < 128) ∧ p.length ≤ SL) → Reps pd Hf ((xs.map SX.S).map V.str) (xs.map D.str)
  | [], _ => .nil
  | x :: xs, h => .cons (.str (h x (by simp)).1 (h x (by simp)).2) (reps_strs xs fun p hp => h p (List.mem_cons_of_mem _ hp))
theorem cnt_count (c : Nat) : ∀ l : List Nat, PyProof.Rows.cnt c l = ((l.count c : Nat) : Int)
  | [] => rfl
  | a :: r => by
    rw [PyProof.Rows.cnt_cons, cnt_count c r, List.count_cons]
    by_cases e : a = c <;> simp [e]
    omega
theorem fidx_ok {l : Tx} {c k : Nat} (hl : l = [82, 76, 70, 66] ∨ l = [35, 46] ∨ l = [94, 62, 118, 60]) (h : fidx c l = some k) : Txt.index0 (SX.S l) (SX.S [c]) = some k := by
  have mem : ∀ (l : Tx) (k : Nat), fidx c l = some k → c ∈ l := by
    intro l
    induction l with
    | nil => intro k h; cases h
    | cons a r ih =>
      intro k h
      unfold fidx at h
      split at h
      · rename_i e
        rw [e]
        exact List.mem_cons_self
      · cases q : fidx c r with
        | none => rw [q] at h; cases h
        | some j => exact List.mem_cons_of_mem _ (ih j q)
  have hm := mem l k h
  rcases hl with rfl | rfl | rfl
  · simp only [List.mem_cons, List.not_mem_nil, or_false] at hm
    rcases hm with rfl | rfl | rfl | rfl <;> (rw [← h]; decide +kernel)
  · simp only [List.mem_cons, List.not_mem_nil, or_false] at hm
    rcases hm with rfl | rfl <;> (rw [← h]; decide +kernel)
  · simp only [List.mem_cons, List.not_mem_nil, or_false] at hm
    rcases hm with rfl | rfl | rfl | rfl <;> (rw [← h]; decide +kernel)
theorem m1_ok (m : M1) {a b : D} {x y : V} (st : StOk P σ H Hf s) (ra : Rep P.pd Hf x a) (rb : Rep P.pd Hf y b) (h : Pst cl W P σ Hf (CD P σ s Q) (m1D m a b)) : rM K W m σ x [y] H Q := by
  have up : ∀ {p : Addr} {o : HO}, H p = none → Same Hf (upd Hf p o) := fun hp => same_upd (st.sub.free hp)
  unfold m1D at h
  split at h
  · cases ra with | str a1 a2 =>
    cases rb with | lst b1 b2 b3 =>
    split at h
    · rename_i xs e
      split at h
      · rename_i hl
        obtain ⟨e1, e2⟩ := b2.strs e
        subst e1
        refine ⟨_, _, xs.map SX.S, rfl, rfl, .inl (SqL.of (st.sub _ _ b1)), ?_, ?_⟩
        · rw [lens_S, List.length_map, SX.S_len]
          exact hl
        · rw [SX.join_S, ← joinT_L]
          exact cd_of st h (.str (joinT_mem _ a1 _ e2) (Nat.le_trans (joinT_len _ _) hl))
      · exact h.elim
    · exact h.elim
  · cases ra with | str a1 a2 =>
    cases rb with | tup b1 b2 b3 =>
    split at h
    · rename_i xs e
      split at h
      · rename_i hl
        obtain ⟨e1, e2⟩ := b2.strs e
        subst e1
        refine ⟨_, _, xs.map SX.S, rfl, rfl, .inr (SqT.of (st.sub _ _ b1)), ?_, ?_⟩
        · rw [lens_S, List.length_map, SX.S_len]
          exact hl
        · rw [SX.join_S, ← joinT_L]
          exact cd_of st h (.str (joinT_mem _ a1 _ e2) (Nat.le_trans (joinT_len _ _) hl))
      · exact h.elim
    · exact h.elim
  · cases ra with | str a1 a2 =>
    cases rb with | str b1 b2 =>
    refine ⟨_, _, rfl, rfl, ?_⟩
    show Q (.int (Txt.count _ ⟨#[_]⟩)) H
    rw [PyProof.Rows.count_cnt, cnt_count]
    exact cd_of st h (.int _)
  · cases ra with | str a1 a2 =>
    cases rb with | str b1 b2 =>
    split at h
    · rename_i hl
      split at h
      · rename_i k e
        have q := fidx_ok hl e
        refine ⟨_, _, rfl, rfl, fun k' e' => ?_, fun e' => ?_⟩
        · rw [q] at e'
          cases e'
          exact cd_of st h (.int _)
        · rw [q] at e'
          cases e'
      · exact h.elim
    · exact h.elim
  · cases ra with | str a1 a2 =>
    cases rb with | str b1 b2 =>
    split at h
    · rename_i l c hl
      have hc : c < 128 := b1 c (by simp)
      refine ⟨_, _, rfl, rfl, by simp [Str.length], by rw [SX.S_len, SL_eq]; exact hl, fun p hp => ?_⟩
      rw [SX.split_S (by simp) (by simp; omega), ← splitT_spl]
      refine cd_new st h hp (.lst upd_same (reps_strs _ fun q hq => ?_) ?_)
      · obtain ⟨z1, z2⟩ := splitT_mem c l [] a1 (by simp) q hq
        exact ⟨z1, by simp at z2; omega⟩
      · rw [List.length_map]
        have := splitT_len c l []
        omega
    · exact h.elim
  · exact h.elim
end
end Fw

set_option Elab.async false
set_option linter.all false
set_option autoImplicit false
set_option maxRecDepth 100000
set_option maxHeartbeats 4000000
/-! FwOk: the readings follow from the evaluator's word. -/
namespace Fw
open PySem L2

section
variable {P : Par} {σ : St} {H Hf : Hp} {s : S}
theorem StOk.ext {H1 : Hp} (st : StOk P σ H Hf s) (e : Same H H1) : StOk P σ H1 Hf s :=
  ⟨fun a o q n => e _ _ (st.keep a o q n), st.sub.trans e, st.fix, st.sub0, e _ _ st.dice, st.dicef, st.tabs.ext e, fun i => (st.slot i).mono (fun p vs a _ _ d _ => ⟨e _ _ d, a⟩) (Same.refl _), st.dist, st.len, st.lk, st.nt⟩
/-- no slot owns what was free -/
theorem StOk.noOwn {p : Addr} (st : StOk P σ H Hf s) (hp : H p = none) : ∀ j, ¬ OwnAt (s.get j) (σ.getD j none) p := fun j h => by
  have q := st.slot j
  cases e : s.get j with
  | ol ds =>
    rw [e] at q h
    obtain ⟨p', vs, e1, _, _, _, d, _⟩ := q
    have z : (some (V.ref p') : Option V) = some (.ref p) := e1.symm.trans h
    injection z with z
    injection z with z
    subst z
    rw [hp] at d
    cases d
  | od ds =>
    rw [e] at q h
    obtain ⟨p', vs, e1, _, _, _, d, _⟩ := q
    have z : (some (V.ref p') : Option V) = some (.ref p) := e1.symm.trans h
    injection z with z
    injection z with z
    subst z
    rw [hp] at d
    cases d
  | oi ds =>
    rw [e] at q h
    obtain ⟨p', vs, e1, _, _, _, d, _⟩ := q
    have z : (some (V.ref p') : Option V) = some (.ref p) := e1.symm.trans h
    injection z with z
    injection z with z
    subst z
    rw [hp] at d
    cases d
  | os ds =>
    rw [e] at q h
    obtain ⟨p', vs, e1, _, _, _, d, _⟩ := q
    have z : (some (V.ref p') : Option V) = some (.ref p) := e1.symm.trans h
    injection z with z
    injection z with z
    subst z
    rw [hp] at d
    cases d
  | un => rw [e] at h; exact h
  | val d => rw [e] at h; exact h
/-- a thing that no slot owns is frozen -/
theorem StOk.frz {p : Addr} {o : HO} (st : StOk P σ H Hf s) (hp : H p = some o) (hf : Hf p = none) (h0 : P.H0 p = none) (hd : p ≠ P.pd) (hn : ∀ j, ¬ OwnAt (s.get j) (σ.getD j none) p) (ho : ∀ ps, o ≠ .tbl ps) : StOk P σ H (upd Hf p o) s := by
  have e2 : Same Hf (upd Hf p o) := same_upd hf
  refine ⟨st.keep, fun b u q => ?_, fun a u q => ?_, st.sub0.trans e2, st.dice, ?_, st.tabs, fun j => ?_, st.dist, st.len, st.lk, fun a ps q => ?_⟩
  · by_cases hb : b = p
    · subst hb
      rw [upd_same] at q
      cases q
      exact hp
    · rw [upd_ne hb] at q
      exact st.sub b u q
  · have hne : a ≠ p := fun z => by rw [z, h0] at q; cases q
    rw [upd_ne hne]
    exact st.fix a u q
  · rw [upd_ne (fun z => hd z.symm)]
    exact st.dicef
  · refine (st.slot j).mono (fun q ws a _ _ d ow => ⟨d, ?_⟩) e2
    have hne : q ≠ p := fun z => by
      subst z
      exact hn j ow
    rw [upd_ne hne]
    exact a
  · by_cases hb : a = p
    · rw [hb, upd_same] at q
      exact ho ps (Option.some.inj q)
    · rw [upd_ne hb] at q
      exact st.nt a ps q
/-- a list that no slot owns is written -/
theorem StOk.cell {p : Addr} {vs ws : List V} (st : StOk P σ H Hf s) (hp : H p = some (.lst vs)) (hf : Hf p = none) (h0 : P.H0 p = none) (hd : p ≠ P.pd) (hn : ∀ j, ¬ OwnAt (s.get j) (σ.getD j none) p) : StOk P σ (upd H p (.lst ws)) Hf s := by
  refine ⟨fun a o q n => ?_, fun b u q => ?_, st.fix, st.sub0, ?_, st.dicef, fun t ht => ?_, fun j => ?_, st.dist, st.len, st.lk, st.nt⟩
  · have hne : a ≠ p := fun z => by rw [z, h0] at q; cases q
    rw [upd_ne hne]
    exact st.keep a o q n
  · have hne : b ≠ p := fun z => by rw [z, hf] at q; cases q
    rw [upd_ne hne]
    exact st.sub b u q
  · rw [upd_ne (fun z => hd z.symm)]
    exact st.dice
  · obtain ⟨ps, a1, a2, a3⟩ := st.tabs t ht
    have hne : t.1 ≠ p := fun z => by rw [z, hp] at a1; cases a1
    refine ⟨ps, by rw [upd_ne hne]; exact a1, a2, fun pos cv hc => ?_⟩
    obtain ⟨c, e1, e2⟩ := a3 pos cv hc
    refine ⟨c, e1, ?_⟩
    have hnc : c ≠ p := fun z => by
      rw [z, hp] at e2
      unfold LamX.CodeO at e2
      cases e2
    rw [upd_ne hnc]
    exact e2
  · refine (st.slot j).mono (fun q us a _ _ d o => ⟨?_, a⟩) (Same.refl _)
    have hne : q ≠ p := fun z => by
      subst z
      exact hn j o
    rw [upd_ne hne]
    exact d
theorem wipe_get (σ : St) : ∀ (vs : List Nat) (j : Nat), (wipe σ vs).getD j none = if j ∈ vs then none else σ.getD j none
  | [], j => by simp [wipe]
  | v :: vs, j => by
    show ((wipe σ vs).set v none).getD j none = _
    by_cases h : v = j
    · subst h
      rw [if_pos List.mem_cons_self]
      by_cases hv : v < (wipe σ vs).length
      · exact σ_set_same hv
      · rw [List.set_eq_of_length_le (by omega)]
        simp [List.getD, List.getElem?_eq_none (show (wipe σ vs).length ≤ v by omega)]
    · rw [σ_set_ne h, wipe_get σ vs j]
      by_cases hj : j ∈ vs
      · rw [if_pos hj, if_pos (List.mem_cons_of_mem _ hj)]
      · rw [if_neg hj, if_neg (fun z => by rcases List.mem_cons.mp z with z | z; exact h z.symm; exact hj z)]
theorem wipeL_len (l : List Sl) : ∀ vs : List Nat, (wipeL l vs).length = l.length
  | [] => rfl
  | v :: vs => by
    show ((wipeL l vs).set v .un).length = _
    rw [List.length_set, wipeL_len l vs]
theorem wipeL_get (l : List Sl) : ∀ (vs : List Nat) (j : Nat), (wipeL l vs).getD j .un = if j ∈ vs then .un else l.getD j .un
  | [], j => by simp [wipeL]
  | v :: vs, j => by
    show ((wipeL l vs).set v .un).getD j .un = _
    by_cases h : v = j
    · subst h
      rw [if_pos List.mem_cons_self]
      by_cases hv : v < (wipeL l vs).length
      · simp [List.getD, hv]
      · rw [List.set_eq_of_length_le (by omega)]
        simp [List.getD, List.getElem?_eq_none (show (wipeL l vs).length ≤ v by omega)]
    · have e : ((wipeL l vs).set v .un).getD j .un = (wipeL l vs).getD j .un := by simp [List.getD, h]
      rw [e, wipeL_get l vs j]
      by_cases hj : j ∈ vs
      · rw [if_pos hj, if_pos (List.mem_cons_of_mem _ hj)]
      · rw [if_neg hj, if_neg (fun z => by rcases List.mem_cons.mp z with z | z; exact h z.symm; exact hj z)]
theorem St.ext {σ τ : St} (hl : σ.length = τ.length) (h : ∀ j, σ.getD j none = τ.getD j none) : σ = τ := by
  refine List.ext_getElem hl fun i h1 h2 => ?_
  have q := h i
  simpa [List.getD, h1, h2] using q
theorem wipe_set {i : Nat} {v : Option V} {vs : List Nat} (hi : i ∈ vs) : wipe (σ.set i v) vs = wipe σ vs := by
  refine St.ext (by rw [wipe_length, wipe_length, List.length_set]) fun j => ?_
  rw [wipe_get, wipe_get]
  by_cases hj : j ∈ vs
  · rw [if_pos hj, if_pos hj]
  · rw [if_neg hj, if_neg hj]
    exact σ_set_ne fun z => hj (by rw [← z]; exact hi)
theorem wipe_wipe {vs : List Nat} : wipe (wipe σ vs) vs = wipe σ vs := by
  refine St.ext (by rw [wipe_length]) fun j => ?_
  rw [wipe_get, wipe_get]
  by_cases hj : j ∈ vs
  · rw [if_pos hj, if_pos hj]
  · rw [if_neg hj, if_neg hj]
theorem StOk.wipe (st : StOk P σ H Hf s) (vs : List Nat) : StOk P (L2.wipe σ vs) H Hf ⟨wipeL s.env vs, s.dn, s.dk, s.lk⟩ := by
  have g : ∀ j, S.get ⟨wipeL s.env vs, s.dn, s.dk, s.lk⟩ j = if j ∈ vs then .un else s.get j := fun j => wipeL_get s.env vs j
  refine ⟨st.keep, st.sub, st.fix, st.sub0, st.dice, st.dicef, st.tabs, fun j => ?_, fun a b p h1 h2 => ?_, ?_, st.lk, st.nt⟩
  · rw [g, wipe_get]
    by_cases hj : j ∈ vs
    · rw [if_pos hj]
      trivial
    · rw [if_neg hj, if_neg hj]
      exact st.slot j
  · have f : ∀ c, OwnAt (S.get ⟨wipeL s.env vs, s.dn, s.dk, s.lk⟩ c) ((L2.wipe σ vs).getD c none) p → OwnAt (s.get c) (σ.getD c none) p := fun c h => by
      rw [g, wipe_get] at h
      by_cases hj : c ∈ vs
      · rw [if_pos hj] at h
        exact h.elim
      · rw [if_neg hj, if_neg hj] at h
        exact h
    exact st.dist a b p (f a h1) (f b h2)
  · show (wipeL s.env vs).length = _
    rw [wipeL_len, wipe_length]
    exact st.len

/-! ### targets -/
mutual
theorem bind_ok' (K : PySem.W.Frag) : ∀ (tg : Tg) (d : D) (s s' : S) (σ : St) (v : V) (Q : St → Hp → Prop), StOk P σ H Hf s → Rep P.pd Hf v d → bindT tg d s = some s' →
    (∀ σ', StOk P σ' H Hf s' → (∀ vs : List Nat, (∀ i ∈ tg.slots, i ∈ vs) → L2.wipe σ' vs = L2.wipe σ vs) → Q σ' H) → trg K tg v σ H Q
  | .nm i, d, s, s', σ, v, Q, st, r, h, k => by
    cases h
    exact k _ (st.set r) fun vs hv => wipe_set (hv i (by simp [Tg.slots]))
  | .tup ts, d, s, s', σ, v, Q, st, r, h, k => by
    cases r with
    | tup a b c =>
      have hl : ∀ (ts : Tgs) (l : List D) (s s' : S), bindTs ts l s = some s' → l.length = ts.len := by
        intro ts
        induction ts using Tgs.rec (motive_1 := fun _ => True) with
        | nm => trivial
        | tup => trivial
        | nil =>
          intro l s s' h
          cases l with
          | nil => rfl
          | cons => cases h
        | cons t r _ ih =>
          intro l s s' h
          cases l with
          | nil => cases h
          | cons x l =>
            have h : (bindT t x s).bind (fun s' => bindTs r l s') = some s' := h
            cases q : bindT t x s with
            | none => rw [q] at h; cases h
            | some s1 =>
              rw [q] at h
              show l.length + 1 = r.len + 1
              rw [ih l s1 s' h]
      have h' : bindTs ts _ s = some s' := h
      refine ⟨_, _, rfl, SqT.of (st.sub _ _ a), by rw [b.length]; exact hl ts _ s s' h', ?_⟩
      exact bindTs_ok K ts _ s s' σ _ Q st b h' k
    | _ => cases h
theorem bindTs_ok (K : PySem.W.Frag) : ∀ (ts : Tgs) (l : List D) (s s' : S) (σ : St) (vs : List V) (Q : St → Hp → Prop), StOk P σ H Hf s → Reps P.pd Hf vs l → bindTs ts l s = some s' →
    (∀ σ', StOk P σ' H Hf s' → (∀ vs : List Nat, (∀ i ∈ ts.slots, i ∈ vs) → L2.wipe σ' vs = L2.wipe σ vs) → Q σ' H) → trgs K ts vs σ H Q
  | .nil, [], s, s', σ, vs, Q, st, r, h, k => by
    cases r
    cases h
    exact ⟨rfl, k _ st fun _ _ => rfl⟩
  | .nil, _ :: _, s, s', σ, vs, Q, st, r, h, k => by cases h
  | .cons t r, [], s, s', σ, vs, Q, st, rp, h, k => by cases h
  | .cons t r, d :: l, s, s', σ, vs, Q, st, rp, h, k => by
    cases rp with
    | cons a b =>
      have h : (bindT t d s).bind (fun s' => bindTs r l s') = some s' := h
      cases q : bindT t d s with
      | none => rw [q] at h; cases h
      | some s1 =>
        rw [q] at h
        refine ⟨_, _, rfl, bind_ok' K t d s s1 σ _ _ st a q fun σ1 st1 w1 => ?_⟩
        exact bindTs_ok K r l s1 s' σ1 _ Q st1 b h fun σ2 st2 w2 => k σ2 st2 fun vs hv =>
          (w2 vs fun i hi => hv i (by simp [Tgs.slots, hi])).trans (w1 vs fun i hi => hv i (by simp [Tgs.slots, hi]))
end
end

/-! ### what is walked -/
structure ItOk (pd : Addr) (J : L2.It) (ds : List D) (Hf : Hp) : Prop where
  len : ds.length ≤ SL
  go : ∀ i H' Hf', i < ds.length → Same Hf Hf' → Same Hf' H' → J.go i H'
  stop : ∀ H' Hf', Same Hf Hf' → Same Hf' H' → J.stop ds.length H'
  yld : ∀ i H' Hf' x H'', Same Hf Hf' → Same Hf' H' → J.yld i H' x H'' → ∀ d, ds[i]? = some d → (H'' = H' ∧ Rep pd Hf' x d) ∨ ∃ T xs, H' T = none ∧ H'' = upd H' T (.tup xs) ∧ Rep pd (upd Hf' T (.tup xs)) x d
def CI (P : Par) (σ : St) (R : L2.It → Hp → Prop) : List D × S → Hp → Hp → Prop := fun a H' Hf' => StOk P σ H' Hf' a.2 → ∀ J, ItOk P.pd J a.1 Hf' → R J H'
section
variable {K : PySem.W.Frag} {pd : Addr} {Hf : Hp}
theorem it_lst {a : Addr} {xs : List V} {ds : List D} (h : Hf a = some (.lst xs)) (r : Reps pd Hf xs ds) (hl : ds.length ≤ SL) : ItOk pd (Itl K a) ds Hf := by
  refine ⟨hl, fun i H' Hf' hi e e' => ?_, fun H' Hf' e e' => ?_, fun i H' Hf' x H'' e e' y d hd => ?_⟩
  · obtain ⟨v, hv, _⟩ := r.get (i := i) (d := ds[i]) (by simp [hi])
    exact ⟨xs, v, SqL.of (e' _ _ (e _ _ h)), hv⟩
  · exact ⟨xs, SqL.of (e' _ _ (e _ _ h)), by rw [r.length]; exact Nat.le_refl _⟩
  · obtain ⟨e1, y⟩ := y
    have q := y xs (SqL.of (e' _ _ (e _ _ h)))
    obtain ⟨d', hd', rd⟩ := r.getV q
    rw [hd] at hd'
    cases hd'
    exact .inl ⟨e1, rd.mono e⟩
theorem it_tup {a : Addr} {xs : List V} {ds : List D} (h : Hf a = some (.tup xs)) (r : Reps pd Hf xs ds) (hl : ds.length ≤ SL) : ItOk pd (Itt K a) ds Hf := by
  refine ⟨hl, fun i H' Hf' hi e e' => ?_, fun H' Hf' e e' => ?_, fun i H' Hf' x H'' e e' y d hd => ?_⟩
  · obtain ⟨v, hv, _⟩ := r.get (i := i) (d := ds[i]) (by simp [hi])
    exact ⟨xs, v, SqT.of (e' _ _ (e _ _ h)), hv⟩
  · exact ⟨xs, SqT.of (e' _ _ (e _ _ h)), by rw [r.length]; exact Nat.le_refl _⟩
  · obtain ⟨e1, y⟩ := y
    have q := y xs (SqT.of (e' _ _ (e _ _ h)))
    obtain ⟨d', hd', rd⟩ := r.getV q
    rw [hd] at hd'
    cases hd'
    exact .inl ⟨e1, rd.mono e⟩
theorem it_str {l : Tx} (h : ∀ c ∈ l, c < 128) (hl : l.length ≤ SL) : ItOk pd (Its (SX.S l)) (l.map fun c => .str [c]) Hf := by
  refine ⟨by rw [List.length_map]; exact hl, fun i H' Hf' hi e e' => ?_, fun H' Hf' e e' => ?_, fun i H' Hf' x H'' e e' y d hd => ?_⟩
  · rw [List.length_map] at hi
    show i < (SX.S l).cps.size
    simpa [SX.S] using hi
  · show (SX.S l).cps.size ≤ _
    simp [SX.S]
  · obtain ⟨e1, c, hc, ex⟩ := y
    subst ex
    have hc' : l[i]? = some c := by simpa [SX.S] using hc
    rw [List.getElem?_map, hc'] at hd
    cases hd
    refine .inl ⟨e1, .str (l := [c]) (fun z hz => ?_) (by show 1 ≤ SL; decide)⟩
    rw [List.mem_singleton.mp hz]
    exact h c (List.mem_of_getElem? hc')
theorem it_rng {lo : Int} {n : Nat} (hn : n ≤ SL) : ItOk pd (Itr lo n) (rngL lo n) Hf := by
  have hl : (rngL lo n).length = n := by simp [rngL]
  refine ⟨by rw [hl]; exact hn, fun i H' Hf' hi e e' => ?_, fun H' Hf' e e' => ?_, fun i H' Hf' x H'' e e' y d hd => ?_⟩
  · rw [hl] at hi
    exact hi
  · rw [hl]
    exact Nat.le_refl _
  · obtain ⟨e1, ex⟩ := y
    subst ex
    have hi : i < n := by
      have := (List.getElem?_eq_some_iff.mp hd).1
      rw [hl] at this
      exact this
    have e2 : (rngL lo n)[i]? = some (.int (lo + (i : Nat))) := by simp [rngL, hi]
    rw [hd] at e2
    cases e2
    exact .inl ⟨e1, .int _⟩
theorem enumL_get : ∀ (ds : List D) (n i : Nat) (d : D), (enumL n ds)[i]? = some d → ∃ x, ds[i]? = some x ∧ d = .tup [.int ((n + i : Nat)), x]
  | [], _, i, d, h => by simp [enumL] at h
  | x :: ds, n, 0, d, h => by
    simp [enumL] at h
    exact ⟨x, rfl, by rw [← h]; simp⟩
  | x :: ds, n, i + 1, d, h => by
    have h' : (enumL (n + 1) ds)[i]? = some d := by simpa [enumL] using h
    obtain ⟨y, h1, h2⟩ := enumL_get ds (n + 1) i d h'
    refine ⟨y, by simpa using h1, ?_⟩
    rw [h2]
    congr 4
    omega
theorem enumL_len : ∀ (ds : List D) (n : Nat), (enumL n ds).length = ds.length
  | [], _ => rfl
  | x :: ds, n => by simp [enumL, enumL_len ds]
theorem it_enum {a : Addr} {xs : List V} {ds : List D} (h : Hf a = some (.lst xs)) (r : Reps pd Hf xs ds) (hl : ds.length ≤ SL) : ItOk pd (Ite K a) (enumL 0 ds) Hf := by
  refine ⟨by rw [enumL_len]; exact hl, fun i H' Hf' hi e e' => ?_, fun H' Hf' e e' => ?_, fun i H' Hf' x H'' e e' y d hd => ?_⟩
  · rw [enumL_len] at hi
    obtain ⟨v, hv, _⟩ := r.get (i := i) (d := ds[i]) (by simp [hi])
    exact ⟨xs, v, SqL.of (e' _ _ (e _ _ h)), hv⟩
  · exact ⟨xs, SqL.of (e' _ _ (e _ _ h)), by rw [r.length, enumL_len]; exact Nat.le_refl _⟩
  · obtain ⟨T, z, e1, e2, e3, y⟩ := y
    subst e1
    have q := y xs (SqL.of (e' _ _ (e _ _ h)))
    obtain ⟨d', hd', rd⟩ := r.getV q
    obtain ⟨w, hw, ed⟩ := enumL_get ds 0 i d hd
    rw [hw] at hd'
    cases hd'
    subst ed
    refine .inr ⟨T, _, e2, e3, .tup upd_same (.cons ?_ (.cons (Rep.mono ?_ _ _ rd) .nil)) (by show 2 ≤ SL; decide)⟩
    · rw [Nat.zero_add]
      exact .int _
    · have hT : Hf' T = none := e'.free e2
      exact e.trans (same_upd hT)
theorem it_enumT {l : Tx} (h : ∀ c ∈ l, c < 128) (hl : l.length ≤ SL) : ItOk pd (IteX (SX.S l)) (enumL 0 (l.map fun c => .str [c])) Hf := by
  have sz : (SX.S l).cps.size = l.length := by simp [SX.S]
  refine ⟨by rw [enumL_len, List.length_map]; exact hl, fun i H' Hf' hi e e' => ?_, fun H' Hf' e e' => ?_, fun i H' Hf' x H'' e e' y d hd => ?_⟩
  · rw [enumL_len, List.length_map] at hi
    show i < (SX.S l).cps.size
    rw [sz]
    exact hi
  · show (SX.S l).cps.size ≤ _
    rw [enumL_len, List.length_map, sz]
    exact Nat.le_refl _
  · obtain ⟨T, c, e1, e2, e3, y⟩ := y
    subst e1
    obtain ⟨w, hw, ed⟩ := enumL_get _ 0 i d hd
    subst ed
    have y' : l[i]? = some c := by simpa [SX.S] using y
    have hw' : (l.map fun c => D.str [c])[i]? = some (.str [c]) := by rw [List.getElem?_map, y']; rfl
    rw [hw'] at hw
    cases hw
    refine .inr ⟨T, _, e2, e3, .tup upd_same (.cons ?_ (.cons (Rep.str (l := [c]) (fun z hz => ?_) (by show 1 ≤ SL; decide)) .nil)) (by show 2 ≤ SL; decide)⟩
    · rw [Nat.zero_add]
      exact .int _
    · rw [List.mem_singleton.mp hz]
      exact h c (List.mem_of_getElem? y')
end
end Fw

set_option Elab.async false
set_option linter.all false
set_option autoImplicit false
set_option maxRecDepth 100000
set_option maxHeartbeats 2000000
/-! FwKey: data as keys of nested tuples; the entries of such a dict. -/
namespace Fw
open PySem L2
mutual
theorem kf_eqv : ∀ (a b : D) (n m : Nat), a.kf n = true → b.kf m = true → (D.eqv a b = true ↔ toNk a = toNk b)
  | .int i, b, n, m, _, hb => by
    cases b with
    | int j =>
      show ((i == j) = true) ↔ NestedKey.num i = NestedKey.num j
      simp
    | str l => exact ⟨fun z => (by cases z), fun z => (by cases z)⟩
    | tup l => exact ⟨fun z => (by cases z), fun z => (by cases z)⟩
    | _ => cases m <;> simp [D.kf] at hb
  | .str x, b, n, m, _, hb => by
    cases b with
    | str y =>
      show ((x == y) = true) ↔ NestedKey.text (SX.S x) = NestedKey.text (SX.S y)
      rw [beq_iff_eq]
      constructor
      · intro z; rw [z]
      · intro z
        injection z with z
        exact S_inB z
    | int l => exact ⟨fun z => (by cases z), fun z => (by cases z)⟩
    | tup l => exact ⟨fun z => (by cases z), fun z => (by cases z)⟩
    | _ => cases m <;> simp [D.kf] at hb
  | .tup xs, b, n, m, ha, hb => by
    cases n with
    | zero => simp [D.kf] at ha
    | succ n =>
      cases b with
      | tup ys =>
        cases m with
        | zero => simp [D.kf] at hb
        | succ m =>
          have q := kfs_eqvs xs ys n m (by simpa [D.kf] using ha) (by simpa [D.kf] using hb)
          show (D.eqvs xs ys = true) ↔ NestedKey.tup (toNks xs) = NestedKey.tup (toNks ys)
          rw [q]
          constructor
          · intro z; rw [z]
          · intro z; injection z
      | int l => exact ⟨fun z => (by cases z), fun z => (by cases z)⟩
      | str l => exact ⟨fun z => (by cases z), fun z => (by cases z)⟩
      | _ => cases m <;> simp [D.kf] at hb
  | .non, b, n, m, ha, _ => by cases n <;> simp [D.kf] at ha
  | .bl _, b, n, m, ha, _ => by cases n <;> simp [D.kf] at ha
  | .lst _, b, n, m, ha, _ => by cases n <;> simp [D.kf] at ha
  | .dic _ _, b, n, m, ha, _ => by cases n <;> simp [D.kf] at ha
  | .dice, b, n, m, ha, _ => by cases n <;> simp [D.kf] at ha
  | .tpk _, b, n, m, ha, _ => by cases n <;> simp [D.kf] at ha
  | .dii _ _, b, n, m, ha, _ => by cases n <;> simp [D.kf] at ha
theorem kfs_eqvs : ∀ (a b : List D) (n m : Nat), D.kfs n a = true → D.kfs m b = true → (D.eqvs a b = true ↔ toNks a = toNks b)
  | [], b, n, m, _, _ => by
    cases b with
    | nil => exact ⟨fun _ => rfl, fun _ => rfl⟩
    | cons y ys => exact ⟨fun z => (by cases z), fun z => (by cases z)⟩
  | x :: xs, b, n, m, ha, hb => by
    cases b with
    | nil => exact ⟨fun z => (by cases z), fun z => (by cases z)⟩
    | cons y ys =>
      simp only [D.kfs, Bool.and_eq_true] at ha hb
      have q1 := kf_eqv x y n m ha.1 hb.1
      have q2 := kfs_eqvs xs ys n m ha.2 hb.2
      show ((D.eqv x y && D.eqvs xs ys) = true) ↔ toNk x :: toNks xs = toNk y :: toNks ys
      rw [Bool.and_eq_true, q1, q2, List.cons.injEq]
end
section
variable {pd : Addr} {H Hf : Hp}
mutual
theorem Rep.nk (e : Same Hf H) : ∀ (d : D) (n : Nat) (v : V), d.kf n = true → Rep pd Hf v d → NkH H (toNk d) v ∧ (toNk d).depth ≤ n
  | .int i, n, _, _, h => by cases h; exact ⟨.int i, Nat.zero_le _⟩
  | .str l, n, _, _, h => by cases h; exact ⟨.str _, Nat.zero_le _⟩
  | .tup ds, n, _, f, h => by
    cases n with
    | zero => simp [D.kf] at f
    | succ n =>
      cases h with
      | tup a b c =>
        obtain ⟨q1, q2⟩ := Reps.nk e ds n _ (by simpa [D.kf] using f) b
        exact ⟨.tup (.inl (e _ _ a)) q1, Nat.succ_le_succ q2⟩
  | .non, n, _, f, _ => by cases n <;> simp [D.kf] at f
  | .bl _, n, _, f, _ => by cases n <;> simp [D.kf] at f
  | .lst _, n, _, f, _ => by cases n <;> simp [D.kf] at f
  | .dic _ _, n, _, f, _ => by cases n <;> simp [D.kf] at f
  | .dice, n, _, f, _ => by cases n <;> simp [D.kf] at f
  | .tpk _, n, _, f, _ => by cases n <;> simp [D.kf] at f
  | .dii _ _, n, _, f, _ => by cases n <;> simp [D.kf] at f
theorem Reps.nk (e : Same Hf H) : ∀ (ds : List D) (n : Nat) (vs : List V), D.kfs n ds = true → Reps pd Hf vs ds → NkHs H (toNks ds) vs ∧ NestedKey.depthAll (toNks ds) ≤ n
  | [], n, _, _, h => by cases h; exact ⟨.nil, Nat.zero_le _⟩
  | d :: ds, n, _, f, h => by
    cases h with
    | cons a b =>
      simp only [D.kfs, Bool.and_eq_true] at f
      obtain ⟨q1, q2⟩ := Rep.nk e d n _ f.1 a
      obtain ⟨q3, q4⟩ := Reps.nk e ds n _ f.2 b
      exact ⟨.cons q1 q3, Nat.max_le.mpr ⟨q2, q4⟩⟩
end
theorem skey_kf {d : D} (h : skey d = true) : d.kf 8 = true := by
  unfold skey at h
  split at h
  · exact h
  · cases h
/-- a key is a tuple that stands -/
theorem skey_ok (e : Same Hf H) {d : D} {v : V} (h : skey d = true) (r : Rep pd Hf v d) : ∃ b, v = .ref b ∧ NkH H (toNk d) (.ref b) ∧ (toNk d).depth ≤ 8 := by
  have q := Rep.nk e d 8 v (skey_kf h) r
  unfold skey at h
  split at h
  · cases r with
    | tup a b c => exact ⟨_, rfl, q⟩
  · cases h
theorem KsR.ksh {xs : Sxs} {kvs : List (D × D)} (e : Same Hf H) (k : KsR pd Hf xs kvs) : KsH H xs := by
  have key : ∀ (xs : Sxs) (kvs : List (D × D)), xs.map (·.1) = kvs.map (fun kv => toNk kv.1) → (∀ kv ∈ kvs, skey kv.1 = true) → Reps pd Hf (xs.map fun x => V.ref x.2.1) (kvs.map (·.1)) → KsH H xs := by
    intro xs
    induction xs with
    | nil => exact fun _ _ _ _ x hx => by cases hx
    | cons x xs ih =>
      intro kvs h1 h2 h3
      cases kvs with
      | nil => cases h1
      | cons kv kvs =>
        rw [List.map_cons, List.map_cons] at h1 h3
        injection h1 with h1 h1'
        cases h3 with
        | cons r1 r2 =>
          intro y hy
          rcases List.mem_cons.mp hy with z | z
          · subst z
            obtain ⟨b, eb, q1, q2⟩ := skey_ok e (h2 kv List.mem_cons_self) r1
            injection eb with eb
            rw [h1, eb]
            exact ⟨q1, q2⟩
          · exact ih kvs h1' (fun c hc => h2 c (List.mem_cons_of_mem _ hc)) r2 y z
  exact key xs kvs k.nk k.ok k.ks
theorem sfind_ok {k : D} (hk : skey k = true) : ∀ (xs : Sxs) (kvs : List (D × D)), KsR pd Hf xs kvs → match sfind kvs k with
    | some d => ∃ v, fdS xs (toNk k) = some v ∧ Rep pd Hf v d
    | none => fdS xs (toNk k) = none
  | [], [], _ => rfl
  | [], _ :: _, h => by cases h.nk
  | _ :: _, [], h => by cases h.nk
  | x :: xs, kv :: kvs, h => by
    obtain ⟨h1, h2, h3, h4⟩ := h
    rw [List.map_cons, List.map_cons] at h1 h3 h4
    injection h1 with h1 h1'
    cases h3 with
    | cons a1 a2 =>
      cases h4 with
      | cons b1 b2 =>
        have ih := sfind_ok hk xs kvs ⟨h1', fun c hc => h2 c (List.mem_cons_of_mem _ hc), a2, b2⟩
        have q := kf_eqv kv.1 k 8 8 (skey_kf (h2 kv List.mem_cons_self)) (skey_kf hk)
        by_cases e : D.eqv kv.1 k = true
        · have e1 : sfind (kv :: kvs) k = some kv.2 := by simp [sfind, List.find?_cons, e]
          have e2 : fdS (x :: xs) (toNk k) = some x.2.2 := by
            have : x.1 = toNk k := by rw [h1]; exact q.mp e
            simp [fdS, List.find?_cons, this]
          rw [e1]
          exact ⟨_, e2, b1⟩
        · have e1 : sfind (kv :: kvs) k = sfind kvs k := by simp [sfind, List.find?_cons, e]
          have e2 : fdS (x :: xs) (toNk k) = fdS xs (toNk k) := by
            have : ¬ x.1 = toNk k := by rw [h1]; exact fun z => e (q.mpr z)
            simp [fdS, List.find?_cons, this]
          rw [e1, e2]
          exact ih
theorem sfind_some {k : D} (hk : skey k = true) {xs : Sxs} {kvs : List (D × D)} (h : KsR pd Hf xs kvs) : (fdS xs (toNk k)).isSome = (sfind kvs k).isSome := by
  have q := sfind_ok hk xs kvs h
  cases e : sfind kvs k with
  | none => rw [e] at q; rw [q]; rfl
  | some d => rw [e] at q; obtain ⟨v, q1, _⟩ := q; rw [q1]; rfl
theorem KsR.len {xs : Sxs} {kvs : List (D × D)} (h : KsR pd Hf xs kvs) : xs.length = kvs.length := by
  have := congrArg List.length h.nk
  simpa using this
theorem sput_ok {k d : D} {b : Addr} {v : V} (hk : skey k = true) (rk : Rep pd Hf (.ref b) k) (rv : Rep pd Hf v d) {xs : Sxs} {kvs : List (D × D)} (h : KsR pd Hf xs kvs) : KsR pd Hf (stS xs (toNk k) b v) (sputL kvs k d) := by
  unfold stS sputL
  rw [sfind_some hk h]
  split
  · rename_i hh
    clear hh
    have key : ∀ (xs : Sxs) (kvs : List (D × D)), KsR pd Hf xs kvs → KsR pd Hf (xs.map fun x => if x.1 = toNk k then (x.1, x.2.1, v) else x) (kvs.map fun kv => if D.eqv kv.1 k = true then (kv.1, d) else kv) := by
      intro xs
      induction xs with
      | nil =>
        intro kvs h
        cases kvs with
        | nil => exact ⟨rfl, (fun _ z => by cases z), .nil, .nil⟩
        | cons => cases h.nk
      | cons x xs ih =>
        intro kvs h
        cases kvs with
        | nil => cases h.nk
        | cons kv kvs =>
          obtain ⟨h1, h2, h3, h4⟩ := h
          rw [List.map_cons, List.map_cons] at h1 h3 h4
          injection h1 with h1 h1'
          cases h3 with
          | cons a1 a2 =>
            cases h4 with
            | cons b1 b2 =>
              obtain ⟨i1, i2, i3, i4⟩ := ih kvs ⟨h1', fun c hc => h2 c (List.mem_cons_of_mem _ hc), a2, b2⟩
              have q := kf_eqv kv.1 k 8 8 (skey_kf (h2 kv List.mem_cons_self)) (skey_kf hk)
              have e1 : (if x.1 = toNk k then (x.1, x.2.1, v) else x).1 = x.1 := by split <;> rfl
              have e2 : (if x.1 = toNk k then (x.1, x.2.1, v) else x).2.1 = x.2.1 := by split <;> rfl
              have e3 : (if D.eqv kv.1 k = true then (kv.1, d) else kv).1 = kv.1 := by split <;> rfl
              refine ⟨?_, fun c hc => ?_, ?_, ?_⟩
              · rw [List.map_cons, List.map_cons, List.map_cons, List.map_cons, i1, e1, e3, h1]
              · rw [List.map_cons] at hc
                rcases List.mem_cons.mp hc with z | z
                · rw [z, e3]; exact h2 kv List.mem_cons_self
                · exact i2 c z
              · rw [List.map_cons, List.map_cons, List.map_cons, List.map_cons, e2, e3]
                exact .cons a1 i3
              · rw [List.map_cons, List.map_cons, List.map_cons, List.map_cons]
                refine .cons ?_ i4
                by_cases e : D.eqv kv.1 k = true
                · rw [if_pos e, if_pos (by rw [h1]; exact q.mp e)]
                  exact rv
                · rw [if_neg e, if_neg (by rw [h1]; exact fun z => e (q.mpr z))]
                  exact b1
    exact key xs kvs h
  · refine ⟨?_, fun c hc => ?_, ?_, ?_⟩
    · rw [List.map_append, List.map_append, h.nk]; rfl
    · rcases List.mem_append.mp hc with z | z
      · exact h.ok c z
      · rw [List.mem_singleton.mp z]; exact hk
    · rw [List.map_append, List.map_append]
      exact h.ks.append (.cons rk .nil)
    · rw [List.map_append, List.map_append]
      exact h.vs.append (.cons rv .nil)
theorem sputL_len (kvs : List (D × D)) (k d : D) : (sputL kvs k d).length ≤ kvs.length + 1 := by
  unfold sputL
  split
  · rw [List.length_map]; omega
  · rw [List.length_append, List.length_singleton]; exact Nat.le_refl _
end
/-! ### numbers as keys -/
section
variable {pd : Addr} {Hf : Hp}
theorem ifind_ok (k : Int) : ∀ (kvs' : List (L2.Key × V)) (kvs : List (Int × D)), kvs'.map (·.1) = kvs.map (fun kv => Sum.inl kv.1) → Reps pd Hf (kvs'.map (·.2)) (kvs.map (·.2)) →
    match ifind kvs k with
    | some d => ∃ v, valV kvs' (Sum.inl k : L2.Key) = some v ∧ Rep pd Hf v d
    | none => valV kvs' (Sum.inl k : L2.Key) = none
  | [], [], _, _ => rfl
  | [], _ :: _, h, _ => by cases h
  | _ :: _, [], h, _ => by cases h
  | a :: l, b :: m, h, r => by
    rw [List.map_cons, List.map_cons] at h r
    injection h with h1 h2
    cases r with
    | cons r1 r2 =>
      have ih := ifind_ok k l m h2 r2
      by_cases q : b.1 = k
      · have e : ifind (b :: m) k = some b.2 := by simp [ifind, List.find?_cons, q]
        rw [e]
        exact ⟨a.2, valV_pos (by rw [h1, q]), r1⟩
      · have e : ifind (b :: m) k = ifind m k := by simp [ifind, List.find?_cons, q]
        rw [e, valV_neg (fun z => q (by rw [h1] at z; injection z))]
        exact ih
theorem iput_ok (k : Int) {v : V} {d : D} (rv : Rep pd Hf v d) : ∀ (kvs' : List (L2.Key × V)) (kvs : List (Int × D)), kvs'.map (·.1) = kvs.map (fun kv => Sum.inl kv.1) → Reps pd Hf (kvs'.map (·.2)) (kvs.map (·.2)) →
    (putK kvs' (Sum.inl k : L2.Key) v).map (·.1) = (iputL kvs k d).map (fun kv => Sum.inl kv.1) ∧ Reps pd Hf ((putK kvs' (Sum.inl k : L2.Key) v).map (·.2)) ((iputL kvs k d).map (·.2)) ∧ (iputL kvs k d).length ≤ kvs.length + 1 := by
  intro kvs' kvs h r
  have any : ∀ (kvs' : List (L2.Key × V)) (kvs : List (Int × D)), kvs'.map (·.1) = kvs.map (fun kv => Sum.inl kv.1) → (kvs'.any fun kv => decide (kv.1 = (Sum.inl k : L2.Key))) = (kvs.any fun kv => decide (kv.1 = k)) := by
    intro kvs'
    induction kvs' with
    | nil =>
      intro kvs h
      cases kvs with
      | nil => rfl
      | cons => cases h
    | cons a l ih =>
      intro kvs h
      cases kvs with
      | nil => cases h
      | cons b m =>
        rw [List.map_cons, List.map_cons] at h
        injection h with h1 h2
        rw [List.any_cons, List.any_cons, ih m h2, h1]
        congr 1
        by_cases q : b.1 = k
        · rw [q]; simp
        · rw [decide_eq_false q, decide_eq_false (fun z => q (by injection z))]
  unfold putK iputL
  rw [any kvs' kvs h]
  split
  · rename_i hh
    clear hh
    have key : ∀ (kvs' : List (L2.Key × V)) (kvs : List (Int × D)), kvs'.map (·.1) = kvs.map (fun kv => Sum.inl kv.1) → Reps pd Hf (kvs'.map (·.2)) (kvs.map (·.2)) →
        (kvs'.map fun kv => if kv.1 = (Sum.inl k : L2.Key) then (kv.1, v) else kv).map (·.1) = (kvs.map fun kv => if kv.1 = k then (kv.1, d) else kv).map (fun kv => Sum.inl kv.1) ∧ Reps pd Hf ((kvs'.map fun kv => if kv.1 = (Sum.inl k : L2.Key) then (kv.1, v) else kv).map (·.2)) ((kvs.map fun kv => if kv.1 = k then (kv.1, d) else kv).map (·.2)) := by
      intro kvs'
      induction kvs' with
      | nil =>
        intro kvs h r
        cases kvs with
        | nil => exact ⟨rfl, .nil⟩
        | cons => cases h
      | cons a l ih =>
        intro kvs h r
        cases kvs with
        | nil => cases h
        | cons b m =>
          rw [List.map_cons, List.map_cons] at h r
          injection h with h1 h2
          cases r with
          | cons r1 r2 =>
            obtain ⟨i1, i2⟩ := ih m h2 r2
            by_cases q : b.1 = k
            · have q' : a.1 = (Sum.inl k : L2.Key) := by rw [h1, q]
              rw [List.map_cons, List.map_cons, List.map_cons, List.map_cons, List.map_cons, List.map_cons, if_pos q, if_pos q', i1]
              exact ⟨by rw [h1], .cons rv i2⟩
            · have q' : ¬ a.1 = (Sum.inl k : L2.Key) := fun z => q (by rw [h1] at z; injection z)
              rw [List.map_cons, List.map_cons, List.map_cons, List.map_cons, List.map_cons, List.map_cons, if_neg q, if_neg q', i1]
              exact ⟨by rw [h1], .cons r1 i2⟩
    obtain ⟨k1, k2⟩ := key kvs' kvs h r
    exact ⟨k1, k2, by rw [List.length_map]; omega⟩
  · refine ⟨?_, ?_, ?_⟩
    · rw [List.map_append, List.map_append, h]; rfl
    · rw [List.map_append, List.map_append]
      exact r.append (.cons rv .nil)
    · rw [List.length_append, List.length_singleton]
      exact Nat.le_refl _
end
end Fw

set_option Elab.async false
set_option linter.all false
set_option autoImplicit false
set_option maxRecDepth 100000
set_option maxHeartbeats 4000000
/-! FwMain: the main theorem of the readings. -/
namespace Fw
open PySem L2

/-! ### what a body must bring -/
def TabOk (g : Gm) (x : Nat) (tab : List (Tx × D)) : Prop := ∀ k d, tabGet tab k = some d → ∃ u0 v0, PySem.W.nsIn g.K (g.gd x) (SX.S k) = some (some u0) ∧ RelV v0 u0 ∧ ∀ (pd : Addr) (Hf : Hp), Rep pd Hf v0 d
def TtOk (g : Gm) : Prop := ∀ (tl : XK → Hp → VK → Prop) (H : Hp) (Q : VK),
  (∀ E : XK, (∀ (c : Nat) (H' : Hp), (∀ (H'' : Hp) (p : Addr), Same H' H'' → H' p = none → H'' p = some (.tup [.str (SX.S [101, 114, 114, 111, 114]), .str (SX.S (excName c))]) → Q (.ref p) H'') → E (.ref (g.cl c)) none H') → tl E H Q) → g.tt tl H Q
structure LawM (g : Gm) (P : Par) : Prop where
  t : P.T = g.T
  h0 : ∀ a, P.H0 a = none
  tt : TtOk g

/-- what a body's frame brings -/
structure Lk (g : Gm) (P : Par) (t : Bool) : Prop where
  w : P.w = g.w
  law : t = true → LawM g P
theorem Lk.no {g : Gm} {P : Par} {t : Bool} (h : Lk g P t) : Lk g P false := ⟨h.w, fun z => by cases z⟩
theorem Lk.lock {g : Gm} {P : Par} {t : Bool} (h : Lk g P t) (H Hf : Hp) : Lk g (P.lock H Hf) false := ⟨h.w, fun z => by cases z⟩
mutual
/-- a test's form -/
def okT : E → Bool
  | .cmp _ _ _ => true
  | .chain _ _ _ _ _ => true
  | .not a => okT a
  | .and es => okTs es
  | .or es => okTs es
  | .var _ => true
  | .bl _ => true
  | .isi _ _ => true
  | .call _ _ _ => true
  | .b1 _ _ => true
  | .din _ _ => true
  | .dnin _ _ => true
  | .dget _ _ _ => true
  | .snin _ _ => true
  | _ => false
def okTs : Es → Bool
  | .nil => true
  | .cons e r => okT e && okTs r
end
mutual
def nd (g : Gm) : Bool → E → Prop
  | _, .var _ => True
  | _, .int _ => True
  | _, .bl _ => True
  | _, .non => True
  | _, .str l => (∀ c ∈ l, c < 128) ∧ l.length ≤ SL
  | _, .gstr _ l => (∀ c ∈ l, c < 128) ∧ l.length ≤ SL
  | t, .isi a _ => nd g t a
  | t, .bin _ a b => nd g t a ∧ nd g t b
  | t, .neg a => nd g t a
  | t, .not a => nd g t a
  | t, .cmp _ a b => nd g t a ∧ nd g t b
  | t, .chain _ _ a b c => nd g t a ∧ nd g t b ∧ nd g t c
  | t, .and es => nds g t es
  | t, .or es => nds g t es
  | t, .ife c a b => okT c = true ∧ nd g t c ∧ nd g t a ∧ nd g t b
  | t, .tup es => nds g t es
  | t, .lst es => nds g t es
  | t, .ix a b => nd g t a ∧ nd g t b
  | t, .ixo _ b => nd g t b
  | t, .ixg x tab b => TabOk g x tab ∧ nd g t b
  | t, .sl a lo hi => nd g t a ∧ ndo g t lo ∧ ndo g t hi
  | t, .rev a => nd g t a
  | t, .call _ _ es => nds g t es
  | _, .leno _ => True
  | t, .b1 _ a => nd g t a
  | t, .b2 _ a b => nd g t a ∧ nd g t b
  | t, .m1 _ o a => nd g t o ∧ nd g t a
  | t, .lc _ it elt => ndi g t it ∧ nd g false elt
  | t, .lcf _ it c elt => ndi g t it ∧ okT c = true ∧ nd g false c ∧ nd g false elt
  | t, .told e => t = true ∧ nd g false e
  | t, .callS _ es => nds g t es
  | t, .dget _ k d => nd g t k ∧ nd g t d
  | t, .din _ k => nd g t k
  | t, .dnin _ k => nd g t k
  | t, .dix _ k => nd g t k
  | t, .slk a lo hi => nd g t a ∧ ndo g t lo ∧ ndo g t hi
  | t, .cntk o a => nd g t o ∧ nd g t a
  | t, .iget _ k d => nd g t k ∧ nd g t d
  | t, .iix _ k => nd g t k
  | t, .snin _ k => nd g t k
  | t, .six _ k => nd g t k
  | _, .slen _ => True
  | _, .slist _ => True
  | _, .ilist _ => True
def nds (g : Gm) : Bool → Es → Prop
  | _, .nil => True
  | t, .cons e r => nd g t e ∧ nds g t r
def ndo (g : Gm) : Bool → Oe → Prop
  | _, .none => True
  | t, .some e => nd g t e
def ndi (g : Gm) : Bool → It → Prop
  | t, .seq e => nd g t e
  | t, .rng e => nd g t e
  | t, .rng2 a b => nd g t a ∧ nd g t b
  | t, .enum e => nd g t e
  | _, .ikeys _ => True
end

def TrOk (g : Gm) (e : E) : Prop := ∀ (t : Bool) (W : XK) (P : Par) (σ : St) (H Hf : Hp) (s : S) (Q : VK), Lk g P t → nd g t e → StOk P σ H Hf s → Pst g.cl W P σ Hf (CE P σ Q) (ev e s) → tr g e W σ H Q
def TrTOk (g : Gm) (e : E) : Prop := ∀ (t : Bool) (W : XK) (P : Par) (σ : St) (H Hf : Hp) (s : S) (Q : Bool → Hp → Prop), okT e = true → Lk g P t → nd g t e → StOk P σ H Hf s → Pst g.cl W P σ Hf (CT P σ Q) (ev e s) → trT g e W σ H Q
def TrsOk (g : Gm) (es : Es) : Prop := ∀ (t : Bool) (W : XK) (P : Par) (σ : St) (H Hf : Hp) (s : S) (Q : List V → Hp → Prop), Lk g P t → nds g t es → StOk P σ H Hf s → Pst g.cl W P σ Hf (CA P σ Q) (evs es s) → trs g es W σ H Q
def AndOk (g : Gm) (es : Es) : Prop := ∀ (t : Bool) (W : XK) (P : Par) (σ : St) (H Hf : Hp) (s : S) (Q : VK), Lk g P t → nds g t es → StOk P σ H Hf s → Pst g.cl W P σ Hf (CE P σ Q) (evAnd es s) → trAnd g es W σ H Q
def OrOk (g : Gm) (es : Es) : Prop := ∀ (t : Bool) (W : XK) (P : Par) (σ : St) (H Hf : Hp) (s : S) (Q : VK), Lk g P t → nds g t es → StOk P σ H Hf s → Pst g.cl W P σ Hf (CE P σ Q) (evOr es s) → trOr g es W σ H Q
def AndTOk (g : Gm) (es : Es) : Prop := ∀ (t : Bool) (W : XK) (P : Par) (σ : St) (H Hf : Hp) (s : S) (Q : Bool → Hp → Prop), okTs es = true → Lk g P t → nds g t es → StOk P σ H Hf s → Pst g.cl W P σ Hf (CT P σ Q) (evAnd es s) → trAndT g es W σ H Q
def OrTOk (g : Gm) (es : Es) : Prop := ∀ (t : Bool) (W : XK) (P : Par) (σ : St) (H Hf : Hp) (s : S) (Q : Bool → Hp → Prop), okTs es = true → Lk g P t → nds g t es → StOk P σ H Hf s → Pst g.cl W P σ Hf (CT P σ Q) (evOr es s) → trOrT g es W σ H Q
def TroOk (g : Gm) (o : Oe) : Prop := ∀ (t : Bool) (W : XK) (P : Par) (σ : St) (H Hf : Hp) (s : S) (Q : Option Int → Hp → Prop), Lk g P t → ndo g t o → StOk P σ H Hf s → Pst g.cl W P σ Hf (CO P σ Q) (evo o s) → tro g o W σ H Q
def TriOk (g : Gm) (it : It) : Prop := ∀ (t : Bool) (W : XK) (P : Par) (σ : St) (H Hf : Hp) (s : S) (R : L2.It → Hp → Prop), Lk g P t → ndi g t it → StOk P σ H Hf s → Pst g.cl W P σ Hf (CI P σ R) (evi it s) → tri g it W σ H R

section
variable {g : Gm} {W : XK} {P : Par} {σ : St} {H Hf : Hp} {s : S}
theorem ct_ce {Q : Bool → Hp → Prop} {r : Res (D × S)} (h : Pst g.cl W P σ Hf (CT P σ Q) r) : Pst g.cl W P σ Hf (CE P σ fun x H1 => ∃ c, x = .bl c ∧ Q c H1) r := by
  cases r with
  | ok a =>
    obtain ⟨d, s'⟩ := a
    intro H' Hf' e st v rv
    have q := h H' Hf' e
    cases rv with
    | bl b => exact ⟨b, rfl, q st⟩
    | _ => exact q.elim
  | exc c n k => exact h
  | stuck => exact h
theorem var_ok (i : Nat) {Q : VK} (st : StOk P σ H Hf s) (h : Pst g.cl W P σ Hf (CE P σ Q) (evVar i s)) : tVar i σ H Q := by
  have q := st.slot i
  unfold evVar at h
  cases e : s.get i with
  | un => rw [e] at h; exact h.elim
  | val d =>
    rw [e] at h q
    obtain ⟨v, e1, r⟩ := q
    exact ⟨v, σ_get e1, h H Hf (Same.refl _) st v r⟩
  | ol ds =>
    rw [e] at h q
    obtain ⟨p, vs, e1, a, b, c, d, r, z⟩ := q
    refine ⟨_, σ_get e1, ?_⟩
    cases hl : s.lk with
    | true => rw [hl] at h; exact h.elim
    | false =>
      rw [hl] at h
      have h0 : P.H0 p = none := b (st.lk.symm.trans hl)
      obtain ⟨st', rp⟩ := st.freeze e e1 a h0 c d r z
      exact h H _ (same_upd a) st' _ rp
  | od ds =>
    rw [e] at h q
    obtain ⟨p, vs, e1, a, b, c, d, r, z⟩ := q
    refine ⟨_, σ_get e1, ?_⟩
    cases hl : s.lk with
    | true => rw [hl] at h; exact h.elim
    | false =>
      rw [hl] at h
      have h0 : P.H0 p = none := b (st.lk.symm.trans hl)
      obtain ⟨st', rp⟩ := st.freezeD e e1 a h0 c d r.1 r.2 z
      exact h H _ (same_upd a) st' _ rp
  | oi ds => rw [e] at h; exact h.elim
  | os ds => rw [e] at h; exact h.elim
/-! dicts -/
theorem kL_inj {a b : Int × Int} (h : kL a = kL b) : a = b := by
  obtain ⟨a1, a2⟩ := a
  obtain ⟨b1, b2⟩ := b
  unfold kL at h
  injection h with h1 h2
  injection h2 with h2 _
  injection h1 with h1
  injection h2 with h2
  exact Prod.ext h1 h2
/-- what stands at a slot of a dict -/
theorem dcur_ok {i : Nat} {kvs : List ((Int × Int) × D)} (st : StOk P σ H Hf s) (h : dcur s i = some kvs) : ∃ p kvs', σ.getD i none = some (.ref p) ∧ H p = some (.dT kvs') ∧ kvs'.map (·.1) = kvs.map (fun kv => kL kv.1) ∧ Reps P.pd Hf (kvs'.map (·.2)) (kvs.map (·.2)) := by
  have q := st.slot i
  unfold dcur at h
  cases e : s.get i with
  | un => rw [e] at h; cases h
  | ol _ => rw [e] at h; cases h
  | oi _ => rw [e] at h; cases h
  | os _ => rw [e] at h; cases h
  | od ds =>
    rw [e] at h q
    cases h
    obtain ⟨p, vs, e1, _, _, _, d, r, _⟩ := q
    exact ⟨p, vs, e1, d, r.1, r.2⟩
  | val d =>
    rw [e] at h q
    obtain ⟨v, e1, rv⟩ := q
    cases d with
    | dic ks ds =>
      cases h
      cases rv with
      | dic a1 a2 a3 a4 =>
        rename_i a kvs'
        have l1 : kvs'.length = ks.length := by
          have := congrArg List.length a2
          simpa using this
        have l2 : kvs'.length = ds.length := by
          have := a3.length
          simpa using this
        refine ⟨_, kvs', e1, st.sub _ _ a1, ?_, ?_⟩
        · have e2 : (ks.zip ds).map (fun kv => kL kv.1) = ((ks.zip ds).map (·.1)).map kL := by rw [List.map_map]; rfl
          rw [a2, e2]
          congr 1
          exact (List.map_fst_zip (by omega)).symm
        · rw [List.map_snd_zip (by omega)]
          exact a3
    | _ => cases h
theorem icur_ok {i : Nat} {kvs : List (Int × D)} (st : StOk P σ H Hf s) (h : icur s i = some kvs) : ∃ p kvs', σ.getD i none = some (.ref p) ∧ Rd H p (.dK kvs') ∧ kvs'.map (·.1) = kvs.map (fun kv => Sum.inl kv.1) ∧ Reps P.pd Hf (kvs'.map (·.2)) (kvs.map (·.2)) := by
  have q := st.slot i
  unfold icur at h
  cases e : s.get i with
  | un => rw [e] at h; cases h
  | ol _ => rw [e] at h; cases h
  | od _ => rw [e] at h; cases h
  | os _ => rw [e] at h; cases h
  | oi ds =>
    rw [e] at h q
    cases h
    obtain ⟨p, vs, e1, _, _, _, d, r, _⟩ := q
    exact ⟨p, vs, e1, .inl d, r.1, r.2⟩
  | val d =>
    rw [e] at h q
    obtain ⟨v, e1, rv⟩ := q
    cases d with
    | dii ks ds =>
      cases h
      cases rv with
      | dii a1 a2 a3 a4 =>
        rename_i a o kvs'
        have l1 : kvs'.length = ks.length := by
          have := congrArg List.length a2
          simpa using this
        have l2 : kvs'.length = ds.length := by
          have := a3.length
          simpa using this
        refine ⟨_, kvs', e1, .inr ⟨o, st.sub _ _ a1⟩, ?_, ?_⟩
        · have e2 : (ks.zip ds).map (fun kv => (Sum.inl kv.1 : L2.Key)) = ((ks.zip ds).map (·.1)).map Sum.inl := by rw [List.map_map]; rfl
          rw [a2, e2]
          congr 1
          exact (List.map_fst_zip (by omega)).symm
        · rw [List.map_snd_zip (by omega)]
          exact a3
    | _ => cases h
theorem dfind_ok {pd : Addr} {Hf : Hp} (k : Int × Int) : ∀ (kvs' : List (List L2.Key × V)) (kvs : List ((Int × Int) × D)), kvs'.map (·.1) = kvs.map (fun kv => kL kv.1) → Reps pd Hf (kvs'.map (·.2)) (kvs.map (·.2)) →
    match dfind kvs k with
    | some d => ∃ v, valV kvs' (kL k) = some v ∧ Rep pd Hf v d
    | none => valV kvs' (kL k) = none
  | [], [], _, _ => rfl
  | [], _ :: _, h, _ => by cases h
  | _ :: _, [], h, _ => by cases h
  | a :: l, b :: m, h, r => by
    rw [List.map_cons, List.map_cons] at h r
    injection h with h1 h2
    cases r with
    | cons r1 r2 =>
      have ih := dfind_ok k l m h2 r2
      by_cases q : b.1 = k
      · have e : dfind (b :: m) k = some b.2 := by simp [dfind, List.find?_cons, q]
        rw [e]
        exact ⟨a.2, valV_pos (by rw [h1, q]), r1⟩
      · have e : dfind (b :: m) k = dfind m k := by simp [dfind, List.find?_cons, q]
        rw [e, valV_neg (fun z => q (kL_inj (by rw [← h1, z])))]
        exact ih
theorem key_ok {pd : Addr} {Hf : Hp} {v : V} {y : D} {k : Int × Int} (r : Rep pd Hf v y) (h : keyD y = some k) : ∃ b, v = .ref b ∧ Hf b = some (.tup ((kL k).map kV)) := by
  unfold keyD at h
  split at h
  · cases h
    cases r with
    | tup a b c =>
      cases b with
      | cons b1 b2 =>
        cases b2 with
        | cons b2 b3 =>
          cases b3
          cases b1
          cases b2
          exact ⟨_, rfl, a⟩
  · cases h
theorem evs_len : ∀ (es : Es) (s s' : S) (xs : List D), evs es s = .ok (xs, s') → xs.length = es.len
  | .nil, s, s', xs, h => by
    cases h
    rfl
  | .cons e r, s, s', xs, h => by
    have h : (ev e s).bind (fun (x, s) => (evs r s).bind fun (xs, s) => .ok (x :: xs, s)) = .ok (xs, s') := h
    cases q : ev e s with
    | ok a =>
      obtain ⟨x, s1⟩ := a
      rw [q] at h
      have h : (evs r s1).bind (fun (xs, s) => .ok (x :: xs, s)) = .ok (xs, s') := h
      cases q2 : evs r s1 with
      | ok b =>
        obtain ⟨ys, s2⟩ := b
        rw [q2] at h
        have h : Res.ok (x :: ys, s2) = .ok (xs, s') := h
        cases h
        show ys.length + 1 = r.len + 1
        rw [evs_len r s1 _ ys q2]
      | exc c n k => rw [q2] at h; cases h
      | stuck => rw [q2] at h; cases h
    | exc c n k => rw [q] at h; cases h
    | stuck => rw [q] at h; cases h

/-- a comprehension -/
theorem lc_ok {tg : Tg} {tt : TT} {te : TE} {c f : S → Res (D × S)} {ds : List D} {J : L2.It} {Q : VK}
    (hw : P.w = g.w)
    (hc : ∀ (P : Par) (σ : St) (H Hf : Hp) (s : S) (Q : Bool → Hp → Prop), P.w = g.w → StOk P σ H Hf s → Pst g.cl wF P σ Hf (CT P σ Q) (c s) → tt σ H Q)
    (hf : ∀ (P : Par) (σ : St) (H Hf : Hp) (s : S) (Q : VK), P.w = g.w → StOk P σ H Hf s → Pst g.cl wF P σ Hf (CE P σ Q) (f s) → te σ H Q)
    (st : StOk P σ H Hf s) (hJ : ItOk P.pd J ds Hf)
    (h : Pst g.cl W P σ Hf (CE P σ Q) ((lcL tg c f s ds s.dn s.dk []).bind fun (l, n, k) => .ok (.lst l, { s with dn := n, dk := k }))) :
    ∀ Dl, H Dl = none → ∃ Wv : Nat → Nat → Hp → Prop, (∃ m, Wv 0 m (upd H Dl (.lst []))) ∧ ∀ i m H, Wv i m H →
      (J.stop i H ∧ Q (.ref Dl) H) ∨ (J.go i H ∧ ∃ Nx : Hp → Prop, (∀ H', Nx H' → ∃ m', m' < m ∧ Wv (i + 1) m' H') ∧ ∀ x H', J.yld i H x H' → trg g.K tg x (wipe σ tg.slots) H' fun σ2 H2 => wipe σ2 tg.slots = wipe σ tg.slots ∧ tt σ2 H2 fun b H3 =>
        if b = true then te σ2 H3 fun y H4 => ∃ acc, H4 Dl = some (.lst acc) ∧ acc.length < sizeLine ∧ Nx (upd H4 Dl (.lst (acc ++ [y]))) else Nx H3) := by
  intro Dl hD
  have hpd : Dl ≠ P.pd := fun z => by rw [z, st.dice] at hD; cases hD
  have h0 : P.H0 Dl = none := by
    cases q : P.H0 Dl with
    | none => rfl
    | some o => rw [st.keep Dl o q hpd] at hD; cases hD
  have hfD : Hf Dl = none := st.sub.free hD
  have hno := st.noOwn hD
  refine ⟨fun i m H' => m + i = ds.length ∧ ∃ (Hf' : Hp) (n k : Int) (acc : List D) (vs : List V), StOk P σ H' Hf' { s with dn := n, dk := k } ∧ Same Hf Hf' ∧ H' Dl = some (.lst vs) ∧ Hf' Dl = none ∧ Reps P.pd Hf' vs acc ∧ acc.length ≤ i ∧
    Pst g.cl W P σ Hf' (CE P σ Q) ((lcL tg c f s (ds.drop i) n k acc).bind fun (l, n, k) => .ok (.lst l, { s with dn := n, dk := k })), ⟨ds.length, rfl, Hf, s.dn, s.dk, [], [], ?_, Same.refl _, upd_same, hfD, .nil, Nat.le_refl _, h⟩, ?_⟩
  · exact st.alloc hD
  · rintro i m H1 ⟨hm, Hf1, n, k, acc, vs, st1, e1, hD1, hfD1, ra, hl, h1⟩
    by_cases hi : i < ds.length
    · right
      refine ⟨hJ.go i H1 Hf1 hi e1 st1.sub, fun H' => (m - 1) + (i + 1) = ds.length ∧ ∃ (Hf' : Hp) (n k : Int) (acc : List D) (vs : List V), StOk P σ H' Hf' { s with dn := n, dk := k } ∧ Same Hf Hf' ∧ H' Dl = some (.lst vs) ∧ Hf' Dl = none ∧ Reps P.pd Hf' vs acc ∧ acc.length ≤ i + 1 ∧
        Pst g.cl W P σ Hf' (CE P σ Q) ((lcL tg c f s (ds.drop (i + 1)) n k acc).bind fun (l, n, k) => .ok (.lst l, { s with dn := n, dk := k })), fun H' q => ⟨m - 1, by omega, q⟩, ?_⟩
      intro x H2 y
      have hd : ds[i]? = some ds[i] := by simp [hi]
      -- the state behind the yield
      have key : ∃ Hf2, StOk P σ H2 Hf2 { s with dn := n, dk := k } ∧ Same Hf1 Hf2 ∧ H2 Dl = some (.lst vs) ∧ Hf2 Dl = none ∧ Rep P.pd Hf2 x ds[i] := by
        rcases hJ.yld i H1 Hf1 x H2 e1 st1.sub y _ hd with ⟨e2, rx⟩ | ⟨T, xs, e2, e3, rx⟩
        · subst e2
          exact ⟨Hf1, st1, Same.refl _, hD1, hfD1, rx⟩
        · subst e3
          have hT : Dl ≠ T := ne_of_none hD1 e2
          exact ⟨_, st1.allocF e2 (fun _ z => by cases z), same_upd (st1.sub.free e2), by rw [upd_ne hT]; exact hD1, by rw [upd_ne hT]; exact hfD1, rx⟩
      obtain ⟨Hf2, st2, e2, hD2, hfD2, rx⟩ := key
      have ed : ds.drop i = ds[i] :: ds.drop (i + 1) := List.drop_eq_getElem_cons hi
      rw [ed] at h1
      have h2 := h1.weak e2
      unfold lcL at h2
      have stw := (st2.lock).wipe tg.slots
      cases hb : bindT tg ds[i] ⟨wipeL s.env tg.slots, n, k, true⟩ with
      | none =>
        rw [hb] at h2
        exact h2.elim
      | some s1 =>
        rw [hb] at h2
        refine bind_ok' g.K tg ds[i] _ s1 _ x _ stw rx hb fun σ2 st3 w3 => ⟨?_, ?_⟩
        · rw [w3 tg.slots (fun _ h => h), wipe_wipe]
        have h3 : Pst g.cl W P σ Hf2 (CE P σ Q) (((c s1).nox.bind fun (t, s2) => match t with
          | .bl true => (f s2).nox.bind fun (y, s3) => lcL tg c f s (ds.drop (i + 1)) s3.dn s3.dk (acc ++ [y])
          | .bl false => lcL tg c f s (ds.drop (i + 1)) s2.dn s2.dk acc
          | _ => .stuck).bind fun (l, n, k) => .ok (.lst l, { s with dn := n, dk := k })) := h2
        cases hcs : c s1 with
        | exc c n k =>
          rw [hcs] at h3
          exact h3.elim
        | stuck =>
          rw [hcs] at h3
          exact h3.elim
        | ok a =>
          obtain ⟨tb, s2⟩ := a
          rw [hcs] at h3
          refine hc (P.lock H2 Hf2) σ2 H2 Hf2 s1 _ hw st3 ?_
          rw [hcs]
          intro H3 Hf3 e3
          cases tb with
          | bl b =>
            intro st4
            have gr := st4.grown
            cases b with
            | false =>
              rw [if_neg (by decide)]
              refine ⟨by omega, Hf3, s2.dn, s2.dk, acc, vs, st2.call gr, (e1.trans e2).trans gr.sub0, gr.keep _ _ hD2 hpd, by rw [gr.fix _ _ hD2]; exact hfD2, Reps.mono (e2.trans gr.sub0) _ _ ra, by omega, ?_⟩
              exact Pst.weak h3 gr.sub0
            | true =>
              rw [if_pos rfl]
              have h4 : Pst g.cl W P σ Hf2 (CE P σ Q) (((f s2).nox.bind fun (y, s3) => lcL tg c f s (ds.drop (i + 1)) s3.dn s3.dk (acc ++ [y])).bind fun (l, n, k) => .ok (.lst l, { s with dn := n, dk := k })) := h3
              cases hfs : f s2 with
              | exc c n k =>
                rw [hfs] at h4
                exact h4.elim
              | stuck =>
                rw [hfs] at h4
                exact h4.elim
              | ok a =>
                obtain ⟨yd, s3⟩ := a
                rw [hfs] at h4
                refine hf (P.lock H2 Hf2) σ2 H3 Hf3 s2 _ hw st4 ?_
                rw [hfs]
                intro H4 Hf4 e4 st5 y ry
                have gr := st5.grown
                have st6 := st2.call gr
                have hD4 := gr.keep _ _ hD2 hpd
                have hfD4 : Hf4 Dl = none := by rw [gr.fix _ _ hD2]; exact hfD2
                refine ⟨vs, hD4, ?_, by omega, Hf4, s3.dn, s3.dk, acc ++ [yd], vs ++ [y], ?_, (e1.trans e2).trans gr.sub0, upd_same, hfD4, (Reps.mono (e2.trans gr.sub0) _ _ ra).snoc ry, ?_, ?_⟩
                · rw [ra.length, SL_eq]
                  have := hJ.len
                  omega
                · exact st6.cell hD4 hfD4 h0 hpd hno
                · rw [List.length_append, List.length_singleton]
                  omega
                · exact Pst.weak h4 gr.sub0
          | _ => exact h3.elim
    · left
      have ei : i = ds.length := by omega
      subst ei
      refine ⟨hJ.stop H1 Hf1 e1 st1.sub, ?_⟩
      rw [List.drop_length] at h1
      have h2 : Pst g.cl W P σ Hf1 (CE P σ Q) (.ok (.lst acc, { s with dn := n, dk := k })) := h1
      refine h2 H1 (upd Hf1 Dl (.lst vs)) (same_upd hfD1) (st1.frz hD1 hfD1 h0 hpd hno (fun _ z => by cases z)) _ (.lst upd_same (Reps.mono (same_upd hfD1) _ _ ra) ?_)
      have := hJ.len
      omega

theorem SlOk.ntbl {x : Sl} {o : Option V} {p : Addr} {ho : HO} (h : SlOk P H Hf x o) (ow : OwnAt x o p) (hp : H p = some ho) : ∀ ps, ho ≠ .tbl ps := fun ps z => by
  cases x with
  | un => exact ow
  | val d => exact ow
  | ol ds =>
    obtain ⟨q, vs, e1, _, _, _, d, _⟩ := h
    have z2 : (some (V.ref q) : Option V) = some (.ref p) := e1.symm.trans ow
    injection z2 with z2
    injection z2 with z2
    subst z2
    rw [hp, z] at d
    cases d
  | od ds =>
    obtain ⟨q, vs, e1, _, _, _, d, _⟩ := h
    have z2 : (some (V.ref q) : Option V) = some (.ref p) := e1.symm.trans ow
    injection z2 with z2
    injection z2 with z2
    subst z2
    rw [hp, z] at d
    cases d
  | oi ds =>
    obtain ⟨q, vs, e1, _, _, _, d, _⟩ := h
    have z2 : (some (V.ref q) : Option V) = some (.ref p) := e1.symm.trans ow
    injection z2 with z2
    injection z2 with z2
    subst z2
    rw [hp, z] at d
    cases d
  | os ds =>
    obtain ⟨q, vs, e1, _, _, _, d, _⟩ := h
    have z2 : (some (V.ref q) : Option V) = some (.ref p) := e1.symm.trans ow
    injection z2 with z2
    injection z2 with z2
    subst z2
    rw [hp, z] at d
    cases d
theorem StOk.extN {H1 : Hp} (st : StOk P σ H Hf s) (h0 : ∀ a, P.H0 a = none) (e : LamX.ExtN H H1) (hT : LamX.Tabs P.T H1) : StOk P σ H1 Hf s :=
  ⟨fun a o q n => (by rw [h0 a] at q; cases q), fun a o q => e _ _ (st.sub a o q) (fun ps z => st.nt a ps (by rw [q, z])), st.fix, st.sub0, e _ _ st.dice (fun ps z => by cases z), st.dicef, hT, fun i => (st.slot i).mono (fun p vs a _ _ d ow => ⟨e _ _ d ((st.slot i).ntbl ow d), a⟩) (Same.refl _), st.dist, st.len, st.lk, st.nt⟩

theorem told_ok {e : E} {Q : VK} (ih : TrOk g e) (hw : P.w = g.w) (hP : LawM g P) (hn : nd g false e) (st : StOk P σ H Hf s) (h : Pst g.cl W P σ Hf (CE P σ Q) (ev (.told e) s)) : tr g (.told e) W σ H Q := by
  unfold tr
  refine ⟨by rw [← hP.t]; exact st.tabs, fun H1 eN hT => ?_⟩
  have st1 := st.extN hP.h0 eN (by rw [hP.t]; exact hT)
  refine hP.tt _ H1 Q fun E hE => ?_
  refine ih false E (P.lock H1 Hf) σ H1 Hf _ Q ⟨hw, fun z => by cases z⟩ hn st1.lock ?_
  unfold ev at h
  cases q : ev e { s with lk := true } with
  | ok a =>
    obtain ⟨d, t⟩ := a
    rw [q] at h
    intro H' Hf' e' st' v rv
    exact h H' Hf' e' (st1.call st'.grown) v rv
  | exc c n k =>
    rw [q] at h
    intro H' Hf' s' st' e1 e2
    have gr := st'.grown
    rw [e1, e2] at gr
    refine hE c H' fun H'' p eS hp hq => ?_
    have st2 := (st1.call gr).ext eS
    have hfp : Hf' p = none := gr.sub.free hp
    have hpd : p ≠ P.pd := fun z => by rw [z, gr.dice] at hp; cases hp
    have st3 := st2.frz hq hfp (hP.h0 p) hpd ((st1.call gr).noOwn hp) (fun _ z => by cases z)
    refine h H'' _ (gr.sub0.trans (same_upd hfp)) st3 _ (.tup upd_same (.cons (.str (fun c hc => ?_) (by decide)) (.cons (.str (fun x hx => ?_) ?_) .nil)) (by show 2 ≤ SL; decide))
    · simp only [List.mem_cons, List.not_mem_nil, or_false] at hc
      omega
    · unfold excName at hx
      split at hx <;> (simp only [List.mem_cons, List.not_mem_nil, or_false] at hx; omega)
    · unfold excName
      split <;> decide
  | stuck =>
    rw [q] at h
    exact h.elim
end

/-! ### the main theorem -/
mutual
theorem E_ok (g : Gm) : ∀ e : E, TrOk g e ∧ TrTOk g e
  | .var i => by
    have A : TrOk g (.var i) := fun t W P σ H Hf s Q hl hn st h => var_ok i st h
    exact ⟨A, fun t W P σ H Hf s Q ho hl hn st h => A t W P σ H Hf s _ hl hn st (ct_ce h)⟩
  | .int n => by
    have A : TrOk g (.int n) := fun t W P σ H Hf s Q hl hn st h => h H Hf (Same.refl _) st _ (.int n)
    exact ⟨A, fun t W P σ H Hf s Q ho hl hn st h => by cases ho⟩
  | .bl b => by
    have A : TrOk g (.bl b) := fun t W P σ H Hf s Q hl hn st h => h H Hf (Same.refl _) st _ (.bl b)
    exact ⟨A, fun t W P σ H Hf s Q ho hl hn st h => A t W P σ H Hf s _ hl hn st (ct_ce h)⟩
  | .non => by
    have A : TrOk g .non := fun t W P σ H Hf s Q hl hn st h => h H Hf (Same.refl _) st _ .non
    exact ⟨A, fun t W P σ H Hf s Q ho hl hn st h => by cases ho⟩
  | .str l => by
    have A : TrOk g (.str l) := fun t W P σ H Hf s Q hl hn st h => h H Hf (Same.refl _) st _ (.str hn.1 hn.2)
    exact ⟨A, fun t W P σ H Hf s Q ho hl hn st h => by cases ho⟩
  | .gstr x l => by
    have A : TrOk g (.gstr x l) := fun t W P σ H Hf s Q hl hn st h => h H Hf (Same.refl _) st _ (.str hn.1 hn.2)
    exact ⟨A, fun t W P σ H Hf s Q ho hl hn st h => by cases ho⟩
  | .isi a ty => by
    have A : TrOk g (.isi a ty) := fun t W P σ H Hf s Q hl hn st h => by
      refine (E_ok g a).1 t W P σ H Hf s _ hl hn st (Pst.bind h fun x H1 Hf1 e1 h1 st1 v rv => ?_)
      exact isi_ok ty st1 rv (Pst.bind h1 fun z H2 Hf2 e2 h2 st2 v2 rv2 => h2 H2 Hf2 (Same.refl _) st2 v2 rv2)
    exact ⟨A, fun t W P σ H Hf s Q ho hl hn st h => A t W P σ H Hf s _ hl hn st (ct_ce h)⟩
  | .bin op a b => by
    have A : TrOk g (.bin op a b) := fun t W P σ H Hf s Q hl hn st h => by
      refine (E_ok g a).1 t W P σ H Hf s _ hl hn.1 st (Pst.bind h fun x H1 Hf1 e1 h1 st1 v rv => ?_)
      refine (E_ok g b).1 t W P σ H1 Hf1 x.2 _ hl hn.2 st1 (Pst.bind h1 fun y H2 Hf2 e2 h2 st2 w rw' => ?_)
      exact bin_ok op st2 (rv.mono e2) rw' (Pst.bind h2 fun z H3 Hf3 e3 h3 st3 v3 rv3 => h3 H3 Hf3 (Same.refl _) st3 v3 rv3)
    exact ⟨A, fun t W P σ H Hf s Q ho hl hn st h => by cases ho⟩
  | .neg a => by
    have A : TrOk g (.neg a) := fun t W P σ H Hf s Q hl hn st h => by
      refine (E_ok g a).1 t W P σ H Hf s _ hl hn st (Pst.bind h fun x H1 Hf1 e1 h1 st1 v rv => ?_)
      obtain ⟨d, s1⟩ := x
      cases rv with
      | int i => exact ⟨i, rfl, h1 H1 Hf1 (Same.refl _) st1 _ (.int _)⟩
      | _ => exact h1.elim
    exact ⟨A, fun t W P σ H Hf s Q ho hl hn st h => by cases ho⟩
  | .not a => by
    have A : TrOk g (.not a) := fun t W P σ H Hf s Q hl hn st h => by
      refine (E_ok g a).1 t W P σ H Hf s _ hl hn st (Pst.bind h fun x H1 Hf1 e1 h1 st1 v rv => ?_)
      obtain ⟨d, s1⟩ := x
      cases rv with
      | bl b => exact ⟨b, rfl, h1 H1 Hf1 (Same.refl _) st1 _ (.bl _)⟩
      | _ => exact h1.elim
    refine ⟨A, fun t W P σ H Hf s Q ho hl hn st h => ?_⟩
    refine (E_ok g a).2 t W P σ H Hf s _ ho hl hn st (Pst.bind h fun x H1 Hf1 e1 h1 => ?_)
    obtain ⟨d, s1⟩ := x
    cases d with
    | bl b => exact fun st1 => h1 H1 Hf1 (Same.refl _) st1
    | _ => exact h1.elim
  | .cmp op a b => by
    have A : TrOk g (.cmp op a b) := fun t W P σ H Hf s Q hl hn st h => by
      refine (E_ok g a).1 t W P σ H Hf s _ hl hn.1 st (Pst.bind h fun x H1 Hf1 e1 h1 st1 v rv => ?_)
      refine (E_ok g b).1 t W P σ H1 Hf1 x.2 _ hl hn.2 st1 (Pst.bind h1 fun y H2 Hf2 e2 h2 st2 w rw' => ?_)
      exact cmp_ok op st2 (rv.mono e2) rw' (Pst.bind h2 fun z H3 Hf3 e3 h3 st3 v3 rv3 => h3 H3 Hf3 (Same.refl _) st3 v3 rv3)
    exact ⟨A, fun t W P σ H Hf s Q ho hl hn st h => A t W P σ H Hf s _ hl hn st (ct_ce h)⟩
  | .chain op op' a b c => by
    have A : TrOk g (.chain op op' a b c) := fun t W P σ H Hf s Q hl hn st h => by
      refine (E_ok g a).1 t W P σ H Hf s _ hl hn.1 st (Pst.bind h fun x H1 Hf1 e1 h1 st1 v rv => ?_)
      refine (E_ok g b).1 t W P σ H1 Hf1 x.2 _ hl hn.2.1 st1 (Pst.bind h1 fun y H2 Hf2 e2 h2 st2 w rw' => ?_)
      refine cmp_ok op st2 (rv.mono e2) rw' (Pst.bind h2 fun z H3 Hf3 e3 h3 st3 v3 rv3 => ?_)
      cases rv3 with
      | bl k =>
        refine ⟨k, rfl, ?_⟩
        cases k with
        | true =>
          rw [if_pos rfl]
          refine (E_ok g c).1 t W P σ H3 Hf3 y.2 _ hl hn.2.2 st3 (Pst.bind h3 fun q H4 Hf4 e4 h4 st4 v4 rv4 => ?_)
          exact cmp_ok op' st4 (rw'.mono (e3.trans e4)) rv4 (Pst.bind h4 fun z H5 Hf5 e5 h5 st5 v5 rv5 => h5 H5 Hf5 (Same.refl _) st5 v5 rv5)
        | false =>
          rw [if_neg (by decide)]
          exact h3 H3 Hf3 (Same.refl _) st3 _ (.bl _)
      | _ => exact h3.elim
    exact ⟨A, fun t W P σ H Hf s Q ho hl hn st h => A t W P σ H Hf s _ hl hn st (ct_ce h)⟩
  | .and es => ⟨fun t W P σ H Hf s Q hl hn st h => (Es_ok g es).2.1 t W P σ H Hf s Q hl hn st h, fun t W P σ H Hf s Q ho hl hn st h => (Es_ok g es).2.2.2.1 t W P σ H Hf s Q ho hl hn st h⟩
  | .or es => ⟨fun t W P σ H Hf s Q hl hn st h => (Es_ok g es).2.2.1 t W P σ H Hf s Q hl hn st h, fun t W P σ H Hf s Q ho hl hn st h => (Es_ok g es).2.2.2.2 t W P σ H Hf s Q ho hl hn st h⟩
  | .ife c a b => by
    have A : TrOk g (.ife c a b) := fun t W P σ H Hf s Q hl hn st h => by
      refine (E_ok g c).2 t W P σ H Hf s _ hn.1 hl hn.2.1 st (Pst.bind h fun x H1 Hf1 e1 h1 => ?_)
      obtain ⟨d, s1⟩ := x
      cases d with
      | bl k =>
        intro st1
        cases k with
        | true =>
          rw [if_pos rfl]
          exact (E_ok g a).1 t W P σ H1 Hf1 s1 Q hl hn.2.2.1 st1 h1
        | false =>
          rw [if_neg (by decide)]
          exact (E_ok g b).1 t W P σ H1 Hf1 s1 Q hl hn.2.2.2 st1 h1
      | _ => exact h1.elim
    exact ⟨A, fun t W P σ H Hf s Q ho hl hn st h => by cases ho⟩
  | .tup es => by
    have A : TrOk g (.tup es) := fun t W P σ H Hf s Q hl hn st h => by
      refine (Es_ok g es).1 t W P σ H Hf s _ hl hn st (Pst.bind h fun x H1 Hf1 e1 h1 st1 vs rvs => ?_)
      have h1 : Pst g.cl W P σ Hf1 (CE P σ Q) (if x.1.length ≤ SL then .ok (.tup x.1, x.2) else .stuck) := h1
      split at h1
      · rename_i hz
        refine ⟨by rw [rvs.length, SL_eq]; exact hz, fun p hp => ?_⟩
        exact h1 _ _ (same_upd (st1.sub.free hp)) (st1.allocF hp (fun _ z => by cases z)) _ (.tup upd_same (Reps.mono (same_upd (st1.sub.free hp)) _ _ rvs) hz)
      · exact h1.elim
    exact ⟨A, fun t W P σ H Hf s Q ho hl hn st h => by cases ho⟩
  | .lst es => by
    have A : TrOk g (.lst es) := fun t W P σ H Hf s Q hl hn st h => by
      refine (Es_ok g es).1 t W P σ H Hf s _ hl hn st (Pst.bind h fun x H1 Hf1 e1 h1 st1 vs rvs => ?_)
      have h1 : Pst g.cl W P σ Hf1 (CE P σ Q) (if x.1.length ≤ SL then .ok (.lst x.1, x.2) else .stuck) := h1
      split at h1
      · rename_i hz
        refine ⟨by rw [rvs.length, SL_eq]; exact hz, fun p hp => ?_⟩
        exact h1 _ _ (same_upd (st1.sub.free hp)) (st1.allocF hp (fun _ z => by cases z)) _ (.lst upd_same (Reps.mono (same_upd (st1.sub.free hp)) _ _ rvs) hz)
      · exact h1.elim
    exact ⟨A, fun t W P σ H Hf s Q ho hl hn st h => by cases ho⟩
  | .ix a b => by
    have A : TrOk g (.ix a b) := fun t W P σ H Hf s Q hl hn st h => by
      refine (E_ok g a).1 t W P σ H Hf s _ hl hn.1 st (Pst.bind h fun x H1 Hf1 e1 h1 st1 v rv => ?_)
      refine (E_ok g b).1 t W P σ H1 Hf1 x.2 _ hl hn.2 st1 (Pst.bind h1 fun y H2 Hf2 e2 h2 st2 w rw' => ?_)
      exact ixs_ok st2 (rv.mono e2) rw' (Pst.bind h2 fun z H3 Hf3 e3 h3 st3 v3 rv3 => h3 H3 Hf3 (Same.refl _) st3 v3 rv3)
    exact ⟨A, fun t W P σ H Hf s Q ho hl hn st h => by cases ho⟩
  | .ixo i b => by
    have A : TrOk g (.ixo i b) := fun t W P σ H Hf s Q hl hn st h => by
      have q := st.slot i
      have h : Pst g.cl W P σ Hf (CE P σ Q) (match s.get i with
        | .ol _ => (ev b s).bind fun (y, s) => (match s.get i with | .ol l => (ixD (.lst l) y).bind fun z => .ok (z, s) | _ => .stuck)
        | _ => .stuck) := h
      cases e : s.get i with
      | ol ds =>
        rw [e] at h q
        obtain ⟨p, vs, e1, _⟩ := q
        refine ⟨_, σ_get e1, (E_ok g b).1 t W P σ H Hf s _ hl hn st (Pst.bind h fun y H2 Hf2 e2 h2 st2 w rw' => ?_)⟩
        obtain ⟨d, s2⟩ := y
        have q2 := st2.slot i
        have h2 : Pst g.cl W P σ Hf2 (CE P σ Q) (match s2.get i with | .ol l => (ixD (.lst l) d).bind fun z => .ok (z, s2) | _ => .stuck) := h2
        cases e3 : s2.get i with
        | ol l =>
          rw [e3] at h2
          have q2 : SlOk P H2 Hf2 (s2.get i) (σ.getD i none) := q2
          rw [e3] at q2
          obtain ⟨p2, vs2, e4, _, _, _, hp2, r2, _⟩ := q2
          rw [e1] at e4
          cases e4
          exact ixo_ok st2 hp2 r2 rw' (Pst.bind h2 fun z H3 Hf3 e3 h3 st3 v3 rv3 => h3 H3 Hf3 (Same.refl _) st3 v3 rv3)
        | _ => rw [e3] at h2; exact h2.elim
      | _ => rw [e] at h; exact h.elim
    exact ⟨A, fun t W P σ H Hf s Q ho hl hn st h => by cases ho⟩
  | .ixg x tab b => by
    have A : TrOk g (.ixg x tab b) := fun t W P σ H Hf s Q hl hn st h => by
      refine (E_ok g b).1 t W P σ H Hf s _ hl hn.2 st (Pst.bind h fun x H1 Hf1 e1 h1 st1 v rv => ?_)
      obtain ⟨d, s1⟩ := x
      cases rv with
      | str c1 c2 =>
        rename_i l
        have h1 : Pst g.cl W P σ Hf1 (CE P σ Q) (match tabGet tab l with | some d => .ok (d, s1) | none => .stuck) := h1
        cases q : tabGet tab l with
        | none => rw [q] at h1; exact h1.elim
        | some d =>
          rw [q] at h1
          obtain ⟨u0, v0, z1, z2, z3⟩ := hn.1 l d q
          exact ⟨_, u0, v0, rfl, z1, z2, h1 H1 Hf1 (Same.refl _) st1 _ (z3 _ _)⟩
      | _ => exact h1.elim
    exact ⟨A, fun t W P σ H Hf s Q ho hl hn st h => by cases ho⟩
  | .sl a lo hi => by
    have A : TrOk g (.sl a lo hi) := fun t W P σ H Hf s Q hl hn st h => by
      refine (E_ok g a).1 t W P σ H Hf s _ hl hn.1 st (Pst.bind h fun x H1 Hf1 e1 h1 st1 v rv => ?_)
      refine Oe_ok g lo t W P σ H1 Hf1 x.2 _ hl hn.2.1 st1 (Pst.bind h1 fun y H2 Hf2 e2 h2 st2 => ?_)
      refine Oe_ok g hi t W P σ H2 Hf2 y.2 _ hl hn.2.2 st2 (Pst.bind h2 fun z H3 Hf3 e3 h3 st3 => ?_)
      exact sl_ok st3 (rv.mono (e2.trans e3)) (Pst.bind h3 fun z H4 Hf4 e4 h4 st4 v4 rv4 => h4 H4 Hf4 (Same.refl _) st4 v4 rv4)
    exact ⟨A, fun t W P σ H Hf s Q ho hl hn st h => by cases ho⟩
  | .rev a => by
    have A : TrOk g (.rev a) := fun t W P σ H Hf s Q hl hn st h => by
      refine (E_ok g a).1 t W P σ H Hf s _ hl hn st (Pst.bind h fun x H1 Hf1 e1 h1 st1 v rv => ?_)
      obtain ⟨d, s1⟩ := x
      cases rv with
      | str c1 c2 =>
        exact .inr ⟨_, rfl, c2, h1 H1 Hf1 (Same.refl _) st1 _ (.str (fun c hc => c1 c (List.mem_reverse.mp hc)) (by rw [List.length_reverse]; exact c2))⟩
      | lst a1 a2 a3 =>
        refine .inl ⟨_, _, rfl, SqL.of (st1.sub _ _ a1), fun p hp => ?_⟩
        exact h1 _ _ (same_upd (st1.sub.free hp)) (st1.allocF hp (fun _ z => by cases z)) _ (.lst upd_same (Reps.mono (same_upd (st1.sub.free hp)) _ _ a2.reverse) (by rw [List.length_reverse]; exact a3))
      | _ => exact h1.elim
    exact ⟨A, fun t W P σ H Hf s Q ho hl hn st h => by cases ho⟩
  | .call f F es => by
    have A : TrOk g (.call f F es) := fun t W P σ H Hf s Q hl hn st h => by
      have hlen := evs_len es s
      refine (Es_ok g es).1 t W P σ H Hf s _ hl hn st ?_
      have h : Pst g.cl W P σ Hf (CE P σ Q) ((evs es s).bind fun (xs, s) => (F xs s.dn s.dk).bind fun (d, n, k) => .ok (d, { s with dn := n, dk := k })) := h
      cases q : evs es s with
      | exc c n k => rw [q] at h; exact h
      | stuck => rw [q] at h; exact h
      | ok x =>
        obtain ⟨xs, s1⟩ := x
        rw [q] at h
        intro H1 Hf1 e1 st1 vs rvs
        have h1 : Pst g.cl W P σ Hf1 (CE P σ Q) ((F xs s1.dn s1.dk).bind fun (d, n, k) => .ok (d, { s1 with dn := n, dk := k })) := Pst.weak h e1
        refine ⟨by rw [rvs.length]; exact hlen s1 xs q, P.pd, s1.dn, s1.dk, Hf1, xs, rvs, st1.sub, st1.dice, st1.dicef, st1.nt, ?_⟩
        cases q2 : F xs s1.dn s1.dk with
        | ok y =>
          obtain ⟨d, n, k⟩ := y
          rw [q2] at h1
          exact fun v H2 Hf2 gr rv => h1 H2 Hf2 gr.sub0 (st1.call gr) v rv
        | exc c n k =>
          rw [q2] at h1
          exact fun H2 Hf2 gr => h1 H2 Hf2 _ (st1.call gr) rfl rfl
        | stuck => rw [q2] at h1; exact h1
    exact ⟨A, fun t W P σ H Hf s Q ho hl hn st h => A t W P σ H Hf s _ hl hn st (ct_ce h)⟩
  | .leno i => by
    have A : TrOk g (.leno i) := fun t W P σ H Hf s Q hl hn st h => by
      have q := st.slot i
      have h : Pst g.cl W P σ Hf (CE P σ Q) (match s.get i with | .ol l => .ok (.int l.length, s) | _ => .stuck) := h
      cases e : s.get i with
      | ol ds =>
        rw [e] at h q
        obtain ⟨p, vs, e1, a, b, c, d, r, z⟩ := q
        refine ⟨_, σ_get e1, _, _, rfl, .inl ⟨_, SqL.of d, rfl⟩, ?_⟩
        rw [r.length]
        exact h H Hf (Same.refl _) st _ (.int _)
      | _ => rw [e] at h; exact h.elim
    exact ⟨A, fun t W P σ H Hf s Q ho hl hn st h => by cases ho⟩
  | .b1 f a => by
    have A : TrOk g (.b1 f a) := fun t W P σ H Hf s Q hl hn st h => by
      refine (E_ok g a).1 t W P σ H Hf s _ hl hn st (Pst.bind h fun x H1 Hf1 e1 h1 st1 v rv => ?_)
      exact b1_ok f st1 rv (Pst.bind h1 fun z H2 Hf2 e2 h2 st2 v2 rv2 => h2 H2 Hf2 (Same.refl _) st2 v2 rv2)
    exact ⟨A, fun t W P σ H Hf s Q ho hl hn st h => A t W P σ H Hf s _ hl hn st (ct_ce h)⟩
  | .b2 f a b => by
    have A : TrOk g (.b2 f a b) := fun t W P σ H Hf s Q hl hn st h => by
      refine (E_ok g a).1 t W P σ H Hf s _ hl hn.1 st (Pst.bind h fun x H1 Hf1 e1 h1 st1 v rv => ?_)
      refine (E_ok g b).1 t W P σ H1 Hf1 x.2 _ hl hn.2 st1 (Pst.bind h1 fun y H2 Hf2 e2 h2 st2 w rw' => ?_)
      exact b2_ok f st2 (rv.mono e2) rw' (Pst.bind h2 fun z H3 Hf3 e3 h3 st3 v3 rv3 => h3 H3 Hf3 (Same.refl _) st3 v3 rv3)
    exact ⟨A, fun t W P σ H Hf s Q ho hl hn st h => by cases ho⟩
  | .m1 m o a => by
    have A : TrOk g (.m1 m o a) := fun t W P σ H Hf s Q hl hn st h => by
      refine (E_ok g o).1 t W P σ H Hf s _ hl hn.1 st (Pst.bind h fun x H1 Hf1 e1 h1 st1 v rv => ?_)
      obtain ⟨d, s1⟩ := x
      cases rv with
      | str c1 c2 =>
        refine ⟨rfl, ?_⟩
        refine (E_ok g a).1 t W P σ H1 Hf1 s1 _ hl hn.2 st1 (Pst.bind h1 fun y H2 Hf2 e2 h2 st2 w rw' => ?_)
        exact m1_ok m st2 (.str c1 c2) rw' (Pst.bind h2 fun z H3 Hf3 e3 h3 st3 v3 rv3 => h3 H3 Hf3 (Same.refl _) st3 v3 rv3)
      | _ => exact h1.elim
    exact ⟨A, fun t W P σ H Hf s Q ho hl hn st h => by cases ho⟩
  | .lc tg it elt => by
    have A : TrOk g (.lc tg it elt) := fun t W P σ H Hf s Q hl hn st h => by
      refine It_ok g it t W P σ H Hf s _ hl hn.1 st (Pst.bind h fun x H1 Hf1 e1 h1 st1 J hJ => ?_)
      obtain ⟨ds, s1⟩ := x
      exact lc_ok (W := W) (tg := tg) (tt := tYes) (c := fun t => .ok (.bl true, t)) (f := ev elt) hl.w (fun P σ H Hf s Q w st h => h H Hf (Same.refl _) st) (fun P σ H Hf s Q w st h => (E_ok g elt).1 false wF P σ H Hf s Q ⟨w, fun z => by cases z⟩ hn.2 st h) st1 hJ h1
    exact ⟨A, fun t W P σ H Hf s Q ho hl hn st h => by cases ho⟩
  | .lcf tg it c elt => by
    have A : TrOk g (.lcf tg it c elt) := fun t W P σ H Hf s Q hl hn st h => by
      refine It_ok g it t W P σ H Hf s _ hl hn.1 st (Pst.bind h fun x H1 Hf1 e1 h1 st1 J hJ => ?_)
      obtain ⟨ds, s1⟩ := x
      exact lc_ok (W := W) (tg := tg) (tt := trT g c wF) (c := ev c) (f := ev elt) hl.w (fun P σ H Hf s Q w st h => (E_ok g c).2 false wF P σ H Hf s Q hn.2.1 ⟨w, fun z => by cases z⟩ hn.2.2.1 st h) (fun P σ H Hf s Q w st h => (E_ok g elt).1 false wF P σ H Hf s Q ⟨w, fun z => by cases z⟩ hn.2.2.2 st h) st1 hJ h1
    exact ⟨A, fun t W P σ H Hf s Q ho hl hn st h => by cases ho⟩
  | .callS f es => ⟨fun t W P σ H Hf s Q hl hn st h => (show False from h).elim, fun t W P σ H Hf s Q ho hl hn st h => by cases ho⟩
  | .told e => ⟨fun t W P σ H Hf s Q hl hn st h => told_ok (E_ok g e).1 hl.w (hl.law hn.1) hn.2 st h, fun t W P σ H Hf s Q ho hl hn st h => by cases ho⟩
  | .dget i k d => by
    have A : TrOk g (.dget i k d) := fun t W P σ H Hf s Q hl hn st h => by
      have h : Pst g.cl W P σ Hf (CE P σ Q) (match dcur s i with
        | some _ => (ev k s).bind fun (y, s) => (ev d s).bind fun (z, s) => (match dcur s i, keyD y with | some kvs, some kk => .ok ((dfind kvs kk).getD z, s) | _, _ => .stuck)
        | none => .stuck) := h
      cases e : dcur s i with
      | none => rw [e] at h; exact h.elim
      | some kvs0 =>
        rw [e] at h
        obtain ⟨p, kvs', e1, hp, _, _⟩ := dcur_ok st e
        refine ⟨_, σ_get e1, p, rfl, .inr ⟨kvs', .inl hp⟩, ?_⟩
        refine (E_ok g k).1 t W P σ H Hf s _ hl hn.1 st (Pst.bind h fun y H1 Hf1 x1 h1 st1 v rv => ?_)
        refine (E_ok g d).1 t W P σ H1 Hf1 y.2 _ hl hn.2 st1 (Pst.bind h1 fun z H2 Hf2 x2 h2 st2 v2 rv2 => ?_)
        obtain ⟨y, s1⟩ := y
        obtain ⟨z, s2⟩ := z
        have h2 : Pst g.cl W P σ Hf2 (CE P σ Q) (match dcur s2 i, keyD y with | some kvs, some kk => .ok ((dfind kvs kk).getD z, s2) | _, _ => .stuck) := h2
        cases e3 : dcur s2 i with
        | none => rw [e3] at h2; exact h2.elim
        | some kvs =>
          cases e4 : keyD y with
          | none => rw [e3, e4] at h2; exact h2.elim
          | some kk =>
            rw [e3, e4] at h2
            obtain ⟨p2, kvs2, e5, hp2, r1, r2⟩ := dcur_ok st2 e3
            rw [e1] at e5
            cases e5
            obtain ⟨b, rfl, hb⟩ := key_ok (Rep.mono x2 _ _ rv) e4
            have f := dfind_ok kk kvs2 kvs r1 r2
            refine ⟨valV kvs2 (kL kk), DGet.t hp2 (st2.sub _ _ hb), ?_⟩
            have h2 : Pst g.cl W P σ Hf2 (CE P σ Q) (.ok ((dfind kvs kk).getD z, s2)) := h2
            cases e6 : dfind kvs kk with
            | none =>
              rw [e6] at f h2
              rw [f]
              exact h2 H2 Hf2 (Same.refl _) st2 _ rv2
            | some dd =>
              rw [e6] at f h2
              obtain ⟨vv, f1, f2⟩ := f
              rw [f1]
              exact h2 H2 Hf2 (Same.refl _) st2 _ f2
    exact ⟨A, fun t W P σ H Hf s Q ho hl hn st h => A t W P σ H Hf s _ hl hn st (ct_ce h)⟩
  | .din i k => by
    have A : ∀ (t : Bool) (W : XK) (P : Par) (σ : St) (H Hf : Hp) (s : S) (Q : VK), Lk g P t → nd g t k → StOk P σ H Hf s → Pst g.cl W P σ Hf (CE P σ Q) (ev (.din i k) s) → tDIn (tr g k W) (tVar i) σ H Q := fun t W P σ H Hf s Q hl hn st h => by
      have h : Pst g.cl W P σ Hf (CE P σ Q) ((ev k s).bind fun (y, s) => (match dcur s i, keyD y with | some kvs, some kk => .ok (.bl (dfind kvs kk).isSome, s) | _, _ => .stuck)) := h
      refine (E_ok g k).1 t W P σ H Hf s _ hl hn st (Pst.bind h fun y H1 Hf1 x1 h1 st1 v rv => ?_)
      obtain ⟨y, s1⟩ := y
      have h1 : Pst g.cl W P σ Hf1 (CE P σ Q) (match dcur s1 i, keyD y with | some kvs, some kk => .ok (.bl (dfind kvs kk).isSome, s1) | _, _ => .stuck) := h1
      cases e3 : dcur s1 i with
      | none => rw [e3] at h1; exact h1.elim
      | some kvs =>
        cases e4 : keyD y with
        | none => rw [e3, e4] at h1; exact h1.elim
        | some kk =>
          rw [e3, e4] at h1
          obtain ⟨p2, kvs2, e5, hp2, r1, r2⟩ := dcur_ok st1 e3
          obtain ⟨b, rfl, hb⟩ := key_ok rv e4
          have f := dfind_ok kk kvs2 kvs r1 r2
          refine ⟨_, σ_get e5, p2, valV kvs2 (kL kk), rfl, DGet.t hp2 (st1.sub _ _ hb), ?_⟩
          have eb : (valV kvs2 (kL kk)).isSome = (dfind kvs kk).isSome := by
            cases e6 : dfind kvs kk with
            | none => rw [e6] at f; rw [f]; rfl
            | some dd => rw [e6] at f; obtain ⟨vv, f1, _⟩ := f; rw [f1]; rfl
          rw [eb]
          exact h1 H1 Hf1 (Same.refl _) st1 _ (.bl _)
    exact ⟨A, fun t W P σ H Hf s Q ho hl hn st h => A t W P σ H Hf s _ hl hn st (ct_ce h)⟩
  | .dnin i k => by
    have A : ∀ (t : Bool) (W : XK) (P : Par) (σ : St) (H Hf : Hp) (s : S) (Q : VK), Lk g P t → nd g t k → StOk P σ H Hf s → Pst g.cl W P σ Hf (CE P σ Q) (ev (.dnin i k) s) → tDNotIn (tr g k W) (tVar i) σ H Q := fun t W P σ H Hf s Q hl hn st h => by
      have h : Pst g.cl W P σ Hf (CE P σ Q) ((ev k s).bind fun (y, s) => (match dcur s i, keyD y with | some kvs, some kk => .ok (.bl (!(dfind kvs kk).isSome), s) | _, _ => .stuck)) := h
      refine (E_ok g k).1 t W P σ H Hf s _ hl hn st (Pst.bind h fun y H1 Hf1 x1 h1 st1 v rv => ?_)
      obtain ⟨y, s1⟩ := y
      have h1 : Pst g.cl W P σ Hf1 (CE P σ Q) (match dcur s1 i, keyD y with | some kvs, some kk => .ok (.bl (!(dfind kvs kk).isSome), s1) | _, _ => .stuck) := h1
      cases e3 : dcur s1 i with
      | none => rw [e3] at h1; exact h1.elim
      | some kvs =>
        cases e4 : keyD y with
        | none => rw [e3, e4] at h1; exact h1.elim
        | some kk =>
          rw [e3, e4] at h1
          obtain ⟨p2, kvs2, e5, hp2, r1, r2⟩ := dcur_ok st1 e3
          obtain ⟨b, rfl, hb⟩ := key_ok rv e4
          have f := dfind_ok kk kvs2 kvs r1 r2
          refine ⟨_, σ_get e5, p2, valV kvs2 (kL kk), rfl, DGet.t hp2 (st1.sub _ _ hb), ?_⟩
          have eb : (valV kvs2 (kL kk)).isSome = (dfind kvs kk).isSome := by
            cases e6 : dfind kvs kk with
            | none => rw [e6] at f; rw [f]; rfl
            | some dd => rw [e6] at f; obtain ⟨vv, f1, _⟩ := f; rw [f1]; rfl
          rw [eb]
          exact h1 H1 Hf1 (Same.refl _) st1 _ (.bl _)
    exact ⟨A, fun t W P σ H Hf s Q ho hl hn st h => A t W P σ H Hf s _ hl hn st (ct_ce h)⟩
  | .dix i k => by
    have A : TrOk g (.dix i k) := fun t W P σ H Hf s Q hl hn st h => by
      have h : Pst g.cl W P σ Hf (CE P σ Q) (match dcur s i with
        | some _ => (ev k s).bind fun (y, s) => (match dcur s i, keyD y with | some kvs, some kk => (match dfind kvs kk with | some v => .ok (v, s) | none => .stuck) | _, _ => .stuck)
        | none => .stuck) := h
      cases e : dcur s i with
      | none => rw [e] at h; exact h.elim
      | some kvs0 =>
        rw [e] at h
        obtain ⟨p, kvs', e1, hp, _, _⟩ := dcur_ok st e
        refine ⟨_, σ_get e1, ?_⟩
        refine (E_ok g k).1 t W P σ H Hf s _ hl hn st (Pst.bind h fun y H1 Hf1 x1 h1 st1 v rv => ?_)
        obtain ⟨y, s1⟩ := y
        have h1 : Pst g.cl W P σ Hf1 (CE P σ Q) (match dcur s1 i, keyD y with | some kvs, some kk => (match dfind kvs kk with | some v => .ok (v, s1) | none => .stuck) | _, _ => .stuck) := h1
        cases e3 : dcur s1 i with
        | none => rw [e3] at h1; exact h1.elim
        | some kvs =>
          cases e4 : keyD y with
          | none => rw [e3, e4] at h1; exact h1.elim
          | some kk =>
            rw [e3, e4] at h1
            obtain ⟨p2, kvs2, e5, hp2, r1, r2⟩ := dcur_ok st1 e3
            rw [e1] at e5
            cases e5
            obtain ⟨b, rfl, hb⟩ := key_ok rv e4
            have f := dfind_ok kk kvs2 kvs r1 r2
            have h1 : Pst g.cl W P σ Hf1 (CE P σ Q) (match dfind kvs kk with | some v => .ok (v, s1) | none => .stuck) := h1
            cases e6 : dfind kvs kk with
            | none => rw [e6] at h1; exact h1.elim
            | some dd =>
              rw [e6] at f h1
              obtain ⟨vv, f1, f2⟩ := f
              refine ⟨p, vv, rfl, ?_, h1 H1 Hf1 (Same.refl _) st1 _ f2⟩
              rw [← f1]
              exact DGet.t hp2 (st1.sub _ _ hb)
    exact ⟨A, fun t W P σ H Hf s Q ho hl hn st h => by cases ho⟩
  | .slk a lo hi => by
    have A : TrOk g (.slk a lo hi) := fun t W P σ H Hf s Q hl hn st h => by
      refine (E_ok g a).1 t W P σ H Hf s _ hl hn.1 st (Pst.bind h fun x H1 Hf1 e1 h1 st1 v rv => ?_)
      refine Oe_ok g lo t W P σ H1 Hf1 x.2 _ hl hn.2.1 st1 (Pst.bind h1 fun y H2 Hf2 e2 h2 st2 => ?_)
      refine Oe_ok g hi t W P σ H2 Hf2 y.2 _ hl hn.2.2 st2 (Pst.bind h2 fun z H3 Hf3 e3 h3 st3 => ?_)
      exact slk_ok st3 (rv.mono (e2.trans e3)) (Pst.bind h3 fun z H4 Hf4 e4 h4 st4 v4 rv4 => h4 H4 Hf4 (Same.refl _) st4 v4 rv4)
    exact ⟨A, fun t W P σ H Hf s Q ho hl hn st h => by cases ho⟩
  | .cntk o a => by
    have A : TrOk g (.cntk o a) := fun t W P σ H Hf s Q hl hn st h => by
      refine (E_ok g o).1 t W P σ H Hf s _ hl hn.1 st (Pst.bind h fun x H1 Hf1 e1 h1 st1 v rv => ?_)
      obtain ⟨d, s1⟩ := x
      cases rv with
      | tpk a1 a2 a3 =>
        refine ⟨⟨_, _, rfl, a1.imp fun o q => ⟨st1.sub _ _ q.1, q.2⟩⟩, ?_⟩
        refine (E_ok g a).1 t W P σ H1 Hf1 s1 _ hl hn.2 st1 (Pst.bind h1 fun y H2 Hf2 e2 h2 st2 w rw' => ?_)
        exact cntk_ok (H1 := H1) e2 st2 (.tpk a1 a2 a3) rw' (Pst.bind h2 fun z H3 Hf3 e3 h3 st3 v3 rv3 => h3 H3 Hf3 (Same.refl _) st3 v3 rv3)
      | _ => exact h1.elim
    exact ⟨A, fun t W P σ H Hf s Q ho hl hn st h => by cases ho⟩
  | .iget i k d => by
    have A : TrOk g (.iget i k d) := fun t W P σ H Hf s Q hl hn st h => by
      have h : Pst g.cl W P σ Hf (CE P σ Q) (match icur s i with
        | some _ => (ev k s).bind fun (y, s) => (ev d s).bind fun (z, s) => (match icur s i, y with | some kvs, .int j => .ok ((ifind kvs j).getD z, s) | _, _ => .stuck)
        | none => .stuck) := h
      cases e : icur s i with
      | none => rw [e] at h; exact h.elim
      | some kvs0 =>
        rw [e] at h
        obtain ⟨p, kvs', e1, hp, _, _⟩ := icur_ok st e
        refine ⟨_, σ_get e1, p, rfl, .inl ⟨kvs', hp⟩, ?_⟩
        refine (E_ok g k).1 t W P σ H Hf s _ hl hn.1 st (Pst.bind h fun y H1 Hf1 x1 h1 st1 v rv => ?_)
        refine (E_ok g d).1 t W P σ H1 Hf1 y.2 _ hl hn.2 st1 (Pst.bind h1 fun z H2 Hf2 x2 h2 st2 v2 rv2 => ?_)
        obtain ⟨y, s1⟩ := y
        obtain ⟨z, s2⟩ := z
        have h2 : Pst g.cl W P σ Hf2 (CE P σ Q) (match (generalizing := false) icur s2 i, y with | some kvs, .int j => .ok ((ifind kvs j).getD z, s2) | _, _ => .stuck) := h2
        cases e3 : icur s2 i with
        | none => rw [e3] at h2; exact h2.elim
        | some kvs =>
          rw [e3] at h2
          cases rv with
          | int j =>
            have h2 : Pst g.cl W P σ Hf2 (CE P σ Q) (.ok ((ifind kvs j).getD z, s2)) := h2
            obtain ⟨p2, kvs2, e5, hp2, r1, r2⟩ := icur_ok st2 e3
            rw [e1] at e5
            cases e5
            have f := ifind_ok j kvs2 kvs r1 r2
            refine ⟨valV kvs2 (Sum.inl j), .inl ⟨kvs2, Sum.inl j, hp2, rfl, rfl⟩, ?_⟩
            cases e6 : ifind kvs j with
            | none =>
              rw [e6] at f h2
              rw [f]
              exact h2 H2 Hf2 (Same.refl _) st2 _ rv2
            | some dd =>
              rw [e6] at f h2
              obtain ⟨vv, f1, f2⟩ := f
              rw [f1]
              exact h2 H2 Hf2 (Same.refl _) st2 _ f2
          | _ => exact h2.elim
    exact ⟨A, fun t W P σ H Hf s Q ho hl hn st h => by cases ho⟩
  | .iix i k => by
    have A : TrOk g (.iix i k) := fun t W P σ H Hf s Q hl hn st h => by
      have h : Pst g.cl W P σ Hf (CE P σ Q) (match icur s i with
        | some _ => (ev k s).bind fun (y, s) => (match icur s i, y with | some kvs, .int j => (match ifind kvs j with | some v => .ok (v, s) | none => .stuck) | _, _ => .stuck)
        | none => .stuck) := h
      cases e : icur s i with
      | none => rw [e] at h; exact h.elim
      | some kvs0 =>
        rw [e] at h
        obtain ⟨p, kvs', e1, hp, _, _⟩ := icur_ok st e
        refine ⟨_, σ_get e1, ?_⟩
        refine (E_ok g k).1 t W P σ H Hf s _ hl hn st (Pst.bind h fun y H1 Hf1 x1 h1 st1 v rv => ?_)
        obtain ⟨y, s1⟩ := y
        have h1 : Pst g.cl W P σ Hf1 (CE P σ Q) (match (generalizing := false) icur s1 i, y with | some kvs, .int j => (match ifind kvs j with | some v => .ok (v, s1) | none => .stuck) | _, _ => .stuck) := h1
        cases e3 : icur s1 i with
        | none => rw [e3] at h1; exact h1.elim
        | some kvs =>
          rw [e3] at h1
          cases rv with
          | int j =>
            obtain ⟨p2, kvs2, e5, hp2, r1, r2⟩ := icur_ok st1 e3
            rw [e1] at e5
            cases e5
            have f := ifind_ok j kvs2 kvs r1 r2
            have h1 : Pst g.cl W P σ Hf1 (CE P σ Q) (match ifind kvs j with | some v => .ok (v, s1) | none => .stuck) := h1
            cases e6 : ifind kvs j with
            | none => rw [e6] at h1; exact h1.elim
            | some dd =>
              rw [e6] at f h1
              obtain ⟨vv, f1, f2⟩ := f
              exact ⟨p, vv, rfl, .inl ⟨kvs2, Sum.inl j, hp2, rfl, f1.symm⟩, h1 H1 Hf1 (Same.refl _) st1 _ f2⟩
          | _ => exact h1.elim
    exact ⟨A, fun t W P σ H Hf s Q ho hl hn st h => by cases ho⟩
  | .snin i k => by
    have A : ∀ (t : Bool) (W : XK) (P : Par) (σ : St) (H Hf : Hp) (s : S) (Q : VK), Lk g P t → nd g t k → StOk P σ H Hf s → Pst g.cl W P σ Hf (CE P σ Q) (ev (.snin i k) s) → tSNin g.w (tr g k W) (tVar i) σ H Q := fun t W P σ H Hf s Q hl hn st h => by
      have h : Pst g.cl W P σ Hf (CE P σ Q) ((ev k s).bind fun (y, s) => (match s.get i with | .os kvs => if skey y = true then .ok (.bl (!(sfind kvs y).isSome), s) else .stuck | _ => .stuck)) := h
      refine (E_ok g k).1 t W P σ H Hf s _ hl hn st (Pst.bind h fun y H1 Hf1 x1 h1 st1 v rv => ?_)
      obtain ⟨y, s1⟩ := y
      have h1 : Pst g.cl W P σ Hf1 (CE P σ Q) (match s1.get i with | .os kvs => if skey y = true then .ok (.bl (!(sfind kvs y).isSome), s1) else .stuck | _ => .stuck) := h1
      have q : SlOk P H1 Hf1 (s1.get i) (σ.getD i none) := st1.slot i
      cases e3 : s1.get i with
      | os kvs =>
        rw [e3] at h1 q
        have h1 : Pst g.cl W P σ Hf1 (CE P σ Q) (if skey y = true then .ok (.bl (!(sfind kvs y).isSome), s1) else .stuck) := h1
        split at h1
        · rename_i hk
          obtain ⟨p, xs, e5, _, _, _, hp, r, _⟩ := q
          obtain ⟨b, rfl, n1, n2⟩ := skey_ok st1.sub hk rv
          refine ⟨_, σ_get e5, p, b, xs, toNk y, ⟨rfl, rfl, by rw [← hl.w]; exact hp, r.ksh st1.sub, n1, n2⟩, ?_⟩
          rw [sfind_some hk r]
          exact h1 H1 Hf1 (Same.refl _) st1 _ (.bl _)
        · exact h1.elim
      | _ => rw [e3] at h1; exact h1.elim
    exact ⟨A, fun t W P σ H Hf s Q ho hl hn st h => A t W P σ H Hf s _ hl hn st (ct_ce h)⟩
  | .six i k => by
    have A : TrOk g (.six i k) := fun t W P σ H Hf s Q hl hn st h => by
      have h : Pst g.cl W P σ Hf (CE P σ Q) (match s.get i with
        | .os _ => (ev k s).bind fun (y, s) => (match s.get i with | .os kvs => if skey y = true then (match sfind kvs y with | some v => .ok (v, s) | none => .stuck) else .stuck | _ => .stuck)
        | _ => .stuck) := h
      have q := st.slot i
      cases e : s.get i with
      | os kvs0 =>
        rw [e] at h q
        obtain ⟨p, _, e1, _⟩ := q
        refine ⟨_, σ_get e1, ?_⟩
        refine (E_ok g k).1 t W P σ H Hf s _ hl hn st (Pst.bind h fun y H1 Hf1 x1 h1 st1 v rv => ?_)
        obtain ⟨y, s1⟩ := y
        have h1 : Pst g.cl W P σ Hf1 (CE P σ Q) (match s1.get i with | .os kvs => if skey y = true then (match sfind kvs y with | some v => .ok (v, s1) | none => .stuck) else .stuck | _ => .stuck) := h1
        have q : SlOk P H1 Hf1 (s1.get i) (σ.getD i none) := st1.slot i
        cases e3 : s1.get i with
        | os kvs =>
          rw [e3] at h1 q
          have h1 : Pst g.cl W P σ Hf1 (CE P σ Q) (if skey y = true then (match sfind kvs y with | some v => .ok (v, s1) | none => .stuck) else .stuck) := h1
          split at h1
          · rename_i hk
            obtain ⟨p2, xs, e5, _, _, _, hp, r, _⟩ := q
            rw [e1] at e5
            cases e5
            obtain ⟨b, rfl, n1, n2⟩ := skey_ok st1.sub hk rv
            have f := sfind_ok hk xs kvs r
            cases e6 : sfind kvs y with
            | none => rw [e6] at h1; exact h1.elim
            | some dd =>
              rw [e6] at f h1
              obtain ⟨vv, f1, f2⟩ := f
              exact ⟨p, b, xs, toNk y, vv, ⟨rfl, rfl, by rw [← hl.w]; exact hp, r.ksh st1.sub, n1, n2⟩, f1, h1 H1 Hf1 (Same.refl _) st1 _ f2⟩
          · exact h1.elim
        | _ => rw [e3] at h1; exact h1.elim
      | _ => rw [e] at h; exact h.elim
    exact ⟨A, fun t W P σ H Hf s Q ho hl hn st h => by cases ho⟩
  | .slen i => by
    have A : TrOk g (.slen i) := fun t W P σ H Hf s Q hl hn st h => by
      have q := st.slot i
      have h : Pst g.cl W P σ Hf (CE P σ Q) (match s.get i with | .os kvs => .ok (.int kvs.length, s) | _ => .stuck) := h
      cases e : s.get i with
      | os kvs =>
        rw [e] at h q
        obtain ⟨p, xs, e1, _, _, _, hp, r, _⟩ := q
        refine ⟨_, σ_get e1, p, xs, rfl, by rw [← hl.w]; exact hp, ?_⟩
        rw [r.len]
        exact h H Hf (Same.refl _) st _ (.int _)
      | _ => rw [e] at h; exact h.elim
    exact ⟨A, fun t W P σ H Hf s Q ho hl hn st h => by cases ho⟩
  | .slist i => by
    have A : TrOk g (.slist i) := fun t W P σ H Hf s Q hl hn st h => by
      have q := st.slot i
      have h : Pst g.cl W P σ Hf (CE P σ Q) (match s.get i with | .os kvs => .ok (.lst (kvs.map (·.1)), s) | _ => .stuck) := h
      cases e : s.get i with
      | os kvs =>
        rw [e] at h q
        obtain ⟨p, xs, e1, _, _, _, hp, r, z⟩ := q
        refine ⟨_, σ_get e1, p, xs, rfl, by rw [← hl.w]; exact hp, fun l hl' => ?_⟩
        exact h _ _ (same_upd (st.sub.free hl')) (st.allocF hl' (fun _ z => by cases z)) _ (.lst upd_same (Reps.mono (same_upd (st.sub.free hl')) _ _ r.ks) (by rw [List.length_map]; exact z))
      | _ => rw [e] at h; exact h.elim
    exact ⟨A, fun t W P σ H Hf s Q ho hl hn st h => by cases ho⟩
  | .ilist i => by
    have A : TrOk g (.ilist i) := fun t W P σ H Hf s Q hl hn st h => by
      have q := st.slot i
      have h : Pst g.cl W P σ Hf (CE P σ Q) (match s.get i with | .oi kvs => .ok (.lst (kvs.map fun kv => .int kv.1), s) | _ => .stuck) := h
      cases e : s.get i with
      | oi kvs =>
        rw [e] at h q
        obtain ⟨p, kvs', e1, _, _, _, hp, ⟨r1, r2⟩, z⟩ := q
        refine ⟨_, σ_get e1, p, kvs', rfl, hp, fun l hl' => ?_⟩
        have key : ∀ (kvs' : List (L2.Key × V)) (kvs : List (Int × D)), kvs'.map (·.1) = kvs.map (fun kv => Sum.inl kv.1) → Reps P.pd (upd Hf l (.lst (kvs'.map fun kv => kV kv.1))) (kvs'.map fun kv => kV kv.1) (kvs.map fun kv => .int kv.1) := by
          intro kvs' kvs h
          generalize upd Hf l (.lst (kvs'.map fun kv => kV kv.1)) = Hg
          induction kvs' generalizing kvs with
          | nil =>
            cases kvs with
            | nil => exact .nil
            | cons => cases h
          | cons a m ih =>
            cases kvs with
            | nil => cases h
            | cons b kvs =>
              rw [List.map_cons, List.map_cons] at h
              injection h with h1 h2
              rw [List.map_cons, List.map_cons]
              refine .cons ?_ (ih kvs h2)
              rw [h1]
              exact .int _
        exact h _ _ (same_upd (st.sub.free hl')) (st.allocF hl' (fun _ z => by cases z)) _ (.lst upd_same (key kvs' kvs r1) (by rw [List.length_map]; exact z))
      | _ => rw [e] at h; exact h.elim
    exact ⟨A, fun t W P σ H Hf s Q ho hl hn st h => by cases ho⟩
theorem Es_ok (g : Gm) : ∀ es : Es, TrsOk g es ∧ AndOk g es ∧ OrOk g es ∧ AndTOk g es ∧ OrTOk g es
  | .nil => ⟨fun t W P σ H Hf s Q hl hn st h => h H Hf (Same.refl _) st _ .nil, fun t W P σ H Hf s Q hl hn st h => h.elim, fun t W P σ H Hf s Q hl hn st h => h.elim, fun t W P σ H Hf s Q ho hl hn st h => h.elim, fun t W P σ H Hf s Q ho hl hn st h => h.elim⟩
  | .cons e .nil => by
    refine ⟨fun t W P σ H Hf s Q hl hn st h => ?_, fun t W P σ H Hf s Q hl hn st h => (E_ok g e).1 t W P σ H Hf s Q hl hn.1 st h, fun t W P σ H Hf s Q hl hn st h => (E_ok g e).1 t W P σ H Hf s Q hl hn.1 st h,
      fun t W P σ H Hf s Q ho hl hn st h => (E_ok g e).2 t W P σ H Hf s Q (by simpa [okTs] using ho) hl hn.1 st h, fun t W P σ H Hf s Q ho hl hn st h => (E_ok g e).2 t W P σ H Hf s Q (by simpa [okTs] using ho) hl hn.1 st h⟩
    refine (E_ok g e).1 t W P σ H Hf s _ hl hn.1 st (Pst.bind h fun x H1 Hf1 e1 h1 st1 v rv => ?_)
    exact h1 H1 Hf1 (Same.refl _) st1 _ (.cons rv .nil)
  | .cons e (.cons e' r) => by
    have ih := Es_ok g (.cons e' r)
    refine ⟨fun t W P σ H Hf s Q hl hn st h => ?_, fun t W P σ H Hf s Q hl hn st h => ?_, fun t W P σ H Hf s Q hl hn st h => ?_, fun t W P σ H Hf s Q ho hl hn st h => ?_, fun t W P σ H Hf s Q ho hl hn st h => ?_⟩
    · refine (E_ok g e).1 t W P σ H Hf s _ hl hn.1 st (Pst.bind h fun x H1 Hf1 e1 h1 st1 v rv => ?_)
      refine ih.1 t W P σ H1 Hf1 x.2 _ hl hn.2 st1 (Pst.bind h1 fun y H2 Hf2 e2 h2 st2 vs rvs => ?_)
      exact h2 H2 Hf2 (Same.refl _) st2 _ (.cons (rv.mono e2) rvs)
    · refine (E_ok g e).1 t W P σ H Hf s _ hl hn.1 st (Pst.bind h fun x H1 Hf1 e1 h1 st1 v rv => ?_)
      obtain ⟨d, s1⟩ := x
      cases rv with
      | bl b =>
        refine ⟨b, rfl, ?_⟩
        cases b with
        | true =>
          rw [if_pos rfl]
          exact ih.2.1 t W P σ H1 Hf1 s1 Q hl hn.2 st1 h1
        | false =>
          rw [if_neg (by decide)]
          exact h1 H1 Hf1 (Same.refl _) st1 _ (.bl _)
      | _ => exact h1.elim
    · refine (E_ok g e).1 t W P σ H Hf s _ hl hn.1 st (Pst.bind h fun x H1 Hf1 e1 h1 st1 v rv => ?_)
      obtain ⟨d, s1⟩ := x
      cases rv with
      | bl b =>
        refine ⟨b, rfl, ?_⟩
        cases b with
        | true =>
          rw [if_pos rfl]
          exact h1 H1 Hf1 (Same.refl _) st1 _ (.bl _)
        | false =>
          rw [if_neg (by decide)]
          exact ih.2.2.1 t W P σ H1 Hf1 s1 Q hl hn.2 st1 h1
      | _ => exact h1.elim
    · have ho' : okT e = true ∧ okTs (.cons e' r) = true := by
        have : (okT e && okTs (.cons e' r)) = true := ho
        simpa using this
      refine (E_ok g e).2 t W P σ H Hf s _ ho'.1 hl hn.1 st (Pst.bind h fun x H1 Hf1 e1 h1 => ?_)
      obtain ⟨d, s1⟩ := x
      cases d with
      | bl b =>
        intro st1
        cases b with
        | true =>
          rw [if_pos rfl]
          exact ih.2.2.2.1 t W P σ H1 Hf1 s1 Q ho'.2 hl hn.2 st1 h1
        | false =>
          rw [if_neg (by decide)]
          exact h1 H1 Hf1 (Same.refl _) st1
      | _ => exact h1.elim
    · have ho' : okT e = true ∧ okTs (.cons e' r) = true := by
        have : (okT e && okTs (.cons e' r)) = true := ho
        simpa using this
      refine (E_ok g e).2 t W P σ H Hf s _ ho'.1 hl hn.1 st (Pst.bind h fun x H1 Hf1 e1 h1 => ?_)
      obtain ⟨d, s1⟩ := x
      cases d with
      | bl b =>
        intro st1
        cases b with
        | true =>
          rw [if_pos rfl]
          exact h1 H1 Hf1 (Same.refl _) st1
        | false =>
          rw [if_neg (by decide)]
          exact ih.2.2.2.2 t W P σ H1 Hf1 s1 Q ho'.2 hl hn.2 st1 h1
      | _ => exact h1.elim
theorem Oe_ok (g : Gm) : ∀ o : Oe, TroOk g o
  | .none => fun t W P σ H Hf s Q hl hn st h => h H Hf (Same.refl _) st
  | .some e => fun t W P σ H Hf s Q hl hn st h => by
    refine (E_ok g e).1 t W P σ H Hf s _ hl hn st (Pst.bind h fun x H1 Hf1 e1 h1 st1 v rv => ?_)
    obtain ⟨d, s1⟩ := x
    cases rv with
    | int i => exact ⟨i, rfl, h1 H1 Hf1 (Same.refl _) st1⟩
    | _ => exact h1.elim
theorem It_ok (g : Gm) : ∀ it : It, TriOk g it
  | .seq e => fun t W P σ H Hf s R hl hn st h => by
    refine (E_ok g e).1 t W P σ H Hf s _ hl hn st (Pst.bind h fun x H1 Hf1 e1 h1 st1 v rv => ?_)
    obtain ⟨d, s1⟩ := x
    cases rv with
    | lst a1 a2 a3 => exact .inl ⟨_, rfl, ⟨_, SqL.of (st1.sub _ _ a1)⟩, h1 H1 Hf1 (Same.refl _) st1 _ (it_lst a1 a2 a3)⟩
    | tup a1 a2 a3 => exact .inr (.inl ⟨_, rfl, ⟨_, SqT.of (st1.sub _ _ a1)⟩, h1 H1 Hf1 (Same.refl _) st1 _ (it_tup a1 a2 a3)⟩)
    | str a1 a2 => exact .inr (.inr ⟨_, rfl, h1 H1 Hf1 (Same.refl _) st1 _ (it_str a1 a2)⟩)
    | _ => exact h1.elim
  | .rng e => fun t W P σ H Hf s R hl hn st h => by
    refine (E_ok g e).1 t W P σ H Hf s _ hl hn st (Pst.bind h fun x H1 Hf1 e1 h1 st1 v rv => ?_)
    obtain ⟨d, s1⟩ := x
    cases rv with
    | int j =>
      have h1 : Pst g.cl W P σ Hf1 (CI P σ R) ((rngD (.int 0) (.int j)).bind fun l => .ok (l, s1)) := h1
      unfold rngD at h1
      simp only at h1
      split at h1
      · rename_i hz
        refine ⟨j, rfl, by omega, by omega, ?_⟩
        have e : (j - 0).toNat = j.toNat := by rw [Int.sub_zero]
        rw [e] at h1 hz
        exact h1 H1 Hf1 (Same.refl _) st1 _ (it_rng hz.2.2.2.2)
      · exact h1.elim
    | _ => exact h1.elim
  | .rng2 a b => fun t W P σ H Hf s R hl hn st h => by
    refine (E_ok g a).1 t W P σ H Hf s _ hl hn.1 st (Pst.bind h fun x H1 Hf1 e1 h1 st1 v rv => ?_)
    refine (E_ok g b).1 t W P σ H1 Hf1 x.2 _ hl hn.2 st1 (Pst.bind h1 fun y H2 Hf2 e2 h2 st2 w rw' => ?_)
    obtain ⟨d, s1⟩ := x
    obtain ⟨d2, s2⟩ := y
    cases rv with
    | int i =>
      cases rw' with
      | int j =>
        have h2 : Pst g.cl W P σ Hf2 (CI P σ R) ((rngD (.int i) (.int j)).bind fun l => .ok (l, s2)) := h2
        unfold rngD at h2
        simp only at h2
        split at h2
        · rename_i hz
          refine ⟨i, j, rfl, ⟨by omega, by omega, by omega, by omega⟩, ?_⟩
          exact h2 H2 Hf2 (Same.refl _) st2 _ (it_rng hz.2.2.2.2)
        · exact h2.elim
      | _ => exact h2.elim
    | _ => exact h2.elim
  | .enum e => fun t W P σ H Hf s R hl hn st h => by
    refine (E_ok g e).1 t W P σ H Hf s _ hl hn st (Pst.bind h fun x H1 Hf1 e1 h1 st1 v rv => ?_)
    obtain ⟨d, s1⟩ := x
    cases rv with
    | lst a1 a2 a3 => exact .inl ⟨_, _, rfl, SqL.of (st1.sub _ _ a1), h1 H1 Hf1 (Same.refl _) st1 _ (it_enum a1 a2 a3)⟩
    | str a1 a2 => exact .inr ⟨_, rfl, h1 H1 Hf1 (Same.refl _) st1 _ (it_enumT a1 a2)⟩
    | _ => exact h1.elim
  | .ikeys i => fun t W P σ H Hf s R hl hn st h => by
    have h : Pst g.cl W P σ Hf (CI P σ R) (match s.get i with
      | .oi kvs => if s.lk then .stuck else .ok (kvs.map (fun kv => .int kv.1), s.put i (.val (.dii (kvs.map (·.1)) (kvs.map (·.2)))))
      | _ => .stuck) := h
    have q := st.slot i
    cases e : s.get i with
    | oi kvs =>
      rw [e] at h q
      obtain ⟨p, kvs', e1, hf, b, c, d, ⟨r1, r2⟩, z⟩ := q
      cases hk : s.lk with
      | true => rw [hk] at h; exact h.elim
      | false =>
        rw [hk] at h
        have h : Pst g.cl W P σ Hf (CI P σ R) (.ok (kvs.map (fun kv => .int kv.1), s.put i (.val (.dii (kvs.map (·.1)) (kvs.map (·.2)))))) := h
        have h0 : P.H0 p = none := b (st.lk.symm.trans hk)
        refine ⟨_, σ_get e1, p, kvs', rfl, d, fun od => ?_⟩
        have rp : Rep P.pd (upd Hf p (.frz od (.dK kvs'))) (.ref p) (.dii (kvs.map (·.1)) (kvs.map (·.2))) := .dii upd_same (by rw [r1, List.map_map]; rfl) (Reps.mono (same_upd hf) _ _ r2) (by rw [List.length_map]; exact z)
        have st' := st.lockG e rfl e1 hf h0 c d (fun _ z => by cases z) (fun _ z => by cases z) (fun _ z => by cases z) rp
        have hl1 : kvs'.length = kvs.length := by
          have := congrArg List.length r1
          simpa using this
        refine h _ _ (same_upd hf) st' _ ⟨by rw [List.length_map]; exact z, fun j H' Hf' hj e2 e3 => ?_, fun H' Hf' e2 e3 => ?_, fun j H' Hf' x H'' e2 e3 y dd hd => ?_⟩
        · rw [List.length_map] at hj
          exact ⟨e3 _ _ (e2 _ _ upd_same), by omega⟩
        · exact ⟨e3 _ _ (e2 _ _ upd_same), by rw [List.length_map, hl1]; exact Nat.le_refl _⟩
        · obtain ⟨y1, kk, vv, y2, y3⟩ := y
          have q2 : (kvs'.map (·.1))[j]? = some kk := by rw [List.getElem?_map, y2]; rfl
          rw [r1, List.getElem?_map] at q2
          rw [List.getElem?_map] at hd
          cases q3 : kvs[j]? with
          | none => rw [q3] at hd; cases hd
          | some kv =>
            rw [q3] at hd q2
            cases hd
            cases q2
            refine .inl ⟨y1, ?_⟩
            rw [y3]
            exact .int _
    | _ => rw [e] at h; exact h.elim
end
end Fw

set_option Elab.async false
set_option linter.all false
set_option autoImplicit false
set_option maxRecDepth 100000
set_option maxHeartbeats 4000000
/-! FwStm: the readings of statements follow from the evaluator's word. -/
namespace Fw
open PySem L2

def PSt (cl : Nat → Addr) (W : XK) (P : Par) (D : Ends) (Hf : Hp) : RS → Prop
  | .nx s => ∀ σ' H' Hf', Same Hf Hf' → StOk P σ' H' Hf' s → D.nx σ' H'
  | .rt d s => ∀ v σ' H' Hf', Same Hf Hf' → StOk P σ' H' Hf' s → Rep P.pd Hf' v d → D.rt v H'
  | .ex c n k => ∀ σ' H' Hf' s', StOk P σ' H' Hf' s' → s'.dn = n → s'.dk = k → W (.ref (cl c)) none H'
  | .stuck => False
mutual
def ndS (g : Gm) : Bool → Sm → Prop
  | t, .set _ e => nd g t e
  | t, .setLc _ tg it elt => nd g t (.lc tg it elt)
  | t, .setLcf _ tg it c elt => nd g t (.lcf tg it c elt)
  | t, .own _ es => nds g t es
  | t, .asg _ e => nd g t e
  | t, .par i j a b => i ≠ j ∧ ndR g t a ∧ ndR g false b
  | t, .app _ e => nd g t e
  | t, .dset _ _ e => nd g t e
  | t, .expr e => nd g t e
  | t, .ret e => nd g t e
  | t, .iff c a b => okT c = true ∧ nd g t c ∧ ndSs g t a ∧ ndSs g t b
  | _, .rais _ => True
  | t, .whil _ c b => okT c = true ∧ nd g t c ∧ ndSs g t b
  | t, .for_ _ it b => ndi g t it ∧ ndSs g t b
  | _, .dnew _ => True
  | t, .dput _ k e => nd g t k ∧ nd g t e
  | t, .iput _ k e => nd g t k ∧ nd g t e
  | t, .sput _ k e => nd g t k ∧ nd g t e
  | _, .any => True
  | t, .sputp _ k _ a b => nd g t k ∧ nd g t a ∧ nd g t b
  | t, .iputp _ k _ a b => nd g t k ∧ nd g t a ∧ nd g t b
  | _, .nsi i j => i ≠ j
  | _, .nix i j _ => i ≠ j
  | t, .par3 i j l a b c => (i ≠ j ∧ i ≠ l ∧ j ≠ l) ∧ nd g t a ∧ nd g t b ∧ nd g t c
def ndSs (g : Gm) : Bool → Ss → Prop
  | _, .nil => True
  | t, .cons a r => ndS g t a ∧ ndSs g t r
def ndR (g : Gm) : Bool → Ri → Prop
  | t, .ex e => nd g t e
  | t, .nl es => nds g t es
  | _, .nd => True
  | _, .ni => True
  | _, .ns => True
end
section
variable {g : Gm} {W : XK} {P : Par} {σ : St} {H Hf : Hp} {s : S} {D : Ends}
theorem PSt.weak {r : RS} {Hf1 : Hp} (h : PSt g.cl W P D Hf r) (e : Same Hf Hf1) : PSt g.cl W P D Hf1 r := by
  cases r with
  | nx s => exact fun σ' H' Hf' e' => h σ' H' Hf' (e.trans e')
  | rt d s => exact fun v σ' H' Hf' e' => h v σ' H' Hf' (e.trans e')
  | ex c n k => exact h
  | stuck => exact h
/-- from a statement's word to an expression's -/
theorem PSt.then {α : Type} {r : Res α} {f : α → RS} {C : α → Hp → Hp → Prop} (h : PSt g.cl W P D Hf (r.then f)) (k : ∀ a H1 Hf1, Same Hf Hf1 → PSt g.cl W P D Hf1 (f a) → C a H1 Hf1) : Pst g.cl W P σ Hf C r := by
  cases r with
  | ok a => exact fun H' Hf' e' => k a H' Hf' e' (PSt.weak (r := f a) h e')
  | exc c n k => exact fun H' Hf' s' st e1 e2 => h σ H' Hf' s' st e1 e2
  | stuck => exact h
theorem PSt.seq {r : RS} {f : S → RS} (h : PSt g.cl W P D Hf (r.then f)) (N : St → Hp → Prop) (k : ∀ s σ1 H1 Hf1, Same Hf Hf1 → StOk P σ1 H1 Hf1 s → PSt g.cl W P D Hf1 (f s) → N σ1 H1) : PSt g.cl W P { D with nx := N } Hf r := by
  cases r with
  | nx s => exact fun σ' H' Hf' e' st => k s σ' H' Hf' e' st (PSt.weak (r := f s) h e')
  | rt d s => exact h
  | ex c n k => exact h
  | stuck => exact h
end
theorem StOk.dset {P : Par} {σ : St} {H Hf : Hp} {s t : S} {n k : Int} (st : StOk P σ H Hf s) (e : t.env = s.env) (e1 : t.dn = n) (e2 : t.dk = k) (e3 : t.lk = s.lk) : StOk P σ (upd H P.pd (.lst [.int n, .int k])) Hf t := by
  have g : ∀ j, t.get j = s.get j := fun j => by unfold S.get; rw [e]
  refine ⟨fun a o q h => by rw [upd_ne h]; exact st.keep a o q h, fun b u q => ?_, st.fix, st.sub0, by rw [upd_same, e1, e2], st.dicef, fun q hq => ?_, fun j => ?_, fun a b p h1 h2 => ?_, by rw [e]; exact st.len, e3.trans st.lk, st.nt⟩
  · have hne : b ≠ P.pd := fun z => by rw [z, st.dicef] at q; cases q
    rw [upd_ne hne]
    exact st.sub b u q
  · obtain ⟨ps, a1, a2, a3⟩ := st.tabs q hq
    have hne : q.1 ≠ P.pd := fun z => by rw [z, st.dice] at a1; cases a1
    refine ⟨ps, by rw [upd_ne hne]; exact a1, a2, fun pos cv hc => ?_⟩
    obtain ⟨c, z1, z2⟩ := a3 pos cv hc
    refine ⟨c, z1, ?_⟩
    have hnc : c ≠ P.pd := fun z => by
      rw [z, st.dice] at z2
      unfold LamX.CodeO at z2
      cases z2
    rw [upd_ne hnc]
    exact z2
  · rw [g]
    exact (st.slot j).mono (fun p vs a _ c d _ => ⟨by rw [upd_ne c]; exact d, a⟩) (Same.refl _)
  · rw [g] at h1 h2
    exact st.dist a b p h1 h2
theorem dput_ok {pd : Addr} {Hf : Hp} (k : Int × Int) {v : V} {d : Fw.D} (r : Rep pd Hf v d) (kvs' : List (List L2.Key × V)) (kvs : List ((Int × Int) × Fw.D)) (h1 : kvs'.map (·.1) = kvs.map (fun kv => kL kv.1)) (h2 : Reps pd Hf (kvs'.map (·.2)) (kvs.map (·.2))) :
    (putK kvs' (kL k) v).map (·.1) = (dput kvs k d).map (fun kv => kL kv.1) ∧ Reps pd Hf ((putK kvs' (kL k) v).map (·.2)) ((dput kvs k d).map (·.2)) ∧ (dput kvs k d).length ≤ kvs.length + 1 := by
  have ea : (kvs'.any fun kv => decide (kv.1 = kL k)) = kvs.any fun kv => decide (kv.1 = k) := by
    clear h2 r
    induction kvs' generalizing kvs with
    | nil => cases kvs with | nil => rfl | cons => cases h1
    | cons a l ih =>
      cases kvs with
      | nil => cases h1
      | cons b m =>
        rw [List.map_cons, List.map_cons] at h1
        injection h1 with e1 e2
        rw [List.any_cons, List.any_cons, ih m e2]
        congr 1
        by_cases q : b.1 = k
        · rw [decide_eq_true q, decide_eq_true (by rw [e1, q])]
        · rw [decide_eq_false q, decide_eq_false (fun z => q (kL_inj (by rw [← e1, z])))]
  unfold putK dput
  rw [ea]
  split
  · refine ⟨?_, ?_, by rw [List.length_map]; omega⟩
    · rw [List.map_map, List.map_map]
      have f1 : ((fun x : List L2.Key × V => x.1) ∘ fun kv => if kv.1 = kL k then (kv.1, v) else kv) = fun kv => kv.1 := by
        funext kv
        show (if kv.1 = kL k then (kv.1, v) else kv).1 = kv.1
        split <;> rfl
      have f2 : ((fun kv : (Int × Int) × Fw.D => kL kv.1) ∘ fun kv => if kv.1 = k then (kv.1, d) else kv) = fun kv => kL kv.1 := by
        funext kv
        show kL (if kv.1 = k then (kv.1, d) else kv).1 = kL kv.1
        split <;> rfl
      rw [f1, f2]
      exact h1
    · rename_i hany
      clear ea hany
      induction kvs' generalizing kvs with
      | nil => cases kvs with | nil => exact .nil | cons => cases h1
      | cons a l ih =>
        cases kvs with
        | nil => cases h1
        | cons b m =>
          rw [List.map_cons, List.map_cons] at h1 h2
          injection h1 with e1 e2
          cases h2 with
          | cons r1 r2 =>
            refine .cons ?_ (ih m e2 r2)
            show Rep pd Hf (if a.1 = kL k then (a.1, v) else a).2 (if b.1 = k then (b.1, d) else b).2
            by_cases q : b.1 = k
            · rw [if_pos q, if_pos (by rw [e1, q])]
              exact r
            · rw [if_neg q, if_neg (fun z => q (kL_inj (by rw [← e1, z])))]
              exact r1
  · refine ⟨?_, ?_, by rw [List.length_append]; exact Nat.le_refl _⟩
    · rw [List.map_append, List.map_append, h1]
      rfl
    · rw [List.map_append, List.map_append]
      exact h2.snoc r
def SmOk (g : Gm) (m : Sm) : Prop := ∀ (t : Bool) (W : XK) (P : Par) (σ : St) (H Hf : Hp) (s : S) (D : Ends), Lk g P t → ndS g t m → P.lk = false → StOk P σ H Hf s → PSt g.cl W P D Hf (evS m s) → trS g m W D σ H
def SsOk (g : Gm) (m : Ss) : Prop := ∀ (t : Bool) (W : XK) (P : Par) (σ : St) (H Hf : Hp) (s : S) (D : Ends), Lk g P t → ndSs g t m → P.lk = false → StOk P σ H Hf s → PSt g.cl W P D Hf (evSs m s) → trSs g m W D σ H
section
variable {g : Gm} {W : XK} {P : Par} {σ : St} {H Hf : Hp} {s : S} {D : Ends}
/-- a new list of one's own -/
theorem newl_ok {es : Es} {t : Bool} {Q : VK} (hl : Lk g P t) (hn : nds g t es) (st : StOk P σ H Hf s)
    (h : Pst g.cl W P σ Hf (fun (a : List Fw.D × S) H1 Hf1 => a.1.length ≤ SL ∧ (StOk P σ H1 Hf1 a.2 → ∀ p vs, Reps P.pd Hf1 vs a.1 → H1 p = none → Q (.ref p) (upd H1 p (.lst vs)))) (evs es s)) : tLst (trs g es W) σ H Q := by
  refine (Es_ok g es).1 t W P σ H Hf s _ hl hn st ?_
  cases q : evs es s with
  | ok a =>
    rw [q] at h
    intro H1 Hf1 e1 st1 vs rvs
    obtain ⟨h1, h2⟩ := h H1 Hf1 e1
    exact ⟨by rw [rvs.length, SL_eq]; exact h1, fun p hp => h2 st1 p vs rvs hp⟩
  | exc c n k => rw [q] at h; exact h
  | stuck => rw [q] at h; exact h
/-- a list or a dict that stands apart, of no slot yet -/
structure Hid (P : Par) (H Hf : Hp) (p : Addr) (ho : HO) (x : Sl) : Prop where
  at_ : H p = some ho
  fr : Hf p = none
  h0 : P.H0 p = none
  pd : p ≠ P.pd
  sl : SlOk P H Hf x (some (.ref p))
  ow : ∀ q, OwnAt x (some (.ref p)) q → p = q
theorem Hid.on {P : Par} {H Hf H' Hf' : Hp} {p : Addr} {ho : HO} {x : Sl} (h : Hid P H Hf p ho x) (h1 : H' p = some ho) (h2 : Hf' p = none) (e : Same Hf Hf') : SlOk P H' Hf' x (some (.ref p)) :=
  h.sl.mono (fun q o _ _ _ hq ow => by
    have e1 := h.ow q ow
    subst e1
    rw [h.at_] at hq
    cases hq
    exact ⟨h1, h2⟩) e
theorem own_eq {p q : Addr} (h : (some (V.ref p) : Option V) = some (.ref q)) : p = q := by
  injection h with z
  injection z
theorem h0_none (st : StOk P σ H Hf s) {p : Addr} (hp : H p = none) : P.H0 p = none := by
  cases q : P.H0 p with
  | none => rfl
  | some o =>
    by_cases z : p = P.pd
    · rw [z, st.dice] at hp; cases hp
    · rw [st.keep p o q z] at hp; cases hp
/-- the promise widened by one thing that is to stay -/
def Par.with (P : Par) (p : Addr) (o : HO) : Par := { P with H0 := upd P.H0 p o }
theorem StOk.with {p : Addr} {o : HO} (st : StOk P σ H Hf s) (hp : H p = some o) (h0 : P.H0 p = none) (hf : Hf p = none) (hn : ∀ j, ¬ OwnAt (s.get j) (σ.getD j none) p) : StOk (P.with p o) σ H Hf s := by
  have hf0 : P.Hf0 p = none := st.sub0.free hf
  refine ⟨fun a u q n => ?_, st.sub, fun a u q => ?_, st.sub0, st.dice, st.dicef, st.tabs, fun j => ?_, st.dist, st.len, st.lk, st.nt⟩
  · have q : upd P.H0 p o a = some u := q
    by_cases ha : a = p
    · subst ha
      rw [upd_same] at q
      cases q
      exact hp
    · rw [upd_ne ha] at q
      exact st.keep a u q n
  · have q : upd P.H0 p o a = some u := q
    by_cases ha : a = p
    · subst ha
      rw [hf]
      exact hf0.symm
    · rw [upd_ne ha] at q
      exact st.fix a u q
  · have h := st.slot j
    have hnj := hn j
    cases e : s.get j with
    | un => trivial
    | val d => rw [e] at h; exact h
    | ol ds =>
      rw [e] at h hnj
      obtain ⟨q, vs, e1, a, b, c, d, r, z⟩ := h
      refine ⟨q, vs, e1, a, fun hk => ?_, c, d, r, z⟩
      show upd P.H0 p o q = none
      rw [upd_ne (fun z => hnj (by rw [← z]; exact e1))]
      exact b hk
    | od ds =>
      rw [e] at h hnj
      obtain ⟨q, vs, e1, a, b, c, d, r, z⟩ := h
      refine ⟨q, vs, e1, a, fun hk => ?_, c, d, r, z⟩
      show upd P.H0 p o q = none
      rw [upd_ne (fun z => hnj (by rw [← z]; exact e1))]
      exact b hk
    | oi ds =>
      rw [e] at h hnj
      obtain ⟨q, vs, e1, a, b, c, d, r, z⟩ := h
      refine ⟨q, vs, e1, a, fun hk => ?_, c, d, r, z⟩
      show upd P.H0 p o q = none
      rw [upd_ne (fun z => hnj (by rw [← z]; exact e1))]
      exact b hk
    | os ds =>
      rw [e] at h hnj
      obtain ⟨q, vs, e1, a, b, c, d, r, z⟩ := h
      refine ⟨q, vs, e1, a, fun hk => ?_, c, d, r, z⟩
      show upd P.H0 p o q = none
      rw [upd_ne (fun z => hnj (by rw [← z]; exact e1))]
      exact b hk
theorem StOk.without {p : Addr} {o : HO} (st : StOk (P.with p o) σ H Hf s) (h0 : P.H0 p = none) (hpd : p ≠ P.pd) (hf0 : P.Hf0 p = none) : StOk P σ H Hf s ∧ H p = some o ∧ Hf p = none ∧ (P.lk = false → ∀ j, ¬ OwnAt (s.get j) (σ.getD j none) p) := by
  have hp : H p = some o := st.keep p o (show upd P.H0 p o p = some o from upd_same) hpd
  have hf : Hf p = none := (st.fix p o (show upd P.H0 p o p = some o from upd_same)).trans hf0
  have h0' : ∀ a u, P.H0 a = some u → a ≠ p := fun a u q z => by rw [z, h0] at q; cases q
  refine ⟨⟨fun a u q n => st.keep a u (show upd P.H0 p o a = some u by rw [upd_ne (h0' a u q)]; exact q) n, st.sub, fun a u q => st.fix a u (show upd P.H0 p o a = some u by rw [upd_ne (h0' a u q)]; exact q), st.sub0, st.dice, st.dicef, st.tabs, fun j => ?_, st.dist, st.len, st.lk, st.nt⟩, hp, hf, fun hk j ow => ?_⟩
  · have h := st.slot j
    cases e : s.get j with
    | un => trivial
    | val d => rw [e] at h; exact h
    | ol ds =>
      rw [e] at h
      obtain ⟨q, vs, e1, a, b, c, d, r, z⟩ := h
      refine ⟨q, vs, e1, a, fun hk => ?_, c, d, r, z⟩
      have b' : upd P.H0 p o q = none := b hk
      by_cases hq : q = p
      · subst hq
        rw [upd_same] at b'
        cases b'
      · rw [upd_ne hq] at b'
        exact b'
    | od ds =>
      rw [e] at h
      obtain ⟨q, vs, e1, a, b, c, d, r, z⟩ := h
      refine ⟨q, vs, e1, a, fun hk => ?_, c, d, r, z⟩
      have b' : upd P.H0 p o q = none := b hk
      by_cases hq : q = p
      · subst hq
        rw [upd_same] at b'
        cases b'
      · rw [upd_ne hq] at b'
        exact b'
    | oi ds =>
      rw [e] at h
      obtain ⟨q, vs, e1, a, b, c, d, r, z⟩ := h
      refine ⟨q, vs, e1, a, fun hk => ?_, c, d, r, z⟩
      have b' : upd P.H0 p o q = none := b hk
      by_cases hq : q = p
      · subst hq
        rw [upd_same] at b'
        cases b'
      · rw [upd_ne hq] at b'
        exact b'
    | os ds =>
      rw [e] at h
      obtain ⟨q, vs, e1, a, b, c, d, r, z⟩ := h
      refine ⟨q, vs, e1, a, fun hk => ?_, c, d, r, z⟩
      have b' : upd P.H0 p o q = none := b hk
      by_cases hq : q = p
      · subst hq
        rw [upd_same] at b'
        cases b'
      · rw [upd_ne hq] at b'
        exact b'
  · have h := st.slot j
    cases e : s.get j with
    | un => rw [e] at ow; exact ow
    | val d => rw [e] at ow; exact ow
    | ol ds =>
      rw [e] at h ow
      obtain ⟨q, vs, e1, a, b, c, d, r, z⟩ := h
      have ez : (some (V.ref q) : Option V) = some (.ref p) := e1.symm.trans ow
      injection ez with ez
      injection ez with ez
      have b' : upd P.H0 p o q = none := b hk
      rw [ez, upd_same] at b'
      cases b'
    | od ds =>
      rw [e] at h ow
      obtain ⟨q, vs, e1, a, b, c, d, r, z⟩ := h
      have ez : (some (V.ref q) : Option V) = some (.ref p) := e1.symm.trans ow
      injection ez with ez
      injection ez with ez
      have b' : upd P.H0 p o q = none := b hk
      rw [ez, upd_same] at b'
      cases b'
    | oi ds =>
      rw [e] at h ow
      obtain ⟨q, vs, e1, a, b, c, d, r, z⟩ := h
      have ez : (some (V.ref q) : Option V) = some (.ref p) := e1.symm.trans ow
      injection ez with ez
      injection ez with ez
      have b' : upd P.H0 p o q = none := b hk
      rw [ez, upd_same] at b'
      cases b'
    | os ds =>
      rw [e] at h ow
      obtain ⟨q, vs, e1, a, b, c, d, r, z⟩ := h
      have ez : (some (V.ref q) : Option V) = some (.ref p) := e1.symm.trans ow
      injection ez with ez
      injection ez with ez
      have b' : upd P.H0 p o q = none := b hk
      rw [ez, upd_same] at b'
      cases b'
/-- a right side: frozen data, or a list that stands apart -/
def CR (P : Par) (σ : St) (Q : VK) : Sl × S → Hp → Hp → Prop := fun a H1 Hf1 => match a.1 with
  | .val d => StOk P σ H1 Hf1 a.2 → ∀ v, Rep P.pd Hf1 v d → Q v H1
  | .un => True
  | x => StOk P σ H1 Hf1 a.2 → ∀ p ho, Hid P H1 Hf1 p ho x → (∀ j, ¬ OwnAt (a.2.get j) (σ.getD j none) p) → Q (.ref p) H1
theorem ri_ok {r : Ri} {t : Bool} {Q : VK} (hl : Lk g P t) (hn : ndR g t r) (st : StOk P σ H Hf s) (h : Pst g.cl W P σ Hf (CR P σ Q) (evRi r s)) : trRi g r W σ H Q := by
  cases r with
  | ex e =>
    refine (E_ok g e).1 t W P σ H Hf s _ hl hn st ?_
    have h : Pst g.cl W P σ Hf (CR P σ Q) ((ev e s).bind fun (x, s) => .ok (Sl.val x, s)) := h
    exact Pst.bind h fun x H1 Hf1 e1 h1 st1 v rv => h1 H1 Hf1 (Same.refl _) st1 v rv
  | nl es =>
    refine newl_ok (W := W) hl hn st ?_
    have h : Pst g.cl W P σ Hf (CR P σ Q) ((evs es s).bind fun (xs, s) => if xs.length ≤ SL then .ok (Sl.ol xs, s) else .stuck) := h
    refine Pst.bind h fun x H1 Hf1 e1 h1 => ?_
    obtain ⟨xs, s1⟩ := x
    have h1 : Pst g.cl W P σ Hf1 (CR P σ Q) (if xs.length ≤ SL then .ok (Sl.ol xs, s1) else .stuck) := h1
    split at h1
    · rename_i hz
      refine ⟨hz, fun st1 p vs rvs hp => ?_⟩
      have hpd : p ≠ P.pd := fun z => by rw [z, st1.dice] at hp; cases hp
      exact h1 (upd H1 p (.lst vs)) Hf1 (Same.refl _) (st1.alloc hp) p _ ⟨upd_same, st1.sub.free hp, h0_none st1 hp, hpd, ⟨p, vs, rfl, st1.sub.free hp, fun _ => h0_none st1 hp, hpd, upd_same, rvs, hz⟩, fun q => own_eq⟩ (st1.noOwn hp)
    · exact h1.elim
  | nd =>
    have h : Pst g.cl W P σ Hf (CR P σ Q) (.ok (Sl.od [], s)) := h
    intro p hp
    have hpd : p ≠ P.pd := fun z => by rw [z, st.dice] at hp; cases hp
    exact h (upd H p (.dT [])) Hf (Same.refl _) (st.alloc hp) p _ ⟨upd_same, st.sub.free hp, h0_none st hp, hpd, ⟨p, [], rfl, st.sub.free hp, fun _ => h0_none st hp, hpd, upd_same, ⟨rfl, .nil⟩, Nat.zero_le _⟩, fun q => own_eq⟩ (st.noOwn hp)
  | ni =>
    have h : Pst g.cl W P σ Hf (CR P σ Q) (.ok (Sl.oi [], s)) := h
    intro p hp
    have hpd : p ≠ P.pd := fun z => by rw [z, st.dice] at hp; cases hp
    exact h (upd H p (.dK [])) Hf (Same.refl _) (st.alloc hp) p _ ⟨upd_same, st.sub.free hp, h0_none st hp, hpd, ⟨p, [], rfl, st.sub.free hp, fun _ => h0_none st hp, hpd, upd_same, ⟨rfl, .nil⟩, Nat.zero_le _⟩, fun q => own_eq⟩ (st.noOwn hp)
  | ns =>
    have h : Pst g.cl W P σ Hf (CR P σ Q) (.ok (Sl.os [], s)) := h
    intro p hp
    rw [← hl.w]
    have hpd : p ≠ P.pd := fun z => by rw [z, st.dice] at hp; cases hp
    exact h (upd H p (SdO P.w p [])) Hf (Same.refl _) (st.alloc hp) p _ ⟨upd_same, st.sub.free hp, h0_none st hp, hpd, ⟨p, [], rfl, st.sub.free hp, fun _ => h0_none st hp, hpd, upd_same, ⟨rfl, (fun _ z => by cases z), .nil, .nil⟩, Nat.zero_le _⟩, fun q => own_eq⟩ (st.noOwn hp)
theorem PSt.thenP {α : Type} {r : Res α} {f : α → RS} {P' : Par} {C : α → Hp → Hp → Prop} (h : PSt g.cl W P D Hf (r.then f)) (hP : ∀ H' Hf' s', StOk P' σ H' Hf' s' → StOk P σ H' Hf' s') (k : ∀ a H1 Hf1, Same Hf Hf1 → PSt g.cl W P D Hf1 (f a) → C a H1 Hf1) : Pst g.cl W P' σ Hf C r := by
  cases r with
  | ok a => exact fun H' Hf' e' => k a H' Hf' e' (PSt.weak (r := f a) h e')
  | exc c n k => exact fun H' Hf' s' st e1 e2 => h σ H' Hf' s' (hP H' Hf' s' st) e1 e2
  | stuck => exact h
theorem own_put_val {i c : Nat} {d : Fw.D} {v : V} {p : Addr} (hl : s.env.length = σ.length) (hno : ∀ j, ¬ OwnAt (s.get j) (σ.getD j none) p) : ¬ OwnAt ((s.put i (.val d)).get c) ((σ.set i (some v)).getD c none) p := fun ow => by
  by_cases hi : i = c
  · subst hi
    by_cases hil : i < s.env.length
    · rw [get_put_same hil] at ow
      exact ow
    · rw [put_out hil, List.set_eq_of_length_le (by omega)] at ow
      exact hno i ow
  · rw [get_put_ne hi, σ_set_ne hi] at ow
    exact hno c ow
theorem par_own {i j : Nat} {b : Ri} {x : Sl} {s1 : S} {H1 Hf1 : Hp} {p : Addr} {ho : HO} (hw : P.w = g.w) (hk : P.lk = false) (nb : ndR g false b) (h1 : PSt g.cl W P D Hf1 ((evRi b s1).then fun (y, s) => .nx ((s.put i x).put j y)))
    (st1 : StOk P σ H1 Hf1 s1) (hid : Hid P H1 Hf1 p ho x) (hno : ∀ j, ¬ OwnAt (s1.get j) (σ.getD j none) p) : trRi g b W σ H1 fun w H2 => ∃ v u, [V.ref p, w] = [v, u] ∧ D.nx ((σ.set i (some v)).set j (some u)) H2 := by
  have hf0 : P.Hf0 p = none := st1.sub0.free hid.fr
  have st1' := st1.with hid.at_ hid.h0 hid.fr hno
  have back : ∀ H' Hf' s', StOk (P.with p ho) σ H' Hf' s' → StOk P σ H' Hf' s' := fun H' Hf' s' z => (z.without hid.h0 hid.pd hf0).1
  refine ri_ok (W := W) (t := false) (P := P.with p ho) ⟨hw, fun z => by cases z⟩ nb st1' (PSt.thenP h1 back fun y H2 Hf2 e2 h2 => ?_)
  obtain ⟨y, s2⟩ := y
  have h2 : PSt g.cl W P D Hf2 (.nx ((s2.put i x).put j y)) := h2
  have own : ∀ (st2 : StOk (P.with p ho) σ H2 Hf2 s2) (q : Addr) (ho2 : HO), Hid (P.with p ho) H2 Hf2 q ho2 y → (∀ j, ¬ OwnAt (s2.get j) (σ.getD j none) q) → ∃ v u, [V.ref p, V.ref q] = [v, u] ∧ D.nx ((σ.set i (some v)).set j (some u)) H2 := fun st2 q ho2 hid2 hno2 => by
    obtain ⟨st3, hp, hf, hno3⟩ := st2.without hid.h0 hid.pd hf0
    have hqp : q ≠ p := fun z => by
      have z2 : upd P.H0 p ho q = none := hid2.h0
      rw [z, upd_same] at z2
      cases z2
    have h0q : P.H0 q = none := by
      have z2 : upd P.H0 p ho q = none := hid2.h0
      rw [upd_ne hqp] at z2
      exact z2
    have sl2 : SlOk P H2 Hf2 y (some (.ref q)) := by
      have z := hid2.sl
      cases y with
      | un => trivial
      | val d => exact z
      | ol ds =>
        obtain ⟨q', vs, e1, a, b, c, d, r⟩ := z
        have := own_eq e1
        subst this
        exact ⟨q, vs, rfl, a, fun _ => h0q, c, d, r⟩
      | od ds =>
        obtain ⟨q', vs, e1, a, b, c, d, r⟩ := z
        have := own_eq e1
        subst this
        exact ⟨q, vs, rfl, a, fun _ => h0q, c, d, r⟩
      | oi ds =>
        obtain ⟨q', vs, e1, a, b, c, d, r⟩ := z
        have := own_eq e1
        subst this
        exact ⟨q, vs, rfl, a, fun _ => h0q, c, d, r⟩
      | os ds =>
        obtain ⟨q', vs, e1, a, b, c, d, r⟩ := z
        have := own_eq e1
        subst this
        exact ⟨q, vs, rfl, a, fun _ => h0q, c, d, r⟩
    refine ⟨_, _, rfl, h2 _ _ _ (Same.refl _) ((st3.setOwnG (i := i) (hid.on hp hf e2) hid.ow fun c _ => hno3 hk c).setOwnG (i := j) sl2 hid2.ow fun c hc ow => ?_)⟩
    by_cases hi : i = c
    · subst hi
      by_cases hil : i < s2.env.length
      · rw [get_put_same hil, σ_set_same (by rw [← st3.len]; exact hil)] at ow
        exact hqp (hid.ow q ow).symm
      · have e3 : s2.env.length = σ.length := st3.len
        rw [put_out hil, List.set_eq_of_length_le (by omega)] at ow
        exact hno2 i ow
    · rw [get_put_ne hi, σ_set_ne hi] at ow
      exact hno2 c ow
  cases y with
  | val d2 =>
    intro st2 w rw'
    obtain ⟨st3, hp, hf, hno3⟩ := st2.without hid.h0 hid.pd hf0
    exact ⟨_, w, rfl, h2 _ _ _ (Same.refl _) ((st3.setOwnG (i := i) (hid.on hp hf e2) hid.ow fun c _ => hno3 hk c).set rw')⟩
  | ol ds2 => exact own
  | od ds2 => exact own
  | oi ds2 => exact own
  | os ds2 => exact own
  | un => trivial
theorem par_ok {i j : Nat} {a b : Ri} {t : Bool} (hl : Lk g P t) (hn : ndS g t (.par i j a b)) (hk : P.lk = false) (st : StOk P σ H Hf s) (h : PSt g.cl W P D Hf (evS (.par i j a b) s)) : trS g (.par i j a b) W D σ H := by
  obtain ⟨hij, na, nb⟩ := hn
  unfold trS
  unfold evS at h
  refine ri_ok (W := W) hl na st (PSt.then (σ := σ) h fun x H1 Hf1 e1 h1 => ?_)
  obtain ⟨x, s1⟩ := x
  have h1 : PSt g.cl W P D Hf1 ((evRi b s1).then fun (y, s) => .nx ((s.put i x).put j y)) := h1
  cases x with
  | val d =>
    intro st1 v rv
    refine ri_ok (W := W) (t := false) hl.no nb st1 (PSt.then (σ := σ) h1 fun y H2 Hf2 e2 h2 => ?_)
    obtain ⟨y, s2⟩ := y
    have h2 : PSt g.cl W P D Hf2 (.nx ((s2.put i (.val d)).put j y)) := h2
    have own : ∀ (st2 : StOk P σ H2 Hf2 s2) (q : Addr) (ho2 : HO), Hid P H2 Hf2 q ho2 y → (∀ j, ¬ OwnAt (s2.get j) (σ.getD j none) q) → ∃ v' u, [v, V.ref q] = [v', u] ∧ D.nx ((σ.set i (some v')).set j (some u)) H2 := fun st2 q ho2 hid hno =>
      ⟨v, _, rfl, h2 _ _ _ (Same.refl _) ((st2.set (i := i) (rv.mono e2)).setOwnG hid.sl hid.ow fun c hc => own_put_val st2.len hno)⟩
    cases y with
    | val d2 =>
      intro st2 w rw'
      exact ⟨v, w, rfl, h2 _ _ _ (Same.refl _) ((st2.set (rv.mono e2)).set rw')⟩
    | ol ds => exact own
    | od ds => exact own
    | oi ds => exact own
    | os ds => exact own
    | un => trivial
  | ol ds => exact fun st1 p ho hid hno => par_own hl.w hk nb h1 st1 hid hno
  | od ds => exact fun st1 p ho hid hno => par_own hl.w hk nb h1 st1 hid hno
  | oi ds => exact fun st1 p ho hid hno => par_own hl.w hk nb h1 st1 hid hno
  | os ds => exact fun st1 p ho hid hno => par_own hl.w hk nb h1 st1 hid hno
  | un => trivial
/-- for: f the body's word at an item -/
theorem for_ok {tg : Tg} {tb : TS} {f : S → RS} {ds : List Fw.D} {J : L2.It}
    (hb : ∀ (σ : St) (H Hf : Hp) (s : S) (D' : Ends), StOk P σ H Hf s → PSt g.cl W P D' Hf (f s) → tb D' σ H)
    (st : StOk P σ H Hf s) (hJ : ItOk P.pd J ds Hf) (h : PSt g.cl W P D Hf (forL (fun d s => match bindT tg d s with | some s => f s | none => .stuck) ds s)) :
    ∃ Wv : Nat → Nat → St → Hp → Prop, (∃ m, Wv 0 m σ H) ∧ ∀ i m σ H, Wv i m σ H →
      (J.stop i H ∧ D.nx σ H) ∨ (J.go i H ∧ ∃ N : St → Hp → Prop, (∀ σ' H', N σ' H' → ∃ m', m' < m ∧ Wv (i + 1) m' σ' H') ∧ ∀ x H', J.yld i H x H' → trg g.K tg x σ H' fun σ2 H2 => tb { D with nx := N, ct := N, bk := D.nx } σ2 H2) := by
  refine ⟨fun i m σ' H' => m + i = ds.length ∧ ∃ (Hf' : Hp) (s' : S), StOk P σ' H' Hf' s' ∧ Same Hf Hf' ∧ PSt g.cl W P D Hf' (forL (fun d s => match bindT tg d s with | some s => f s | none => .stuck) (ds.drop i) s'), ⟨ds.length, rfl, Hf, s, st, Same.refl _, h⟩, ?_⟩
  rintro i m σ1 H1 ⟨hm, Hf1, s1, st1, e1, h1⟩
  by_cases hi : i < ds.length
  · right
    refine ⟨hJ.go i H1 Hf1 hi e1 st1.sub, fun σ' H' => (m - 1) + (i + 1) = ds.length ∧ ∃ (Hf' : Hp) (s' : S), StOk P σ' H' Hf' s' ∧ Same Hf Hf' ∧ PSt g.cl W P D Hf' (forL (fun d s => match bindT tg d s with | some s => f s | none => .stuck) (ds.drop (i + 1)) s'), fun σ' H' q => ⟨m - 1, by omega, q⟩, ?_⟩
    intro x H2 y
    have hd : ds[i]? = some ds[i] := by simp [hi]
    have key : ∃ Hf2, StOk P σ1 H2 Hf2 s1 ∧ Same Hf1 Hf2 ∧ Rep P.pd Hf2 x ds[i] := by
      rcases hJ.yld i H1 Hf1 x H2 e1 st1.sub y _ hd with ⟨e2, rx⟩ | ⟨T, xs, e2, e3, rx⟩
      · subst e2
        exact ⟨Hf1, st1, Same.refl _, rx⟩
      · subst e3
        exact ⟨_, st1.allocF e2 (fun _ z => by cases z), same_upd (st1.sub.free e2), rx⟩
    obtain ⟨Hf2, st2, e2, rx⟩ := key
    have ed : ds.drop i = ds[i] :: ds.drop (i + 1) := List.drop_eq_getElem_cons hi
    rw [ed] at h1
    have h2 := h1.weak e2
    have h2 : PSt g.cl W P D Hf2 ((match bindT tg ds[i] s1 with | some s => f s | none => .stuck).then fun s' => forL (fun d s => match bindT tg d s with | some s => f s | none => .stuck) (ds.drop (i + 1)) s') := h2
    cases hbd : bindT tg ds[i] s1 with
    | none =>
      rw [hbd] at h2
      exact h2.elim
    | some s2 =>
      rw [hbd] at h2
      refine bind_ok' g.K tg ds[i] s1 s2 σ1 x _ st2 rx hbd fun σ2 st3 w3 => ?_
      refine hb σ2 H2 Hf2 s2 _ st3 ?_
      exact PSt.seq (D := { D with ct := _, bk := D.nx }) (show PSt g.cl W P { D with ct := _, bk := D.nx } Hf2 ((f s2).then fun s' => forL (fun d s => match bindT tg d s with | some s => f s | none => .stuck) (ds.drop (i + 1)) s') from h2) _ fun s3 σ3 H3 Hf3 e3 st4 h3 => ⟨by omega, Hf3, s3, st4, (e1.trans e2).trans e3, h3⟩
  · left
    have ei : i = ds.length := by omega
    subst ei
    rw [List.drop_length] at h1
    exact ⟨hJ.stop H1 Hf1 e1 st1.sub, h1 σ1 H1 Hf1 (Same.refl _) st1⟩
theorem while_ok {tc : TT} {tb : TS} {c : S → Res (Fw.D × S)} {f : S → RS} {n : Nat}
    (hc : ∀ (σ : St) (H Hf : Hp) (s : S) (Q : Bool → Hp → Prop), StOk P σ H Hf s → Pst g.cl W P σ Hf (CT P σ Q) (c s) → tc σ H Q)
    (hb : ∀ (σ : St) (H Hf : Hp) (s : S) (D' : Ends), StOk P σ H Hf s → PSt g.cl W P D' Hf (f s) → tb D' σ H)
    (st : StOk P σ H Hf s) (h : PSt g.cl W P D Hf (whL c f n s)) : tWhile tc tb D σ H := by
  refine ⟨fun m σ' H' => ∃ (Hf' : Hp) (s' : S), StOk P σ' H' Hf' s' ∧ PSt g.cl W P D Hf' (whL c f m s'), ⟨n, Hf, s, st, h⟩, ?_⟩
  rintro m σ1 H1 ⟨Hf1, s1, st1, h1⟩
  cases m with
  | zero => exact h1.elim
  | succ m =>
    have h1 : PSt g.cl W P D Hf1 ((c s1).then fun (x, s') => match x with
      | .bl true => (f s').then fun s'' => whL c f m s''
      | .bl false => .nx s'
      | _ => .stuck) := h1
    refine hc σ1 H1 Hf1 s1 _ st1 (PSt.then h1 fun x H2 Hf2 e2 h2 => ?_)
    obtain ⟨d, s2⟩ := x
    cases d with
    | bl b =>
      intro st2
      cases b with
      | false =>
        rw [if_neg (by decide)]
        exact h2 σ1 H2 Hf2 (Same.refl _) st2
      | true =>
        rw [if_pos rfl]
        refine ⟨fun σ' H' => ∃ (Hf' : Hp) (s' : S), StOk P σ' H' Hf' s' ∧ PSt g.cl W P D Hf' (whL c f m s'), fun σ' H' q => ⟨m, Nat.lt_succ_self _, q⟩, ?_⟩
        refine hb σ1 H2 Hf2 s2 _ st2 ?_
        exact PSt.seq (D := { D with ct := _, bk := D.nx }) (show PSt g.cl W P { D with ct := _, bk := D.nx } Hf2 ((f s2).then fun s'' => whL c f m s'') from h2) _ fun s3 σ3 H3 Hf3 e3 st4 h3 => ⟨Hf3, s3, st4, h3⟩
    | _ => exact h2.elim
end
mutual
theorem Sm_ok (g : Gm) : ∀ m : Sm, SmOk g m
  | .set i e => fun t W P σ H Hf s D hl hn hk st h =>
    (E_ok g e).1 t W P σ H Hf s _ hl hn st (PSt.then h fun x H1 Hf1 e1 h1 st1 v rv => h1 _ _ _ (Same.refl _) (st1.set rv))
  | .setLc i tg it elt => fun t W P σ H Hf s D hl hn hk st h =>
    (E_ok g (.lc tg it elt)).1 t W P σ H Hf s _ hl hn st (PSt.then h fun x H1 Hf1 e1 h1 st1 v rv => h1 _ _ _ (Same.refl _) (st1.set rv))
  | .setLcf i tg it c elt => fun t W P σ H Hf s D hl hn hk st h =>
    (E_ok g (.lcf tg it c elt)).1 t W P σ H Hf s _ hl hn st (PSt.then h fun x H1 Hf1 e1 h1 st1 v rv => h1 _ _ _ (Same.refl _) (st1.set rv))
  | .own i es => fun t W P σ H Hf s D hl hn hk st h => by
    show tLst (trs g es W) σ H (fun x H1 => gName i x σ H1 D.nx)
    refine newl_ok (W := W) hl hn st (PSt.then h fun x H1 Hf1 e1 h1 => ?_)
    obtain ⟨xs, s1⟩ := x
    have h1 : PSt g.cl W P D Hf1 (if xs.length ≤ SL then .nx (s1.put i (.ol xs)) else .stuck) := h1
    split at h1
    · rename_i hz
      refine ⟨hz, fun st1 p vs rvs hp => ?_⟩
      have hno := st1.noOwn hp
      exact h1 _ _ _ (Same.refl _) ((st1.alloc hp).setOwn upd_same (st1.sub.free hp) (fun _ => h0_none st1 hp) (fun z => by rw [z, st1.dice] at hp; cases hp) rvs hz fun j _ => hno j)
    · exact h1.elim
  | .asg tg e => fun t W P σ H Hf s D hl hn hk st h => by
    refine (E_ok g e).1 t W P σ H Hf s _ hl hn st (PSt.then h fun x H1 Hf1 e1 h1 st1 v rv => ?_)
    obtain ⟨d, s1⟩ := x
    have h1 : PSt g.cl W P D Hf1 (match bindT tg d s1 with | some s => .nx s | none => .stuck) := h1
    cases q : bindT tg d s1 with
    | none => rw [q] at h1; exact h1.elim
    | some s2 =>
      rw [q] at h1
      exact bind_ok' g.K tg d s1 s2 σ v _ st1 rv q fun σ2 st2 _ => h1 σ2 H1 Hf1 (Same.refl _) st2
  | .par i j a b => fun t W P σ H Hf s D hl hn hk st h => par_ok hl hn hk st h
  | .par3 i j l a b c => fun t W P σ H Hf s D hl hn hk st h => by
    refine (E_ok g a).1 t W P σ H Hf s _ hl hn.2.1 st (PSt.then (σ := σ) h fun x H1 Hf1 e1 h1 st1 v rv => ?_)
    refine (E_ok g b).1 t W P σ H1 Hf1 x.2 _ hl hn.2.2.1 st1 (PSt.then (σ := σ) h1 fun y H2 Hf2 e2 h2 st2 w rw' => ?_)
    refine (E_ok g c).1 t W P σ H2 Hf2 y.2 _ hl hn.2.2.2 st2 (PSt.then (σ := σ) h2 fun z H3 Hf3 e3 h3 st3 u ru => ?_)
    exact ⟨v, w, u, rfl, h3 _ _ _ (Same.refl _) (((st3.set (rv.mono (e2.trans e3))).set (rw'.mono e3)).set ru)⟩
  | .app i e => fun t W P σ H Hf s D hl hn hk st h => by
    have q := st.slot i
    have h : PSt g.cl W P D Hf (match s.get i with
      | .ol _ => (ev e s).then fun (x, s) => (match s.get i with
        | .ol l => if l.length < SL then .nx (s.put i (.ol (l ++ [x]))) else .stuck
        | _ => .stuck)
      | _ => .stuck) := h
    cases e1 : s.get i with
    | ol ds =>
      rw [e1] at h q
      obtain ⟨p, vs, ep, _, _, _, hp, _⟩ := q
      refine ⟨_, σ_get ep, .inl ⟨rfl, _, SqL.of hp⟩, (E_ok g e).1 t W P σ H Hf s _ hl hn st (PSt.then h fun x H1 Hf1 e2 h1 st1 v rv => ?_)⟩
      obtain ⟨d, s1⟩ := x
      have q2 : SlOk P H1 Hf1 (s1.get i) (σ.getD i none) := st1.slot i
      have h1 : PSt g.cl W P D Hf1 (match s1.get i with
        | .ol l => if l.length < SL then .nx (s1.put i (.ol (l ++ [d]))) else .stuck
        | _ => .stuck) := h1
      cases e3 : s1.get i with
      | ol l =>
        rw [e3] at h1 q2
        obtain ⟨p2, vs2, e4, hf, h0, hpd, hp2, r2, z2⟩ := q2
        rw [ep] at e4
        cases e4
        have h1 : PSt g.cl W P D Hf1 (if l.length < SL then .nx (s1.put i (.ol (l ++ [d]))) else .stuck) := h1
        split at h1
        · rename_i hz
          refine ⟨p, vs2, v, rfl, rfl, hp2, by rw [r2.length, SL_eq]; exact hz, ?_⟩
          exact h1 _ _ _ (Same.refl _) (StOk.write (s := s1) st1 e3 ep hf (h0 hk) hpd hp2 (r2.snoc rv) (by rw [List.length_append, List.length_singleton]; exact hz))
        · exact h1.elim
      | _ => rw [e3] at h1; exact h1.elim
    | _ => rw [e1] at h; exact h.elim
  | .dset i j e => fun t W P σ H Hf s D hl hn hk st h => by
    refine (E_ok g e).1 t W P σ H Hf s _ hl hn st (PSt.then h fun x H1 Hf1 e1 h1 st1 v rv => ?_)
    obtain ⟨d, s1⟩ := x
    have h1 : PSt g.cl W P D Hf1 (match (generalizing := false) s1.get i, d with
      | .val .dice, .int n => if j = 0 then .nx { s1 with dn := n } else if j = 1 then .nx { s1 with dk := n } else .stuck
      | _, _ => .stuck) := h1
    have q : SlOk P H1 Hf1 (s1.get i) (σ.getD i none) := st1.slot i
    cases e2 : s1.get i with
    | val dd =>
      rw [e2] at h1 q
      obtain ⟨w, e3, rw'⟩ := q
      cases dd with
      | dice =>
        cases rw'
        cases rv with
        | int n =>
          have h1 : PSt g.cl W P D Hf1 (if j = 0 then .nx { s1 with dn := n } else if j = 1 then .nx { s1 with dk := n } else .stuck) := h1
          by_cases j0 : j = 0
          · subst j0
            rw [if_pos rfl] at h1
            refine ⟨_, σ_get e3, _, _, _, 0, rfl, rfl, st1.dice, rfl, ?_⟩
            exact h1 _ _ _ (Same.refl _) (StOk.dset (s := s1) (n := n) (k := s1.dk) st1 rfl rfl rfl rfl)
          · rw [if_neg j0] at h1
            by_cases j1 : j = 1
            · subst j1
              rw [if_pos rfl] at h1
              refine ⟨_, σ_get e3, _, _, _, 1, rfl, rfl, st1.dice, rfl, ?_⟩
              exact h1 _ _ _ (Same.refl _) (StOk.dset (s := s1) (n := s1.dn) (k := n) st1 rfl rfl rfl rfl)
            · rw [if_neg j1] at h1
              exact h1.elim
        | _ => exact h1.elim
      | _ => exact h1.elim
    | _ => rw [e2] at h1; exact h1.elim
  | .expr e => fun t W P σ H Hf s D hl hn hk st h =>
    (E_ok g e).1 t W P σ H Hf s _ hl hn st (PSt.then h fun x H1 Hf1 e1 h1 st1 v rv => h1 _ _ _ (Same.refl _) st1)
  | .ret e => fun t W P σ H Hf s D hl hn hk st h =>
    (E_ok g e).1 t W P σ H Hf s _ hl hn st (PSt.then h fun x H1 Hf1 e1 h1 st1 v rv => h1 v σ H1 Hf1 (Same.refl _) st1 rv)
  | .iff c a b => fun t W P σ H Hf s D hl hn hk st h => by
    refine (E_ok g c).2 t W P σ H Hf s _ hn.1 hl hn.2.1 st (PSt.then h fun x H1 Hf1 e1 h1 => ?_)
    obtain ⟨d, s1⟩ := x
    cases d with
    | bl k =>
      intro st1
      cases k with
      | true =>
        rw [if_pos rfl]
        exact Ss_ok g a t W P σ H1 Hf1 s1 D hl hn.2.2.1 hk st1 h1
      | false =>
        rw [if_neg (by decide)]
        exact Ss_ok g b t W P σ H1 Hf1 s1 D hl hn.2.2.2 hk st1 h1
    | _ => exact h1.elim
  | .rais c => fun t W P σ H Hf s D hl hn hk st h => h σ H Hf s st rfl rfl
  | .whil n c b => fun t W P σ H Hf s D hl hn hk st h =>
    while_ok (fun σ H Hf s Q st h => (E_ok g c).2 t W P σ H Hf s Q hn.1 hl hn.2.1 st h) (fun σ H Hf s D' st h => Ss_ok g b t W P σ H Hf s D' hl hn.2.2 hk st h) st h
  | .for_ tg it b => fun t W P σ H Hf s D hl hn hk st h => by
    refine It_ok g it t W P σ H Hf s _ hl hn.1 st (PSt.then h fun x H1 Hf1 e1 h1 st1 J hJ => ?_)
    obtain ⟨ds, s1⟩ := x
    exact for_ok (W := W) (tg := tg) (f := evSs b) (fun σ H Hf s D' st h => Ss_ok g b t W P σ H Hf s D' hl hn.2 hk st h) st1 hJ h1
  | .dnew i => fun t W P σ H Hf s D hl hn hk st h => by
    intro p hp
    have hpd : p ≠ P.pd := fun z => by rw [z, st.dice] at hp; cases hp
    have hno := st.noOwn hp
    exact h _ _ _ (Same.refl _) ((st.alloc hp).setOwnG ⟨p, [], rfl, st.sub.free hp, fun _ => h0_none st hp, hpd, upd_same, ⟨rfl, .nil⟩, Nat.zero_le _⟩ (fun q => own_eq) fun j _ => hno j)
  | .dput i k e => fun t W P σ H Hf s D hl hn hk st h => by
    refine (E_ok g e).1 t W P σ H Hf s _ hl hn.2 st (PSt.then h fun x H1 Hf1 e1 h1 st1 v rv => ?_)
    obtain ⟨d, s1⟩ := x
    have q := st1.slot i
    have h1 : PSt g.cl W P D Hf1 (match s1.get i with
      | .od _ => (ev k s1).then fun (y, s) => (match s.get i, keyD y with
        | .od kvs, some kk => if kvs.length < SL then .nx (s.put i (.od (dput kvs kk d))) else .stuck
        | _, _ => .stuck)
      | _ => .stuck) := h1
    have q : SlOk P H1 Hf1 (s1.get i) (σ.getD i none) := q
    cases e2 : s1.get i with
    | od ds =>
      rw [e2] at h1 q
      obtain ⟨p, _, ep, _⟩ := q
      refine ⟨_, σ_get ep, (E_ok g k).1 t W P σ H1 Hf1 s1 _ hl hn.1 st1 (PSt.then h1 fun y H2 Hf2 e3 h2 st2 w rw' => ?_)⟩
      obtain ⟨y, s2⟩ := y
      have h2 : PSt g.cl W P D Hf2 (match s2.get i, keyD y with
        | .od kvs, some kk => if kvs.length < SL then .nx (s2.put i (.od (dput kvs kk d))) else .stuck
        | _, _ => .stuck) := h2
      have q2 : SlOk P H2 Hf2 (s2.get i) (σ.getD i none) := st2.slot i
      cases e4 : s2.get i with
      | od kvs =>
        cases e5 : keyD y with
        | none => rw [e4, e5] at h2; exact h2.elim
        | some kk =>
          rw [e4, e5] at h2
          rw [e4] at q2
          obtain ⟨p2, kvs', ep2, hf, h0, hpd, hp2, ⟨r1, r2⟩, z2⟩ := q2
          rw [ep] at ep2
          have epp := own_eq ep2
          subst epp
          have h2 : PSt g.cl W P D Hf2 (if kvs.length < SL then .nx (s2.put i (.od (dput kvs kk d))) else .stuck) := h2
          split at h2
          · rename_i hz
            obtain ⟨b, rfl, hb⟩ := key_ok rw' e5
            have hl' : kvs'.length = kvs.length := by
              have := congrArg List.length r1
              simpa using this
            refine ⟨p, _, rfl, DPut.t hp2 (st2.sub _ _ hb) (by rw [hl', SL_eq]; exact hz), ?_⟩
            obtain ⟨t1, t2, t3⟩ := dput_ok kk (Rep.mono e3 _ _ rv) kvs' kvs r1 r2
            exact h2 _ _ _ (Same.refl _) (StOk.writeG (s := s2) st2 e4 rfl ep hf (h0 hk) hpd hp2 (fun _ z => by cases z) (fun _ z => by cases z) ⟨p, _, rfl, hf, fun _ => h0 hk, hpd, upd_same, ⟨t1, t2⟩, Nat.le_trans t3 hz⟩ (fun q => own_eq))
          · exact h2.elim
      | _ => rw [e4] at h2; exact h2.elim
    | _ => rw [e2] at h1; exact h1.elim
  | .iput i k e => fun t W P σ H Hf s D hl hn hk st h => by
    refine (E_ok g e).1 t W P σ H Hf s _ hl hn.2 st (PSt.then h fun x H1 Hf1 e1 h1 st1 v rv => ?_)
    obtain ⟨d, s1⟩ := x
    have q := st1.slot i
    have h1 : PSt g.cl W P D Hf1 (match s1.get i with
      | .oi _ => (ev k s1).then fun (y, s) => (match s.get i, y with
        | .oi kvs, .int j => if kvs.length < SL then .nx (s.put i (.oi (iputL kvs j d))) else .stuck
        | _, _ => .stuck)
      | _ => .stuck) := h1
    have q : SlOk P H1 Hf1 (s1.get i) (σ.getD i none) := q
    cases e2 : s1.get i with
    | oi ds =>
      rw [e2] at h1 q
      obtain ⟨p, _, ep, _⟩ := q
      refine ⟨_, σ_get ep, (E_ok g k).1 t W P σ H1 Hf1 s1 _ hl hn.1 st1 (PSt.then h1 fun y H2 Hf2 e3 h2 st2 w rw' => ?_)⟩
      obtain ⟨y, s2⟩ := y
      have h2 : PSt g.cl W P D Hf2 (match (generalizing := false) s2.get i, y with
        | .oi kvs, .int j => if kvs.length < SL then .nx (s2.put i (.oi (iputL kvs j d))) else .stuck
        | _, _ => .stuck) := h2
      have q2 : SlOk P H2 Hf2 (s2.get i) (σ.getD i none) := st2.slot i
      cases e4 : s2.get i with
      | oi kvs =>
        rw [e4] at h2 q2
        cases rw' with
        | int j =>
          obtain ⟨p2, kvs', ep2, hf, h0, hpd, hp2, ⟨r1, r2⟩, z2⟩ := q2
          rw [ep] at ep2
          have epp := own_eq ep2
          subst epp
          have h2 : PSt g.cl W P D Hf2 (if kvs.length < SL then .nx (s2.put i (.oi (iputL kvs j d))) else .stuck) := h2
          split at h2
          · rename_i hz
            have hl' : kvs'.length = kvs.length := by
              have := congrArg List.length r1
              simpa using this
            obtain ⟨t1, t2, t3⟩ := iput_ok j (Rep.mono e3 _ _ rv) kvs' kvs r1 r2
            refine ⟨p, _, rfl, .inl ⟨kvs', Sum.inl j, hp2, rfl, by rw [hl', SL_eq]; exact hz, rfl⟩, ?_⟩
            exact h2 _ _ _ (Same.refl _) (StOk.writeG (s := s2) st2 e4 rfl ep hf (h0 hk) hpd hp2 (fun _ z => by cases z) (fun _ z => by cases z) ⟨p, _, rfl, hf, fun _ => h0 hk, hpd, upd_same, ⟨t1, t2⟩, Nat.le_trans t3 hz⟩ (fun q => own_eq))
          · exact h2.elim
        | _ => exact h2.elim
      | _ => rw [e4] at h2; exact h2.elim
    | _ => rw [e2] at h1; exact h1.elim
  | .sput i k e => fun t W P σ H Hf s D hl hn hk st h => by
    refine (E_ok g e).1 t W P σ H Hf s _ hl hn.2 st (PSt.then h fun x H1 Hf1 e1 h1 st1 v rv => ?_)
    obtain ⟨d, s1⟩ := x
    have q := st1.slot i
    have h1 : PSt g.cl W P D Hf1 (match s1.get i with
      | .os _ => (ev k s1).then fun (y, s) => (match s.get i with
        | .os kvs => if kvs.length < SL ∧ skey y = true then .nx (s.put i (.os (sputL kvs y d))) else .stuck
        | _ => .stuck)
      | _ => .stuck) := h1
    have q : SlOk P H1 Hf1 (s1.get i) (σ.getD i none) := q
    cases e2 : s1.get i with
    | os ds =>
      rw [e2] at h1 q
      obtain ⟨p, _, ep, _⟩ := q
      refine ⟨_, σ_get ep, (E_ok g k).1 t W P σ H1 Hf1 s1 _ hl hn.1 st1 (PSt.then h1 fun y H2 Hf2 e3 h2 st2 w rw' => ?_)⟩
      obtain ⟨y, s2⟩ := y
      have h2 : PSt g.cl W P D Hf2 (match s2.get i with
        | .os kvs => if kvs.length < SL ∧ skey y = true then .nx (s2.put i (.os (sputL kvs y d))) else .stuck
        | _ => .stuck) := h2
      have q2 : SlOk P H2 Hf2 (s2.get i) (σ.getD i none) := st2.slot i
      cases e4 : s2.get i with
      | os kvs =>
        rw [e4] at h2 q2
        obtain ⟨p2, xs, ep2, hf, h0, hpd, hp2, r, z2⟩ := q2
        rw [ep] at ep2
        have epp := own_eq ep2
        subst epp
        have h2 : PSt g.cl W P D Hf2 (if kvs.length < SL ∧ skey y = true then .nx (s2.put i (.os (sputL kvs y d))) else .stuck) := h2
        split at h2
        · rename_i hz
          obtain ⟨b, rfl, n1, n2⟩ := skey_ok st2.sub hz.2 rw'
          refine ⟨p, b, xs, toNk y, ⟨rfl, rfl, by rw [← hl.w]; exact hp2, r.ksh st2.sub, n1, n2⟩, by rw [r.len, SL_eq]; exact hz.1, ?_⟩
          rw [← hl.w]
          exact h2 _ _ _ (Same.refl _) (StOk.writeG (s := s2) st2 e4 rfl ep hf (h0 hk) hpd hp2 SdO_ntbl (fun _ => SdO_code) ⟨p, _, rfl, hf, fun _ => h0 hk, hpd, upd_same, sput_ok hz.2 rw' (Rep.mono e3 _ _ rv) r, Nat.le_trans (sputL_len _ _ _) hz.1⟩ (fun q => own_eq))
        · exact h2.elim
      | _ => rw [e4] at h2; exact h2.elim
    | _ => rw [e2] at h1; exact h1.elim
  | .sputp i k j a b => fun t W P σ H Hf s D hl hn hk st h => by
    refine (E_ok g a).1 t W P σ H Hf s _ hl hn.2.1 st (PSt.then (σ := σ) h fun x H1 Hf1 e1 h1 st1 v rv => ?_)
    refine (E_ok g b).1 t W P σ H1 Hf1 x.2 _ hl hn.2.2 st1 (PSt.then (σ := σ) h1 fun y H2 Hf2 e2 h2 st2 w rw' => ?_)
    refine ⟨show 2 ≤ sizeLine by decide, fun r hr => ⟨r, _, rfl, .inl (.inl upd_same), rfl, _, _, rfl, ?_⟩⟩
    obtain ⟨x, s1⟩ := x
    obtain ⟨y, s2⟩ := y
    have st3 := st2.alloc (o := .tup [v, w]) hr
    have h2 : PSt g.cl W P D Hf2 (match s2.get i with
      | .os _ => (ev k s2).then fun (z, s) => (match s.get i with
        | .os kvs => if kvs.length < SL ∧ skey z = true then .nx ((s.put i (.os (sputL kvs z x))).put j (.val y)) else .stuck
        | _ => .stuck)
      | _ => .stuck) := h2
    have q : SlOk P _ Hf2 (s2.get i) (σ.getD i none) := st3.slot i
    cases e4 : s2.get i with
    | os ds =>
      rw [e4] at h2 q
      obtain ⟨p, _, ep, _⟩ := q
      refine ⟨_, σ_get ep, (E_ok g k).1 t W P σ _ Hf2 s2 _ hl hn.1 st3 (PSt.then (σ := σ) h2 fun z H4 Hf4 e5 h4 st4 u ru => ?_)⟩
      obtain ⟨z, s4⟩ := z
      have h4 : PSt g.cl W P D Hf4 (match s4.get i with
        | .os kvs => if kvs.length < SL ∧ skey z = true then .nx ((s4.put i (.os (sputL kvs z x))).put j (.val y)) else .stuck
        | _ => .stuck) := h4
      have q2 : SlOk P H4 Hf4 (s4.get i) (σ.getD i none) := st4.slot i
      cases e6 : s4.get i with
      | os kvs =>
        rw [e6] at h4 q2
        obtain ⟨p2, xs, ep2, hf, h0, hpd, hp2, r2, z2⟩ := q2
        rw [ep] at ep2
        have epp := own_eq ep2
        subst epp
        have h4 : PSt g.cl W P D Hf4 (if kvs.length < SL ∧ skey z = true then .nx ((s4.put i (.os (sputL kvs z x))).put j (.val y)) else .stuck) := h4
        split at h4
        · rename_i hz
          obtain ⟨b', rfl, n1, n2⟩ := skey_ok st4.sub hz.2 ru
          refine ⟨p, b', xs, toNk z, ⟨rfl, rfl, by rw [← hl.w]; exact hp2, r2.ksh st4.sub, n1, n2⟩, by rw [r2.len, SL_eq]; exact hz.1, _, _, rfl, rfl, ?_⟩
          rw [← hl.w]
          exact h4 _ _ _ (Same.refl _) ((StOk.writeG (s := s4) (y := .os (sputL kvs z x)) (ho' := SdO P.w p (stS xs (toNk z) b' v)) st4 e6 rfl ep hf (h0 hk) hpd hp2 SdO_ntbl (fun _ => SdO_code) ⟨p, _, rfl, hf, fun _ => h0 hk, hpd, upd_same, sput_ok hz.2 ru (Rep.mono (e2.trans e5) _ _ rv) r2, Nat.le_trans (sputL_len _ _ _) hz.1⟩ (fun q => own_eq)).set (Rep.mono e5 _ _ rw'))
        · exact h4.elim
      | _ => rw [e6] at h4; exact h4.elim
    | _ => rw [e4] at h2; exact h2.elim
  | .iputp i k j a b => fun t W P σ H Hf s D hl hn hk st h => by
    refine (E_ok g a).1 t W P σ H Hf s _ hl hn.2.1 st (PSt.then (σ := σ) h fun x H1 Hf1 e1 h1 st1 v rv => ?_)
    refine (E_ok g b).1 t W P σ H1 Hf1 x.2 _ hl hn.2.2 st1 (PSt.then (σ := σ) h1 fun y H2 Hf2 e2 h2 st2 w rw' => ?_)
    refine ⟨show 2 ≤ sizeLine by decide, fun r hr => ⟨r, _, rfl, .inl (.inl upd_same), rfl, _, _, rfl, ?_⟩⟩
    obtain ⟨x, s1⟩ := x
    obtain ⟨y, s2⟩ := y
    have st3 := st2.alloc (o := .tup [v, w]) hr
    have h2 : PSt g.cl W P D Hf2 (match s2.get i with
      | .oi _ => (ev k s2).then fun (z, s) => (match s.get i, z with
        | .oi kvs, .int m => if kvs.length < SL then .nx ((s.put i (.oi (iputL kvs m x))).put j (.val y)) else .stuck
        | _, _ => .stuck)
      | _ => .stuck) := h2
    have q : SlOk P _ Hf2 (s2.get i) (σ.getD i none) := st3.slot i
    cases e4 : s2.get i with
    | oi ds =>
      rw [e4] at h2 q
      obtain ⟨p, _, ep, _⟩ := q
      refine ⟨_, σ_get ep, (E_ok g k).1 t W P σ _ Hf2 s2 _ hl hn.1 st3 (PSt.then (σ := σ) h2 fun z H4 Hf4 e5 h4 st4 u ru => ?_)⟩
      obtain ⟨z, s4⟩ := z
      have h4 : PSt g.cl W P D Hf4 (match (generalizing := false) s4.get i, z with
        | .oi kvs, .int m => if kvs.length < SL then .nx ((s4.put i (.oi (iputL kvs m x))).put j (.val y)) else .stuck
        | _, _ => .stuck) := h4
      have q2 : SlOk P H4 Hf4 (s4.get i) (σ.getD i none) := st4.slot i
      cases e6 : s4.get i with
      | oi kvs =>
        rw [e6] at h4 q2
        cases ru with
        | int m =>
          obtain ⟨p2, kvs', ep2, hf, h0, hpd, hp2, ⟨r1, r2⟩, z2⟩ := q2
          rw [ep] at ep2
          have epp := own_eq ep2
          subst epp
          have h4 : PSt g.cl W P D Hf4 (if kvs.length < SL then .nx ((s4.put i (.oi (iputL kvs m x))).put j (.val y)) else .stuck) := h4
          split at h4
          · rename_i hz
            have hl' : kvs'.length = kvs.length := by
              have := congrArg List.length r1
              simpa using this
            obtain ⟨t1, t2, t3⟩ := iput_ok m (Rep.mono (e2.trans e5) _ _ rv) kvs' kvs r1 r2
            refine ⟨p, _, rfl, .inl ⟨kvs', Sum.inl m, hp2, rfl, by rw [hl', SL_eq]; exact hz, rfl⟩, _, _, rfl, rfl, ?_⟩
            exact h4 _ _ _ (Same.refl _) ((StOk.writeG (s := s4) (y := .oi (iputL kvs m x)) (ho' := .dK (putK kvs' (Sum.inl m) v)) st4 e6 rfl ep hf (h0 hk) hpd hp2 (fun _ z => by cases z) (fun _ z => by cases z) ⟨p, _, rfl, hf, fun _ => h0 hk, hpd, upd_same, ⟨t1, t2⟩, Nat.le_trans t3 hz⟩ (fun q => own_eq)).set (Rep.mono e5 _ _ rw'))
          · exact h4.elim
        | _ => exact h4.elim
      | _ => rw [e6] at h4; exact h4.elim
    | _ => rw [e4] at h2; exact h2.elim
  | .nsi i j => fun t W P σ H Hf s D hl hn hk st h => by
    have hn : i ≠ j := hn
    intro p hp q hq
    refine ⟨show 2 ≤ sizeLine by decide, fun r hr => ⟨r, _, rfl, .inl (.inl upd_same), rfl, _, _, rfl, _, _, rfl, rfl, ?_⟩⟩
    rw [← hl.w] at *
    have hpd : p ≠ P.pd := fun z => by rw [z, st.dice] at hp; cases hp
    have st1 := st.alloc (o := SdO P.w p []) hp
    have hqd : q ≠ P.pd := fun z => by rw [z, st1.dice] at hq; cases hq
    have st2 := st1.alloc (o := .dK []) hq
    have st3 := st2.alloc (o := .tup [.ref p, .ref q]) hr
    have hqp : q ≠ p := fun z => by rw [z, upd_same] at hq; cases hq
    have hrq : q ≠ r := fun z => by rw [← z, upd_same] at hr; cases hr
    have hrp : p ≠ r := fun z => by rw [← z, upd_ne (Ne.symm hqp), upd_same] at hr; cases hr
    have hp3 : upd (upd (upd H p (SdO P.w p [])) q (.dK [])) r (.tup [.ref p, .ref q]) p = some (SdO P.w p []) := by rw [upd_ne hrp, upd_ne (Ne.symm hqp), upd_same]
    have hq3 : upd (upd (upd H p (SdO P.w p [])) q (.dK [])) r (.tup [.ref p, .ref q]) q = some (.dK []) := by rw [upd_ne hrq, upd_same]
    have hnp := st.noOwn hp
    have hnq := st1.noOwn hq
    have st4 := st3.setOwnG (i := i) (x := .os []) (p := p) ⟨p, [], rfl, st.sub.free hp, fun _ => h0_none st hp, hpd, hp3, ⟨rfl, (fun _ z => by cases z), .nil, .nil⟩, Nat.zero_le _⟩ (fun q => own_eq) (fun c _ => hnp c)
    refine h _ _ _ (Same.refl _) (st4.setOwnG (i := j) (x := .oi []) (p := q) ⟨q, [], rfl, st1.sub.free hq, fun _ => h0_none st1 hq, hqd, hq3, ⟨rfl, .nil⟩, Nat.zero_le _⟩ (fun q => own_eq) fun c hc ow => ?_)
    by_cases hi : i = c
    · subst hi
      by_cases hil : i < s.env.length
      · rw [get_put_same hil, σ_set_same (by rw [← st.len]; exact hil)] at ow
        exact hqp (own_eq ow).symm
      · have e3 : s.env.length = σ.length := st.len
        rw [put_out hil, List.set_eq_of_length_le (by omega)] at ow
        exact hnq i ow
    · rw [get_put_ne hi, σ_set_ne hi] at ow
      exact hnq c ow
  | .nix i j n => fun t W P σ H Hf s D hl hn hk st h => by
    have hn : i ≠ j := hn
    intro p hp
    refine ⟨show 2 ≤ sizeLine by decide, fun r hr => ⟨r, _, rfl, .inl (.inl upd_same), rfl, _, _, rfl, _, _, rfl, rfl, ?_⟩⟩
    have hpd : p ≠ P.pd := fun z => by rw [z, st.dice] at hp; cases hp
    have st1 := st.alloc (o := .dK []) hp
    have st3 := st1.alloc (o := .tup [.ref p, .int n]) hr
    have hrp : p ≠ r := fun z => by rw [← z, upd_same] at hr; cases hr
    have hp3 : upd (upd H p (.dK [])) r (.tup [.ref p, .int n]) p = some (.dK []) := by rw [upd_ne hrp, upd_same]
    have hnp := st.noOwn hp
    have st4 := st3.setOwnG (i := i) (x := .oi []) (p := p) ⟨p, [], rfl, st.sub.free hp, fun _ => h0_none st hp, hpd, hp3, ⟨rfl, .nil⟩, Nat.zero_le _⟩ (fun q => own_eq) (fun c _ => hnp c)
    exact h _ _ _ (Same.refl _) (st4.set (.int n))
  | .any => fun t W P σ H Hf s D hl hn hk st h => h.elim
theorem Ss_ok (g : Gm) : ∀ m : Ss, SsOk g m
  | .nil => fun t W P σ H Hf s D hl hn hk st h => h σ H Hf (Same.refl _) st
  | .cons a r => fun t W P σ H Hf s D hl hn hk st h =>
    Sm_ok g a t W P σ H Hf s _ hl hn.1 hk st (PSt.seq h _ fun s1 σ1 H1 Hf1 e1 st1 h1 => Ss_ok g r t W P σ1 H1 Hf1 s1 D hl hn.2 hk st1 h1)
end
end Fw

set_option Elab.async false
set_option linter.all false
set_option autoImplicit false
set_option maxRecDepth 100000
set_option maxHeartbeats 4000000
/-! FwOpR: the operators' rules for the joined readings. -/
namespace Fw
open PySem L2
section
variable {X : Cx}
theorem orR {f : Value → Value → Sem Value} {r r' : R2} (h : OpR X f r) (h' : OpR X f r') : OpR X f (fun x y H Q => r x y H Q ∨ r' x y H Q) :=
  fun pins s σ H x y v u Q I rx ry q => q.elim (h pins s σ H x y v u Q I rx ry) (h' pins s σ H x y v u Q I rx ry)
theorem foldl_app (c : Array Nat) : ∀ (k : Nat) (acc : Array Nat), ((List.replicate k c).foldl (· ++ ·) acc).toList = acc.toList ++ (List.replicate k c.toList).flatten
  | 0, acc => by simp
  | k + 1, acc => by
    rw [List.replicate_succ, List.foldl_cons, foldl_app c k, List.replicate_succ, List.flatten_cons, Array.toList_append, List.append_assoc]
theorem mul_S (a : Tx) {k : Int} (h0 : 0 ≤ k) : Txt.mul (SX.S a) k = SX.S (List.replicate k.toNat a).flatten := by
  unfold Txt.mul
  split
  · have e : k.toNat = 0 := by omega
    rw [e]
    rfl
  · split
    · rename_i h1 h2
      rw [Bool.or_eq_true] at h2
      rcases h2 with h2 | h2
      · have e : k = 1 := by simpa using h2
        subst e
        show SX.S a = SX.S (a ++ [])
        rw [List.append_nil]
      · have e : a = [] := by
          have h3 : (SX.S a).length = 0 := by simpa using h2
          rw [SX.S_len] at h3
          exact List.length_eq_zero_iff.mp h3
        subst e
        have e2 : ∀ n : Nat, (List.replicate n ([] : Tx)).flatten = [] := fun n => by induction n with | zero => rfl | succ n ih => rw [List.replicate_succ, List.flatten_cons, ih]; rfl
        rw [e2]
    · refine TL.ext_tl ?_
      show ((List.replicate k.toNat (SX.S a).cps).foldl (· ++ ·) #[]).toList = _
      rw [foldl_app]
      simp [SX.S, TL.tl]
theorem op_repS : OpR X (binaryOp .Mult) rRepS := by
  intro pins s σ H x y v u Q I rx ry h
  obtain ⟨a, k, rfl, rfl, h1, h2, h3, q⟩ := h
  obtain ⟨t, rfl⟩ := rx
  obtain ⟨t', rfl⟩ := ry
  refine SB.mul (PyProof.Rows.mulOk_of 16 1048576 (by rw [SX.S_len]; exact h1) (by omega) (by omega) (by decide) (by decide)) fun t2 k2 => ?_
  rw [mul_S a h2]
  exact ⟨.str _, H, I.tok _, ⟨_, rfl⟩, q⟩
def bopO : Bop → Operator
  | .add => .Add
  | .sub => .Sub
  | .mul => .Mult
  | .fdiv => .FloorDiv
  | .mod => .Mod
  | .pow => .Pow
theorem op_bin (op : Bop) : OpR X (binaryOp (bopO op)) (rBin X.K op) := by
  cases op with
  | add => exact orR op_add (orR op_add_str (orR op_catA op_cat))
  | sub => exact op_sub
  | mul => exact orR op_mul (orR op_mulW (orR op_repS op_repT))
  | fdiv => exact op_fdivW
  | mod => exact op_mod
  | pow => exact op_pow
def copO : Cop → CmpOp
  | .eq => .Eq
  | .ne => .NotEq
  | .lt => .Lt
  | .le => .LtE
  | .gt => .Gt
  | .ge => .GtE
  | .in_ => .In
  | .nin => .NotIn
  | .isN => .Is
  | .notN => .IsNot
theorem op_cmp (op : Cop) {k : Nat} (hr : Room k X.A) : OpR X (compareOp (copO op)) (rCmp X.K op) := by
  have hu : X.A.units + 65 < cLine := by have := hr.un; omega
  cases op with
  | eq => exact op_eqD hr.units
  | ne => exact op_neD hr.units
  | lt => exact op_lt
  | le => exact op_le
  | gt => exact op_gt
  | ge => exact op_ge
  | in_ => exact orR op_in_sign (orR op_in_seq (op_inD hu))
  | nin => exact orR op_notIn_sign (orR op_notIn_seq (op_notInD hu))
  | isN => exact op_isN
  | notN => exact op_notN
theorem SlR_all : SlR X (rSl X.K) := sl_str.or (sl_tupA.or sl_list)
theorem call_int_all : CallR X (.type "int") (rB1 X.K .int) := call_int1.or call_int_str
def b1N : B1 → Str
  | .tuple => "tuple"
  | .list => "list"
  | .all => "all"
  | .sum => "sum"
  | .abs => "abs"
  | .int => "int"
  | .len => "len"
  | .sorted => "sorted"
  | .str => "str"
  | .tpk => "tuple"
  | .sortp => "sorted"
/-- is it called as a type -/
def b1T : B1 → Option String
  | .tuple => some "tuple"
  | .list => some "list"
  | .int => some "int"
  | .str => some "str"
  | .tpk => some "tuple"
  | _ => none
def b1I : B1 → String
  | .all => "all"
  | .sum => "sum"
  | .abs => "abs"
  | .len => "len"
  | _ => "sorted"
theorem cr_sumT (hc : X.calm = true) : CallR X (.builtin "sum") (fun xs H Q => ∃ (a : Addr) (ns : List Int), xs = [V.ref a] ∧ SqT X.K H a (ns.map V.int) ∧ Q (.int ns.sum) H) := by
  intro pins s σ H vs us Q I r h
  obtain ⟨a, ns, rfl, hs, q⟩ := h
  obtain ⟨its, rv, pl, _⟩ := I.tuple hs
  rw [Vals.ref1 r]
  have hi := rv.ints
  obtain ⟨xs, e⟩ := hi.allInts.items
  have hn : numsOf (intItems xs).toList = ns := by rw [← e]; exact hi.numsOf
  rw [nums_intItems] at hn
  rw [e] at pl
  refine PySem.W.ktm_sumG (I.ok.hd hc) pl fun h' tk t' hk => ?_
  rw [preSum_eq, List.take_of_length_le (by simp), hn]
  exact ⟨.int _, H, I.kept hk, ⟨_, rfl⟩, q⟩
theorem cr_sortedTI : CallR X (.builtin "sorted") (fun xs H Q => ∃ (a : Addr) (ns : List Int), xs = [V.ref a] ∧ SqT X.K H a (ns.map V.int) ∧ ∀ (ns' : List Int) (p : Addr), ns'.Perm ns → ns'.Pairwise (· ≤ ·) → H p = none → Q (.ref p) (upd H p (.lst (ns'.map V.int)))) := by
  intro pins s σ H xs us Q I r h
  obtain ⟨a, ns, rfl, ht, q⟩ := h
  obtain ⟨its, rv, ⟨o, ho, hc, n, hd⟩, hz⟩ := I.tuple ht
  have hz' : its.length ≤ sizeLine := Nat.le_trans (Nat.le_of_eq rv.length.symm) hz
  rw [Vals.ref1 r]
  refine Calls.call_function_entry PyProof.Rows.kind_sorted PyProof.Rows.plain_sorted PyProof.Rows.entry_sorted (PyProof.Rows.args_sorted1 _) ?_
  unfold Builtin.«sorted»
  refine wpAny_bind (m := checkCount "sorted" 1 1 _) (wpAny_pure (wpAny_bind (wpAny_collect_seq a (T := "tuple") (.inr rfl) ho hc hd (fun h' hk => ?_) (by simpa using hz'))))
  have J : Inv X pins σ H { s with heap := h' } := I.kept (t' := s.toks) hk
  refine wpAny_bind (wpAny_newList ?_ (by simpa using hz'))
  have new : (h'.push (PyProof.Rows.seqObj "list" its.toArray 0)).get? h'.objs.size = some (PyProof.Rows.seqObj "list" its.toArray 0) := Heap.get?_push_size _ rfl
  refine wpAny_bind (wpAny_holding (wpAny_call_entry PyProof.Rows.slot_list_sort ⟨_, new, rfl⟩ PyProof.Rows.entry_list_sort (SrtO.list_sort_ord SrtO.swo_int new hz' (fun h2 => SrtO.ints_sortable rv.ints h2) fun out o1 o2 => ⟨_, rfl, ?_⟩) (PyProof.Rows.args_list_sort _)))
  refine wpAny_pure ⟨_, rfl, ?_⟩
  obtain ⟨b1, b2, b3⟩ := SrtO.ints_out rv.ints o1 o2
  obtain ⟨ep, at_⟩ := PyProof.Rows.sortedHeap_at (vs := its) (out := out.toArray) new
  have len : ((out.map SrtO.iv).map V.int).length ≤ sizeLine := by
    rw [List.length_map, b2.length_eq]
    simpa using hz
  refine ⟨.ref _, upd H h'.objs.size (.lst ((out.map SrtO.iv).map V.int)), J.laid (t' := s.toks) (fun b u hu => ?_) (Nat.le_refl _) ⟨len, out, ep, vals_of_ints b1, at_⟩, rfl, q _ _ b2 b3 (J.hok.fresh (Nat.le_refl _))⟩
  have lt : b < h'.objs.size := Heap.lt_size hu
  have z : (h'.push (PyProof.Rows.seqObj "list" its.toArray 0)).get? b = some u := Heap.get?_push_of_some _ hu
  rw [PyProof.Rows.sortedHeap_old (Nat.ne_of_lt lt) (Heap.lt_size z)]
  exact z
theorem cr_b1 (f : B1) (hc : X.calm = true) (hu : X.A.units + 65 < cLine) : match b1T f with
    | some T => CallR X (.type T) (rB1 X.K f) ∧ bootBuiltins (b1N f) = some (.type T)
    | none => CallR X (.builtin (b1I f)) (rB1 X.K f) ∧ bootBuiltins (b1N f) = some (.builtin (b1I f)) := by
  cases f with
  | tuple => exact ⟨call_tuple_of, by decide +kernel⟩
  | list => exact ⟨call_list_of, by decide +kernel⟩
  | all => exact ⟨cr_all hc, by decide +kernel⟩
  | sum => exact ⟨(cr_sum hc).or (cr_sumT hc), by decide +kernel⟩
  | abs => exact ⟨call_abs, by decide +kernel⟩
  | int => exact ⟨call_int_all, by decide +kernel⟩
  | len => exact ⟨call_len, by decide +kernel⟩
  | sorted => exact ⟨cr_sortedI.or (cr_sortedTI.or (cr_sortedB hu)), by decide +kernel⟩
  | str => exact ⟨call_str_int, by decide +kernel⟩
  | tpk => exact ⟨call_tupK, by decide +kernel⟩
  | sortp => exact ⟨cr_sortedP hu, by decide +kernel⟩
def b2N : B2 → Str
  | .min => "min"
  | .max => "max"
def b2I : B2 → String
  | .min => "min"
  | .max => "max"
theorem cr_b2 (f : B2) (hc : X.calm = true) : CallR X (.builtin (b2I f)) (rB2 f) ∧ bootBuiltins (b2N f) = some (.builtin (b2I f)) := by
  cases f with
  | min => exact ⟨call_min2 hc, by decide +kernel⟩
  | max => exact ⟨call_max2 hc, by decide +kernel⟩
def m1N : M1 → Str
  | .join => "join"
  | .count => "count"
  | .index => "index"
  | .split => "split"
def m1I : M1 → String
  | .join => "str.join"
  | .count => "str.count"
  | .index => "str.index"
  | .split => "str.split"
theorem mt_m1 (m : M1) {W : XK} (hc : X.calm = true) : MtS X (m1I m) (rM X.K W m) ∧ Slot "str" (m1N m) (m1I m) ∧ typeOf (.builtin (m1I m)) = pure (.type "method_descriptor") := by
  cases m with
  | join => exact ⟨MtR.toS mt_join, PySem.F.slot_str_join, PySem.F.type_str_join⟩
  | count => exact ⟨MtR.toS mt_count, PySem.F.slot_str_count, PySem.F.type_str_count⟩
  | index => exact ⟨mt_indexX hc LamX.takes0, PySem.F.slot_str_index, PySem.F.type_str_index⟩
  | split => exact ⟨MtR.toS mt_split, PySem.F.slot_str_split, PySem.F.type_str_split⟩
end
end Fw

set_option Elab.async false
set_option linter.all false
set_option autoImplicit false
set_option maxRecDepth 100000
set_option maxHeartbeats 4000000
/-! FwChk: a deep body is the text's own; its reading is the text's. -/
namespace Fw
open PySem L2

/-! ### names -/
def fnm (i : Nat) : Str := ((["is_whole", "is_row", "is_board", "is_rule", "is_cell_of", "is_state", "need_board", "need_rule", "need_state", "need_both", "need_cell", "need_spot", "cells_of", "cells", "count_black", "next_cell", "ahead", "flipped", "is_black",
  "turn_at", "stepped", "step", "back", "round_from", "need_ticks", "later", "after", "course", "trail", "turns_made", "round_length", "visits", "back_home", "board_again", "ticks_to", "all_boards", "all_states", "need_size", "all_rounds",
  "moved", "mirrored", "exchanged", "mirrored_rule", "exchanged_rule", "reversed_state", "need_all", "told_colours", "count_boards", "first_board", "first_barred", "written", "format_state", "digit", "parse_state",
  "_law_drawn", "_law_roll", "_law_any_rule", "_law_any_board", "_law_any_state", "_law_step", "_law_course", "_law_round", "_law_all_boards", "_law_cell", "_law_rounds", "visits"] : List String).map Str.ofString).getD i ""
def gnm (i : Nat) : Str := (["QUARTERS", "OTHER_SIDE", "LOOKS"] : List Str).getD i ""
def cnm (i : Nat) : Str := (["InvalidBoard", "InvalidRule", "InvalidState", "InvalidCell", "InvalidLook", "InvalidTicks", "InvalidSize", "InvalidNumber", "InvalidTurns", "InvalidText", "NothingToUndo"] : List Str).getD i ""
def bltN : List Str := ["isinstance", "int", "bool", "str", "tuple", "list", "all", "sum", "abs", "len", "sorted", "min", "max", "range", "enumerate"]

/-! ### forms -/
def notStar : Expr → Bool
  | .Starred _ _ => false
  | _ => true
def notSlice : Expr → Bool
  | .Slice _ _ _ _ => false
  | _ => true
def notSet : Expr → Bool
  | .Set _ _ _ => false
  | _ => true
def noComp : Expr → Bool
  | .ListComp _ _ _ _ => false
  | .SetComp _ _ _ _ => false
  | .DictComp _ _ _ _ _ => false
  | _ => true
def notCall : Expr → Bool
  | .Call _ _ _ _ => false
  | _ => true
theorem star_cons {e : Expr} {es : List Expr} {env : Env} (h : notStar e = true) : starEach (e :: es) env = (false, eval e env) :: starEach es env := by
  cases e <;> first | rfl | cases h
theorem star_any : ∀ {es : List Expr} {env : Env} {pos : Pos}, es.all notStar = true → (backTo pos (starEach es env)).any (·.1) = false
  | [], _, _, _ => rfl
  | e :: es, env, pos, h => by
    rw [List.all_cons, Bool.and_eq_true] at h
    rw [star_cons h.1]
    show (false || (backTo pos (starEach es env)).any (·.1)) = false
    rw [star_any h.2]
    rfl
theorem plainIx_of {f : Expr} (h : notSlice f = true) : PlainIx f := fun o i => by
  cases f <;> first | rfl | cases h
theorem marks_of {op : CmpOp} {b : Expr} (h : notSet b = true) : behindInMarks op b = false := by
  cases b <;> first | rfl | cases h
theorem folded_of {e : Expr} {env : Env} (h : notSet e = true) (x : Value) : foldedSetIterable e env x = pure x := by
  cases e <;> first | rfl | cases h
/-- no call without arguments -/
def noCall0 : Expr → Bool
  | .Call _ [] _ _ => false
  | _ => true
theorem attrBase_of0 {o : Expr} {a : Str} {env : Env} {w : Sem Value} (h : noCall0 o = true) : attributeBase o a env w = w := by
  cases o with
  | Call f xs ks p =>
    cases xs with
    | nil => cases h
    | cons x xs => cases f <;> rfl
  | _ => rfl
theorem attrBase_of {o : Expr} {a : Str} {env : Env} {w : Sem Value} (h : notCall o = true) : attributeBase o a env w = w := by
  cases o <;> first | rfl | cases h
theorem swaps_of {v : Expr} {t : Option Expr} {l : Nat} {env : Env} (h : noComp v = true) : swapsWith v t l env = pure false := by
  cases v <;> first | rfl | cases h
theorem isTrue_of {e : Expr} {env : Env} (h : match e with | .Name _ _ => True | .Constant _ _ _ => True | .Call _ _ _ _ => True | _ => False) : ∀ whole, isTrue e env whole = (do let v ← whole; standAt e.pos; holding [v] (truthy v)) := by
  cases e <;> first | (intro _; rfl) | exact h.elim

def vis (sc : Scope) (x : Str) : Bool := match sc.names.lookup x with
  | some .local => true
  | some .cell => true
  | some .free => true
  | _ => false
theorem vis_ok {sc : Scope} {x : Str} (h : vis sc x = true) : Vis sc x := by
  unfold vis at h
  unfold Vis
  split at h
  · exact .inl (by assumption)
  · exact .inr (.inl (by assumption))
  · exact .inr (.inr (by assumption))
  · cases h
def glb (sc : Scope) (x : Str) : Bool := decide (sc.names.lookup x = some .globalImplicit)
def ndb (x : Str) : Bool := !(x == ("__debug__" : Str)) && !(x == ("__classdict__" : Str))
def vr (sc : Scope) (N : List Str) (i : Nat) (x : Str) : Bool := decide (N[i]? = some x) && vis sc x && ndb x
/-- a built-in's name -/
def blt (sc : Scope) (y x : Str) : Bool := decide (x = y) && glb sc x && bltN.contains x && decide (x ≠ "__name__") && ndb x
def ownOf (N : List Str) (l : List Nat) : List (Str × Nat) := l.map fun i => (N.getD i "", i)
theorem ownOf_snd (N : List Str) (l : List Nat) : (ownOf N l).map (·.2) = l := by
  unfold ownOf
  rw [List.map_map]
  exact List.map_id _
/-- a target: st: locals alone -/
def locB (st : Bool) (sc : Scope) (x : Str) : Bool := match sc.names.lookup x with
  | some .local => true
  | some .cell => !st
  | _ => false
mutual
def chkT (st : Bool) (sc : Scope) (N : List Str) : Tg → Expr → Bool
  | .nm i, .Name x _ => decide (N[i]? = some x) && locB st sc x
  | .tup ts, .Tuple es _ _ => chkTs st sc N ts es
  | _, _ => false
def chkTs (st : Bool) (sc : Scope) (N : List Str) : Tgs → List Expr → Bool
  | .nil, [] => true
  | .cons t r, e :: es => notStar e && chkT st sc N t e && chkTs st sc N r es
  | _, _ => false
end
def isTup : Expr → Bool
  | .Tuple _ _ _ => true
  | _ => false
mutual
def chk (sc : Scope) (N : List Str) : E → Expr → Bool
  | .var i, .Name x _ => vr sc N i x
  | .int n, .Constant (.int m) _ _ => decide (n = m)
  | .bl b, .Constant (.bool c) _ _ => decide (b = c)
  | .non, .Constant .none _ _ => true
  | .str l, .Constant (.str x) _ _ => decide (x.cps.toList = l)
  | .gstr k _, .Name x _ => decide (x = gnm k) && glb sc x && ndb x
  | .isi a t, .Call (.Name f _) [e, .Name y _] [] _ => blt sc "isinstance" f && notStar e && chk sc N a e && blt sc (Str.ofString (tyN t)) y
  | .bin op a b, .BinOp e o f _ => decide (o = bopO op) && chk sc N a e && chk sc N b f
  | .neg a, .UnaryOp .USub e _ => chk sc N a e
  | .not a, .UnaryOp .Not e _ => chk sc N a e
  | .cmp op a b, .Compare e [o] [f] _ => decide (o = copO op) && chk sc N a e && chk sc N b f && notSet f
  | .chain op op' a b c, .Compare e [o, o'] [f, h] _ => decide (o = copO op) && decide (o' = copO op') && chk sc N a e && chk sc N b f && chk sc N c h && notSet h && notSet f
  | .and es, .BoolOp .And xs _ => chks sc N es xs
  | .or es, .BoolOp .Or xs _ => chks sc N es xs
  | .ife t a b, .IfExp c e f _ => chk sc N t c && chk sc N a e && chk sc N b f
  | .tup es, .Tuple xs _ _ => chks sc N es xs
  | .lst es, .List xs _ => chks sc N es xs
  | .ix a b, .Subscript e f _ => chk sc N a e && chk sc N b f && notSlice f
  | .ixo i b, .Subscript (.Name x _) f _ => vr sc N i x && chk sc N b f && notSlice f
  | .ixg k _ b, .Subscript (.Name x _) f _ => decide (x = gnm k) && glb sc x && ndb x && chk sc N b f && notSlice f
  | .sl a lo hi, .Subscript e (.Slice l u none _) _ => chk sc N a e && chko sc N lo l && chko sc N hi u
  | .rev a, .Subscript e (.Slice none none (some (.UnaryOp .USub (.Constant (.int m) _ _) _)) _) _ => decide (m = 1) && chk sc N a e
  | .call f _ es, .Call (.Name x _) (y :: xs) [] _ => decide (x = fnm f) && glb sc x && ndb x && chks sc N es (y :: xs)
  | .leno i, .Call (.Name x _) [.Name y _] [] _ => blt sc "len" x && vr sc N i y
  | .b1 f a, .Call (.Name x _) [e] [] _ => blt sc (b1N f) x && notStar e && chk sc N a e
  | .b2 f a b, .Call (.Name x _) [e, h] [] _ => blt sc (b2N f) x && notStar e && notStar h && chk sc N a e && chk sc N b h
  | .m1 m o a, .Call (.Attribute e x p) [f] [] q => decide (x = m1N m) && chk sc N o e && chk sc N a f && notStar f && notCall e && (p.endLine == q.line)
  | .lc tg it elt, .ListComp e [⟨t, i, [], 0⟩] scope _ => chkT true (relS scope sc) N tg t && chki sc N it t i && notSet i && blkC N sc scope (ownOf N tg.slots) && chk (relS scope sc) N elt e
  | .lcf tg it c elt, .ListComp e [⟨t, i, [f], 0⟩] scope _ => chkT true (relS scope sc) N tg t && chki sc N it t i && notSet i && blkC N sc scope (ownOf N tg.slots) && chk (relS scope sc) N c f && chk (relS scope sc) N elt e
  | .told e, .Call (.Name x _) [.Lambda ps body scope _] [] _ => decide (x = "_law_told") && glb sc x && LamX.lamSB sc scope && (ps.posonlyargs.isEmpty && ps.args.isEmpty && ps.vararg.isNone && ps.kwonlyargs.isEmpty && ps.kw_defaults.isEmpty && ps.kwarg.isNone && ps.defaults.isEmpty) && chk scope N e body
  | .callS f es, .Call (.Name x _) (y :: xs) [] _ => decide (x = fnm f) && glb sc x && ndb x && chks sc N es (y :: xs)
  | .dget i k d, .Call (.Attribute (.Name x _) m p) [f, h] [] q => decide (m = "get") && vr sc N i x && chk sc N k f && chk sc N d h && notStar f && notStar h && (p.endLine == q.line)
  | .din i k, .Compare f [o] [.Name x _] _ => decide (o = CmpOp.In) && chk sc N k f && vr sc N i x
  | .dnin i k, .Compare f [o] [.Name x _] _ => decide (o = CmpOp.NotIn) && chk sc N k f && vr sc N i x
  | .dix i k, .Subscript (.Name x _) f _ => vr sc N i x && chk sc N k f && notSlice f
  | .slk a lo hi, .Subscript e (.Slice l u none _) _ => chk sc N a e && chko sc N lo l && chko sc N hi u
  | .cntk o a, .Call (.Attribute e x p) [f] [] q => decide (x = "count") && chk sc N o e && chk sc N a f && notStar f && noCall0 e && (p.endLine == q.line)
  | .iget i k d, .Call (.Attribute (.Name x _) m p) [f, h] [] q => decide (m = "get") && vr sc N i x && chk sc N k f && chk sc N d h && notStar f && notStar h && (p.endLine == q.line)
  | .iix i k, .Subscript (.Name x _) f _ => vr sc N i x && chk sc N k f && notSlice f
  | .snin i k, .Compare f [o] [.Name x _] _ => decide (o = CmpOp.NotIn) && chk sc N k f && vr sc N i x
  | .six i k, .Subscript (.Name x _) f _ => vr sc N i x && chk sc N k f && notSlice f
  | .slen i, .Call (.Name x _) [.Name y _] [] _ => blt sc "len" x && vr sc N i y
  | .slist i, .Call (.Name x _) [.Name y _] [] _ => blt sc "list" x && vr sc N i y
  | .ilist i, .Call (.Name x _) [.Name y _] [] _ => blt sc "list" x && vr sc N i y
  | _, _ => false
def chks (sc : Scope) (N : List Str) : Es → List Expr → Bool
  | .nil, [] => true
  | .cons e r, x :: xs => notStar x && chk sc N e x && chks sc N r xs
  | _, _ => false
def chko (sc : Scope) (N : List Str) : Oe → Option Expr → Bool
  | .none, none => true
  | .some e, some x => chk sc N e x
  | _, _ => false
def chki (sc : Scope) (N : List Str) : It → Expr → Expr → Bool
  | .seq e, _, x => chk sc N e x
  | .rng e, _, .Call (.Name f _) [x] [] _ => blt sc "range" f && notStar x && chk sc N e x
  | .rng2 a b, _, .Call (.Name f _) [x, y] [] _ => blt sc "range" f && notStar x && notStar y && chk sc N a x && chk sc N b y
  | .enum e, t, .Call (.Name f _) [x] [] _ => blt sc "enumerate" f && notStar x && isTup t && chk sc N e x
  | .ikeys i, _, .Name x _ => vr sc N i x
  | _, _, _ => false
end

/-! ### the world -/
structure Wd where
  prog : Program
  w : World
  mg : Str → Option Value
  base : Heap
  K : PySem.W.Frag
/-- a def that keeps its promise, by at most level L -/
def HasF (wd : Wd) (g : Gm) (L f ar : Nat) (F : FSem) : Prop := ∃ (fa : Addr) (fd : FuncData) (ps : List Str) (k : Nat), FnOk wd.prog wd.w wd.K wd.mg wd.base (L2N.CX wd.prog wd.w) k fa fd ps (spF g.cl ar F) ∧ k ≤ L ∧ wd.mg (fnm f) = some (.ref fa) ∧ PySem.W.keepIn wd.K (.ref fa) = true ∧ Binds wd.K fd ps []
theorem HasF.mono {wd : Wd} {g : Gm} {L L' f ar : Nat} {F : FSem} (h : HasF wd g L f ar F) (hl : L ≤ L') : HasF wd g L' f ar F := by
  obtain ⟨fa, fd, ps, k, h1, h2, h3⟩ := h
  exact ⟨fa, fd, ps, k, h1, Nat.le_trans h2 hl, h3⟩
def HasS (wd : Wd) (g : Gm) (L f : Nat) : Prop := ∃ (fa : Addr) (fd : FuncData) (ps : List Str) (k : Nat), FnOk wd.prog wd.w wd.K wd.mg wd.base (L2N.CX wd.prog wd.w) k fa fd ps (g.sp f) ∧ k ≤ L ∧ wd.mg (fnm f) = some (.ref fa) ∧ PySem.W.keepIn wd.K (.ref fa) = true ∧ Binds wd.K fd ps []
structure ExcOk (wd : Wd) (g : Gm) (c : Nat) : Prop where
  gC : wd.mg (cnm c) = some (.ref (g.cl c))
  ex : PySem.W.excIn wd.K (g.cl c) He.veBase "ValueError.__new__" = true
  kp : PySem.W.keepIn wd.K (.ref (g.cl c)) = true
  sb : PySem.W.subIn wd.K (.ref (g.cl c)) (.type "BaseException") = some true
  ty : PySem.W.typeIn wd.K (.ref (g.cl c)) = some (.type "type")
structure Sup where
  wd : Wd
  g : Gm
  L : Nat
def Sup.tabs (S : Sup) (k : Nat) : Prop := S.wd.mg (gnm k) = some (.ref (S.g.gd k)) ∧ ∃ es n, KDict S.wd.K S.wd.w (S.g.gd k) es n
def Sup.txt (S : Sup) (k : Nat) (l : Tx) : Prop := ∃ t, S.wd.mg (gnm k) = some (.str (SX.S l) t)
mutual
def ndA (S : Sup) : E → Prop
  | .gstr k l => S.txt k l
  | .isi a _ => ndA S a
  | .bin _ a b => ndA S a ∧ ndA S b
  | .neg a => ndA S a
  | .not a => ndA S a
  | .cmp _ a b => ndA S a ∧ ndA S b
  | .chain _ _ a b c => ndA S a ∧ ndA S b ∧ ndA S c
  | .and es => ndAs S es
  | .or es => ndAs S es
  | .ife c a b => ndA S c ∧ ndA S a ∧ ndA S b
  | .tup es => ndAs S es
  | .lst es => ndAs S es
  | .ix a b => ndA S a ∧ ndA S b
  | .ixo _ b => ndA S b
  | .ixg k _ b => S.tabs k ∧ ndA S b
  | .sl a lo hi => ndA S a ∧ ndAo S lo ∧ ndAo S hi
  | .rev a => ndA S a
  | .call f F es => HasF S.wd S.g S.L f es.len F ∧ ndAs S es
  | .b1 _ a => ndA S a
  | .b2 _ a b => ndA S a ∧ ndA S b
  | .m1 _ o a => ndA S o ∧ ndA S a
  | .lc _ it elt => ndAi S it ∧ ndA S elt
  | .lcf _ it c elt => ndAi S it ∧ ndA S c ∧ ndA S elt
  | .told e => ndA S e
  | .callS f es => HasS S.wd S.g S.L f ∧ ndAs S es
  | .dget _ k d => ndA S k ∧ ndA S d
  | .din _ k => ndA S k
  | .dnin _ k => ndA S k
  | .dix _ k => ndA S k
  | .slk a lo hi => ndA S a ∧ ndAo S lo ∧ ndAo S hi
  | .cntk o a => ndA S o ∧ ndA S a
  | .iget _ k d => ndA S k ∧ ndA S d
  | .iix _ k => ndA S k
  | .snin _ k => ndA S k
  | .six _ k => ndA S k
  | _ => True
def ndAs (S : Sup) : Es → Prop
  | .nil => True
  | .cons e r => ndA S e ∧ ndAs S r
def ndAo (S : Sup) : Oe → Prop
  | .none => True
  | .some e => ndA S e
def ndAi (S : Sup) : It → Prop
  | .seq e => ndA S e
  | .rng e => ndA S e
  | .rng2 a b => ndA S a ∧ ndA S b
  | .enum e => ndA S e
  | .ikeys _ => True
end

/-! ### the context -/
structure Cxt (S : Sup) (X : Cx) (sc : Scope) (N : List Str) (W : XK) : Prop where
  hsc : X.env.scope = sc
  hN : X.N = N
  nd : N.Nodup
  calm : X.calm = true
  room : Room S.L X.A
  tk : L2N.Takes X (wx W)
  prog : X.prog = S.wd.prog
  w : X.w = S.wd.w
  mg : X.mg = S.wd.mg
  base : X.base = S.wd.base
  K : X.K = S.wd.K
  gK : S.g.K = S.wd.K ∧ S.g.w = S.wd.w
  hblt : ∀ x, bltN.contains x = true → S.wd.mg x = none
def noArgs (ps : Arguments) : Bool := ps.posonlyargs.isEmpty && ps.args.isEmpty && ps.vararg.isNone && ps.kwonlyargs.isEmpty && ps.kw_defaults.isEmpty && ps.kwarg.isNone && ps.defaults.isEmpty
/-- told: x(lambda: body) -/
def Tld (S : Sup) (X : Cx) (sc : Scope) (N : List Str) : Prop := ∀ (ps : Arguments) (body : Expr) (scope : Scope) (lpos p pos : Pos) (t : XK → TE), LamX.LamS sc scope → Gl X "_law_told" → noArgs ps = true →
    (∀ (X' : Cx) (E : XK), Cxt S X' scope N E → PE X' body (t E)) → PE X (.Call (.Name "_law_told" p) [.Lambda ps body scope lpos] [] pos) (LamX.tLam S.g.T S.g.tt t)
section
variable {S : Sup} {X : Cx} {sc : Scope} {N : List Str} {W : XK}
theorem Cxt.kK (C : Cxt S X sc N W) : S.g.K = X.K := C.gK.1.trans C.K.symm
theorem Cxt.kw (C : Cxt S X sc N W) : S.g.w = X.w := C.gK.2.trans C.w.symm
theorem Cxt.gl (C : Cxt S X sc N W) {x : Str} (h : glb sc x = true) : Gl X x := by
  show X.env.scope.names.lookup x = _
  rw [C.hsc]
  exact of_decide_eq_true h
theorem Cxt.nx (C : Cxt S X sc N W) {i : Nat} {x : Str} (h : N[i]? = some x) : X.N[i]? = some x := by rw [C.hN]; exact h
theorem Cxt.ndX (C : Cxt S X sc N W) : X.N.Nodup := by rw [C.hN]; exact C.nd
theorem ndb_ok {x : Str} (h : ndb x = true) : (x == ("__debug__" : Str)) = false ∧ (x == ("__classdict__" : Str)) = false := by
  unfold ndb at h
  rw [Bool.and_eq_true] at h
  obtain ⟨h1, h2⟩ := h
  exact ⟨by simpa using h1, by simpa using h2⟩
theorem Cxt.var (C : Cxt S X sc N W) {i : Nat} {x : Str} {pos : Pos} (h : vr sc N i x = true) : PE X (.Name x pos) (tVar i) := by
  unfold vr at h
  rw [Bool.and_eq_true, Bool.and_eq_true] at h
  obtain ⟨⟨h1, h2⟩, h3⟩ := h
  refine pe_var (C.nx (of_decide_eq_true h1)) ?_ (ndb_ok h3).1 (ndb_ok h3).2
  rw [C.hsc]
  exact vis_ok h2
structure BltOk (X : Cx) (y x : Str) : Prop where
  eq : x = y
  gl : Gl X x
  mg : X.mg x = none
  nn : x ≠ "__name__"
  nd : (x == ("__debug__" : Str)) = false
theorem Cxt.bl (C : Cxt S X sc N W) {y x : Str} (h : blt sc y x = true) : BltOk X y x := by
  unfold blt at h
  simp only [Bool.and_eq_true] at h
  obtain ⟨⟨⟨⟨h1, h2⟩, h3⟩, h4⟩, h5⟩ := h
  exact ⟨of_decide_eq_true h1, C.gl h2, by rw [C.mg]; exact C.hblt x h3, of_decide_eq_true h4, (ndb_ok h5).1⟩
/-- the context of a comprehension's block -/
theorem Cxt.blk (C : Cxt S X sc N W) (scope : Scope) (s : Shared) (H : Hp) (cl : List (Str × Addr)) (Ca : Addr) (fp : List Addr) : Cxt S (X.blk s H scope (compEnvC scope cl Ca X.env) fp) (relS scope sc) N wF := by
  refine ⟨?_, C.hN, C.nd, C.calm, C.room, ?_, C.prog, C.w, C.mg, C.base, C.K, C.gK, C.hblt⟩
  · show relS scope X.env.scope = _
    rw [C.hsc]
  · intro u s' x
    obtain ⟨_, _, _, _, _, _, _, _, _, _, _, _, _, _, _, _, z⟩ := x
    exact z.elim
/-! targets -/
theorem locB_ok {st : Bool} {x : Str} (h : locB st sc x = true) : Loc sc x ∧ (st = true → sc.names.lookup x = some .local) := by
  unfold locB at h
  split at h
  · rename_i q
    exact ⟨.inl q, fun _ => q⟩
  · rename_i q
    refine ⟨.inr q, fun z => ?_⟩
    rw [z] at h
    cases h
  · cases h
theorem each_len : ∀ {es : List Expr} {env : Env}, (assignEach es env).length = es.length
  | [], _ => rfl
  | e :: es, env => by
    have ih := each_len (es := es) (env := env)
    cases e <;> (show (assignEach es env).length + 1 = es.length + 1; rw [ih])
theorem each_cons {e : Expr} {es : List Expr} {env : Env} (h : notStar e = true) : assignEach (e :: es) env = (false, assign e env) :: assignEach es env := by
  cases e <;> first | rfl | cases h
theorem each_star : ∀ {es : List Expr} {env : Env}, es.all notStar = true → (assignEach es env).findIdx? (·.1) = none
  | [], _, _ => rfl
  | e :: es, env, h => by
    rw [List.all_cons, Bool.and_eq_true] at h
    rw [each_cons h.1, List.findIdx?_cons, each_star h.2]
    rfl
theorem chkTs_star : ∀ {ts : Tgs} {es : List Expr} {st : Bool}, chkTs st sc N ts es = true → es.all notStar = true ∧ es.length = ts.len
  | .nil, [], _, _ => ⟨rfl, rfl⟩
  | .nil, _ :: _, _, h => by cases h
  | .cons _ _, [], _, h => by cases h
  | .cons t r, e :: es, st, h => by
    have h : (notStar e && chkT st sc N t e && chkTs st sc N r es) = true := h
    simp only [Bool.and_eq_true] at h
    obtain ⟨⟨h1, _⟩, h3⟩ := h
    obtain ⟨q1, q2⟩ := chkTs_star h3
    exact ⟨by rw [List.all_cons, h1, q1]; rfl, by show es.length + 1 = r.len + 1; rw [q2]⟩
mutual
theorem pg_ok (C : Cxt S X sc N W) {st : Bool} (hf : st = true ∨ ∀ x, X.fn x = true) : ∀ (tg : Tg) (e : Expr), chkT st sc N tg e = true → PG X e (trg S.g.K tg)
  | .nm i, e, h => by
    cases e with
    | Name x pos =>
      have h : (decide (N[i]? = some x) && locB st sc x) = true := h
      rw [Bool.and_eq_true] at h
      obtain ⟨q1, q2⟩ := locB_ok h.2
      refine pg_name C.ndX (C.nx (of_decide_eq_true h.1)) (by rw [C.hsc]; exact q1) ?_
      rcases hf with hf | hf
      · right
        rw [C.hsc]
        exact q2 hf
      · left
        exact hf x
    | _ => cases h
  | .tup ts, e, h => by
    cases e with
    | Tuple es k pos =>
      have h : chkTs st sc N ts es = true := h
      obtain ⟨q1, q2⟩ := chkTs_star h
      show PG X _ (gTup S.g.K ts.len (trgs S.g.K ts))
      rw [C.kK]
      have := pgs_ok C hf ts es h
      rw [C.kK] at this
      exact pg_tup C.calm this (by rw [each_len, q2]) (each_star q1)
    | _ => cases h
theorem pgs_ok (C : Cxt S X sc N W) {st : Bool} (hf : st = true ∨ ∀ x, X.fn x = true) : ∀ (ts : Tgs) (es : List Expr), chkTs st sc N ts es = true → PGs X es (trgs S.g.K ts)
  | .nil, [], _ => pgs_nil
  | .nil, _ :: _, h => by cases h
  | .cons _ _, [], h => by cases h
  | .cons t r, e :: es, h => by
    have h : (notStar e && chkT st sc N t e && chkTs st sc N r es) = true := h
    simp only [Bool.and_eq_true] at h
    obtain ⟨⟨h1, h2⟩, h3⟩ := h
    exact pgs_cons (pg_ok C hf t e h2) (pgs_ok C hf r es h3) (by rw [each_cons h1]; rfl)
end
end
end Fw

set_option Elab.async false
set_option linter.all false
set_option autoImplicit false
set_option maxRecDepth 100000
set_option maxHeartbeats 4000000
/-! FwPe: a checked body has its reading. -/
namespace Fw
open PySem L2

theorem and2 {a b : Bool} (h : (a && b) = true) : a = true ∧ b = true := Bool.and_eq_true_iff.mp h
def PeOk (S : Sup) (e : E) : Prop := ∀ (tl : Bool) (X : Cx) (sc : Scope) (N : List Str) (W : XK) (x : Expr), Cxt S X sc N W → (tl = true → Tld S X sc N) → ndA S e → nd S.g tl e → chk sc N e x = true → PE X x (tr S.g e W)
def PtOk (S : Sup) (e : E) : Prop := ∀ (tl : Bool) (X : Cx) (sc : Scope) (N : List Str) (W : XK) (x : Expr), okT e = true → Cxt S X sc N W → (tl = true → Tld S X sc N) → ndA S e → nd S.g tl e → chk sc N e x = true → PT X x (trT S.g e W)
def PaOk (S : Sup) (es : Es) : Prop := ∀ (tl : Bool) (X : Cx) (sc : Scope) (N : List Str) (W : XK) (xs : List Expr), Cxt S X sc N W → (tl = true → Tld S X sc N) → ndAs S es → nds S.g tl es → chks sc N es xs = true → PA X xs (trs S.g es W)
def PandOk (S : Sup) (es : Es) : Prop := ∀ (tl : Bool) (X : Cx) (sc : Scope) (N : List Str) (W : XK) (xs : List Expr) (pos : Pos), Cxt S X sc N W → (tl = true → Tld S X sc N) → ndAs S es → nds S.g tl es → chks sc N es xs = true → PE X (.BoolOp .And xs pos) (trAnd S.g es W) ∧ PE X (.BoolOp .Or xs pos) (trOr S.g es W)
def PandTOk (S : Sup) (es : Es) : Prop := ∀ (tl : Bool) (X : Cx) (sc : Scope) (N : List Str) (W : XK) (xs : List Expr) (pos : Pos), okTs es = true → Cxt S X sc N W → (tl = true → Tld S X sc N) → ndAs S es → nds S.g tl es → chks sc N es xs = true → PW X (.BoolOp .And xs pos) (trAndT S.g es W) ∧ PW X (.BoolOp .Or xs pos) (trOrT S.g es W)
def PoOk (S : Sup) (o : Oe) : Prop := ∀ (tl : Bool) (X : Cx) (sc : Scope) (N : List Str) (W : XK) (x : Option Expr), Cxt S X sc N W → (tl = true → Tld S X sc N) → ndAo S o → ndo S.g tl o → chko sc N o x = true → PO X x (tro S.g o W)
def PiOk (S : Sup) (it : It) : Prop := ∀ (tl : Bool) (X : Cx) (sc : Scope) (N : List Str) (W : XK) (t x : Expr), Cxt S X sc N W → (tl = true → Tld S X sc N) → ndAi S it → ndi S.g tl it → chki sc N it t x = true → PI X t x (tri S.g it W)

theorem chks_star {sc : Scope} {N : List Str} : ∀ {es : Es} {xs : List Expr}, chks sc N es xs = true → xs.all notStar = true
  | .nil, [], _ => rfl
  | .nil, _ :: _, h => by cases h
  | .cons _ _, [], h => by cases h
  | .cons e r, x :: xs, h => by
    have h : (notStar x && chk sc N e x && chks sc N r xs) = true := h
    obtain ⟨h1, h2⟩ := and2 h
    obtain ⟨h3, _⟩ := and2 h1
    rw [List.all_cons, h3, chks_star h2]
    rfl
theorem pi_seq {X : Cx} {tg e : Expr} {te : TE} (he : PE X e te) : PI X tg e (iSeq X.K te) := by
  constructor
  intro pins s σ H R I h
  refine thn (he.run pins s σ H _ I h) ?_
  rintro v s1 ⟨x, H1, I1, r1, ⟨a, rfl, ⟨xs, hq⟩, q⟩ | ⟨a, rfl, ⟨xs, hq⟩, q⟩ | ⟨z, rfl, q⟩⟩
  · cases r1
    obtain ⟨_, _, pl, _⟩ := I1.list hq
    exact wpAny_pyIter_list pl.isList (pi_one (tk := s1.toks) I1 _ (turn_list a _) ⟨_, Heap.get?_push_size _ rfl, rfl, rfl⟩ q)
  · cases r1
    obtain ⟨its, _, pl, _⟩ := I1.tuple hq
    exact wpAny_pyIter_tuple (items := its.toArray) pl (pi_one (tk := s1.toks) I1 _ (turn_tuple a _) ⟨_, Heap.get?_push_size _ rfl, rfl, rfl⟩ q)
  · obtain ⟨t, rfl⟩ := r1
    by_cases hz : z.cps.all (· < 128) = true
    · exact wpAny_pyIter_ascii hz (pi_one (tk := s1.toks) I1 _ (turn_str _ z t "str_ascii_iterator" (.inl rfl)) ⟨_, Heap.get?_push_size _ rfl, rfl, rfl⟩ q)
    · exact wpAny_pyIter_wide (by simpa using hz) (pi_one (tk := s1.toks) I1 _ (turn_str _ z t "str_iterator" (.inr rfl)) ⟨_, Heap.get?_push_size _ rfl, rfl, rfl⟩ q)
theorem st_one {e : Expr} {env : Env} (h : notStar e = true) : starEach [e] env = [(false, eval e env)] := star_cons h
theorem few_one {f : Expr} {env : Env} {q : Pos} (h : notStar f = true) : ((backTo q (starEach [f] env)).all (fun x => !x.1) && (backToKw q (keywordEach [] env)).all (fun x => x.1.isSome) && decide ([f].length + ([] : List Keyword).length + (if ([] : List Keyword).isEmpty then 0 else 1) < 30)) = true := by
  rw [st_one h]
  rfl
/-- a dict of the module, by a text -/
theorem pe_ixG {X : Cx} {k : Nat} {x : Str} {f : Expr} {tb : TE} {p pos : Pos} {d : Addr} {es : Array DictEntry} {n : Nat} (hg : Gl X x) (hm : X.mg x = some (.ref d)) (hk : KDict X.K X.w d es n) (hb : PE X f tb) (hs : notSlice f = true) (hd : (x == ("__debug__" : Str)) = false) :
    PE X (.Subscript (.Name x p) f pos) (tIxG X.K d tb) := by
  constructor
  intro pins s σ H Q I h
  have hn : PE X (.Name x p) (tC (.ref d)) := pe_glob hg hm rfl hd
  have h0 : tC (.ref d) σ H (fun v H1 => v = V.ref d ∧ tb σ H1 fun y H1 => ∃ (z : Str) (u0 : Value) (v0 : V), y = .str z ∧ PySem.W.nsIn X.K d z = some (some u0) ∧ RelV v0 u0 ∧ Q v0 H1) := ⟨rfl, h⟩
  refine subD_of PySem.F.slot_dict_getitem.lookup (plainIx_of hs) (thn (hn.run pins s σ H _ I h0) ?_)
  rintro u s1 ⟨v, H1, I1, rv, rfl, h1⟩
  refine thn (hb.run pins s1 σ H1 _ I1 h1) ?_
  rintro w s2 ⟨y, H2, I2, ry, z, u0, v0, ey, e1, e2, q⟩
  have eu : u = Value.ref d := rv
  subst eu
  exact ⟨kd_type hk I2, op_item_kd hk pins s2 σ H2 _ y _ w Q I2 rv ry ⟨z, u0, v0, rfl, ey, e1, e2, q⟩⟩

section
open PySem.Spec PyProof.Rows
theorem rev_pick (l : Tx) : ((List.range l.length).map fun k => l.length - 1 - k).filterMap (fun i => l.toArray[i]?) = l.reverse := by
  refine List.ext_getElem? fun i => ?_
  have e : ((List.range l.length).map fun k => l.length - 1 - k).filterMap (fun i => l.toArray[i]?) = (List.range l.length).map fun k => l.reverse[k]?.getD 0 := by
    rw [List.filterMap_map]
    have : ∀ k ∈ List.range l.length, ((fun i => l.toArray[i]?) ∘ fun k => l.length - 1 - k) k = some (l.reverse[k]?.getD 0) := fun k hk => by
      have hk := List.mem_range.mp hk
      show l.toArray[l.length - 1 - k]? = _
      have h1 : l.length - 1 - k < l.length := by omega
      rw [List.getElem?_toArray, List.getElem?_eq_getElem h1, List.getElem?_eq_getElem (by rw [List.length_reverse]; exact hk), List.getElem_reverse]
      rfl
    generalize List.range l.length = ks at this
    induction ks with
    | nil => rfl
    | cons k ks ih =>
      rw [List.filterMap_cons_some (this k (by simp)), ih fun z hz => this z (by simp [hz])]
      rfl
  rw [e]
  rcases Nat.lt_or_ge i l.length with q | q
  · have hq : i < l.reverse.length := by rw [List.length_reverse]; exact q
    rw [List.getElem?_map, List.getElem?_range q, List.getElem?_eq_getElem hq]
    show some (l.reverse[i]?.getD 0) = _
    rw [List.getElem?_eq_getElem hq]
    rfl
  · rw [List.getElem?_eq_none (by simpa using q), List.getElem?_eq_none (by rw [List.length_reverse]; exact q)]
/-- [::-1] behind a list or a text -/
theorem pe_revA {X : Cx} {e : Expr} {te : TE} {k : Nat} {p1 p2 p3 pos : Pos} (he : PE X e te) : PE X (.Subscript e (.Slice none none (some (.UnaryOp .USub (.Constant (.int 1) k p1) p2)) p3) pos) (tRevA X.K te) := by
  have step : PO X (some (.UnaryOp .USub (.Constant (.int 1) k p1) p2)) (tPart (tUn (rU fun i => .int (-i)) (tC (.int 1)))) := po_some (pe_un un_neg pe_int)
  constructor
  intro pins s σ H Q I h
  refine Subscript_ (thn (he.run pins s σ H _ I h) fun v s1 ⟨x, H1, I1, rx, ans⟩ => wpAny_Slice ?_)
  refine thn (po_none.run pins s1 σ H1 (fun o H2 => o = none ∧ H2 = H1) I1 ⟨rfl, rfl⟩) ?_
  rintro vl s2 ⟨lo, H2, I2, pl, rfl, rfl⟩
  refine thn (po_none.run pins s2 σ H2 (fun o H3 => o = none ∧ H3 = H2) I2 ⟨rfl, rfl⟩) ?_
  rintro vu s3 ⟨hi, H3, I3, pu, rfl, rfl⟩
  refine thn (step.run pins s3 σ H3 (fun o H4 => o = some (-1) ∧ H4 = H3) I3 ⟨1, rfl, -1, rfl, rfl, rfl⟩) ?_
  rintro vs s4 ⟨st, H4, I4, ps, rfl, rfl⟩
  have J : Inv X pins σ H4 { s4 with heap := s4.heap.push { cls := .type "slice", data := .fields #[vl, vu, vs] } } := I4.kept (t' := s4.toks) fun _ _ z => Heap.get?_push_of_some _ z
  rcases ans with ⟨a, xs, rfl, hx, q⟩ | ⟨l, rfl, hl, q⟩
  · cases rx
    obtain ⟨its, rv, ht, hz⟩ := J.list hx
    have n1 := rv.length
    show wpAny (model X.prog X.w) X.A (subscriptTail e (.Slice none none (some (.UnaryOp .USub (.Constant (.int 1) k p1) p2)) p3) (.ref a) (.ref s4.heap.objs.size)) (EP X pins σ Q) X.xe { s4 with heap := s4.heap.push { cls := .type "slice", data := .fields #[vl, vu, vs] } }
    refine tail_any (ops := [.ref a, .ref s4.heap.objs.size]) ht.isList.typeIs (PySem.slot_list_getitem.lookup) (wpAny_getItem_list_slice ht.isList (Heap.IsSliceOf.new _ vl vu vs) pl pu ps (by decide) ?_ (by rw [List.size_toArray]; omega)) (by with_unfolding_all rfl)
    rw [PySem.W.krv_pick]
    exact ⟨.ref _, _, J.laid (t' := s4.toks) (o := .lst xs.reverse) (fun _ _ z => Heap.get?_push_of_some _ z) (Nat.le_refl _) ⟨by rw [List.length_reverse]; exact hz, _, 0, rv.reverse, Heap.get?_push_size _ rfl⟩, rfl, q _ (J.hok.fresh (Nat.le_refl _))⟩
  · obtain ⟨t, rfl⟩ := rx
    obtain ⟨l1, rfl, e1⟩ := IsPart.raw pl
    obtain ⟨u1, rfl, e2⟩ := IsPart.raw pu
    obtain ⟨st1, rfl, e3⟩ := IsPart.raw ps
    show wpAny (model X.prog X.w) X.A (subscriptTail e (.Slice none none (some (.UnaryOp .USub (.Constant (.int 1) k p1) p2)) p3) (.str (SX.S l) t) (.ref s4.heap.objs.size)) (EP X pins σ Q) X.xe _
    refine tail_any (ops := [.str (SX.S l) t, .ref s4.heap.objs.size]) (typeIs_str _ _ _) (F.slot_str_getitem.lookup) (wpAny_getItem_str_slice (l := l1) (u := u1) (st := st1) ⟨_, Heap.get?_push_size _ rfl, rfl, rfl⟩ (by rw [e3]; rfl) ?_) (by with_unfolding_all rfl)
    have em : sliceMade (SX.S l) t l1 u1 st1 = .str (SX.S l.reverse) := by
      unfold sliceMade slicePicked
      rw [e1, e2, e3]
      refine (if_neg (fun z => absurd (Bool.and_eq_true_iff.mp z).1 (by decide))).trans ?_
      show Made.str ⟨((Builtin.Str.strSliceIndices none none (-1) (SX.S l).length).filterMap ((SX.S l).cps[·]?)).toArray⟩ = _
      rw [PyProof.Rows.picked_rev, SX.S_len]
      show Made.str ⟨(((List.range l.length).map fun k => l.length - 1 - k).filterMap (fun i => l.toArray[i]?)).toArray⟩ = _
      rw [rev_pick]
    rw [em]
    exact ⟨by rw [SX.S_len, List.length_reverse, SL_eq]; exact hl, .str _, H4, J.tok _, ⟨_, rfl⟩, q⟩
end
mutual
theorem pe_ok (S : Sup) : ∀ e : E, PeOk S e ∧ PtOk S e
  | .var i => by
    have A : PeOk S (.var i) := fun tl X sc N W x C T hA hB h => by
      cases x with
      | Name y p => exact C.var h
      | _ => cases h
    refine ⟨A, fun tl X sc N W x ho C T hA hB h => ?_⟩
    have q := A tl X sc N W x C T hA hB h
    cases x with
    | Name y p => exact pt_val q
    | _ => cases h
  | .int n => by
    refine ⟨fun tl X sc N W x C T hA hB h => ?_, fun tl X sc N W x ho => by cases ho⟩
    cases x with
    | Constant c k p =>
      cases c with
      | int m =>
        have e : n = m := of_decide_eq_true h
        subst e
        exact pe_int
      | _ => cases h
    | _ => cases h
  | .bl b => by
    have A : PeOk S (.bl b) := fun tl X sc N W x C T hA hB h => by
      cases x with
      | Constant c k p =>
        cases c with
        | bool m =>
          have e : b = m := of_decide_eq_true h
          subst e
          exact pe_bl
        | _ => cases h
      | _ => cases h
    refine ⟨A, fun tl X sc N W x ho C T hA hB h => ?_⟩
    have q := A tl X sc N W x C T hA hB h
    cases x with
    | Constant c k p => exact pt_val q
    | _ => cases h
  | .non => by
    refine ⟨fun tl X sc N W x C T hA hB h => ?_, fun tl X sc N W x ho => by cases ho⟩
    cases x with
    | Constant c k p =>
      cases c with
      | none => exact pe_non
      | _ => cases h
    | _ => cases h
  | .str l => by
    refine ⟨fun tl X sc N W x C T hA hB h => ?_, fun tl X sc N W x ho => by cases ho⟩
    cases x with
    | Constant c k p =>
      cases c with
      | str z =>
        have e : z.cps.toList = l := of_decide_eq_true h
        have e2 : SX.S l = z := by rw [← e]
        show PE X _ (tC (.str (SX.S l)))
        rw [e2]
        exact pe_str
      | _ => cases h
    | _ => cases h
  | .gstr k l => by
    have A : PeOk S (.gstr k l) := fun tl X sc N W x C T hA hB h => by
      unfold chk at h
      split at h
      case h_6 =>
        rename_i y p heq
        cases heq
        obtain ⟨h1, h2⟩ := and2 h
        obtain ⟨h3, h4⟩ := and2 h1
        have e : y = gnm k := of_decide_eq_true h3
        obtain ⟨t, q⟩ := hA
        exact pe_glob (C.gl h4) (by rw [C.mg, e]; exact q) ⟨t, rfl⟩ (ndb_ok h2).1
      all_goals first | (rename_i heq; cases heq; done) | cases h
    exact ⟨A, fun tl X sc N W x ho => by cases ho⟩
  | .isi a t => by
    have A : PeOk S (.isi a t) := fun tl X sc N W x C T hA hB h => by
      unfold chk at h
      split at h
      case h_7 =>
        rename_i f p e y q pos heq
        cases heq
        obtain ⟨h, h4⟩ := and2 h
        obtain ⟨h, h3⟩ := and2 h
        obtain ⟨h1, h2⟩ := and2 h
        have b1 := C.bl h1
        have b2 := C.bl h4
        show PE X _ (tCB (rIsi S.g.K) (tCons (tr S.g a W) (tCons (tC (.ty (tyN t))) tNil)))
        rw [C.kK]
        have hv : bootBuiltins y = some (.type (tyN t)) := by
          rw [b2.eq]
          cases t <;> decide +kernel
        have hf : bootBuiltins f = some (.builtin "isinstance") := by
          rw [b1.eq]
          decide +kernel
        exact pe_callB call_isi b1.gl b1.mg hf (pa_cons ((pe_ok S a).1 tl X sc N W e C T hA hB h3) (pa_cons (pe_bltn b2.gl b2.mg hv rfl b2.nn b2.nd) pa_nil (st_one rfl)) (star_cons h2)) b1.nn b1.nd (star_cons h2) (star_any rfl)
      all_goals first | (rename_i heq; cases heq; done) | cases h
    refine ⟨A, fun tl X sc N W x ho C T hA hB h => ?_⟩
    have q := A tl X sc N W x C T hA hB h
    unfold chk at h
    split at h
    case h_7 =>
      rename_i f p e y q pos heq
      cases heq
      exact pt_val q
    all_goals first | (rename_i heq; cases heq; done) | cases h
  | .bin op a b => by
    have A : PeOk S (.bin op a b) := fun tl X sc N W x C T hA hB h => by
      unfold chk at h
      split at h
      case h_8 =>
        rename_i e o f pos heq
        cases heq
        obtain ⟨h, h3⟩ := and2 h
        obtain ⟨h1, h2⟩ := and2 h
        have eo : o = bopO op := of_decide_eq_true h1
        subst eo
        show PE X _ (tOp (rBin S.g.K op) (tr S.g a W) (tr S.g b W))
        rw [C.kK]
        exact pe_op (op_bin op) ((pe_ok S a).1 tl X sc N W e C T hA.1 hB.1 h2) ((pe_ok S b).1 tl X sc N W f C T hA.2 hB.2 h3)
      all_goals first | (rename_i heq; cases heq; done) | cases h
    exact ⟨A, fun tl X sc N W x ho => by cases ho⟩
  | .neg a => by
    have A : PeOk S (.neg a) := fun tl X sc N W x C T hA hB h => by
      unfold chk at h
      split at h
      case h_9 =>
        rename_i e pos heq
        cases heq
        exact pe_un un_neg ((pe_ok S a).1 tl X sc N W e C T hA hB h)
      all_goals first | (rename_i heq; cases heq; done) | cases h
    exact ⟨A, fun tl X sc N W x ho => by cases ho⟩
  | .not a => by
    have A : PeOk S (.not a) := fun tl X sc N W x C T hA hB h => by
      unfold chk at h
      split at h
      case h_10 =>
        rename_i e pos heq
        cases heq
        exact pe_not ((pe_ok S a).1 tl X sc N W e C T hA hB h)
      all_goals first | (rename_i heq; cases heq; done) | cases h
    refine ⟨A, fun tl X sc N W x ho C T hA hB h => ?_⟩
    unfold chk at h
    split at h
    case h_10 =>
      rename_i e pos heq
      cases heq
      exact pt_not ((pe_ok S a).2 tl X sc N W e ho C T hA hB h)
    all_goals first | (rename_i heq; cases heq; done) | cases h
  | .cmp op a b => by
    have A : PeOk S (.cmp op a b) := fun tl X sc N W x C T hA hB h => by
      unfold chk at h
      split at h
      case h_11 =>
        rename_i e o f pos heq
        cases heq
        obtain ⟨h, h4⟩ := and2 h
        obtain ⟨h, h3⟩ := and2 h
        obtain ⟨h1, h2⟩ := and2 h
        have eo : o = copO op := of_decide_eq_true h1
        subst eo
        show PE X _ (tOp (rCmp S.g.K op) (tr S.g a W) (tr S.g b W))
        rw [C.kK]
        exact pe_cmpR (op_cmp op C.room) ((pe_ok S a).1 tl X sc N W e C T hA.1 hB.1 h2) ((pe_ok S b).1 tl X sc N W f C T hA.2 hB.2 h3) (marks_of h4)
      all_goals first | (rename_i heq; cases heq; done) | cases h
    refine ⟨A, fun tl X sc N W x ho C T hA hB h => ?_⟩
    unfold chk at h
    split at h
    case h_11 =>
      rename_i e o f pos heq
      cases heq
      obtain ⟨h, h4⟩ := and2 h
      obtain ⟨h, h3⟩ := and2 h
      obtain ⟨h1, h2⟩ := and2 h
      have eo : o = copO op := of_decide_eq_true h1
      subst eo
      show PT X _ (tTest (tOp (rCmp S.g.K op) (tr S.g a W) (tr S.g b W)))
      rw [C.kK]
      exact pt_cmpR (op_cmp op C.room) ((pe_ok S a).1 tl X sc N W e C T hA.1 hB.1 h2) ((pe_ok S b).1 tl X sc N W f C T hA.2 hB.2 h3) (marks_of h4)
    all_goals first | (rename_i heq; cases heq; done) | cases h
  | .chain op op' a b c => by
    have A : PeOk S (.chain op op' a b c) := fun tl X sc N W x C T hA hB h => by
      unfold chk at h
      split at h
      case h_12 =>
        rename_i e o o' f k pos heq
        cases heq
        obtain ⟨h, h7⟩ := and2 h
        obtain ⟨h, h6⟩ := and2 h
        obtain ⟨h, h5⟩ := and2 h
        obtain ⟨h, h4⟩ := and2 h
        obtain ⟨h, h3⟩ := and2 h
        obtain ⟨h1, h2⟩ := and2 h
        have eo : o = copO op := of_decide_eq_true h1
        have eo' : o' = copO op' := of_decide_eq_true h2
        subst eo
        subst eo'
        show PE X _ (tChain (rCmp S.g.K op) (rCmp S.g.K op') (tr S.g a W) (tr S.g b W) (tr S.g c W))
        rw [C.kK]
        exact pe_chain (op_cmp op C.room) (op_cmp op' C.room) ((pe_ok S a).1 tl X sc N W e C T hA.1 hB.1 h3) ((pe_ok S b).1 tl X sc N W f C T hA.2.1 hB.2.1 h4) ((pe_ok S c).1 tl X sc N W k C T hA.2.2 hB.2.2 h5) (marks_of h6)
      all_goals first | (rename_i heq; cases heq; done) | cases h
    refine ⟨A, fun tl X sc N W x ho C T hA hB h => ?_⟩
    unfold chk at h
    split at h
    case h_12 =>
      rename_i e o o' f k pos heq
      cases heq
      obtain ⟨h, h7⟩ := and2 h
      obtain ⟨h, h6⟩ := and2 h
      obtain ⟨h, h5⟩ := and2 h
      obtain ⟨h, h4⟩ := and2 h
      obtain ⟨h, h3⟩ := and2 h
      obtain ⟨h1, h2⟩ := and2 h
      have eo : o = copO op := of_decide_eq_true h1
      have eo' : o' = copO op' := of_decide_eq_true h2
      subst eo
      subst eo'
      show PT X _ (tTest (tChain (rCmp S.g.K op) (rCmp S.g.K op') (tr S.g a W) (tr S.g b W) (tr S.g c W)))
      rw [C.kK]
      exact pt_chain (op_cmp op C.room) (op_cmp op' C.room) ((pe_ok S a).1 tl X sc N W e C T hA.1 hB.1 h3) ((pe_ok S b).1 tl X sc N W f C T hA.2.1 hB.2.1 h4) ((pe_ok S c).1 tl X sc N W k C T hA.2.2 hB.2.2 h5) (marks_of h6)
    all_goals first | (rename_i heq; cases heq; done) | cases h
  | .and es => by
    have A : PeOk S (.and es) := fun tl X sc N W x C T hA hB h => by
      unfold chk at h
      split at h
      case h_13 =>
        rename_i xs pos heq
        cases heq
        exact ((pa_ok S es).2.1 tl X sc N W xs pos C T hA hB h).1
      all_goals first | (rename_i heq; cases heq; done) | cases h
    refine ⟨A, fun tl X sc N W x ho C T hA hB h => ?_⟩
    unfold chk at h
    split at h
    case h_13 =>
      rename_i xs pos heq
      cases heq
      exact ((pa_ok S es).2.2 tl X sc N W xs pos ho C T hA hB h).1.pt
    all_goals first | (rename_i heq; cases heq; done) | cases h
  | .or es => by
    have A : PeOk S (.or es) := fun tl X sc N W x C T hA hB h => by
      unfold chk at h
      split at h
      case h_14 =>
        rename_i xs pos heq
        cases heq
        exact ((pa_ok S es).2.1 tl X sc N W xs pos C T hA hB h).2
      all_goals first | (rename_i heq; cases heq; done) | cases h
    refine ⟨A, fun tl X sc N W x ho C T hA hB h => ?_⟩
    unfold chk at h
    split at h
    case h_14 =>
      rename_i xs pos heq
      cases heq
      exact ((pa_ok S es).2.2 tl X sc N W xs pos ho C T hA hB h).2.pt
    all_goals first | (rename_i heq; cases heq; done) | cases h
  | .ife c a b => by
    have A : PeOk S (.ife c a b) := fun tl X sc N W x C T hA hB h => by
      unfold chk at h
      split at h
      case h_15 =>
        rename_i k e f pos heq
        cases heq
        obtain ⟨h, h3⟩ := and2 h
        obtain ⟨h1, h2⟩ := and2 h
        exact pe_ifExp ((pe_ok S c).2 tl X sc N W k hB.1 C T hA.1 hB.2.1 h1) ((pe_ok S a).1 tl X sc N W e C T hA.2.1 hB.2.2.1 h2) ((pe_ok S b).1 tl X sc N W f C T hA.2.2 hB.2.2.2 h3)
      all_goals first | (rename_i heq; cases heq; done) | cases h
    exact ⟨A, fun tl X sc N W x ho => by cases ho⟩
  | .tup es => by
    have A : PeOk S (.tup es) := fun tl X sc N W x C T hA hB h => by
      unfold chk at h
      split at h
      case h_16 =>
        rename_i xs k pos heq
        cases heq
        exact pe_tup ((pa_ok S es).1 tl X sc N W xs C T hA hB h)
      all_goals first | (rename_i heq; cases heq; done) | cases h
    exact ⟨A, fun tl X sc N W x ho => by cases ho⟩
  | .lst es => by
    have A : PeOk S (.lst es) := fun tl X sc N W x C T hA hB h => by
      unfold chk at h
      split at h
      case h_17 =>
        rename_i xs pos heq
        cases heq
        exact pe_lst ((pa_ok S es).1 tl X sc N W xs C T hA hB h)
      all_goals first | (rename_i heq; cases heq; done) | cases h
    exact ⟨A, fun tl X sc N W x ho => by cases ho⟩
  | .ix a b => by
    have A : PeOk S (.ix a b) := fun tl X sc N W x C T hA hB h => by
      unfold chk at h
      split at h
      case h_18 =>
        rename_i e f pos heq
        cases heq
        obtain ⟨h, h3⟩ := and2 h
        obtain ⟨h1, h2⟩ := and2 h
        show PE X _ (tOp (rIx S.g.K) (tr S.g a W) (tr S.g b W))
        rw [C.kK]
        exact pe_ix ix_seq ((pe_ok S a).1 tl X sc N W e C T hA.1 hB.1 h1) ((pe_ok S b).1 tl X sc N W f C T hA.2 hB.2 h2) (plainIx_of h3)
      all_goals first | (rename_i heq; cases heq; done) | cases h
    exact ⟨A, fun tl X sc N W x ho => by cases ho⟩
  | .ixo i b => by
    have A : PeOk S (.ixo i b) := fun tl X sc N W x C T hA hB h => by
      unfold chk at h
      split at h
      case h_19 =>
        rename_i y p f pos heq
        cases heq
        obtain ⟨h, h3⟩ := and2 h
        obtain ⟨h1, h2⟩ := and2 h
        show PE X _ (tOp (rIx S.g.K) (tVar i) (tr S.g b W))
        rw [C.kK]
        exact pe_ix ix_seq (C.var h1) ((pe_ok S b).1 tl X sc N W f C T hA hB h2) (plainIx_of h3)
      all_goals first | (rename_i heq; cases heq; done) | cases h
    exact ⟨A, fun tl X sc N W x ho => by cases ho⟩
  | .ixg k tab b => by
    have A : PeOk S (.ixg k tab b) := fun tl X sc N W x C T hA hB h => by
      unfold chk at h
      split at h
      case h_20 =>
        rename_i y p f pos heq
        cases heq
        obtain ⟨h, h5⟩ := and2 h
        obtain ⟨h, h4⟩ := and2 h
        obtain ⟨h, h3⟩ := and2 h
        obtain ⟨h1, h2⟩ := and2 h
        have ey : y = gnm k := of_decide_eq_true h1
        obtain ⟨⟨m1, es, n, kd⟩, hA2⟩ := hA
        show PE X _ (tIxG S.g.K (S.g.gd k) (tr S.g b W))
        rw [C.kK]
        refine pe_ixG (k := k) (es := es) (n := n) (C.gl h2) (by rw [C.mg, ey]; exact m1) (by rw [C.K, C.w]; exact kd) ((pe_ok S b).1 tl X sc N W f C T hA2 hB.2 h4) h5 (ndb_ok h3).1
      all_goals first | (rename_i heq; cases heq; done) | cases h
    exact ⟨A, fun tl X sc N W x ho => by cases ho⟩
  | .sl a lo hi => by
    have A : PeOk S (.sl a lo hi) := fun tl X sc N W x C T hA hB h => by
      unfold chk at h
      split at h
      case h_21 =>
        rename_i e l u p pos heq
        cases heq
        obtain ⟨h, h3⟩ := and2 h
        obtain ⟨h1, h2⟩ := and2 h
        show PE X _ (tSl (rSl S.g.K) (tr S.g a W) (tro S.g lo W) (tro S.g hi W))
        rw [C.kK]
        exact pe_slice SlR_all ((pe_ok S a).1 tl X sc N W e C T hA.1 hB.1 h1) (po_ok S lo tl X sc N W l C T hA.2.1 hB.2.1 h2) (po_ok S hi tl X sc N W u C T hA.2.2 hB.2.2 h3)
      all_goals first | (rename_i heq; cases heq; done) | cases h
    exact ⟨A, fun tl X sc N W x ho => by cases ho⟩
  | .rev a => by
    have A : PeOk S (.rev a) := fun tl X sc N W x C T hA hB h => by
      unfold chk at h
      split at h
      case h_22 =>
        rename_i e m k p1 p2 p3 pos heq
        cases heq
        obtain ⟨h1, h2⟩ := and2 h
        have em : m = 1 := of_decide_eq_true h1
        subst em
        show PE X _ (tRevA S.g.K (tr S.g a W))
        rw [C.kK]
        exact pe_revA ((pe_ok S a).1 tl X sc N W e C T hA hB h2)
      all_goals first | (rename_i heq; cases heq; done) | cases h
    exact ⟨A, fun tl X sc N W x ho => by cases ho⟩
  | .call f F es => by
    have A : PeOk S (.call f F es) := fun tl X sc N W x C T hA hB h => by
      unfold chk at h
      split at h
      case h_23 =>
        rename_i y p z zs pos heq
        cases heq
        obtain ⟨h, h4⟩ := and2 h
        obtain ⟨h, h3⟩ := and2 h
        obtain ⟨h1, h2⟩ := and2 h
        have ey : y = fnm f := of_decide_eq_true h1
        obtain ⟨⟨fa, fd, ps, kk, hF, hk, hm, hkp, hb⟩, hA2⟩ := hA
        have hst := chks_star h4
        rw [List.all_cons] at hst
        obtain ⟨s1, s2⟩ := and2 hst
        show PE X _ (tCallS (spF S.g.cl es.len F) (fun _ => W) (trs S.g es W))
        refine pe_callS (CX := L2N.CX X.prog X.w) (k := kk) (f := fa) (fd := fd) (ps := ps) (E := fun _ => W) ?_ (C.room.mono hk) (C.gl h2) (by rw [C.mg, ey]; exact hm) (by rw [C.K]; exact hkp) (by rw [C.K]; exact hb) (fun σ => L2N.passAt C.tk σ) ((pa_ok S es).1 tl X sc N W (z :: zs) C T hA2 hB h4) (ndb_ok h3).1 (star_cons s1) (star_any s2)
        rw [C.prog, C.w, C.K, C.mg, C.base]
        exact hF
      all_goals first | (rename_i heq; cases heq; done) | cases h
    refine ⟨A, fun tl X sc N W x ho C T hA hB h => ?_⟩
    have q := A tl X sc N W x C T hA hB h
    unfold chk at h
    split at h
    case h_23 =>
      rename_i y p z zs pos heq
      cases heq
      exact pt_val q
    all_goals first | (rename_i heq; cases heq; done) | cases h
  | .leno i => by
    have A : PeOk S (.leno i) := fun tl X sc N W x C T hA hB h => by
      unfold chk at h
      split at h
      case h_24 =>
        rename_i y p z q pos heq
        cases heq
        obtain ⟨h1, h2⟩ := and2 h
        have b1 := C.bl h1
        show PE X _ (tCB (rB1 S.g.K .len) (tCons (tVar i) tNil))
        rw [C.kK]
        exact pe_callB call_len b1.gl b1.mg (by rw [b1.eq]; decide +kernel) (pa_cons (C.var h2) pa_nil (st_one rfl)) b1.nn b1.nd (st_one rfl) (star_any rfl)
      all_goals first | (rename_i heq; cases heq; done) | cases h
    exact ⟨A, fun tl X sc N W x ho => by cases ho⟩
  | .b1 f a => by
    have A : PeOk S (.b1 f a) := fun tl X sc N W x C T hA hB h => by
      unfold chk at h
      split at h
      case h_25 =>
        rename_i y p e pos heq
        cases heq
        obtain ⟨h, h3⟩ := and2 h
        obtain ⟨h1, h2⟩ := and2 h
        have b1 := C.bl h1
        have hc := cr_b1 (X := X) f C.calm (by have := C.room.un; omega)
        show PE X _ (tCB (rB1 S.g.K f) (tCons (tr S.g a W) tNil))
        rw [C.kK]
        have pa : PA X [e] (tCons (tr S.g a W) tNil) := pa_cons ((pe_ok S a).1 tl X sc N W e C T hA hB h3) pa_nil (st_one h2)
        cases q : b1T f with
        | some T =>
          rw [q] at hc
          exact pe_callTy hc.1 b1.gl b1.mg (by rw [b1.eq]; exact hc.2) pa b1.nn b1.nd (st_one h2) (star_any rfl)
        | none =>
          rw [q] at hc
          exact pe_callB hc.1 b1.gl b1.mg (by rw [b1.eq]; exact hc.2) pa b1.nn b1.nd (st_one h2) (star_any rfl)
      all_goals first | (rename_i heq; cases heq; done) | cases h
    refine ⟨A, fun tl X sc N W x ho C T hA hB h => ?_⟩
    have q := A tl X sc N W x C T hA hB h
    unfold chk at h
    split at h
    case h_25 =>
      rename_i y p e pos heq
      cases heq
      exact pt_val q
    all_goals first | (rename_i heq; cases heq; done) | cases h
  | .b2 f a b => by
    have A : PeOk S (.b2 f a b) := fun tl X sc N W x C T hA hB h => by
      unfold chk at h
      split at h
      case h_26 =>
        rename_i y p e k pos heq
        cases heq
        obtain ⟨h, h5⟩ := and2 h
        obtain ⟨h, h4⟩ := and2 h
        obtain ⟨h, h3⟩ := and2 h
        obtain ⟨h1, h2⟩ := and2 h
        have b1 := C.bl h1
        have hc := cr_b2 (X := X) f C.calm
        exact pe_callB hc.1 b1.gl b1.mg (by rw [b1.eq]; exact hc.2) (pa_cons ((pe_ok S a).1 tl X sc N W e C T hA.1 hB.1 h4) (pa_cons ((pe_ok S b).1 tl X sc N W k C T hA.2 hB.2 h5) pa_nil (st_one h3)) (star_cons h2)) b1.nn b1.nd (star_cons h2) (star_any (by simp [h3]))
      all_goals first | (rename_i heq; cases heq; done) | cases h
    exact ⟨A, fun tl X sc N W x ho => by cases ho⟩
  | .m1 m o a => by
    have A : PeOk S (.m1 m o a) := fun tl X sc N W x C T hA hB h => by
      unfold chk at h
      split at h
      case h_27 =>
        rename_i e y p f q heq
        cases heq
        obtain ⟨h, h6⟩ := and2 h
        obtain ⟨h, h5⟩ := and2 h
        obtain ⟨h, h4⟩ := and2 h
        obtain ⟨h, h3⟩ := and2 h
        obtain ⟨h1, h2⟩ := and2 h
        have ey : y = m1N m := of_decide_eq_true h1
        subst ey
        obtain ⟨r1, r2, r3⟩ := mt_m1 (X := X) (W := W) m C.calm
        show PE X _ (tBMS S.g.K "str" (rM S.g.K W m) (tr S.g o W) (tCons (tr S.g a W) tNil))
        rw [C.kK]
        exact pe_bmS PySem.F.plainAttrs_str r2 r3 r1 ((pe_ok S o).1 tl X sc N W e C T hA.1 hB.1 h2) (pa_cons ((pe_ok S a).1 tl X sc N W f C T hA.2 hB.2 h3) pa_nil (st_one h4)) (attrBase_of h5) (few_one h4) h6 (st_one h4) (star_any rfl)
      all_goals first | (rename_i heq; cases heq; done) | cases h
    exact ⟨A, fun tl X sc N W x ho => by cases ho⟩
  | .lc tg it elt => by
    have A : PeOk S (.lc tg it elt) := fun tl X sc N W x C T hA hB h => by
      unfold chk at h
      split at h
      case h_28 =>
        rename_i e t i scope pos heq
        cases heq
        obtain ⟨h, h5⟩ := and2 h
        obtain ⟨h, h4⟩ := and2 h
        obtain ⟨h, h3⟩ := and2 h
        obtain ⟨h1, h2⟩ := and2 h
        have q := pe_lc (X := X) (own := ownOf N tg.slots) (pos := pos) C.calm C.ndX (pi_ok S it tl X sc N W t i C T hA.1 hB.1 h2) (by rw [C.hN, C.hsc]; exact blkOk_by h4) (fun s H Ca cl fp => pg_ok (C.blk scope s H cl Ca fp) (.inl rfl) tg t h1) (fun s H Ca cl fp => pts_nil) (fun s H Ca cl fp => (pe_ok S elt).1 false _ (relS scope sc) N wF e (C.blk scope s H cl Ca fp) (fun z => by cases z) hA.2 hB.2 h5) (folded_of h3)
        rw [ownOf_snd] at q
        exact q
      all_goals first | (rename_i heq; cases heq; done) | cases h
    exact ⟨A, fun tl X sc N W x ho => by cases ho⟩
  | .lcf tg it c elt => by
    have A : PeOk S (.lcf tg it c elt) := fun tl X sc N W x C T hA hB h => by
      unfold chk at h
      split at h
      case h_29 =>
        rename_i e t i f scope pos heq
        cases heq
        obtain ⟨h, h5⟩ := and2 h
        obtain ⟨h, h6⟩ := and2 h
        obtain ⟨h, h4⟩ := and2 h
        obtain ⟨h, h3⟩ := and2 h
        obtain ⟨h1, h2⟩ := and2 h
        have q := pe_lc (X := X) (own := ownOf N tg.slots) (pos := pos) C.calm C.ndX (pi_ok S it tl X sc N W t i C T hA.1 hB.1 h2) (by rw [C.hN, C.hsc]; exact blkOk_by h4) (fun s H Ca cl fp => pg_ok (C.blk scope s H cl Ca fp) (.inl rfl) tg t h1) (fun s H Ca cl fp => pts_one ((pe_ok S c).2 false _ (relS scope sc) N wF f hB.2.1 (C.blk scope s H cl Ca fp) (fun z => by cases z) hA.2.1 hB.2.2.1 h6)) (fun s H Ca cl fp => (pe_ok S elt).1 false _ (relS scope sc) N wF e (C.blk scope s H cl Ca fp) (fun z => by cases z) hA.2.2 hB.2.2.2 h5) (folded_of h3)
        rw [ownOf_snd] at q
        exact q
      all_goals first | (rename_i heq; cases heq; done) | cases h
    exact ⟨A, fun tl X sc N W x ho => by cases ho⟩
  | .told e => by
    have A : PeOk S (.told e) := fun tl X sc N W x C T hA hB h => by
      unfold chk at h
      split at h
      case h_30 =>
        rename_i y p ps body scope lpos pos heq
        cases heq
        obtain ⟨h, h5⟩ := and2 h
        obtain ⟨h, h4⟩ := and2 h
        obtain ⟨h, h3⟩ := and2 h
        obtain ⟨h1, h2⟩ := and2 h
        have ey : y = "_law_told" := of_decide_eq_true h1
        subst ey
        exact T hB.1 ps body scope lpos p pos _ (LamX.lamS_by h3) (C.gl h2) h4 fun X' E C' => (pe_ok S e).1 false X' scope N E body C' (fun z => by cases z) hA hB.2 h5
      all_goals first | (rename_i heq; cases heq; done) | cases h
    exact ⟨A, fun tl X sc N W x ho => by cases ho⟩
  | .callS f es => by
    have A : PeOk S (.callS f es) := fun tl X sc N W x C T hA hB h => by
      unfold chk at h
      split at h
      case h_31 =>
        rename_i y p z zs pos heq
        cases heq
        obtain ⟨h, h4⟩ := and2 h
        obtain ⟨h, h3⟩ := and2 h
        obtain ⟨h1, h2⟩ := and2 h
        have ey : y = fnm f := of_decide_eq_true h1
        obtain ⟨⟨fa, fd, ps, kk, hF, hk, hm, hkp, hb⟩, hA2⟩ := hA
        have hst := chks_star h4
        rw [List.all_cons] at hst
        obtain ⟨s1, s2⟩ := and2 hst
        show PE X _ (tCallS (S.g.sp f) (fun _ => W) (trs S.g es W))
        refine pe_callS (CX := L2N.CX X.prog X.w) (k := kk) (f := fa) (fd := fd) (ps := ps) (E := fun _ => W) ?_ (C.room.mono hk) (C.gl h2) (by rw [C.mg, ey]; exact hm) (by rw [C.K]; exact hkp) (by rw [C.K]; exact hb) (fun σ => L2N.passAt C.tk σ) ((pa_ok S es).1 tl X sc N W (z :: zs) C T hA2 hB h4) (ndb_ok h3).1 (star_cons s1) (star_any s2)
        rw [C.prog, C.w, C.K, C.mg, C.base]
        exact hF
      all_goals first | (rename_i heq; cases heq; done) | cases h
    exact ⟨A, fun tl X sc N W x ho => by cases ho⟩
  | .dget i k d => by
    have A : PeOk S (.dget i k d) := fun tl X sc N W x C T hA hB h => by
      unfold chk at h
      split at h
      case h_32 =>
        rename_i y p1 m p f e q heq
        cases heq
        obtain ⟨h, h7⟩ := and2 h
        obtain ⟨h, h6⟩ := and2 h
        obtain ⟨h, h5⟩ := and2 h
        obtain ⟨h, h4⟩ := and2 h
        obtain ⟨h, h3⟩ := and2 h
        obtain ⟨h1, h2⟩ := and2 h
        have em : m = "get" := of_decide_eq_true h1
        subst em
        have hst : starEach [f, e] X.env = [(false, eval f X.env), (false, eval e X.env)] := (star_cons h5).trans (by rw [st_one h6])
        refine pe_dget2 (by have := C.room.un; omega) (C.var h2) ((pe_ok S k).1 tl X sc N W f C T hA.1 hB.1 h3) ((pe_ok S d).1 tl X sc N W e C T hA.2 hB.2 h4) ⟨rfl, ?_, h7, ?_⟩
        · rw [hst]
          rfl
        · rw [hst]
          rfl
      all_goals first | (rename_i heq; cases heq; done) | cases h
    refine ⟨A, fun tl X sc N W x ho C T hA hB h => ?_⟩
    have q := A tl X sc N W x C T hA hB h
    unfold chk at h
    split at h
    case h_32 =>
      rename_i y p1 m p f e q heq
      cases heq
      exact pt_val q
    all_goals first | (rename_i heq; cases heq; done) | cases h
  | .din i k => by
    have A : PeOk S (.din i k) := fun tl X sc N W x C T hA hB h => by
      unfold chk at h
      split at h
      case h_33 =>
        rename_i f o y p pos heq
        cases heq
        obtain ⟨h, h3⟩ := and2 h
        obtain ⟨h1, h2⟩ := and2 h
        have eo : o = CmpOp.In := of_decide_eq_true h1
        subst eo
        exact pe_cmp (pc_din (by have := C.room.un; omega) ((pe_ok S k).1 tl X sc N W f C T hA hB h2) (C.var h3)) (marks_of rfl)
      all_goals first | (rename_i heq; cases heq; done) | cases h
    refine ⟨A, fun tl X sc N W x ho C T hA hB h => ?_⟩
    unfold chk at h
    split at h
    case h_33 =>
      rename_i f o y p pos heq
      cases heq
      obtain ⟨h, h3⟩ := and2 h
      obtain ⟨h1, h2⟩ := and2 h
      have eo : o = CmpOp.In := of_decide_eq_true h1
      subst eo
      exact pt_cmp (pc_din (by have := C.room.un; omega) ((pe_ok S k).1 tl X sc N W f C T hA hB h2) (C.var h3)) (marks_of rfl)
    all_goals first | (rename_i heq; cases heq; done) | cases h
  | .dnin i k => by
    have A : PeOk S (.dnin i k) := fun tl X sc N W x C T hA hB h => by
      unfold chk at h
      split at h
      case h_34 =>
        rename_i f o y p pos heq
        cases heq
        obtain ⟨h, h3⟩ := and2 h
        obtain ⟨h1, h2⟩ := and2 h
        have eo : o = CmpOp.NotIn := of_decide_eq_true h1
        subst eo
        exact pe_cmp (pc_dnotin (by have := C.room.un; omega) ((pe_ok S k).1 tl X sc N W f C T hA hB h2) (C.var h3)) (marks_of rfl)
      all_goals first | (rename_i heq; cases heq; done) | cases h
    refine ⟨A, fun tl X sc N W x ho C T hA hB h => ?_⟩
    unfold chk at h
    split at h
    case h_34 =>
      rename_i f o y p pos heq
      cases heq
      obtain ⟨h, h3⟩ := and2 h
      obtain ⟨h1, h2⟩ := and2 h
      have eo : o = CmpOp.NotIn := of_decide_eq_true h1
      subst eo
      exact pt_cmp (pc_dnotin (by have := C.room.un; omega) ((pe_ok S k).1 tl X sc N W f C T hA hB h2) (C.var h3)) (marks_of rfl)
    all_goals first | (rename_i heq; cases heq; done) | cases h
  | .dix i k => by
    have A : PeOk S (.dix i k) := fun tl X sc N W x C T hA hB h => by
      unfold chk at h
      split at h
      case h_35 =>
        rename_i y p f pos heq
        cases heq
        obtain ⟨h, h3⟩ := and2 h
        obtain ⟨h1, h2⟩ := and2 h
        exact pe_dget (by have := C.room.un; omega) (C.var h1) ((pe_ok S k).1 tl X sc N W f C T hA hB h2) (plainIx_of h3)
      all_goals first | (rename_i heq; cases heq; done) | cases h
    exact ⟨A, fun tl X sc N W x ho => by cases ho⟩
  | .slk a lo hi => by
    have A : PeOk S (.slk a lo hi) := fun tl X sc N W x C T hA hB h => by
      unfold chk at h
      split at h
      case h_36 =>
        rename_i e l u p pos heq
        cases heq
        obtain ⟨h, h3⟩ := and2 h
        obtain ⟨h1, h2⟩ := and2 h
        show PE X _ (tSl (rSlK S.g.K) (tr S.g a W) (tro S.g lo W) (tro S.g hi W))
        rw [C.kK]
        exact pe_slice sl_tupK ((pe_ok S a).1 tl X sc N W e C T hA.1 hB.1 h1) (po_ok S lo tl X sc N W l C T hA.2.1 hB.2.1 h2) (po_ok S hi tl X sc N W u C T hA.2.2 hB.2.2 h3)
      all_goals first | (rename_i heq; cases heq; done) | cases h
    exact ⟨A, fun tl X sc N W x ho => by cases ho⟩
  | .cntk o a => by
    have A : PeOk S (.cntk o a) := fun tl X sc N W x C T hA hB h => by
      unfold chk at h
      split at h
      case h_37 =>
        rename_i e y p f q heq
        cases heq
        obtain ⟨h, h6⟩ := and2 h
        obtain ⟨h, h5⟩ := and2 h
        obtain ⟨h, h4⟩ := and2 h
        obtain ⟨h, h3⟩ := and2 h
        obtain ⟨h1, h2⟩ := and2 h
        have ey : y = "count" := of_decide_eq_true h1
        subst ey
        show PE X _ (tCntK S.g.K (tr S.g o W) (tCons (tr S.g a W) tNil))
        rw [C.kK]
        exact pe_cntK (by have := C.room.un; omega) ((pe_ok S o).1 tl X sc N W e C T hA.1 hB.1 h2) (pa_cons ((pe_ok S a).1 tl X sc N W f C T hA.2 hB.2 h3) pa_nil (st_one h4)) (attrBase_of0 h5) (few_one h4) h6 (star_cons h4) (star_any rfl)
      all_goals first | (rename_i heq; cases heq; done) | cases h
    exact ⟨A, fun tl X sc N W x ho => by cases ho⟩
  | .iget i k d => by
    have A : PeOk S (.iget i k d) := fun tl X sc N W x C T hA hB h => by
      unfold chk at h
      split at h
      case h_38 =>
        rename_i y p1 m p f e q heq
        cases heq
        obtain ⟨h, h7⟩ := and2 h
        obtain ⟨h, h6⟩ := and2 h
        obtain ⟨h, h5⟩ := and2 h
        obtain ⟨h, h4⟩ := and2 h
        obtain ⟨h, h3⟩ := and2 h
        obtain ⟨h1, h2⟩ := and2 h
        have em : m = "get" := of_decide_eq_true h1
        subst em
        have hst : starEach [f, e] X.env = [(false, eval f X.env), (false, eval e X.env)] := (star_cons h5).trans (by rw [st_one h6])
        refine pe_dget2 (by have := C.room.un; omega) (C.var h2) ((pe_ok S k).1 tl X sc N W f C T hA.1 hB.1 h3) ((pe_ok S d).1 tl X sc N W e C T hA.2 hB.2 h4) ⟨rfl, ?_, h7, ?_⟩
        · rw [hst]
          rfl
        · rw [hst]
          rfl
      all_goals first | (rename_i heq; cases heq; done) | cases h
    exact ⟨A, fun tl X sc N W x ho => by cases ho⟩
  | .iix i k => by
    have A : PeOk S (.iix i k) := fun tl X sc N W x C T hA hB h => by
      unfold chk at h
      split at h
      case h_39 =>
        rename_i y p f pos heq
        cases heq
        obtain ⟨h, h3⟩ := and2 h
        obtain ⟨h1, h2⟩ := and2 h
        exact pe_dget (by have := C.room.un; omega) (C.var h1) ((pe_ok S k).1 tl X sc N W f C T hA hB h2) (plainIx_of h3)
      all_goals first | (rename_i heq; cases heq; done) | cases h
    exact ⟨A, fun tl X sc N W x ho => by cases ho⟩
  | .snin i k => by
    have A : PeOk S (.snin i k) := fun tl X sc N W x C T hA hB h => by
      unfold chk at h
      split at h
      case h_40 =>
        rename_i f o y p pos heq
        cases heq
        obtain ⟨h, h3⟩ := and2 h
        obtain ⟨h1, h2⟩ := and2 h
        have eo : o = CmpOp.NotIn := of_decide_eq_true h1
        subst eo
        show PE X _ (tSNin S.g.w (tr S.g k W) (tVar i))
        rw [C.kw]
        exact pe_cmp (pc_snin (by have := C.room.un; omega) ((pe_ok S k).1 tl X sc N W f C T hA hB h2) (C.var h3)) (marks_of rfl)
      all_goals first | (rename_i heq; cases heq; done) | cases h
    refine ⟨A, fun tl X sc N W x ho C T hA hB h => ?_⟩
    unfold chk at h
    split at h
    case h_40 =>
      rename_i f o y p pos heq
      cases heq
      obtain ⟨h, h3⟩ := and2 h
      obtain ⟨h1, h2⟩ := and2 h
      have eo : o = CmpOp.NotIn := of_decide_eq_true h1
      subst eo
      show PT X _ (tTest (tSNin S.g.w (tr S.g k W) (tVar i)))
      rw [C.kw]
      exact pt_cmp (pc_snin (by have := C.room.un; omega) ((pe_ok S k).1 tl X sc N W f C T hA hB h2) (C.var h3)) (marks_of rfl)
    all_goals first | (rename_i heq; cases heq; done) | cases h
  | .six i k => by
    have A : PeOk S (.six i k) := fun tl X sc N W x C T hA hB h => by
      unfold chk at h
      split at h
      case h_41 =>
        rename_i y p f pos heq
        cases heq
        obtain ⟨h, h3⟩ := and2 h
        obtain ⟨h1, h2⟩ := and2 h
        show PE X _ (tSGet S.g.w (tVar i) (tr S.g k W))
        rw [C.kw]
        exact pe_sget (by have := C.room.un; omega) (C.var h1) ((pe_ok S k).1 tl X sc N W f C T hA hB h2) (plainIx_of h3)
      all_goals first | (rename_i heq; cases heq; done) | cases h
    exact ⟨A, fun tl X sc N W x ho => by cases ho⟩
  | .slen i => by
    have A : PeOk S (.slen i) := fun tl X sc N W x C T hA hB h => by
      unfold chk at h
      split at h
      case h_42 =>
        rename_i y p z q pos heq
        cases heq
        obtain ⟨h1, h2⟩ := and2 h
        have b1 := C.bl h1
        show PE X _ (tCB (rLenS S.g.w) (tCons (tVar i) tNil))
        rw [C.kw]
        exact pe_callB cr_lenS b1.gl b1.mg (by rw [b1.eq]; decide +kernel) (pa_cons (C.var h2) pa_nil (st_one rfl)) b1.nn b1.nd (st_one rfl) (star_any rfl)
      all_goals first | (rename_i heq; cases heq; done) | cases h
    exact ⟨A, fun tl X sc N W x ho => by cases ho⟩
  | .slist i => by
    have A : PeOk S (.slist i) := fun tl X sc N W x C T hA hB h => by
      unfold chk at h
      split at h
      case h_43 =>
        rename_i y p z q pos heq
        cases heq
        obtain ⟨h1, h2⟩ := and2 h
        have b1 := C.bl h1
        show PE X _ (tCB (rListS S.g.w) (tCons (tVar i) tNil))
        rw [C.kw]
        exact pe_callTy (cr_listS C.calm) b1.gl b1.mg (by rw [b1.eq]; decide +kernel) (pa_cons (C.var h2) pa_nil (st_one rfl)) b1.nn b1.nd (st_one rfl) (star_any rfl)
      all_goals first | (rename_i heq; cases heq; done) | cases h
    exact ⟨A, fun tl X sc N W x ho => by cases ho⟩
  | .ilist i => by
    have A : PeOk S (.ilist i) := fun tl X sc N W x C T hA hB h => by
      unfold chk at h
      split at h
      case h_44 =>
        rename_i y p z q pos heq
        cases heq
        obtain ⟨h1, h2⟩ := and2 h
        have b1 := C.bl h1
        exact pe_callTy (call_list_dK C.calm) b1.gl b1.mg (by rw [b1.eq]; decide +kernel) (pa_cons (C.var h2) pa_nil (st_one rfl)) b1.nn b1.nd (st_one rfl) (star_any rfl)
      all_goals first | (rename_i heq; cases heq; done) | cases h
    exact ⟨A, fun tl X sc N W x ho => by cases ho⟩
theorem pa_ok (S : Sup) : ∀ es : Es, PaOk S es ∧ PandOk S es ∧ PandTOk S es
  | .nil => by
    refine ⟨fun tl X sc N W xs C T hA hB h => ?_, fun tl X sc N W xs pos C T hA hB h => ?_, fun tl X sc N W xs pos ho C T hA hB h => ?_⟩
    · cases xs with
      | nil => exact pa_nil
      | cons => cases h
    · exact ⟨⟨fun _ _ _ _ _ _ z => z.elim⟩, ⟨fun _ _ _ _ _ _ z => z.elim⟩⟩
    · exact ⟨⟨fun _ _ _ _ _ _ _ z => z.elim⟩, ⟨fun _ _ _ _ _ _ _ z => z.elim⟩⟩
  | .cons e .nil => by
    have inv : ∀ {sc : Scope} {N : List Str} {xs : List Expr}, chks sc N (.cons e .nil) xs = true → ∃ x, xs = [x] ∧ notStar x = true ∧ chk sc N e x = true := by
      intro sc N xs h
      cases xs with
      | nil => cases h
      | cons x xs =>
        have h : (notStar x && chk sc N e x && chks sc N .nil xs) = true := h
        obtain ⟨h, h3⟩ := and2 h
        obtain ⟨h1, h2⟩ := and2 h
        cases xs with
        | nil => exact ⟨x, rfl, h1, h2⟩
        | cons => cases h3
    refine ⟨fun tl X sc N W xs C T hA hB h => ?_, fun tl X sc N W xs pos C T hA hB h => ?_, fun tl X sc N W xs pos ho C T hA hB h => ?_⟩
    · obtain ⟨x, rfl, h1, h2⟩ := inv h
      exact pa_cons ((pe_ok S e).1 tl X sc N W x C T hA.1 hB.1 h2) pa_nil (st_one h1)
    · obtain ⟨x, rfl, h1, h2⟩ := inv h
      have q := (pe_ok S e).1 tl X sc N W x C T hA.1 hB.1 h2
      exact ⟨pe_one q, pe_one q⟩
    · obtain ⟨x, rfl, h1, h2⟩ := inv h
      have q := (pe_ok S e).2 tl X sc N W x (by simpa [okTs] using ho) C T hA.1 hB.1 h2
      exact ⟨pw_and1 q, pw_or1 q⟩
  | .cons e (.cons e' r) => by
    have ih := pa_ok S (.cons e' r)
    have inv : ∀ {sc : Scope} {N : List Str} {xs : List Expr}, chks sc N (.cons e (.cons e' r)) xs = true → ∃ x y ys, xs = x :: y :: ys ∧ notStar x = true ∧ chk sc N e x = true ∧ chks sc N (.cons e' r) (y :: ys) = true := by
      intro sc N xs h
      cases xs with
      | nil => cases h
      | cons x xs =>
        have h : (notStar x && chk sc N e x && chks sc N (.cons e' r) xs) = true := h
        obtain ⟨h, h3⟩ := and2 h
        obtain ⟨h1, h2⟩ := and2 h
        cases xs with
        | nil => cases h3
        | cons y ys => exact ⟨x, y, ys, rfl, h1, h2, h3⟩
    refine ⟨fun tl X sc N W xs C T hA hB h => ?_, fun tl X sc N W xs pos C T hA hB h => ?_, fun tl X sc N W xs pos ho C T hA hB h => ?_⟩
    · obtain ⟨x, y, ys, rfl, h1, h2, h3⟩ := inv h
      exact pa_cons ((pe_ok S e).1 tl X sc N W x C T hA.1 hB.1 h2) (ih.1 tl X sc N W (y :: ys) C T hA.2 hB.2 h3) (star_cons h1)
    · obtain ⟨x, y, ys, rfl, h1, h2, h3⟩ := inv h
      have q := (pe_ok S e).1 tl X sc N W x C T hA.1 hB.1 h2
      obtain ⟨i1, i2⟩ := ih.2.1 tl X sc N W (y :: ys) pos C T hA.2 hB.2 h3
      exact ⟨pe_and q i1, pe_or q i2⟩
    · obtain ⟨x, y, ys, rfl, h1, h2, h3⟩ := inv h
      have ho' : okT e = true ∧ okTs (.cons e' r) = true := and2 (show (okT e && okTs (.cons e' r)) = true from ho)
      have q := (pe_ok S e).2 tl X sc N W x ho'.1 C T hA.1 hB.1 h2
      obtain ⟨i1, i2⟩ := ih.2.2 tl X sc N W (y :: ys) pos ho'.2 C T hA.2 hB.2 h3
      exact ⟨pw_and q i1, pw_or q i2⟩
theorem po_ok (S : Sup) : ∀ o : Oe, PoOk S o
  | .none => fun tl X sc N W x C T hA hB h => by
    cases x with
    | none => exact po_none
    | some => cases h
  | .some e => fun tl X sc N W x C T hA hB h => by
    cases x with
    | none => cases h
    | some y => exact po_some ((pe_ok S e).1 tl X sc N W y C T hA hB h)
theorem pi_ok (S : Sup) : ∀ it : It, PiOk S it
  | .seq e => fun tl X sc N W t x C T hA hB h => by
    show PI X t x (iSeq S.g.K (tr S.g e W))
    rw [C.kK]
    exact pi_seq ((pe_ok S e).1 tl X sc N W x C T hA hB h)
  | .rng e => fun tl X sc N W t x C T hA hB h => by
    unfold chki at h
    split at h
    case h_2 =>
      rename_i f p y pos heq
      cases heq
      obtain ⟨h, h3⟩ := and2 h
      obtain ⟨h1, h2⟩ := and2 h
      have b1 := C.bl h1
      obtain ⟨eq, gl, mg, nn, nd⟩ := b1
      subst eq
      exact pi_range1 gl mg (pa_cons ((pe_ok S e).1 tl X sc N W y C T hA hB h3) pa_nil (st_one h2)) (st_one h2)
    all_goals first | (rename_i heq; cases heq; done) | cases h
  | .rng2 a b => fun tl X sc N W t x C T hA hB h => by
    unfold chki at h
    split at h
    case h_3 =>
      rename_i f p y z pos heq
      cases heq
      obtain ⟨h, h5⟩ := and2 h
      obtain ⟨h, h4⟩ := and2 h
      obtain ⟨h, h3⟩ := and2 h
      obtain ⟨h1, h2⟩ := and2 h
      have b1 := C.bl h1
      obtain ⟨eq, gl, mg, nn, nd⟩ := b1
      subst eq
      exact pi_range2 gl mg (pa_cons ((pe_ok S a).1 tl X sc N W y C T hA.1 hB.1 h4) (pa_cons ((pe_ok S b).1 tl X sc N W z C T hA.2 hB.2 h5) pa_nil (st_one h3)) (star_cons h2)) (by rw [star_cons h2, st_one h3]) (st_one h3)
    all_goals first | (rename_i heq; cases heq; done) | cases h
  | .enum e => fun tl X sc N W t x C T hA hB h => by
    unfold chki at h
    split at h
    case h_4 =>
      rename_i t _ _ _ _ f p y pos heq
      cases heq
      obtain ⟨h, h4⟩ := and2 h
      obtain ⟨h, h3⟩ := and2 h
      obtain ⟨h1, h2⟩ := and2 h
      have b1 := C.bl h1
      obtain ⟨eq, gl, mg, nn, nd⟩ := b1
      subst eq
      show PI X t _ (iEnA S.g.K (tCons (tr S.g e W) tNil))
      rw [C.kK]
      cases t with
      | Tuple es k tp => exact pi_enA gl mg (pa_cons ((pe_ok S e).1 tl X sc N W y C T hA hB h4) pa_nil (st_one h2)) (st_one h2)
      | _ => cases h3
    all_goals first | (rename_i heq; cases heq; done) | cases h
  | .ikeys i => fun tl X sc N W t x C T hA hB h => by
    cases x with
    | Name y p => exact pi_keysF (C.var h)
    | _ => cases h
end
end Fw

set_option Elab.async false
set_option linter.all false
set_option autoImplicit false
set_option maxRecDepth 100000
set_option maxHeartbeats 4000000
/-! FwPs: a checked body of statements has its reading; a def keeps its promise. -/
namespace Fw
open PySem L2

def locL (sc : Scope) (x : Str) : Bool := decide (sc.names.lookup x = some .local)
/-- a, b = u, v by locals: the pair is not kept -/
def swapB (sc : Scope) (x y : Str) (px py : Pos) (u v : Expr) : Bool :=
  locL sc x && locL sc y && decide (x ≠ y) && (px.line == py.line) && notStar u && notStar v && !(foldedForSure 8 u && foldedForSure 8 v) && !(constantsAlone 8 u && constantsAlone 8 v)
def swapB3 (sc : Scope) (x y z : Str) (px py pz : Pos) (u v w : Expr) : Bool :=
  (locL sc x && locL sc y && locL sc z) && (decide (x ≠ y) && decide (x ≠ z) && decide (y ≠ z)) && (py.line == px.line && pz.line == px.line) && (notStar u && notStar v && notStar w) && !(foldedForSure 8 u && (foldedForSure 8 v && foldedForSure 8 w)) && !(constantsAlone 8 u && (constantsAlone 8 v && constantsAlone 8 w))
def nlB (sc : Scope) : Expr → Bool
  | .Name id _ => decide (sc.names.lookup id ≠ some .local)
  | _ => true
/-- some target is no local name -/
def noSwapB (sc : Scope) (ts : List Expr) : Bool := ts.any (nlB sc)
def nmF (env : Env) (l : Nat) : Expr → Option Str
  | .Name id pos => if (env.kindOf id == some NameKind.local && pos.line == l) = true then some id else none
  | _ => none
def notTup : Expr → Bool
  | .Tuple _ _ _ => false
  | _ => true
theorem blockKind_of {env : Env} (h : env.scope.kind = .function) : env.blockKind = .function := by
  unfold Env.blockKind
  rw [h]
  rfl
theorem any_star {vs : List Expr} (h : vs.all notStar = true) : (vs.any fun | .Starred .. => true | _ => false) = false := by
  induction vs with
  | nil => rfl
  | cons a r ih =>
    rw [List.all_cons] at h
    obtain ⟨h1, h2⟩ := and2 h
    rw [List.any_cons, ih h2]
    cases a <;> first | rfl | cases h1
theorem swap_some {env : Env} {x y : Str} {px py pt pt2 : Pos} {kt k2 : Nat} {u v : Expr} (hk : env.scope.kind = .function) (h : swapB env.scope x y px py u v = true) :
    swappedStores [.Tuple [.Name x px, .Name y py] kt pt] (.Tuple [u, v] k2 pt2) env = pure (some [x, y]) := by
  unfold swapB at h
  obtain ⟨h, h8⟩ := and2 h
  obtain ⟨h, h7⟩ := and2 h
  obtain ⟨h, h6⟩ := and2 h
  obtain ⟨h, h5⟩ := and2 h
  obtain ⟨h, h4⟩ := and2 h
  obtain ⟨h, h3⟩ := and2 h
  obtain ⟨h1, h2⟩ := and2 h
  have k1 : env.kindOf x = some .local := of_decide_eq_true h1
  have k2' : env.kindOf y = some .local := of_decide_eq_true h2
  have hxy : x ≠ y := of_decide_eq_true h3
  have hst : ([u, v].any fun | .Starred .. => true | _ => false) = false := any_star (by simp [h5, h6])
  have hf : [u, v].all (foldedForSure 8) = false := by
    show (foldedForSure 8 u && (foldedForSure 8 v && true)) = false
    rw [Bool.and_true]
    exact (Bool.not_eq_true' _).mp h7
  have hc : [u, v].all (constantsAlone 8) = false := by
    show (constantsAlone 8 u && (constantsAlone 8 v && true)) = false
    rw [Bool.and_true]
    exact (Bool.not_eq_true' _).mp h8
  have hb := blockKind_of hk
  unfold swappedStores
  have hl : (py.line == px.line) = true := by rw [beq_iff_eq] at h4 ⊢; exact h4.symm
  have hyx : (y == x) = false := beq_eq_false_iff_ne.mpr (Ne.symm hxy)
  have hn : List.filterMap (fun (t : Expr) => match t with
      | .Name id pos => if (env.kindOf id == some NameKind.local && pos.line == ((List.head? [Expr.Name x px, Expr.Name y py]).map (·.pos.line)).getD 0) = true then some id else none
      | _ => none) [Expr.Name x px, Expr.Name y py] = [x, y] := by
    have e1 : (env.kindOf x == some NameKind.local && px.line == px.line) = true := by rw [k1]; simp
    have e2 : (env.kindOf y == some NameKind.local && py.line == px.line) = true := by rw [k2', hl]; rfl
    refine (List.filterMap_cons_some (b := x) ?_).trans ?_
    · exact if_pos e1
    · refine congrArg (x :: ·) ((List.filterMap_cons_some (b := y) ?_).trans rfl)
      exact if_pos e2
  have ff : ∀ {b : Bool}, b = false → ¬ b = true := fun h z => Bool.false_ne_true (h.symm.trans z)
  have c1 : (!([Expr.Name x px, Expr.Name y py].length == 2 || [Expr.Name x px, Expr.Name y py].length == 3) || [u, v].length != [Expr.Name x px, Expr.Name y py].length || env.blockKind != .function) = false := by
    rw [hb]
    rfl
  have c3 : ([x, y].length != [Expr.Name x px, Expr.Name y py].length || [x, y].eraseDups.length != [x, y].length) = false := by
    have e : [x, y].eraseDups = [x, y] := by simp [List.eraseDups_cons, hyx]
    rw [e]
    rfl
  dsimp only
  refine (if_neg (ff c1)).trans ((if_neg (ff hst)).trans ?_)
  refine (if_neg (ff (b := (List.length (List.filterMap _ _) != _ || _ != _)) ?_)).trans ((if_neg (ff hf)).trans ((if_neg (ff hc)).trans (congrArg (fun l => (pure (some l) : Sem (Option (List Str)))) hn)))
  exact (congrArg (fun l : List Str => l.length != [Expr.Name x px, Expr.Name y py].length || l.eraseDups.length != l.length) hn).trans c3
theorem fm_short {env : Env} {l : Nat} : ∀ {ts : List Expr}, noSwapB env.scope ts = true → (ts.filterMap (nmF env l)).length < ts.length
  | [], h => by cases h
  | t :: ts, h => by
    have le : (ts.filterMap (nmF env l)).length ≤ ts.length := List.length_filterMap_le _ _
    have none_case : nmF env l t = none → ((t :: ts).filterMap (nmF env l)).length < (t :: ts).length := fun q => by
      rw [List.filterMap_cons_none q]
      exact Nat.lt_succ_of_le le
    unfold noSwapB at h
    rw [List.any_cons, Bool.or_eq_true] at h
    rcases h with h | h
    · refine none_case ?_
      cases t with
      | Name id pos =>
        have hk : env.kindOf id ≠ some .local := of_decide_eq_true h
        have e : (env.kindOf id == some NameKind.local) = false := beq_eq_false_iff_ne.mpr hk
        exact if_neg (by rw [e]; exact Bool.false_ne_true)
      | _ => rfl
    · have ih := fm_short (l := l) h
      cases q : nmF env l t with
      | none => exact none_case q
      | some b =>
        rw [List.filterMap_cons_some q]
        exact Nat.succ_lt_succ ih
theorem swap_none {env : Env} {ts : List Expr} {v : Expr} {k : Nat} {p : Pos} (h : notTup v = true ∨ noSwapB env.scope ts = true) : swappedStores [.Tuple ts k p] v env = pure none := by
  cases v with
  | Tuple vs k2 p2 =>
    rcases h with h | h
    · cases h
    · unfold swappedStores
      dsimp only
      split
      · rfl
      · split
        · rfl
        · refine if_pos ?_
          have q := fm_short (l := ((ts.head?.map (·.pos.line)).getD 0)) h
          rw [Bool.or_eq_true]
          left
          rw [bne_iff_ne]
          exact Nat.ne_of_lt q
  | _ => rfl
theorem swaps_cell {v : Expr} {x : Str} {p : Pos} {l : Nat} {env : Env} (h : noComp v = true ∨ env.scope.names.lookup x = some .cell) : swapsWith v (some (.Name x p)) l env = pure false := by
  rcases h with h | h
  · exact swaps_of h
  · have hk : env.kindOf x = some .cell := h
    have e : (env.kindOf x == some NameKind.local) = false := by rw [hk]; rfl
    cases v <;> first
      | rfl
      | (unfold swapsWith; simp only [e, Bool.and_false, Bool.false_and])
theorem sole_one {t v : Expr} {l : Nat} {env : Env} (h : noComp v = true) : swapsWithSole [t] v l env = pure false := by
  cases v <;> first | rfl | cases h
theorem sole_of {ts : List Expr} {v : Expr} {k l : Nat} {p : Pos} {env : Env} : swapsWithSole [.Tuple ts k p] v l env = pure false := by
  cases v <;> rfl

/-! ### statements -/
mutual
def chkS (sc : Scope) (N : List Str) : Sm → Stmt → Bool
  | .set i e, .Assign [.Name x _] v _ => decide (N[i]? = some x) && locB false sc x && (noComp v || decide (sc.names.lookup x = some .cell)) && chk sc N e v
  | .setLc i tg it elt, .Assign [.Name x p] (.ListComp e gs scope q) _ => decide (N[i]? = some x) && locL sc x && (p.line == q.line) && !(scope.names.any fun (n, k) => n == x && (k == .local || k == .cell)) && chk sc N (.lc tg it elt) (.ListComp e gs scope q)
  | .setLcf i tg it c elt, .Assign [.Name x p] (.ListComp e gs scope q) _ => decide (N[i]? = some x) && locL sc x && (p.line == q.line) && !(scope.names.any fun (n, k) => n == x && (k == .local || k == .cell)) && chk sc N (.lcf tg it c elt) (.ListComp e gs scope q)
  | .own i es, .Assign [.Name x _] (.List xs _) _ => decide (N[i]? = some x) && locB false sc x && chks sc N es xs
  | .asg tg e, .Assign [.Tuple ts k p] v _ => chkT false sc N tg (.Tuple ts k p) && chk sc N e v && (notTup v || noSwapB sc ts)
  | .par i j a b, .Assign [.Tuple [.Name x px, .Name y py] _ _] (.Tuple [u, v] _ _) _ => decide (N[i]? = some x) && decide (N[j]? = some y) && swapB sc x y px py u v && chkR sc N a u && chkR sc N b v
  | .app i e, .Expr (.Call (.Attribute (.Name x _) m p) [v] [] q) _ => decide (m = "append") && vr sc N i x && notStar v && chk sc N e v && (p.endLine == q.line)
  | .dset i j e, .Assign [.Subscript (.Name x _) (.Constant (.int m) _ _) _] v _ => vr sc N i x && decide (m = ((j : Nat) : Int)) && noComp v && chk sc N e v
  | .expr e, .Expr v _ => noComp v && chk sc N e v
  | .ret e, .Return (some v) _ => chk sc N e v
  | .iff t a b, .If c xs ys _ => chk sc N t c && chkSs sc N a xs && chkSs sc N b ys
  | .rais c, .Raise (some (.Call (.Name x _) [.Constant (.str _) _ _] [] _)) none _ => decide (x = cnm c) && glb sc x && ndb x
  | .whil _ t b, .While c xs [] _ => chk sc N t c && chkSs sc N b xs
  | .for_ tg it b, .For t i xs [] _ => chkT false sc N tg t && chki sc N it t i && notSet i && chkSs sc N b xs
  | .dnew i, .Assign [.Name x _] (.Dict [] [] _) _ => decide (N[i]? = some x) && locB false sc x
  | .dput i k e, .Assign [.Subscript (.Name x _) f _] v _ => vr sc N i x && chk sc N k f && noComp v && chk sc N e v && notSlice f
  | .any, _ => true
  | .par3 i j l a b c, .Assign [.Tuple [.Name x px, .Name y py, .Name z pz] _ _] (.Tuple [u, v, w] _ _) _ => decide (N[i]? = some x) && decide (N[j]? = some y) && decide (N[l]? = some z) && swapB3 sc x y z px py pz u v w && chk sc N a u && chk sc N b v && chk sc N c w
  | .iput i k e, .Assign [.Subscript (.Name x _) f _] v _ => vr sc N i x && chk sc N k f && noComp v && chk sc N e v && notSlice f
  | .sput i k e, .Assign [.Subscript (.Name x _) f _] v _ => vr sc N i x && chk sc N k f && noComp v && chk sc N e v && notSlice f
  | .nsi i j, .Assign [.Tuple ts k p] (.Tuple [.Dict [] [] _, .Dict [] [] _] _ _) _ => chkT false sc N (.tup (.cons (.nm i) (.cons (.nm j) .nil))) (.Tuple ts k p) && noSwapB sc ts
  | .nix i j n, .Assign [.Tuple ts k p] (.Tuple [.Dict [] [] _, .Constant (.int m) _ _] _ _) _ => decide (n = m) && chkT false sc N (.tup (.cons (.nm i) (.cons (.nm j) .nil))) (.Tuple ts k p) && noSwapB sc ts
  | .sputp i k j a b, .Assign [.Tuple [.Subscript (.Name x _) f _, .Name y _] _ _] (.Tuple [u, v] _ _) _ => vr sc N i x && chk sc N k f && notSlice f && decide (N[j]? = some y) && locB false sc y && chk sc N a u && chk sc N b v && notStar u && notStar v
  | .iputp i k j a b, .Assign [.Tuple [.Subscript (.Name x _) f _, .Name y _] _ _] (.Tuple [u, v] _ _) _ => vr sc N i x && chk sc N k f && notSlice f && decide (N[j]? = some y) && locB false sc y && chk sc N a u && chk sc N b v && notStar u && notStar v
  | _, _ => false
def chkSs (sc : Scope) (N : List Str) : Ss → List Stmt → Bool
  | .nil, [] => true
  | .cons a r, s :: ss => chkS sc N a s && chkSs sc N r ss
  | _, _ => false
def chkR (sc : Scope) (N : List Str) : Ri → Expr → Bool
  | .ex e, x => chk sc N e x
  | .nl es, .List xs _ => chks sc N es xs
  | .nd, .Dict [] [] _ => true
  | .ni, .Dict [] [] _ => true
  | .ns, .Dict [] [] _ => true
  | _, _ => false
end
mutual
def ndAS (S : Sup) : Sm → Prop
  | .set _ e => ndA S e
  | .setLc _ tg it elt => ndA S (.lc tg it elt)
  | .setLcf _ tg it c elt => ndA S (.lcf tg it c elt)
  | .own _ es => ndAs S es
  | .asg _ e => ndA S e
  | .par _ _ a b => ndAR S a ∧ ndAR S b
  | .app _ e => ndA S e
  | .dset _ _ e => ndA S e
  | .expr e => ndA S e
  | .ret e => ndA S e
  | .iff c a b => ndA S c ∧ ndASs S a ∧ ndASs S b
  | .rais c => ExcOk S.wd S.g c
  | .whil _ c b => ndA S c ∧ ndASs S b
  | .for_ _ it b => ndAi S it ∧ ndASs S b
  | .dnew _ => True
  | .dput _ k e => ndA S k ∧ ndA S e
  | .iput _ k e => ndA S k ∧ ndA S e
  | .sput _ k e => ndA S k ∧ ndA S e
  | .any => True
  | .nsi _ _ => True
  | .sputp _ k _ a b => ndA S k ∧ ndA S a ∧ ndA S b
  | .iputp _ k _ a b => ndA S k ∧ ndA S a ∧ ndA S b
  | .nix _ _ _ => True
  | .par3 _ _ _ a b c => ndA S a ∧ ndA S b ∧ ndA S c
def ndASs (S : Sup) : Ss → Prop
  | .nil => True
  | .cons a r => ndAS S a ∧ ndASs S r
def ndAR (S : Sup) : Ri → Prop
  | .ex e => ndA S e
  | .nl es => ndAs S es
  | .nd => True
  | .ni => True
  | .ns => True
end
/-- a def's own frame -/
structure Fcx (S : Sup) (X : Cx) (sc : Scope) (N : List Str) (W : XK) : Prop extends Cxt S X sc N W where
  fn : ∀ x, X.fn x = true
  po : PassesOwn (model X.prog X.w) X.A X.env X.xe
  kind : sc.kind = .function
theorem ri_pe {S : Sup} {r : Ri} {tl : Bool} {X : Cx} {sc : Scope} {N : List Str} {W : XK} {x : Expr} (C : Cxt S X sc N W) (T : tl = true → Tld S X sc N) (hA : ndAR S r) (hB : ndR S.g tl r) (h : chkR sc N r x = true) : PE X x (trRi S.g r W) := by
  cases r with
  | ex e => exact (pe_ok S e).1 tl X sc N W x C T hA hB h
  | nl es =>
    cases x with
    | List xs p => exact pe_lst ((pa_ok S es).1 tl X sc N W xs C T hA hB h)
    | _ => cases h
  | nd =>
    cases x with
    | Dict ks vs p =>
      cases ks with
      | nil =>
        cases vs with
        | nil => exact pe_dnewT
        | cons => cases h
      | cons => cases h
    | _ => cases h
  | ni =>
    cases x with
    | Dict ks vs p =>
      cases ks with
      | nil =>
        cases vs with
        | nil => exact pe_dnewK
        | cons => cases h
      | cons => cases h
    | _ => cases h
  | ns =>
    cases x with
    | Dict ks vs p =>
      cases ks with
      | nil =>
        cases vs with
        | nil => show PE X _ (tSNew S.g.w); rw [C.kw]; exact pe_snew
        | cons => cases h
      | cons => cases h
    | _ => cases h
theorem asg_sub {o i : Expr} {pos : Pos} {env : Env} (h : notSlice i = true) : ∀ v, assign (.Subscript o i pos) env v = (do
      let ov ← holding [v] (eval o env)
      let iv ← holding [v, ov] (eval i env)
      standAt pos
      holding [v, ov, iv] (setItem ov iv v)
      release [v, ov, iv] []) := by
  intro v
  cases i <;> first | rfl | cases h
structure Sw3 (sc : Scope) (x y z : Str) (px py pz : Pos) (u v w : Expr) : Prop where
  lx : sc.names.lookup x = some .local
  ly : sc.names.lookup y = some .local
  lz : sc.names.lookup z = some .local
  xy : x ≠ y
  xz : x ≠ z
  yz : y ≠ z
  p1 : (py.line == px.line) = true
  p2 : (pz.line == px.line) = true
  su : notStar u = true
  sv : notStar v = true
  sw : notStar w = true
  fo : (foldedForSure 8 u && (foldedForSure 8 v && foldedForSure 8 w)) = false
  co : (constantsAlone 8 u && (constantsAlone 8 v && constantsAlone 8 w)) = false
theorem sw3_of {sc : Scope} {x y z : Str} {px py pz : Pos} {u v w : Expr} (h : swapB3 sc x y z px py pz u v w = true) : Sw3 sc x y z px py pz u v w := by
  unfold swapB3 at h
  obtain ⟨h, h6⟩ := and2 h
  obtain ⟨h, h5⟩ := and2 h
  obtain ⟨h, h4⟩ := and2 h
  obtain ⟨h, h3⟩ := and2 h
  obtain ⟨h1, h2⟩ := and2 h
  obtain ⟨a, a3⟩ := and2 h1
  obtain ⟨a1, a2⟩ := and2 a
  obtain ⟨b, b3⟩ := and2 h2
  obtain ⟨b1, b2⟩ := and2 b
  obtain ⟨c1, c2⟩ := and2 h3
  obtain ⟨d, d3⟩ := and2 h4
  obtain ⟨d1, d2⟩ := and2 d
  exact ⟨of_decide_eq_true a1, of_decide_eq_true a2, of_decide_eq_true a3, of_decide_eq_true b1, of_decide_eq_true b2, of_decide_eq_true b3, c1, c2, d1, d2, d3, (Bool.not_eq_true' _).mp h5, (Bool.not_eq_true' _).mp h6⟩
theorem swap_some3 {env : Env} {x y z : Str} {px py pz pt pt2 : Pos} {kt k2 : Nat} {u v w : Expr} (hk : env.scope.kind = .function) (h : Sw3 env.scope x y z px py pz u v w) :
    swappedStores [.Tuple [.Name x px, .Name y py, .Name z pz] kt pt] (.Tuple [u, v, w] k2 pt2) env = pure (some [x, y, z]) := by
  have k1 : env.kindOf x = some .local := h.lx
  have k2' : env.kindOf y = some .local := h.ly
  have k3 : env.kindOf z = some .local := h.lz
  have hst : ([u, v, w].any fun | .Starred .. => true | _ => false) = false := any_star (by simp [h.su, h.sv, h.sw])
  have hf : [u, v, w].all (foldedForSure 8) = false := by
    show (foldedForSure 8 u && (foldedForSure 8 v && (foldedForSure 8 w && true))) = false
    rw [Bool.and_true]
    exact h.fo
  have hc : [u, v, w].all (constantsAlone 8) = false := by
    show (constantsAlone 8 u && (constantsAlone 8 v && (constantsAlone 8 w && true))) = false
    rw [Bool.and_true]
    exact h.co
  have hb := blockKind_of hk
  unfold swappedStores
  have hyx : (y == x) = false := beq_eq_false_iff_ne.mpr (Ne.symm h.xy)
  have hzx : (z == x) = false := beq_eq_false_iff_ne.mpr (Ne.symm h.xz)
  have hzy : (z == y) = false := beq_eq_false_iff_ne.mpr (Ne.symm h.yz)
  have hn : List.filterMap (fun (t : Expr) => match t with
      | .Name id pos => if (env.kindOf id == some NameKind.local && pos.line == ((List.head? [Expr.Name x px, Expr.Name y py, Expr.Name z pz]).map (·.pos.line)).getD 0) = true then some id else none
      | _ => none) [Expr.Name x px, Expr.Name y py, Expr.Name z pz] = [x, y, z] := by
    have e1 : (env.kindOf x == some NameKind.local && px.line == px.line) = true := by rw [k1]; simp
    have e2 : (env.kindOf y == some NameKind.local && py.line == px.line) = true := by rw [k2', h.p1]; rfl
    have e3 : (env.kindOf z == some NameKind.local && pz.line == px.line) = true := by rw [k3, h.p2]; rfl
    refine (List.filterMap_cons_some (b := x) ?_).trans ?_
    · exact if_pos e1
    · refine congrArg (x :: ·) ((List.filterMap_cons_some (b := y) ?_).trans ?_)
      · exact if_pos e2
      · refine congrArg (y :: ·) ((List.filterMap_cons_some (b := z) ?_).trans rfl)
        exact if_pos e3
  have ff : ∀ {b : Bool}, b = false → ¬ b = true := fun h z => Bool.false_ne_true (h.symm.trans z)
  have c1 : (!([Expr.Name x px, Expr.Name y py, Expr.Name z pz].length == 2 || [Expr.Name x px, Expr.Name y py, Expr.Name z pz].length == 3) || [u, v, w].length != [Expr.Name x px, Expr.Name y py, Expr.Name z pz].length || env.blockKind != .function) = false := by
    rw [hb]
    rfl
  have c3 : ([x, y, z].length != [Expr.Name x px, Expr.Name y py, Expr.Name z pz].length || [x, y, z].eraseDups.length != [x, y, z].length) = false := by
    have e : [x, y, z].eraseDups = [x, y, z] := by simp [List.eraseDups_cons, hyx, hzx, hzy]
    rw [e]
    rfl
  dsimp only
  refine (if_neg (ff c1)).trans ((if_neg (ff hst)).trans ?_)
  refine (if_neg (ff (b := (List.length (List.filterMap _ _) != _ || _ != _)) ?_)).trans ((if_neg (ff hf)).trans ((if_neg (ff hc)).trans (congrArg (fun l => (pure (some l) : Sem (Option (List Str)))) hn)))
  exact (congrArg (fun l : List Str => l.length != [Expr.Name x px, Expr.Name y py, Expr.Name z pz].length || l.eraseDups.length != l.length) hn).trans c3
theorem ri_star {sc : Scope} {x y : Str} {px py : Pos} {u v : Expr} (h : swapB sc x y px py u v = true) : notStar u = true ∧ notStar v = true ∧ sc.names.lookup x = some .local ∧ sc.names.lookup y = some .local ∧ x ≠ y := by
  unfold swapB at h
  obtain ⟨h, _⟩ := and2 h
  obtain ⟨h, _⟩ := and2 h
  obtain ⟨h, h6⟩ := and2 h
  obtain ⟨h, h5⟩ := and2 h
  obtain ⟨h, _⟩ := and2 h
  obtain ⟨h, h3⟩ := and2 h
  obtain ⟨h1, h2⟩ := and2 h
  exact ⟨h5, h6, of_decide_eq_true h1, of_decide_eq_true h2, of_decide_eq_true h3⟩
def PsOk (S : Sup) (m : Sm) : Prop := ∀ (tl : Bool) (X : Cx) (sc : Scope) (N : List Str) (W : XK) (x : Stmt), Fcx S X sc N W → (tl = true → Tld S X sc N) → ndAS S m → ndS S.g tl m → chkS sc N m x = true → PS X x (trS S.g m W)
def PssOk (S : Sup) (m : Ss) : Prop := ∀ (tl : Bool) (X : Cx) (sc : Scope) (N : List Str) (W : XK) (x : List Stmt), Fcx S X sc N W → (tl = true → Tld S X sc N) → ndASs S m → ndSs S.g tl m → chkSs sc N m x = true → PSs X x (trSs S.g m W)
theorem inv_lc {sc : Scope} {N : List Str} {tg : Tg} {it : It} {elt : E} {x : Expr} (h : chk sc N (.lc tg it elt) x = true) : ∃ e t i scope q, x = .ListComp e [⟨t, i, [], 0⟩] scope q ∧ chkT true (relS scope sc) N tg t = true ∧ chki sc N it t i = true ∧ notSet i = true ∧ blkC N sc scope (ownOf N tg.slots) = true ∧ chk (relS scope sc) N elt e = true := by
  unfold chk at h
  split at h
  case h_28 =>
    rename_i e t i scope pos heq
    cases heq
    obtain ⟨h, h5⟩ := and2 h
    obtain ⟨h, h4⟩ := and2 h
    obtain ⟨h, h3⟩ := and2 h
    obtain ⟨h1, h2⟩ := and2 h
    exact ⟨e, t, i, scope, pos, rfl, h1, h2, h3, h4, h5⟩
  all_goals first | (rename_i heq; cases heq; done) | cases h
theorem inv_lcf {sc : Scope} {N : List Str} {tg : Tg} {it : It} {c elt : E} {x : Expr} (h : chk sc N (.lcf tg it c elt) x = true) : ∃ e t i f scope q, x = .ListComp e [⟨t, i, [f], 0⟩] scope q ∧ chkT true (relS scope sc) N tg t = true ∧ chki sc N it t i = true ∧ notSet i = true ∧ blkC N sc scope (ownOf N tg.slots) = true ∧ chk (relS scope sc) N c f = true ∧ chk (relS scope sc) N elt e = true := by
  unfold chk at h
  split at h
  case h_29 =>
    rename_i e t i f scope pos heq
    cases heq
    obtain ⟨h, h5⟩ := and2 h
    obtain ⟨h, h6⟩ := and2 h
    obtain ⟨h, h4⟩ := and2 h
    obtain ⟨h, h3⟩ := and2 h
    obtain ⟨h1, h2⟩ := and2 h
    exact ⟨e, t, i, f, scope, pos, rfl, h1, h2, h3, h4, h6, h5⟩
  all_goals first | (rename_i heq; cases heq; done) | cases h
mutual
theorem ps_ok (S : Sup) : ∀ m : Sm, PsOk S m
  | .set i e => fun tl X sc N W x F T hA hB h => by
    have C := F.toCxt
    unfold chkS at h
    split at h
    case h_1 =>
      rename_i y p v pos heq
      cases heq
      obtain ⟨h, h4⟩ := and2 h
      obtain ⟨h, h3⟩ := and2 h
      obtain ⟨h1, h2⟩ := and2 h
      exact ps_set C.ndX (C.nx (of_decide_eq_true h1)) (by rw [C.hsc]; exact (locB_ok h2).1) ((pe_ok S e).1 tl X sc N W v C T hA hB h4) (swaps_cell (by rw [C.hsc]; rw [Bool.or_eq_true] at h3; exact h3.imp id of_decide_eq_true)) (.inl (F.fn y))
    all_goals first | (rename_i heq; cases heq; done) | cases h
  | .setLc i tg it elt => fun tl X sc N W x F T hA hB h => by
    have C := F.toCxt
    unfold chkS at h
    split at h
    case h_2 =>
      rename_i y p e gs scope q pos heq
      cases heq
      obtain ⟨h, h5⟩ := and2 h
      obtain ⟨h, h4⟩ := and2 h
      obtain ⟨h, h3⟩ := and2 h
      obtain ⟨h1, h2⟩ := and2 h
      have hl : X.env.scope.names.lookup y = some .local := by rw [C.hsc]; exact of_decide_eq_true h2
      have hkd : X.env.scope.kind = .function := by rw [C.hsc]; exact F.kind
      have hsw := sw_true (elt := e) (gs := gs) (scope := scope) (pos := q) (py := p) (y := y) (l := pos.line) (env := X.env) hkd hl h3 ((Bool.not_eq_true' _).mp h4)
      obtain ⟨e', t, i', scope', q', hx, k1, k2, k3, k4, k5⟩ := inv_lc h5
      cases hx
      have z := ps_setLc (X := X) (own := ownOf N tg.slots) (spos := pos) C.calm C.ndX (C.nx (of_decide_eq_true h1)) hl hsw (pi_ok S it tl X sc N W t i' C T hA.1 hB.1 k2) (by rw [C.hN, C.hsc]; exact blkOk_by k4) (fun s H Ca cl fp => pg_ok (C.blk scope s H cl Ca fp) (.inl rfl) tg t k1) (fun s H Ca cl fp => pts_nil) (fun s H Ca cl fp => (pe_ok S elt).1 false _ (relS scope sc) N wF e (C.blk scope s H cl Ca fp) (fun z => by cases z) hA.2 hB.2 k5) (folded_of k3)
      rw [ownOf_snd] at z
      exact z
    all_goals first | (rename_i heq; cases heq; done) | cases h
  | .setLcf i tg it c elt => fun tl X sc N W x F T hA hB h => by
    have C := F.toCxt
    unfold chkS at h
    split at h
    case h_3 =>
      rename_i y p e gs scope q pos heq
      cases heq
      obtain ⟨h, h5⟩ := and2 h
      obtain ⟨h, h4⟩ := and2 h
      obtain ⟨h, h3⟩ := and2 h
      obtain ⟨h1, h2⟩ := and2 h
      have hl : X.env.scope.names.lookup y = some .local := by rw [C.hsc]; exact of_decide_eq_true h2
      have hkd : X.env.scope.kind = .function := by rw [C.hsc]; exact F.kind
      have hsw := sw_true (elt := e) (gs := gs) (scope := scope) (pos := q) (py := p) (y := y) (l := pos.line) (env := X.env) hkd hl h3 ((Bool.not_eq_true' _).mp h4)
      obtain ⟨e', t, i', f, scope', q', hx, k1, k2, k3, k4, k6, k5⟩ := inv_lcf h5
      cases hx
      have z := ps_setLc (X := X) (own := ownOf N tg.slots) (spos := pos) C.calm C.ndX (C.nx (of_decide_eq_true h1)) hl hsw (pi_ok S it tl X sc N W t i' C T hA.1 hB.1 k2) (by rw [C.hN, C.hsc]; exact blkOk_by k4) (fun s H Ca cl fp => pg_ok (C.blk scope s H cl Ca fp) (.inl rfl) tg t k1) (fun s H Ca cl fp => pts_one ((pe_ok S c).2 false _ (relS scope sc) N wF f hB.2.1 (C.blk scope s H cl Ca fp) (fun z => by cases z) hA.2.1 hB.2.2.1 k6)) (fun s H Ca cl fp => (pe_ok S elt).1 false _ (relS scope sc) N wF e (C.blk scope s H cl Ca fp) (fun z => by cases z) hA.2.2 hB.2.2.2 k5) (folded_of k3)
      rw [ownOf_snd] at z
      exact z
    all_goals first | (rename_i heq; cases heq; done) | cases h
  | .own i es => fun tl X sc N W x F T hA hB h => by
    have C := F.toCxt
    unfold chkS at h
    split at h
    case h_4 =>
      rename_i y p xs q pos heq
      cases heq
      obtain ⟨h, h3⟩ := and2 h
      obtain ⟨h1, h2⟩ := and2 h
      exact ps_set C.ndX (C.nx (of_decide_eq_true h1)) (by rw [C.hsc]; exact (locB_ok h2).1) (pe_lst ((pa_ok S es).1 tl X sc N W xs C T hA hB h3)) (swaps_of rfl) (.inl (F.fn y))
    all_goals first | (rename_i heq; cases heq; done) | cases h
  | .asg tg e => fun tl X sc N W x F T hA hB h => by
    have C := F.toCxt
    unfold chkS at h
    split at h
    case h_5 =>
      rename_i ts k p v pos heq
      cases heq
      obtain ⟨h, h3⟩ := and2 h
      obtain ⟨h1, h2⟩ := and2 h
      rw [Bool.or_eq_true] at h3
      exact ps_asg ((pe_ok S e).1 tl X sc N W v C T hA hB h2) (pg_ok C (.inr F.fn) tg _ h1) sole_of (swap_none (by rw [C.hsc]; exact h3)) rfl
    all_goals first | (rename_i heq; cases heq; done) | cases h
  | .par i j a b => fun tl X sc N W x F T hA hB h => by
    have C := F.toCxt
    unfold chkS at h
    split at h
    case h_6 =>
      rename_i y py z pz k1 p1 u v k2 p2 pos heq
      cases heq
      obtain ⟨h, h5⟩ := and2 h
      obtain ⟨h, h4⟩ := and2 h
      obtain ⟨h, h3⟩ := and2 h
      obtain ⟨h1, h2⟩ := and2 h
      obtain ⟨q1, q2, q3, q4, q5⟩ := ri_star h3
      have pa : PA X [u, v] (tCons (trRi S.g a W) (tCons (trRi S.g b W) tNil)) := pa_cons (ri_pe C T hA.1 hB.2.1 h4) (pa_cons (ri_pe (tl := false) C (fun z => by cases z) hA.2 hB.2.2 h5) pa_nil (st_one q2)) (star_cons q1)
      exact ps_par C.calm C.ndX (C.nx (of_decide_eq_true h1)) (C.nx (of_decide_eq_true h2)) hB.1 (by rw [C.hsc]; exact q3) (by rw [C.hsc]; exact q4) pa (swap_some (by rw [C.hsc]; exact F.kind) (by rw [C.hsc]; exact h3)) rfl
    all_goals first | (rename_i heq; cases heq; done) | cases h
  | .par3 i j l a b c => fun tl X sc N W x F T hA hB h => by
    have C := F.toCxt
    unfold chkS at h
    split at h
    case h_18 =>
      rename_i y py z pz r pr k1 p1 u v w k2 p2 pos heq
      cases heq
      obtain ⟨h, h7⟩ := and2 h
      obtain ⟨h, h6⟩ := and2 h
      obtain ⟨h, h5⟩ := and2 h
      obtain ⟨h, h4⟩ := and2 h
      obtain ⟨h, h3⟩ := and2 h
      obtain ⟨h1, h2⟩ := and2 h
      have q := sw3_of h4
      have pa : PA X [u, v, w] (tCons (tr S.g a W) (tCons (tr S.g b W) (tCons (tr S.g c W) tNil))) := pa_cons ((pe_ok S a).1 tl X sc N W u C T hA.1 hB.2.1 h5) (pa_cons ((pe_ok S b).1 tl X sc N W v C T hA.2.1 hB.2.2.1 h6) (pa_cons ((pe_ok S c).1 tl X sc N W w C T hA.2.2 hB.2.2.2 h7) pa_nil (st_one q.sw)) (star_cons q.sv)) (star_cons q.su)
      exact ps_par3 C.calm C.ndX (C.nx (of_decide_eq_true h1)) (C.nx (of_decide_eq_true h2)) (C.nx (of_decide_eq_true h3)) hB.1.1 hB.1.2.1 hB.1.2.2 (by rw [C.hsc]; exact q.lx) (by rw [C.hsc]; exact q.ly) (by rw [C.hsc]; exact q.lz) pa (swap_some3 (by rw [C.hsc]; exact F.kind) (by rw [C.hsc]; exact q)) rfl
    all_goals first | (rename_i heq; cases heq; done) | cases h
  | .app i e => fun tl X sc N W x F T hA hB h => by
    have C := F.toCxt
    unfold chkS at h
    split at h
    case h_7 =>
      rename_i y p1 m p v q pos heq
      cases heq
      obtain ⟨h, h5⟩ := and2 h
      obtain ⟨h, h4⟩ := and2 h
      obtain ⟨h, h3⟩ := and2 h
      obtain ⟨h1, h2⟩ := and2 h
      have em : m = "append" := of_decide_eq_true h1
      subst em
      show PS X _ (tDrop (tBM S.g.K "list" rAppend (tVar i) (tCons (tr S.g e W) tNil)))
      rw [C.kK]
      exact ps_expr (pe_bm PySem.F.plainAttrs_list PySem.F.slot_list_append PySem.F.type_list_append mt_append (C.var h2) (pa_cons ((pe_ok S e).1 tl X sc N W v C T hA hB h4) pa_nil (st_one h3)) rfl (few_one h3) h5 (st_one h3) (star_any rfl)) (swaps_of rfl)
    all_goals first | (rename_i heq; cases heq; done) | cases h
  | .dset i j e => fun tl X sc N W x F T hA hB h => by
    have C := F.toCxt
    unfold chkS at h
    split at h
    case h_8 =>
      rename_i y p1 m k p2 p3 v pos heq
      cases heq
      obtain ⟨h, h4⟩ := and2 h
      obtain ⟨h, h3⟩ := and2 h
      obtain ⟨h1, h2⟩ := and2 h
      have em : m = ((j : Nat) : Int) := of_decide_eq_true h2
      subst em
      exact ps_asg ((pe_ok S e).1 tl X sc N W v C T hA hB h4) (pg_sub (C.var h1) pe_int set_list) (sole_one h3) (by cases v <;> rfl) rfl
    all_goals first | (rename_i heq; cases heq; done) | cases h
  | .expr e => fun tl X sc N W x F T hA hB h => by
    have C := F.toCxt
    unfold chkS at h
    split at h
    case h_9 =>
      rename_i v pos heq
      cases heq
      obtain ⟨h1, h2⟩ := and2 h
      exact ps_expr ((pe_ok S e).1 tl X sc N W v C T hA hB h2) (swaps_of h1)
    all_goals first | (rename_i heq; cases heq; done) | cases h
  | .ret e => fun tl X sc N W x F T hA hB h => by
    have C := F.toCxt
    unfold chkS at h
    split at h
    case h_10 =>
      rename_i v pos heq
      cases heq
      exact ps_ret ((pe_ok S e).1 tl X sc N W v C T hA hB h)
    all_goals first | (rename_i heq; cases heq; done) | cases h
  | .iff c a b => fun tl X sc N W x F T hA hB h => by
    have C := F.toCxt
    unfold chkS at h
    split at h
    case h_11 =>
      rename_i k xs ys pos heq
      cases heq
      obtain ⟨h, h3⟩ := and2 h
      obtain ⟨h1, h2⟩ := and2 h
      exact ps_if ((pe_ok S c).2 tl X sc N W k hB.1 C T hA.1 hB.2.1 h1) (pss_ok S a tl X sc N W xs F T hA.2.1 hB.2.2.1 h2) (pss_ok S b tl X sc N W ys F T hA.2.2 hB.2.2.2 h3)
    all_goals first | (rename_i heq; cases heq; done) | cases h
  | .rais c => fun tl X sc N W x F T hA hB h => by
    have C := F.toCxt
    unfold chkS at h
    split at h
    case h_12 =>
      rename_i y p m k p2 p3 pos heq
      cases heq
      obtain ⟨h, h3⟩ := and2 h
      obtain ⟨h1, h2⟩ := and2 h
      have ey : y = cnm c := of_decide_eq_true h1
      obtain ⟨e1, e2, e3, e4, e5⟩ := hA
      exact L2N.ps_raise C.calm C.tk (L2N.pmk_own PySem.F.excBase_ValueError (by rw [C.K]; exact e2) (by rw [C.mg, ey]; exact e1) (by rw [C.K]; exact e3) (raises_own (by rw [C.K]; exact e4) (by rw [C.K]; exact e5)) (C.gl h2) (ndb_ok h3).1)
    all_goals first | (rename_i heq; cases heq; done) | cases h
  | .whil n c b => fun tl X sc N W x F T hA hB h => by
    have C := F.toCxt
    unfold chkS at h
    split at h
    case h_13 =>
      rename_i k xs pos heq
      cases heq
      obtain ⟨h1, h2⟩ := and2 h
      exact ps_while F.po ((pe_ok S c).2 tl X sc N W k hB.1 C T hA.1 hB.2.1 h1) (pss_ok S b tl X sc N W xs F T hA.2 hB.2.2 h2)
    all_goals first | (rename_i heq; cases heq; done) | cases h
  | .for_ tg it b => fun tl X sc N W x F T hA hB h => by
    have C := F.toCxt
    unfold chkS at h
    split at h
    case h_14 =>
      rename_i t i xs pos heq
      cases heq
      obtain ⟨h, h4⟩ := and2 h
      obtain ⟨h, h3⟩ := and2 h
      obtain ⟨h1, h2⟩ := and2 h
      exact ps_for F.po C.calm (pi_ok S it tl X sc N W t i C T hA.1 hB.1 h2) (pg_ok C (.inr F.fn) tg t h1) (pss_ok S b tl X sc N W xs F T hA.2 hB.2 h4) (folded_of h3)
    all_goals first | (rename_i heq; cases heq; done) | cases h
  | .dnew i => fun tl X sc N W x F T hA hB h => by
    have C := F.toCxt
    unfold chkS at h
    split at h
    case h_15 =>
      rename_i y p p2 pos heq
      cases heq
      obtain ⟨h1, h2⟩ := and2 h
      exact ps_set C.ndX (C.nx (of_decide_eq_true h1)) (by rw [C.hsc]; exact (locB_ok h2).1) pe_dnewT (swaps_of rfl) (.inl (F.fn y))
    all_goals first | (rename_i heq; cases heq; done) | cases h
  | .dput i k e => fun tl X sc N W x F T hA hB h => by
    have C := F.toCxt
    unfold chkS at h
    split at h
    case h_16 =>
      rename_i y p1 f p2 v pos heq
      cases heq
      obtain ⟨h, h5⟩ := and2 h
      obtain ⟨h, h4⟩ := and2 h
      obtain ⟨h, h3⟩ := and2 h
      obtain ⟨h1, h2⟩ := and2 h
      exact ps_dput (by have := C.room.un; omega) (C.var h1) ((pe_ok S k).1 tl X sc N W f C T hA.1 hB.1 h2) ((pe_ok S e).1 tl X sc N W v C T hA.2 hB.2 h4) (swaps_of h3)
    all_goals first | (rename_i heq; cases heq; done) | cases h
  | .iput i k e => fun tl X sc N W x F T hA hB h => by
    have C := F.toCxt
    unfold chkS at h
    split at h
    case h_19 =>
      rename_i y p1 f p2 v pos heq
      cases heq
      obtain ⟨h, h5⟩ := and2 h
      obtain ⟨h, h4⟩ := and2 h
      obtain ⟨h, h3⟩ := and2 h
      obtain ⟨h1, h2⟩ := and2 h
      exact ps_dput (by have := C.room.un; omega) (C.var h1) ((pe_ok S k).1 tl X sc N W f C T hA.1 hB.1 h2) ((pe_ok S e).1 tl X sc N W v C T hA.2 hB.2 h4) (swaps_of h3)
    all_goals first | (rename_i heq; cases heq; done) | cases h
  | .sput i k e => fun tl X sc N W x F T hA hB h => by
    have C := F.toCxt
    unfold chkS at h
    split at h
    case h_20 =>
      rename_i y p1 f p2 v pos heq
      cases heq
      obtain ⟨h, h5⟩ := and2 h
      obtain ⟨h, h4⟩ := and2 h
      obtain ⟨h, h3⟩ := and2 h
      obtain ⟨h1, h2⟩ := and2 h
      show PS X _ (sSPut S.g.w (tVar i) (tr S.g k W) (tr S.g e W))
      rw [C.kw]
      exact ps_sput (by have := C.room.un; omega) (C.var h1) ((pe_ok S k).1 tl X sc N W f C T hA.1 hB.1 h2) ((pe_ok S e).1 tl X sc N W v C T hA.2 hB.2 h4) (swaps_of h3)
    all_goals first | (rename_i heq; cases heq; done) | cases h
  | .sputp i k j a b => fun tl X sc N W x F T hA hB h => by
    have C := F.toCxt
    unfold chkS at h
    split at h
    case h_23 =>
      rename_i y p1 f p2 z p3 k1 p4 u v k2 p5 pos heq
      cases heq
      obtain ⟨h, h9⟩ := and2 h
      obtain ⟨h, h8⟩ := and2 h
      obtain ⟨h, h7⟩ := and2 h
      obtain ⟨h, h6⟩ := and2 h
      obtain ⟨h, h5⟩ := and2 h
      obtain ⟨h, h4⟩ := and2 h
      obtain ⟨h, h3⟩ := and2 h
      obtain ⟨h1, h2⟩ := and2 h
      obtain ⟨q1, _⟩ := locB_ok h5
      show PS X _ (tAsg (tTup (tCons (tr S.g a W) (tCons (tr S.g b W) tNil))) (gTup S.g.K 2 (gCons (gSub (tVar i) (tr S.g k W) (rSetS S.g.w)) (gCons (gName j) gNil))))
      rw [C.kK, C.kw]
      refine ps_asg (pe_tup (pa_cons ((pe_ok S a).1 tl X sc N W u C T hA.2.1 hB.2.1 h6) (pa_cons ((pe_ok S b).1 tl X sc N W v C T hA.2.2 hB.2.2 h7) pa_nil (st_one h9)) (star_cons h8))) (pg_tup C.calm (pgs_cons (pg_sub (C.var h1) ((pe_ok S k).1 tl X sc N W f C T hA.1 hB.1 h2) (set_S (by have := C.room.un; omega)) (asg_sub h3)) (pgs_cons (pg_name C.ndX (C.nx (of_decide_eq_true h4)) (by rw [C.hsc]; exact q1) (.inl (F.fn _))) pgs_nil rfl) rfl) rfl rfl) sole_of (swap_none (.inr rfl)) rfl
    all_goals first | (rename_i heq; cases heq; done) | cases h
  | .iputp i k j a b => fun tl X sc N W x F T hA hB h => by
    have C := F.toCxt
    unfold chkS at h
    split at h
    case h_24 =>
      rename_i y p1 f p2 z p3 k1 p4 u v k2 p5 pos heq
      cases heq
      obtain ⟨h, h9⟩ := and2 h
      obtain ⟨h, h8⟩ := and2 h
      obtain ⟨h, h7⟩ := and2 h
      obtain ⟨h, h6⟩ := and2 h
      obtain ⟨h, h5⟩ := and2 h
      obtain ⟨h, h4⟩ := and2 h
      obtain ⟨h, h3⟩ := and2 h
      obtain ⟨h1, h2⟩ := and2 h
      obtain ⟨q1, _⟩ := locB_ok h5
      show PS X _ (tAsg (tTup (tCons (tr S.g a W) (tCons (tr S.g b W) tNil))) (gTup S.g.K 2 (gCons (gSub (tVar i) (tr S.g k W) rSetD) (gCons (gName j) gNil))))
      rw [C.kK]
      refine ps_asg (pe_tup (pa_cons ((pe_ok S a).1 tl X sc N W u C T hA.2.1 hB.2.1 h6) (pa_cons ((pe_ok S b).1 tl X sc N W v C T hA.2.2 hB.2.2 h7) pa_nil (st_one h9)) (star_cons h8))) (pg_tup C.calm (pgs_cons (pg_sub (C.var h1) ((pe_ok S k).1 tl X sc N W f C T hA.1 hB.1 h2) (set_dict (by have := C.room.un; omega)) (asg_sub h3)) (pgs_cons (pg_name C.ndX (C.nx (of_decide_eq_true h4)) (by rw [C.hsc]; exact q1) (.inl (F.fn _))) pgs_nil rfl) rfl) rfl rfl) sole_of (swap_none (.inr rfl)) rfl
    all_goals first | (rename_i heq; cases heq; done) | cases h
  | .nsi i j => fun tl X sc N W x F T hA hB h => by
    have C := F.toCxt
    unfold chkS at h
    split at h
    case h_21 =>
      rename_i ts k p p1 p2 k2 p3 pos heq
      cases heq
      obtain ⟨h1, h2⟩ := and2 h
      refine ps_asg ?_ (pg_ok C (.inr F.fn) _ _ h1) sole_of (swap_none (by rw [C.hsc]; exact .inr h2)) rfl
      rw [C.kw]
      exact pe_tup (pa_cons pe_snew (pa_cons pe_dnewK pa_nil (st_one rfl)) (star_cons rfl))
    all_goals first | (rename_i heq; cases heq; done) | cases h
  | .nix i j n => fun tl X sc N W x F T hA hB h => by
    have C := F.toCxt
    unfold chkS at h
    split at h
    case h_22 =>
      rename_i ts k p p1 m k3 p2 k2 p3 pos heq
      cases heq
      obtain ⟨h, h2⟩ := and2 h
      obtain ⟨h0, h1⟩ := and2 h
      have em : n = m := of_decide_eq_true h0
      subst em
      refine ps_asg ?_ (pg_ok C (.inr F.fn) _ _ h1) sole_of (swap_none (by rw [C.hsc]; exact .inr h2)) rfl
      exact pe_tup (pa_cons pe_dnewK (pa_cons pe_int pa_nil (st_one rfl)) (star_cons rfl))
    all_goals first | (rename_i heq; cases heq; done) | cases h
  | .any => fun tl X sc N W x F T hA hB h => ⟨fun _ _ _ _ _ _ z => z.elim⟩
theorem pss_ok (S : Sup) : ∀ m : Ss, PssOk S m
  | .nil => fun tl X sc N W x F T hA hB h => by
    cases x with
    | nil => exact pss_nil
    | cons => cases h
  | .cons a r => fun tl X sc N W x F T hA hB h => by
    cases x with
    | nil => cases h
    | cons y ys =>
      obtain ⟨h1, h2⟩ := and2 (show (chkS sc N a y && chkSs sc N r ys) = true from h)
      exact pss_cons (ps_ok S a tl X sc N W y F T hA.1 hB.1 h1) (pss_ok S r tl X sc N W ys F T hA.2 hB.2 h2)
end
end Fw

set_option Elab.async false
set_option linter.all false
set_option autoImplicit false
set_option maxRecDepth 100000
set_option maxHeartbeats 4000000
/-! FwFn: a def of the text keeps the promise that its deep body makes. -/
namespace Fw
open PySem L2

theorem start_len {N : List Str} {vs : List V} (h : vs.length ≤ N.length) : (L2.start N vs).length = N.length := by
  unfold L2.start
  rw [List.length_append, List.length_map, List.length_replicate]
  omega
theorem start_get {N : List Str} {vs : List V} (j : Nat) : (L2.start N vs).getD j none = vs[j]? := by
  unfold L2.start List.getD
  by_cases h : j < vs.length
  · rw [List.getElem?_append_left (by simpa using h), List.getElem?_map]
    simp [h]
  · rw [List.getElem?_append_right (by simpa using h), List.getElem?_eq_none (show vs.length ≤ j by omega)]
    rw [List.getElem?_replicate]
    split <;> rfl
theorem env_get {ds : List D} {m : Nat} (j : Nat) : (ds.map Sl.val ++ List.replicate m Sl.un).getD j .un = match ds[j]? with | some d => .val d | none => .un := by
  unfold List.getD
  by_cases h : j < ds.length
  · rw [List.getElem?_append_left (by simpa using h), List.getElem?_map]
    simp [h]
  · rw [List.getElem?_append_right (by simpa using h), List.getElem?_eq_none (show ds.length ≤ j by omega)]
    rw [List.getElem?_replicate]
    split <;> rfl
theorem start_ok {N : List Str} {vs : List V} {ds : List D} {pd : Addr} {H Hf : Hp} {n k : Int} {T : List (Addr × Str)} {H0 Hf0 : Hp} {wo : World} (hv : vs.length ≤ N.length) (r : Reps pd Hf vs ds) (e : Same Hf H) (hd : H pd = some (.lst [.int n, .int k])) (hf : Hf pd = none) (nt : ∀ a ps, Hf a ≠ some (.tbl ps))
    (hk : ∀ a o, H0 a = some o → a ≠ pd → H a = some o) (hx : ∀ a o, H0 a = some o → Hf a = Hf0 a) (h0 : Same Hf0 Hf) (hT : LamX.Tabs T H) :
    StOk ⟨pd, H0, Hf0, T, false, wo⟩ (L2.start N vs) H Hf ⟨ds.map .val ++ List.replicate (N.length - ds.length) .un, n, k, false⟩ := by
  have sl : ∀ j, S.get ⟨ds.map .val ++ List.replicate (N.length - ds.length) .un, n, k, false⟩ j = match ds[j]? with | some d => Sl.val d | none => .un := fun j => env_get j
  refine ⟨hk, e, hx, h0, hd, hf, hT, fun j => ?_, fun a b p h1 h2 => ?_, ?_, rfl, nt⟩
  · rw [sl, start_get]
    cases q : ds[j]? with
    | none => trivial
    | some d =>
      obtain ⟨v, h1, h2⟩ := r.get q
      exact ⟨v, h1, h2⟩
  · rw [sl] at h1
    cases q : ds[a]? with
    | none => rw [q] at h1; exact h1.elim
    | some d => rw [q] at h1; exact h1.elim
  · show (ds.map Sl.val ++ List.replicate (N.length - ds.length) Sl.un).length = _
    rw [start_len hv, List.length_append, List.length_map, List.length_replicate, ← r.length]
    omega
theorem fn_ok {S : Sup} {x : Str} {params : Arguments} {bs : List Stmt} {scope : Scope} {N ps : List Str} {f : Addr} {fd : FuncData} (F : FunD S.wd.K x x params bs scope [] [] f fd) (Sc : FnScope N ps scope) (b : Ss) (hA : ndASs S b) (hB : ndSs S.g false b) (hc : chkSs scope N b bs = true)
    (gK : S.g.K = S.wd.K ∧ S.g.w = S.wd.w) (hb : ∀ x, bltN.contains x = true → S.wd.mg x = none) :
    FnOk S.wd.prog S.wd.w S.wd.K S.wd.mg S.wd.base (L2N.CX S.wd.prog S.wd.w) (S.L + 1) f fd ps (spF S.g.cl ps.length (run N.length b)) := by
  have hpl : ps.length ≤ N.length := by
    have := congrArg List.length Sc.pre
    rw [List.length_take] at this
    omega
  refine F.ok Sc (fun vs H Q E h => h.1) fun cdv A outer s H vs Q E hr h => ⟨trSs S.g b E, ?_, ?_⟩
  · refine pss_ok S b false _ scope N E bs ⟨⟨rfl, rfl, Sc.nd, rfl, hr, L2N.takes_of rfl rfl rfl rfl, rfl, rfl, rfl, rfl, rfl, gK, hb⟩, fun _ => rfl, passes_of rfl, Sc.kind⟩ (fun z => by cases z) hA hB hc
  · obtain ⟨hl, pd, n, k, Hf, ds, r, e, hd, hf, nt, hp⟩ := h
    have hv : vs.length ≤ N.length := by omega
    have st := start_ok (wo := S.g.w) (T := []) (H0 := H) (Hf0 := Hf) (N := N) hv r e hd hf nt (fun a o q _ => q) (fun a o _ => rfl) (Same.refl _) (fun p hp => absurd hp (by simp))
    refine Ss_ok S.g b false E ⟨pd, H, Hf, [], false, S.g.w⟩ _ H Hf _ _ ⟨rfl, fun z => by cases z⟩ hB rfl st ?_
    have gr : ∀ {σ' : St} {H' Hf' : Hp} {t : Fw.S}, StOk ⟨pd, H, Hf, [], false, S.g.w⟩ σ' H' Hf' t → Grow pd H Hf H' Hf' t.dn t.dk := fun z => ⟨z.keep, z.sub, z.fix, z.sub0, z.dice, z.dicef, z.nt⟩
    unfold run at hp
    cases q : evSs b ⟨ds.map .val ++ List.replicate (N.length - ds.length) .un, n, k, false⟩ with
    | nx t =>
      rw [q] at hp
      exact fun σ' H' Hf' _ z => hp .non H' Hf' (gr z) .non
    | rt d t =>
      rw [q] at hp
      exact fun v σ' H' Hf' _ z rv => hp v H' Hf' (gr z) rv
    | ex c n' k' =>
      rw [q] at hp
      intro σ' H' Hf' t z e1 e2
      have g1 := gr z
      rw [e1, e2] at g1
      exact hp H' Hf' g1
    | stuck =>
      rw [q] at hp
      exact hp
theorem has_ok {S : Sup} {i : Nat} {params : Arguments} {bs : List Stmt} {scope : Scope} {N ps : List Str} {f : Addr} {fd : FuncData} (F : FunD S.wd.K (fnm i) (fnm i) params bs scope [] [] f fd) (Sc : FnScope N ps scope) (hm : S.wd.mg (fnm i) = some (.ref f)) (bd : Binds S.wd.K fd ps []) (b : Ss) (hA : ndASs S b) (hB : ndSs S.g false b) (hc : chkSs scope N b bs = true)
    (gK : S.g.K = S.wd.K ∧ S.g.w = S.wd.w) (hb : ∀ x, bltN.contains x = true → S.wd.mg x = none) : HasF S.wd S.g (S.L + 1) i ps.length (run N.length b) :=
  ⟨f, fd, ps, S.L + 1, fn_ok F Sc b hA hB hc gK hb, Nat.le_refl _, hm, F.kp, bd⟩
end Fw

set_option linter.all false
set_option maxRecDepth 100000
/-! FwDefs: the deep bodies of the program's defs and of the laws' helpers (printed by gen.py). -/
namespace Fw
def t_OTHER_SIDE : List (Tx × D) := [([82], (.str [76])), ([76], (.str [82])), ([70], (.str [70])), ([66], (.str [66]))]
def t_QUARTERS : List (Tx × D) := [([82], (.int 1)), ([76], (.int 3)), ([70], (.int 0)), ([66], (.int 2))]
/-- is_whole(value, low, high): value low high -/
def b_is_whole : Ss := (.cons (.ret (.and (.cons (.isi (.var 0) .int) (.cons (.not (.isi (.var 0) .bool)) (.cons (.chain .le .le (.var 1) (.var 0) (.var 2)) .nil)))))
    .nil)
def f_is_whole : FSem := run 3 b_is_whole
/-- is_row(value, size): value size sign -/
def b_is_row : Ss := (.cons (.ret (.and (.cons (.isi (.var 0) .str) (.cons (.cmp .eq (.b1 .len (.var 0)) (.var 1)) (.cons (.b1 .all (.lc (.nm 2) (.seq (.var 0)) (.cmp .in_ (.var 2) (.str [46, 35])))) .nil)))))
    .nil)
def f_is_row : FSem := run 3 b_is_row
/-- is_board(value): value size one -/
def b_is_board : Ss := (.cons (.iff (.or (.cons (.not (.isi (.var 0) .tuple)) (.cons (.not (.chain .le .le (.int 1) (.b1 .len (.var 0)) (.int 3))) (.cons (.not (.isi (.ix (.var 0) (.int 0)) .str)) .nil)))) (.cons (.ret (.bl false))
    .nil) .nil)
    (.cons (.set 1 (.b1 .len (.ix (.var 0) (.int 0))))
    (.cons (.ret (.and (.cons (.chain .le .le (.int 1) (.var 1) (.int 4)) (.cons (.cmp .le (.bin .mul (.var 1) (.b1 .len (.var 0))) (.int 9)) (.cons (.b1 .all (.lc (.nm 2) (.seq (.var 0)) (.call 1 f_is_row (.cons (.var 2) (.cons (.var 1) .nil))))) .nil)))))
    .nil)))
def f_is_board : FSem := run 3 b_is_board
/-- is_rule(value): value sign -/
def b_is_rule : Ss := (.cons (.ret (.and (.cons (.isi (.var 0) .str) (.cons (.cmp .eq (.b1 .len (.var 0)) (.int 2)) (.cons (.b1 .all (.lc (.nm 1) (.seq (.var 0)) (.cmp .in_ (.var 1) (.str [82, 76, 70, 66])))) .nil)))))
    .nil)
def f_is_rule : FSem := run 2 b_is_rule
/-- is_cell_of(board, value): board value -/
def b_is_cell_of : Ss := (.cons (.iff (.or (.cons (.not (.isi (.var 1) .tuple)) (.cons (.cmp .ne (.b1 .len (.var 1)) (.int 2)) .nil))) (.cons (.ret (.bl false))
    .nil) .nil)
    (.cons (.ret (.and (.cons (.call 0 f_is_whole (.cons (.ix (.var 1) (.int 0)) (.cons (.int 0) (.cons (.bin .sub (.b1 .len (.var 0)) (.int 1)) .nil)))) (.cons (.call 0 f_is_whole (.cons (.ix (.var 1) (.int 1)) (.cons (.int 0) (.cons (.bin .sub (.b1 .len (.ix (.var 0) (.int 0))) (.int 1)) .nil)))) .nil))))
    .nil))
def f_is_cell_of : FSem := run 2 b_is_cell_of
/-- is_state(value): value -/
def b_is_state : Ss := (.cons (.iff (.or (.cons (.not (.isi (.var 0) .tuple)) (.cons (.cmp .ne (.b1 .len (.var 0)) (.int 3)) (.cons (.not (.call 2 f_is_board (.cons (.ix (.var 0) (.int 0)) .nil))) .nil)))) (.cons (.ret (.bl false))
    .nil) .nil)
    (.cons (.ret (.and (.cons (.call 4 f_is_cell_of (.cons (.ix (.var 0) (.int 0)) (.cons (.ix (.var 0) (.int 1)) .nil))) (.cons (.call 0 f_is_whole (.cons (.ix (.var 0) (.int 2)) (.cons (.int 0) (.cons (.int 3) .nil)))) .nil))))
    .nil))
def f_is_state : FSem := run 1 b_is_state
/-- need_board(board): board -/
def b_need_board : Ss := (.cons (.iff (.not (.call 2 f_is_board (.cons (.var 0) .nil))) (.cons (.rais 0)
    .nil) .nil)
    .nil)
def f_need_board : FSem := run 1 b_need_board
/-- need_rule(rule): rule -/
def b_need_rule : Ss := (.cons (.iff (.not (.call 3 f_is_rule (.cons (.var 0) .nil))) (.cons (.rais 1)
    .nil) .nil)
    .nil)
def f_need_rule : FSem := run 1 b_need_rule
/-- need_state(state): state -/
def b_need_state : Ss := (.cons (.iff (.not (.call 5 f_is_state (.cons (.var 0) .nil))) (.cons (.rais 2)
    .nil) .nil)
    .nil)
def f_need_state : FSem := run 1 b_need_state
/-- need_both(rule, state): rule state -/
def b_need_both : Ss := (.cons (.expr (.call 7 f_need_rule (.cons (.var 0) .nil)))
    (.cons (.expr (.call 8 f_need_state (.cons (.var 1) .nil)))
    .nil))
def f_need_both : FSem := run 2 b_need_both
/-- need_cell(board, cell): board cell -/
def b_need_cell : Ss := (.cons (.iff (.not (.call 4 f_is_cell_of (.cons (.var 0) (.cons (.var 1) .nil)))) (.cons (.rais 3)
    .nil) .nil)
    .nil)
def f_need_cell : FSem := run 2 b_need_cell
/-- need_spot(board, cell, look): board cell look -/
def b_need_spot : Ss := (.cons (.expr (.call 10 f_need_cell (.cons (.var 0) (.cons (.var 1) .nil))))
    (.cons (.iff (.not (.call 0 f_is_whole (.cons (.var 2) (.cons (.int 0) (.cons (.int 3) .nil))))) (.cons (.rais 4)
    .nil) .nil)
    .nil))
def f_need_spot : FSem := run 3 b_need_spot
/-- cells_of(rows, columns): rows columns found row column -/
def b_cells_of : Ss := (.cons (.set 2 (.lst .nil))
    (.cons (.for_ (.nm 3) (.rng (.var 0)) (.cons (.set 2 (.bin .add (.var 2) (.lc (.nm 4) (.rng (.var 1)) (.tup (.cons (.var 3) (.cons (.var 4) .nil))))))
    .nil))
    (.cons (.ret (.var 2))
    .nil)))
def f_cells_of : FSem := run 5 b_cells_of
/-- cells(board): board -/
def b_cells : Ss := (.cons (.expr (.call 6 f_need_board (.cons (.var 0) .nil)))
    (.cons (.ret (.b1 .tuple (.call 12 f_cells_of (.cons (.b1 .len (.var 0)) (.cons (.b1 .len (.ix (.var 0) (.int 0))) .nil)))))
    .nil))
def f_cells : FSem := run 1 b_cells
/-- count_black(board): board signs -/
def b_count_black : Ss := (.cons (.expr (.call 6 f_need_board (.cons (.var 0) .nil)))
    (.cons (.ret (.b1 .sum (.lc (.nm 1) (.seq (.var 0)) (.m1 .count (.var 1) (.str [35])))))
    .nil))
def f_count_black : FSem := run 2 b_count_black
/-- next_cell(board, cell, look): board cell look down right -/
def b_next_cell : Ss := (.cons (.asg (.tup (.cons (.nm 3) (.cons (.nm 4) .nil))) (.ix (.lst (.cons (.tup (.cons (.neg (.int 1)) (.cons (.int 0) .nil))) (.cons (.tup (.cons (.int 0) (.cons (.int 1) .nil))) (.cons (.tup (.cons (.int 1) (.cons (.int 0) .nil))) (.cons (.tup (.cons (.int 0) (.cons (.neg (.int 1)) .nil))) .nil))))) (.var 2)))
    (.cons (.ret (.tup (.cons (.bin .mod (.bin .add (.ix (.var 1) (.int 0)) (.var 3)) (.b1 .len (.var 0))) (.cons (.bin .mod (.bin .add (.ix (.var 1) (.int 1)) (.var 4)) (.b1 .len (.ix (.var 0) (.int 0)))) .nil))))
    .nil))
def f_next_cell : FSem := run 5 b_next_cell
/-- ahead(board, cell, look): board cell look -/
def b_ahead : Ss := (.cons (.expr (.call 6 f_need_board (.cons (.var 0) .nil)))
    (.cons (.expr (.call 11 f_need_spot (.cons (.var 0) (.cons (.var 1) (.cons (.var 2) .nil)))))
    (.cons (.ret (.call 15 f_next_cell (.cons (.var 0) (.cons (.var 1) (.cons (.var 2) .nil)))))
    .nil)))
def f_ahead : FSem := run 3 b_ahead
/-- flipped(board, cell): board cell signs sign row column -/
def b_flipped : Ss := (.cons (.asg (.tup (.cons (.nm 4) (.cons (.nm 5) .nil))) (.var 1))
    (.cons (.set 2 (.ix (.var 0) (.var 4)))
    (.cons (.set 3 (.ife (.cmp .eq (.ix (.var 2) (.var 5)) (.str [46])) (.str [35]) (.str [46])))
    (.cons (.ret (.bin .add (.bin .add (.sl (.var 0) .none (.some (.var 4))) (.tup (.cons (.bin .add (.bin .add (.sl (.var 2) .none (.some (.var 5))) (.var 3)) (.sl (.var 2) (.some (.bin .add (.var 5) (.int 1))) .none)) .nil))) (.sl (.var 0) (.some (.bin .add (.var 4) (.int 1))) .none)))
    .nil))))
def f_flipped : FSem := run 6 b_flipped
/-- is_black(board, cell): board cell -/
def b_is_black : Ss := (.cons (.ret (.cmp .eq (.ix (.ix (.var 0) (.ix (.var 1) (.int 0))) (.ix (.var 1) (.int 1))) (.str [35])))
    .nil)
def f_is_black : FSem := run 2 b_is_black
/-- turn_at(rule, state): rule state -/
def b_turn_at : Ss := (.cons (.ret (.ife (.call 18 f_is_black (.cons (.ix (.var 1) (.int 0)) (.cons (.ix (.var 1) (.int 1)) .nil))) (.ix (.var 0) (.int 1)) (.ix (.var 0) (.int 0))))
    .nil)
def f_turn_at : FSem := run 2 b_turn_at
/-- stepped(rule, state): rule state look made board cell -/
def b_stepped : Ss := (.cons (.asg (.tup (.cons (.nm 4) (.cons (.nm 5) (.cons (.nm 2) .nil)))) (.var 1))
    (.cons (.set 2 (.bin .mod (.bin .add (.var 2) (.ixg 0 t_QUARTERS (.call 19 f_turn_at (.cons (.var 0) (.cons (.var 1) .nil))))) (.int 4)))
    (.cons (.set 3 (.call 17 f_flipped (.cons (.var 4) (.cons (.var 5) .nil))))
    (.cons (.ret (.tup (.cons (.var 3) (.cons (.call 15 f_next_cell (.cons (.var 3) (.cons (.var 5) (.cons (.var 2) .nil)))) (.cons (.var 2) .nil)))))
    .nil))))
def f_stepped : FSem := run 6 b_stepped
/-- step(rule, state): rule state -/
def b_step : Ss := (.cons (.expr (.call 9 f_need_both (.cons (.var 0) (.cons (.var 1) .nil))))
    (.cons (.ret (.call 20 f_stepped (.cons (.var 0) (.cons (.var 1) .nil))))
    .nil))
def f_step : FSem := run 2 b_step
/-- back(rule, state): rule state before made turn board cell look -/
def b_back : Ss := (.cons (.expr (.call 9 f_need_both (.cons (.var 0) (.cons (.var 1) .nil))))
    (.cons (.asg (.tup (.cons (.nm 5) (.cons (.nm 6) (.cons (.nm 7) .nil)))) (.var 1))
    (.cons (.set 2 (.call 15 f_next_cell (.cons (.var 5) (.cons (.var 6) (.cons (.bin .mod (.bin .add (.var 7) (.int 2)) (.int 4)) .nil)))))
    (.cons (.set 3 (.call 17 f_flipped (.cons (.var 5) (.cons (.var 2) .nil))))
    (.cons (.set 4 (.ife (.call 18 f_is_black (.cons (.var 3) (.cons (.var 2) .nil))) (.ix (.var 0) (.int 1)) (.ix (.var 0) (.int 0))))
    (.cons (.ret (.tup (.cons (.var 3) (.cons (.var 2) (.cons (.bin .mod (.bin .sub (.var 7) (.ixg 0 t_QUARTERS (.var 4))) (.int 4)) .nil)))))
    .nil))))))
def f_back : FSem := run 8 b_back
/-- round_from(rule, state): rule state found now -/
def b_round_from : Ss := (.cons (.par 2 3 (.nl (.cons (.var 1) .nil)) (.ex (.call 20 f_stepped (.cons (.var 0) (.cons (.var 1) .nil)))))
    (.cons (.whil 20000 (.cmp .ne (.var 3) (.var 1)) (.cons (.app 2 (.var 3))
    (.cons (.set 3 (.call 20 f_stepped (.cons (.var 0) (.cons (.var 3) .nil))))
    .nil)))
    (.cons (.ret (.var 2))
    .nil)))
def f_round_from : FSem := run 4 b_round_from
/-- need_ticks(ticks, most): ticks most -/
def b_need_ticks : Ss := (.cons (.iff (.not (.call 0 f_is_whole (.cons (.var 0) (.cons (.int 0) (.cons (.var 1) .nil))))) (.cons (.rais 5)
    .nil) .nil)
    .nil)
def f_need_ticks : FSem := run 2 b_need_ticks
/-- later(rule, state, ticks): rule state ticks found now -/
def b_later : Ss := (.cons (.par 3 4 (.nl (.cons (.var 1) .nil)) (.ex (.call 20 f_stepped (.cons (.var 0) (.cons (.var 1) .nil)))))
    (.cons (.whil 20000 (.and (.cons (.cmp .ne (.var 4) (.var 1)) (.cons (.cmp .le (.leno 3) (.var 2)) .nil))) (.cons (.app 3 (.var 4))
    (.cons (.set 4 (.call 20 f_stepped (.cons (.var 0) (.cons (.var 4) .nil))))
    .nil)))
    (.cons (.ret (.ixo 3 (.bin .mod (.var 2) (.leno 3))))
    .nil)))
def f_later : FSem := run 5 b_later
/-- after(rule, state, ticks): rule state ticks -/
def b_after : Ss := (.cons (.expr (.call 9 f_need_both (.cons (.var 0) (.cons (.var 1) .nil))))
    (.cons (.expr (.call 24 f_need_ticks (.cons (.var 2) (.cons (.int 1000000) .nil))))
    (.cons (.ret (.call 25 f_later (.cons (.var 0) (.cons (.var 1) (.cons (.var 2) .nil)))))
    .nil)))
def f_after : FSem := run 3 b_after
/-- course(rule, state, ticks): rule state ticks found turn -/
def b_course : Ss := (.cons (.own 3 (.cons (.var 1) .nil))
    (.cons (.for_ (.nm 4) (.rng (.var 2)) (.cons (.app 3 (.call 20 f_stepped (.cons (.var 0) (.cons (.ixo 3 (.neg (.int 1))) .nil))))
    .nil))
    (.cons (.ret (.var 3))
    .nil)))
def f_course : FSem := run 5 b_course
/-- trail(rule, state, ticks): rule state ticks one -/
def b_trail : Ss := (.cons (.expr (.call 9 f_need_both (.cons (.var 0) (.cons (.var 1) .nil))))
    (.cons (.expr (.call 24 f_need_ticks (.cons (.var 2) (.cons (.int 100) .nil))))
    (.cons (.ret (.b1 .tuple (.lc (.nm 3) (.seq (.call 27 f_course (.cons (.var 0) (.cons (.var 1) (.cons (.var 2) .nil))))) (.ix (.var 3) (.int 1)))))
    .nil)))
def f_trail : FSem := run 4 b_trail
/-- turns_made(rule, state, ticks): rule state ticks one -/
def b_turns_made : Ss := (.cons (.expr (.call 9 f_need_both (.cons (.var 0) (.cons (.var 1) .nil))))
    (.cons (.expr (.call 24 f_need_ticks (.cons (.var 2) (.cons (.int 100) .nil))))
    (.cons (.ret (.m1 .join (.str []) (.lc (.nm 3) (.seq (.sl (.call 27 f_course (.cons (.var 0) (.cons (.var 1) (.cons (.var 2) .nil)))) .none (.some (.neg (.int 1))))) (.call 19 f_turn_at (.cons (.var 0) (.cons (.var 3) .nil))))))
    .nil)))
def f_turns_made : FSem := run 4 b_turns_made
/-- round_length(rule, state): rule state -/
def b_round_length : Ss := (.cons (.expr (.call 9 f_need_both (.cons (.var 0) (.cons (.var 1) .nil))))
    (.cons (.ret (.b1 .len (.call 23 f_round_from (.cons (.var 0) (.cons (.var 1) .nil)))))
    .nil))
def f_round_length : FSem := run 2 b_round_length
/-- visits(rule, state): rule state counts board cell look -/
def b_visits : Ss := (.cons (.expr (.call 9 f_need_both (.cons (.var 0) (.cons (.var 1) .nil))))
    (.cons (.dnew 2)
    (.cons (.for_ (.tup (.cons (.nm 3) (.cons (.nm 4) (.cons (.nm 5) .nil)))) (.seq (.call 23 f_round_from (.cons (.var 0) (.cons (.var 1) .nil)))) (.cons (.dput 2 (.var 4) (.bin .add (.dget 2 (.var 4) (.int 0)) (.int 1)))
    .nil))
    (.cons (.ret (.b1 .tuple (.lc (.nm 4) (.seq (.call 12 f_cells_of (.cons (.b1 .len (.ix (.var 1) (.int 0))) (.cons (.b1 .len (.ix (.ix (.var 1) (.int 0)) (.int 0))) .nil)))) (.dget 2 (.var 4) (.int 0)))))
    .nil))))
def f_visits : FSem := run 6 b_visits
/-- back_home(rule, state): rule state ticks now -/
def b_back_home : Ss := (.cons (.expr (.call 9 f_need_both (.cons (.var 0) (.cons (.var 1) .nil))))
    (.cons (.par 2 3 (.ex (.int 1)) (.ex (.call 20 f_stepped (.cons (.var 0) (.cons (.var 1) .nil)))))
    (.cons (.whil 20000 (.cmp .ne (.sl (.var 3) (.some (.int 1)) .none) (.sl (.var 1) (.some (.int 1)) .none)) (.cons (.par 2 3 (.ex (.bin .add (.var 2) (.int 1))) (.ex (.call 20 f_stepped (.cons (.var 0) (.cons (.var 3) .nil)))))
    .nil))
    (.cons (.ret (.var 2))
    .nil))))
def f_back_home : FSem := run 4 b_back_home
/-- board_again(rule, state): rule state ticks now -/
def b_board_again : Ss := (.cons (.expr (.call 9 f_need_both (.cons (.var 0) (.cons (.var 1) .nil))))
    (.cons (.par 2 3 (.ex (.int 1)) (.ex (.call 20 f_stepped (.cons (.var 0) (.cons (.var 1) .nil)))))
    (.cons (.whil 20000 (.cmp .ne (.ix (.var 3) (.int 0)) (.ix (.var 1) (.int 0))) (.cons (.par 2 3 (.ex (.bin .add (.var 2) (.int 1))) (.ex (.call 20 f_stepped (.cons (.var 0) (.cons (.var 3) .nil)))))
    .nil))
    (.cons (.ret (.var 2))
    .nil))))
def f_board_again : FSem := run 4 b_board_again
/-- ticks_to(rule, state, other): rule state other ticks one -/
def b_ticks_to : Ss := (.cons (.expr (.call 9 f_need_both (.cons (.var 0) (.cons (.var 1) .nil))))
    (.cons (.expr (.call 8 f_need_state (.cons (.var 2) .nil)))
    (.cons (.for_ (.tup (.cons (.nm 3) (.cons (.nm 4) .nil))) (.enum (.call 23 f_round_from (.cons (.var 0) (.cons (.var 1) .nil)))) (.cons (.iff (.cmp .eq (.var 4) (.var 2)) (.cons (.ret (.var 3))
    .nil) .nil)
    .nil))
    (.cons (.ret .non)
    .nil))))
def f_ticks_to : FSem := run 5 b_ticks_to
/-- all_boards(rows, columns): rows columns lines turn found longer board line -/
def b_all_boards : Ss := (.cons (.set 2 (.lst (.cons (.str []) .nil)))
    (.cons (.for_ (.nm 3) (.rng (.var 1)) (.cons (.set 2 (.bin .add (.lc (.nm 7) (.seq (.var 2)) (.bin .add (.var 7) (.str [35]))) (.lc (.nm 7) (.seq (.var 2)) (.bin .add (.var 7) (.str [46])))))
    .nil))
    (.cons (.set 4 (.lst (.cons (.tup .nil) .nil)))
    (.cons (.for_ (.nm 3) (.rng (.var 0)) (.cons (.set 5 (.lst .nil))
    (.cons (.for_ (.nm 6) (.seq (.var 4)) (.cons (.set 5 (.bin .add (.var 5) (.lc (.nm 7) (.seq (.var 2)) (.bin .add (.var 6) (.tup (.cons (.var 7) .nil))))))
    .nil))
    (.cons (.set 4 (.var 5))
    .nil))))
    (.cons (.ret (.var 4))
    .nil)))))
def f_all_boards : FSem := run 8 b_all_boards
/-- all_states(rows, columns): rows columns cell board found spots look -/
def b_all_states : Ss := (.cons (.par 4 5 (.nl .nil) (.ex (.lst .nil)))
    (.cons (.for_ (.nm 2) (.seq (.call 12 f_cells_of (.cons (.var 0) (.cons (.var 1) .nil)))) (.cons (.set 5 (.bin .add (.var 5) (.lc (.nm 6) (.rng (.int 4)) (.tup (.cons (.var 2) (.cons (.var 6) .nil))))))
    .nil))
    (.cons (.for_ (.nm 3) (.seq (.call 35 f_all_boards (.cons (.var 0) (.cons (.var 1) .nil)))) (.cons (.app 4 (.lc (.tup (.cons (.nm 2) (.cons (.nm 6) .nil))) (.seq (.var 5)) (.tup (.cons (.var 3) (.cons (.var 2) (.cons (.var 6) .nil))))))
    .nil))
    (.cons (.ret (.var 4))
    .nil))))
def f_all_states : FSem := run 7 b_all_states
/-- need_size(rows, columns): rows columns -/
def b_need_size : Ss := (.cons (.iff (.or (.cons (.not (.call 0 f_is_whole (.cons (.var 0) (.cons (.int 1) (.cons (.int 3) .nil))))) (.cons (.not (.call 0 f_is_whole (.cons (.var 1) (.cons (.int 1) (.cons (.int 4) .nil))))) (.cons (.cmp .gt (.bin .mul (.var 0) (.var 1)) (.int 6)) .nil)))) (.cons (.rais 6)
    .nil) .nil)
    .nil)
def f_need_size : FSem := run 2 b_need_size
/-- all_rounds(rule, rows, columns): rule rows columns here met counts state some one size -/
def b_all_rounds : Ss := (.cons (.expr (.call 7 f_need_rule (.cons (.var 0) .nil)))
    (.cons (.expr (.call 37 f_need_size (.cons (.var 1) (.cons (.var 2) .nil))))
    (.cons (.nsi 4 5)
    (.cons (.for_ (.nm 3) (.seq (.call 36 f_all_states (.cons (.var 1) (.cons (.var 2) .nil)))) (.cons (.for_ (.nm 6) (.seq (.var 3)) (.cons (.iff (.snin 4 (.var 6)) (.cons (.set 7 (.call 23 f_round_from (.cons (.var 0) (.cons (.var 6) .nil))))
    (.cons (.for_ (.nm 8) (.seq (.var 7)) (.cons (.sput 4 (.var 8) (.bl true))
    .nil))
    (.cons (.iput 5 (.b1 .len (.var 7)) (.bin .add (.iget 5 (.b1 .len (.var 7)) (.int 0)) (.int 1)))
    .nil))) .nil)
    .nil))
    .nil))
    (.cons (.ret (.b1 .tuple (.b1 .sortp (.lc (.nm 9) (.ikeys 5) (.tup (.cons (.var 9) (.cons (.iix 5 (.var 9)) .nil)))))))
    .nil)))))
def f_all_rounds : FSem := run 10 b_all_rounds
/-- moved(state, rows, columns): state rows columns made one board look many wide signs row column at -/
def b_moved : Ss := (.cons (.expr (.call 8 f_need_state (.cons (.var 0) .nil)))
    (.cons (.iff (.or (.cons (.not (.call 0 f_is_whole (.cons (.var 1) (.cons (.neg (.int 4)) (.cons (.int 4) .nil))))) (.cons (.not (.call 0 f_is_whole (.cons (.var 2) (.cons (.neg (.int 4)) (.cons (.int 4) .nil))))) .nil))) (.cons (.rais 7)
    .nil) .nil)
    (.cons (.asg (.tup (.cons (.nm 5) (.cons (.tup (.cons (.nm 10) (.cons (.nm 11) .nil))) (.cons (.nm 6) .nil)))) (.var 0))
    (.cons (.asg (.tup (.cons (.nm 7) (.cons (.nm 8) .nil))) (.tup (.cons (.b1 .len (.var 5)) (.cons (.b1 .len (.ix (.var 5) (.int 0))) .nil))))
    (.cons (.own 3 .nil)
    (.cons (.for_ (.nm 4) (.rng (.var 7)) (.cons (.set 9 (.ix (.var 5) (.bin .mod (.bin .sub (.var 4) (.var 1)) (.var 7))))
    (.cons (.app 3 (.m1 .join (.str []) (.lc (.nm 12) (.rng (.var 8)) (.ix (.var 9) (.bin .mod (.bin .sub (.var 12) (.var 2)) (.var 8))))))
    .nil)))
    (.cons (.ret (.tup (.cons (.b1 .tuple (.var 3)) (.cons (.tup (.cons (.bin .mod (.bin .add (.var 10) (.var 1)) (.var 7)) (.cons (.bin .mod (.bin .add (.var 11) (.var 2)) (.var 8)) .nil))) (.cons (.var 6) .nil)))))
    .nil)))))))
def f_moved : FSem := run 13 b_moved
/-- mirrored(state): state board look row column signs -/
def b_mirrored : Ss := (.cons (.expr (.call 8 f_need_state (.cons (.var 0) .nil)))
    (.cons (.asg (.tup (.cons (.nm 1) (.cons (.tup (.cons (.nm 3) (.cons (.nm 4) .nil))) (.cons (.nm 2) .nil)))) (.var 0))
    (.cons (.ret (.tup (.cons (.b1 .tuple (.lc (.nm 5) (.seq (.var 1)) (.rev (.var 5)))) (.cons (.tup (.cons (.var 3) (.cons (.bin .sub (.bin .sub (.b1 .len (.ix (.var 1) (.int 0))) (.int 1)) (.var 4)) .nil))) (.cons (.bin .mod (.neg (.var 2)) (.int 4)) .nil)))))
    .nil)))
def f_mirrored : FSem := run 6 b_mirrored
/-- exchanged(state): state made board cell look signs sign -/
def b_exchanged : Ss := (.cons (.expr (.call 8 f_need_state (.cons (.var 0) .nil)))
    (.cons (.asg (.tup (.cons (.nm 2) (.cons (.nm 3) (.cons (.nm 4) .nil)))) (.var 0))
    (.cons (.set 1 (.b1 .tuple (.lc (.nm 5) (.seq (.var 2)) (.m1 .join (.str []) (.lc (.nm 6) (.seq (.var 5)) (.ife (.cmp .eq (.var 6) (.str [35])) (.str [46]) (.str [35])))))))
    (.cons (.ret (.tup (.cons (.var 1) (.cons (.var 3) (.cons (.var 4) .nil)))))
    .nil))))
def f_exchanged : FSem := run 7 b_exchanged
/-- mirrored_rule(rule): rule -/
def b_mirrored_rule : Ss := (.cons (.expr (.call 7 f_need_rule (.cons (.var 0) .nil)))
    (.cons (.ret (.bin .add (.ixg 1 t_OTHER_SIDE (.ix (.var 0) (.int 0))) (.ixg 1 t_OTHER_SIDE (.ix (.var 0) (.int 1)))))
    .nil))
def f_mirrored_rule : FSem := run 1 b_mirrored_rule
/-- exchanged_rule(rule): rule -/
def b_exchanged_rule : Ss := (.cons (.expr (.call 7 f_need_rule (.cons (.var 0) .nil)))
    (.cons (.ret (.bin .add (.ix (.var 0) (.int 1)) (.ix (.var 0) (.int 0))))
    .nil))
def f_exchanged_rule : FSem := run 1 b_exchanged_rule
/-- reversed_state(rule, state): rule state board cell look -/
def b_reversed_state : Ss := (.cons (.expr (.call 9 f_need_both (.cons (.var 0) (.cons (.var 1) .nil))))
    (.cons (.asg (.tup (.cons (.nm 2) (.cons (.nm 3) (.cons (.nm 4) .nil)))) (.var 1))
    (.cons (.ret (.tup (.cons (.var 2) (.cons (.call 15 f_next_cell (.cons (.var 2) (.cons (.var 3) (.cons (.bin .mod (.bin .add (.var 4) (.int 2)) (.int 4)) .nil)))) (.cons (.bin .mod (.bin .add (.var 4) (.int 2)) (.int 4)) .nil)))))
    .nil)))
def f_reversed_state : FSem := run 5 b_reversed_state
/-- need_all(rule, board, cell, look, turns): rule board cell look turns sign -/
def b_need_all : Ss := (.cons (.expr (.call 7 f_need_rule (.cons (.var 0) .nil)))
    (.cons (.expr (.call 6 f_need_board (.cons (.var 1) .nil)))
    (.cons (.expr (.call 11 f_need_spot (.cons (.var 1) (.cons (.var 2) (.cons (.var 3) .nil)))))
    (.cons (.iff (.or (.cons (.not (.isi (.var 4) .str)) (.cons (.not (.chain .le .le (.int 1) (.b1 .len (.var 4)) (.int 40))) (.cons (.not (.b1 .all (.lc (.nm 5) (.seq (.var 4)) (.cmp .in_ (.var 5) (.str [82, 76, 70, 66]))))) .nil)))) (.cons (.rais 8)
    .nil) .nil)
    .nil))))
def f_need_all : FSem := run 6 b_need_all
/-- told_colours(rule, board, cell, look, turns): rule board cell look turns first now place turn black -/
def b_told_colours : Ss := (.cons (.par 5 6 .nd .nd)
    (.cons (.for_ (.tup (.cons (.nm 7) (.cons (.nm 8) .nil))) (.enum (.var 4)) (.cons (.iff (.cmp .nin (.var 8) (.var 0)) (.cons (.ret (.tup (.cons .non (.cons (.var 7) .nil))))
    .nil) .nil)
    (.cons (.iff (.cmp .ne (.ix (.var 0) (.int 0)) (.ix (.var 0) (.int 1))) (.cons (.set 9 (.cmp .eq (.ix (.var 0) (.int 1)) (.var 8)))
    (.cons (.iff (.dnin 6 (.var 2)) (.cons (.dput 5 (.var 2) (.var 9))
    .nil) (.cons (.iff (.cmp .ne (.dix 6 (.var 2)) (.var 9)) (.cons (.ret (.tup (.cons .non (.cons (.var 7) .nil))))
    .nil) .nil)
    .nil))
    (.cons (.dput 6 (.var 2) (.not (.var 9)))
    .nil))) .nil)
    (.cons (.set 3 (.bin .mod (.bin .add (.var 3) (.ixg 0 t_QUARTERS (.var 8))) (.int 4)))
    (.cons (.set 2 (.call 15 f_next_cell (.cons (.var 1) (.cons (.var 2) (.cons (.var 3) .nil)))))
    .nil)))))
    (.cons (.ret (.tup (.cons (.var 5) (.cons (.b1 .len (.var 4)) .nil))))
    .nil)))
def f_told_colours : FSem := run 10 b_told_colours
/-- count_boards(rule, board, cell, look, turns): rule board cell look turns found one first place -/
def b_count_boards : Ss := (.cons (.expr (.call 45 f_need_all (.cons (.var 0) (.cons (.var 1) (.cons (.var 2) (.cons (.var 3) (.cons (.var 4) .nil)))))))
    (.cons (.asg (.tup (.cons (.nm 7) (.cons (.nm 8) .nil))) (.call 46 f_told_colours (.cons (.var 0) (.cons (.var 1) (.cons (.var 2) (.cons (.var 3) (.cons (.var 4) .nil)))))))
    (.cons (.iff (.cmp .isN (.var 7) .non) (.cons (.ret (.int 0))
    .nil) .nil)
    (.cons (.set 5 (.int 1))
    (.cons (.for_ (.nm 6) (.seq (.call 12 f_cells_of (.cons (.b1 .len (.var 1)) (.cons (.b1 .len (.ix (.var 1) (.int 0))) .nil)))) (.cons (.set 5 (.ife (.din 7 (.var 6)) (.var 5) (.bin .mul (.int 2) (.var 5))))
    .nil))
    (.cons (.ret (.var 5))
    .nil))))))
def f_count_boards : FSem := run 9 b_count_boards
/-- first_board(rule, board, cell, look, turns): rule board cell look turns made row first place signs column -/
def b_first_board : Ss := (.cons (.expr (.call 45 f_need_all (.cons (.var 0) (.cons (.var 1) (.cons (.var 2) (.cons (.var 3) (.cons (.var 4) .nil)))))))
    (.cons (.asg (.tup (.cons (.nm 7) (.cons (.nm 8) .nil))) (.call 46 f_told_colours (.cons (.var 0) (.cons (.var 1) (.cons (.var 2) (.cons (.var 3) (.cons (.var 4) .nil)))))))
    (.cons (.iff (.cmp .isN (.var 7) .non) (.cons (.ret .non)
    .nil) .nil)
    (.cons (.own 5 .nil)
    (.cons (.for_ (.nm 6) (.rng (.b1 .len (.var 1))) (.cons (.setLc 9 (.nm 10) (.rng (.b1 .len (.ix (.var 1) (.int 0)))) (.ife (.dget 7 (.tup (.cons (.var 6) (.cons (.var 10) .nil))) (.bl true)) (.str [35]) (.str [46])))
    (.cons (.app 5 (.m1 .join (.str []) (.var 9)))
    .nil)))
    (.cons (.ret (.b1 .tuple (.var 5)))
    .nil))))))
def f_first_board : FSem := run 11 b_first_board
/-- first_barred(rule, board, cell, look, turns): rule board cell look turns first place -/
def b_first_barred : Ss := (.cons (.expr (.call 45 f_need_all (.cons (.var 0) (.cons (.var 1) (.cons (.var 2) (.cons (.var 3) (.cons (.var 4) .nil)))))))
    (.cons (.asg (.tup (.cons (.nm 5) (.cons (.nm 6) .nil))) (.call 46 f_told_colours (.cons (.var 0) (.cons (.var 1) (.cons (.var 2) (.cons (.var 3) (.cons (.var 4) .nil)))))))
    (.cons (.ret (.ife (.cmp .isN (.var 5) .non) (.bin .add (.var 6) (.int 1)) .non))
    .nil)))
def f_first_barred : FSem := run 7 b_first_barred
/-- written(state): state board cell look -/
def b_written : Ss := (.cons (.asg (.tup (.cons (.nm 1) (.cons (.nm 2) (.cons (.nm 3) .nil)))) (.var 0))
    (.cons (.ret (.bin .add (.bin .add (.bin .add (.bin .add (.bin .add (.bin .add (.m1 .join (.str [47]) (.var 1)) (.str [32])) (.b1 .str (.ix (.var 2) (.int 0)))) (.str [44])) (.b1 .str (.ix (.var 2) (.int 1)))) (.str [32])) (.ix (.gstr 2 [94, 62, 118, 60]) (.var 3))))
    .nil))
def f_written : FSem := run 4 b_written
/-- format_state(state): state -/
def b_format_state : Ss := (.cons (.expr (.call 8 f_need_state (.cons (.var 0) .nil)))
    (.cons (.ret (.call 50 f_written (.cons (.var 0) .nil)))
    .nil))
def f_format_state : FSem := run 1 b_format_state
/-- digit(word): word -/
def b_digit : Ss := (.cons (.iff (.or (.cons (.cmp .ne (.b1 .len (.var 0)) (.int 1)) (.cons (.cmp .nin (.var 0) (.str [48, 49, 50, 51])) .nil))) (.cons (.rais 9)
    .nil) .nil)
    (.cons (.ret (.b1 .int (.var 0)))
    .nil))
def f_digit : FSem := run 1 b_digit
/-- parse_state(text): text words numbers state -/
def b_parse_state : Ss := (.cons (.set 1 (.ife (.isi (.var 0) .str) (.m1 .split (.var 0) (.str [32])) (.lst .nil)))
    (.cons (.iff (.or (.cons (.cmp .ne (.b1 .len (.var 1)) (.int 3)) (.cons (.cmp .ne (.b1 .len (.ix (.var 1) (.int 2))) (.int 1)) (.cons (.cmp .nin (.ix (.var 1) (.int 2)) (.gstr 2 [94, 62, 118, 60])) .nil)))) (.cons (.rais 9)
    .nil) .nil)
    (.cons (.set 2 (.m1 .split (.ix (.var 1) (.int 1)) (.str [44])))
    (.cons (.iff (.cmp .ne (.b1 .len (.var 2)) (.int 2)) (.cons (.rais 9)
    .nil) .nil)
    (.cons (.set 3 (.tup (.cons (.b1 .tuple (.m1 .split (.ix (.var 1) (.int 0)) (.str [47]))) (.cons (.tup (.cons (.call 52 f_digit (.cons (.ix (.var 2) (.int 0)) .nil)) (.cons (.call 52 f_digit (.cons (.ix (.var 2) (.int 1)) .nil)) .nil))) (.cons (.m1 .index (.gstr 2 [94, 62, 118, 60]) (.ix (.var 1) (.int 2))) .nil)))))
    (.cons (.iff (.not (.call 5 f_is_state (.cons (.var 3) .nil))) (.cons (.rais 9)
    .nil) .nil)
    (.cons (.ret (.var 3))
    .nil)))))))
def f_parse_state : FSem := run 4 b_parse_state
/-- _law_drawn(cell, k): cell k more -/
def b_law_drawn : Ss := (.cons (.set 2 (.bin .mod (.bin .add (.bin .mul (.var 0) (.int 6364136223846793005)) (.bin .mul (.bin .add (.var 1) (.int 1)) (.int 1442695040888963407))) (.int 340282366920938463463374607431768211507)))
    (.cons (.set 2 (.bin .mod (.bin .mul (.var 2) (.var 2)) (.int 340282366920938463463374607431768211297)))
    (.cons (.set 2 (.bin .mul (.bin .mul (.bin .add (.bin .mod (.var 2) (.int 18446744073709551557)) (.int 1)) (.bin .add (.bin .fdiv (.var 2) (.int 18446744073709551557)) (.int 1))) (.var 2)))
    (.cons (.ret (.bin .mod (.var 2) (.int 340282366920938463463374607431768211507)))
    .nil))))
def f_law_drawn : FSem := run 3 b_law_drawn
/-- _law_roll(dice, many): dice many told -/
def b_law_roll : Ss := (.cons (.iff (.cmp .ge (.ix (.var 0) (.int 0)) (.bin .pow (.int 10) (.int 18))) (.cons (.set 2 (.bin .mod (.ix (.var 0) (.int 0)) (.var 1)))
    (.cons (.dset 0 0 (.bin .fdiv (.ix (.var 0) (.int 0)) (.var 1)))
    (.cons (.ret (.var 2))
    .nil))) .nil)
    (.cons (.dset 0 1 (.bin .add (.ix (.var 0) (.int 1)) (.int 1)))
    (.cons (.ret (.bin .mod (.bin .fdiv (.call 54 f_law_drawn (.cons (.ix (.var 0) (.int 0)) (.cons (.ix (.var 0) (.int 1)) .nil))) (.int 8)) (.var 1)))
    .nil)))
def f_law_roll : FSem := run 3 b_law_roll
/-- _law_any_rule(dice): dice -/
def b_law_any_rule : Ss := (.cons (.iff (.cmp .eq (.call 55 f_law_roll (.cons (.var 0) (.cons (.int 3) .nil))) (.int 0)) (.cons (.ret (.ix (.lst (.cons (.str [82, 76]) (.cons (.str [76, 82]) .nil))) (.call 55 f_law_roll (.cons (.var 0) (.cons (.int 2) .nil)))))
    .nil) .nil)
    (.cons (.ret (.bin .add (.ix (.str [82, 76, 70, 66]) (.call 55 f_law_roll (.cons (.var 0) (.cons (.int 4) .nil)))) (.ix (.str [82, 76, 70, 66]) (.call 55 f_law_roll (.cons (.var 0) (.cons (.int 4) .nil))))))
    .nil))
def f_law_any_rule : FSem := run 1 b_law_any_rule
/-- _law_any_board(dice, size): dice size found number rows columns column -/
def b_law_any_board : Ss := (.cons (.par 4 5 (.ex (.bin .add (.int 1) (.call 55 f_law_roll (.cons (.var 0) (.cons (.int 3) .nil))))) (.ex (.bin .add (.int 1) (.call 55 f_law_roll (.cons (.var 0) (.cons (.int 4) .nil))))))
    (.cons (.whil 20000 (.cmp .gt (.bin .mul (.var 4) (.var 5)) (.var 1)) (.cons (.asg (.tup (.cons (.nm 4) (.cons (.nm 5) .nil))) (.ife (.cmp .ge (.var 4) (.var 5)) (.tup (.cons (.bin .sub (.var 4) (.int 1)) (.cons (.var 5) .nil))) (.tup (.cons (.var 4) (.cons (.bin .sub (.var 5) (.int 1)) .nil)))))
    .nil))
    (.cons (.own 2 .nil)
    (.cons (.for_ (.nm 3) (.rng (.var 4)) (.cons (.app 2 (.m1 .join (.str []) (.lc (.nm 6) (.rng (.var 5)) (.ix (.str [46, 35]) (.call 55 f_law_roll (.cons (.var 0) (.cons (.int 2) .nil)))))))
    .nil))
    (.cons (.ret (.b1 .tuple (.var 2)))
    .nil)))))
def f_law_any_board : FSem := run 7 b_law_any_board
/-- _law_any_state(dice, size): dice size board -/
def b_law_any_state : Ss := (.cons (.set 2 (.call 57 f_law_any_board (.cons (.var 0) (.cons (.var 1) .nil))))
    (.cons (.ret (.tup (.cons (.var 2) (.cons (.tup (.cons (.call 55 f_law_roll (.cons (.var 0) (.cons (.b1 .len (.var 2)) .nil))) (.cons (.call 55 f_law_roll (.cons (.var 0) (.cons (.b1 .len (.ix (.var 2) (.int 0))) .nil))) .nil))) (.cons (.call 55 f_law_roll (.cons (.var 0) (.cons (.int 4) .nil))) .nil)))))
    .nil))
def f_law_any_state : FSem := run 3 b_law_any_state
/-- _law_step(rule, state): rule state black turn look line made board down right row column -/
def b_law_step : Ss := (.cons (.asg (.tup (.cons (.nm 7) (.cons (.tup (.cons (.nm 10) (.cons (.nm 11) .nil))) (.cons (.nm 4) .nil)))) (.var 1))
    (.cons (.set 2 (.cmp .eq (.ix (.ix (.var 7) (.var 10)) (.var 11)) (.str [35])))
    (.cons (.set 3 (.ix (.var 0) (.b1 .int (.var 2))))
    (.cons (.set 4 (.bin .mod (.bin .add (.var 4) (.ix (.lst (.cons (.int 1) (.cons (.int 3) (.cons (.int 0) (.cons (.int 2) .nil))))) (.m1 .index (.str [82, 76, 70, 66]) (.var 3)))) (.int 4)))
    (.cons (.set 5 (.bin .add (.bin .add (.sl (.ix (.var 7) (.var 10)) .none (.some (.var 11))) (.ife (.var 2) (.str [46]) (.str [35]))) (.sl (.ix (.var 7) (.var 10)) (.some (.bin .add (.var 11) (.int 1))) .none)))
    (.cons (.set 6 (.bin .add (.bin .add (.sl (.var 7) .none (.some (.var 10))) (.tup (.cons (.var 5) .nil))) (.sl (.var 7) (.some (.bin .add (.var 10) (.int 1))) .none)))
    (.cons (.asg (.tup (.cons (.nm 8) (.cons (.nm 9) .nil))) (.ix (.lst (.cons (.tup (.cons (.neg (.int 1)) (.cons (.int 0) .nil))) (.cons (.tup (.cons (.int 0) (.cons (.int 1) .nil))) (.cons (.tup (.cons (.int 1) (.cons (.int 0) .nil))) (.cons (.tup (.cons (.int 0) (.cons (.neg (.int 1)) .nil))) .nil))))) (.var 4)))
    (.cons (.ret (.tup (.cons (.tup (.cons (.var 6) (.cons (.tup (.cons (.bin .mod (.bin .add (.var 10) (.var 8)) (.b1 .len (.var 7))) (.cons (.bin .mod (.bin .add (.var 11) (.var 9)) (.b1 .len (.ix (.var 7) (.int 0)))) .nil))) (.cons (.var 4) .nil)))) (.cons (.var 3) .nil))))
    .nil))))))))
def f_law_step : FSem := run 12 b_law_step
/-- _law_course(rule, state, ticks): rule state ticks turn found turns now made -/
def b_law_course : Ss := (.cons (.par 4 5 (.nl (.cons (.var 1) .nil)) (.ex (.str [])))
    (.cons (.for_ (.nm 3) (.rng (.var 2)) (.cons (.asg (.tup (.cons (.nm 6) (.cons (.nm 7) .nil))) (.call 59 f_law_step (.cons (.var 0) (.cons (.ixo 4 (.neg (.int 1))) .nil))))
    (.cons (.app 4 (.var 6))
    (.cons (.set 5 (.bin .add (.var 5) (.var 7)))
    .nil))))
    (.cons (.ret (.tup (.cons (.var 4) (.cons (.var 5) .nil))))
    .nil)))
def f_law_course : FSem := run 8 b_law_course
/-- _law_round(rule, state): rule state found now -/
def b_law_round : Ss := (.cons (.par 2 3 (.nl (.cons (.var 1) .nil)) (.ex (.ix (.call 59 f_law_step (.cons (.var 0) (.cons (.var 1) .nil))) (.int 0))))
    (.cons (.whil 20000 (.cmp .ne (.var 3) (.var 1)) (.cons (.app 2 (.var 3))
    (.cons (.set 3 (.ix (.call 59 f_law_step (.cons (.var 0) (.cons (.var 3) .nil))) (.int 0)))
    .nil)))
    (.cons (.ret (.var 2))
    .nil)))
def f_law_round : FSem := run 4 b_law_round
/-- _law_all_boards(rows, columns): rows columns lines turn found longer board line -/
def b_law_all_boards : Ss := (.cons (.set 2 (.lst (.cons (.str []) .nil)))
    (.cons (.for_ (.nm 3) (.rng (.var 1)) (.cons (.set 2 (.bin .add (.lc (.nm 7) (.seq (.var 2)) (.bin .add (.var 7) (.str [35]))) (.lc (.nm 7) (.seq (.var 2)) (.bin .add (.var 7) (.str [46])))))
    .nil))
    (.cons (.set 4 (.lst (.cons (.tup .nil) .nil)))
    (.cons (.for_ (.nm 3) (.rng (.var 0)) (.cons (.set 5 (.lst .nil))
    (.cons (.for_ (.nm 6) (.seq (.var 4)) (.cons (.set 5 (.bin .add (.var 5) (.lc (.nm 7) (.seq (.var 2)) (.bin .add (.var 6) (.tup (.cons (.var 7) .nil))))))
    .nil))
    (.cons (.set 4 (.var 5))
    .nil))))
    (.cons (.ret (.b1 .sorted (.var 4)))
    .nil)))))
def f_law_all_boards : FSem := run 8 b_law_all_boards
/-- visits_k(rule, state): rule state counts board cell look -/
def b_visits_k : Ss := (.cons (.expr (.call 9 f_need_both (.cons (.var 0) (.cons (.var 1) .nil))))
    (.cons (.dnew 2)
    (.cons (.for_ (.tup (.cons (.nm 3) (.cons (.nm 4) (.cons (.nm 5) .nil)))) (.seq (.call 23 f_round_from (.cons (.var 0) (.cons (.var 1) .nil)))) (.cons (.dput 2 (.var 4) (.bin .add (.dget 2 (.var 4) (.int 0)) (.int 1)))
    .nil))
    (.cons (.ret (.b1 .tpk (.lc (.nm 4) (.seq (.call 12 f_cells_of (.cons (.b1 .len (.ix (.var 1) (.int 0))) (.cons (.b1 .len (.ix (.ix (.var 1) (.int 0)) (.int 0))) .nil)))) (.dget 2 (.var 4) (.int 0)))))
    .nil))))
def f_visits_k : FSem := run 6 b_visits_k
end Fw

set_option Elab.async false
set_option linter.all false
set_option autoImplicit false
set_option maxRecDepth 100000
set_option maxHeartbeats 4000000
/-! FwTop: the law's own frame: _law_cell, _law_rounds, the loop over the dice. -/
namespace Fw
open PySem L2

def b_law_cell : Ss := .cons (.iff (.cmp .eq (.var 0) (.lst .nil)) (.cons (.ret (.bin .mul (.var 1) (.int 7919))) .nil) .nil)
  (.cons (.ret (.bin .add (.ix (.var 0) (.bin .mod (.var 1) (.b1 .len (.var 0)))) (.bin .mul (.bin .fdiv (.var 1) (.b1 .len (.var 0))) (.int 104729)))) .nil)
def b_law_rounds : Ss := .cons (.ret (.lc (.nm 2) (.rng (.b2 .max (.int 1) (.b2 .min (.var 1) (.b1 .len (.var 0))))) (.lst (.cons (.callS 63 (.cons (.var 0) (.cons (.var 2) .nil))) (.cons (.int 0) .nil))))) .nil
def b_frame (m : Int) (b : Ss) : Ss := .cons (.for_ (.nm 1) (.seq (.callS 64 (.cons (.var 0) (.cons (.int m) .nil)))) b) (.cons (.ret (.bl true)) .nil)

def spCellF (K : PySem.W.Frag) : Sp := fun vs H Q _ => ∃ (a : Addr) (ns : List Int) (k : Int), vs = [.ref a, .int k] ∧ SqL K H a (ns.map V.int) ∧ ns.length ≤ 63 ∧ 0 ≤ k ∧ k < 64 ∧ ∀ i H', Same H H' → Q (.int i) H'
def spRounds (K : PySem.W.Frag) : Sp := fun vs H Q _ => ∃ (a : Addr) (ns : List Int) (m : Int), vs = [.ref a, .int m] ∧ SqL K H a (ns.map V.int) ∧ ns.length ≤ 63 ∧ 1 ≤ m ∧ m < 64 ∧
  ∀ (p : Addr) (ps : List Addr) (H' : Hp), Same H H' → H p = none → H' p = some (.lst (ps.map V.ref)) → p ∉ ps → ps.Nodup → (∀ q ∈ ps, H q = none ∧ ∃ n : Int, H' q = some (.lst [.int n, .int 0])) → Q (.ref p) H'

theorem SqL.same {K : PySem.W.Frag} {H H' : Hp} {a : Addr} {xs : List V} (h : SqL K H a xs) (e : Same H H') : SqL K H' a xs := by
  rcases h with (h | ⟨o, h⟩) | h
  · exact .inl (.inl (e _ _ h))
  · exact .inl (.inr ⟨o, e _ _ h⟩)
  · exact .inr h
theorem dp_ints {K : PySem.W.Frag} {H : Hp} : ∀ ns : List Int, DpAll K H (ns.map V.int) (ns.map PyData.int)
  | [] => .nil
  | n :: ns => .cons (.int n) (dp_ints ns)
theorem lay_ints : ∀ ns : List Int, PyData.canLayAll0 (ns.map PyData.int) = true
  | [] => rfl
  | n :: ns => by
    have := lay_ints ns
    simp [PyData.canLayAll0, PyData.canLay0, this]
theorem depth_ints : ∀ ns : List Int, PyData.depthAll (ns.map PyData.int) ≤ 1
  | [] => by simp [PyData.depthAll]
  | n :: ns => by
    have := depth_ints ns
    simp [PyData.depthAll, PyData.depth]
    omega
theorem shaped_ints (ns : List Int) : SeqAt.shaped (.list (ns.map PyData.int)) = true := by
  have h1 := lay_ints ns
  have h2 := depth_ints ns
  simp [SeqAt.shaped, PyData.canLay0, PyData.depth, h1]
  omega

theorem cell_rd {g : Gm} {W : XK} {D : Ends} {N : List Str} {vs : List V} {H : Hp} {E : XK} (h : spCellF g.K vs H D.rt E) : trSs g b_law_cell W D (L2.start N vs) H := by
  obtain ⟨a, ns, k, rfl, hS, hl, h0, h1, hq⟩ := h
  have s0 : (L2.start N [V.ref a, V.int k])[0]? = some (some (V.ref a)) := rfl
  have s1 : (L2.start N [V.ref a, V.int k])[1]? = some (some (V.int k)) := rfl
  refine ⟨_, s0, Nat.zero_le _, fun p hp => ?_⟩
  have eS : Same H (upd H p (.lst [])) := same_upd hp
  have hS' := SqL.same hS eS
  refine ⟨.list (ns.map PyData.int), .list [], .lst hS' (dp_ints ns), .lst (SqL.of upd_same) .nil, shaped_ints ns, by decide, _, rfl, ?_⟩
  cases ns with
  | nil =>
    have e : PyData.eqv (.list (([] : List Int).map PyData.int)) (.list []) = true := by simp [PyData.eqv, PyData.eqvAll]
    rw [if_pos e]
    exact ⟨_, s1, .inl ⟨k, 7919, rfl, rfl, .inl ⟨by omega, by omega⟩, hq _ _ eS⟩⟩
  | cons n ns =>
    have e : PyData.eqv (.list ((n :: ns).map PyData.int)) (.list []) = false := by simp [PyData.eqv, PyData.eqvAll]
    rw [if_neg (by rw [e]; simp)]
    have hlen : (((n :: ns).map V.int).length : Int) = (ns.length : Int) + 1 := by simp
    have hp0 : (0 : Int) < (((n :: ns).map V.int).length : Int) := by omega
    have hm0 := Int.emod_nonneg k (show (((n :: ns).map V.int).length : Int) ≠ 0 by omega)
    have hm1 := Int.emod_lt_of_pos k hp0
    obtain ⟨j, hj⟩ : ∃ j : Nat, (j : Int) = k % (((n :: ns).map V.int).length : Int) := ⟨(k % (((n :: ns).map V.int).length : Int)).toNat, Int.toNat_of_nonneg hm0⟩
    have hjl : j < (n :: ns).length := by
      have : (((n :: ns).map V.int).length : Int) = ((n :: ns).length : Int) := by simp
      omega
    refine ⟨_, s0, ⟨_, s1, ⟨_, s0, ⟨V.ref a, _, rfl, .inl ⟨_, hS', rfl⟩, ⟨k, _, rfl, rfl, hp0, ?_⟩⟩⟩⟩⟩
    have hat : atI ((n :: ns).map V.int) (k % (((n :: ns).map V.int).length : Int)) = some (V.int ((n :: ns).getD j 0)) := by
      rw [← hj]
      unfold atI ixN
      rw [if_pos (by omega), if_pos (by rw [List.length_map]; omega)]
      show ((n :: ns).map V.int)[j]? = _
      rw [List.getElem?_map, List.getD, List.getElem?_eq_getElem hjl] <;> rfl
    refine .inl ⟨a, _, _, _, rfl, rfl, hS', hat, ?_⟩
    have hd0 : 0 ≤ k / (((n :: ns).map V.int).length : Int) := Int.ediv_nonneg h0 (by omega)
    have hd1 : k / (((n :: ns).map V.int).length : Int) ≤ k := Int.ediv_le_self _ h0
    refine ⟨_, s1, ⟨_, s0, ⟨V.ref a, _, rfl, .inl ⟨_, hS', rfl⟩, ⟨k, _, rfl, rfl, ⟨hp0, ?_⟩, ?_⟩⟩⟩⟩
    · refine Nat.lt_of_le_of_lt (Nat.log2_le_self _) ?_
      have : (((n :: ns).map V.int).length : Int).natAbs = (n :: ns).length := (Int.natAbs_natCast _).trans (List.length_map _)
      omega
    · refine .inl ⟨_, 104729, rfl, rfl, .inl ⟨by omega, by omega⟩, ?_⟩
      exact .inl ⟨_, _, rfl, rfl, hq _ _ eS⟩

theorem rounds_rd {g : Gm} (hg : g.sp 63 = spCellF g.K) {W : XK} {D : Ends} {vs : List V} {H : Hp} {E : XK} (h : spRounds g.K vs H D.rt E) : trSs g b_law_rounds W D (L2.start ["script", "most", "k"] vs) H := by
  obtain ⟨a, ns, m, rfl, hS, hl, h0, h1, hq⟩ := h
  have s0 : (L2.start ["script", "most", "k"] [V.ref a, V.int m])[0]? = some (some (V.ref a)) := rfl
  have s1 : (L2.start ["script", "most", "k"] [V.ref a, V.int m])[1]? = some (some (V.int m)) := rfl
  refine ⟨_, s1, _, s0, ⟨V.ref a, _, rfl, .inl ⟨_, hS, rfl⟩, ⟨_, _, rfl, ?_⟩⟩⟩
  generalize hc : (if (((ns.map V.int).length : Nat) : Int) < m then (((ns.map V.int).length : Nat) : Int) else m) = c
  have hc0 : 0 ≤ c ∧ c < 64 := by
    rw [← hc]
    split <;> omega
  refine ⟨1, c, rfl, ?_⟩
  generalize hb : (if c > 1 then c else 1) = b
  have hb0 : 0 ≤ b ∧ b < 64 := by
    rw [← hb]
    split <;> omega
  refine ⟨b, rfl, by omega, by omega, fun Dl hD => ?_⟩
  refine ⟨fun i mm H' => i + mm = b.toNat ∧ ∃ ps : List Addr, ps.length = i ∧ Same H H' ∧ H' Dl = some (.lst (ps.map V.ref)) ∧ Dl ∉ ps ∧ ps.Nodup ∧ ∀ q ∈ ps, H q = none ∧ ∃ z : Int, H' q = some (.lst [.int z, .int 0]), ⟨b.toNat, by omega, [], rfl, same_upd hD, upd_same, by simp, by simp, by simp⟩, ?_⟩
  rintro i mm H' ⟨hi, ps, hpl, eS, hDl, hnD, hnd, hps⟩
  by_cases hlt : i < b.toNat
  · refine .inr ⟨hlt, fun H'' => (i + 1) + (mm - 1) = b.toNat ∧ ∃ ps : List Addr, ps.length = i + 1 ∧ Same H H'' ∧ H'' Dl = some (.lst (ps.map V.ref)) ∧ Dl ∉ ps ∧ ps.Nodup ∧ ∀ q ∈ ps, H q = none ∧ ∃ z : Int, H'' q = some (.lst [.int z, .int 0]), fun H'' w => ⟨mm - 1, by omega, w⟩, ?_⟩
    rintro x H'' ⟨rfl, rfl⟩
    refine ⟨rfl, ?_⟩
    unfold tYes
    dsimp only
    rw [if_pos rfl]
    refine ⟨V.ref a, rfl, V.int (0 + i), rfl, ?_⟩
    show g.sp 63 _ _ _ _
    rw [hg]
    refine ⟨a, ns, 0 + i, rfl, SqL.same hS eS, hl, by omega, by omega, fun z H2 e2 => ?_⟩
    refine ⟨by show 2 ≤ sizeLine; rw [sizeLine_eq]; decide, fun q hq0 => ?_⟩
    have hD2 := e2 _ _ hDl
    have hqD : q ≠ Dl := fun zz => by rw [zz, hD2] at hq0; cases hq0
    have eq2 : Same H2 (upd H2 q (.lst [.int z, .int 0])) := same_upd hq0
    have hqp : q ∉ ps := fun zz => by
      obtain ⟨_, z', e'⟩ := hps q zz
      rw [e2 _ _ e'] at hq0
      cases hq0
    have hHq : H q = none := by
      cases e : H q with
      | none => rfl
      | some o => rw [e2 _ _ (eS _ _ e)] at hq0; cases hq0
    have hHD : H Dl = none := hD
    refine ⟨_, eq2 _ _ hD2, ?_, by omega, ps ++ [q], by simp [hpl], fun b' o e => ?_, ?_, ?_, ?_, fun r hr => ?_⟩
    · rw [List.length_map, hpl, sizeLine_eq]
      have : (64 : Nat) < SL := by decide
      omega
    · have : b' ≠ Dl := fun zz => by rw [zz, hHD] at e; cases e
      rw [upd_ne this]
      exact eq2 _ _ (e2 _ _ (eS _ _ e))
    · rw [upd_same, List.map_append] <;> rfl
    · simp only [List.mem_append, List.mem_singleton, not_or]
      exact ⟨hnD, fun zz => hqD zz.symm⟩
    · rw [List.nodup_append]
      exact ⟨hnd, by simp, fun x hx y hy => by
        rw [List.mem_singleton] at hy
        subst hy
        exact fun zz => hqp (zz ▸ hx)⟩
    · rcases List.mem_append.mp hr with hr | hr
      · obtain ⟨h3, z', e'⟩ := hps r hr
        have hrD : r ≠ Dl := fun zz => hnD (zz ▸ hr)
        exact ⟨h3, z', by rw [upd_ne hrD]; exact eq2 _ _ (e2 _ _ e')⟩
      · rw [List.mem_singleton] at hr
        subst hr
        exact ⟨hHq, z, by rw [upd_ne hqD, upd_same]⟩
  · refine .inl ⟨by show b.toNat ≤ i; omega, hq Dl ps H' eS hD hDl hnD hnd hps⟩

theorem frame_rd {g : Gm} (hg : g.sp 64 = spRounds g.K) (b : Ss) (t : Bool) (m : Int) (hm1 : 1 ≤ m) (hm2 : m < 64) {N : List Str} (hN : 2 ≤ N.length) (hnd : ndSs g t b) (hT : t = true → TtOk g)
    (law : ∀ n : Int, ∃ s', evSs b ⟨.un :: .val .dice :: List.replicate (N.length - 2) .un, n, 0, false⟩ = .nx s' ∧ s'.env.length = N.length)
    {W : XK} {D : Ends} {H : Hp} {a : Addr} {ns : List Int} (hrt : ∀ H', D.rt (.bl true) H') (hS : SqL g.K H a (ns.map V.int)) (hl : ns.length ≤ 63) (tabs : LamX.Tabs g.T H) : trSs g (b_frame m b) W D (L2.start N [.ref a]) H := by
  have s0 : (L2.start N [V.ref a])[0]? = some (some (V.ref a)) := rfl
  refine ⟨_, s0, ?_⟩
  show g.sp 64 _ _ _ _
  rw [hg]
  refine ⟨a, ns, m, rfl, hS, hl, hm1, hm2, fun p ps H1 eS hp0 hp hnp hnod hps => .inl ⟨p, rfl, ⟨_, SqL.of hp⟩, ?_⟩⟩
  refine for_list (xs := ps.map V.ref) (fun i σ H' => σ.length = N.length ∧ LamX.Tabs g.T H' ∧ H' p = some (.lst (ps.map V.ref)) ∧ ∀ j q, i ≤ j → ps[j]? = some q → ∃ z : Int, H' q = some (.lst [.int z, .int 0])) ?_ (fun i σ H' _ h => SqL.of h.2.2.1) ?_ (fun σ H' _ => hrt H')
  · exact ⟨start_len (by simp; omega), tabs.ext eS, hp, fun j q _ e => (hps q (List.mem_of_getElem? e)).2⟩
  · rintro i x σ H' hx ⟨hσ, hTab, hpl, hd⟩
    rw [List.getElem?_map] at hx
    cases e : ps[i]? with
    | none => rw [e] at hx; cases hx
    | some q =>
      rw [e] at hx
      cases hx
      obtain ⟨z, hz⟩ := hd i q (Nat.le_refl _) e
      obtain ⟨s', he, hlen⟩ := law z
      have hil : i < ps.length := (List.getElem?_eq_some_iff.mp e).1
      have hqi : ps[i] = q := (List.getElem?_eq_some_iff.mp e).2
      have hqp : q ≠ p := fun zz => hnp (zz ▸ List.mem_of_getElem? e)
      have hqd : q ∉ ps.drop (i + 1) := fun zz => by
        obtain ⟨k, hk, ek⟩ := List.mem_iff_getElem.mp zz
        rw [List.getElem_drop] at ek
        have := (List.getElem_inj hnod (h₀ := hil) (h₁ := by rw [List.length_drop] at hk; omega) (i := i) (j := i + 1 + k)).mp (hqi.trans ek.symm)
        omega
      have hdr : ∀ r ∈ ps.drop (i + 1), ∃ w : Int, H' r = some (.lst [.int w, .int 0]) := fun r hr => by
        obtain ⟨k, hk, ek⟩ := List.mem_iff_getElem.mp hr
        rw [List.getElem_drop] at ek
        rw [List.length_drop] at hk
        exact hd (i + 1 + k) r (by omega) (by rw [List.getElem?_eq_getElem (by omega), ek])
      let Hf : Hp := fun c => if c = p then some (.lst (ps.map V.ref)) else if c ∈ ps.drop (i + 1) then H' c else none
      have hfp : Hf p = some (.lst (ps.map V.ref)) := if_pos rfl
      have hfr : ∀ r ∈ ps.drop (i + 1), Hf r = H' r := fun r hr => by
        have : r ≠ p := fun zz => hnp (zz ▸ List.mem_of_mem_drop hr)
        show (if r = p then _ else _) = _
        rw [if_neg this, if_pos hr]
      have hfs : ∀ c o, Hf c = some o → (c = p ∧ o = .lst (ps.map V.ref)) ∨ (c ∈ ps.drop (i + 1) ∧ H' c = some o) := fun c o h => by
        by_cases h1 : c = p
        · left
          rw [h1, hfp] at h
          exact ⟨h1, (Option.some.inj h).symm⟩
        · have h2 : (if c ∈ ps.drop (i + 1) then H' c else none) = some o := by
            have h3 : (if c = p then some (HO.lst (ps.map V.ref)) else if c ∈ ps.drop (i + 1) then H' c else none) = some o := h
            rw [if_neg h1] at h3
            exact h3
          by_cases h3 : c ∈ ps.drop (i + 1)
          · rw [if_pos h3] at h2
            exact .inr ⟨h3, h2⟩
          · rw [if_neg h3] at h2
            cases h2
      have st : StOk ⟨q, fun _ => none, Hf, g.T, false, g.w⟩ (σ.set 1 (some (.ref q))) H' Hf ⟨.un :: .val .dice :: List.replicate (N.length - 2) .un, z, 0, false⟩ := by
        refine ⟨(fun _ _ h => by cases h), fun c o h => ?_, (fun _ _ h => by cases h), Same.refl _, hz, ?_, hTab, fun j => ?_, fun i1 i2 r h1 h2 => ?_, ?_, rfl, fun c w h => ?_⟩
        · rcases hfs c o h with ⟨h1, h2⟩ | ⟨_, h2⟩
          · rw [h1, h2]
            exact hpl
          · exact h2
        · cases h : Hf q with
          | none => rfl
          | some o =>
            rcases hfs q o h with ⟨h1, _⟩ | ⟨h1, _⟩
            · exact (hqp h1).elim
            · exact (hqd h1).elim
        · match j with
          | 0 => trivial
          | 1 => exact ⟨.ref q, σ_set_same (by omega), .dice⟩
          | j + 2 =>
            have : S.get ⟨.un :: .val .dice :: List.replicate (N.length - 2) .un, z, 0, false⟩ (j + 2) = .un := by
              show (List.replicate (N.length - 2) Sl.un).getD j .un = .un
              unfold List.getD
              rw [List.getElem?_replicate]
              split <;> rfl
            rw [this]
            trivial
        · exfalso
          match i1 with
          | 0 => exact h1
          | 1 => exact h1
          | j + 2 =>
            have : S.get ⟨.un :: .val .dice :: List.replicate (N.length - 2) .un, z, 0, false⟩ (j + 2) = .un := by
              show (List.replicate (N.length - 2) Sl.un).getD j .un = .un
              unfold List.getD
              rw [List.getElem?_replicate]
              split <;> rfl
            rw [this] at h1
            exact h1
        · simp
          omega
        · rcases hfs c _ h with ⟨_, h2⟩ | ⟨h1, h2⟩
          · cases h2
          · obtain ⟨w', h3⟩ := hdr c h1
            rw [h3] at h2
            cases h2
      refine Ss_ok g b t W ⟨q, fun _ => none, Hf, g.T, false, g.w⟩ _ H' Hf _ _ ⟨rfl, fun ht => ⟨rfl, fun _ => rfl, hT ht⟩⟩ hnd rfl st ?_
      rw [he]
      intro σ' H2 Hf2 e2 st2
      refine ⟨by rw [← st2.len]; exact hlen, st2.tabs, st2.sub _ _ (e2 _ _ hfp), fun j r hj er => ?_⟩
      have hr : r ∈ ps.drop (i + 1) := by
        rw [List.mem_iff_getElem?]
        exact ⟨j - (i + 1), by rw [List.getElem?_drop, ← er]; congr 1; omega⟩
      obtain ⟨w, hw⟩ := hdr r hr
      exact ⟨w, st2.sub _ _ (e2 _ _ ((hfr r hr).trans hw))⟩
end Fw

set_option Elab.async false
set_option linter.all false
set_option autoImplicit false
set_option maxRecDepth 100000
set_option maxHeartbeats 4000000
/-! FwHot: lists walked while an exception is handled. -/
namespace Fw
open PySem PySem.Spec PyProof.Rows L2 HotX

section
variable {prog : Program} {w : World} {A : Around} {E : Value → Shared → Prop} {s : Shared}
theorem endHot {it ls xx : Addr} {k : Nat} {its : Array Value} {Q : Option Value → Shared → Prop} (hot : HotAt A xx s.heap) (isI : s.heap.IsListIter it ls k) (isL : s.heap.IsList ls its) (hk : its[k]? = none)
    (hQ : ∀ hp, Heap.ExtBut it s.heap hp → Q none { s with heap := hp }) : wpAny (model prog w) A (pyNext (.ref it)) Q E s := by
  obtain ⟨ob, gob, cob, dob⟩ := id isI
  obtain ⟨ol, gol, _, nl, dol⟩ := isL
  obtain ⟨hh, ox, vx, gx, dx, cx⟩ := hot
  have nx : xx ≠ it := fun z => by
    rw [z, gob] at gx
    cases gx
    rw [dob] at dx
    cases dx
    simp at cx
  unfold pyNext
  refine wpAny_bind (wpAny_attempt (wpAny_callSpecial?_slot (name := Str.ofString "__next__") isI.typeIs slot_listiter_next
    (wpAny_call_entry slot_listiter_next isI.typeIs entry_listiter_next ?_ (args_listiter_next _))))
  show wpAny _ _ (field (.ref it) 0 >>= _) _ _ s
  refine wpAny_bind (wpAny_field gob dob (x := .ref ls) rfl ?_)
  show wpAny _ _ (if (Value.ref ls == Value.none) = true then _ else _) _ _ s
  rw [if_neg (show ¬ ((Value.ref ls == Value.none) = true) from Bool.false_ne_true)]
  show wpAny _ _ (field (.ref it) 1 >>= _) _ _ s
  refine wpAny_bind (wpAny_field gob dob (x := .int k 0) rfl ?_)
  show wpAny _ _ (seqItems? (.ref ls) >>= _) _ _ s
  refine wpAny_bind (wpAny_seqItems gol dol ?_)
  simp only [Int.toNat_natCast, hk]
  refine wpAny_bind (wpAny_rule (wpAny_bind (wpAny_setField gob dob (by simp) ?_)))
  show wpAny _ _ (newExc (.type "StopIteration") [] >>= _) _ _ _
  refine wpAny_bind ?_
  simp only [newExc, newTuple]
  refine wpAny_bind (wpAny_newObj_type ?_ (by size_fits))
  refine wpAny_bind (m := firstArgMember _ _) (wpAny_of_eq (a := Value.none) (by first | rfl | (simp only [firstArgMember]; rfl)) ?_)
  refine wpAny_newObj_type ?_ (by size_fits)
  have gx' : (s.heap.update it (Obj.mapFields (·.setIfInBounds 0 .none))).get? xx = some ox := by
    rw [Heap.get?_update_other _ _ nx.symm]
    exact gx
  refine raiseNew_hot ⟨hh, ox, vx, Heap.get?_push_of_some _ (Heap.get?_push_of_some _ gx'), dx, cx⟩ (Nat.ne_of_lt (Heap.lt_size (Heap.get?_push_of_some _ gx'))) (Heap.get?_push_size _ rfl) rfl (by first | (simp; done) | (simp; omega) | (simp only [Array.size_append]; simp; omega)) ?_
  refine wpAny_bind (wpAny_isInstance (T := "StopIteration") (b := true) ⟨_, Heap.get?_update_self _ (Heap.get?_push_size _ rfl) rfl, rfl⟩ isSubtype_stop ?_)
  refine wpAny_pure (hQ _ fun b o nb e => ?_)
  have e' : (s.heap.update it (Obj.mapFields (·.setIfInBounds 0 .none))).get? b = some o := by
    rw [Heap.get?_update_other _ _ (Ne.symm nb)]
    exact e
  rw [Heap.get?_update_other _ _ (Nat.ne_of_gt (Heap.lt_size (Heap.get?_push_of_some _ e')))]
  exact Heap.get?_push_of_some _ (Heap.get?_push_of_some _ e')
/-- a list walked, the handled exception among what must stay -/
theorem walkHot {it ls xx : Addr} {ox : Obj} {vx : Array Value} (hh : A.handled = some (.ref xx)) (dx : ox.data = .fields vx) (cx : vx[2]? = some .none) (hne : ls ≠ it) (its : Array Value) :
    Walks prog w A it [it, ls, xx] [it] its.size (fun i v => its[i]? = some v) (fun i h => h.IsListIter it ls i ∧ h.IsList ls its ∧ h.get? xx = some ox) where
  sub := fun b hb => by
    rw [List.mem_singleton] at hb
    rw [hb]
    exact List.mem_cons_self
  frame := fun i h h' ⟨⟨o, e, r⟩, ⟨o2, e2, r2⟩, e3⟩ k => ⟨⟨o, k _ (by simp) _ e, r⟩, ⟨o2, k _ (by simp) _ e2, r2⟩, k _ (by simp) _ e3⟩
  item := fun i s Q E hi ⟨st1, st2, st3⟩ hQ => by
    have nx : xx ≠ it := fun z => by
      obtain ⟨o, e, _, d⟩ := st1
      rw [z, e] at st3
      cases st3
      rw [d] at dx
      cases dx
      simp at cx
    obtain ⟨v, hv⟩ : ∃ v, its[i]? = some v := ⟨its[i], by simp [hi]⟩
    refine wpAny_pyNext_list_item st1 st2 hv fun h' i' sb => ?_
    refine hQ v h' s.toks hv ⟨i', ?_, ?_⟩ fun b o hb e => (sb.2 b (fun z => hb (by rw [z]; exact List.mem_singleton_self _))).trans e
    · obtain ⟨o2, e2, r2⟩ := st2
      exact ⟨o2, (sb.2 _ hne).trans e2, r2⟩
    · exact (sb.2 _ nx).trans st3
  done := fun s Q E ⟨st1, st2, st3⟩ hQ => endHot ⟨hh, ox, vx, st3, dx, cx⟩ st1 st2 (by simp) fun hp eb => hQ hp s.toks fun b o hb e => eb b o (fun z => hb (by rw [z]; exact List.mem_singleton_self _)) e
  self := fun i s Q E ⟨st1, _, _⟩ hQ => wpAny_pyIter_listiter st1 hQ
theorem sumHot {xx ls : Addr} {ox : Obj} {vx : Array Value} {its : List Value} {ns : List Int} {Q : Value → Shared → Prop} (hot : HotAt A xx s.heap) (hl : s.heap.IsList ls its.toArray) (hi : IntsAre its ns)
    (h : ∀ h' tk t', (∀ b o, s.heap.get? b = some o → h'.get? b = some o) → Q (.int ns.sum t') { s with heap := h', toks := tk }) : wpAny (model prog w) A (call (.builtin "sum") [.ref ls]) Q E s := by
  obtain ⟨hh, ox, vx, gx, dx, cx⟩ := hot
  obtain ⟨xs, e⟩ := hi.allInts.items
  have hn : numsOf (intItems xs).toList = ns := by rw [← e]; exact hi.numsOf
  rw [nums_intItems] at hn
  rw [e] at hl
  refine call_sum_walkG (iter_intList hl fun s2 e2 st hfp hlI => ?_)
  subst e2
  refine ⟨_, _, _, _, _, _, numAt xs, rfl, walkHot (A := A.in1) hh dx cx hlI (intItems xs), ⟨st.1, st.2, Heap.get?_push_of_some _ gx⟩, fun b hb => ?_, (fun _ _ => intItems_at), fun h' tk t' hk => ?_⟩
  · rcases List.mem_cons.mp hb with z | hb
    · exact hfp b (by rw [z]; simp)
    · rcases List.mem_cons.mp hb with z | hb
      · exact hfp b (by rw [z]; simp)
      · rw [List.mem_singleton] at hb
        rw [hb]
        exact Heap.lt_size (Heap.get?_push_of_some _ gx)
  · have q := h h' tk t' (old_kept hk)
    have e3 : preSum (numAt xs) (intItems xs).size = ns.sum := by
      rw [preSum_eq, List.take_of_length_le (by simp [intItems]), hn]
    rw [e3]
    exact q
end
section
variable {X : Cx}
theorem crSumH (hot : L2H.HotC X) : CallR X (.builtin "sum") (rSum X.K) := by
  intro pins s σ H vs us Q I r h
  obtain ⟨a, ns, rfl, hs, q⟩ := h
  obtain ⟨its, rv, hl, _⟩ := I.list hs
  obtain ⟨x1, ht⟩ := hot.at I
  rw [Vals.ref1 r]
  exact sumHot (vx := #[]) (ox := { cls := .none, data := .fields #[] }) ht hl.isList rv.ints fun h' tk t' hk => ⟨.int _, H, I.kept hk, ⟨_, rfl⟩, q⟩
/-- [elt for z in y], y a list's name, while an exception is handled -/
theorem lcHot {pins : List (Addr × Obj)} {s : Shared} {σ : L2.St} {H : Hp} {Q : VK} {elt tg : Expr} {scope : Scope} {own : List (Str × Nat)} {y : Str} {iy : Nat} {yp pos : Pos} {g : TG} {te : TE} {ls : Addr} {xs : List V}
    (hot : L2H.HotC X) (hN : X.N.Nodup) (I : Inv X pins σ H s) (hy : X.N[iy]? = some y) (vy : Vis X.env.scope y) (ok : BlkOk X.N X.env.scope scope own) (nd1 : (y == ("__debug__" : Str)) = false) (nd2 : (y == ("__classdict__" : Str)) = false)
    (hg : ∀ (s : Shared) (H : Hp) (C : Addr) (cl : List (Str × Addr)) (fp : List Addr), PG (X.blk s H scope (compEnvC scope cl C X.env) fp) tg g)
    (he : ∀ (s : Shared) (H : Hp) (C : Addr) (cl : List (Str × Addr)) (fp : List Addr), PE (X.blk s H scope (compEnvC scope cl C X.env) fp) elt te)
    (hσ : σ[iy]? = some (some (.ref ls))) (hls : H ls = some (.lst xs))
    (body : ∀ (D : Addr), H D = none → ∃ W : Nat → Hp → Prop, W 0 (upd H D (.lst [])) ∧ (∀ i H', W i H' → H' ls = some (.lst xs)) ∧ (∀ H', W xs.length H' → Q (.ref D) H') ∧
      ∀ i x H', xs[i]? = some x → W i H' → g x (wipe σ (own.map (·.2))) H' fun σ2 H2 => wipe σ2 (own.map (·.2)) = wipe σ (own.map (·.2)) ∧ te σ2 H2 fun z H4 => ∃ acc, H4 D = some (.lst acc) ∧ acc.length < sizeLine ∧ W (i + 1) (upd H4 D (.lst (acc ++ [z])))) :
    wpAny (model X.prog X.w) X.A (eval (.ListComp elt [⟨tg, .Name y yp, [], 0⟩] scope pos) X.env) (EP X pins σ Q) X.xe s := by
  rw [eval_ListComp]
  have caps : ∀ z ∈ scope.names, z.2 = .free → ∃ c, X.env.cells.lookup z.1 = some c := fun z hz e => by
    rcases ok.free z hz e with k | k
    · exact I.ok.has _ (.inl k)
    · exact I.ok.has _ (.inr k)
  refine wpAny_comprehension_free (use := none) rfl (fun _ => rfl) (closure_ok caps) ok.kind (fun z hz e => by rw [ok.uniq z hz, e])
    (thn ((pe_var (pos := yp) hy vy nd1 nd2).run pins s σ H (fun v H1 => v = .ref ls ∧ H1 = H) I ⟨.ref ls, hσ, rfl, rfl⟩) fun xv sa ⟨v, Ha, Ia, rv, ev, eH⟩ => ?_)
  subst ev
  rw [eH] at Ia
  obtain rfl : xv = Value.ref ls := rv
  obtain ⟨its, rvs, hp, hz⟩ := Ia.list (SqL.of hls)
  refine wpAny_pyIter_list hp.isList ?_
  generalize hit : sa.heap.objs.size = it
  generalize hsb : ({ sa with heap := sa.heap.push { cls := .type "list_iterator", data := .fields #[.ref ls, .int 0 0] } } : Shared) = sb
  have hbh : sb.heap = sa.heap.push { cls := .type "list_iterator", data := .fields #[.ref ls, .int 0 0] } := by rw [← hsb]
  have Ib : Inv X pins σ H sb := by
    rw [← hsb]
    exact Ia.kept (t' := sa.toks) fun b o e => Heap.get?_push_of_some _ e
  have iit : sb.heap.IsListIter it ls 0 := by
    rw [hbh, ← hit]
    exact ⟨_, Heap.get?_push_size _ rfl, rfl, rfl⟩
  have fit : FpOk X pins H it := Ia.fpOk (Nat.le_of_eq hit) (Ia.hok.fresh (Nat.le_of_eq hit))
  have ilt : it < sb.heap.objs.size := by
    obtain ⟨o, e, _⟩ := iit
    exact Heap.lt_size e
  refine wpAny_newObj_type (newEnv_comp ?_) (by show 0 ≤ sizeLine; decide)
  generalize hD : sb.heap.objs.size = D
  have Dn : H D = none := Ib.hok.fresh (Nat.le_of_eq hD)
  obtain ⟨W, w0, wl, wq, step⟩ := body D Dn
  generalize hsc : ({ sb with heap := sb.heap.push { cls := .type "list", data := .seq ([] : List Value).toArray } } : Shared) = sc
  have hch : sc.heap = sb.heap.push { cls := .type "list", data := .seq ([] : List Value).toArray } := by rw [← hsc]
  have Ic : Inv X pins σ (upd H D (.lst [])) sc := by
    rw [← hsc]
    refine Ib.laid (t' := sb.toks) (fun b o e => Heap.get?_push_of_some _ e) (Nat.le_of_eq hD) ⟨Nat.zero_le _, [], 0, .nil, ?_⟩
    rw [← hD]
    exact Heap.get?_push_size _ rfl
  have nID : it ≠ D := by rw [← hD]; exact Nat.ne_of_lt ilt
  have fc : ∀ b ∈ [it], FpOk X pins (upd H D (.lst [])) b ∧ b < sc.heap.objs.size := fun b hb => by
    rw [List.mem_singleton] at hb
    subst hb
    refine ⟨⟨?_, fit.2⟩, by rw [hch, Heap.size_push]; exact Nat.lt_succ_of_lt ilt⟩
    rw [upd_ne nID]
    exact fit.1
  have T := turn_list (P := X.prog) (w := X.w) (K := X.K) (tg := tg) ls it
  have ic : sc.heap.IsListIter it ls 0 := T.keep 0 _ _ iit fun b _ o e => by rw [hch]; exact Heap.get?_push_of_some _ e
  have Id := block_start Ic ok hN fc
  have pg := hg sc (upd H D (.lst [])) sc.heap.objs.size (cellsFrom (sc.heap.objs.size + 1) scope.names (cloFrom X.env.cells scope.names [])) [it]
  have pe := he sc (upd H D (.lst [])) sc.heap.objs.size (cellsFrom (sc.heap.objs.size + 1) scope.names (cloFrom X.env.cells scope.names [])) [it]
  show codeAny _ _ (.compStart (.ListComp elt [⟨tg, .Name y yp, [], 0⟩] scope pos) 0 (.ref it) (.ref D) (compEnvC scope (cellsFrom (sc.heap.objs.size + 1) scope.names (cloFrom X.env.cells scope.names [])) sc.heap.objs.size X.env))
    (compPost (model X.prog X.w) X.A X.xe none (EP X pins σ Q) (.ref D) sc.heap.objs.size) { sc with heap := pushCells (sc.heap.push { cls := .type "dict", data := .dict #[] }) scope.names }
  generalize hce : compEnvC scope (cellsFrom (sc.heap.objs.size + 1) scope.names (cloFrom X.env.cells scope.names [])) sc.heap.objs.size X.env = ce at Id pg pe ⊢
  have cL : ce.locals = sc.heap.objs.size := by subst hce; rfl
  generalize hH3 : upd H D (.lst []) = Hc at Ic Id pg pe w0 fc
  generalize hsd : ({ sc with heap := pushCells (sc.heap.push { cls := .type "dict", data := .dict #[] }) scope.names } : Shared) = sd at Id ⊢
  have id4 : sd.heap.IsListIter it ls 0 := T.keep 0 _ _ ic fun b _ o e => by rw [← hsd]; exact pushCells_keeps _ _ _ _ (Heap.get?_push_of_some _ e)
  have stat : ∀ {σ' : L2.St} {H' : Hp} {s' : Shared}, Inv (X.blk sc Hc scope ce [it]) [] σ' H' s' → H' it = none → ∀ b ∈ [it], FpOk (X.blk sc Hc scope ce [it]) [] H' b := fun {σ' H' s'} I' hn b hb => by
    refine ⟨?_, (I'.ok.exf b hb).1, I'.ok.exfs b hb, .inl hb, fun x c e => (I'.ok.exf b hb).2 x c e, fun p hp => absurd (show p ∈ ([] : List (Addr × Obj)) ++ [] from hp) (by simp)⟩
    rw [List.mem_singleton] at hb
    rw [hb]
    exact hn
  -- the handled exception stays where it is
  obtain ⟨pp, hot1, hpn⟩ := hot
  have ppin := Ic.pin pp (List.mem_append_left _ hpn)
  have pstk : pp.1 ∉ frs X.stack := fun z => by
    rcases List.mem_cons.mp (Ic.stkSub pp.1 z) with z | z
    · exact ppin.2.2.1 z
    · exact ppin.2.2.2.1 z
  have pne : pp.1 ∉ [it] := fun z => by
    rw [List.mem_singleton] at z
    obtain ⟨_, vs, d1, d2⟩ := hot1
    obtain ⟨o, e, _, d⟩ := ic
    rw [← z, ppin.1] at e
    cases e
    rw [d] at d1
    cases d1
    simp at d2
  have hotAt : ∀ {σ' : L2.St} {H' : Hp} {s' : Shared}, Inv (X.blk sc Hc scope ce [it]) [] σ' H' s' → HotAt X.A pp.1 s'.heap := fun {σ' H' s'} I' => by
    obtain ⟨h1, vs, d1, d2⟩ := hot1
    exact ⟨h1, pp.2, vs, I'.base.keep pp.1 pp.2 ppin.1 ppin.2.1 pstk pne, d1, d2⟩
  have loop : codeAny (model X.prog X.w) X.A (.compLoop (.ListComp elt [⟨tg, .Name y yp, [], 0⟩] scope pos) 0 (.ref it) (.ref D) ce) (compPost (model X.prog X.w) X.A X.xe none (EP X pins σ Q) (.ref D) sc.heap.objs.size) sd := by
    refine compLoop_any (fun n s' => ∃ i H', n = xs.length - i ∧ i ≤ xs.length ∧ Inv (X.blk sc Hc scope ce [it]) [] (wipe σ (own.map (·.2))) H' s' ∧ s'.heap.IsListIter it ls i ∧ H' it = none ∧ W i H') ?_ xs.length ⟨0, Hc, by simp, Nat.zero_le _, Id, id4, (fc it (by simp)).1.1, w0⟩
    rintro n se ⟨i, He, rfl, hi, Ie, ie, ne, we⟩
    have hle := wl i He we
    obtain ⟨ite, rve, hpe, _⟩ := Ie.list (SqL.of hle)
    have lene := rve.length
    obtain ⟨f0, f1, f2, f3, f4, f5⟩ := stat Ie ne it (by simp)
    by_cases hlt : i < xs.length
    · obtain ⟨u, hu, ru⟩ := rve.get (show xs[i]? = some xs[i] by simp [hlt])
      refine wpAny_pyNext_list_item ie hpe.isList (x := u) (by simpa using hu) fun h' ie' sbut => ?_
      have If : Inv (X.blk sc Hc scope ce [it]) [] (wipe σ (own.map (·.2))) He { se with heap := h' } := Ie.turned (t' := se.toks) (fun b o hb e => (sbut.2 b hb).trans e) f0 f1 f3 f4 f5
      obtain ⟨oi, ei, ci, di⟩ := id ie'
      refine go_of (s := { se with heap := h' }) ei ci di (by decide) ?_
      have If' := If.pinned (stat If ne) (T.obj (i + 1) _ ie')
      refine thnF (pg.run _ { se with heap := h' } _ He xs[i] u _ If' ru (step i xs[i] He (by simp [hlt]) we)) fun _ sg ⟨σg, Hg, Ig, hwg, qg⟩ => ?_
      refine wpAny_tests_nil ?_
      rw [if_pos rfl]
      refine thnF (pe.run _ sg σg Hg _ Ig qg) fun z sh ⟨yv, Hh, Ih, rh, acc, hDh, hzh, nx⟩ => ?_
      refine app_ok (X := X.blk sc Hc scope ce [it]) Ih hDh hzh rh fun sk Ik => ?_
      have pk := Ik.pin (it, oi) (List.mem_append_right _ (List.mem_append_right _ (mem_pinsAt (by simp) ei)))
      have hlw : (wipe σ (own.map (·.2))).length = σg.length := by rw [← hwg, wipe_length]
      refine ⟨xs.length - (i + 1), by omega, i + 1, _, rfl, hlt, (Ik.unpinned (pins := [])).weak hlw (fun j v e => ?_), ⟨oi, pk.1, ci, di⟩, pk.2.1, nx⟩
      rw [← hwg] at e
      exact (wipe_some e).1
    · have ei : i = xs.length := by omega
      subst ei
      refine endHot (hotAt Ie) ie hpe.isList (by simp; omega) fun h' eb => ?_
      have Ig : Inv (X.blk sc Hc scope ce [it]) [] (wipe σ (own.map (·.2))) He { se with heap := h' } := Ie.turned (t' := se.toks) (fun b o hb e => eb b o hb e) f0 f1 f3 f4 f5
      have Ih : Inv X pins σ He { se with heap := h' } := Ic.call' (ch := [it]) Ig.os Ig.base Ig.hok Ig.bare fun b hb => ⟨(fc b hb).1.2.2.2.1, (fc b hb).1.2.1, (fc b hb).1.2.2.2.2.1, (fc b hb).1.2.2.2.2.2⟩
      have nC : He sc.heap.objs.size = none := by
        have z : He ce.locals = none := Ig.free
        rw [cL] at z
        exact z
      obtain ⟨m, hn, _⟩ := Ig.loc
      have hn : Heap.Ns h' ce.locals m := hn
      rw [cL] at hn
      obtain ⟨g0, g1, g2, g3, g4, g5⟩ := Ic.fpOk (Nat.le_refl _) nC
      exact ⟨m, hn, fun h'' sbut => ⟨.ref D, He, Ih.turned (t' := se.toks) (fun b o hb e => (sbut.2 b hb).trans e) g0 g1 g3 g4 g5, rfl, wq He we⟩⟩
  exact codeAny_compStart_list loop (T.self X.A 0 _ _ _ id4 loop)
end
end Fw

set_option Elab.async false
set_option linter.all false
set_option autoImplicit false
set_option maxRecDepth 100000
set_option maxHeartbeats 4000000
/-! FwTold: a lambda handed to a def that calls it and tells its exception by another def. -/
namespace Fw
open PySem PySem.Spec PyProof.Rows L2

theorem inv_xe {X : Cx} {ps : List (Addr × Obj)} {σ : L2.St} {H : Hp} {s : Shared} {xe' : Value → Shared → Prop} (I : Inv X ps σ H s) : Inv { X with xe := xe' } ps σ H s :=
  ⟨⟨I.ok.mod, I.ok.kind, I.ok.glob, I.ok.blt, I.ok.above, I.ok.inj, I.ok.has, I.ok.cab, I.ok.hd, I.ok.frames, I.ok.stk, I.ok.exf, I.ok.bs, I.ok.bsz, I.ok.noex, I.ok.exfs, I.ok.funs, I.ok.frf⟩, I.os, I.bare, I.base, I.loc, I.cell, I.free, I.freeC, I.pin, I.hok, I.len⟩
theorem tkF {X : Cx} : L2N.Takes X (fun _ _ _ _ => False) := fun _ _ x => by
  obtain ⟨_, _, _, _, _, _, _, _, _, _, _, _, _, _, _, _, z⟩ := x
  exact z.elim

/-! ### the lambda's body, its exceptions with no context -/
def lamN (X : Cx) (A : Around) (outer : List Env) (s : Shared) (H : Hp) (E : XK) (scope : Scope) (f cc : Addr) : Cx :=
  { LamX.lamCx X A outer s H E scope f cc with
    xe := fun e s' => wpAny (model X.prog X.w) (A.deeper (LamX.lamEnv X scope s.heap.objs.size f cc)) (leaving (LamX.lamEnv X scope s.heap.objs.size f cc) e)
      (fun _ s'' => L2N.CX X.prog X.w outer H s E e s'') (fun e' s'' => L2N.CX X.prog X.w outer H s E e' s'') s' }
section
variable {X : Cx} {pins : List (Addr × Obj)} {σ : L2.St} {H : Hp} {s : Shared}
theorem peAct {CXg : CXT} {Eg : XK} {Ng : List Str} {qg : Str} {sg : Scope} {g f cc : Addr} {cdg pm ctv : Value} {prm : Arguments} {body : Expr} {scope : Scope} {k i : Nat} {nm : Str} {pn : List (Addr × Obj)} {xe : Value → Shared → Prop} {W : WX} {E : XK} {tb : TE} {p1 p2 : Pos}
    (I : Inv X pins σ H s) (L : LamX.LamS X.env.scope scope) (gf : s.heap.get? f = some (PySem.W.kla_obj "<lambda>" (X.env.qual ++ "<lambda>") prm body scope (cloFrom X.env.cells scope.names []) pm cc ctv)) (nf : H f = none) (ff : f ∉ frs X.stack)
    (hbind : bindArgs (PySem.W.kla_fn "<lambda>" (X.env.qual ++ "<lambda>") prm body scope (cloFrom X.env.cells scope.names []) pm (.ref cc) ctv) ⟨[], []⟩ = pure [])
    (tk : L2N.Takes ((cxOf CXg X.prog X.w X.K X.mg X.base Ng qg sg g cdg X.A X.stack s H Eg).tr pn xe) W) (hr : Room (k + 1) (X.A.deeper (envOfC qg sg s.heap.objs.size g cdg)))
    (hbody : ∀ (A : Around) (outer : List Env) (s : Shared) (H : Hp), Room k (A.deeper (LamX.lamEnv X scope s.heap.objs.size f cc)) → PE (lamN X A outer s H E scope f cc) body tb)
    (hN : Ng[i]? = some nm) (hv : Vis sg nm) (hd : (nm == ("__debug__" : Str)) = false) (hcd : (nm == ("__classdict__" : Str)) = false) :
    PE ((cxOf CXg X.prog X.w X.K X.mg X.base Ng qg sg g cdg X.A X.stack s H Eg).tr pn xe) (.Call (.Name nm p1) [] [] p2)
      (fun σZ HZ Q => (∀ cls d H', E cls d H' → W cls d σZ H') ∧ σZ[i]? = some (some (.ref f)) ∧ HZ cc = some (LamX.CodeO cc (X.env.qual ++ "<lambda>")) ∧ tb σ HZ Q) := by
  refine ⟨fun pinsZ sZ σZ HZ Q IZ h => ?_⟩
  obtain ⟨hW, h1, h2, h3⟩ := h
  refine wpAny_Call_Name_kw (thn ((pe_var (pos := p1) (i := i) hN hv hd hcd).run pinsZ sZ σZ HZ (fun v Hq => v = .ref f ∧ Hq = HZ) IZ ⟨.ref f, h1, rfl, rfl⟩) fun u sA ⟨v, HA, IA, rA, qA⟩ => ?_)
  obtain ⟨ev, eH⟩ := qA
  subst ev
  rw [eH] at IA
  obtain rfl : u = Value.ref f := rA
  have gfA : sA.heap.get? f = some (PySem.W.kla_obj "<lambda>" (X.env.qual ++ "<lambda>") prm body scope (cloFrom X.env.cells scope.names []) pm cc ctv) := IA.base.keep f _ gf nf ff (fun z => nomatch (show f ∈ ([] : List Addr) from z))
  refine PySem.W.callWith_F0 ⟨_, _, _, _, gfA⟩ ?_
  have un : Un (frs X.stack) [] H HZ s.heap sA.heap := IA.base
  obtain ⟨⟨oc, vs, t, hoc, hdc, hvc⟩, _, _⟩ := IA.hok cc _ h2
  have run : codeAny (model X.prog X.w) (X.A.deeper (envOfC qg sg s.heap.objs.size g cdg)) (.call (.ref f) ⟨[], []⟩) (L2.CR (L2N.CX X.prog X.w) (envOfC qg sg s.heap.objs.size g cdg :: X.stack) X.prog X.w HZ sA Q E) sA := by
    refine PySem.W.kla_callFunE hr.depth gfA rfl L.co L.gen rfl ⟨cc, oc, vs, t, rfl, hoc, hdc, hvc⟩ ?_
    rw [hbind]
    refine wpAny_pure (wpAny_newFunctionEnv (fun y hy => (L.own y hy).2) (fun y hy => absurd hy (by simp)) (fun hB hns hsb => ⟨IA.nolimit.fresh _ hsb, ?_⟩) L.kind)
    show codeAny _ _ (.expr body (LamX.lamEnv X scope sA.heap.objs.size f cc)) _ _
    have kp : ∀ b o, sA.heap.get? b = some o → hB.get? b = some o := fun b o e => hsb.extBut b o (Nat.ne_of_lt (Heap.lt_size e)) (Heap.get?_push_of_some _ e)
    have J : Inv (lamN X (X.A.deeper (envOfC qg sg s.heap.objs.size g cdg)) (envOfC qg sg s.heap.objs.size g cdg :: X.stack) sA HZ E scope f cc) [] σ HZ { sA with heap := hB, toks := sA.toks + ([] : List (Str × Value)).length } :=
      inv_xe (LamX.lam_start2 (E := E) (f := f) (c' := cc) I L IA.env0 hr.hd un hns kp)
    refine PySem.W.kla_codeExpr (wpAny_mono ((hbody _ _ sA HZ (hr.deeper _)).run [] _ _ HZ Q J h3) (fun v s' hq => ?_) fun e s' hq => hq)
    obtain ⟨w', H', J', rv, q⟩ := hq
    exact ⟨w', H', J'.os, J'.bare, J'.base, J'.hok, rv, q⟩
  refine wpAny_call (codeAny_mono run fun r s' hq => ?_)
  cases r with
  | error e => exact tk e s' (L2N.XE.of_call IA hW hq)
  | ok fl =>
    cases fl with
    | ret u => exact IA.after hq
    | next => exact False.elim hq
    | brk => exact False.elim hq
    | cont => exact False.elim hq
end

/-! ### the def that tells a handled exception -/
/-- it is called with the handled exception of the class D, and gives what TQ asks -/
def TermOk (P : Program) (w : World) (K : PySem.W.Frag) (mg : Str → Option Value) (base : Heap) (k : Nat) (f : Addr) (D : Addr) (TQ : Hp → VK → Prop) : Prop :=
  ∀ (A : Around) (outer : List Env) (s : Shared) (H : Hp) (Q : VK) (p : Addr × Obj), L2H.RoomH k A → L2H.Hot1 A p → L2H.PinOk outer H s p → Zc (.ref D) none p.2 → Env0 P w K mg base A outer s H → TQ H Q →
    codeAny (model P w) A (.call (.ref f) ⟨[.ref p.1], []⟩) (L2.CR C8.CX0 outer P w H s Q C8.E0) s
theorem termOk_of {P : Program} {w : World} {K : PySem.W.Frag} {mg : Str → Option Value} {base : Heap} {k : Nat} {f D : Addr} {nm qual y : Str} {prm : Arguments} {body : List Stmt} {scope : Scope} {fd : FuncData} {N : List Str} {TQ : Hp → VK → Prop}
    (F : FunD K nm qual prm body scope [] [] f fd) (S : FnScope N [y] scope) (hb : Binds K fd [y] [])
    (hbody : ∀ (cdv : Value) (A : Around) (outer : List Env) (s : Shared) (H : Hp) (Q : VK) (p : Addr × Obj), L2H.Hot1 A p → L2H.RoomH k (A.deeper (envOfC qual scope s.heap.objs.size f cdv)) → Zc (.ref D) none p.2 → TQ H Q →
      ∃ t, PSs (L2H.cxH C8.CX0 P w K mg base N qual scope f cdv A outer s H C8.E0 p) body t ∧ t { nx := fun _ H' => Q .non H', rt := Q } (L2.start N [.ref p.1]) H) :
    TermOk P w K mg base (k + 1) f D TQ := by
  intro A outer s H Q p hr hot hpin hz e0 hq
  obtain ⟨oc, od, dV, kV, doc, pm, an, cdv, ct, osl, rfl, lk, hcd, _, _⟩ := F.ex
  have KX : K.In s.heap := e0.mod.kin.keeps fun b o e => (e0.bs b o e).1
  have lim : s.heap.NoLimit := e0.mod.nolimit.keeps fun b o e => (e0.bs b o e).1
  have hbs := hb s [.ref p.1] KX rfl
  rw [List.append_nil] at hbs
  have kinds : ∀ z ∈ [y].zip [Value.ref p.1], scope.names.lookup z.1 = some .local ∨ (scope.names.lookup z.1 = some .cell ∧ ((cellsFrom (s.heap.objs.size + 1) scope.names []).lookup z.1).isSome = true) := fun ⟨n, v⟩ hy => by
    rcases S.par n (List.of_mem_zip hy).1 with q | q
    · exact .inl q
    · exact .inr ⟨q, PySem.W.cellsFrom_some _ _ _ (.inl q)⟩
  refine codeAny_call_function hr.depth (KX _ _ lk) rfl S.co S.gen rfl (PySem.W.codeRec_of KX hcd) (hbs _ _ _ _ ?_)
  refine wpAny_newFunctionEnv_cells S.kind kinds fun env he s1 x => ?_
  subst he
  refine ⟨lim.keeps x.toInCall.keep, codeAny_func ?_⟩
  obtain ⟨t, ht, hq⟩ := hbody cdv A outer s H Q p hot (hr.deeper _) hz hq
  have J := L2H.inv_startH (CX := C8.CX0) (E := C8.E0) (us := [.ref p.1]) (vs := [.ref p.1]) S hpin e0 rfl (.cons rfl .nil) x
  refine wpAny_mono (ht.run [] s1 _ H _ J hq) (fun fl s' hs => ?_) fun e s' hs => hs
  have fin : ∀ {σ' : L2.St} {H' : Hp} {v : V} {u : Value}, Inv (L2H.cxH C8.CX0 P w K mg base N qual scope f cdv A outer s H C8.E0 p) [] σ' H' s' → RelV v u → Q v H' → L2.CE outer P w H s Q u s' :=
    fun {σ' H' v u} J rv q => ⟨v, H', J.os, J.bare, J.base, J.hok, rv, q⟩
  cases fl with
  | ret u =>
    obtain ⟨v, σ', H', J, rv, q⟩ := hs
    exact fin J rv q
  | next =>
    obtain ⟨σ', H', J, q⟩ := hs
    exact fin (v := V.non) (u := Value.none) J rfl q
  | brk =>
    obtain ⟨_, _, _, q⟩ := hs
    exact False.elim q
  | cont =>
    obtain ⟨_, _, _, q⟩ := hs
    exact False.elim q

theorem vis_par0 {N P : List Str} {sc : Scope} {x : Str} (S : FnScope N (x :: P) sc) : Vis sc x := by
  rcases S.par x List.mem_cons_self with e | e
  · exact .inl e
  · exact .inr (.inl e)

/-! ### told -/
def toldB (p1 p2 p3 p4 p5 p6 p7 p8 p9 p10 : Pos) : List Stmt :=
  [.Try [.Return (some (.Call (.Name "deed" p1) [] [] p2)) p3] [.ExceptHandler (some (.Name "WalkError" p4)) (some "e") [.Return (some (.Call (.Name "_law_term" p5) [.Name "e" p6] [] p7)) p8] p9] [] [] p10]
def TQ (c : Nat) (H : Hp) (Q : VK) : Prop := ∀ (H' : Hp) (p : Addr), Same H H' → H p = none → H' p = some (.tup [.str (SX.S [101, 114, 114, 111, 114]), .str (SX.S (excName c))]) → Q (.ref p) H'
def ttN (cl : Nat → Addr) : (XK → Hp → VK → Prop) → Hp → VK → Prop := fun tl H Q => tl (fun cls d H' => d = none ∧ ∃ c, cls = .ref (cl c) ∧ TQ c H' Q) H Q
theorem ttN_ok {g : Gm} (h : g.tt = ttN g.cl) : TtOk g := by
  intro tl H Q h1
  rw [h]
  exact h1 _ fun c H' h2 => ⟨rfl, c, rfl, fun H'' p e n q => h2 H'' p e n q⟩
/-- what the two defs are -/
structure ToldF (wd : Wd) (cl : Nat → Addr) (k : Nat) (gT fm CS : Addr) (scT : Scope) : Prop where
  F : ∃ (prm : Arguments) (fd : FuncData) (p1 p2 p3 p4 p5 p6 p7 p8 p9 p10 : Pos), FunD wd.K "_law_told" "_law_told" prm (toldB p1 p2 p3 p4 p5 p6 p7 p8 p9 p10) scT [] [] gT fd ∧ Binds wd.K fd ["deed"] []
  S : FnScope ["deed", "e"] ["deed"] scT
  mT : wd.mg "_law_told" = some (.ref gT)
  gW : scT.names.lookup ("WalkError" : Str) = some .globalImplicit
  gM : scT.names.lookup ("_law_term" : Str) = some .globalImplicit
  ve : scT.names.lookup ("e" : Str) = some .local
  mW : wd.mg "WalkError" = some (.ref CS)
  mM : wd.mg "_law_term" = some (.ref fm)
  kM : PySem.W.keepIn wd.K (.ref fm) = true
  ex : ∀ c, PySem.W.exmOne wd.K (.ref (cl c)) (.ref CS) = some true
  tm : ∀ c, TermOk wd.prog wd.w wd.K wd.mg wd.base k fm (cl c) (TQ c)

section
variable {X : Cx}
theorem pe_term {k : Nat} {f : Addr} {cl : Nat → Addr} {i : Nat} {nm y : Str} {a : Addr} {oe : Obj} {cls : Value} {d : Option Addr} {p1 p2 p3 : Pos} (hr : L2H.RoomH k X.A) (hot : L2H.Hot1 X.A (a, oe)) (hp : (a, oe) ∈ X.pn) (hz : Zc cls d oe)
    (tm : ∀ c, TermOk X.prog X.w X.K X.mg X.base k f (cl c) (TQ c)) (hg : Gl X nm) (hm : X.mg nm = some (.ref f)) (hk : PySem.W.keepIn X.K (.ref f) = true) (hN : X.N[i]? = some y) (hv : Vis X.env.scope y)
    (n1 : (nm == ("__debug__" : Str)) = false) (n2 : (y == ("__debug__" : Str)) = false) (n3 : (y == ("__classdict__" : Str)) = false) :
    PE X (.Call (.Name nm p1) [.Name y p2] [] p3) (fun σ H Q => σ[i]? = some (some (.ref a)) ∧ d = none ∧ ∃ c, cls = .ref (cl c) ∧ TQ c H Q) := by
  refine ⟨fun pins s σ H Q I h => ?_⟩
  obtain ⟨h1, rfl, c, rfl, h4⟩ := h
  refine wpAny_Call_Name_kw (ld_glob I hg hm ?_ n1)
  refine PySem.W.callWith_K (h₀ := X.base) I.ok.mod.kin hk (thn ((pa_cons (pe_var (pos := p2) hN hv n2 n3) pa_nil).run p3 pins s σ H (fun vs H1 => vs = [.ref a] ∧ H1 = H) I ⟨.ref a, h1, rfl, rfl⟩) fun us s1 ⟨vs, H1, I1, r, q⟩ => ⟨I1.kIn, ?_⟩) rfl rfl
  obtain ⟨e1, e2⟩ := q
  subst e1
  rw [e2] at I1
  obtain rfl : us = [Value.ref a] := Vals.ref1 r
  have P1 := I1.pin (a, oe) (List.mem_append_left _ hp)
  have hpin : L2H.PinOk X.stack H s1 (a, oe) := ⟨P1.1, P1.2.1, fun hmm => (List.mem_cons.mp (I1.stkSub a hmm)).elim P1.2.2.1 P1.2.2.2.1, P1.2.2.2.2⟩
  refine wpAny_call (codeAny_mono (tm c X.A X.stack s1 H Q (a, oe) hr hot hpin hz I1.env0 h4) fun r s' hq => ?_)
  cases r with
  | error e => exact (show False from hq).elim
  | ok fl =>
    cases fl with
    | ret u => exact I1.after hq
    | next => exact False.elim hq
    | brk => exact False.elim hq
    | cont => exact False.elim hq
end
theorem tld_ok {S : Sup} {X : Cx} {sc : Scope} {N : List Str} {W : XK} {k : Nat} {gT fm CS c P : Addr} {scT : Scope} (C : Cxt S X sc N W) (hr : Room (S.L + 2) X.A) (hk : k ≤ S.L) (T : ToldF S.wd S.g.cl k gT fm CS scT) (htt : S.g.tt = ttN S.g.cl)
    (TB : LamX.TabB X.base X.mg c P) (hcode : X.env.code = .ref c) (hgT : S.g.T = [(P, X.env.qual ++ "<lambda>")]) : Tld S X sc N := by
  intro prm body scope lpos p pos t L hg hno hbody
  obtain ⟨prmT, fdT, q1, q2, q3, q4, q5, q6, q7, q8, q9, q10, FT, bT⟩ := T.F
  have FT' : FunD X.K "_law_told" "_law_told" prmT (toldB q1 q2 q3 q4 q5 q6 q7 q8 q9 q10) scT [] [] gT fdT := by rw [C.K]; exact FT
  have bT' : Binds X.K fdT ["deed"] [] := by rw [C.K]; exact bT
  obtain ⟨oc, od, dV, kV, doc, pm, an, cdv, ct, osl, rfl, lk, hcd, _, _⟩ := FT'.ex
  have hmT : (P, X.env.qual ++ "<lambda>") ∈ S.g.T := by rw [hgT]; exact List.mem_singleton_self _
  have hu : ∀ z ∈ S.g.T, z.1 = P → z.2 = X.env.qual ++ "<lambda>" := fun z hz _ => by
    rw [hgT, List.mem_singleton] at hz
    rw [hz]
  have hno' : prm = ⟨[], [], none, [], [], none, []⟩ := by
    unfold noArgs at hno
    simp only [Bool.and_eq_true, List.isEmpty_iff, Option.isNone_iff_eq_none] at hno
    obtain ⟨⟨⟨⟨⟨⟨h1, h2⟩, h3⟩, h4⟩, h5⟩, h6⟩, h7⟩ := hno
    obtain ⟨a1, a2, a3, a4, a5, a6, a7⟩ := prm
    subst h1 h2 h3 h4 h5 h6 h7
    rfl
  have hdef : defaultsOf prm X.env = ([], []) := by rw [hno']; rfl
  have hbind : ∀ (q : Str) (cl : List (Str × Addr)) (pm cv ctv : Value), bindArgs (PySem.W.kla_fn "<lambda>" q prm body scope cl pm cv ctv) ⟨[], []⟩ = pure [] := by
    rw [hno']
    intros
    rfl
  have hsX : X.env.scope = sc := C.hsc
  subst hsX
  refine ⟨fun pins s σ H Q I h => ?_⟩
  obtain ⟨hT, h⟩ := h
  refine wpAny_Call_Name_kw (ld_glob I hg (by rw [C.mg]; exact T.mT) ?_ (by decide))
  refine PySem.W.callWith_K (h₀ := X.base) I.ok.mod.kin FT'.kp ?_ (by rfl) (by rfl)
  show wpAny _ _ (spliced ((false, eval (.Lambda prm body scope lpos) X.env) :: backTo pos (starEach [] X.env))) _ _ s
  refine Calls.spliced_cons (LamX.lam_make2 I TB hcode hmT hu hT hdef (L.has I.ok) fun f cc pm' ctv H1 s' I1 eN T1 gf nf ff hco => ?_)
  refine Calls.spliced_nil ⟨I1.kIn, ?_⟩
  have h' := h H1 eN T1
  rw [htt] at h'
  have rc : codeAny (model X.prog X.w) X.A (.call (.ref gT) ⟨[.ref f], []⟩) (L2.CR C8.CX0 X.stack X.prog X.w H1 s' Q C8.E0) s' := by
    refine LamX.run_ofS (N := ["deed", "e"]) (ps := ["deed"]) (us := [.ref f]) (vs := [.ref f]) (k := S.L + 1) lk hcd T.S hr I1.env0 (bT' s' [.ref f] I1.kIn rfl) (.cons rfl .nil) rfl fun hr' => ?_
    refine ⟨_, pss_one (L2N.ps_try_as (X := cxOf C8.CX0 X.prog X.w X.K X.mg X.base ["deed", "e"] "_law_told" scT gT cdv X.A X.stack s' H1 C8.E0) (i := 1) (c := .ref CS) (Wout := fun _ _ _ _ => False)
      (tb := fun W D σZ HZ => ∃ Ech : XK, (∀ cls d H', Ech cls d H' → W cls d σZ H') ∧ σZ[0]? = some (some (.ref f)) ∧ HZ cc = some (LamX.CodeO cc (X.env.qual ++ "<lambda>")) ∧ t Ech σ HZ D.rt)
      (ts := fun a cls d => tRet (fun σ H Q => σ[1]? = some (some (.ref a)) ∧ d = none ∧ ∃ c, cls = .ref (S.g.cl c) ∧ TQ c H Q))
      rfl rfl T.S.nd rfl T.ve ⟨T.gW, by decide, .inl (by show X.mg _ = _; rw [C.mg]; exact T.mW)⟩ tkF (fun W pn xe tk _ => ?_) (fun a oe cls d pn hz hfl => ?_)), ?_⟩
    · refine ⟨fun pinsZ sZ σZ HZ D IZ hZ => ?_⟩
      obtain ⟨Ech, h1, h2, h3, h4⟩ := hZ
      have hp := peAct (p1 := q1) (p2 := q2) (i := 0) (nm := "deed") (tb := t Ech) (E := Ech) I1 L gf nf ff (hbind _ _ _ _ _) tk hr' (fun A outer s H hr2 => hbody _ Ech ⟨rfl, C.hN, C.nd, rfl, hr2, L2N.takes_of rfl rfl rfl rfl, C.prog, C.w, C.mg, C.base, C.K, C.gK, C.hblt⟩) rfl (vis_par0 T.S) (by decide) (by decide)
      have hq := pss_one (ps_ret (pos := q3) hp)
      exact hq.run pinsZ sZ σZ HZ D IZ ⟨h1, h2, h3, h4⟩
    · obtain ⟨vs, hvs⟩ := hfl
      refine pss_one (ps_ret (pe_term (k := k) (f := fm) (cl := S.g.cl) (i := 1) ?_ ⟨rfl, vs, hvs, hz.2.2 vs hvs⟩ List.mem_cons_self hz.zc (fun c => ?_) T.gM (by show X.mg _ = _; rw [C.mg]; exact T.mM) (by show PySem.W.keepIn X.K _ = _; rw [C.K]; exact T.kM) rfl (.inl T.ve) (by decide) (by decide) (by decide)))
      · have z := L2H.roomH_of (hr'.mono (show k ≤ S.L + 1 by omega))
        exact ⟨z.dp, z.un⟩
      · show TermOk X.prog X.w X.K X.mg X.base k fm (S.g.cl c) (TQ c)
        rw [C.prog, C.w, C.K, C.mg, C.base]
        exact T.tm c
    · refine ⟨fun cls d H' => d = none ∧ ∃ c, cls = .ref (S.g.cl c) ∧ TQ c H' Q, fun cls d H' ⟨hd, c, hc, hq⟩ => ⟨true, ?_, fun _ a _ => ⟨rfl, hd, c, hc, hq⟩, fun z => by cases z⟩, rfl, hco, h'⟩
      rw [hc]
      show PySem.W.exmOne X.K _ _ = _
      rw [C.K]
      exact T.ex c
  refine wpAny_call (codeAny_mono rc fun r s2 hq => ?_)
  cases r with
  | error e => exact (show False from hq).elim
  | ok fl =>
    cases fl with
    | ret u => exact I1.after hq
    | next => exact False.elim hq
    | brk => exact False.elim hq
    | cont => exact False.elim hq
end Fw

set_option Elab.async false
set_option linter.all false
set_option autoImplicit false
set_option maxRecDepth 100000
set_option maxHeartbeats 4000000
/-! FwTerm: _law_term. -/
namespace Fw
open PySem PySem.Spec PyProof.Rows L2
theorem cr_isE {X : Cx} {a D : Addr} {oe : Obj} (C : ExcC X.K D) (hp : (a, oe) ∈ X.pn) (hz : Zc (.ref D) none oe) (hf : ∃ vs, oe.data = .fields vs) : CallR X (.builtin "isinstance") (rIsE X.K D a) := by
  intro pins s σ H xs us Q I r h
  obtain ⟨c, cv, b, rfl, hcv, e, q⟩ := h
  cases r with
  | cons rx rr =>
    cases rr with
    | cons rt rr =>
      cases rr
      cases rx
      have ec := hcv _ rt
      subst ec
      obtain ⟨get, _⟩ := I.pin (a, oe) (List.mem_append_left _ hp)
      obtain ⟨vs, hv⟩ := hf
      have J : PySem.W.InstAt s.heap a oe D none := by
        obtain ⟨oc, od, oda, osl⟩ := oe
        obtain ⟨h1, h2⟩ := hz
        dsimp only at h1 h2 hv
        subst h1 h2 hv
        exact ⟨get, rfl, rfl, trivial⟩
      exact PySem.W.kia_one (PySem.W.handS_kitx_exc C.hg C.hk C.hs C.hd C.ha C.hn C.ht C.hm) I.kIn J e (fun z => nomatch z) fun tk => ⟨.bl b, H, I.kept (t' := tk) fun _ _ z => z, rfl, q⟩
def tIs (a : Addr) (b : Bool) : TE := fun σ H Q => σ[0]? = some (some (.ref a)) ∧ Q (.bl b) H
section
variable {X : Cx} {a D : Addr}
theorem pe_is {c : Str} {C : Addr} {b : Bool} {q1 q2 q3 q4 : Pos} (cr : CallR X (.builtin "isinstance") (rIsE X.K D a)) (g1 : Gl X "isinstance") (m1 : X.mg "isinstance" = none) (h0 : X.N[0]? = some ("e" : Str)) (v0 : Vis X.env.scope "e")
    (g2 : Gl X c) (m2 : X.mg c = some (.ref C)) (nd : (c == ("__debug__" : Str)) = false) (hk : PySem.W.kitOne X.K (.ref D) (.ref C) = some b) : PE X (.Call (.Name "isinstance" q1) [.Name "e" q2, .Name c q3] [] q4) (tIs a b) :=
  ⟨fun pins s σ H Q I h => (pe_callB (p := q1) (pos := q4) cr g1 m1 (by decide +kernel) (pa_cons (pe_var (pos := q2) h0 v0) (pa_cons (pe_glob (pos := q3) (v := .ref C) g2 m2 rfl nd) pa_nil))).run pins s σ H Q I ⟨.ref a, h.1, .ref C, .ref C, b, rfl, fun u r => r, hk, h.2⟩⟩
theorem pe_isV {q1 q2 q3 q4 : Pos} (cr : CallR X (.builtin "isinstance") (rIsE X.K D a)) (g1 : Gl X "isinstance") (m1 : X.mg "isinstance" = none) (h0 : X.N[0]? = some ("e" : Str)) (v0 : Vis X.env.scope "e")
    (g2 : Gl X "ValueError") (m2 : X.mg "ValueError" = none) (hk : PySem.W.kitOne X.K (.ref D) (.type "ValueError") = some true) : PE X (.Call (.Name "isinstance" q1) [.Name "e" q2, .Name "ValueError" q3] [] q4) (tIs a true) :=
  ⟨fun pins s σ H Q I h => (pe_callB (p := q1) (pos := q4) cr g1 m1 (by decide +kernel) (pa_cons (pe_var (pos := q2) h0 v0) (pa_cons (pe_bltn (pos := q3) (v := .ty "ValueError") (u := .type "ValueError") g2 m2 (by decide +kernel) rfl) pa_nil))).run pins s σ H Q I ⟨.ref a, h.1, .ty "ValueError", .type "ValueError", true, rfl, fun u r => r, hk, h.2⟩⟩
def bI (b : Bool) : V := .int (if b then 1 else 0)
theorem pe_lcF {sc2 : Scope} {q1 q2 q3 q4 q5 q6 : Pos} (hot : L2H.HotC X) (hN : X.N = (["e", "flags", "kinds", "flag"] : List Str)) (vy : Vis X.env.scope "flags") (ok : BlkOk X.N X.env.scope sc2 [("flag", 3)])
    (lf : (relS sc2 X.env.scope).names.lookup ("flag" : Str) = some .local) (gi : (relS sc2 X.env.scope).names.lookup ("int" : Str) = some .globalImplicit) (mi : X.mg "int" = none) :
    PE X (.ListComp (.Call (.Name "int" q1) [.Name "flag" q2] [] q3) [⟨.Name "flag" q4, .Name "flags" q5, [], 0⟩] sc2 q6)
      (fun σ H Q => ∃ (ls : Addr) (bs : List Bool), σ[1]? = some (some (.ref ls)) ∧ H ls = some (.lst (bs.map V.bl)) ∧ bs.length ≤ 100 ∧ σ.length = 4 ∧ ∀ D, H D = none → Q (.ref D) (upd H D (.lst (bs.map bI)))) := by
  have hnd : X.N.Nodup := by rw [hN]; decide
  have h3 : X.N[3]? = some ("flag" : Str) := by rw [hN] <;> rfl
  refine ⟨fun pins s σ H Q I h => ?_⟩
  obtain ⟨ls, bs, h1, h2, h4, h5, hq⟩ := h
  refine lcHot (iy := 1) (own := [("flag", 3)]) (ls := ls) (xs := bs.map V.bl) (g := gName 3) (te := tCB (rB1 X.K .int) (tCons (tVar 3) tNil)) hot hnd I (by rw [hN] <;> rfl) vy ok (by decide) (by decide)
    (fun s H C cl fp => pg_name hnd h3 (.inl lf) (.inr lf)) (fun s H C cl fp => pe_callTy call_int_all gi mi (by decide +kernel) (pa_cons (pe_var h3 (.inl lf)) pa_nil)) h1 h2 fun D hD => ?_
  refine ⟨fun i H' => H' = upd H D (.lst ((bs.take i).map bI)), by simp, fun i H' e => ?_, fun H' e => ?_, fun i x H' hx e => ?_⟩
  · rw [e, upd_ne (ne_of_none h2 hD)]
    exact h2
  · rw [e, List.length_map, List.take_length]
    exact hq D hD
  · rw [List.getElem?_map] at hx
    cases hb : bs[i]? with
    | none => rw [hb] at hx; cases hx
    | some b =>
      rw [hb] at hx
      cases hx
      have hil : i < bs.length := (List.getElem?_eq_some_iff.mp hb).1
      have h6 : 3 < (wipe σ [3]).length := by rw [wipe_length, h5]; omega
      refine ⟨?_, .bl b, ?_, .inl (.inr ⟨b, rfl, (bs.take i).map bI, by rw [e, upd_same], ?_, ?_⟩)⟩
      · show ((wipe σ [3]).set 3 _).set 3 none = wipe σ [3]
        rw [List.set_set]
        show ((wipe σ []).set 3 none).set 3 none = _
        rw [List.set_set] <;> rfl
      · show ((wipe σ [3]).set 3 (some (.bl b)))[3]? = _
        rw [List.getElem?_set_self h6]
      · rw [List.length_map, List.length_take, sizeLine_eq]
        have : (100 : Nat) < SL := by decide
        omega
      · rw [e]
        have e2 : bs.take (i + 1) = bs.take i ++ [b] := by
          rw [List.take_add_one, hb] <;> rfl
        show upd (upd H D _) D _ = upd H D (.lst ((bs.take (i + 1)).map bI))
        rw [e2, List.map_append]
        funext z
        unfold upd
        split <;> rfl
end

def termB (sc2 : Scope) (q0 q1 q2 q3 q4 q5 q6 q7 q8 q9 q10 q11 q12 q13 q14 q15 q16 q17 q18 q19 q20 q21 q22 q23 q24 q25 q26 q27 q28 q29 q30 q31 q32 q33 q34 q35 q36 q37 q38 q39 q40 q41 q42 q43 q44 q45 q46 q47 q48 q49 q50 q51 q52 q53 q54 q55 q56 q57 q58 q59 q60 q61 q62 q63 q64 q65 q66 q67 q68 q69 q70 q71 q72 q73 q74 q75 q76 q77 q78 q79 q80 q81 q82 q83 q84 q85 q86 q87 q88 q89 q90 q91 q92 q93 q94 q95 q96 q97 q98 q99 q100 q101 q102 q103 q104 q105 q106 q107 q108 q109 q110 : Pos) : List Stmt :=
  [.Assign [.Name "flags" q13] (.List [.Call (.Name "isinstance" q0) [.Name "e" q1, .Name "InvalidBoard" q2] [] q3, .Call (.Name "isinstance" q4) [.Name "e" q5, .Name "InvalidRule" q6] [] q7, .Call (.Name "isinstance" q8) [.Name "e" q9, .Name "InvalidState" q10] [] q11] q12) q14,
    .Assign [.Name "flags" q30] (.BinOp (.Name "flags" q28) .Add (.List [.Call (.Name "isinstance" q15) [.Name "e" q16, .Name "InvalidCell" q17] [] q18, .Call (.Name "isinstance" q19) [.Name "e" q20, .Name "InvalidLook" q21] [] q22, .Call (.Name "isinstance" q23) [.Name "e" q24, .Name "InvalidTicks" q25] [] q26] q27) q29) q31,
    .Assign [.Name "flags" q47] (.BinOp (.Name "flags" q45) .Add (.List [.Call (.Name "isinstance" q32) [.Name "e" q33, .Name "InvalidSize" q34] [] q35, .Call (.Name "isinstance" q36) [.Name "e" q37, .Name "InvalidNumber" q38] [] q39, .Call (.Name "isinstance" q40) [.Name "e" q41, .Name "InvalidTurns" q42] [] q43] q44) q46) q48,
    .Assign [.Name "flags" q60] (.BinOp (.Name "flags" q58) .Add (.List [.Call (.Name "isinstance" q49) [.Name "e" q50, .Name "InvalidText" q51] [] q52, .Call (.Name "isinstance" q53) [.Name "e" q54, .Name "NothingToUndo" q55] [] q56] q57) q59) q61,
    .Assign [.Name "kinds" q69] (.List [.Constant (.str "InvalidBoard") 0 q62, .Constant (.str "InvalidRule") 0 q63, .Constant (.str "InvalidState") 0 q64, .Constant (.str "InvalidCell") 0 q65, .Constant (.str "InvalidLook") 0 q66, .Constant (.str "InvalidTicks") 0 q67] q68) q70,
    .Assign [.Name "kinds" q79] (.BinOp (.Name "kinds" q77) .Add (.List [.Constant (.str "InvalidSize") 0 q71, .Constant (.str "InvalidNumber") 0 q72, .Constant (.str "InvalidTurns") 0 q73, .Constant (.str "InvalidText") 0 q74, .Constant (.str "NothingToUndo") 0 q75] q76) q78) q80,
    .If (.BoolOp .Or [.Compare (.Call (.Name "sum" q87) [.ListComp (.Call (.Name "int" q81) [.Name "flag" q82] [] q83) [⟨.Name "flag" q84, .Name "flags" q85, [], 0⟩] sc2 q86] [] q88) [.NotEq] [.Constant (.int 1) 0 q89] q90, .UnaryOp .Not (.Call (.Name "isinstance" q91) [.Name "e" q92, .Name "ValueError" q93] [] q94) q95] q96) [.Return (some (.Tuple [.Constant (.str "error") 0 q97, .Constant (.str "other") 0 q98] 0 q99)) q100] [] q101,
    .Return (some (.Tuple [.Constant (.str "error") 0 q102, .Subscript (.Name "kinds" q106) (.Call (.Attribute (.Name "flags" q103) "index" q104) [.Constant (.bool true) 0 q107] [] q105) q108] 0 q109)) q110]
def tSumF : TE := fun σ H Q => ∃ (ls : Addr) (bs : List Bool), σ[1]? = some (some (.ref ls)) ∧ H ls = some (.lst (bs.map V.bl)) ∧ bs.length ≤ 100 ∧ σ.length = 4 ∧ ∀ D, H D = none → Q (.ref D) (upd H D (.lst (bs.map bI)))
def tTerm (K : PySem.W.Frag) (a : Addr) (fl : Nat → Bool) : TS :=
  (tSeq (tAsg (tLst (tCons (tIs a (fl 0)) (tCons (tIs a (fl 1)) (tCons (tIs a (fl 2)) tNil)))) (gName 1))
    (tSeq (tAsg (tOp rCat (tVar 1) (tLst (tCons (tIs a (fl 3)) (tCons (tIs a (fl 4)) (tCons (tIs a (fl 5)) tNil))))) (gName 1))
    (tSeq (tAsg (tOp rCat (tVar 1) (tLst (tCons (tIs a (fl 6)) (tCons (tIs a (fl 7)) (tCons (tIs a (fl 8)) tNil))))) (gName 1))
    (tSeq (tAsg (tOp rCat (tVar 1) (tLst (tCons (tIs a (fl 9)) (tCons (tIs a (fl 10)) tNil)))) (gName 1))
    (tSeq (tAsg (tLst (tCons (tC (.str (SX.S (excName 0)))) (tCons (tC (.str (SX.S (excName 1)))) (tCons (tC (.str (SX.S (excName 2)))) (tCons (tC (.str (SX.S (excName 3)))) (tCons (tC (.str (SX.S (excName 4)))) (tCons (tC (.str (SX.S (excName 5)))) tNil))))))) (gName 2))
    (tSeq (tAsg (tOp rCat (tVar 2) (tLst (tCons (tC (.str (SX.S (excName 6)))) (tCons (tC (.str (SX.S (excName 7)))) (tCons (tC (.str (SX.S (excName 8)))) (tCons (tC (.str (SX.S (excName 9)))) (tCons (tC (.str (SX.S (excName 10)))) tNil))))))) (gName 2))
    (tSeq (tIfS (tOr (tTest (tOp (rNeD K) (tCB (rSum K) (tCons tSumF tNil)) (tC (.int 1)))) (tNot (tB (tIs a true)))) (tRet (tTup (tCons (tC (.str (SX.S [101, 114, 114, 111, 114]))) (tCons (tC (.str (SX.S [111, 116, 104, 101, 114]))) tNil)))) tNext)
    (tRet (tTup (tCons (tC (.str (SX.S [101, 114, 114, 111, 114]))) (tCons (tOp (rIx K) (tVar 2) (tBM K "list" (rIndex K) (tVar 1) (tCons (tC (.bl true)) tNil))) tNil)))))))))))
section
variable {X : Cx} {a D : Addr}
theorem term_walk {fl : Nat → Bool} {cA : Nat → Addr} {sc2 : Scope} {q0 q1 q2 q3 q4 q5 q6 q7 q8 q9 q10 q11 q12 q13 q14 q15 q16 q17 q18 q19 q20 q21 q22 q23 q24 q25 q26 q27 q28 q29 q30 q31 q32 q33 q34 q35 q36 q37 q38 q39 q40 q41 q42 q43 q44 q45 q46 q47 q48 q49 q50 q51 q52 q53 q54 q55 q56 q57 q58 q59 q60 q61 q62 q63 q64 q65 q66 q67 q68 q69 q70 q71 q72 q73 q74 q75 q76 q77 q78 q79 q80 q81 q82 q83 q84 q85 q86 q87 q88 q89 q90 q91 q92 q93 q94 q95 q96 q97 q98 q99 q100 q101 q102 q103 q104 q105 q106 q107 q108 q109 q110 : Pos} (cr : CallR X (.builtin "isinstance") (rIsE X.K D a)) (hot : L2H.HotC X) (hu : X.A.units + 64 < cLine) (hN : X.N = (["e", "flags", "kinds", "flag"] : List Str))
    (fn : ∀ x, X.fn x = true) (g : ∀ i, i < 11 → Gl X (cnm i)) (m : ∀ i, i < 11 → X.mg (cnm i) = some (.ref (cA i))) (hk : ∀ i, i < 11 → PySem.W.kitOne X.K (.ref D) (.ref (cA i)) = some (fl i)) (hkV : PySem.W.kitOne X.K (.ref D) (.type "ValueError") = some true)
    (v0 : Vis X.env.scope "e") (lF : X.env.scope.names.lookup ("flags" : Str) = some .local) (lK : X.env.scope.names.lookup ("kinds" : Str) = some .local)
    (g0 : Gl X "isinstance") (m0 : X.mg "isinstance" = none) (gS : Gl X "sum") (mS : X.mg "sum" = none) (gV : Gl X "ValueError") (mV : X.mg "ValueError" = none) (ok : BlkOk X.N X.env.scope sc2 [("flag", 3)])
    (lf : (relS sc2 X.env.scope).names.lookup ("flag" : Str) = some .local) (gi : (relS sc2 X.env.scope).names.lookup ("int" : Str) = some .globalImplicit) (mi : X.mg "int" = none) (hln : (q104.endLine == q105.line) = true) :
    PSs X (termB sc2 q0 q1 q2 q3 q4 q5 q6 q7 q8 q9 q10 q11 q12 q13 q14 q15 q16 q17 q18 q19 q20 q21 q22 q23 q24 q25 q26 q27 q28 q29 q30 q31 q32 q33 q34 q35 q36 q37 q38 q39 q40 q41 q42 q43 q44 q45 q46 q47 q48 q49 q50 q51 q52 q53 q54 q55 q56 q57 q58 q59 q60 q61 q62 q63 q64 q65 q66 q67 q68 q69 q70 q71 q72 q73 q74 q75 q76 q77 q78 q79 q80 q81 q82 q83 q84 q85 q86 q87 q88 q89 q90 q91 q92 q93 q94 q95 q96 q97 q98 q99 q100 q101 q102 q103 q104 q105 q106 q107 q108 q109 q110) (tTerm X.K a fl) := by
  have hnd : X.N.Nodup := by rw [hN]; decide
  have h0 : X.N[0]? = some ("e" : Str) := by rw [hN] <;> rfl
  have fnF := fn "flags"
  have fnK := fn "kinds"
  unfold termB tTerm
  exact (pss_cons (ps_set (i := 1) hnd (by rw [hN] <;> rfl) (.inl lF) (pe_lst (pa_cons (pe_is cr g0 m0 h0 v0 (g 0 (by decide)) (m 0 (by decide)) (by decide +kernel) (hk 0 (by decide))) (pa_cons (pe_is cr g0 m0 h0 v0 (g 1 (by decide)) (m 1 (by decide)) (by decide +kernel) (hk 1 (by decide))) (pa_cons (pe_is cr g0 m0 h0 v0 (g 2 (by decide)) (m 2 (by decide)) (by decide +kernel) (hk 2 (by decide))) pa_nil)))) rfl (.inl fnF))
    (pss_cons (ps_set (i := 1) hnd (by rw [hN] <;> rfl) (.inl lF) (pe_op op_cat (pe_var (i := 1) (by rw [hN] <;> rfl) (.inl lF)) (pe_lst (pa_cons (pe_is cr g0 m0 h0 v0 (g 3 (by decide)) (m 3 (by decide)) (by decide +kernel) (hk 3 (by decide))) (pa_cons (pe_is cr g0 m0 h0 v0 (g 4 (by decide)) (m 4 (by decide)) (by decide +kernel) (hk 4 (by decide))) (pa_cons (pe_is cr g0 m0 h0 v0 (g 5 (by decide)) (m 5 (by decide)) (by decide +kernel) (hk 5 (by decide))) pa_nil))))) rfl (.inl fnF))
    (pss_cons (ps_set (i := 1) hnd (by rw [hN] <;> rfl) (.inl lF) (pe_op op_cat (pe_var (i := 1) (by rw [hN] <;> rfl) (.inl lF)) (pe_lst (pa_cons (pe_is cr g0 m0 h0 v0 (g 6 (by decide)) (m 6 (by decide)) (by decide +kernel) (hk 6 (by decide))) (pa_cons (pe_is cr g0 m0 h0 v0 (g 7 (by decide)) (m 7 (by decide)) (by decide +kernel) (hk 7 (by decide))) (pa_cons (pe_is cr g0 m0 h0 v0 (g 8 (by decide)) (m 8 (by decide)) (by decide +kernel) (hk 8 (by decide))) pa_nil))))) rfl (.inl fnF))
    (pss_cons (ps_set (i := 1) hnd (by rw [hN] <;> rfl) (.inl lF) (pe_op op_cat (pe_var (i := 1) (by rw [hN] <;> rfl) (.inl lF)) (pe_lst (pa_cons (pe_is cr g0 m0 h0 v0 (g 9 (by decide)) (m 9 (by decide)) (by decide +kernel) (hk 9 (by decide))) (pa_cons (pe_is cr g0 m0 h0 v0 (g 10 (by decide)) (m 10 (by decide)) (by decide +kernel) (hk 10 (by decide))) pa_nil)))) rfl (.inl fnF))
    (pss_cons (ps_set (i := 2) hnd (by rw [hN] <;> rfl) (.inl lK) (pe_lst (pa_cons pe_str (pa_cons pe_str (pa_cons pe_str (pa_cons pe_str (pa_cons pe_str (pa_cons pe_str pa_nil))))))) rfl (.inl fnK))
    (pss_cons (ps_set (i := 2) hnd (by rw [hN] <;> rfl) (.inl lK) (pe_op op_cat (pe_var (i := 2) (by rw [hN] <;> rfl) (.inl lK)) (pe_lst (pa_cons pe_str (pa_cons pe_str (pa_cons pe_str (pa_cons pe_str (pa_cons pe_str pa_nil))))))) rfl (.inl fnK))
    (pss_cons (ps_if (pw_or (pt_cmpR (op_neD hu) (pe_callB (crSumH hot) gS mS (by decide +kernel) (pa_cons (pe_lcF hot hN (.inl lF) ok lf gi mi) pa_nil)) pe_int (nomark _)) (pw_or1 (pt_not (pt_val (pe_isV cr g0 m0 h0 v0 gV mV hkV))))).pt (pss_one (ps_ret (pe_tup (pa_cons pe_str (pa_cons pe_str pa_nil))))) pss_nil)
    (pss_one (ps_ret (pe_tup (pa_cons pe_str (pa_cons (pe_ix ix_seq (pe_var (i := 2) (by rw [hN] <;> rfl) (.inl lK)) (pe_bm PySem.F.plainAttrs_list PySem.F.slot_list_index PySem.F.type_list_index mt_index (pe_var (i := 1) (by rw [hN] <;> rfl) (.inl lF)) (pa_cons pe_bl pa_nil) rfl (few_one rfl) hln) (fun _ _ => rfl)) pa_nil))))))))))))
end
end Fw

set_option Elab.async false
set_option linter.all false
set_option autoImplicit false
set_option maxRecDepth 100000
set_option maxHeartbeats 4000000
/-! FwTerm2: _law_term tells the class. -/
namespace Fw
open PySem PySem.Spec PyProof.Rows L2
def mn (c : Nat) : Nat := if c < 10 then c else 10
theorem mn_lt (c : Nat) : mn c < 11 := by unfold mn; split <;> omega
theorem exc_mn (c : Nat) : excName (mn c) = excName c := by
  unfold mn
  split
  · rfl
  · rename_i h
    match c, h with
    | 0, h => exact absurd h (by decide)
    | 1, h => exact absurd h (by decide)
    | 2, h => exact absurd h (by decide)
    | 3, h => exact absurd h (by decide)
    | 4, h => exact absurd h (by decide)
    | 5, h => exact absurd h (by decide)
    | 6, h => exact absurd h (by decide)
    | 7, h => exact absurd h (by decide)
    | 8, h => exact absurd h (by decide)
    | 9, h => exact absurd h (by decide)
    | c + 10, _ => rfl
def flB (k : Nat) : List Bool := [decide (0 = k), decide (1 = k), decide (2 = k), decide (3 = k), decide (4 = k), decide (5 = k), decide (6 = k), decide (7 = k), decide (8 = k), decide (9 = k), decide (10 = k)]
theorem flB_sum : ∀ k, k < 11 → ((flB k).map fun b => if b = true then (1 : Int) else 0).sum = 1 := by decide
theorem flB_at : ∀ k, k < 11 → (flB k)[k]? = some true := by decide
theorem flB_no : ∀ k, k < 11 → ∀ m, m < k → (flB k)[m]? = some false := by decide
def knS : List V := (List.range 11).map fun i => V.str (SX.S (excName i))
theorem term_rd {K : PySem.W.Frag} {a : Addr} {c : Nat} {H : Hp} {Q : VK} {fl : Nat → Bool} (hfl : fl = fun i => decide (i = mn c)) (h : TQ c H Q) :
    tTerm K a fl { nx := fun _ H' => Q .non H', rt := Q } (L2.start ["e", "flags", "kinds", "flag"] [.ref a]) H := by
  have big : ∀ n : Nat, n ≤ 11 → n ≤ sizeLine := by
    intro n hn
    rw [sizeLine_eq]
    have : 11 ≤ SL := by decide
    omega
  subst hfl
  unfold tTerm
  refine ⟨rfl, rfl, rfl, big 3 (by decide), fun p1 h1 => ?_⟩
  generalize e1 : upd H p1 (.lst _) = H1
  have f1 := (congrFun e1 p1).symm.trans upd_same
  have s1 : Same H H1 := by rw [← e1]; exact same_upd h1
  clear e1
  refine ⟨_, rfl, rfl, rfl, rfl, big 3 (by decide), fun p2 h2 => ⟨p1, p2, _, _, rfl, rfl, same_upd h2 _ _ f1, upd_same, big 6 (by decide), fun p3 h3 => ?_⟩⟩
  generalize e2 : upd H1 p2 (.lst _) = H2 at h3 ⊢
  have s2 : Same H H2 := by rw [← e2]; exact s1.trans (same_upd h2)
  generalize e3 : upd H2 p3 (.lst _) = H3
  have f3 := (congrFun e3 p3).symm.trans upd_same
  have s3 : Same H H3 := by rw [← e3]; exact s2.trans (same_upd h3)
  clear e2 e3
  refine ⟨_, rfl, rfl, rfl, rfl, big 3 (by decide), fun p4 h4 => ⟨p3, p4, _, _, rfl, rfl, same_upd h4 _ _ f3, upd_same, big 9 (by decide), fun p5 h5 => ?_⟩⟩
  generalize e4 : upd H3 p4 (.lst _) = H4 at h5 ⊢
  have s4 : Same H H4 := by rw [← e4]; exact s3.trans (same_upd h4)
  generalize e5 : upd H4 p5 (.lst _) = H5
  have f5 := (congrFun e5 p5).symm.trans upd_same
  have s5 : Same H H5 := by rw [← e5]; exact s4.trans (same_upd h5)
  clear e4 e5
  refine ⟨_, rfl, rfl, rfl, big 2 (by decide), fun p6 h6 => ⟨p5, p6, _, _, rfl, rfl, same_upd h6 _ _ f5, upd_same, big 11 (by decide), fun p7 h7 => ?_⟩⟩
  generalize e6 : upd H5 p6 (.lst _) = H6 at h7 ⊢
  have s6 : Same H H6 := by rw [← e6]; exact s5.trans (same_upd h6)
  generalize e7 : upd H6 p7 (.lst _) = H7
  have f7 : H7 p7 = some (.lst ((flB (mn c)).map V.bl)) := by rw [← e7]; exact upd_same
  have s7 : Same H H7 := by rw [← e7]; exact s6.trans (same_upd h7)
  clear e6 e7
  refine ⟨big 6 (by decide), fun p8 h8 => ?_⟩
  generalize e8 : upd H7 p8 (.lst _) = H8
  have f8 := (congrFun e8 p8).symm.trans upd_same
  have t8 : Same H7 H8 := by rw [← e8]; exact same_upd h8
  clear e8
  refine ⟨_, rfl, big 5 (by decide), fun p9 h9 => ⟨p8, p9, _, _, rfl, rfl, same_upd h9 _ _ f8, upd_same, big 11 (by decide), fun pA hA => ?_⟩⟩
  generalize e9 : upd H8 p9 (.lst _) = H9 at hA ⊢
  have t9 : Same H7 H9 := by rw [← e9]; exact t8.trans (same_upd h9)
  generalize eA : upd H9 pA (.lst _) = HA
  have fA : HA pA = some (.lst knS) := by rw [← eA]; exact upd_same
  have tA : Same H7 HA := by rw [← eA]; exact t9.trans (same_upd hA)
  clear e9 eA
  have hk := mn_lt c
  refine ⟨p7, flB (mn c), rfl, tA _ _ f7, show 11 ≤ 100 by decide, rfl, fun D hD => ?_⟩
  have gD := same_upd (o := .lst ((flB (mn c)).map bI)) hD
  generalize eB : upd HA D (.lst ((flB (mn c)).map bI)) = HB at gD ⊢
  have fB : HB D = some (.lst ((flB (mn c)).map bI)) := by rw [← eB]; exact upd_same
  clear eB
  have sB : Same H7 HB := tA.trans gD
  refine ⟨D, (flB (mn c)).map fun b => if b = true then (1 : Int) else 0, rfl, SqL.of ?_, ?_⟩
  · rw [List.map_map]
    exact fB
  rw [flB_sum _ hk]
  refine ⟨.int 1, .int 1, .int 1, .int 1, by decide, by decide, false, by decide, ?_⟩
  show if false = true then _ else _
  rw [if_neg (by decide)]
  refine ⟨rfl, true, rfl, ?_⟩
  show if (!true) = true then _ else _
  rw [if_neg (by decide)]
  refine ⟨_, rfl, _, rfl, ?_, p7, (flB (mn c)).map V.bl, .bl true, mn c, .bl true, rfl, rfl, SqL.of (sB _ _ f7), rfl, ?_, ?_, rfl, fun m z hm hz => ?_, ?_⟩
  · exact .inl ⟨rfl, _, SqL.of (sB _ _ f7)⟩
  · rw [List.all_eq_true]
    intro x hx
    obtain ⟨b, _, e⟩ := List.mem_map.mp hx
    rw [← e] <;> rfl
  · rw [List.getElem?_map, flB_at _ hk] <;> rfl
  · rw [List.getElem?_map, flB_no _ hk m hm] at hz
    cases hz
    rfl
  · refine .inl ⟨pA, knS, _, V.str (SX.S (excName c)), rfl, rfl, SqL.of (gD _ _ fA), ?_, ?_⟩
    · unfold atI ixN
      rw [if_pos (by omega), if_pos (by show ((mn c : Nat) : Int) < ((knS.length : Nat) : Int); have : knS.length = 11 := rfl; omega)]
      show knS[((mn c : Nat) : Int).toNat]? = _
      rw [Int.toNat_natCast]
      unfold knS
      rw [List.getElem?_map, List.getElem?_range hk]
      show some (V.str (SX.S (excName (mn c)))) = _
      rw [exc_mn]
    · refine ⟨big 2 (by decide), fun p hp => ?_⟩
      exact h _ p (s7.trans (sB.trans (same_upd hp))) ((s7.trans sB).free hp) upd_same
end Fw

set_option Elab.async false
set_option linter.all false
set_option autoImplicit false
set_option maxRecDepth 100000
set_option maxHeartbeats 4000000
/-! FwHead: what the module's names say. -/
namespace Fw
open PySem PySem.Spec PyProof.Rows L2
def clK (K : PySem.W.Frag) (c : Nat) : Addr := He.ga K (cnm (mn c))
def exCB (K : PySem.W.Frag) (D : Addr) : Bool :=
  (He.eqO (PySem.W.findIn K (.ref D) "__getattribute__") (some (some (.builtin "BaseException.__getattribute__"))) && He.eqO (PySem.W.findIn K (.ref D) "__getattr__") (some none)) &&
  ((decide (PySem.W.subIn K (.ref D) (.type "BaseException") = some true) && PySem.W.hasDictIn K D) && (He.eqO (PySem.W.findIn K (.ref D) "__class__") (some (some (.builtin "object.__class__"))) &&
  (He.eqO (PySem.W.specialIn K (.builtin "object.__class__") "__get__") (some (some (.builtin "getset_descriptor.__get__"))) && (decide (PySem.W.takesIn K (.builtin "object.__class__") = some true) && decide (PySem.W.mroIn K D (.type "object") = some true)))))
theorem exCB_ok {K : PySem.W.Frag} {D : Addr} (h : exCB K D = true) : ExcC K D := by
  unfold exCB at h
  simp only [Bool.and_eq_true, decide_eq_true_eq] at h
  obtain ⟨⟨h1, h2⟩, ⟨h3, h4⟩, h5, h6, h7, h8⟩ := h
  exact ⟨He.eqO_ok h1, He.eqO_ok h2, h3, h4, He.eqO_ok h5, He.eqO_ok h6, h7, h8⟩
def toldEx (K : PySem.W.Frag) : Bool := (List.range 11).all fun c => (exCB K (clK K c) && decide (PySem.W.kitOne K (.ref (clK K c)) (.type "ValueError") = some true)) &&
  (decide (PySem.W.exmOne K (.ref (clK K c)) (.ref (He.ga K "WalkError")) = some true) && (List.range 11).all fun j => decide (PySem.W.kitOne K (.ref (clK K c)) (.ref (clK K j)) = some (decide (j = c))))
theorem clK_mn (K : PySem.W.Frag) (c : Nat) : clK K (mn c) = clK K c := by
  have e : mn (mn c) = mn c := by
    unfold mn
    split <;> simp_all
  unfold clK
  rw [e]
theorem toldEx_ok {K : PySem.W.Frag} (h : toldEx K = true) (c : Nat) : ExcC K (clK K c) ∧ PySem.W.kitOne K (.ref (clK K c)) (.type "ValueError") = some true ∧ PySem.W.exmOne K (.ref (clK K c)) (.ref (He.ga K "WalkError")) = some true ∧
    ∀ j, j < 11 → PySem.W.kitOne K (.ref (clK K c)) (.ref (clK K j)) = some (decide (j = mn c)) := by
  have h1 := List.all_eq_true.mp h (mn c) (List.mem_range.mpr (mn_lt c))
  simp only [Bool.and_eq_true, decide_eq_true_eq] at h1
  obtain ⟨⟨h1, h2⟩, h3, h4⟩ := h1
  rw [clK_mn] at h1 h2 h3 h4
  refine ⟨exCB_ok h1, h2, h3, fun j hj => ?_⟩
  have h5 := List.all_eq_true.mp h4 j (List.mem_range.mpr hj)
  exact of_decide_eq_true h5
/-! ### facts by lists of names -/
def faOf (gl fr ex : List Str) : List He.Fa := gl.map .glo ++ (fr.map .free ++ ex.map .exc)
section
variable {gl fr ex : List Str} {fn : List He.DefD} {K : PySem.W.Frag} {h : Heap} {mg : Str → Option Value}
theorem sGlo (c : He.SaysD (faOf gl fr ex) fn K) (X : K.In h) (G : h.Ns mainGlobals mg) {x : Str} (hx : x ∈ gl) : mg x = some (.ref (He.ga K x)) :=
  He.glo_ok X G (c.facts (f := .glo x) (List.mem_append_left _ (List.mem_map.mpr ⟨x, hx, rfl⟩)))
theorem sFree (c : He.SaysD (faOf gl fr ex) fn K) (X : K.In h) (G : h.Ns mainGlobals mg) {x : Str} (hx : x ∈ fr) : mg x = none :=
  He.free_ok X G (c.facts (f := .free x) (List.mem_append_right _ (List.mem_append_left _ (List.mem_map.mpr ⟨x, hx, rfl⟩))))
theorem sExc (c : He.SaysD (faOf gl fr ex) fn K) {x : Str} (hx : x ∈ ex) : (He.Fa.exc x).ok K = true :=
  c.facts (f := .exc x) (List.mem_append_right _ (List.mem_append_right _ (List.mem_map.mpr ⟨x, hx, rfl⟩)))
end
def frN : List Str := bltN ++ (["ValueError"] : List Str)
/-! ### the tables of the module -/
def tabB (K : PySem.W.Frag) (x : Str) (tab : List (Tx × D)) : Bool := tab.all fun q => match PySem.W.nsIn K (He.ga K x) (SX.S q.1), q.2 with
  | some (some (.int j _)), .int i => decide (j = i)
  | some (some (.str z _)), .str l => decide (z = SX.S l) && (l.all fun c => decide (c < 128)) && decide (l.length ≤ 100)
  | _, _ => false
theorem tabGet_mem : ∀ {tab : List (Tx × D)} {k : Tx} {d : D}, tabGet tab k = some d → (k, d) ∈ tab
  | [], _, _, h => by cases h
  | (k', d') :: r, k, d, h => by
    have h : (if k' = k then some d' else tabGet r k) = some d := h
    split at h
    · rename_i e
      cases h
      rw [e]
      exact List.mem_cons_self
    · exact List.mem_cons_of_mem _ (tabGet_mem h)
theorem tabB_ok {g : Gm} {x : Str} {n : Nat} {tab : List (Tx × D)} (h : tabB g.K x tab = true) (hg : g.gd n = He.ga g.K x) : TabOk g n tab := by
  intro k d hk
  have h1 := List.all_eq_true.mp h (k, d) (tabGet_mem hk)
  rw [hg]
  split at h1
  · rename_i j t i e1 e2
    have e2 : d = .int i := e2
    subst e2
    have ej : j = i := of_decide_eq_true h1
    subst ej
    exact ⟨_, .int j, e1, ⟨_, rfl⟩, fun _ _ => .int j⟩
  · rename_i z t l e1 e2
    have e2 : d = .str l := e2
    subst e2
    simp only [Bool.and_eq_true, decide_eq_true_eq, List.all_eq_true] at h1
    obtain ⟨⟨h1, h2⟩, h3⟩ := h1
    subst h1
    exact ⟨_, .str (SX.S l), e1, ⟨_, rfl⟩, fun _ _ => .str h2 (Nat.le_trans h3 (by decide))⟩
  · cases h1
/-! ### the frame's two defs and the law -/
theorem fnS_ok {S : Sup} {i : Nat} {prm : Arguments} {bs : List Stmt} {scope : Scope} {N ps : List Str} {f : Addr} {fd : FuncData} (F : FunD S.wd.K (fnm i) (fnm i) prm bs scope [] [] f fd) (Sc : FnScope N ps scope) (hm : S.wd.mg (fnm i) = some (.ref f)) (bd : Binds S.wd.K fd ps [])
    (b : Ss) (hA : ndASs S b) (hB : ndSs S.g false b) (hc : chkSs scope N b bs = true) (gK : S.g.K = S.wd.K ∧ S.g.w = S.wd.w) (hb : ∀ x, bltN.contains x = true → S.wd.mg x = none)
    (len : ∀ vs H Q E, S.g.sp i vs H Q E → vs.length = ps.length) (rd : ∀ vs H Q E, S.g.sp i vs H Q E → trSs S.g b E { nx := fun _ H' => Q .non H', rt := Q } (L2.start N vs) H) : HasS S.wd S.g (S.L + 1) i :=
  ⟨f, fd, ps, S.L + 1, F.ok Sc len fun cdv A outer s H vs Q E hr h => ⟨trSs S.g b E, pss_ok S b false _ scope N E bs ⟨⟨rfl, rfl, Sc.nd, rfl, hr, L2N.takes_of rfl rfl rfl rfl, rfl, rfl, rfl, rfl, rfl, gK, hb⟩, fun _ => rfl, passes_of rfl, Sc.kind⟩ (fun z => by cases z) hA hB hc, rd vs H Q E h⟩, Nat.le_refl _, hm, F.kp, bd⟩
def spLawF (K : PySem.W.Frag) (T : List (Addr × Str)) : Sp := fun vs H Q _ => ∃ (a : Addr) (ns : List Int), vs = [.ref a] ∧ SqL K H a (ns.map V.int) ∧ ns.length ≤ 63 ∧ LamX.Tabs T H ∧ ∀ H', Q (.bl true) H'
theorem law_fn {S : Sup} {prm : Arguments} {bs : List Stmt} {scope : Scope} {N : List Str} {f : Addr} {fd : FuncData} {m : Int} {b : Ss} {tl : Bool} (F : FunD S.wd.K "law" "law" prm bs scope [] [] f fd) (Sc : FnScope N ["script"] scope)
    (hA : ndASs S (b_frame m b)) (hB : ndSs S.g tl (b_frame m b)) (hc : chkSs scope N (b_frame m b) bs = true) (gK : S.g.K = S.wd.K ∧ S.g.w = S.wd.w) (hb : ∀ x, bltN.contains x = true → S.wd.mg x = none) (hN : 2 ≤ N.length) (hm1 : 1 ≤ m) (hm2 : m < 64)
    (hg : S.g.sp 64 = spRounds S.g.K) (tt : tl = true → TtOk S.g)
    (tld : ∀ (cdv : Value) (A : Around) (outer : List Env) (s : Shared) (H : Hp) (E : XK), (∀ c, cdv = .ref c → He.codeOf S.wd.K ("law", none) = c ∨ f ≠ He.fAd S.wd.K ("law", none)) → (∃ c, cdv = .ref c) → Room (S.L + 2) (A.deeper (envOfC "law" scope s.heap.objs.size f cdv)) → tl = true →
      Cxt S (cxOf (L2N.CX S.wd.prog S.wd.w) S.wd.prog S.wd.w S.wd.K S.wd.mg S.wd.base N "law" scope f cdv A outer s H E) scope N E → Tld S (cxOf (L2N.CX S.wd.prog S.wd.w) S.wd.prog S.wd.w S.wd.K S.wd.mg S.wd.base N "law" scope f cdv A outer s H E) scope N)
    (law : ∀ n : Int, ∃ s', evSs b ⟨.un :: .val .dice :: List.replicate (N.length - 2) .un, n, 0, false⟩ = .nx s' ∧ s'.env.length = N.length) :
    FnOk S.wd.prog S.wd.w S.wd.K S.wd.mg S.wd.base (L2N.CX S.wd.prog S.wd.w) (S.L + 3) f fd ["script"] (spLawF S.wd.K S.g.T) := by
  obtain ⟨oc, od, dV, kV, doc, pm, an, cdv, ct, osl, rfl, lk, hcd, _, _⟩ := F.ex
  refine fn_of (k := S.L + 2) lk hcd Sc (fun vs H Q E h => ?_) fun A outer s H vs Q E hr h => ⟨trSs S.g (b_frame m b) E, ?_, ?_⟩
  · obtain ⟨a, ns, rfl, _⟩ := h
    rfl
  · have C : Cxt S (cxOf (L2N.CX S.wd.prog S.wd.w) S.wd.prog S.wd.w S.wd.K S.wd.mg S.wd.base N "law" scope f cdv A outer s H E) scope N E := ⟨rfl, rfl, Sc.nd, rfl, hr.mono (by omega), L2N.takes_of rfl rfl rfl rfl, rfl, rfl, rfl, rfl, rfl, gK, hb⟩
    refine pss_ok S (b_frame m b) tl _ scope N E bs ⟨C, fun _ => rfl, passes_of rfl, Sc.kind⟩ (fun z => tld cdv A outer s H E (fun c e => ?_) (He.codeIn_ref hcd) hr z C) hA hB hc
    by_cases hf : f = He.fAd S.wd.K ("law", none)
    · left
      rw [hf] at lk
      exact He.codeOf_eq lk e
    · exact .inr hf
  · obtain ⟨a, ns, rfl, hS, hl, hT, hq⟩ := h
    rw [← gK.1] at hS
    exact frame_rd hg b tl m hm1 hm2 hN hB.1.2 tt law hq hS hl hT
/-- the tables' facts -/
theorem told_of {wd : Wd} {g : Gm} {fm gT : Addr} {fdM : FuncData} {scM scT : Scope} (hex : toldEx wd.K = true) (hcl : g.cl = clK wd.K)
    (mC : ∀ i, i < 11 → wd.mg (cnm i) = some (.ref (He.ga wd.K (cnm i)))) (mF : ∀ x, x ∈ frN → wd.mg x = none) (mT : wd.mg "_law_told" = some (.ref gT)) (mM : wd.mg "_law_term" = some (.ref fm)) (mW : wd.mg "WalkError" = some (.ref (He.ga wd.K "WalkError")))
    (FM : ∃ (prm : Arguments) (bs : List Stmt), FunD wd.K "_law_term" "_law_term" prm bs scM [] [] fm fdM ∧ ∀ {X : Cx} {a D : Addr} {fl : Nat → Bool} {cA : Nat → Addr}, CallR X (.builtin "isinstance") (rIsE X.K D a) → L2H.HotC X → X.A.units + 64 < cLine → X.N = (["e", "flags", "kinds", "flag"] : List Str) →
      (∀ x, X.fn x = true) → (∀ i, i < 11 → X.mg (cnm i) = some (.ref (cA i))) → (∀ i, i < 11 → PySem.W.kitOne X.K (.ref D) (.ref (cA i)) = some (fl i)) → PySem.W.kitOne X.K (.ref D) (.type "ValueError") = some true → X.env.scope = scM →
      X.mg "isinstance" = none → X.mg "sum" = none → X.mg "ValueError" = none → X.mg "int" = none → PSs X bs (tTerm X.K a fl))
    (bM : Binds wd.K fdM ["e"] []) (sM : FnScope ["e", "flags", "kinds", "flag"] ["e"] scM)
    (FT : ∃ (prm : Arguments) (fd : FuncData) (p1 p2 p3 p4 p5 p6 p7 p8 p9 p10 : Pos), FunD wd.K "_law_told" "_law_told" prm (toldB p1 p2 p3 p4 p5 p6 p7 p8 p9 p10) scT [] [] gT fd ∧ Binds wd.K fd ["deed"] []) (sT : FnScope ["deed", "e"] ["deed"] scT)
    (gW : scT.names.lookup ("WalkError" : Str) = some .globalImplicit) (gM : scT.names.lookup ("_law_term" : Str) = some .globalImplicit) (ve : scT.names.lookup ("e" : Str) = some .local) :
    ToldF wd g.cl 1 gT fm (He.ga wd.K "WalkError") scT := by
  obtain ⟨prm, bs, F, walk⟩ := FM
  refine ⟨FT, sT, mT, gW, gM, ve, mW, mM, F.kp, fun c => ?_, fun c => ?_⟩
  · rw [hcl]
    exact (toldEx_ok hex c).2.2.1
  · rw [hcl]
    obtain ⟨x1, x2, x3, x4⟩ := toldEx_ok hex c
    refine termOk_of (k := 0) F sM bM fun cdv A outer s H Q p hot hr hz hq => ⟨_, walk (a := p.1) (D := clK wd.K c) (fl := fun i => decide (i = mn c)) (cA := fun i => He.ga wd.K (cnm i)) (cr_isE (oe := p.2) x1 (List.mem_singleton_self _) hz ?_) ⟨p, ?_, List.mem_singleton_self _⟩ ?_ rfl (fun _ => rfl) mC (fun i hi => ?_) x2 rfl (mF _ (by decide +kernel)) (mF _ (by decide +kernel)) (mF _ (by decide +kernel)) (mF _ (by decide +kernel)), term_rd rfl hq⟩
    · obtain ⟨_, vs, h, _⟩ := hot
      exact ⟨vs, h⟩
    · exact hot
    · have := hr.un
      show (A.deeper (envOfC "_law_term" scM s.heap.objs.size fm cdv)).units + 64 < cLine
      omega
    · have e : He.ga wd.K (cnm i) = clK wd.K i := by
        unfold clK
        have : mn i = i := by
          unfold mn
          split <;> omega
        rw [this]
      show PySem.W.kitOne wd.K _ (.ref (He.ga wd.K (cnm i))) = _
      rw [e]
      exact x4 i hi
end Fw

set_option linter.all false
set_option autoImplicit false
set_option maxRecDepth 100000
/-! FwBig: the evaluator by steps. -/
namespace Fw
section
variable {s s1 s2 s3 : S} {a b c : E} {x y z w d : D} {es : Es} {op op' : Bop} {co co' : Cop} {n k : Int}
theorem eVar {i : Nat} (h : s.get i = .val d) : ev (.var i) s = .ok (d, s) := by
  show evVar i s = _
  unfold evVar
  rw [h]
theorem eInt {i : Int} : ev (.int i) s = .ok (.int i, s) := rfl
theorem eStr {l : Tx} : ev (.str l) s = .ok (.str l, s) := rfl
theorem eGstr {g : Nat} {l : Tx} : ev (.gstr g l) s = .ok (.str l, s) := rfl
theorem eBl {t : Bool} : ev (.bl t) s = .ok (.bl t, s) := rfl
theorem eNon : ev .non s = .ok (.non, s) := rfl
theorem eOwn {i : Nat} {l : List D} (h : s.get i = .ol l) (hk : s.lk = false) : ev (.var i) s = .ok (.lst l, s.put i (.val (.lst l))) := by
  show evVar i s = _
  unfold evVar
  rw [h, hk]
  rfl
theorem eIsi {t : Ty} (h : ev a s = .ok (x, s1)) (h2 : isiD t x = .ok z) : ev (.isi a t) s = .ok (z, s1) := by
  show (ev a s).bind _ = _
  rw [h]
  show (isiD t x).bind _ = _
  rw [h2]
  rfl
theorem eBin (h : ev a s = .ok (x, s1)) (h2 : ev b s1 = .ok (y, s2)) (h3 : binD op x y = .ok z) : ev (.bin op a b) s = .ok (z, s2) := by
  show (ev a s).bind _ = _
  rw [h]
  show (ev b s1).bind _ = _
  rw [h2]
  show (binD op x y).bind _ = _
  rw [h3]
  rfl
theorem eNeg {i : Int} (h : ev a s = .ok (.int i, s1)) : ev (.neg a) s = .ok (.int (-i), s1) := by
  show (ev a s).bind _ = _
  rw [h]
  rfl
theorem eNot {t u : Bool} (h : ev a s = .ok (.bl t, s1)) (hu : (!t) = u) : ev (.not a) s = .ok (.bl u, s1) := by
  show (ev a s).bind _ = _
  rw [h, ← hu]
  rfl
theorem eCmp (h : ev a s = .ok (x, s1)) (h2 : ev b s1 = .ok (y, s2)) (h3 : cmpD co x y = .ok z) : ev (.cmp co a b) s = .ok (z, s2) := by
  show (ev a s).bind _ = _
  rw [h]
  show (ev b s1).bind _ = _
  rw [h2]
  show (cmpD co x y).bind _ = _
  rw [h3]
  rfl
theorem eChain {t u : Bool} (h : ev a s = .ok (x, s1)) (h2 : ev b s1 = .ok (y, s2)) (h3 : cmpD co x y = .ok (.bl t)) (h4 : ev c s2 = .ok (w, s2)) (h5 : cmpD co' y w = .ok (.bl u)) : ev (.chain co co' a b c) s = .ok (.bl (t && u), s2) := by
  show (ev a s).bind _ = _
  rw [h]
  show (ev b s1).bind _ = _
  rw [h2]
  show (cmpD co x y).bind _ = _
  rw [h3]
  cases t with
  | false => rfl
  | true =>
    show (ev c s2).bind _ = _
    rw [h4]
    show (cmpD co' y w).bind _ = _
    rw [h5]
    rfl
theorem eIfT {t : Bool} {r : Res (D × S)} (h : ev a s = .ok (.bl t, s1)) (ht : t = true) (h2 : ev b s1 = r) : ev (.ife a b c) s = r := by
  show (ev a s).bind _ = _
  rw [h, ht]
  exact h2
theorem eIfF {t : Bool} {r : Res (D × S)} (h : ev a s = .ok (.bl t, s1)) (ht : t = false) (h2 : ev c s1 = r) : ev (.ife a b c) s = r := by
  show (ev a s).bind _ = _
  rw [h, ht]
  exact h2
theorem eTup {xs : List D} (h : evs es s = .ok (xs, s1)) (hl : xs.length ≤ SL) : ev (.tup es) s = .ok (.tup xs, s1) := by
  show (evs es s).bind _ = _
  rw [h]
  show (if xs.length ≤ SL then _ else _) = _
  rw [if_pos hl]
theorem eLst {xs : List D} (h : evs es s = .ok (xs, s1)) (hl : xs.length ≤ SL) : ev (.lst es) s = .ok (.lst xs, s1) := by
  show (evs es s).bind _ = _
  rw [h]
  show (if xs.length ≤ SL then _ else _) = _
  rw [if_pos hl]
theorem eIx (h : ev a s = .ok (x, s1)) (h2 : ev b s1 = .ok (y, s2)) (h3 : ixS s2 x y = .ok z) : ev (.ix a b) s = .ok (z, s2) := by
  show (ev a s).bind _ = _
  rw [h]
  show (ev b s1).bind _ = _
  rw [h2]
  show (ixS s2 x y).bind _ = _
  rw [h3]
  rfl
theorem eIxo {i : Nat} {l l' : List D} (h0 : s.get i = .ol l) (h : ev b s = .ok (y, s1)) (h1 : s1.get i = .ol l') (h3 : ixD (.lst l') y = .ok z) : ev (.ixo i b) s = .ok (z, s1) := by
  show (match s.get i with
    | .ol _ => (ev b s).bind fun (y, s) => (match s.get i with | .ol l => (ixD (.lst l) y).bind fun z => Res.ok (z, s) | _ => .stuck)
    | _ => .stuck) = _
  rw [h0]
  show (ev b s).bind _ = _
  rw [h]
  show (match s1.get i with | .ol l => (ixD (.lst l) y).bind fun z => Res.ok (z, s1) | _ => .stuck) = _
  rw [h1]
  show (ixD (.lst l') y).bind _ = _
  rw [h3]
  rfl
theorem eIxg {g : Nat} {tab : List (Tx × D)} {l : Tx} (h : ev b s = .ok (.str l, s1)) (h2 : tabGet tab l = some d) : ev (.ixg g tab b) s = .ok (d, s1) := by
  show (ev b s).bind _ = _
  rw [h]
  show (match tabGet tab l with | some d => Res.ok (d, s1) | none => Res.stuck) = _
  rw [h2]
theorem eSl {lo hi : Oe} {l u : Option Int} (h : ev a s = .ok (x, s1)) (h2 : evo lo s1 = .ok (l, s2)) (h3 : evo hi s2 = .ok (u, s3)) (h4 : slD x l u = .ok z) : ev (.sl a lo hi) s = .ok (z, s3) := by
  show (ev a s).bind _ = _
  rw [h]
  show (evo lo s1).bind _ = _
  rw [h2]
  show (evo hi s2).bind _ = _
  rw [h3]
  show (slD x l u).bind _ = _
  rw [h4]
  rfl
theorem oNone : evo .none s = .ok (none, s) := rfl
theorem oSome {i : Int} (h : ev a s = .ok (.int i, s1)) : evo (.some a) s = .ok (some i, s1) := by
  show (ev a s).bind _ = _
  rw [h]
  rfl
theorem eCall {f : Nat} {F : FSem} {xs : List D} {n' k' : Int} (h : evs es s = .ok (xs, s1)) (h2 : F xs s1.dn s1.dk = .ok (d, n', k')) : ev (.call f F es) s = .ok (d, { s1 with dn := n', dk := k' }) := by
  show (evs es s).bind _ = _
  rw [h]
  show (F xs s1.dn s1.dk).bind _ = _
  rw [h2]
  rfl
theorem eB1 {f : B1} (h : ev a s = .ok (x, s1)) (h2 : b1D f x = .ok z) : ev (.b1 f a) s = .ok (z, s1) := by
  show (ev a s).bind _ = _
  rw [h]
  show (b1D f x).bind _ = _
  rw [h2]
  rfl
theorem eB2 {f : B2} (h : ev a s = .ok (x, s1)) (h2 : ev b s1 = .ok (y, s2)) (h3 : b2D f x y = .ok z) : ev (.b2 f a b) s = .ok (z, s2) := by
  show (ev a s).bind _ = _
  rw [h]
  show (ev b s1).bind _ = _
  rw [h2]
  show (b2D f x y).bind _ = _
  rw [h3]
  rfl
theorem eM1 {m : M1} {l : Tx} (h : ev a s = .ok (.str l, s1)) (h2 : ev b s1 = .ok (y, s2)) (h3 : m1D m (.str l) y = .ok z) : ev (.m1 m a b) s = .ok (z, s2) := by
  show (ev a s).bind _ = _
  rw [h]
  show (ev b s1).bind _ = _
  rw [h2]
  show (m1D m (.str l) y).bind _ = _
  rw [h3]
  rfl
theorem eLc {tg : Tg} {it : It} {ds l : List D} (h : evi it s = .ok (ds, s1)) (h2 : lcL tg (fun t => .ok (.bl true, t)) (ev a) s1 ds s1.dn s1.dk [] = .ok (l, n, k)) : ev (.lc tg it a) s = .ok (.lst l, { s1 with dn := n, dk := k }) := by
  show (evi it s).bind _ = _
  rw [h]
  show (lcL _ _ _ _ _ _ _ _).bind _ = _
  rw [h2]
  rfl
theorem eLcf {tg : Tg} {it : It} {ds l : List D} (h : evi it s = .ok (ds, s1)) (h2 : lcL tg (ev c) (ev a) s1 ds s1.dn s1.dk [] = .ok (l, n, k)) : ev (.lcf tg it c a) s = .ok (.lst l, { s1 with dn := n, dk := k }) := by
  show (evi it s).bind _ = _
  rw [h]
  show (lcL _ _ _ _ _ _ _ _).bind _ = _
  rw [h2]
  rfl
theorem eToldOk {t : S} (h : ev a { s with lk := true } = .ok (d, t)) : ev (.told a) s = .ok (d, { s with dn := t.dn, dk := t.dk }) := by
  show (match ev a { s with lk := true } with | .ok (d, t) => _ | .exc c n k => _ | .stuck => _) = _
  rw [h]
theorem eToldX {c : Nat} (h : ev a { s with lk := true } = .exc c n k) : ev (.told a) s = .ok (errD c, { s with dn := n, dk := k }) := by
  show (match ev a { s with lk := true } with | .ok (d, t) => _ | .exc c n k => _ | .stuck => _) = _
  rw [h]
theorem eCallX {f c : Nat} {F : FSem} {xs : List D} {n' k' : Int} (h : evs es s = .ok (xs, s1)) (h2 : F xs s1.dn s1.dk = .exc c n' k') : ev (.call f F es) s = .exc c n' k' := by
  show (evs es s).bind _ = _
  rw [h]
  show (F xs s1.dn s1.dk).bind _ = _
  rw [h2]
  rfl
theorem sNil : evs .nil s = .ok ([], s) := rfl
theorem sCons {xs : List D} (h : ev a s = .ok (x, s1)) (h2 : evs es s1 = .ok (xs, s2)) : evs (.cons a es) s = .ok (x :: xs, s2) := by
  show (ev a s).bind _ = _
  rw [h]
  show (evs es s1).bind _ = _
  rw [h2]
  rfl
theorem iSeqE {l : List D} (h : ev a s = .ok (x, s1)) (h2 : itD x = .ok l) : evi (.seq a) s = .ok (l, s1) := by
  show (ev a s).bind _ = _
  rw [h]
  show (itD x).bind _ = _
  rw [h2]
  rfl
theorem iRng {l : List D} (h : ev a s = .ok (x, s1)) (h2 : rngD (.int 0) x = .ok l) : evi (.rng a) s = .ok (l, s1) := by
  show (ev a s).bind _ = _
  rw [h]
  show (rngD (.int 0) x).bind _ = _
  rw [h2]
  rfl
/-! and, or: of known truth -/
theorem aOne : evAnd (.cons a .nil) s = ev a s := rfl
theorem aT {e' : E} {r : Es} {t : Bool} {q : Res (D × S)} (h : ev a s = .ok (.bl t, s1)) (ht : t = true) (h2 : evAnd (.cons e' r) s1 = q) : evAnd (.cons a (.cons e' r)) s = q := by
  show (ev a s).bind _ = _
  rw [h, ht]
  exact h2
theorem aF {e' : E} {r : Es} {t : Bool} (h : ev a s = .ok (.bl t, s1)) (ht : t = false) : evAnd (.cons a (.cons e' r)) s = .ok (.bl false, s1) := by
  show (ev a s).bind _ = _
  rw [h, ht]
  rfl
theorem aB {e' : E} {r : Es} {t u : Bool} (h : ev a s = .ok (.bl t, s1)) (h2 : evAnd (.cons e' r) s1 = .ok (.bl u, s1)) : evAnd (.cons a (.cons e' r)) s = .ok (.bl (t && u), s1) := by
  cases t with
  | false => exact aF h rfl
  | true => exact aT h rfl h2
theorem aEnd {q : Res (D × S)} (h : ev a s = q) : evAnd (.cons a .nil) s = q := h
theorem oEnd {q : Res (D × S)} (h : ev a s = q) : evOr (.cons a .nil) s = q := h
theorem eAnd {q : Res (D × S)} (h : evAnd es s = q) : ev (.and es) s = q := h
theorem eOr {q : Res (D × S)} (h : evOr es s = q) : ev (.or es) s = q := h
theorem oOne : evOr (.cons a .nil) s = ev a s := rfl
theorem oF {e' : E} {r : Es} {t : Bool} {q : Res (D × S)} (h : ev a s = .ok (.bl t, s1)) (ht : t = false) (h2 : evOr (.cons e' r) s1 = q) : evOr (.cons a (.cons e' r)) s = q := by
  show (ev a s).bind _ = _
  rw [h, ht]
  exact h2
theorem oT {e' : E} {r : Es} {t : Bool} (h : ev a s = .ok (.bl t, s1)) (ht : t = true) : evOr (.cons a (.cons e' r)) s = .ok (.bl true, s1) := by
  show (ev a s).bind _ = _
  rw [h, ht]
  rfl
end
/-! ### statements -/
section
variable {s s1 s2 : S} {a : E} {x d : D} {r : RS} {p q : Ss} {m : Sm} {n k : Int}
theorem qNil : evSs .nil s = .nx s := rfl
theorem qCons (h : evS m s = .nx s1) (h2 : evSs p s1 = r) : evSs (.cons m p) s = r := by
  show (evS m s).then _ = _
  rw [h]
  exact h2
theorem qRet (h : ev a s = .ok (d, s1)) : evSs (.cons (.ret a) p) s = .rt d s1 := by
  show ((ev a s).then _).then _ = _
  rw [h]
  rfl
theorem qRetX {c : Nat} (h : ev a s = .exc c n k) : evSs (.cons (.ret a) p) s = .ex c n k := by
  show ((ev a s).then _).then _ = _
  rw [h]
  rfl
theorem qSet {i : Nat} (h : ev a s = .ok (x, s1)) (h2 : evSs p (s1.put i (.val x)) = r) : evSs (.cons (.set i a) p) s = r := by
  refine qCons ?_ h2
  show (ev a s).then _ = _
  rw [h]
  rfl
theorem qAsg {tg : Tg} (h : ev a s = .ok (x, s1)) (hb : bindT tg x s1 = some s2) (h2 : evSs p s2 = r) : evSs (.cons (.asg tg a) p) s = r := by
  refine qCons ?_ h2
  show (ev a s).then _ = _
  rw [h]
  show (match bindT tg x s1 with | some s => RS.nx s | none => .stuck) = _
  rw [hb]
theorem qExpr (h : ev a s = .ok (x, s1)) (h2 : evSs p s1 = r) : evSs (.cons (.expr a) p) s = r := by
  refine qCons ?_ h2
  show (ev a s).then _ = _
  rw [h]
  rfl
theorem qExprX {c : Nat} (h : ev a s = .exc c n k) : evSs (.cons (.expr a) p) s = .ex c n k := by
  show ((ev a s).then _).then _ = _
  rw [h]
  rfl
theorem qIfF {t : Bool} {u : Ss} (h : ev a s = .ok (.bl t, s1)) (ht : t = false) (h2 : evSs u s1 = .nx s2) (h3 : evSs p s2 = r) : evSs (.cons (.iff a q u) p) s = r := by
  refine qCons ?_ h3
  show (ev a s).then _ = _
  rw [h, ht]
  exact h2
theorem qIfT {t : Bool} {u : Ss} (h : ev a s = .ok (.bl t, s1)) (ht : t = true) (h2 : evSs q s1 = .nx s2) (h3 : evSs p s2 = r) : evSs (.cons (.iff a q u) p) s = r := by
  refine qCons ?_ h3
  show (ev a s).then _ = _
  rw [h, ht]
  exact h2
theorem qIfTR {t : Bool} {u : Ss} (h : ev a s = .ok (.bl t, s1)) (ht : t = true) (h2 : evSs q s1 = .rt d s2) : evSs (.cons (.iff a q u) p) s = .rt d s2 := by
  show ((ev a s).then _).then _ = _
  rw [h, ht]
  show (evSs q s1).then _ = _
  rw [h2]
  rfl
theorem qIfTX {t : Bool} {u : Ss} {c : Nat} (h : ev a s = .ok (.bl t, s1)) (ht : t = true) (h2 : evSs q s1 = .ex c n k) : evSs (.cons (.iff a q u) p) s = .ex c n k := by
  show ((ev a s).then _).then _ = _
  rw [h, ht]
  show (evSs q s1).then _ = _
  rw [h2]
  rfl
theorem qDset0 {i : Nat} {v : Int} (h : ev a s = .ok (.int v, s1)) (hg : s1.get i = .val .dice) (h2 : evSs p { s1 with dn := v } = r) : evSs (.cons (.dset i 0 a) p) s = r := by
  refine qCons ?_ h2
  show (ev a s).then _ = _
  rw [h]
  show (match s1.get i, D.int v with
    | .val .dice, .int n => if 0 = 0 then RS.nx { s1 with dn := n } else if 0 = 1 then .nx { s1 with dk := n } else .stuck
    | _, _ => .stuck) = _
  rw [hg]
  rfl
theorem qDset1 {i : Nat} {v : Int} (h : ev a s = .ok (.int v, s1)) (hg : s1.get i = .val .dice) (h2 : evSs p { s1 with dk := v } = r) : evSs (.cons (.dset i 1 a) p) s = r := by
  refine qCons ?_ h2
  show (ev a s).then _ = _
  rw [h]
  show (match s1.get i, D.int v with
    | .val .dice, .int n => if 1 = 0 then RS.nx { s1 with dn := n } else if 1 = 1 then .nx { s1 with dk := n } else .stuck
    | _, _ => .stuck) = _
  rw [hg]
  rfl
theorem qPar {i j : Nat} {e f : Ri} {u v : Sl} {s3 : S} (h : evRi e s = .ok (u, s1)) (h1 : evRi f s1 = .ok (v, s3)) (h2 : evSs p ((s3.put i u).put j v) = r) : evSs (.cons (.par i j e f) p) s = r := by
  refine qCons ?_ h2
  show (evRi e s).then _ = _
  rw [h]
  show (evRi f s1).then _ = _
  rw [h1]
  rfl
theorem rEx (h : ev a s = .ok (x, s1)) : evRi (.ex a) s = .ok (.val x, s1) := by
  show (ev a s).bind _ = _
  rw [h]
  rfl
theorem rNl {es : Es} {xs : List D} (h : evs es s = .ok (xs, s1)) (hl : xs.length ≤ SL) : evRi (.nl es) s = .ok (.ol xs, s1) := by
  show (evs es s).bind _ = _
  rw [h]
  show (if xs.length ≤ SL then _ else _) = _
  rw [if_pos hl]
theorem qOwn {i : Nat} {es : Es} {xs : List D} (h : evs es s = .ok (xs, s1)) (hl : xs.length ≤ SL) (h2 : evSs p (s1.put i (.ol xs)) = r) : evSs (.cons (.own i es) p) s = r := by
  refine qCons ?_ h2
  show (evs es s).then _ = _
  rw [h]
  show (if xs.length ≤ SL then _ else _) = _
  rw [if_pos hl]
theorem qApp {i : Nat} {l l' : List D} (h0 : s.get i = .ol l) (h : ev a s = .ok (x, s1)) (h1 : s1.get i = .ol l') (hl : l'.length < SL) (h2 : evSs p (s1.put i (.ol (l' ++ [x]))) = r) : evSs (.cons (.app i a) p) s = r := by
  refine qCons ?_ h2
  show (match s.get i with
    | .ol _ => (ev a s).then fun (x, s) => (match s.get i with
      | .ol l => if l.length < SL then RS.nx (s.put i (.ol (l ++ [x]))) else .stuck
      | _ => .stuck)
    | _ => .stuck) = _
  rw [h0]
  show (ev a s).then _ = _
  rw [h]
  show (match s1.get i with
      | .ol l => if l.length < SL then RS.nx (s1.put i (.ol (l ++ [x]))) else .stuck
      | _ => .stuck) = _
  rw [h1]
  show (if l'.length < SL then _ else _) = _
  rw [if_pos hl]
theorem qWhil {f : Nat} {t : E} {b : Ss} (h : whL (ev t) (evSs b) f s = .nx s1) (h2 : evSs p s1 = r) : evSs (.cons (.whil f t b) p) s = r := qCons h h2
theorem qFor {tg : Tg} {it : It} {b : Ss} {ds : List D} (h : evi it s = .ok (ds, s1)) (h1 : forL (fun d s => match bindT tg d s with | some s => evSs b s | none => .stuck) ds s1 = .nx s2) (h2 : evSs p s2 = r) : evSs (.cons (.for_ tg it b) p) s = r := by
  refine qCons ?_ h2
  show (evi it s).then _ = _
  rw [h]
  exact h1
theorem whT {t : S → Res (D × S)} {b : S → RS} {f : Nat} (h : t s = .ok (.bl true, s1)) (h1 : b s1 = .nx s2) (h2 : whL t b f s2 = r) : whL t b (f + 1) s = r := by
  show (t s).then _ = _
  rw [h]
  show (b s1).then _ = _
  rw [h1]
  exact h2
theorem whF {t : S → Res (D × S)} {b : S → RS} {f : Nat} (h : t s = .ok (.bl false, s1)) : whL t b (f + 1) s = .nx s1 := by
  show (t s).then _ = _
  rw [h]
  rfl
theorem forC {f : D → S → RS} {d : D} {l : List D} (h : f d s = .nx s1) (h2 : forL f l s1 = r) : forL f (d :: l) s = r := by
  show (f d s).then _ = _
  rw [h]
  exact h2
theorem qRais {c : Nat} : evSs (.cons (.rais c) p) s = .ex c s.dn s.dk := rfl
theorem runR {N : Nat} {b : Ss} {xs : List D} (h : evSs b ⟨xs.map .val ++ List.replicate (N - xs.length) .un, n, k, false⟩ = .rt d s) : run N b xs n k = .ok (d, s.dn, s.dk) := by
  unfold run
  rw [h]
theorem runN {N : Nat} {b : Ss} {xs : List D} (h : evSs b ⟨xs.map .val ++ List.replicate (N - xs.length) .un, n, k, false⟩ = .nx s) : run N b xs n k = .ok (.non, s.dn, s.dk) := by
  unfold run
  rw [h]
theorem runX {N : Nat} {b : Ss} {xs : List D} {c : Nat} {n' k' : Int} (h : evSs b ⟨xs.map .val ++ List.replicate (N - xs.length) .un, n, k, false⟩ = .ex c n' k') : run N b xs n k = .exc c n' k' := by
  unfold run
  rw [h]
end
end Fw

set_option linter.all false
set_option autoImplicit false
set_option maxRecDepth 100000
set_option maxHeartbeats 4000000
/-! FwMath: what the defs compute. -/
namespace Fw
/-! ### data -/
abbrev dB (b : List Tx) : D := .tup (b.map .str)
abbrev dC (r c : Nat) : D := .tup [.int r, .int c]
abbrev dS (b : List Tx) (r c l : Nat) : D := .tup [dB b, dC r c, .int l]
/-- R rows of C signs -/
structure Bd (b : List Tx) (R C : Nat) : Prop where
  rows : b.length = R
  cols : ∀ x ∈ b, x.length = C
  sgn : ∀ x ∈ b, ∀ y ∈ x, y = 46 ∨ y = 35
structure Sz (R C : Nat) : Prop where
  r1 : 1 ≤ R
  r3 : R ≤ 3
  c1 : 1 ≤ C
  c4 : C ≤ 4
  m9 : R * C ≤ 9
section
variable {n k : Int}
theorem mulS {i j : Int} (h1 : -1000000000 < i) (h2 : i < 1000000000) : binD .mul (.int i) (.int j) = .ok (.int (i * j)) := by
  unfold binD
  dsimp only
  rw [if_pos]
  left
  left
  constructor
  · show -18446744073709551616 < i
    omega
  · show i < 18446744073709551616
    omega
theorem modS {i j : Int} (h : 0 < j) : binD .mod (.int i) (.int j) = .ok (.int (i % j)) := by
  unfold binD
  dsimp only
  rw [if_pos h]
theorem whole_int (v lo hi : Int) : f_is_whole [.int v, .int lo, .int hi] n k = .ok (.bl (decide (lo ≤ v) && decide (v ≤ hi)), n, k) := by
  refine (runR (s := ⟨[.val (.int v), .val (.int lo), .val (.int hi)], n, k, false⟩) (d := .bl (true && (true && (decide (lo ≤ v) && decide (v ≤ hi))))) (qRet ?_)).trans (by simp)
  exact aB (eIsi (eVar rfl) rfl) (aB (eNot (eIsi (eVar rfl) rfl) rfl) (eChain (eVar rfl) (eVar rfl) rfl (eVar rfl) rfl))
/-- a comprehension over what does not throw the dice -/
theorem lc_map {α : Type} {tg : Tg} {f : S → Res (D × S)} {b : S} {n k : Int} (A G : α → D) (E : α → S) : ∀ (l : List α) (acc : List D),
    (∀ x ∈ l, bindT tg (A x) ⟨wipeL b.env tg.slots, n, k, true⟩ = some (E x) ∧ ∃ t, f (E x) = .ok (G x, t) ∧ t.dn = n ∧ t.dk = k) →
    lcL tg (fun t => .ok (.bl true, t)) f b (l.map A) n k acc = .ok (acc ++ l.map G, n, k)
  | [], acc, _ => by
    show Res.ok (acc, n, k) = _
    simp
  | x :: l, acc, h => by
    obtain ⟨h1, t, h2, h3, h4⟩ := h x (by simp)
    show (match bindT tg (A x) ⟨wipeL b.env tg.slots, n, k, true⟩ with | none => Res.stuck | some s1 => _) = _
    rw [h1]
    show ((f (E x)).nox.bind fun (y, s3) => lcL tg _ f b (l.map A) s3.dn s3.dk (acc ++ [y])) = _
    rw [h2]
    show lcL tg _ f b (l.map A) t.dn t.dk (acc ++ [G x]) = _
    rw [h3, h4, lc_map A G E l _ fun y hy => h y (by simp [hy])]
    simp
theorem bools_map {α : Type} (P : α → Bool) : ∀ l : List α, bools (l.map fun x => .bl (P x)) = some (l.map P)
  | [] => rfl
  | x :: l => by
    show (bools (l.map fun x => .bl (P x))).map (P x :: ·) = _
    rw [bools_map P l]
    rfl
theorem row_ok (x : Tx) (C : Nat) : f_is_row [.str x, .int C] n k = .ok (.bl (decide ((x.length : Int) = C) && (x.map fun y => decide (y ∈ [46, 35])).all id), n, k) := by
  refine (runR (s := ⟨[.val (.str x), .val (.int C), .un], n, k, false⟩) (d := .bl (true && (decide ((x.length : Int) = C) && (x.map fun y => decide (y ∈ [46, 35])).all id))) (qRet ?_)).trans (by simp)
  refine aB (eIsi (eVar rfl) rfl) (aB (eCmp (eB1 (eVar rfl) rfl) (eVar rfl) ?_) ?_)
  · show Res.ok (D.bl ((x.length : Int) == (C : Int))) = _
    rfl
  · refine eB1 (eLc (iSeqE (eVar rfl) rfl) (lc_map (fun c => .str [c]) (fun y => .bl (decide (y ∈ [46, 35]))) (fun y => ⟨[.val (.str x), .val (.int C), .val (.str [y])], n, k, true⟩) x [] fun y hy => ⟨rfl, _, eCmp (eVar rfl) rfl rfl, rfl, rfl⟩)) ?_
    show (match bools ([] ++ x.map _) with | some bs => Res.ok (D.bl (bs.all id)) | none => .stuck) = _
    rw [List.nil_append, bools_map]
theorem Bd.get {b : List Tx} {R C r : Nat} (h : Bd b R C) (hr : r < R) : ∃ x, b[r]? = some x ∧ b.getD r [] = x ∧ x.length = C ∧ ∀ y ∈ x, y = 46 ∨ y = 35 := by
  have hl : r < b.length := by rw [h.rows]; exact hr
  refine ⟨b[r], by simp [hl], by simp [List.getD, hl], h.cols _ (List.getElem_mem hl), h.sgn _ (List.getElem_mem hl)⟩
theorem ati_nat {α : Type} {l : List α} {i : Nat} {x : α} (h : l[i]? = some x) : ati l (i : Int) = some x := by
  unfold ati
  rw [if_pos (by omega)]
  simpa using h
theorem ixB {s : S} {b : List Tx} {R C r : Nat} (h : Bd b R C) (hr : r < R) : ixS s (dB b) (.int r) = .ok (.str (b.getD r [])) := by
  obtain ⟨x, h1, h2, _⟩ := h.get hr
  show (match ati (b.map D.str) (r : Int) with | some d => Res.ok d | none => .stuck) = _
  rw [ati_nat (x := D.str x) (by rw [List.getElem?_map, h1] <;> rfl), h2]
theorem ixB0 {s : S} {b : List Tx} {R C : Nat} (h : Bd b R C) (hr : 1 ≤ R) : ixS s (dB b) (.int 0) = .ok (.str (b.getD 0 [])) := ixB (r := 0) h hr
theorem ixT {s : S} {x : Tx} {c : Nat} (h : c < x.length) : ixS s (.str x) (.int c) = .ok (.str [x.getD c 0]) := by
  show (match ati x (c : Int) with | some d => Res.ok (D.str [d]) | none => .stuck) = _
  rw [ati_nat (x := x.getD c 0) (by simp [List.getD, h])]
theorem Bd.row0 {b : List Tx} {R C : Nat} (h : Bd b R C) (hr : 1 ≤ R) : (b.getD 0 []).length = C := by
  obtain ⟨x, _, h2, h3, _⟩ := h.get (r := 0) hr
  rw [h2, h3]
theorem lenB {b : List Tx} {R C : Nat} (h : Bd b R C) : b1D .len (dB b) = .ok (.int (R : Int)) := by
  show Res.ok (D.int ((b.map D.str).length : Int)) = _
  rw [List.length_map, h.rows]
theorem lenT {x : Tx} {C : Nat} (h : x.length = C) : b1D .len (.str x) = .ok (.int (C : Int)) := by
  show Res.ok (D.int (x.length : Int)) = _
  rw [h]
theorem all_sgn {b : List Tx} {R C : Nat} (h : Bd b R C) {x : Tx} (hx : x ∈ b) : (x.map fun y => decide (y ∈ [46, 35])).all id = true := by
  rw [List.all_eq_true]
  intro z hz
  obtain ⟨y, hy, e⟩ := List.mem_map.mp hz
  rw [← e]
  rcases h.sgn x hx y hy with q | q <;> (rw [q]; decide)
theorem board_ok {b : List Tx} {R C : Nat} (h : Bd b R C) (z : Sz R C) : f_is_board [dB b] n k = .ok (.bl true, n, k) := by
  have h0 := h.row0 z.r1
  have e1 : (decide ((1 : Int) ≤ (R : Int)) && decide ((R : Int) ≤ 3)) = true := by have := z.r1; have := z.r3; simp; omega
  have e2 : (decide ((1 : Int) ≤ (C : Int)) && decide ((C : Int) ≤ 4)) = true := by have := z.c1; have := z.c4; simp; omega
  refine runR (s := ⟨[.val (dB b), .val (.int C), .un], n, k, false⟩) (qIfF (t := false) (s1 := ⟨[.val (dB b), .un, .un], n, k, false⟩) ?_ rfl qNil (qSet (eB1 (eIx (eVar rfl) eInt (ixB0 h z.r1)) (lenT h0)) (qRet ?_)))
  · refine eOr (oF (eNot (eIsi (eVar rfl) rfl) rfl) rfl (oF (eNot (eChain eInt (eB1 (eVar rfl) (lenB h)) rfl eInt rfl) ?_) rfl (oEnd (eNot (eIsi (eIx (eVar rfl) eInt (ixB0 h z.r1)) rfl) rfl))))
    rw [e1]
    rfl
  · refine eAnd (aT (eChain eInt (eVar rfl) rfl eInt rfl) e2 (aT (eCmp (eBin (eVar rfl) (eB1 (eVar rfl) (lenB h)) (z := .int ((C : Int) * R)) ?_) eInt rfl) ?_ (aEnd (eB1 (eLc (iSeqE (eVar rfl) rfl)
      (lc_map D.str (fun x => .bl (decide ((x.length : Int) = C) && (x.map fun y => decide (y ∈ [46, 35])).all id)) (fun x => ⟨[.val (dB b), .val (.int C), .val (.str x)], n, k, true⟩) b [] fun x hx => ⟨rfl, _, eCall (sCons (eVar rfl) (sCons (eVar rfl) sNil)) (row_ok x C), rfl, rfl⟩)) ?_))))
    · have := z.c4
      exact mulS (by omega) (by omega)
    · have := z.m9
      have e : (C : Int) * R = ((R * C : Nat) : Int) := by rw [Int.natCast_mul, Int.mul_comm]
      rw [e]
      exact decide_eq_true (by omega)
    · show (match bools ([] ++ b.map _) with | some bs => Res.ok (D.bl (bs.all id)) | none => .stuck) = _
      rw [List.nil_append, bools_map]
      show Res.ok (D.bl ((b.map _).all id)) = _
      congr 2
      rw [List.all_eq_true]
      intro w hw
      obtain ⟨x, hx, e⟩ := List.mem_map.mp hw
      rw [← e, all_sgn h hx, Bool.and_true]
      exact decide_eq_true (by rw [h.cols x hx])
/-! ### rules -/
def isTurn (x : Nat) : Prop := x = 82 ∨ x = 76 ∨ x = 70 ∨ x = 66
theorem isTurn_mem {x : Nat} (h : isTurn x) : decide (x ∈ [82, 76, 70, 66]) = true := by
  rcases h with h | h | h | h <;> (rw [h]; decide)
theorem rule_ok {x y : Nat} (hx : isTurn x) (hy : isTurn y) : f_is_rule [.str [x, y]] n k = .ok (.bl true, n, k) := by
  refine runR (s := ⟨[.val (.str [x, y]), .un], n, k, false⟩) (qRet (eAnd (aT (eIsi (eVar rfl) rfl) rfl (aT (eCmp (eB1 (eVar rfl) rfl) eInt rfl) rfl (aEnd (eB1 (eLc (iSeqE (eVar rfl) rfl)
      (lc_map (fun c => .str [c]) (fun y => .bl (decide (y ∈ [82, 76, 70, 66]))) (fun z => ⟨[.val (.str [x, y]), .val (.str [z])], n, k, true⟩) [x, y] [] fun z hz => ⟨rfl, _, eCmp (eVar rfl) eStr rfl, rfl, rfl⟩)) ?_))))))
  show Res.ok (D.bl ([decide (x ∈ [82, 76, 70, 66]), decide (y ∈ [82, 76, 70, 66])].all id)) = _
  rw [isTurn_mem hx, isTurn_mem hy]
  rfl
theorem cell_ok {b : List Tx} {R C r c : Nat} (h : Bd b R C) (z : Sz R C) (hr : r < R) (hc : c < C) : f_is_cell_of [dB b, dC r c] n k = .ok (.bl true, n, k) := by
  refine runR (s := ⟨[.val (dB b), .val (dC r c)], n, k, false⟩) (qIfF (eOr (oF (eNot (eIsi (eVar rfl) rfl) rfl) rfl (oEnd (eCmp (eB1 (eVar rfl) rfl) eInt rfl)))) rfl qNil (qRet ?_))
  refine eAnd (aT (eCall (sCons (eIx (eVar rfl) eInt rfl) (sCons eInt (sCons (eBin (eB1 (eVar rfl) (lenB h)) eInt rfl) sNil))) (whole_int _ _ _)) ?_
    (aEnd (eCall (sCons (eIx (eVar rfl) eInt rfl) (sCons eInt (sCons (eBin (eB1 (eIx (eVar rfl) eInt (ixB0 h z.r1)) (lenT (h.row0 z.r1))) eInt rfl) sNil))) ?_)))
  · simp
    omega
  · rw [whole_int]
    congr 3
    simp
    omega
theorem state_ok {b : List Tx} {R C r c l : Nat} (h : Bd b R C) (z : Sz R C) (hr : r < R) (hc : c < C) (hl : l < 4) : f_is_state [dS b r c l] n k = .ok (.bl true, n, k) := by
  refine runR (s := ⟨[.val (dS b r c l)], n, k, false⟩) (qIfF (eOr (oF (eNot (eIsi (eVar rfl) rfl) rfl) rfl (oF (eCmp (eB1 (eVar rfl) rfl) eInt rfl) rfl (oEnd (eNot (eCall (sCons (eIx (eVar rfl) eInt rfl) sNil) (board_ok h z)) rfl))))) rfl qNil (qRet ?_))
  refine eAnd (aT (eCall (sCons (eIx (eVar rfl) eInt rfl) (sCons (eIx (eVar rfl) eInt rfl) sNil)) (cell_ok h z hr hc)) rfl (aEnd (eCall (sCons (eIx (eVar rfl) eInt rfl) (sCons eInt (sCons eInt sNil))) ?_)))
  rw [whole_int]
  congr 3
  simp
  omega
theorem nboard_ok {b : List Tx} {R C : Nat} (h : Bd b R C) (z : Sz R C) : f_need_board [dB b] n k = .ok (.non, n, k) :=
  runN (s := ⟨[.val (dB b)], n, k, false⟩) (qIfF (eNot (eCall (sCons (eVar rfl) sNil) (board_ok h z)) rfl) rfl qNil qNil)
theorem nrule_ok {x y : Nat} (hx : isTurn x) (hy : isTurn y) : f_need_rule [.str [x, y]] n k = .ok (.non, n, k) :=
  runN (s := ⟨[.val (.str [x, y])], n, k, false⟩) (qIfF (eNot (eCall (sCons (eVar rfl) sNil) (rule_ok hx hy)) rfl) rfl qNil qNil)
theorem nstate_ok {b : List Tx} {R C r c l : Nat} (h : Bd b R C) (z : Sz R C) (hr : r < R) (hc : c < C) (hl : l < 4) : f_need_state [dS b r c l] n k = .ok (.non, n, k) :=
  runN (s := ⟨[.val (dS b r c l)], n, k, false⟩) (qIfF (eNot (eCall (sCons (eVar rfl) sNil) (state_ok h z hr hc hl)) rfl) rfl qNil qNil)
theorem nboth_ok {x y : Nat} {b : List Tx} {R C r c l : Nat} (hx : isTurn x) (hy : isTurn y) (h : Bd b R C) (z : Sz R C) (hr : r < R) (hc : c < C) (hl : l < 4) : f_need_both [.str [x, y], dS b r c l] n k = .ok (.non, n, k) :=
  runN (s := ⟨[.val (.str [x, y]), .val (dS b r c l)], n, k, false⟩) (qExpr (eCall (sCons (eVar rfl) sNil) (nrule_ok hx hy)) (qExpr (eCall (sCons (eVar rfl) sNil) (nstate_ok h z hr hc hl)) qNil))
/-! ### the walk -/
def dnI : Nat → Int
  | 0 => -1
  | 1 => 0
  | 2 => 1
  | _ => 0
def rtI : Nat → Int
  | 0 => 0
  | 1 => 1
  | 2 => 0
  | _ => -1
def mv (R r : Nat) (d : Int) : Nat := (((r : Int) + d) % (R : Int)).toNat
theorem mv_int {R r : Nat} {d : Int} (h : 1 ≤ R) : ((mv R r d : Nat) : Int) = ((r : Int) + d) % (R : Int) := Int.toNat_of_nonneg (Int.emod_nonneg _ (by omega))
theorem mv_lt {R r : Nat} {d : Int} (h : 1 ≤ R) : mv R r d < R := by
  have h1 := mv_int (r := r) (d := d) h
  have h2 := Int.emod_lt_of_pos ((r : Int) + d) (show (0 : Int) < R by omega)
  omega
theorem dirs {s : S} {l : Nat} (hl : l < 4) : ixS s (.lst [.tup [.int (-1), .int 0], .tup [.int 0, .int 1], .tup [.int 1, .int 0], .tup [.int 0, .int (-1)]]) (.int l) = .ok (.tup [.int (dnI l), .int (rtI l)]) := by
  match l, hl with
  | 0, _ => rfl
  | 1, _ => rfl
  | 2, _ => rfl
  | 3, _ => rfl
theorem next_ok {b : List Tx} {R C r c l : Nat} (h : Bd b R C) (z : Sz R C) (hl : l < 4) : f_next_cell [dB b, dC r c, .int l] n k = .ok (dC (mv R r (dnI l)) (mv C c (rtI l)), n, k) := by
  refine runR (s := ⟨[.val (dB b), .val (dC r c), .val (.int l), .val (.int (dnI l)), .val (.int (rtI l))], n, k, false⟩) (qAsg (eIx (eLst (sCons (eTup (sCons (eNeg eInt) (sCons eInt sNil)) (by decide)) (sCons (eTup (sCons eInt (sCons eInt sNil)) (by decide)) (sCons (eTup (sCons eInt (sCons eInt sNil)) (by decide)) (sCons (eTup (sCons eInt (sCons (eNeg eInt) sNil)) (by decide)) sNil)))) (by decide)) (eVar rfl) (dirs hl)) rfl (qRet ?_))
  have e1 := mv_int (r := r) (d := dnI l) z.r1
  have e2 := mv_int (r := c) (d := rtI l) z.c1
  have r1 := z.r1
  have c1 := z.c1
  show _ = Res.ok (D.tup [.int _, .int _], _)
  rw [e1, e2]
  exact eTup (sCons (eBin (eBin (eIx (eVar rfl) eInt rfl) (eVar rfl) rfl) (eB1 (eVar rfl) (lenB h)) (modS (by omega))) (sCons (eBin (eBin (eIx (eVar rfl) eInt rfl) (eVar rfl) rfl) (eB1 (eIx (eVar rfl) eInt (ixB0 h z.r1)) (lenT (h.row0 z.r1))) (modS (by omega))) sNil)) (show 2 ≤ SL by decide)
theorem cut_take {α : Type} {l : List α} {r : Nat} (h : r ≤ l.length) : cut l none (some (r : Int)) = l.take r := by
  unfold cut six
  simp only [List.drop_zero, Nat.sub_zero]
  rw [if_neg (by omega), Int.toNat_natCast, Nat.min_eq_left h]
theorem cut_drop {α : Type} {l : List α} {r : Nat} (h : r ≤ l.length) : cut l (some (r : Int)) none = l.drop r := by
  unfold cut six
  simp only []
  rw [if_neg (by omega), Int.toNat_natCast, Nat.min_eq_left h]
  exact List.take_of_length_le (by rw [List.length_drop]; omega)
def fl (x : Nat) : Nat := if x = 46 then 35 else 46
def at_ (b : List Tx) (r c : Nat) : Nat := (b.getD r []).getD c 0
def flipB (b : List Tx) (r c : Nat) : List Tx := b.set r ((b.getD r []).set c (fl (at_ b r c)))
theorem set_cut {α : Type} {l : List α} {i : Nat} {a : α} (h : i < l.length) : l.take i ++ [a] ++ l.drop (i + 1) = l.set i a := by
  rw [List.set_eq_take_append_cons_drop, if_pos h]
  simp
theorem sgn_eq {x y : Nat} : cmpD .eq (.str [x]) (.str [y]) = .ok (.bl (decide (x = y))) := by
  show Res.ok (D.bl ([x] == [y])) = _
  congr 2
  by_cases h : x = y <;> simp [h]
theorem addT {a b : Tx} (h : a.length + b.length ≤ 1000) : binD .add (.str a) (.str b) = .ok (.str (a ++ b)) := by
  unfold binD
  dsimp only
  rw [if_pos (Nat.le_trans h (by decide))]
theorem addU {a b : List D} (h : a.length + b.length ≤ 1000) : binD .add (.tup a) (.tup b) = .ok (.tup (a ++ b)) := by
  unfold binD
  dsimp only
  rw [if_pos (Nat.le_trans h (by decide))]
theorem flip_ok {b : List Tx} {R C r c : Nat} (h : Bd b R C) (z : Sz R C) (hr : r < R) (hc : c < C) : f_flipped [dB b, dC r c] n k = .ok (dB (flipB b r c), n, k) := by
  obtain ⟨x, h1, h2, h3, h4⟩ := h.get hr
  have hcx : c < x.length := by omega
  have hC := z.c4
  have hR := z.r3
  have hbl := h.rows
  have hat : at_ b r c = x.getD c 0 := by unfold at_; rw [h2]
  have s3 : ∀ s : S, s.get 2 = .val (.str x) → s.get 5 = .val (.int c) → ev (.ife (.cmp .eq (.ix (.var 2) (.var 5)) (.str [46])) (.str [35]) (.str [46])) s = .ok (.str [fl (at_ b r c)], s) := fun s g2 g5 => by
    have e := eCmp (co := .eq) (eIx (eVar g2) (eVar g5) (ixT hcx)) (eStr (l := [46])) sgn_eq
    rw [hat]
    unfold fl
    by_cases q : x.getD c 0 = 46
    · rw [if_pos q]
      exact eIfT e (decide_eq_true q) eStr
    · rw [if_neg q]
      exact eIfF e (decide_eq_false q) eStr
  have ix1 : ∀ s : S, ixS s (dB b) (.int r) = .ok (.str x) := fun s => by rw [ixB h hr, h2]
  refine (runR (s := ⟨[.val (dB b), .val (dC r c), .val (.str x), .val (.str [fl (at_ b r c)]), .val (.int r), .val (.int c)], n, k, false⟩) (d := .tup ((b.map D.str).take r ++ [.str (x.take c ++ [fl (at_ b r c)] ++ x.drop (c + 1))] ++ (b.map D.str).drop (r + 1)))
    (qAsg (eVar rfl) rfl (qSet (eIx (eVar rfl) (eVar rfl) (ix1 _)) (qSet (s3 _ rfl rfl) (qRet ?_))))).trans ?_
  · refine eBin (eBin (eSl (eVar rfl) oNone (oSome (eVar rfl)) (z := .tup ((b.map D.str).take r)) ?_) (eTup (sCons (eBin (eBin (eSl (eVar rfl) oNone (oSome (eVar rfl)) (z := .str (x.take c)) ?_) (eVar rfl) (addT ?_)) (eSl (eVar rfl) (oSome (eBin (eVar rfl) eInt rfl)) oNone (z := .str (x.drop (c + 1))) ?_) (addT ?_)) sNil) (show 1 ≤ SL by decide)) (addU ?_)) (eSl (eVar rfl) (oSome (eBin (eVar rfl) eInt rfl)) oNone (z := .tup ((b.map D.str).drop (r + 1))) ?_) (addU ?_)
    · show Res.ok (D.tup (cut (b.map D.str) none (some (r : Int)))) = _
      rw [cut_take (by rw [List.length_map]; omega)]
    · show Res.ok (D.str (cut x none (some (c : Int)))) = _
      rw [cut_take (by omega)]
    · simp
      omega
    · show Res.ok (D.str (cut x (some ((c + 1 : Nat) : Int)) none)) = _
      rw [cut_drop (by omega)]
    · simp
      omega
    · simp
      omega
    · show Res.ok (D.tup (cut (b.map D.str) (some ((r + 1 : Nat) : Int)) none)) = _
      rw [cut_drop (by rw [List.length_map]; omega)]
    · simp
      omega
  · congr 2
    unfold flipB dB
    rw [h2, set_cut hcx, set_cut (by rw [List.length_map]; omega), List.map_set]
theorem black_ok {b : List Tx} {R C r c : Nat} (h : Bd b R C) (hr : r < R) (hc : c < C) : f_is_black [dB b, dC r c] n k = .ok (.bl (decide (at_ b r c = 35)), n, k) := by
  obtain ⟨x, h1, h2, h3, h4⟩ := h.get hr
  have hcx : c < x.length := by omega
  have ix1 : ∀ s : S, ixS s (dB b) (.int r) = .ok (.str x) := fun s => by rw [ixB h hr, h2]
  have hat : at_ b r c = x.getD c 0 := by unfold at_; rw [h2]
  rw [hat]
  exact runR (s := ⟨[.val (dB b), .val (dC r c)], n, k, false⟩) (qRet (eCmp (eIx (eIx (eVar rfl) (eIx (eVar rfl) eInt rfl) (ix1 _)) (eIx (eVar rfl) eInt rfl) (ixT hcx)) eStr sgn_eq))
def trn (x y : Nat) (b : List Tx) (r c : Nat) : Nat := if at_ b r c = 35 then y else x
theorem turn_ok {x y : Nat} {b : List Tx} {R C r c l : Nat} (h : Bd b R C) (hr : r < R) (hc : c < C) : f_turn_at [.str [x, y], dS b r c l] n k = .ok (.str [trn x y b r c], n, k) := by
  have e : ∀ s : S, s.get 1 = .val (dS b r c l) → ev (.call 18 f_is_black (.cons (.ix (.var 1) (.int 0)) (.cons (.ix (.var 1) (.int 1)) .nil))) s = .ok (.bl (decide (at_ b r c = 35)), s) := fun s g => eCall (sCons (eIx (eVar g) eInt rfl) (sCons (eIx (eVar g) eInt rfl) sNil)) (black_ok h hr hc)
  unfold trn
  by_cases q : at_ b r c = 35
  · rw [if_pos q]
    exact runR (s := ⟨[.val (.str [x, y]), .val (dS b r c l)], n, k, false⟩) (qRet (eIfT (e _ rfl) (decide_eq_true q) (eIx (eVar rfl) eInt rfl)))
  · rw [if_neg q]
    exact runR (s := ⟨[.val (.str [x, y]), .val (dS b r c l)], n, k, false⟩) (qRet (eIfF (e _ rfl) (decide_eq_false q) (eIx (eVar rfl) eInt rfl)))
def qt (x : Nat) : Nat := if x = 82 then 1 else if x = 76 then 3 else if x = 70 then 0 else 2
theorem qt_ok {x : Nat} (h : isTurn x) : tabGet t_QUARTERS [x] = some (.int (qt x)) := by
  rcases h with h | h | h | h <;> (rw [h]; rfl)
theorem qt_lt (x : Nat) : qt x < 4 := by
  unfold qt
  repeat' split
  all_goals omega
theorem trn_turn {x y : Nat} {b : List Tx} {r c : Nat} (hx : isTurn x) (hy : isTurn y) : isTurn (trn x y b r c) := by
  unfold trn
  split
  · exact hy
  · exact hx
theorem fl_sgn {y : Nat} (h : y = 46 ∨ y = 35) : fl y = 46 ∨ fl y = 35 := by
  rcases h with h | h <;> (rw [h]; decide)
theorem flipB_bd {b : List Tx} {R C r c : Nat} (h : Bd b R C) (hr : r < R) (hc : c < C) : Bd (flipB b r c) R C := by
  obtain ⟨x, h1, h2, h3, h4⟩ := h.get hr
  unfold flipB at_
  rw [h2]
  refine ⟨by rw [List.length_set, h.rows], fun w hw => ?_, fun w hw y hy => ?_⟩
  · rcases List.mem_or_eq_of_mem_set hw with q | q
    · exact h.cols w q
    · rw [q, List.length_set, h3]
  · rcases List.mem_or_eq_of_mem_set hw with q | q
    · exact h.sgn w q y hy
    · rw [q] at hy
      rcases List.mem_or_eq_of_mem_set hy with q2 | q2
      · exact h4 y q2
      · rw [q2]
        exact fl_sgn (h4 _ (by
          rw [List.getD, List.getElem?_eq_getElem (show c < x.length by omega)]
          exact List.getElem_mem _))
/-- a state of the walk -/
structure Ws where
  b : List Tx
  r : Nat
  c : Nat
  l : Nat
abbrev dW (w : Ws) : D := dS w.b w.r w.c w.l
structure Gd (w : Ws) (R C : Nat) : Prop where
  bd : Bd w.b R C
  sz : Sz R C
  hr : w.r < R
  hc : w.c < C
  hl : w.l < 4
def stp (x y R C : Nat) (w : Ws) : Ws :=
  ⟨flipB w.b w.r w.c, mv R w.r (dnI ((w.l + qt (trn x y w.b w.r w.c)) % 4)), mv C w.c (rtI ((w.l + qt (trn x y w.b w.r w.c)) % 4)), (w.l + qt (trn x y w.b w.r w.c)) % 4⟩
theorem stp_gd {x y R C : Nat} {w : Ws} (g : Gd w R C) : Gd (stp x y R C w) R C :=
  ⟨flipB_bd g.bd g.hr g.hc, g.sz, mv_lt g.sz.r1, mv_lt g.sz.c1, Nat.mod_lt _ (by decide)⟩
theorem stepped_ok {x y R C : Nat} {w : Ws} (hx : isTurn x) (hy : isTurn y) (g : Gd w R C) : f_stepped [.str [x, y], dW w] n k = .ok (dW (stp x y R C w), n, k) := by
  have hl' : (w.l + qt (trn x y w.b w.r w.c)) % 4 < 4 := Nat.mod_lt _ (by decide)
  have fb := flipB_bd g.bd g.hr g.hc
  refine runR (s := ⟨[.val (.str [x, y]), .val (dW w), .val (.int ((w.l + qt (trn x y w.b w.r w.c)) % 4 : Nat)), .val (dB (flipB w.b w.r w.c)), .val (dB w.b), .val (dC w.r w.c)], n, k, false⟩)
    (qAsg (eVar rfl) rfl (qSet (eBin (eBin (eVar rfl) (eIxg (eCall (sCons (eVar rfl) (sCons (eVar rfl) sNil)) (turn_ok g.bd g.hr g.hc)) (qt_ok (trn_turn hx hy))) rfl) eInt (modS (by decide))) (qSet (eCall (sCons (eVar rfl) (sCons (eVar rfl) sNil)) (flip_ok g.bd g.sz g.hr g.hc)) (qRet (eTup (sCons (eVar rfl) (sCons (eCall (sCons (eVar rfl) (sCons (eVar rfl) (sCons (eVar rfl) sNil))) (next_ok fb g.sz hl')) (sCons (eVar rfl) sNil))) (show 3 ≤ SL by decide))))))
theorem step_ok {x y R C : Nat} {w : Ws} (hx : isTurn x) (hy : isTurn y) (g : Gd w R C) : f_step [.str [x, y], dW w] n k = .ok (dW (stp x y R C w), n, k) :=
  runR (s := ⟨[.val (.str [x, y]), .val (dW w)], n, k, false⟩) (qExpr (eCall (sCons (eVar rfl) (sCons (eVar rfl) sNil)) (nboth_ok hx hy g.bd g.sz g.hr g.hc g.hl)) (qRet (eCall (sCons (eVar rfl) (sCons (eVar rfl) sNil)) (stepped_ok hx hy g))))
/-! ### the dice -/
theorem mulC {i j : Int} (h1 : -10000000000000000000 < j) (h2 : j < 10000000000000000000) : binD .mul (.int i) (.int j) = .ok (.int (i * j)) := by
  unfold binD
  dsimp only
  rw [if_pos]
  left
  right
  constructor
  · show -18446744073709551616 < j
    omega
  · show j < 18446744073709551616
    omega
theorem lim : (10000000000000000000000000000000000000000000000000000000000000000000000000000000000000000 : Nat) ≤ 2 ^ 400 := by decide
theorem mulB {i j : Int} (h1 : 0 ≤ i) (h2 : i < 10000000000000000000000000000000000000000000000000000000000000000000000000000000000000000) (h3 : 0 ≤ j) (h4 : j < 10000000000000000000000000000000000000000000000000000000000000000000000000000000000000000) : binD .mul (.int i) (.int j) = .ok (.int (i * j)) := by
  unfold binD
  dsimp only
  rw [if_pos]
  right
  exact ⟨Nat.lt_of_lt_of_le (by omega) lim, Nat.lt_of_lt_of_le (by omega) lim⟩
theorem divS {i j : Int} (h : 0 < j) (h2 : j < 10000000000000000000000000000000000000000000000000000000000000000000000000000000000000000) : binD .fdiv (.int i) (.int j) = .ok (.int (i / j)) := by
  unfold binD
  dsimp only
  rw [if_pos]
  exact ⟨h, Nat.lt_of_lt_of_le (by omega) lim⟩
theorem drawn_ok (c m : Int) : ∃ v : Int, f_law_drawn [.int c, .int m] n k = .ok (.int v, n, k) := by
  generalize h1 : (c * 6364136223846793005 + (m + 1) * 1442695040888963407) % 340282366920938463463374607431768211507 = a1
  have b1 : 0 ≤ a1 ∧ a1 < 340282366920938463463374607431768211507 := by
    rw [← h1]
    exact ⟨Int.emod_nonneg _ (by decide), Int.emod_lt_of_pos _ (by decide)⟩
  generalize h2 : a1 * a1 % 340282366920938463463374607431768211297 = a2
  have b2 : 0 ≤ a2 ∧ a2 < 340282366920938463463374607431768211297 := by
    rw [← h2]
    exact ⟨Int.emod_nonneg _ (by decide), Int.emod_lt_of_pos _ (by decide)⟩
  have b3 : 0 ≤ a2 % 18446744073709551557 ∧ a2 % 18446744073709551557 < 18446744073709551557 := ⟨Int.emod_nonneg _ (by decide), Int.emod_lt_of_pos _ (by decide)⟩
  have b4 : 0 ≤ a2 / 18446744073709551557 ∧ a2 / 18446744073709551557 ≤ a2 := ⟨Int.ediv_nonneg b2.1 (by decide), Int.ediv_le_self _ b2.1⟩
  generalize e3 : a2 % 18446744073709551557 = a3
  rw [e3] at b3
  generalize e4 : a2 / 18446744073709551557 = a4 at b4
  have b5 : 0 ≤ (a3 + 1) * (a4 + 1) := Int.mul_nonneg (by omega) (by omega)
  have b6 : (a3 + 1) * (a4 + 1) ≤ 18446744073709551557 * 340282366920938463463374607431768211297 := Int.mul_le_mul (by omega) (by omega) (by omega) (by decide)
  refine ⟨((a3 + 1) * (a4 + 1) * a2) % 340282366920938463463374607431768211507, runR (s := ⟨[.val (.int c), .val (.int m), .val (.int ((a3 + 1) * (a4 + 1) * a2))], n, k, false⟩)
    (qSet (x := .int a1) (s1 := ⟨[.val (.int c), .val (.int m), .un], n, k, false⟩) ?_ (qSet (x := .int a2) (s1 := ⟨[.val (.int c), .val (.int m), .val (.int a1)], n, k, false⟩) ?_ (qSet (x := .int ((a3 + 1) * (a4 + 1) * a2)) (s1 := ⟨[.val (.int c), .val (.int m), .val (.int a2)], n, k, false⟩) ?_ (qRet (eBin (eVar rfl) eInt (modS (by decide)))))))⟩
  · rw [← h1]
    exact eBin (eBin (eBin (eVar rfl) eInt (mulC (by decide) (by decide))) (eBin (eBin (eVar rfl) eInt rfl) eInt (mulC (by decide) (by decide))) rfl) eInt (modS (by decide))
  · rw [← h2]
    exact eBin (eBin (eVar rfl) (eVar rfl) (mulB (by omega) (by omega) (by omega) (by omega))) eInt (modS (by decide))
  · exact eBin (eBin (eBin (eBin (eVar rfl) eInt (z := .int a3) (by rw [modS (by decide), e3])) eInt rfl) (eBin (eBin (eVar rfl) eInt (z := .int a4) (by rw [divS (by decide) (by decide), e4])) eInt rfl) (mulB (by omega) (by omega) (by omega) (by omega))) (eVar rfl) (mulB b5 (by omega) (by omega) (by omega))
theorem ten18 : binD .pow (.int 10) (.int 18) = .ok (.int 1000000000000000000) := rfl
theorem roll_ok {m : Nat} (h1 : 1 ≤ m) (h2 : m ≤ 1000) : ∃ (v : Nat) (n' k' : Int), v < m ∧ f_law_roll [.dice, .int m] n k = .ok (.int (v : Nat), n', k') := by
  have key : ∀ i : Int, ((i % (m : Int)).toNat : Int) = i % (m : Int) ∧ (i % (m : Int)).toNat < m := fun i => by
    have q1 := Int.emod_nonneg i (show (m : Int) ≠ 0 by omega)
    have q2 := Int.emod_lt_of_pos i (show (0 : Int) < m by omega)
    have q3 := Int.toNat_of_nonneg q1
    exact ⟨q3, by omega⟩
  by_cases h : 1000000000000000000 ≤ n
  · obtain ⟨q1, q2⟩ := key n
    refine ⟨(n % (m : Int)).toNat, n / (m : Int), k, q2, ?_⟩
    rw [q1]
    exact runR (s := ⟨[.val .dice, .val (.int m), .val (.int (n % (m : Int)))], n / (m : Int), k, false⟩) (qIfTR (eCmp (eIx (eVar rfl) eInt rfl) (eBin eInt eInt ten18) rfl) (decide_eq_true h)
      (qSet (eBin (eIx (eVar rfl) eInt rfl) (eVar rfl) (modS (by omega))) (qDset0 (eBin (eIx (eVar rfl) eInt rfl) (eVar rfl) (divS (by omega) (by omega))) rfl (qRet (eVar rfl)))))
  · obtain ⟨v, hv⟩ := drawn_ok (n := n) (k := k + 1) n (k + 1)
    obtain ⟨q1, q2⟩ := key (v / 8)
    refine ⟨(v / 8 % (m : Int)).toNat, n, k + 1, q2, ?_⟩
    rw [q1]
    exact runR (s := ⟨[.val .dice, .val (.int m), .un], n, k + 1, false⟩) (qIfF (eCmp (eIx (eVar rfl) eInt rfl) (eBin eInt eInt ten18) rfl) (decide_eq_false h) qNil
      (qDset1 (eBin (eIx (eVar rfl) eInt rfl) eInt rfl) rfl (qRet (eBin (eBin (eCall (sCons (eIx (eVar rfl) eInt rfl) (sCons (eIx (eVar rfl) eInt rfl) sNil)) hv) eInt (divS (by decide) (by decide))) (eVar rfl) (modS (by omega))))))
theorem strAt {s : S} {l : Tx} {i : Nat} {x : Nat} (h : l[i]? = some x) : ixS s (.str l) (.int i) = .ok (.str [x]) := by
  show (match ati l (i : Int) with | some d => Res.ok (D.str [d]) | none => .stuck) = _
  rw [ati_nat h]
theorem turn_at4 {i : Nat} (h : i < 4) : ∃ x, ([82, 76, 70, 66] : Tx)[i]? = some x ∧ isTurn x := by
  match i, h with
  | 0, _ => exact ⟨82, rfl, .inl rfl⟩
  | 1, _ => exact ⟨76, rfl, .inr (.inl rfl)⟩
  | 2, _ => exact ⟨70, rfl, .inr (.inr (.inl rfl))⟩
  | 3, _ => exact ⟨66, rfl, .inr (.inr (.inr rfl))⟩
theorem sgn_at2 {i : Nat} (h : i < 2) : ∃ x, ([46, 35] : Tx)[i]? = some x ∧ (x = 46 ∨ x = 35) := by
  match i, h with
  | 0, _ => exact ⟨46, rfl, .inl rfl⟩
  | 1, _ => exact ⟨35, rfl, .inr rfl⟩
theorem int_eq {i j : Int} : cmpD .eq (.int i) (.int j) = .ok (.bl (decide (i = j))) := by
  show Res.ok (D.bl (i == j)) = _
  congr 2
theorem int_ne {i j : Int} : cmpD .ne (.int i) (.int j) = .ok (.bl (decide (i ≠ j))) := by
  show Res.ok (D.bl (!(i == j))) = _
  congr 2
  by_cases h : i = j <;> simp [h]
theorem anyrule_ok : ∃ (x y : Nat) (n' k' : Int), isTurn x ∧ isTurn y ∧ f_law_any_rule [.dice] n k = .ok (.str [x, y], n', k') := by
  obtain ⟨v1, n1, k1, h1, e1⟩ := roll_ok (n := n) (k := k) (m := 3) (by decide) (by decide)
  by_cases q : (v1 : Int) = 0
  · obtain ⟨v2, n2, k2, h2, e2⟩ := roll_ok (n := n1) (k := k1) (m := 2) (by decide) (by decide)
    have t1 := eCmp (co := .eq) (s := ⟨[.val .dice], n, k, false⟩) (eCall (f := 55) (sCons (eVar (i := 0) rfl) (sCons (eInt (i := 3)) sNil)) e1) (eInt (i := 0)) int_eq
    match v2, h2 with
    | 0, _ => exact ⟨82, 76, n2, k2, .inl rfl, .inr (.inl rfl), runR (s := ⟨[.val .dice], n2, k2, false⟩) (qIfTR t1 (decide_eq_true q) (qRet (eIx (eLst (sCons eStr (sCons eStr sNil)) (show 2 ≤ SL by decide)) (eCall (sCons (eVar rfl) (sCons eInt sNil)) e2) rfl)))⟩
    | 1, _ => exact ⟨76, 82, n2, k2, .inr (.inl rfl), .inl rfl, runR (s := ⟨[.val .dice], n2, k2, false⟩) (qIfTR t1 (decide_eq_true q) (qRet (eIx (eLst (sCons eStr (sCons eStr sNil)) (show 2 ≤ SL by decide)) (eCall (sCons (eVar rfl) (sCons eInt sNil)) e2) rfl)))⟩
  · obtain ⟨v2, n2, k2, h2, e2⟩ := roll_ok (n := n1) (k := k1) (m := 4) (by decide) (by decide)
    obtain ⟨v3, n3, k3, h3, e3⟩ := roll_ok (n := n2) (k := k2) (m := 4) (by decide) (by decide)
    obtain ⟨x, hx, tx⟩ := turn_at4 h2
    obtain ⟨y, hy, ty⟩ := turn_at4 h3
    have t1 := eCmp (co := .eq) (s := ⟨[.val .dice], n, k, false⟩) (eCall (f := 55) (sCons (eVar (i := 0) rfl) (sCons (eInt (i := 3)) sNil)) e1) (eInt (i := 0)) int_eq
    exact ⟨x, y, n3, k3, tx, ty, runR (s := ⟨[.val .dice], n3, k3, false⟩) (qIfF t1 (decide_eq_false q) qNil (qRet (eBin (eIx eStr (eCall (sCons (eVar rfl) (sCons eInt sNil)) e2) (strAt hx)) (eIx eStr (eCall (sCons (eVar rfl) (sCons eInt sNil)) e3) (strAt hy)) rfl)))⟩
/-! a board -/
abbrev wT : E := .cmp .gt (.bin .mul (.var 4) (.var 5)) (.var 1)
abbrev wB : Ss := .cons (.asg (.tup (.cons (.nm 4) (.cons (.nm 5) .nil))) (.ife (.cmp .ge (.var 4) (.var 5)) (.tup (.cons (.bin .sub (.var 4) (.int 1)) (.cons (.var 5) .nil))) (.tup (.cons (.var 4) (.cons (.bin .sub (.var 5) (.int 1)) .nil))))) .nil
abbrev sAB (Z : Nat) (a : Sl) (b : Sl) (r c : Nat) (n k : Int) : S := ⟨[.val .dice, .val (.int Z), a, b, .val (.int r), .val (.int c), .un], n, k, false⟩
theorem wh_board {Z : Nat} (hZ : 1 ≤ Z) : ∀ (f r c : Nat), r + c < f → 1 ≤ r → 1 ≤ c → r ≤ 3 → c ≤ 4 → ∃ r' c', 1 ≤ r' ∧ 1 ≤ c' ∧ r' ≤ 3 ∧ c' ≤ 4 ∧ r' * c' ≤ Z ∧ whL (ev wT) (evSs wB) f (sAB Z .un .un r c n k) = .nx (sAB Z .un .un r' c' n k)
  | 0, _, _, h, _, _, _, _ => by omega
  | f + 1, r, c, h, h1, h2, h3, h4 => by
    have t0 : ev wT (sAB Z .un .un r c n k) = .ok (.bl (decide ((Z : Int) < (r : Int) * c)), sAB Z .un .un r c n k) := eCmp (eBin (eVar rfl) (eVar rfl) (mulS (by omega) (by omega))) (eVar rfl) rfl
    by_cases q : (Z : Int) < (r : Int) * c
    · rw [decide_eq_true q] at t0
      have g0 : ev (.cmp .ge (.var 4) (.var 5)) (sAB Z .un .un r c n k) = .ok (.bl (decide ((c : Int) ≤ r)), sAB Z .un .un r c n k) := eCmp (eVar rfl) (eVar rfl) rfl
      by_cases g : (c : Int) ≤ r
      · have hr : 2 ≤ r := by
          rcases Nat.lt_or_ge r 2 with z | z
          · exfalso
            have e1 : r = 1 := by omega
            have e2 : c = 1 := by omega
            rw [e1, e2] at q
            omega
          · exact z
        obtain ⟨r', c', a1, a2, a3, a4, a5, a6⟩ := wh_board hZ f (r - 1) c (by omega) (by omega) h2 (by omega) h4
        refine ⟨r', c', a1, a2, a3, a4, a5, whT t0 (s2 := sAB Z .un .un (r - 1) c n k) ?_ a6⟩
        have e : ((r : Int) - 1) = ((r - 1 : Nat) : Int) := by omega
        refine qAsg (s1 := sAB Z .un .un r c n k) (x := .tup [.int ((r - 1 : Nat) : Int), .int c]) ?_ rfl qNil
        rw [← e]
        exact eIfT g0 (decide_eq_true g) (eTup (sCons (eBin (eVar rfl) eInt rfl) (sCons (eVar rfl) sNil)) (show 2 ≤ SL by decide))
      · obtain ⟨r', c', a1, a2, a3, a4, a5, a6⟩ := wh_board hZ f r (c - 1) (by omega) h1 (by omega) h3 (by omega)
        refine ⟨r', c', a1, a2, a3, a4, a5, whT t0 (s2 := sAB Z .un .un r (c - 1) n k) ?_ a6⟩
        have e : ((c : Int) - 1) = ((c - 1 : Nat) : Int) := by omega
        refine qAsg (s1 := sAB Z .un .un r c n k) (x := .tup [.int r, .int ((c - 1 : Nat) : Int)]) ?_ rfl qNil
        rw [← e]
        exact eIfF g0 (decide_eq_false g) (eTup (sCons (eVar rfl) (sCons (eBin (eVar rfl) eInt rfl) sNil)) (show 2 ≤ SL by decide))
    · rw [decide_eq_false q] at t0
      refine ⟨r, c, h1, h2, h3, h4, ?_, whF t0⟩
      have e : (r : Int) * c = ((r * c : Nat) : Int) := by rw [Int.natCast_mul]
      rw [e] at q
      omega
abbrev rollS : E := .ix (.str [46, 35]) (.call 55 f_law_roll (.cons (.var 0) (.cons (.int 2) .nil)))
theorem lc_signs {b : S} (h0 : ∀ x : Sl, ((wipeL b.env [6]).set 6 x).getD 0 .un = .val .dice) : ∀ (l : List D) (n k : Int) (acc : List D), ∃ (g : Tx) (n' k' : Int), g.length = l.length ∧ (∀ y ∈ g, y = 46 ∨ y = 35) ∧
    lcL (.nm 6) (fun t => .ok (.bl true, t)) (ev rollS) b l n k acc = .ok (acc ++ g.map (fun c => .str [c]), n', k')
  | [], n, k, acc => ⟨[], n, k, rfl, by simp, by show Res.ok (acc, n, k) = _; simp⟩
  | d :: l, n, k, acc => by
    obtain ⟨v, n1, k1, hv, e1⟩ := roll_ok (n := n) (k := k) (m := 2) (by decide) (by decide)
    obtain ⟨x, hx, sx⟩ := sgn_at2 hv
    obtain ⟨g, n2, k2, hg, sg, e2⟩ := lc_signs h0 l n1 k1 (acc ++ [.str [x]])
    refine ⟨x :: g, n2, k2, by simp [hg], fun y hy => ?_, ?_⟩
    · rcases List.mem_cons.mp hy with q | q
      · rw [q]; exact sx
      · exact sg y q
    · show (match bindT (.nm 6) d ⟨wipeL b.env [6], n, k, true⟩ with | none => Res.stuck | some s1 => _) = _
      have ex : ev rollS ⟨(wipeL b.env [6]).set 6 (.val d), n, k, true⟩ = .ok (.str [x], ⟨(wipeL b.env [6]).set 6 (.val d), n1, k1, true⟩) := eIx eStr (eCall (sCons (eVar (s := ⟨(wipeL b.env [6]).set 6 (.val d), n, k, true⟩) (i := 0) (h0 (.val d))) (sCons eInt sNil)) e1) (strAt hx)
      show ((ev rollS ⟨(wipeL b.env [6]).set 6 (.val d), n, k, true⟩).nox.bind fun (y, s3) => lcL (.nm 6) _ (ev rollS) b l s3.dn s3.dk (acc ++ [y])) = _
      rw [ex]
      show lcL (.nm 6) _ (ev rollS) b l n1 k1 (acc ++ [.str [x]]) = _
      rw [e2]
      simp
theorem strs_map : ∀ xs : List Tx, strsD (xs.map D.str) = some xs
  | [] => rfl
  | x :: xs => by
    show (strsD (xs.map D.str)).map (x :: ·) = _
    rw [strs_map xs]
    rfl
theorem join_one : ∀ g : Tx, joinT [] (g.map fun c => [c]) = g
  | [] => rfl
  | [c] => rfl
  | c :: d :: g => by
    show [c] ++ [] ++ joinT [] ((d :: g).map fun c => [c]) = _
    rw [join_one (d :: g)]
    rfl
theorem join_ok {g : Tx} (h : g.length ≤ 1000) : m1D .join (.str []) (.lst (g.map fun c => .str [c])) = .ok (.str g) := by
  have e : g.map (fun c => D.str [c]) = (g.map fun c => [c]).map D.str := by rw [List.map_map] <;> rfl
  rw [e]
  show (match strsD ((g.map fun c => [c]).map D.str) with | some xs => if (xs.map List.length).sum + xs.length * ([] : Tx).length ≤ SL then Res.ok (D.str (joinT [] xs)) else .stuck | none => .stuck) = _
  rw [strs_map]
  show (if ((g.map fun c => [c]).map List.length).sum + (g.map fun c => [c]).length * ([] : Tx).length ≤ SL then Res.ok (D.str (joinT [] (g.map fun c => [c]))) else .stuck) = _
  rw [if_pos, join_one]
  have e2 : ((g.map fun c => [c]).map List.length).sum = g.length := by
    rw [List.map_map]
    clear e h
    induction g with
    | nil => rfl
    | cons a g ih => simp at ih ⊢; omega
  rw [e2]
  have : (1000 : Nat) ≤ SL := by decide
  simp
  omega
abbrev fB : Ss := .cons (.app 2 (.m1 .join (.str []) (.lc (.nm 6) (.rng (.var 5)) rollS))) .nil
theorem for_rows {Z R C : Nat} (hC : C ≤ 4) (hR : R ≤ 3) : ∀ (l : List D) (n k : Int) (b : List Tx) (u : Sl), b.length + l.length ≤ 10 → (∀ x ∈ b, x.length = C) → (∀ x ∈ b, ∀ y ∈ x, y = 46 ∨ y = 35) →
    ∃ (b' : List Tx) (u' : Sl) (n' k' : Int), b'.length = b.length + l.length ∧ (∀ x ∈ b', x.length = C) ∧ (∀ x ∈ b', ∀ y ∈ x, y = 46 ∨ y = 35) ∧
      forL (fun d s => match bindT (.nm 3) d s with | some s => evSs fB s | none => .stuck) l (sAB Z (.ol (b.map D.str)) u R C n k) = .nx (sAB Z (.ol (b'.map D.str)) u' R C n' k')
  | [], n, k, b, u, _, hc, hs => ⟨b, u, n, k, rfl, hc, hs, rfl⟩
  | d :: l, n, k, b, u, hl, hc, hs => by
    obtain ⟨g, n1, k1, hg, sg, e1⟩ := lc_signs (b := sAB Z (.ol (b.map D.str)) (.val d) R C n k) (fun x => rfl) (rngL 0 ((C : Int) - 0).toNat) n k []
    have hgl : g.length = C := by rw [hg]; simp [rngL]
    have hl' : b.length + (l.length + 1) ≤ 10 := hl
    obtain ⟨b', u', n2, k2, h1, h2, h3, e2⟩ := for_rows hC hR l n1 k1 (b ++ [g]) (.val d) (by simp; omega) (fun x hx => by
      rcases List.mem_append.mp hx with q | q
      · exact hc x q
      · rw [List.mem_singleton.mp q]; exact hgl) (fun x hx => by
      rcases List.mem_append.mp hx with q | q
      · exact hs x q
      · rw [List.mem_singleton.mp q]; exact sg)
    refine ⟨b', u', n2, k2, by rw [h1]; simp; omega, h2, h3, forC (s1 := sAB Z (.ol ((b ++ [g]).map D.str)) (.val d) R C n1 k1) ?_ e2⟩
    show evSs fB (sAB Z (.ol (b.map D.str)) (.val d) R C n k) = _
    rw [List.map_append]
    refine qApp rfl (eM1 eStr (eLc (iRng (eVar rfl) ?_) e1) (join_ok (by omega))) rfl ?_ qNil
    · show rngD (.int 0) (.int C) = _
      unfold rngD
      dsimp only
      rw [if_pos]
      have : (10 : Nat) ≤ SL := by decide
      refine ⟨by omega, by omega, by omega, by omega, by omega⟩
    · have : (10 : Nat) < SL := by decide
      rw [List.length_map]
      omega
theorem rng_ok {R : Nat} (h : R ≤ 1000000) : rngD (.int 0) (.int R) = .ok (rngL 0 R) := by
  unfold rngD
  dsimp only
  have : (1000000 : Nat) ≤ SL := by decide
  rw [if_pos ⟨by omega, by omega, by omega, by omega, by omega⟩]
  first | rfl | (congr 2; omega)
theorem anyboard_ok {Z : Nat} (hZ : 1 ≤ Z) : ∃ (b : List Tx) (R C : Nat) (n' k' : Int), Bd b R C ∧ 1 ≤ R ∧ R ≤ 3 ∧ 1 ≤ C ∧ C ≤ 4 ∧ R * C ≤ Z ∧ f_law_any_board [.dice, .int Z] n k = .ok (dB b, n', k') := by
  obtain ⟨v1, n1, k1, h1, e1⟩ := roll_ok (n := n) (k := k) (m := 3) (by decide) (by decide)
  obtain ⟨v2, n2, k2, h2, e2⟩ := roll_ok (n := n1) (k := k1) (m := 4) (by decide) (by decide)
  obtain ⟨R, C, a1, a2, a3, a4, a5, a6⟩ := wh_board (n := n2) (k := k2) hZ 20000 (1 + v1) (1 + v2) (by omega) (by omega) (by omega) (by omega) (by omega)
  obtain ⟨b, u, n3, k3, c1, c2, c3, c4⟩ := for_rows (Z := Z) (R := R) (C := C) a4 a3 (rngL 0 R) n2 k2 [] .un (by simp [rngL]; omega) (by simp) (by simp)
  refine ⟨b, R, C, n3, k3, ⟨by rw [c1]; simp [rngL], c2, c3⟩, a1, a3, a2, a4, a5, ?_⟩
  have w1 : (1 : Int) + (v1 : Int) = ((1 + v1 : Nat) : Int) := by omega
  have w2 : (1 : Int) + (v2 : Int) = ((1 + v2 : Nat) : Int) := by omega
  refine runR (s := sAB Z (.val (.lst (b.map D.str))) u R C n3 k3) (qPar (u := .val (.int ((1 + v1 : Nat) : Int))) (v := .val (.int ((1 + v2 : Nat) : Int))) (s1 := ⟨[.val .dice, .val (.int Z), .un, .un, .un, .un, .un], n1, k1, false⟩) (s3 := ⟨[.val .dice, .val (.int Z), .un, .un, .un, .un, .un], n2, k2, false⟩) ?_ ?_ (qWhil a6 (qOwn sNil (Nat.zero_le _) (qFor (iRng (eVar rfl) (rng_ok (by omega))) c4 (qRet (eB1 (eOwn rfl rfl) rfl))))))
  · rw [← w1]
    exact rEx (eBin eInt (eCall (sCons (eVar rfl) (sCons eInt sNil)) e1) rfl)
  · rw [← w2]
    exact rEx (eBin eInt (eCall (sCons (eVar rfl) (sCons eInt sNil)) e2) rfl)
theorem anystate_ok {Z : Nat} (hZ : 1 ≤ Z) : ∃ (w : Ws) (R C : Nat) (n' k' : Int), Bd w.b R C ∧ 1 ≤ R ∧ R ≤ 3 ∧ 1 ≤ C ∧ C ≤ 4 ∧ R * C ≤ Z ∧ w.r < R ∧ w.c < C ∧ w.l < 4 ∧ f_law_any_state [.dice, .int Z] n k = .ok (dW w, n', k') := by
  obtain ⟨b, R, C, n1, k1, hb, h1, h2, h3, h4, h5, e1⟩ := anyboard_ok (n := n) (k := k) hZ
  obtain ⟨v1, n2, k2, q1, e2⟩ := roll_ok (n := n1) (k := k1) (m := R) h1 (by omega)
  obtain ⟨v2, n3, k3, q2, e3⟩ := roll_ok (n := n2) (k := k2) (m := C) h3 (by omega)
  obtain ⟨v3, n4, k4, q3, e4⟩ := roll_ok (n := n3) (k := k3) (m := 4) (by decide) (by decide)
  exact ⟨⟨b, v1, v2, v3⟩, R, C, n4, k4, hb, h1, h2, h3, h4, h5, q1, q2, q3, runR (s := ⟨[.val .dice, .val (.int Z), .val (dB b)], n4, k4, false⟩) (qSet (eCall (sCons (eVar rfl) (sCons (eVar rfl) sNil)) e1) (qRet (eTup (sCons (eVar rfl) (sCons (eTup (sCons (eCall (sCons (eVar rfl) (sCons (eB1 (eVar rfl) (lenB hb)) sNil)) e2) (sCons (eCall (sCons (eVar rfl) (sCons (eB1 (eIx (eVar rfl) eInt (ixB0 hb h1)) (lenT (hb.row0 h1))) sNil)) e3) sNil)) (show 2 ≤ SL by decide)) (sCons (eCall (sCons (eVar rfl) (sCons eInt sNil)) e4) sNil))) (show 3 ≤ SL by decide))))⟩
/-! ### == -/
mutual
theorem eqv_refl : ∀ (d : D) (m : Nat), D.fit m d = true → D.eqv d d = true
  | .non, _, _ => rfl
  | .bl b, _, _ => by show (b == b) = true; simp
  | .int i, _, _ => by show (i == i) = true; simp
  | .str l, _, _ => by show (l == l) = true; simp
  | .tup l, 0, h => by cases h
  | .tup l, m + 1, h => eqvs_refl l m h
  | .lst l, 0, h => by cases h
  | .lst l, m + 1, h => eqvs_refl l m h
  | .dic _ _, 0, h => by cases h
  | .dic _ _, _ + 1, h => by cases h
  | .dice, 0, h => by cases h
  | .dice, _ + 1, h => by cases h
theorem eqvs_refl : ∀ (l : List D) (m : Nat), D.fits m l = true → D.eqvs l l = true
  | [], _, _ => rfl
  | d :: l, m, h => by
    have h1 : (D.fit m d && D.fits m l) = true := h
    rw [Bool.and_eq_true] at h1
    show (D.eqv d d && D.eqvs l l) = true
    rw [eqv_refl d m h1.1, eqvs_refl l m h1.2]
    rfl
end
theorem ne_refl {x : D} (h : x.fit 60 = true) : cmpD .ne x x = .ok (.bl false) := by
  show (if x.fit 60 && x.fit 60 then Res.ok (D.bl (!D.eqv x x)) else .stuck) = _
  rw [h, eqv_refl x 60 h]
  rfl
theorem fits_strs : ∀ (b : List Tx) (m : Nat), D.fits m (b.map D.str) = true
  | [], _ => rfl
  | x :: b, m => by
    show (D.fit m (.str x) && D.fits m (b.map D.str)) = true
    rw [fits_strs b m, Bool.and_true]
    cases m <;> rfl
theorem fit_dB (b : List Tx) (m : Nat) : (dB b).fit (m + 1) = true := fits_strs b m
theorem fit_dW (w : Ws) : (dW w).fit 60 = true := by
  show ((dB w.b).fit 59 && true) = true
  rw [fit_dB w.b 58]
  rfl
/-! ### back -/
theorem fl_fl {y : Nat} (h : y = 46 ∨ y = 35) : fl (fl y) = y := by
  rcases h with h | h <;> (rw [h]; decide)
theorem row_flip {b : List Tx} {r c : Nat} (hrl : r < b.length) : (flipB b r c).getD r [] = (b.getD r []).set c (fl (at_ b r c)) := by
  unfold flipB
  rw [List.getD, List.getElem?_set_self hrl]
  rfl
theorem at_flip {b : List Tx} {R C r c : Nat} (h : Bd b R C) (hr : r < R) (hc : c < C) : at_ (flipB b r c) r c = fl (at_ b r c) := by
  obtain ⟨x, h1, h2, h3, h4⟩ := h.get hr
  have hrl : r < b.length := by rw [h.rows]; exact hr
  show ((flipB b r c).getD r []).getD c 0 = _
  rw [row_flip hrl, List.getD, List.getElem?_set_self (by rw [h2, h3]; exact hc)]
  rfl
theorem at_sgn {b : List Tx} {R C r c : Nat} (h : Bd b R C) (hr : r < R) (hc : c < C) : at_ b r c = 46 ∨ at_ b r c = 35 := by
  obtain ⟨x, h1, h2, h3, h4⟩ := h.get hr
  unfold at_
  rw [h2, List.getD, List.getElem?_eq_getElem (show c < x.length by omega)]
  exact h4 _ (List.getElem_mem _)
theorem flip_flip {b : List Tx} {R C r c : Nat} (h : Bd b R C) (hr : r < R) (hc : c < C) : flipB (flipB b r c) r c = b := by
  obtain ⟨x, h1, h2, h3, h4⟩ := h.get hr
  have hrl : r < b.length := by rw [h.rows]; exact hr
  have hcx : c < x.length := by omega
  have e : flipB (flipB b r c) r c = (flipB b r c).set r (((flipB b r c).getD r []).set c (fl (at_ (flipB b r c) r c))) := rfl
  rw [e, at_flip h hr hc, fl_fl (at_sgn h hr hc)]
  have e2 : (flipB b r c).getD r [] = x.set c (fl (at_ b r c)) := by
    unfold flipB
    rw [List.getD, List.getElem?_set_self hrl, h2]
    rfl
  rw [e2]
  unfold flipB
  rw [List.set_set, List.set_set]
  have e3 : x.set c (at_ b r c) = x := by
    unfold at_
    rw [h2, List.getD, List.getElem?_eq_getElem hcx]
    exact List.set_getElem_self hcx
  rw [e3]
  have e4 : b[r] = x := by
    rw [List.getElem?_eq_getElem hrl] at h1
    exact Option.some.inj h1
  rw [← e4]
  exact List.set_getElem_self hrl
theorem opp {l : Nat} (h : l < 4) : dnI ((l + 2) % 4) = -dnI l ∧ rtI ((l + 2) % 4) = -rtI l := by
  match l, h with
  | 0, _ => decide
  | 1, _ => decide
  | 2, _ => decide
  | 3, _ => decide
theorem mv_mv {R r : Nat} {d : Int} (h : r < R) : mv R (mv R r (-d)) d = r := by
  have hR : 1 ≤ R := by omega
  have e1 := mv_int (R := R) (r := mv R r (-d)) (d := d) hR
  have e2 := mv_int (R := R) (r := r) (d := -d) hR
  rw [e2] at e1
  have e3 : (((r : Int) + -d) % (R : Int) + d) % (R : Int) = (r : Int) := by
    rw [Int.emod_add_emod]
    have : (r : Int) + -d + d = r := by omega
    rw [this]
    exact Int.emod_eq_of_lt (by omega) (by omega)
  rw [e3] at e1
  exact Int.ofNat.inj e1
def bk (x y R C : Nat) (w : Ws) : Ws :=
  ⟨flipB w.b (mv R w.r (dnI ((w.l + 2) % 4))) (mv C w.c (rtI ((w.l + 2) % 4))), mv R w.r (dnI ((w.l + 2) % 4)), mv C w.c (rtI ((w.l + 2) % 4)),
    (w.l + 4 - qt (trn x y (flipB w.b (mv R w.r (dnI ((w.l + 2) % 4))) (mv C w.c (rtI ((w.l + 2) % 4)))) (mv R w.r (dnI ((w.l + 2) % 4))) (mv C w.c (rtI ((w.l + 2) % 4))))) % 4⟩
theorem bk_gd {x y R C : Nat} {w : Ws} (g : Gd w R C) : Gd (bk x y R C w) R C :=
  ⟨flipB_bd g.bd (mv_lt g.sz.r1) (mv_lt g.sz.c1), g.sz, mv_lt g.sz.r1, mv_lt g.sz.c1, Nat.mod_lt _ (by decide)⟩
theorem stp_bk {x y R C : Nat} {w : Ws} (g : Gd w R C) : stp x y R C (bk x y R C w) = w := by
  obtain ⟨o1, o2⟩ := opp g.hl
  have hq := qt_lt (trn x y (flipB w.b (mv R w.r (dnI ((w.l + 2) % 4))) (mv C w.c (rtI ((w.l + 2) % 4)))) (mv R w.r (dnI ((w.l + 2) % 4))) (mv C w.c (rtI ((w.l + 2) % 4))))
  have hl := g.hl
  unfold stp bk
  dsimp only
  generalize qt (trn x y (flipB w.b (mv R w.r (dnI ((w.l + 2) % 4))) (mv C w.c (rtI ((w.l + 2) % 4)))) (mv R w.r (dnI ((w.l + 2) % 4))) (mv C w.c (rtI ((w.l + 2) % 4)))) = q at hq ⊢
  have e : ((w.l + 4 - q) % 4 + q) % 4 = w.l := by omega
  rw [e, flip_flip g.bd (mv_lt g.sz.r1) (mv_lt g.sz.c1), o1, o2, mv_mv g.hr, mv_mv g.hc]
theorem bk_stp {x y R C : Nat} {w : Ws} (g : Gd w R C) : bk x y R C (stp x y R C w) = w := by
  have hl' : (w.l + qt (trn x y w.b w.r w.c)) % 4 < 4 := Nat.mod_lt _ (by decide)
  obtain ⟨o1, o2⟩ := opp hl'
  have hq := qt_lt (trn x y w.b w.r w.c)
  have hl := g.hl
  have m1 : mv R (mv R w.r (dnI ((w.l + qt (trn x y w.b w.r w.c)) % 4))) (-dnI ((w.l + qt (trn x y w.b w.r w.c)) % 4)) = w.r := by
    have := mv_mv (d := -dnI ((w.l + qt (trn x y w.b w.r w.c)) % 4)) g.hr
    rwa [Int.neg_neg] at this
  have m2 : mv C (mv C w.c (rtI ((w.l + qt (trn x y w.b w.r w.c)) % 4))) (-rtI ((w.l + qt (trn x y w.b w.r w.c)) % 4)) = w.c := by
    have := mv_mv (d := -rtI ((w.l + qt (trn x y w.b w.r w.c)) % 4)) g.hc
    rwa [Int.neg_neg] at this
  unfold bk stp
  dsimp only
  rw [o1, o2, m1, m2, flip_flip g.bd g.hr g.hc]
  generalize qt (trn x y w.b w.r w.c) = q at hq ⊢
  have e : ((w.l + q) % 4 + 4 - q) % 4 = w.l := by omega
  rw [e]
theorem back_ok {x y R C : Nat} {w : Ws} (hx : isTurn x) (hy : isTurn y) (g : Gd w R C) : f_back [.str [x, y], dW w] n k = .ok (dW (bk x y R C w), n, k) := by
  have hl2 : (w.l + 2) % 4 < 4 := Nat.mod_lt _ (by decide)
  have hr' := mv_lt (R := R) (r := w.r) (d := dnI ((w.l + 2) % 4)) g.sz.r1
  have hc' := mv_lt (R := C) (r := w.c) (d := rtI ((w.l + 2) % 4)) g.sz.c1
  have fb := flipB_bd g.bd hr' hc'
  have hq := qt_lt (trn x y (flipB w.b (mv R w.r (dnI ((w.l + 2) % 4))) (mv C w.c (rtI ((w.l + 2) % 4)))) (mv R w.r (dnI ((w.l + 2) % 4))) (mv C w.c (rtI ((w.l + 2) % 4))))
  have nx := next_ok (n := n) (k := k) (r := w.r) (c := w.c) g.bd g.sz hl2
  have fo := flip_ok (n := n) (k := k) g.bd g.sz hr' hc'
  have bo := black_ok (n := n) (k := k) fb hr' hc'
  have tt : isTurn (trn x y (flipB w.b (mv R w.r (dnI ((w.l + 2) % 4))) (mv C w.c (rtI ((w.l + 2) % 4)))) (mv R w.r (dnI ((w.l + 2) % 4))) (mv C w.c (rtI ((w.l + 2) % 4)))) := trn_turn hx hy
  unfold bk dW dS
  dsimp only
  generalize mv R w.r (dnI ((w.l + 2) % 4)) = r' at *
  generalize mv C w.c (rtI ((w.l + 2) % 4)) = c' at *
  generalize hb' : flipB w.b r' c' = b' at *
  have hl := g.hl
  have e : (((w.l + 4 - qt (trn x y b' r' c')) % 4 : Nat) : Int) = ((w.l : Int) - (qt (trn x y b' r' c') : Nat)) % 4 := by omega
  have st : ∀ s : S, s.get 3 = .val (dB b') → s.get 2 = .val (dC r' c') → s.get 0 = .val (.str [x, y]) → s.dn = n → s.dk = k → ev (.ife (.call 18 f_is_black (.cons (.var 3) (.cons (.var 2) .nil))) (.ix (.var 0) (.int 1)) (.ix (.var 0) (.int 0))) s = .ok (.str [trn x y b' r' c'], s) := fun s g3 g2 g0 gn gk => by
    have t0 : ev (.call 18 f_is_black (.cons (.var 3) (.cons (.var 2) .nil))) s = .ok (.bl (decide (at_ b' r' c' = 35)), s) := by
      have := eCall (f := 18) (F := f_is_black) (sCons (eVar g3) (sCons (eVar g2) sNil)) (by rw [gn, gk]; exact bo)
      rw [this]
      obtain ⟨e1, e2, e3, e4⟩ := s
      cases gn
      cases gk
      rfl
    unfold trn
    by_cases q : at_ b' r' c' = 35
    · rw [if_pos q]
      exact eIfT t0 (decide_eq_true q) (eIx (eVar g0) eInt rfl)
    · rw [if_neg q]
      exact eIfF t0 (decide_eq_false q) (eIx (eVar g0) eInt rfl)
  rw [e]
  exact runR (s := ⟨[.val (.str [x, y]), .val (dW w), .val (dC r' c'), .val (dB b'), .val (.str [trn x y b' r' c']), .val (dB w.b), .val (dC w.r w.c), .val (.int w.l)], n, k, false⟩)
    (qExpr (eCall (sCons (eVar rfl) (sCons (eVar rfl) sNil)) (nboth_ok hx hy g.bd g.sz g.hr g.hc g.hl)) (qAsg (eVar rfl) rfl (qSet (eCall (sCons (eVar rfl) (sCons (eVar rfl) (sCons (eBin (eBin (eVar rfl) eInt rfl) eInt (modS (by decide))) sNil))) nx)
      (qSet (eCall (sCons (eVar rfl) (sCons (eVar rfl) sNil)) fo) (qSet (st _ rfl rfl rfl rfl rfl) (qRet (eTup (sCons (eVar rfl) (sCons (eVar rfl) (sCons (eBin (eBin (eVar rfl) (eIxg (eVar rfl) (qt_ok tt)) rfl) eInt (modS (by decide))) sNil))) (show 3 ≤ SL by decide))))))))
/-! ### the law's own step -/
theorem lqt {t : Nat} (h : isTurn t) : ∃ j : Nat, m1D .index (.str [82, 76, 70, 66]) (.str [t]) = .ok (.int (j : Nat)) ∧ ∀ s : S, ixS s (.lst [.int 1, .int 3, .int 0, .int 2]) (.int (j : Nat)) = .ok (.int (qt t)) := by
  rcases h with h | h | h | h <;> subst h
  · exact ⟨0, rfl, fun _ => rfl⟩
  · exact ⟨1, rfl, fun _ => rfl⟩
  · exact ⟨2, rfl, fun _ => rfl⟩
  · exact ⟨3, rfl, fun _ => rfl⟩
theorem lstep_ok {x y R C : Nat} {w : Ws} (hx : isTurn x) (hy : isTurn y) (g : Gd w R C) : f_law_step [.str [x, y], dW w] n k = .ok (.tup [dW (stp x y R C w), .str [trn x y w.b w.r w.c]], n, k) := by
  obtain ⟨z, h1, h2, h3, h4⟩ := g.bd.get g.hr
  have hcz : w.c < z.length := by have := g.hc; omega
  have hC := g.sz.c4
  have hR := g.sz.r3
  have r1 := g.sz.r1
  have c1 := g.sz.c1
  have hbl := g.bd.rows
  have hr := g.hr
  have hat : at_ w.b w.r w.c = z.getD w.c 0 := by unfold at_; rw [h2]
  have tt : isTurn (trn x y w.b w.r w.c) := trn_turn hx hy
  obtain ⟨j, lq1, lq2⟩ := lqt tt
  have hl' : (w.l + qt (trn x y w.b w.r w.c)) % 4 < 4 := Nat.mod_lt _ (by decide)
  have ix1 : ∀ s : S, ixS s (dB w.b) (.int w.r) = .ok (.str z) := fun s => by rw [ixB g.bd g.hr, h2]
  have ixt : ∀ s : S, ixS s (.str [x, y]) (.int (if decide (at_ w.b w.r w.c = 35) = true then 1 else 0)) = .ok (.str [trn x y w.b w.r w.c]) := fun s => by
    unfold trn
    by_cases q : at_ w.b w.r w.c = 35
    · rw [decide_eq_true q, if_pos rfl, if_pos q]
      rfl
    · rw [decide_eq_false q, if_neg (by decide), if_neg q]
      rfl
  have sg : ∀ s : S, s.get 2 = .val (.bl (decide (at_ w.b w.r w.c = 35))) → ev (.ife (.var 2) (.str [46]) (.str [35])) s = .ok (.str [fl (at_ w.b w.r w.c)], s) := fun s g2 => by
    unfold fl
    rcases at_sgn g.bd g.hr g.hc with q | q
    · rw [if_pos q]
      exact eIfF (eVar g2) (decide_eq_false (by omega)) eStr
    · rw [if_neg (by omega)]
      exact eIfT (eVar g2) (decide_eq_true q) eStr
  have e1 := mv_int (r := w.r) (d := dnI ((w.l + qt (trn x y w.b w.r w.c)) % 4)) r1
  have e2 := mv_int (r := w.c) (d := rtI ((w.l + qt (trn x y w.b w.r w.c)) % 4)) c1
  have e3 : flipB w.b w.r w.c = w.b.set w.r (z.set w.c (fl (at_ w.b w.r w.c))) := by unfold flipB; rw [h2]
  have e4 : D.tup ((w.b.map D.str).take w.r ++ [.str (z.take w.c ++ [fl (at_ w.b w.r w.c)] ++ z.drop (w.c + 1))] ++ (w.b.map D.str).drop (w.r + 1)) = dB (flipB w.b w.r w.c) := by
    rw [set_cut hcz, set_cut (by rw [List.length_map]; omega), e3]
    unfold dB
    rw [List.map_set]
  unfold stp dW dS
  dsimp only
  unfold dC
  rw [e1, e2, ← e4]
  generalize trn x y w.b w.r w.c = t at *
  refine runR (s := ⟨[.val (.str [x, y]), .val (dW w), .val (.bl (decide (at_ w.b w.r w.c = 35))), .val (.str [t]), .val (.int ((w.l + qt t) % 4 : Nat)), .val (.str (z.take w.c ++ [fl (at_ w.b w.r w.c)] ++ z.drop (w.c + 1))),
      .val (.tup ((w.b.map D.str).take w.r ++ [.str (z.take w.c ++ [fl (at_ w.b w.r w.c)] ++ z.drop (w.c + 1))] ++ (w.b.map D.str).drop (w.r + 1))), .val (dB w.b), .val (.int (dnI ((w.l + qt t) % 4))), .val (.int (rtI ((w.l + qt t) % 4))), .val (.int w.r), .val (.int w.c)], n, k, false⟩)
    (qAsg (eVar rfl) rfl (qSet (eCmp (eIx (eIx (eVar rfl) (eVar rfl) (ix1 _)) (eVar rfl) (ixT hcz)) eStr (z := .bl (decide (at_ w.b w.r w.c = 35))) ?_) (qSet (eIx (eVar rfl) (eB1 (eVar rfl) rfl) (ixt _))
      (qSet (eBin (eBin (eVar rfl) (eIx (eLst (sCons eInt (sCons eInt (sCons eInt (sCons eInt sNil)))) (show 4 ≤ SL by decide)) (eM1 eStr (eVar rfl) lq1) (lq2 _)) rfl) eInt (modS (by decide)))
      (qSet (x := .str (z.take w.c ++ [fl (at_ w.b w.r w.c)] ++ z.drop (w.c + 1))) (eBin (eBin (eSl (eIx (eVar rfl) (eVar rfl) (ix1 _)) oNone (oSome (eVar rfl)) (z := .str (z.take w.c)) ?_) (sg _ rfl) (addT ?_)) (eSl (eIx (eVar rfl) (eVar rfl) (ix1 _)) (oSome (eBin (eVar rfl) eInt rfl)) oNone (z := .str (z.drop (w.c + 1))) ?_) (addT ?_))
      (qSet (eBin (eBin (eSl (eVar rfl) oNone (oSome (eVar rfl)) (z := .tup ((w.b.map D.str).take w.r)) ?_) (eTup (sCons (eVar rfl) sNil) (show 1 ≤ SL by decide)) (addU ?_)) (eSl (eVar rfl) (oSome (eBin (eVar rfl) eInt rfl)) oNone (z := .tup ((w.b.map D.str).drop (w.r + 1))) ?_) (addU ?_))
      (qAsg (eIx (eLst (sCons (eTup (sCons (eNeg eInt) (sCons eInt sNil)) (by decide)) (sCons (eTup (sCons eInt (sCons eInt sNil)) (by decide)) (sCons (eTup (sCons eInt (sCons eInt sNil)) (by decide)) (sCons (eTup (sCons eInt (sCons (eNeg eInt) sNil)) (by decide)) sNil)))) (by decide)) (eVar rfl) (dirs hl')) rfl
      (qRet (eTup (sCons (eTup (sCons (eVar rfl) (sCons (eTup (sCons (eBin (eBin (eVar rfl) (eVar rfl) rfl) (eB1 (eVar rfl) (lenB g.bd)) (modS (by omega))) (sCons (eBin (eBin (eVar rfl) (eVar rfl) rfl) (eB1 (eIx (eVar rfl) eInt (ixB0 g.bd r1)) (lenT (g.bd.row0 r1))) (modS (by omega))) sNil)) (show 2 ≤ SL by decide)) (sCons (eVar rfl) sNil))) (show 3 ≤ SL by decide)) (sCons (eVar rfl) sNil)) (show 2 ≤ SL by decide))))))))))
  · rw [sgn_eq, hat]
  · show Res.ok (D.str (cut z none (some (w.c : Int)))) = _
    rw [cut_take (by omega)]
  · simp
    omega
  · show Res.ok (D.str (cut z (some ((w.c + 1 : Nat) : Int)) none)) = _
    rw [cut_drop (by omega)]
  · simp
    omega
  · show Res.ok (D.tup (cut (w.b.map D.str) none (some (w.r : Int)))) = _
    rw [cut_take (by rw [List.length_map]; omega)]
  · simp
    omega
  · show Res.ok (D.tup (cut (w.b.map D.str) (some ((w.r + 1 : Nat) : Int)) none)) = _
    rw [cut_drop (by rw [List.length_map]; omega)]
  · simp
    omega
/-! ### black cells -/
def cnt (b : List Tx) : Int := (b.map fun x => ((x.count 35 : Nat) : Int)).sum
theorem ints_map {α : Type} (P : α → Int) : ∀ l : List α, intsD (l.map fun x => .int (P x)) = some (l.map P)
  | [] => rfl
  | x :: l => by
    show (intsD (l.map fun x => .int (P x))).map (P x :: ·) = _
    rw [ints_map P l]
    rfl
theorem count_ok {b : List Tx} {R C : Nat} (h : Bd b R C) (z : Sz R C) : f_count_black [dB b] n k = .ok (.int (cnt b), n, k) := by
  refine runR (s := ⟨[.val (dB b), .un], n, k, false⟩) (qExpr (eCall (sCons (eVar rfl) sNil) (nboard_ok h z)) (qRet (eB1 (eLc (iSeqE (eVar rfl) rfl) (lc_map D.str (fun x => .int ((x.count 35 : Nat) : Int)) (fun x => ⟨[.val (dB b), .val (.str x)], n, k, true⟩) b [] fun x hx => ⟨rfl, _, eM1 (eVar rfl) eStr rfl, rfl, rfl⟩)) ?_)))
  show (match intsD ([] ++ b.map _) with | some ns => Res.ok (D.int ns.sum) | none => .stuck) = _
  rw [List.nil_append, ints_map]
  rfl
theorem sum_set {l : List Int} {i : Nat} {a : Int} (h : i < l.length) : (l.set i a).sum = l.sum - l[i] + a := by
  induction l generalizing i with
  | nil => simp at h
  | cons x l ih =>
    cases i with
    | zero => simp; omega
    | succ i =>
      have := ih (i := i) (by simpa using h)
      simp at this ⊢
      omega
theorem count_set {l : List Nat} {i a v : Nat} (h : i < l.length) : ((l.set i a).count v : Int) = (l.count v : Int) - (if l[i] = v then 1 else 0) + (if a = v then 1 else 0) := by
  induction l generalizing i with
  | nil => simp at h
  | cons x l ih =>
    cases i with
    | zero =>
      simp [List.count_cons]
      split <;> split <;> simp_all <;> omega
    | succ i =>
      have := ih (i := i) (by simpa using h)
      simp [List.count_cons] at this ⊢
      split <;> simp_all <;> omega
theorem cnt_flip {b : List Tx} {R C r c : Nat} (h : Bd b R C) (hr : r < R) (hc : c < C) : cnt (flipB b r c) = cnt b + (if at_ b r c = 46 then 1 else -1) := by
  obtain ⟨x, h1, h2, h3, h4⟩ := h.get hr
  have hrl : r < b.length := by rw [h.rows]; exact hr
  have hcx : c < x.length := by omega
  have e4 : b[r] = x := by
    rw [List.getElem?_eq_getElem hrl] at h1
    exact Option.some.inj h1
  have e5 : x[c] = at_ b r c := by
    unfold at_
    rw [h2, List.getD, List.getElem?_eq_getElem hcx]
    rfl
  unfold cnt flipB
  rw [List.map_set, sum_set (by rw [List.length_map]; exact hrl), List.getElem_map, e4, h2, count_set hcx, e5]
  rcases at_sgn h hr hc with q | q
  · rw [q]
    simp [fl]
    omega
  · rw [q]
    simp [fl]
    omega
theorem spot_ok {b : List Tx} {R C r c l : Nat} (h : Bd b R C) (z : Sz R C) (hr : r < R) (hc : c < C) (hl : l < 4) : f_need_spot [dB b, dC r c, .int l] n k = .ok (.non, n, k) := by
  refine runN (s := ⟨[.val (dB b), .val (dC r c), .val (.int l)], n, k, false⟩) (qExpr (x := .non) (eCall (sCons (eVar rfl) (sCons (eVar rfl) sNil)) ?_) (qIfF (eNot (eCall (sCons (eVar rfl) (sCons eInt (sCons eInt sNil))) (whole_int _ _ _)) ?_) rfl qNil qNil))
  · exact runN (s := ⟨[.val (dB b), .val (dC r c)], n, k, false⟩) (qIfF (eNot (eCall (sCons (eVar rfl) (sCons (eVar rfl) sNil)) (cell_ok h z hr hc)) rfl) rfl qNil qNil)
  · simp
    omega
theorem ahead_ok {b : List Tx} {R C r c l : Nat} (h : Bd b R C) (z : Sz R C) (hr : r < R) (hc : c < C) (hl : l < 4) : f_ahead [dB b, dC r c, .int l] n k = .ok (dC (mv R r (dnI l)) (mv C c (rtI l)), n, k) :=
  runR (s := ⟨[.val (dB b), .val (dC r c), .val (.int l)], n, k, false⟩) (qExpr (eCall (sCons (eVar rfl) sNil) (nboard_ok h z)) (qExpr (eCall (sCons (eVar rfl) (sCons (eVar rfl) (sCons (eVar rfl) sNil))) (spot_ok h z hr hc hl)) (qRet (eCall (sCons (eVar rfl) (sCons (eVar rfl) (sCons (eVar rfl) sNil))) (next_ok h z hl)))))
/-! ### what is refused -/
theorem nrule_non : f_need_rule [.non] n k = .exc 1 n k := rfl
theorem nstate_non : f_need_state [.non] n k = .exc 2 n k := rfl
theorem step_non {x y : Nat} (hx : isTurn x) (hy : isTurn y) : f_step [.str [x, y], .non] n k = .exc 2 n k :=
  runX (qExprX (eCallX (sCons (eVar rfl) (sCons (eVar rfl) sNil)) (runX (qExpr (eCall (sCons (eVar rfl) sNil) (nrule_ok hx hy)) (qExprX (eCallX (sCons (eVar rfl) sNil) nstate_non))))))
theorem back_non (d : D) : f_back [.non, d] n k = .exc 1 n k :=
  runX (qExprX (eCallX (sCons (eVar rfl) (sCons (eVar rfl) sNil)) (runX (qExprX (eCallX (sCons (eVar rfl) sNil) nrule_non)))))
end
end Fw

set_option linter.all false
set_option autoImplicit false
set_option maxRecDepth 100000
set_option maxHeartbeats 4000000
/-! FwMath2: courses, the state turned round. -/
namespace Fw
def itr {α : Type} (f : α → α) : Nat → α → α
  | 0, w => w
  | m + 1, w => f (itr f m w)
theorem itr_gd {x y R C : Nat} {w : Ws} (g : Gd w R C) : ∀ m, Gd (itr (stp x y R C) m w) R C
  | 0 => g
  | m + 1 => stp_gd (itr_gd g m)
theorem ati_neg {α : Type} {l : List α} {j : Nat} {x : α} (h : j < l.length) (hx : l[l.length - 1 - j]? = some x) : ati l (-1 - (j : Int)) = some x := by
  unfold ati
  rw [if_neg (by omega), if_pos (by omega)]
  have e : (-1 - (j : Int) + (l.length : Int)).toNat = l.length - 1 - j := by omega
  rw [e]
  exact hx
section
variable {n k : Int}
def rv (R C : Nat) (w : Ws) : Ws := ⟨w.b, mv R w.r (dnI ((w.l + 2) % 4)), mv C w.c (rtI ((w.l + 2) % 4)), (w.l + 2) % 4⟩
theorem rv_gd {R C : Nat} {w : Ws} (g : Gd w R C) : Gd (rv R C w) R C := ⟨g.bd, g.sz, mv_lt g.sz.r1, mv_lt g.sz.c1, Nat.mod_lt _ (by decide)⟩
theorem rv_ok {x y R C : Nat} {w : Ws} (hx : isTurn x) (hy : isTurn y) (g : Gd w R C) : f_reversed_state [.str [x, y], dW w] n k = .ok (dW (rv R C w), n, k) := by
  have hl2 : (w.l + 2) % 4 < 4 := Nat.mod_lt _ (by decide)
  exact runR (s := ⟨[.val (.str [x, y]), .val (dW w), .val (dB w.b), .val (dC w.r w.c), .val (.int w.l)], n, k, false⟩) (qExpr (eCall (sCons (eVar rfl) (sCons (eVar rfl) sNil)) (nboth_ok hx hy g.bd g.sz g.hr g.hc g.hl)) (qAsg (eVar rfl) rfl (qRet (eTup (sCons (eVar rfl) (sCons (eCall (sCons (eVar rfl) (sCons (eVar rfl) (sCons (eBin (eBin (eVar rfl) eInt rfl) eInt (modS (by decide))) sNil))) (next_ok (r := w.r) (c := w.c) g.bd g.sz hl2)) (sCons (eBin (eBin (eVar rfl) eInt rfl) eInt (modS (by decide))) sNil))) (show 3 ≤ SL by decide)))))
theorem rv_non {x y : Nat} (hx : isTurn x) (hy : isTurn y) : f_reversed_state [.str [x, y], .non] n k = .exc 2 n k :=
  runX (qExprX (eCallX (sCons (eVar rfl) (sCons (eVar rfl) sNil)) (runX (qExpr (eCall (sCons (eVar rfl) sNil) (nrule_ok hx hy)) (qExprX (eCallX (sCons (eVar rfl) sNil) nstate_non))))))
theorem rv_non2 (d : D) : f_reversed_state [.non, d] n k = .exc 1 n k :=
  runX (qExprX (eCallX (sCons (eVar rfl) (sCons (eVar rfl) sNil)) (runX (qExprX (eCallX (sCons (eVar rfl) sNil) nrule_non)))))
/-- the turn to the other side -/
def os (x : Nat) : Nat := if x = 82 then 76 else if x = 76 then 82 else x
theorem os_turn {x : Nat} (h : isTurn x) : isTurn (os x) := by
  rcases h with h | h | h | h <;> subst h
  · exact .inr (.inl rfl)
  · exact .inl rfl
  · exact .inr (.inr (.inl rfl))
  · exact .inr (.inr (.inr rfl))
theorem os_ok {x : Nat} (h : isTurn x) : tabGet t_OTHER_SIDE [x] = some (.str [os x]) := by
  rcases h with h | h | h | h <;> (subst h; rfl)
theorem os_qt {x : Nat} (h : isTurn x) : (qt (os x) + qt x) % 4 = 0 := by
  rcases h with h | h | h | h <;> (subst h; decide)
theorem mirule_ok {x y : Nat} (hx : isTurn x) (hy : isTurn y) : f_mirrored_rule [.str [x, y]] n k = .ok (.str [os x, os y], n, k) :=
  runR (s := ⟨[.val (.str [x, y])], n, k, false⟩) (qExpr (eCall (sCons (eVar rfl) sNil) (nrule_ok hx hy)) (qRet (eBin (eIxg (eIx (eVar rfl) eInt rfl) (os_ok hx)) (eIxg (eIx (eVar rfl) eInt rfl) (os_ok hy)) rfl)))
/-- turned round, a step by the rule with its turns exchanged and mirrored leads back -/
theorem rv_stp {x y R C : Nat} {w : Ws} (hx : isTurn x) (hy : isTurn y) (g : Gd w R C) : stp (os y) (os x) R C (rv R C (stp x y R C w)) = rv R C w := by
  have hl' : (w.l + qt (trn x y w.b w.r w.c)) % 4 < 4 := Nat.mod_lt _ (by decide)
  obtain ⟨o1, o2⟩ := opp hl'
  have m1 : mv R (mv R w.r (dnI ((w.l + qt (trn x y w.b w.r w.c)) % 4))) (-dnI ((w.l + qt (trn x y w.b w.r w.c)) % 4)) = w.r := by
    have := mv_mv (d := -dnI ((w.l + qt (trn x y w.b w.r w.c)) % 4)) g.hr
    rwa [Int.neg_neg] at this
  have m2 : mv C (mv C w.c (rtI ((w.l + qt (trn x y w.b w.r w.c)) % 4))) (-rtI ((w.l + qt (trn x y w.b w.r w.c)) % 4)) = w.c := by
    have := mv_mv (d := -rtI ((w.l + qt (trn x y w.b w.r w.c)) % 4)) g.hc
    rwa [Int.neg_neg] at this
  have e1 : rv R C (stp x y R C w) = ⟨flipB w.b w.r w.c, w.r, w.c, ((w.l + qt (trn x y w.b w.r w.c)) % 4 + 2) % 4⟩ := by
    unfold rv stp
    dsimp only
    rw [o1, o2, m1, m2]
  have tu : trn (os y) (os x) (flipB w.b w.r w.c) w.r w.c = os (trn x y w.b w.r w.c) := by
    unfold trn
    rw [at_flip g.bd g.hr g.hc]
    rcases at_sgn g.bd g.hr g.hc with q | q
    · rw [q]
      rfl
    · rw [q]
      rfl
  have hq := os_qt (trn_turn (b := w.b) (r := w.r) (c := w.c) hx hy)
  have hq1 := qt_lt (trn x y w.b w.r w.c)
  have hq2 := qt_lt (os (trn x y w.b w.r w.c))
  rw [e1]
  unfold stp
  dsimp only
  rw [tu, flip_flip g.bd g.hr g.hc]
  have e2 : (((w.l + qt (trn x y w.b w.r w.c)) % 4 + 2) % 4 + qt (os (trn x y w.b w.r w.c))) % 4 = (w.l + 2) % 4 := by omega
  rw [e2]
  rfl
end
end Fw

set_option linter.all false
set_option autoImplicit false
set_option maxRecDepth 100000
set_option maxHeartbeats 4000000
/-! FwMath3: loops by a state of the turn; cells. -/
namespace Fw
theorem for_from {f : D → S → RS} (I : Nat → S) : ∀ (m j : Nat), (∀ i, j ≤ i → i < j + m → f (.int (0 + (i : Nat))) (I i) = .nx (I (i + 1))) → forL f ((List.range' j m).map fun i => .int (0 + (i : Nat))) (I j) = .nx (I (j + m))
  | 0, j, _ => rfl
  | m + 1, j, h => by
    refine forC (s1 := I (j + 1)) (h j (Nat.le_refl _) (by omega)) ?_
    have := for_from I m (j + 1) fun i h1 h2 => h i (by omega) (by omega)
    rw [this]
    congr 2
    omega
theorem for_range {f : D → S → RS} (I : Nat → S) (m : Nat) (h : ∀ i, i < m → f (.int (0 + (i : Nat))) (I i) = .nx (I (i + 1))) : forL f (rngL 0 m) (I 0) = .nx (I m) := by
  have := for_from I m 0 fun i _ h2 => h i (by omega)
  rw [Nat.zero_add] at this
  rw [← this]
  unfold rngL
  rw [List.range_eq_range']
/-- the loop's own name -/
def tuS (u : Sl) : Nat → Sl
  | 0 => u
  | i + 1 => .val (.int (0 + (i : Nat)))
def rowL (C r : Nat) : List D := (List.range C).map fun c => dC r c
def celL (C : Nat) : Nat → List D
  | 0 => []
  | r + 1 => celL C r ++ rowL C r
theorem celL_len (C : Nat) : ∀ R, (celL C R).length = R * C
  | 0 => by simp [celL]
  | R + 1 => by
    rw [celL, List.length_append, celL_len C R]
    simp [rowL, Nat.succ_mul]
theorem addL {a b : List D} (h : a.length + b.length ≤ 1000) : binD .add (.lst a) (.lst b) = .ok (.lst (a ++ b)) := by
  unfold binD
  dsimp only
  rw [if_pos (Nat.le_trans h (by decide))]
theorem mul12 {R C r : Nat} (hr : r < R) (hR : R ≤ 3) (hC : C ≤ 4) : r * C + C ≤ 12 := by
  have h1 : r * C ≤ 2 * 4 := Nat.mul_le_mul (by omega) hC
  omega
section
variable {n k : Int}
theorem cellsof_ok {R C : Nat} (hR : R ≤ 3) (hC : C ≤ 4) : f_cells_of [.int R, .int C] n k = .ok (.lst (celL C R), n, k) := by
  refine runR (s := ⟨[.val (.int R), .val (.int C), .val (.lst (celL C R)), tuS .un R, .un], n, k, false⟩) (qSet (eLst sNil (Nat.zero_le _)) (qFor (s1 := ⟨[.val (.int R), .val (.int C), .val (.lst (celL C 0)), tuS .un 0, .un], n, k, false⟩) (iRng (eVar rfl) (rng_ok (by omega)))
    (for_range (fun i => ⟨[.val (.int R), .val (.int C), .val (.lst (celL C i)), tuS .un i, .un], n, k, false⟩) R fun r hr => ?_) (qRet (eVar rfl))))
  refine qSet (s1 := ⟨[.val (.int R), .val (.int C), .val (.lst (celL C r)), .val (.int (0 + (r : Nat))), .un], n, k, false⟩) (x := .lst (celL C r ++ rowL C r)) (eBin (eVar rfl) (eLc (iRng (eVar rfl) (rng_ok (by omega))) (lc_map (fun c : Nat => .int (0 + (c : Nat))) (fun c => dC r c) (fun c => ⟨[.val (.int R), .val (.int C), .val (.lst (celL C r)), .val (.int (0 + (r : Nat))), .val (.int (0 + (c : Nat)))], n, k, true⟩) (List.range C) [] fun c hc => ⟨rfl, ⟨[.val (.int R), .val (.int C), .val (.lst (celL C r)), .val (.int (0 + (r : Nat))), .val (.int (0 + (c : Nat)))], n, k, true⟩, ?_, rfl, rfl⟩)) (addL ?_)) qNil
  · unfold dC
    have e1 : D.tup [.int (r : Nat), .int (c : Nat)] = .tup [.int (0 + (r : Nat)), .int (0 + (c : Nat))] := by rw [Int.zero_add, Int.zero_add]
    rw [e1]
    exact eTup (sCons (eVar rfl) (sCons (eVar rfl) sNil)) (show 2 ≤ SL by decide)
  · rw [celL_len]
    have := mul12 (C := C) hr hR hC
    simp [rowL]
    omega
theorem cells_ok {b : List Tx} {R C : Nat} (h : Bd b R C) (z : Sz R C) : f_cells [dB b] n k = .ok (.tup (celL C R), n, k) :=
  runR (s := ⟨[.val (dB b)], n, k, false⟩) (qExpr (eCall (sCons (eVar rfl) sNil) (nboard_ok h z)) (qRet (eB1 (eCall (sCons (eB1 (eVar rfl) (lenB h)) (sCons (eB1 (eIx (eVar rfl) eInt (ixB0 h z.r1)) (lenT (h.row0 z.r1))) sNil)) (cellsof_ok z.r3 z.c4)) rfl)))
/-- a comprehension with a test -/
theorem lc_filt {α : Type} {tg : Tg} {c f : S → Res (D × S)} {b : S} {n k : Int} (A G : α → D) (P : α → Bool) (E : α → S) : ∀ (l : List α) (acc : List D),
    (∀ x ∈ l, bindT tg (A x) ⟨wipeL b.env tg.slots, n, k, true⟩ = some (E x) ∧ c (E x) = .ok (.bl (P x), E x) ∧ f (E x) = .ok (G x, E x) ∧ (E x).dn = n ∧ (E x).dk = k) →
    lcL tg c f b (l.map A) n k acc = .ok (acc ++ (l.filter P).map G, n, k)
  | [], acc, _ => by
    show Res.ok (acc, n, k) = _
    simp
  | x :: l, acc, h => by
    obtain ⟨h1, h2, h3, h4, h5⟩ := h x (by simp)
    have ih := fun a => lc_filt (tg := tg) (c := c) (f := f) (b := b) A G P E l a fun y hy => h y (by simp [hy])
    show (match bindT tg (A x) ⟨wipeL b.env tg.slots, n, k, true⟩ with | none => Res.stuck | some s1 => _) = _
    rw [h1]
    show ((c (E x)).nox.bind fun (t, s2) => match t with
      | .bl true => (f s2).nox.bind fun (y, s3) => lcL tg c f b (l.map A) s3.dn s3.dk (acc ++ [y])
      | .bl false => lcL tg c f b (l.map A) s2.dn s2.dk acc
      | _ => .stuck) = _
    rw [h2]
    cases q : P x with
    | true =>
      show ((f (E x)).nox.bind fun (y, s3) => lcL tg c f b (l.map A) s3.dn s3.dk (acc ++ [y])) = _
      rw [h3]
      show lcL tg c f b (l.map A) (E x).dn (E x).dk (acc ++ [G x]) = _
      rw [h4, h5, ih]
      simp [q]
    | false =>
      show lcL tg c f b (l.map A) (E x).dn (E x).dk acc = _
      rw [h4, h5, ih]
      simp [q]
def prs (C : Nat) : Nat → List (Nat × Nat)
  | 0 => []
  | r + 1 => prs C r ++ (List.range C).map fun c => (r, c)
theorem celL_prs (C : Nat) : ∀ R, celL C R = (prs C R).map fun p => dC p.1 p.2
  | 0 => rfl
  | R + 1 => by
    rw [celL, prs, List.map_append, celL_prs C R, List.map_map]
    rfl
theorem prs_mem {C : Nat} : ∀ {R : Nat} {p : Nat × Nat}, p ∈ prs C R → p.1 < R ∧ p.2 < C
  | 0, _, h => by cases h
  | R + 1, p, h => by
    rcases List.mem_append.mp h with q | q
    · have := prs_mem q
      omega
    · obtain ⟨c, hc, e⟩ := List.mem_map.mp q
      rw [← e]
      exact ⟨Nat.lt_succ_self _, List.mem_range.mp hc⟩
theorem mem_prs {C : Nat} : ∀ {R r c : Nat}, r < R → c < C → (r, c) ∈ prs C R
  | 0, _, _, h, _ => by omega
  | R + 1, r, c, h, hc => by
    rcases Nat.lt_or_ge r R with q | q
    · exact List.mem_append_left _ (mem_prs q hc)
    · have e : r = R := by omega
      rw [e]
      exact List.mem_append_right _ (List.mem_map.mpr ⟨c, List.mem_range.mpr hc, rfl⟩)
theorem row_count (x : Tx) : ((List.range x.length).filter fun c => decide (x.getD c 0 = 35)).length = x.count 35 := by
  have e : x = (List.range x.length).map fun c => x.getD c 0 := by
    refine List.ext_getElem (by simp) fun i h1 h2 => ?_
    simp [List.getD, h1]
  have e2 : x.count 35 = (((List.range x.length).map fun c => x.getD c 0).filter (· == 35)).length := by
    rw [← e, List.count_eq_length_filter]
  rw [e2, List.filter_map, List.length_map]
  congr 2
theorem cnt_prs {b : List Tx} {C : Nat} (h : ∀ x ∈ b, x.length = C) : ∀ R, R ≤ b.length → (((prs C R).filter fun p => decide (at_ b p.1 p.2 = 35)).length : Int) = ((b.take R).map fun x => ((x.count 35 : Nat) : Int)).sum
  | 0, _ => by simp [prs]
  | R + 1, hR => by
    have hlt : R < b.length := by omega
    have ih := cnt_prs h R (by omega)
    rw [prs, List.filter_append, List.length_append, List.take_add_one, List.getElem?_eq_getElem hlt, List.map_append, List.sum_append]
    rw [List.filter_map, List.length_map]
    have e : ((List.range C).filter ((fun p => decide (at_ b p.1 p.2 = 35)) ∘ fun c => (R, c))).length = (b[R]).count 35 := by
      have hx := h b[R] (List.getElem_mem hlt)
      rw [← row_count, hx]
      congr 2
      funext c
      show decide (at_ b R c = 35) = _
      unfold at_
      have : b.getD R [] = b[R] := by simp [List.getD, hlt]
      rw [this]
    rw [e]
    simp at ih ⊢
    omega
theorem cnt_len {b : List Tx} {R C : Nat} (h : Bd b R C) : (((prs C R).filter fun p => decide (at_ b p.1 p.2 = 35)).length : Int) = cnt b := by
  rw [cnt_prs h.cols R (by rw [h.rows]; exact Nat.le_refl _), List.take_of_length_le (by rw [h.rows]; exact Nat.le_refl _)]
  rfl
end
end Fw

set_option linter.all false
set_option autoImplicit false
set_option maxRecDepth 100000
set_option maxHeartbeats 4000000
/-! FwMath4: rounds. -/
namespace Fw
/-! ### equal data -/
mutual
def D.pl : D → Bool
  | .non => true
  | .int _ => true
  | .str _ => true
  | .tup l => D.pls l
  | .lst l => D.pls l
  | _ => false
def D.pls : List D → Bool
  | [] => true
  | x :: xs => D.pl x && D.pls xs
end
mutual
theorem eqv_pl : ∀ (x y : D), x.pl = true → y.pl = true → (D.eqv x y = true ↔ x = y)
  | .non, y, _, hy => by
    cases y <;> first | (cases hy; done) | (constructor <;> intro h <;> first | rfl | cases h)
  | .int i, y, _, hy => by
    cases y <;> first | (cases hy; done) | (constructor <;> intro h <;> first | rfl | (cases h; done) | skip)
    · have h' : (_ == _) = true := h
      rw [beq_iff_eq] at h'
      rw [h']
    · cases h
      show (_ == _) = true
      simp
  | .str i, y, _, hy => by
    cases y <;> first | (cases hy; done) | (constructor <;> intro h <;> first | rfl | (cases h; done) | skip)
    · have h' : (_ == _) = true := h
      rw [beq_iff_eq] at h'
      rw [h']
    · cases h
      show (_ == _) = true
      simp
  | .tup l, y, hx, hy => by
    cases y with
    | tup l' =>
      have := eqvs_pl l l' hx hy
      constructor
      · intro h
        rw [this.mp h]
      · intro h
        cases h
        exact this.mpr rfl
    | _ => first | (cases hy; done) | (constructor <;> intro h <;> cases h)
  | .lst l, y, hx, hy => by
    cases y with
    | lst l' =>
      have := eqvs_pl l l' hx hy
      constructor
      · intro h
        rw [this.mp h]
      · intro h
        cases h
        exact this.mpr rfl
    | _ => first | (cases hy; done) | (constructor <;> intro h <;> cases h)
  | .bl _, _, hx, _ => by cases hx
  | .dic _ _, _, hx, _ => by cases hx
  | .dice, _, hx, _ => by cases hx
theorem eqvs_pl : ∀ (x y : List D), D.pls x = true → D.pls y = true → (D.eqvs x y = true ↔ x = y)
  | [], [], _, _ => by constructor <;> intro _ <;> rfl
  | [], _ :: _, _, _ => by constructor <;> intro h <;> cases h
  | _ :: _, [], _, _ => by constructor <;> intro h <;> cases h
  | a :: x, b :: y, hx, hy => by
    have hx' : (D.pl a && D.pls x) = true := hx
    have hy' : (D.pl b && D.pls y) = true := hy
    rw [Bool.and_eq_true] at hx' hy'
    have h1 := eqv_pl a b hx'.1 hy'.1
    have h2 := eqvs_pl x y hx'.2 hy'.2
    show (D.eqv a b && D.eqvs x y) = true ↔ _
    rw [Bool.and_eq_true, h1, h2]
    constructor
    · rintro ⟨rfl, rfl⟩
      rfl
    · intro h
      cases h
      exact ⟨rfl, rfl⟩
end
theorem pls_strs : ∀ b : List Tx, D.pls (b.map D.str) = true
  | [] => rfl
  | _ :: b => by
    show (true && D.pls (b.map D.str)) = true
    rw [pls_strs b]
    rfl
theorem pl_dW (w : Ws) : (dW w).pl = true := by
  show (D.pls (w.b.map D.str) && _) = true
  rw [pls_strs]
  rfl
theorem strs_inj : ∀ {a b : List Tx}, a.map D.str = b.map D.str → a = b
  | [], [], _ => rfl
  | [], _ :: _, h => by cases h
  | _ :: _, [], h => by cases h
  | x :: a, y :: b, h => by
    rw [List.map_cons, List.map_cons] at h
    injection h with h1 h2
    injection h1 with h1
    rw [h1, strs_inj h2]
theorem Ws.ext_iff' (a b : Ws) : (a.b = b.b ∧ a.r = b.r ∧ a.c = b.c ∧ a.l = b.l) ↔ a = b := by
  obtain ⟨b1, r1, c1, l1⟩ := a
  obtain ⟨b2, r2, c2, l2⟩ := b
  constructor
  · rintro ⟨h1, h2, h3, h4⟩
    dsimp only at *
    rw [h1, h2, h3, h4]
  · intro h
    cases h
    exact ⟨rfl, rfl, rfl, rfl⟩
instance : DecidableEq Ws := fun a b => decidable_of_iff _ (Ws.ext_iff' a b)
theorem dW_inj {a b : Ws} (h : dW a = dW b) : a = b := by
  obtain ⟨b1, r1, c1, l1⟩ := a
  obtain ⟨b2, r2, c2, l2⟩ := b
  unfold dW dS dB dC at h
  injection h with h
  injection h with h1 h
  injection h with h2 h
  injection h with h3 h
  injection h1 with h1
  injection h2 with h2
  injection h2 with h4 h2
  injection h2 with h5 h2
  injection h3 with h3
  injection h4 with h4
  injection h5 with h5
  have q1 := strs_inj h1
  have q3 := Int.ofNat.inj h3
  have q4 := Int.ofNat.inj h4
  have q5 := Int.ofNat.inj h5
  dsimp only at q1 q3 q4 q5
  rw [q1, q3, q4, q5]
theorem eqv_dW (a b : Ws) : D.eqv (dW a) (dW b) = decide (a = b) := by
  have h := eqv_pl (dW a) (dW b) (pl_dW a) (pl_dW b)
  by_cases q : a = b
  · rw [decide_eq_true q, h, q]
  · rw [decide_eq_false q, Bool.eq_false_iff]
    exact fun z => q (dW_inj (h.mp z))
theorem ne_dW (a b : Ws) : cmpD .ne (dW a) (dW b) = .ok (.bl (decide (a ≠ b))) := by
  show (if (dW a).fit 60 && (dW b).fit 60 then Res.ok (D.bl (!D.eqv (dW a) (dW b))) else .stuck) = _
  rw [fit_dW, fit_dW, eqv_dW]
  by_cases q : a = b <;> simp [q]
theorem eq_dW (a b : Ws) : cmpD .eq (dW a) (dW b) = .ok (.bl (decide (a = b))) := by
  show (if (dW a).fit 60 && (dW b).fit 60 then Res.ok (D.bl (D.eqv (dW a) (dW b))) else .stuck) = _
  rw [fit_dW, fit_dW, eqv_dW]
  rfl
/-- equality of plain data of some depth -/
theorem ne_pl {x y : D} (hx : x.pl = true) (hy : y.pl = true) (fx : x.fit 60 = true) (fy : y.fit 60 = true) (P : Prop) [Decidable P] (h : x = y ↔ P) : cmpD .ne x y = .ok (.bl (decide (¬ P))) := by
  have q := eqv_pl x y hx hy
  show (if x.fit 60 && y.fit 60 then Res.ok (D.bl (!D.eqv x y)) else .stuck) = _
  rw [fx, fy]
  by_cases p : P
  · rw [q.mpr (h.mpr p)]
    simp [p]
  · have : D.eqv x y = false := by
      rw [Bool.eq_false_iff]
      exact fun z => p (h.mp (q.mp z))
    rw [this]
    simp [p]
theorem eq_pl {x y : D} (hx : x.pl = true) (hy : y.pl = true) (fx : x.fit 60 = true) (fy : y.fit 60 = true) (P : Prop) [Decidable P] (h : x = y ↔ P) : cmpD .eq x y = .ok (.bl (decide P)) := by
  have q := eqv_pl x y hx hy
  show (if x.fit 60 && y.fit 60 then Res.ok (D.bl (D.eqv x y)) else .stuck) = _
  rw [fx, fy]
  by_cases p : P
  · rw [q.mpr (h.mpr p)]
    simp [p]
  · have : D.eqv x y = false := by
      rw [Bool.eq_false_iff]
      exact fun z => p (h.mp (q.mp z))
    rw [this]
    simp [p]
/-! ### pigeonholes -/
theorem php : ∀ (N : Nat) (g : Nat → Nat), (∀ i, i ≤ N → g i < N) → ∃ i j, i < j ∧ j ≤ N ∧ g i = g j
  | 0, g, h => by have := h 0 (Nat.le_refl _); omega
  | N + 1, g, h => by
    by_cases e : ∃ i, i ≤ N ∧ g i = g (N + 1)
    · obtain ⟨i, hi, e⟩ := e
      exact ⟨i, N + 1, by omega, Nat.le_refl _, e⟩
    · have hN := h (N + 1) (Nat.le_refl _)
      obtain ⟨i, j, h1, h2, h3⟩ := php N (fun i => if g i = N then g (N + 1) else g i) fun i hi => by
        have hi1 := h i (by omega)
        split
        · rename_i q
          have : g (N + 1) ≠ N := fun z => e ⟨i, hi, by omega⟩
          omega
        · omega
      refine ⟨i, j, h1, by omega, ?_⟩
      have ni : g i ≠ g (N + 1) := fun z => e ⟨i, by omega, z⟩
      have nj : g j ≠ g (N + 1) := fun z => e ⟨j, by omega, z⟩
      split at h3 <;> split at h3 <;> omega
theorem least (P : Nat → Prop) : ∀ n, P n → ∃ m, m ≤ n ∧ P m ∧ ∀ i, i < m → ¬ P i := by
  intro n
  induction n using Nat.strongRecOn with
  | ind n ih =>
    intro h
    by_cases e : ∃ i, i < n ∧ P i
    · obtain ⟨i, hi, pi⟩ := e
      obtain ⟨m, h1, h2, h3⟩ := ih i hi pi
      exact ⟨m, by omega, h2, h3⟩
    · exact ⟨n, Nat.le_refl _, h, fun i hi p => e ⟨i, hi, p⟩⟩
theorem mix {R a b r q : Nat} (hr : r < R) (hq : q < R) (h : a * R + r = b * R + q) : a = b ∧ r = q := by
  have e1 : (a * R + r) / R = a := by
    rw [Nat.add_comm, Nat.add_mul_div_right _ _ (by omega), Nat.div_eq_of_lt hr, Nat.zero_add]
  have e2 : (b * R + q) / R = b := by
    rw [Nat.add_comm, Nat.add_mul_div_right _ _ (by omega), Nat.div_eq_of_lt hq, Nat.zero_add]
  have e3 : a = b := by rw [← e1, ← e2, h]
  subst e3
  exact ⟨rfl, by omega⟩
def bits : List Nat → Nat
  | [] => 0
  | x :: l => bits l * 2 + (if x = 35 then 1 else 0)
theorem bits_lt : ∀ l : List Nat, bits l < 2 ^ l.length
  | [] => by decide
  | x :: l => by
    have := bits_lt l
    rw [List.length_cons, Nat.pow_succ]
    show bits l * 2 + _ < _
    split <;> omega
theorem bits_inj : ∀ {l m : List Nat}, l.length = m.length → (∀ y ∈ l, y = 46 ∨ y = 35) → (∀ y ∈ m, y = 46 ∨ y = 35) → bits l = bits m → l = m
  | [], [], _, _, _, _ => rfl
  | [], _ :: _, h, _, _, _ => by cases h
  | _ :: _, [], h, _, _, _ => by cases h
  | x :: l, y :: m, h, hl, hm, e => by
    have e' : bits l * 2 + (if x = 35 then 1 else 0) = bits m * 2 + (if y = 35 then 1 else 0) := e
    obtain ⟨e1, e2⟩ := mix (R := 2) (by split <;> omega) (by split <;> omega) e'
    rw [bits_inj (by simpa using h) (fun z hz => hl z (by simp [hz])) (fun z hz => hm z (by simp [hz])) e1]
    have hx := hl x (by simp)
    have hy := hm y (by simp)
    have : x = y := by
      rcases hx with hx | hx <;> rcases hy with hy | hy <;> subst hx <;> subst hy <;> first | rfl | (exfalso; revert e2; decide)
    rw [this]
theorem flat_len {C : Nat} : ∀ {b : List Tx}, (∀ x ∈ b, x.length = C) → b.flatten.length = b.length * C
  | [], _ => by simp
  | x :: b, h => by
    rw [List.flatten_cons, List.length_append, flat_len (fun z hz => h z (by simp [hz])), h x (by simp), List.length_cons, Nat.succ_mul]
    omega
theorem flat_inj {C : Nat} : ∀ {a b : List Tx}, a.length = b.length → (∀ x ∈ a, x.length = C) → (∀ x ∈ b, x.length = C) → a.flatten = b.flatten → a = b
  | [], [], _, _, _, _ => rfl
  | [], _ :: _, h, _, _, _ => by cases h
  | _ :: _, [], h, _, _, _ => by cases h
  | x :: a, y :: b, h, ha, hb, e => by
    rw [List.flatten_cons, List.flatten_cons] at e
    obtain ⟨e1, e2⟩ := List.append_inj e (by rw [ha x (by simp), hb y (by simp)])
    rw [e1, flat_inj (by simpa using h) (fun z hz => ha z (by simp [hz])) (fun z hz => hb z (by simp [hz])) e2]
/-- a number for each state -/
def cd (R C : Nat) (w : Ws) : Nat := ((bits w.b.flatten * R + w.r) * C + w.c) * 4 + w.l
theorem cd_inj {R C : Nat} {a b : Ws} (ga : Gd a R C) (gb : Gd b R C) (h : cd R C a = cd R C b) : a = b := by
  unfold cd at h
  obtain ⟨h, h4⟩ := mix ga.hl gb.hl h
  obtain ⟨h, h3⟩ := mix ga.hc gb.hc h
  obtain ⟨h, h2⟩ := mix ga.hr gb.hr h
  have e := bits_inj (by rw [flat_len ga.bd.cols, flat_len gb.bd.cols, ga.bd.rows, gb.bd.rows]) (fun y hy => by
    obtain ⟨x, hx, hy⟩ := List.mem_flatten.mp hy
    exact ga.bd.sgn x hx y hy) (fun y hy => by
    obtain ⟨x, hx, hy⟩ := List.mem_flatten.mp hy
    exact gb.bd.sgn x hx y hy) h
  have e2 := flat_inj (by rw [ga.bd.rows, gb.bd.rows]) ga.bd.cols gb.bd.cols e
  obtain ⟨b1, r1, c1, l1⟩ := a
  obtain ⟨b2, r2, c2, l2⟩ := b
  dsimp only at *
  rw [e2, h2, h3, h4]
theorem cd_lt {R C : Nat} {w : Ws} (g : Gd w R C) : cd R C w < 2 ^ (R * C) * (R * C) * 4 := by
  have h1 := bits_lt w.b.flatten
  rw [flat_len g.bd.cols, g.bd.rows] at h1
  have hr := g.hr
  have hc := g.hc
  have hl := g.hl
  unfold cd
  have a1 : bits w.b.flatten * R + w.r + 1 ≤ 2 ^ (R * C) * R := by
    have : (bits w.b.flatten + 1) * R ≤ 2 ^ (R * C) * R := Nat.mul_le_mul_right _ h1
    rw [Nat.succ_mul] at this
    omega
  have a2 : (bits w.b.flatten * R + w.r) * C + w.c + 1 ≤ 2 ^ (R * C) * (R * C) := by
    have : (bits w.b.flatten * R + w.r + 1) * C ≤ 2 ^ (R * C) * R * C := Nat.mul_le_mul_right _ a1
    rw [Nat.succ_mul] at this
    rw [← Nat.mul_assoc]
    omega
  omega
theorem cd_lt2 {R C : Nat} {w : Ws} (g : Gd w R C) : cd R C w < 18432 := by
  have h := cd_lt g
  have m := g.sz.m9
  have : ∀ m, m < 10 → 2 ^ m * m * 4 ≤ 18432 := by decide
  exact Nat.lt_of_lt_of_le h (this _ (by omega))
/-! ### rounds -/
section
variable {x y R C : Nat} {w : Ws}
theorem stp_inj {a b : Ws} (ga : Gd a R C) (gb : Gd b R C) (h : stp x y R C a = stp x y R C b) : a = b := by
  have e := bk_stp (x := x) (y := y) ga
  rw [h, bk_stp gb] at e
  exact e.symm
theorem itr_add {α : Type} (f : α → α) (w : α) (b : Nat) : ∀ a, itr f (a + b) w = itr f a (itr f b w)
  | 0 => by rw [Nat.zero_add]; rfl
  | a + 1 => by
    rw [Nat.succ_add]
    show f (itr f (a + b) w) = f (itr f a (itr f b w))
    rw [itr_add f w b a]
theorem itr_succ' {α : Type} (f : α → α) (w : α) (a : Nat) : itr f (a + 1) w = itr f a (f w) := itr_add f w 1 a
theorem itr_cancel (g : Gd w R C) (d : Nat) : ∀ i, itr (stp x y R C) i w = itr (stp x y R C) (i + d) w → itr (stp x y R C) d w = w
  | 0, h => by rw [Nat.zero_add] at h; exact h.symm
  | i + 1, h => by
    refine itr_cancel g d i (stp_inj (x := x) (y := y) (itr_gd g _) (itr_gd g _) ?_)
    have e : i + 1 + d = (i + d) + 1 := by omega
    rw [e] at h
    exact h
/-- p is the length of the round of w -/
structure Rl (x y R C : Nat) (w : Ws) (p : Nat) : Prop where
  p1 : 1 ≤ p
  pm : p ≤ 2 ^ (R * C) * (R * C) * 4
  p9 : p ≤ 18432
  cl : itr (stp x y R C) p w = w
  ls : ∀ q, 1 ≤ q → q < p → itr (stp x y R C) q w ≠ w
theorem rl_ex (g : Gd w R C) : ∃ p, Rl x y R C w p := by
  have mm : 2 ^ (R * C) * (R * C) * 4 ≤ 18432 := by
    have m := g.sz.m9
    have : ∀ m, m < 10 → 2 ^ m * m * 4 ≤ 18432 := by decide
    exact this _ (by omega)
  obtain ⟨i, j, h1, h2, h3⟩ := php (2 ^ (R * C) * (R * C) * 4) (fun i => cd R C (itr (stp x y R C) i w)) fun i _ => cd_lt (itr_gd g i)
  have e := cd_inj (itr_gd g i) (itr_gd g j) h3
  have ej : j = i + (j - i) := by omega
  rw [ej] at e
  have e2 := itr_cancel g (j - i) i e
  obtain ⟨m, hm, ⟨m1, m2⟩, m3⟩ := least (fun p => 1 ≤ p ∧ itr (stp x y R C) p w = w) (j - i) ⟨by omega, e2⟩
  exact ⟨m, m1, by omega, by omega, m2, fun q q1 q2 e => m3 q q2 ⟨q1, e⟩⟩
theorem Rl.mul {p : Nat} (h : Rl x y R C w p) : ∀ m, itr (stp x y R C) (m * p) w = w
  | 0 => by rw [Nat.zero_mul]; rfl
  | m + 1 => by
    rw [Nat.succ_mul, itr_add, h.cl, h.mul m]
theorem Rl.mod {p : Nat} (h : Rl x y R C w p) (t : Nat) : itr (stp x y R C) (t % p) w = itr (stp x y R C) t w := by
  have e : t = t % p + t / p * p := by
    have := Nat.mod_add_div t p
    rw [Nat.mul_comm] at this
    exact this.symm
  have e2 : itr (stp x y R C) t w = itr (stp x y R C) (t % p + t / p * p) w := by rw [← e]
  rw [e2, itr_add, h.mul]
theorem Rl.dvd {p : Nat} (h : Rl x y R C w p) {t : Nat} (e : itr (stp x y R C) t w = w) : t % p = 0 := by
  rw [← h.mod] at e
  have lt := Nat.mod_lt t h.p1
  rcases Nat.eq_zero_or_pos (t % p) with q | q
  · exact q
  · exact absurd e (h.ls _ q lt)
theorem Rl.inj {p : Nat} (g : Gd w R C) (h : Rl x y R C w p) {i j : Nat} (hi : i < p) (hj : j < p) (e : itr (stp x y R C) i w = itr (stp x y R C) j w) : i = j := by
  rcases Nat.lt_trichotomy i j with q | q | q
  · have ej : j = i + (j - i) := by omega
    rw [ej] at e
    exact absurd (itr_cancel g _ i e) (h.ls _ (by omega) (by omega))
  · exact q
  · have ej : i = j + (i - j) := by omega
    rw [ej] at e
    exact absurd (itr_cancel g _ j e.symm) (h.ls _ (by omega) (by omega))
theorem Rl.on {p : Nat} (g : Gd w R C) (h : Rl x y R C w p) (m : Nat) : Rl x y R C (itr (stp x y R C) m w) p := by
  refine ⟨h.p1, h.pm, h.p9, ?_, fun q q1 q2 e => ?_⟩
  · rw [← itr_add, Nat.add_comm, itr_add, h.cl]
  · rw [← itr_add, Nat.add_comm] at e
    exact h.ls q q1 q2 (itr_cancel g q m e.symm)
theorem Rl.uniq {p q : Nat} (h : Rl x y R C w p) (h' : Rl x y R C w q) : p = q := by
  rcases Nat.lt_trichotomy p q with z | z | z
  · exact absurd h.cl (h'.ls p h.p1 z)
  · exact z
  · exact absurd h'.cl (h.ls q h'.p1 z)
theorem Rl.back {p : Nat} (g : Gd w R C) (h : Rl x y R C w p) : bk x y R C w = itr (stp x y R C) (p - 1) w := by
  have e : p = (p - 1) + 1 := by have := h.p1; omega
  have c := h.cl
  rw [e] at c
  have c2 : bk x y R C (stp x y R C (itr (stp x y R C) (p - 1) w)) = bk x y R C w := congrArg _ c
  rw [bk_stp (itr_gd g _)] at c2
  exact c2.symm
/-! ### parity -/
theorem cnt_itr (g : Gd w R C) : ∀ m, (cnt (itr (stp x y R C) m w).b - cnt w.b - m) % 2 = 0
  | 0 => by
    show (cnt w.b - cnt w.b - 0) % 2 = 0
    omega
  | m + 1 => by
    have ih := cnt_itr g m
    have gm := itr_gd (x := x) (y := y) g m
    have e := cnt_flip gm.bd gm.hr gm.hc
    have e2 : cnt (itr (stp x y R C) (m + 1) w).b = cnt (flipB (itr (stp x y R C) m w).b (itr (stp x y R C) m w).r (itr (stp x y R C) m w).c) := rfl
    rw [e2, e]
    split <;> omega
theorem even_b (g : Gd w R C) {m : Nat} (h : (itr (stp x y R C) m w).b = w.b) : m % 2 = 0 := by
  have e := cnt_itr (x := x) (y := y) g m
  rw [h] at e
  omega
theorem Rl.even {p : Nat} (g : Gd w R C) (h : Rl x y R C w p) : p % 2 = 0 := even_b g (by rw [h.cl])
end
end Fw

set_option linter.all false
set_option autoImplicit false
set_option maxRecDepth 100000
/-! FwVm: rules whose next state is computed ahead; loops by a state for each turn. -/
namespace Fw
/-- the same state, written out -/
def Nrm (a b : S) : Prop := a = b
section
variable {s s1 s2 s3 : S} {a : E} {x d : D} {r : RS} {p q : Ss} {m : Sm} {n k : Int} {es : Es} {xs : List D}
theorem vSet {i : Nat} (h : ev a s = .ok (x, s1)) (hp : Nrm (s1.put i (.val x)) s2) (h2 : evSs p s2 = r) : evSs (.cons (.set i a) p) s = r := qSet h (by rw [hp]; exact h2)
theorem vSetLc {i : Nat} {tg : Tg} {it : It} (h : ev (.lc tg it a) s = .ok (x, s1)) (hp : Nrm (s1.put i (.val x)) s2) (h2 : evSs p s2 = r) : evSs (.cons (.setLc i tg it a) p) s = r := by
  refine qCons ?_ h2
  show (ev (.lc tg it a) s).then _ = _
  rw [h, ← hp]
  rfl
theorem vSetLcf {i : Nat} {tg : Tg} {it : It} {c : E} (h : ev (.lcf tg it c a) s = .ok (x, s1)) (hp : Nrm (s1.put i (.val x)) s2) (h2 : evSs p s2 = r) : evSs (.cons (.setLcf i tg it c a) p) s = r := by
  refine qCons ?_ h2
  show (ev (.lcf tg it c a) s).then _ = _
  rw [h, ← hp]
  rfl
theorem vAsg {tg : Tg} (h : ev a s = .ok (x, s1)) (hb : bindT tg x s1 = some s3) (hp : Nrm s3 s2) (h2 : evSs p s2 = r) : evSs (.cons (.asg tg a) p) s = r := qAsg h hb (by rw [hp]; exact h2)
theorem vPar {i j : Nat} {e f : Ri} {u v : Sl} (h : evRi e s = .ok (u, s1)) (h1 : evRi f s1 = .ok (v, s3)) (hp : Nrm ((s3.put i u).put j v) s2) (h2 : evSs p s2 = r) : evSs (.cons (.par i j e f) p) s = r := qPar h h1 (by rw [hp]; exact h2)
theorem vOwn {i : Nat} (h : evs es s = .ok (xs, s1)) (hl : xs.length ≤ SL) (hp : Nrm (s1.put i (.ol xs)) s2) (h2 : evSs p s2 = r) : evSs (.cons (.own i es) p) s = r := qOwn h hl (by rw [hp]; exact h2)
theorem vApp {i : Nat} {l l' : List D} (h0 : s.get i = .ol l) (h : ev a s = .ok (x, s1)) (h1 : s1.get i = .ol l') (hl : l'.length < SL) (hp : Nrm (s1.put i (.ol (l' ++ [x]))) s2) (h2 : evSs p s2 = r) : evSs (.cons (.app i a) p) s = r := qApp h0 h h1 hl (by rw [hp]; exact h2)
theorem eOwn' {i : Nat} {l : List D} (h : s.get i = .ol l) (hk : s.lk = false) (hp : Nrm (s.put i (.val (.lst l))) s1) : ev (.var i) s = .ok (.lst l, s1) := by rw [← hp]; exact eOwn h hk
theorem eLeno {i : Nat} {l : List D} (h : s.get i = .ol l) : ev (.leno i) s = .ok (.int l.length, s) := by
  show (match s.get i with | .ol l => Res.ok (D.int l.length, s) | _ => .stuck) = _
  rw [h]
theorem eCall' {f : Nat} {F : FSem} {n' k' : Int} (h : evs es s = .ok (xs, s1)) (h2 : F xs s1.dn s1.dk = .ok (d, n', k')) (hp : Nrm (S.mk s1.env n' k' s1.lk) s2) : ev (.call f F es) s = .ok (d, s2) := by rw [← hp]; exact eCall h h2
theorem eTold' {t : S} (h : ev a (S.mk s.env s.dn s.dk true) = .ok (d, t)) (hp : Nrm (S.mk s.env t.dn t.dk s.lk) s2) : ev (.told a) s = .ok (d, s2) := by rw [← hp]; exact eToldOk h
theorem eToldX' {c : Nat} (h : ev a (S.mk s.env s.dn s.dk true) = .exc c n k) (hp : Nrm (S.mk s.env n k s.lk) s2) : ev (.told a) s = .ok (errD c, s2) := by rw [← hp]; exact eToldX h
theorem eLc' {tg : Tg} {it : It} {ds l : List D} (h : evi it s = .ok (ds, s1)) (h2 : lcL tg (fun t => .ok (.bl true, t)) (ev a) s1 ds s1.dn s1.dk [] = .ok (l, n, k)) (hp : Nrm (S.mk s1.env n k s1.lk) s2) : ev (.lc tg it a) s = .ok (.lst l, s2) := by rw [← hp]; exact eLc h h2
theorem eLcf' {tg : Tg} {it : It} {c : E} {ds l : List D} (h : evi it s = .ok (ds, s1)) (h2 : lcL tg (ev c) (ev a) s1 ds s1.dn s1.dk [] = .ok (l, n, k)) (hp : Nrm (S.mk s1.env n k s1.lk) s2) : ev (.lcf tg it c a) s = .ok (.lst l, s2) := by rw [← hp]; exact eLcf h h2
theorem eRev {z : D} (h : ev a s = .ok (x, s1)) (h2 : revD x = .ok z) : ev (.rev a) s = .ok (z, s1) := by
  show (ev a s).bind _ = _
  rw [h]
  show (revD x).bind _ = _
  rw [h2]
  rfl
theorem iRng2 {b : E} {y : D} {l : List D} (h : ev a s = .ok (x, s1)) (h1 : ev b s1 = .ok (y, s2)) (h2 : rngD x y = .ok l) : evi (.rng2 a b) s = .ok (l, s2) := by
  show (ev a s).bind _ = _
  rw [h]
  show (ev b s1).bind _ = _
  rw [h1]
  show (rngD x y).bind _ = _
  rw [h2]
  rfl
theorem iEnum {l : List D} (h : ev a s = .ok (x, s1)) (h2 : enumD x = .ok l) : evi (.enum a) s = .ok (l, s1) := by
  show (ev a s).bind _ = _
  rw [h]
  show (enumD x).bind _ = _
  rw [h2]
  rfl
/-- an if whose test fails, with no else -/
theorem vIfF (h : ev a s = .ok (.bl false, s1)) (h2 : evSs p s1 = r) : evSs (.cons (.iff a q .nil) p) s = r := qIfF h rfl qNil h2
theorem vIfT {u : Ss} (h : ev a s = .ok (.bl true, s1)) (h2 : evSs q s1 = .nx s2) (h3 : evSs p s2 = r) : evSs (.cons (.iff a q u) p) s = r := qIfT h rfl h2 h3
theorem vOrF {e' : E} {t : Es} {z : Res (D × S)} (h : ev a s = .ok (.bl false, s1)) (h2 : evOr (.cons e' t) s1 = z) : evOr (.cons a (.cons e' t)) s = z := oF h rfl h2
theorem vNot {t : Bool} (h : ev a s = .ok (.bl t, s1)) : ev (.not a) s = .ok (.bl (!t), s1) := eNot h rfl
theorem qForR {tg : Tg} {it : It} {b : Ss} {ds : List D} (h : evi it s = .ok (ds, s1)) (h1 : forL (fun d s => match bindT tg d s with | some s => evSs b s | none => .stuck) ds s1 = .rt d s2) : evSs (.cons (.for_ tg it b) p) s = .rt d s2 := by
  show ((evi it s).then _).then _ = _
  rw [h]
  exact congrArg (fun r => RS.then r fun s' => evSs p s') h1
end
theorem lc_map0 {α : Type} {tg : Tg} {f : S → Res (D × S)} {b : S} {n k : Int} (A G : α → D) (E : α → S) (l : List α)
    (h : ∀ x ∈ l, bindT tg (A x) ⟨wipeL b.env tg.slots, n, k, true⟩ = some (E x) ∧ ∃ t, f (E x) = .ok (G x, t) ∧ t.dn = n ∧ t.dk = k) :
    lcL tg (fun t => .ok (.bl true, t)) f b (l.map A) n k [] = .ok (l.map G, n, k) := lc_map A G E l [] h
theorem lc_filt0 {α : Type} {tg : Tg} {c f : S → Res (D × S)} {b : S} {n k : Int} (A G : α → D) (P : α → Bool) (E : α → S) (l : List α)
    (h : ∀ x ∈ l, bindT tg (A x) ⟨wipeL b.env tg.slots, n, k, true⟩ = some (E x) ∧ c (E x) = .ok (.bl (P x), E x) ∧ f (E x) = .ok (G x, E x) ∧ (E x).dn = n ∧ (E x).dk = k) :
    lcL tg c f b (l.map A) n k [] = .ok ((l.filter P).map G, n, k) := lc_filt A G P E l [] h
/-- a while by a state for each turn -/
theorem wh_from {t : S → Res (D × S)} {b : S → RS} (I : Nat → S) (m : Nat) (he : t (I m) = .ok (.bl false, I m)) : ∀ (d j f : Nat), j + d = m → d < f → (∀ i, j ≤ i → i < m → t (I i) = .ok (.bl true, I i) ∧ b (I i) = .nx (I (i + 1))) → whL t b f (I j) = .nx (I m)
  | 0, j, 0, _, h, _ => by omega
  | 0, j, f + 1, e, _, _ => by
    have : j = m := by omega
    subst this
    exact whF he
  | d + 1, j, 0, _, h, _ => by omega
  | d + 1, j, f + 1, e, h, hs => by
    obtain ⟨h1, h2⟩ := hs j (Nat.le_refl _) (by omega)
    exact whT h1 h2 (wh_from I m he d (j + 1) f (by omega) (by omega) fun i h3 h4 => hs i (by omega) h4)
/-- a for over a list by a state for each turn -/
theorem for_at {f : D → S → RS} (I : Nat → S) : ∀ (l : List D) (j : Nat), (∀ i d, l[i]? = some d → f d (I (j + i)) = .nx (I (j + i + 1))) → forL f l (I j) = .nx (I (j + l.length))
  | [], j, _ => rfl
  | d :: l, j, h => by
    have h0 := h 0 d rfl
    refine forC (s1 := I (j + 1)) h0 ?_
    rw [for_at I l (j + 1) fun i e he => by
      have := h (i + 1) e (by simpa using he)
      have q : j + (i + 1) = j + 1 + i := by omega
      rw [q] at this
      exact this]
    congr 2
    simp
    omega
/-- a for that returns at its turn m -/
theorem for_ret {f : D → S → RS} (I : Nat → S) {v : D} {t : S} : ∀ (l : List D) (j m : Nat), (∀ i d, i < m → l[i]? = some d → f d (I (j + i)) = .nx (I (j + i + 1))) → (∀ d, l[m]? = some d → f d (I (j + m)) = .rt v t) → m < l.length → forL f l (I j) = .rt v t
  | [], j, m, _, _, h => by simp at h
  | d :: l, j, 0, _, h, _ => by
    have h0 : f d (I j) = .rt v t := h d rfl
    show (f d (I j)).then _ = _
    rw [h0]
    rfl
  | d :: l, j, m + 1, h, hr, hm => by
    refine forC (s1 := I (j + 1)) (h 0 d (by omega) rfl) ?_
    refine for_ret I l (j + 1) m (fun i e hi he => ?_) (fun e he => ?_) (by simpa using hm)
    · have := h (i + 1) e (by omega) (by simpa using he)
      have q : j + (i + 1) = j + 1 + i := by omega
      rw [q] at this
      exact this
    · have := hr e (by simpa using he)
      have q : j + (m + 1) = j + 1 + m := by omega
      rw [q] at this
      exact this
end Fw

set_option linter.all false
set_option autoImplicit false
set_option maxRecDepth 100000
set_option maxHeartbeats 4000000
/-! FwMath5: courses and rounds as the defs make them. -/
namespace Fw
section
variable {x y R C : Nat} {w : Ws} {n k : Int}
/-- the first m states -/
def its (x y R C : Nat) (w : Ws) (m : Nat) : List Ws := (List.range m).map fun i => itr (stp x y R C) i w
theorem its_len (m : Nat) : (its x y R C w m).length = m := by simp [its]
theorem its_at {m i : Nat} (h : i < m) : (its x y R C w m)[i]? = some (itr (stp x y R C) i w) := by
  unfold its
  rw [List.getElem?_map, List.getElem?_range h]
  rfl
theorem its_succ (m : Nat) : its x y R C w (m + 1) = its x y R C w m ++ [itr (stp x y R C) m w] := by
  unfold its
  rw [List.range_succ, List.map_append]
  rfl
theorem its_app (m : Nat) : (its x y R C w m).map dW ++ [dW (itr (stp x y R C) m w)] = (its x y R C w (m + 1)).map dW := by
  rw [its_succ, List.map_append]
  rfl
theorem ix_back {m j : Nat} (h : j < m) : ixD (.lst ((its x y R C w m).map dW)) (.int (-1 - (j : Int))) = .ok (dW (itr (stp x y R C) (m - 1 - j) w)) := by
  show (match ati ((its x y R C w m).map dW) (-1 - (j : Int)) with | some d => Res.ok d | none => .stuck) = _
  rw [ati_neg (x := dW (itr (stp x y R C) (m - 1 - j) w)) (by rw [List.length_map, its_len]; omega)]
  rw [List.length_map, its_len, List.getElem?_map, its_at (by omega)]
  rfl
theorem ix_last (m : Nat) : ixD (.lst ((its x y R C w (m + 1)).map dW)) (.int (-1)) = .ok (dW (itr (stp x y R C) m w)) := ix_back (m := m + 1) (j := 0) (by omega)
theorem ix_its {m j : Nat} (h : j < m) : ixD (.lst ((its x y R C w m).map dW)) (.int (j : Int)) = .ok (dW (itr (stp x y R C) j w)) := by
  show (match ati ((its x y R C w m).map dW) (j : Int) with | some d => Res.ok d | none => .stuck) = _
  rw [ati_nat (x := dW (itr (stp x y R C) j w)) (by rw [List.getElem?_map, its_at h] <;> rfl)]
theorem ixS_last {s : S} (m : Nat) : ixS s (.lst ((its x y R C w (m + 1)).map dW)) (.int (-1)) = .ok (dW (itr (stp x y R C) m w)) := ix_last m
theorem ixS_its {s : S} {m j : Nat} (h : j < m) : ixS s (.lst ((its x y R C w m).map dW)) (.int (j : Int)) = .ok (dW (itr (stp x y R C) j w)) := ix_its h
theorem lt_SL {m : Nat} (h : m ≤ 1000000) : m < SL := Nat.lt_of_le_of_lt h (by decide)
theorem its_SL {m : Nat} (h : m ≤ 1000000) : ((its x y R C w m).map dW).length < SL := by
  rw [List.length_map, its_len]
  exact lt_SL h
theorem roundfrom_ok {p : Nat} (hx : isTurn x) (hy : isTurn y) (g : Gd w R C) (h : Rl x y R C w p) : f_round_from [.str [x, y], dW w] n k = .ok (.lst ((its x y R C w p).map dW), n, k) := by
  have p9 := h.p9
  have p1 := h.p1
  refine runR (s := ⟨[.val (.str [x, y]), .val (dW w), .val (.lst ((its x y R C w p).map dW)), .val (dW (itr (stp x y R C) p w))], n, k, false⟩) ?_
  refine vPar (s1 := ⟨[.val (.str [x, y]), .val (dW w), .un, .un], n, k, false⟩) (s2 := ⟨[.val (.str [x, y]), .val (dW w), .ol ((its x y R C w 1).map dW), .val (dW (itr (stp x y R C) 1 w))], n, k, false⟩) (rNl (sCons (eVar rfl) sNil) (Nat.le_of_ble_eq_true rfl)) (rEx (eCall (sCons (eVar rfl) (sCons (eVar rfl) sNil)) (stepped_ok hx hy g))) rfl ?_
  refine qWhil (wh_from (fun j => ⟨[.val (.str [x, y]), .val (dW w), .ol ((its x y R C w j).map dW), .val (dW (itr (stp x y R C) j w))], n, k, false⟩) p ?_ (p - 1) 1 20000 (by omega) (by omega) fun i h1 h2 => ⟨?_, ?_⟩) ?_
  · refine eCmp (eVar rfl) (eVar rfl) ?_
    rw [ne_dW, h.cl]
    simp
  · refine eCmp (eVar rfl) (eVar rfl) ?_
    rw [ne_dW]
    simp [h.ls i h1 h2]
  · refine vApp rfl (eVar rfl) rfl (its_SL (by omega)) (s2 := ⟨[.val (.str [x, y]), .val (dW w), .ol ((its x y R C w (i + 1)).map dW), .val (dW (itr (stp x y R C) i w))], n, k, false⟩) ?_ ?_
    · rw [its_app]
      rfl
    · exact vSet (eCall (sCons (eVar rfl) (sCons (eVar rfl) sNil)) (stepped_ok hx hy (itr_gd g _))) rfl qNil
  · exact qRet (eOwn' rfl rfl rfl)
theorem lround_ok {p : Nat} (hx : isTurn x) (hy : isTurn y) (g : Gd w R C) (h : Rl x y R C w p) : f_law_round [.str [x, y], dW w] n k = .ok (.lst ((its x y R C w p).map dW), n, k) := by
  have p9 := h.p9
  have p1 := h.p1
  refine runR (s := ⟨[.val (.str [x, y]), .val (dW w), .val (.lst ((its x y R C w p).map dW)), .val (dW (itr (stp x y R C) p w))], n, k, false⟩) ?_
  refine vPar (s1 := ⟨[.val (.str [x, y]), .val (dW w), .un, .un], n, k, false⟩) (s2 := ⟨[.val (.str [x, y]), .val (dW w), .ol ((its x y R C w 1).map dW), .val (dW (itr (stp x y R C) 1 w))], n, k, false⟩) (rNl (sCons (eVar rfl) sNil) (Nat.le_of_ble_eq_true rfl)) (rEx (eIx (eCall (sCons (eVar rfl) (sCons (eVar rfl) sNil)) (lstep_ok hx hy g)) eInt rfl)) rfl ?_
  refine qWhil (wh_from (fun j => ⟨[.val (.str [x, y]), .val (dW w), .ol ((its x y R C w j).map dW), .val (dW (itr (stp x y R C) j w))], n, k, false⟩) p ?_ (p - 1) 1 20000 (by omega) (by omega) fun i h1 h2 => ⟨?_, ?_⟩) ?_
  · refine eCmp (eVar rfl) (eVar rfl) ?_
    rw [ne_dW, h.cl]
    simp
  · refine eCmp (eVar rfl) (eVar rfl) ?_
    rw [ne_dW]
    simp [h.ls i h1 h2]
  · refine vApp rfl (eVar rfl) rfl (its_SL (by omega)) (s2 := ⟨[.val (.str [x, y]), .val (dW w), .ol ((its x y R C w (i + 1)).map dW), .val (dW (itr (stp x y R C) i w))], n, k, false⟩) ?_ ?_
    · rw [its_app]
      rfl
    · exact vSet (eIx (eCall (sCons (eVar rfl) (sCons (eVar rfl) sNil)) (lstep_ok hx hy (itr_gd g _))) eInt rfl) rfl qNil
  · exact qRet (eOwn' rfl rfl rfl)
theorem rlen_ok {p : Nat} (hx : isTurn x) (hy : isTurn y) (g : Gd w R C) (h : Rl x y R C w p) : f_round_length [.str [x, y], dW w] n k = .ok (.int (p : Nat), n, k) := by
  refine runR (s := ⟨[.val (.str [x, y]), .val (dW w)], n, k, false⟩) (qExpr (eCall (sCons (eVar rfl) (sCons (eVar rfl) sNil)) (nboth_ok hx hy g.bd g.sz g.hr g.hc g.hl)) (qRet (eB1 (eCall (sCons (eVar rfl) (sCons (eVar rfl) sNil)) (roundfrom_ok hx hy g h)) ?_)))
  show Res.ok (D.int (((its x y R C w p).map dW).length : Int)) = _
  rw [List.length_map, its_len]
/-- the state after t ticks -/
theorem later_ok {t : Nat} (hx : isTurn x) (hy : isTurn y) (g : Gd w R C) : f_later [.str [x, y], dW w, .int t] n k = .ok (dW (itr (stp x y R C) t w), n, k) := by
  obtain ⟨p, h⟩ := rl_ex (x := x) (y := y) g
  have p9 := h.p9
  have p1 := h.p1
  have key : ∃ m, m = min p (t + 1) := ⟨_, rfl⟩
  obtain ⟨m, hm⟩ := key
  have m1 : 1 ≤ m := by omega
  have ht : t % m < m := Nat.mod_lt _ m1
  have et : itr (stp x y R C) (t % m) w = itr (stp x y R C) t w := by
    rcases Nat.lt_or_ge t p with q | q
    · have : t % m = t := Nat.mod_eq_of_lt (by omega)
      rw [this]
    · have : m = p := by omega
      rw [this, h.mod]
  refine runR (s := ⟨[.val (.str [x, y]), .val (dW w), .val (.int t), .ol ((its x y R C w m).map dW), .val (dW (itr (stp x y R C) m w))], n, k, false⟩) ?_
  refine vPar (s1 := ⟨[.val (.str [x, y]), .val (dW w), .val (.int t), .un, .un], n, k, false⟩) (s2 := ⟨[.val (.str [x, y]), .val (dW w), .val (.int t), .ol ((its x y R C w 1).map dW), .val (dW (itr (stp x y R C) 1 w))], n, k, false⟩) (rNl (sCons (eVar rfl) sNil) (Nat.le_of_ble_eq_true rfl)) (rEx (eCall (sCons (eVar rfl) (sCons (eVar rfl) sNil)) (stepped_ok hx hy g))) rfl ?_
  refine qWhil (wh_from (fun j => ⟨[.val (.str [x, y]), .val (dW w), .val (.int t), .ol ((its x y R C w j).map dW), .val (dW (itr (stp x y R C) j w))], n, k, false⟩) m ?_ (m - 1) 1 20000 (by omega) (by omega) fun i h1 h2 => ⟨?_, ?_⟩) ?_
  · rcases Nat.lt_or_ge t p with q | q
    · refine (eAnd (aB (eCmp (eVar rfl) (eVar rfl) (ne_dW _ _)) (aEnd (eCmp (eLeno rfl) (eVar rfl) rfl)))).trans ?_
      congr 3
      rw [List.length_map, its_len, Bool.and_eq_false_iff]
      right
      exact decide_eq_false (by omega)
    · refine eAnd (aF (eCmp (eVar rfl) (eVar rfl) (ne_dW _ _)) ?_)
      have : m = p := by omega
      rw [this, h.cl]
      simp
  · refine (eAnd (aB (eCmp (eVar rfl) (eVar rfl) (ne_dW _ _)) (aEnd (eCmp (eLeno rfl) (eVar rfl) rfl)))).trans ?_
    congr 3
    rw [List.length_map, its_len, Bool.and_eq_true]
    exact ⟨decide_eq_true (h.ls i h1 (by omega)), decide_eq_true (by omega)⟩
  · refine vApp rfl (eVar rfl) rfl (its_SL (by omega)) (s2 := ⟨[.val (.str [x, y]), .val (dW w), .val (.int t), .ol ((its x y R C w (i + 1)).map dW), .val (dW (itr (stp x y R C) i w))], n, k, false⟩) ?_ ?_
    · rw [its_app]
      rfl
    · exact vSet (eCall (sCons (eVar rfl) (sCons (eVar rfl) sNil)) (stepped_ok hx hy (itr_gd g _))) rfl qNil
  · refine qRet (eIxo rfl (eBin (eVar rfl) (eLeno rfl) (z := .int ((t % m : Nat) : Int)) ?_) rfl ?_)
    · rw [List.length_map, its_len, modS (by omega), Int.natCast_emod]
    · rw [ix_its ht, et]
theorem itr_0 {α : Type} (f : α → α) (w : α) : itr f 0 w = w := rfl
theorem nticks_ok {t m : Nat} (h : t ≤ m) : f_need_ticks [.int t, .int m] n k = .ok (.non, n, k) := by
  refine runN (s := ⟨[.val (.int t), .val (.int m)], n, k, false⟩) (qIfF (eNot (eCall (sCons (eVar rfl) (sCons eInt (sCons (eVar rfl) sNil))) (whole_int _ _ _)) rfl) ?_ qNil qNil)
  simp
  omega
theorem after_ok {t : Nat} (hx : isTurn x) (hy : isTurn y) (g : Gd w R C) (ht : t ≤ 1000000) : f_after [.str [x, y], dW w, .int t] n k = .ok (dW (itr (stp x y R C) t w), n, k) :=
  runR (s := ⟨[.val (.str [x, y]), .val (dW w), .val (.int t)], n, k, false⟩) (qExpr (eCall (sCons (eVar rfl) (sCons (eVar rfl) sNil)) (nboth_ok hx hy g.bd g.sz g.hr g.hc g.hl)) (qExpr (eCall (sCons (eVar rfl) (sCons eInt sNil)) (nticks_ok (m := 1000000) ht)) (qRet (eCall (sCons (eVar rfl) (sCons (eVar rfl) (sCons (eVar rfl) sNil))) (later_ok hx hy g)))))
theorem after_0 (hx : isTurn x) (hy : isTurn y) (g : Gd w R C) : f_after [.str [x, y], dW w, .int 0] n k = .ok (dW w, n, k) := after_ok (t := 0) hx hy g (by decide)
theorem course_ok {t : Nat} (hx : isTurn x) (hy : isTurn y) (g : Gd w R C) (ht : t ≤ 1000) : f_course [.str [x, y], dW w, .int t] n k = .ok (.lst ((its x y R C w (t + 1)).map dW), n, k) := by
  refine runR (s := ⟨[.val (.str [x, y]), .val (dW w), .val (.int t), .val (.lst ((its x y R C w (t + 1)).map dW)), tuS .un t], n, k, false⟩) ?_
  refine vOwn (s2 := ⟨[.val (.str [x, y]), .val (dW w), .val (.int t), .ol ((its x y R C w (0 + 1)).map dW), tuS .un 0], n, k, false⟩) (sCons (eVar rfl) sNil) (Nat.le_of_ble_eq_true rfl) rfl ?_
  refine qFor (iRng (eVar rfl) (rng_ok (by omega))) (for_range (fun i => ⟨[.val (.str [x, y]), .val (dW w), .val (.int t), .ol ((its x y R C w (i + 1)).map dW), tuS .un i], n, k, false⟩) t fun i hi => ?_) (qRet (eOwn' rfl rfl rfl))
  refine vApp rfl (eCall (sCons (eVar rfl) (sCons (eIxo rfl (eNeg eInt) rfl (ix_last _)) sNil)) (stepped_ok hx hy (itr_gd g _))) rfl (its_SL (by omega)) ?_ qNil
  rw [← its_app (i + 1)]
  rfl
/-- the cells of the walker -/
abbrev dP (w : Ws) : D := dC w.r w.c
theorem trail_ok {t : Nat} (hx : isTurn x) (hy : isTurn y) (g : Gd w R C) (ht : t ≤ 100) : f_trail [.str [x, y], dW w, .int t] n k = .ok (.tup ((its x y R C w (t + 1)).map dP), n, k) := by
  refine runR (s := ⟨[.val (.str [x, y]), .val (dW w), .val (.int t), .un], n, k, false⟩) (qExpr (eCall (sCons (eVar rfl) (sCons (eVar rfl) sNil)) (nboth_ok hx hy g.bd g.sz g.hr g.hc g.hl)) (qExpr (eCall (sCons (eVar rfl) (sCons eInt sNil)) (nticks_ok (m := 100) ht)) (qRet (eB1 (eLc' (iSeqE (eCall (sCons (eVar rfl) (sCons (eVar rfl) (sCons (eVar rfl) sNil))) (course_ok hx hy g (by omega))) rfl)
    (lc_map dW dP (fun u => ⟨[.val (.str [x, y]), .val (dW w), .val (.int t), .val (dW u)], n, k, true⟩) (its x y R C w (t + 1)) [] fun u hu => ⟨rfl, _, eIx (eVar rfl) eInt rfl, rfl, rfl⟩) rfl) rfl))))
/-- the turns made -/
def tnsM (x y R C : Nat) (w : Ws) (m : Nat) : Tx := (its x y R C w m).map fun u => trn x y u.b u.r u.c
theorem tnsM_len (m : Nat) : (tnsM x y R C w m).length = m := by
  unfold tnsM
  rw [List.length_map, its_len]
theorem mem_its {m : Nat} {u : Ws} (h : u ∈ its x y R C w m) : ∃ i, i < m ∧ u = itr (stp x y R C) i w := by
  obtain ⟨i, hi, e⟩ := List.mem_map.mp h
  exact ⟨i, List.mem_range.mp hi, e.symm⟩
theorem cut_m1 {α : Type} {l : List α} {a : α} : cut (l ++ [a]) none (some (-1)) = l := by
  unfold cut six
  simp only [List.drop_zero, Nat.sub_zero]
  rw [if_pos (by decide), List.length_append]
  have e : ((-1 : Int) + ((l.length + [a].length : Nat) : Int)).toNat = l.length := by simp; omega
  rw [e]
  simp
theorem tmade_ok {t : Nat} (hx : isTurn x) (hy : isTurn y) (g : Gd w R C) (ht : t ≤ 100) : f_turns_made [.str [x, y], dW w, .int t] n k = .ok (.str (tnsM x y R C w t), n, k) := by
  refine runR (s := ⟨[.val (.str [x, y]), .val (dW w), .val (.int t), .un], n, k, false⟩) (qExpr (eCall (sCons (eVar rfl) (sCons (eVar rfl) sNil)) (nboth_ok hx hy g.bd g.sz g.hr g.hc g.hl)) (qExpr (eCall (sCons (eVar rfl) (sCons eInt sNil)) (nticks_ok (m := 100) ht)) (qRet (eM1 eStr (eLc' (iSeqE (eSl (eCall (sCons (eVar rfl) (sCons (eVar rfl) (sCons (eVar rfl) sNil))) (course_ok hx hy g (by omega))) oNone (oSome (eNeg eInt)) (z := .lst ((its x y R C w t).map dW)) ?_) rfl)
    (lc_map dW (fun u => .str [trn x y u.b u.r u.c]) (fun u => ⟨[.val (.str [x, y]), .val (dW w), .val (.int t), .val (dW u)], n, k, true⟩) (its x y R C w t) [] fun u hu => ⟨rfl, _, eCall (sCons (eVar rfl) (sCons (eVar rfl) sNil)) ?_, rfl, rfl⟩) rfl) ?_))))
  · show Res.ok (D.lst (cut ((its x y R C w (t + 1)).map dW) none (some (-1)))) = _
    rw [← its_app, cut_m1]
  · obtain ⟨i, hi, e⟩ := mem_its hu
    have gi := itr_gd (x := x) (y := y) g i
    rw [← e] at gi
    exact turn_ok gi.bd gi.hr gi.hc
  · have e : (its x y R C w t).map (fun u => D.str [trn x y u.b u.r u.c]) = (tnsM x y R C w t).map fun c => .str [c] := by
      unfold tnsM
      rw [List.map_map]
      rfl
    rw [List.nil_append, e]
    exact join_ok (by rw [tnsM_len]; omega)
theorem tnsM_succ (m : Nat) : tnsM x y R C w (m + 1) = tnsM x y R C w m ++ [trn x y (itr (stp x y R C) m w).b (itr (stp x y R C) m w).r (itr (stp x y R C) m w).c] := by
  unfold tnsM
  rw [its_succ, List.map_append]
  rfl
/-- the law's own course -/
theorem lcourse_ok {t : Nat} (hx : isTurn x) (hy : isTurn y) (g : Gd w R C) (ht : t ≤ 500) : f_law_course [.str [x, y], dW w, .int t] n k = .ok (.tup [.lst ((its x y R C w (t + 1)).map dW), .str (tnsM x y R C w t)], n, k) := by
  have hl : ∀ i, ∃ u v : Sl, (i = 0 ∧ u = .un ∧ v = .un) ∨ ∃ j, i = j + 1 ∧ u = .val (dW (itr (stp x y R C) i w)) ∧ v = .val (.str [trn x y (itr (stp x y R C) j w).b (itr (stp x y R C) j w).r (itr (stp x y R C) j w).c]) := fun i => by
    cases i with
    | zero => exact ⟨_, _, .inl ⟨rfl, rfl, rfl⟩⟩
    | succ j => exact ⟨_, _, .inr ⟨j, rfl, rfl, rfl⟩⟩
  let U : Nat → Sl := fun i => match i with | 0 => .un | j + 1 => .val (dW (itr (stp x y R C) (j + 1) w))
  let V : Nat → Sl := fun i => match i with | 0 => .un | j + 1 => .val (.str [trn x y (itr (stp x y R C) j w).b (itr (stp x y R C) j w).r (itr (stp x y R C) j w).c])
  refine runR (s := ⟨[.val (.str [x, y]), .val (dW w), .val (.int t), tuS .un t, .val (.lst ((its x y R C w (t + 1)).map dW)), .val (.str (tnsM x y R C w t)), U t, V t], n, k, false⟩) ?_
  refine vPar (s1 := ⟨[.val (.str [x, y]), .val (dW w), .val (.int t), .un, .un, .un, .un, .un], n, k, false⟩) (s2 := ⟨[.val (.str [x, y]), .val (dW w), .val (.int t), tuS .un 0, .ol ((its x y R C w (0 + 1)).map dW), .val (.str (tnsM x y R C w 0)), U 0, V 0], n, k, false⟩) (rNl (sCons (eVar rfl) sNil) (Nat.le_of_ble_eq_true rfl)) (rEx eStr) rfl ?_
  refine qFor (iRng (eVar rfl) (rng_ok (by omega))) (for_range (fun i => ⟨[.val (.str [x, y]), .val (dW w), .val (.int t), tuS .un i, .ol ((its x y R C w (i + 1)).map dW), .val (.str (tnsM x y R C w i)), U i, V i], n, k, false⟩) t fun i hi => ?_) (qRet (eTup (sCons (eOwn' rfl rfl rfl) (sCons (eVar rfl) sNil)) (Nat.le_of_ble_eq_true rfl)))
  refine vAsg (s2 := ⟨[.val (.str [x, y]), .val (dW w), .val (.int t), tuS .un (i + 1), .ol ((its x y R C w (i + 1)).map dW), .val (.str (tnsM x y R C w i)), U (i + 1), V (i + 1)], n, k, false⟩) (eCall (sCons (eVar rfl) (sCons (eIxo rfl (eNeg eInt) rfl (ix_last _)) sNil)) (lstep_ok hx hy (itr_gd g _))) rfl rfl ?_
  refine vApp rfl (eVar rfl) rfl (its_SL (by omega)) (s2 := ⟨[.val (.str [x, y]), .val (dW w), .val (.int t), tuS .un (i + 1), .ol ((its x y R C w (i + 1 + 1)).map dW), .val (.str (tnsM x y R C w i)), U (i + 1), V (i + 1)], n, k, false⟩) ?_ ?_
  · rw [← its_app (i + 1)]
    rfl
  · refine vSet (x := .str (tnsM x y R C w (i + 1))) (eBin (eVar rfl) (eVar rfl) ?_) rfl qNil
    rw [tnsM_succ]
    exact addT (by rw [tnsM_len]; simp; omega)
end
end Fw

set_option linter.all false
set_option autoImplicit false
set_option maxRecDepth 100000
set_option maxHeartbeats 4000000
/-! FwMath6: what is refused; loops of a law. -/
namespace Fw
/-- a turn of a for -/
def stepF (tg : Tg) (b : Ss) : D → S → RS := fun d s => match bindT tg d s with | some s => evSs b s | none => .stuck
section
variable {s s1 s2 s3 : S} {a c : E} {d : D} {r : RS} {p b q : Ss} {tg : Tg} {it : It} {ds l : List D} {n k : Int} {es : Es}
theorem vFor (h : evi it s = .ok (ds, s1)) (h1 : forL (stepF tg b) ds s1 = .nx s2) (h2 : evSs p s2 = r) : evSs (.cons (.for_ tg it b) p) s = r := qFor h h1 h2
theorem vForR (h : evi it s = .ok (ds, s1)) (h1 : forL (stepF tg b) ds s1 = .rt d s2) : evSs (.cons (.for_ tg it b) p) s = .rt d s2 := qForR h h1
theorem fNil {f : D → S → RS} : forL f [] s = .nx s := rfl
theorem fCons (hb : bindT tg d s = some s3) (hp : Nrm s3 s1) (h : evSs b s1 = .nx s2) (h2 : forL (stepF tg b) l s2 = r) : forL (stepF tg b) (d :: l) s = r := by
  refine forC (s1 := s2) ?_ h2
  unfold stepF
  rw [hb, hp]
  exact h
theorem stepF_ok (hb : bindT tg d s = some s1) (h : evSs b s1 = r) : stepF tg b d s = r := by
  unfold stepF
  rw [hb]
  exact h
theorem vAndF {e' : E} {t : Es} (h : ev a s = .ok (.bl false, s1)) : evAnd (.cons a (.cons e' t)) s = .ok (.bl false, s1) := aF h rfl
theorem vAndT {e' : E} {t : Es} {z : Res (D × S)} (h : ev a s = .ok (.bl true, s1)) (h2 : evAnd (.cons e' t) s1 = z) : evAnd (.cons a (.cons e' t)) s = z := aT h rfl h2
theorem vIfeT {b : E} {r : Res (D × S)} (h : ev a s = .ok (.bl true, s1)) (h2 : ev b s1 = r) : ev (.ife a b c) s = r := eIfT h rfl h2
theorem vIfeF {b : E} {r : Res (D × S)} (h : ev a s = .ok (.bl false, s1)) (h2 : ev c s1 = r) : ev (.ife a b c) s = r := eIfF h rfl h2
theorem ne_of {x y : D} (h : x = y) (f : x.fit 60 = true) : cmpD .ne x y = .ok (.bl false) := by rw [← h]; exact ne_refl f
theorem ne_ints {i j : Int} (h : i = j) : cmpD .ne (.int i) (.int j) = .ok (.bl false) := ne_of (by rw [h]) rfl
/-- a number below many -/
theorem roll_big {m : Nat} (h1 : 1 ≤ m) (h2 : m ≤ 100000000) : ∃ (v : Nat) (n' k' : Int), v < m ∧ f_law_roll [.dice, .int m] n k = .ok (.int (v : Nat), n', k') := by
  have key : ∀ i : Int, ((i % (m : Int)).toNat : Int) = i % (m : Int) ∧ (i % (m : Int)).toNat < m := fun i => by
    have q1 := Int.emod_nonneg i (show (m : Int) ≠ 0 by omega)
    have q2 := Int.emod_lt_of_pos i (show (0 : Int) < m by omega)
    have q3 := Int.toNat_of_nonneg q1
    exact ⟨q3, by omega⟩
  by_cases h : 1000000000000000000 ≤ n
  · obtain ⟨q1, q2⟩ := key n
    refine ⟨(n % (m : Int)).toNat, n / (m : Int), k, q2, ?_⟩
    rw [q1]
    exact runR (s := ⟨[.val .dice, .val (.int m), .val (.int (n % (m : Int)))], n / (m : Int), k, false⟩) (qIfTR (eCmp (eIx (eVar rfl) eInt rfl) (eBin eInt eInt ten18) rfl) (decide_eq_true h)
      (qSet (eBin (eIx (eVar rfl) eInt rfl) (eVar rfl) (modS (by omega))) (qDset0 (eBin (eIx (eVar rfl) eInt rfl) (eVar rfl) (divS (by omega) (by omega))) rfl (qRet (eVar rfl)))))
  · obtain ⟨v, hv⟩ := drawn_ok (n := n) (k := k + 1) n (k + 1)
    obtain ⟨q1, q2⟩ := key (v / 8)
    refine ⟨(v / 8 % (m : Int)).toNat, n, k + 1, q2, ?_⟩
    rw [q1]
    exact runR (s := ⟨[.val .dice, .val (.int m), .un], n, k + 1, false⟩) (qIfF (eCmp (eIx (eVar rfl) eInt rfl) (eBin eInt eInt ten18) rfl) (decide_eq_false h) qNil
      (qDset1 (eBin (eIx (eVar rfl) eInt rfl) eInt rfl) rfl (qRet (eBin (eBin (eCall (sCons (eIx (eVar rfl) eInt rfl) (sCons (eIx (eVar rfl) eInt rfl) sNil)) hv) eInt (divS (by decide) (by decide))) (eVar rfl) (modS (by omega))))))
theorem roll_l {m : Nat} {i : Int} (hi : i = (m : Int)) (h1 : 1 ≤ m) (h2 : m ≤ 100000000) : ∃ (v : Nat) (n' k' : Int), v < m ∧ f_law_roll [.dice, .int i] n k = .ok (.int (v : Nat), n', k') := by
  rw [hi]
  exact roll_big h1 h2
theorem pick3 {i j l : Int} {a b c v : Nat} (hi : i = a) (hj : j = b) (hl : l = c) (h : v < 3) {M : Nat} (ha : a ≤ M) (hb : b ≤ M) (hc : c ≤ M) : ∃ u : Nat, u ≤ M ∧ ∀ s : S, ixS s (.lst [.int i, .int j, .int l]) (.int v) = .ok (.int u) := by
  rw [hi, hj, hl]
  match v, h with
  | 0, _ => exact ⟨a, ha, fun _ => rfl⟩
  | 1, _ => exact ⟨b, hb, fun _ => rfl⟩
  | 2, _ => exact ⟨c, hc, fun _ => rfl⟩
/-- a drawn rule and a drawn state -/
theorem draw_rs (n : Int) {Z : Nat} {zi : Int} (hz : zi = (Z : Int)) (h1 : 1 ≤ Z) (h9 : Z ≤ 9) : ∃ (x y : Nat) (n1 k1 : Int) (w : Ws) (R C : Nat) (n2 k2 : Int), isTurn x ∧ isTurn y ∧ Gd w R C ∧ R * C ≤ Z ∧ f_law_any_rule [.dice] n 0 = .ok (.str [x, y], n1, k1) ∧ f_law_any_state [.dice, .int zi] n1 k1 = .ok (dW w, n2, k2) := by
  rw [hz]
  obtain ⟨x, y, n1, k1, hx, hy, e1⟩ := anyrule_ok (n := n) (k := 0)
  obtain ⟨w, R, C, n2, k2, hb, a1, a2, a3, a4, a5, hr, hc, hl, e2⟩ := anystate_ok (n := n1) (k := k1) (Z := Z) h1
  exact ⟨x, y, n1, k1, w, R, C, n2, k2, hx, hy, ⟨hb, ⟨a1, a2, a3, a4, by omega⟩, hr, hc, hl⟩, a5, e1, e2⟩
/-! ### refused -/
theorem whole_no {d : D} (lo hi : Int) (h : isiD .int d = .ok (.bl false)) : f_is_whole [d, .int lo, .int hi] n k = .ok (.bl false, n, k) :=
  runR (s := ⟨[.val d, .val (.int lo), .val (.int hi)], n, k, false⟩) (qRet (eAnd (aF (eIsi (eVar rfl) h) rfl)))
theorem whole_bl (t : Bool) (lo hi : Int) : f_is_whole [.bl t, .int lo, .int hi] n k = .ok (.bl false, n, k) :=
  runR (s := ⟨[.val (.bl t), .val (.int lo), .val (.int hi)], n, k, false⟩) (qRet (eAnd (aT (eIsi (eVar rfl) rfl) rfl (aF (eNot (eIsi (eVar rfl) rfl) rfl) rfl))))
theorem whole_out {v lo hi : Int} (h : v < lo ∨ hi < v) : f_is_whole [.int v, .int lo, .int hi] n k = .ok (.bl false, n, k) := by
  rw [whole_int]
  have : (decide (lo ≤ v) && decide (v ≤ hi)) = false := by
    rw [Bool.eq_false_iff]
    simp
    omega
  rw [this]
theorem whole_in {v lo hi : Int} (h1 : lo ≤ v) (h2 : v ≤ hi) : f_is_whole [.int v, .int lo, .int hi] n k = .ok (.bl true, n, k) := by
  rw [whole_int]
  have : (decide (lo ≤ v) && decide (v ≤ hi)) = true := by
    simp
    omega
  rw [this]
/-- not a whole number within the bounds -/
def NotW (d : D) (lo hi : Int) : Prop := ∀ n k : Int, f_is_whole [d, .int lo, .int hi] n k = .ok (.bl false, n, k)
theorem notW_non {lo hi : Int} : NotW .non lo hi := fun _ _ => whole_no _ _ rfl
theorem notW_str {l : Tx} {lo hi : Int} : NotW (.str l) lo hi := fun _ _ => whole_no _ _ rfl
theorem notW_bl {t : Bool} {lo hi : Int} : NotW (.bl t) lo hi := fun _ _ => whole_bl _ _ _
theorem notW_int {v lo hi : Int} (h : v < lo ∨ hi < v) : NotW (.int v) lo hi := fun _ _ => whole_out h
theorem nticks_no {m : Int} (h : NotW d 0 m) : f_need_ticks [d, .int m] n k = .exc 5 n k :=
  runX (qIfTX (eNot (eCall (sCons (eVar rfl) (sCons eInt (sCons (eVar rfl) sNil))) (h _ _)) rfl) rfl qRais)
variable {x y R C : Nat} {w : Ws}
theorem after_no (hx : isTurn x) (hy : isTurn y) (g : Gd w R C) (h : NotW d 0 1000000) : f_after [.str [x, y], dW w, d] n k = .exc 5 n k :=
  runX (qExpr (eCall (sCons (eVar rfl) (sCons (eVar rfl) sNil)) (nboth_ok hx hy g.bd g.sz g.hr g.hc g.hl)) (qExprX (eCallX (sCons (eVar rfl) (sCons eInt sNil)) (nticks_no h))))
theorem trail_no (hx : isTurn x) (hy : isTurn y) (g : Gd w R C) (h : NotW d 0 100) : f_trail [.str [x, y], dW w, d] n k = .exc 5 n k :=
  runX (qExpr (eCall (sCons (eVar rfl) (sCons (eVar rfl) sNil)) (nboth_ok hx hy g.bd g.sz g.hr g.hc g.hl)) (qExprX (eCallX (sCons (eVar rfl) (sCons eInt sNil)) (nticks_no h))))
theorem tmade_no (hx : isTurn x) (hy : isTurn y) (g : Gd w R C) (h : NotW d 0 100) : f_turns_made [.str [x, y], dW w, d] n k = .exc 5 n k :=
  runX (qExpr (eCall (sCons (eVar rfl) (sCons (eVar rfl) sNil)) (nboth_ok hx hy g.bd g.sz g.hr g.hc g.hl)) (qExprX (eCallX (sCons (eVar rfl) (sCons eInt sNil)) (nticks_no h))))
/-! no rule, no state -/
def NotR (d : D) : Prop := ∀ n k : Int, f_need_rule [d] n k = .exc 1 n k
def NotS (d : D) : Prop := ∀ n k : Int, f_need_state [d] n k = .exc 2 n k
theorem notS_of (h : isiD .tuple d = .ok (.bl false)) : NotS d := fun n k =>
  runX (qIfTX (eNot (t := false) (u := true) (eCall (sCons (eVar rfl) sNil) (runR (s := ⟨[.val d], n, k, false⟩) (qIfTR (eOr (oT (eNot (eIsi (eVar rfl) h) rfl) rfl)) rfl (qRet eBl)))) rfl) rfl qRais)
theorem notR_of (h : isiD .str d = .ok (.bl false)) : NotR d := fun n k =>
  runX (qIfTX (eNot (t := false) (u := true) (eCall (sCons (eVar rfl) sNil) (runR (s := ⟨[.val d, .un], n, k, false⟩) (qRet (eAnd (aF (eIsi (eVar rfl) h) rfl))))) rfl) rfl qRais)
theorem notR_len {l : Tx} (h : l.length ≠ 2) : NotR (.str l) := fun n k =>
  runX (qIfTX (eNot (t := false) (u := true) (eCall (sCons (eVar rfl) sNil) (runR (s := ⟨[.val (.str l), .un], n, k, false⟩) (qRet (eAnd (aT (eIsi (eVar rfl) rfl) rfl (aF (t := false) (eCmp (eB1 (eVar rfl) rfl) eInt (by rw [int_eq, decide_eq_false (by omega)])) rfl)))))) rfl) rfl qRais)
theorem nboth_noR {e : D} (h : NotR d) : f_need_both [d, e] n k = .exc 1 n k :=
  runX (qExprX (eCallX (sCons (eVar rfl) sNil) (h _ _)))
theorem nboth_noS (hx : isTurn x) (hy : isTurn y) (h : NotS d) : f_need_both [.str [x, y], d] n k = .exc 2 n k :=
  runX (qExpr (eCall (sCons (eVar rfl) sNil) (nrule_ok hx hy)) (qExprX (eCallX (sCons (eVar rfl) sNil) (h _ _))))
end
end Fw

set_option linter.all false
set_option autoImplicit false
set_option maxRecDepth 100000
set_option maxHeartbeats 4000000
/-! FwMath7: home, boards again, ticks to a state. -/
namespace Fw
section
variable {x y R C : Nat} {w : Ws} {n k : Int}
theorem enum_range' (f : Nat → D) : ∀ m j, enumL j ((List.range' j m).map f) = (List.range' j m).map fun i => .tup [.int (i : Nat), f i]
  | 0, _ => rfl
  | m + 1, j => by
    show D.tup [.int (j : Nat), f j] :: enumL (j + 1) ((List.range' (j + 1) m).map f) = _
    rw [enum_range' f m (j + 1)]
    rfl
theorem enum_range (f : Nat → D) (m : Nat) : enumL 0 ((List.range m).map f) = (List.range m).map fun i => .tup [.int (i : Nat), f i] := by
  rw [List.range_eq_range', enum_range']
theorem its_range (m : Nat) : (its x y R C w m).map dW = (List.range m).map fun i => dW (itr (stp x y R C) i w) := by
  unfold its
  rw [List.map_map]
  rfl
theorem enum_its (m : Nat) : enumD (.lst ((its x y R C w m).map dW)) = .ok ((List.range m).map fun i => .tup [.int (i : Nat), dW (itr (stp x y R C) i w)]) := by
  show Res.ok (enumL 0 ((its x y R C w m).map dW)) = _
  rw [its_range, enum_range]
theorem filter_first {P : Nat → Bool} {h : Nat} (hp : P h = true) (hl : ∀ i, i < h → P i = false) : ∀ m, h < m → ∃ r, (List.range m).filter P = h :: r
  | 0, z => by omega
  | m + 1, z => by
    rw [List.range_succ, List.filter_append]
    rcases Nat.lt_or_ge h m with q | q
    · obtain ⟨r, e⟩ := filter_first hp hl m q
      rw [e]
      exact ⟨_, rfl⟩
    · have e : h = m := by omega
      subst e
      have : (List.range h).filter P = [] := by
        rw [List.filter_eq_nil_iff]
        intro a ha
        rw [hl a (List.mem_range.mp ha)]
        decide
      rw [this]
      exact ⟨[], by simp [hp]⟩
theorem filter_none {P : Nat → Bool} {m : Nat} (hl : ∀ i, i < m → P i = false) : (List.range m).filter P = [] := by
  rw [List.filter_eq_nil_iff]
  intro a ha
  rw [hl a (List.mem_range.mp ha)]
  decide
/-- the same cell and look -/
def Hm (a b : Ws) : Prop := a.r = b.r ∧ a.c = b.c ∧ a.l = b.l
instance (a b : Ws) : Decidable (Hm a b) := inferInstanceAs (Decidable (_ ∧ _ ∧ _))
abbrev dH (w : Ws) : D := .tup [dC w.r w.c, .int w.l]
theorem dH_iff (a b : Ws) : dH a = dH b ↔ Hm a b := by
  unfold Hm
  constructor
  · intro h
    unfold dH dC at h
    injection h with h
    injection h with h1 h
    injection h with h2 h
    injection h1 with h1
    injection h1 with h3 h1
    injection h1 with h4 h1
    injection h2 with h2
    injection h3 with h3
    injection h4 with h4
    exact ⟨Int.ofNat.inj h3, Int.ofNat.inj h4, Int.ofNat.inj h2⟩
  · rintro ⟨h1, h2, h3⟩
    unfold dH
    rw [h1, h2, h3]
theorem ne_dH (a b : Ws) : cmpD .ne (dH a) (dH b) = .ok (.bl (decide (¬ Hm a b))) := ne_pl rfl rfl rfl rfl _ (dH_iff a b)
theorem eq_dH (a b : Ws) : cmpD .eq (dH a) (dH b) = .ok (.bl (decide (Hm a b))) := eq_pl rfl rfl rfl rfl _ (dH_iff a b)
theorem dB_iff (a b : List Tx) : dB a = dB b ↔ a = b := by
  constructor
  · intro h
    unfold dB at h
    injection h with h
    exact strs_inj h
  · intro h
    rw [h]
theorem pl_dB (b : List Tx) : (dB b).pl = true := pls_strs b
theorem ne_dB (a b : List Tx) : cmpD .ne (dB a) (dB b) = .ok (.bl (decide (¬ a = b))) := ne_pl (pl_dB a) (pl_dB b) (fit_dB a 59) (fit_dB b 59) _ (dB_iff a b)
theorem eq_dB (a b : List Tx) : cmpD .eq (dB a) (dB b) = .ok (.bl (decide (a = b))) := eq_pl (pl_dB a) (pl_dB b) (fit_dB a 59) (fit_dB b 59) _ (dB_iff a b)
theorem sl_dW (w : Ws) : slD (dW w) (some 1) none = .ok (dH w) := rfl
theorem Ws.ext' {a b : Ws} (h : Hm a b) (hb : a.b = b.b) : a = b := by
  obtain ⟨b1, r1, c1, l1⟩ := a
  obtain ⟨b2, r2, c2, l2⟩ := b
  obtain ⟨h1, h2, h3⟩ := h
  dsimp only at *
  rw [h1, h2, h3, hb]
/-- the first time at home, with the same board -/
structure Fst (P : Nat → Prop) (h : Nat) : Prop where
  h1 : 1 ≤ h
  ph : P h
  ls : ∀ i, 1 ≤ i → i < h → ¬ P i
theorem fst_ex {P : Nat → Prop} {p : Nat} (h1 : 1 ≤ p) (hp : P p) : ∃ h, h ≤ p ∧ Fst P h := by
  obtain ⟨m, a, ⟨b1, b2⟩, c⟩ := least (fun i => 1 ≤ i ∧ P i) p ⟨h1, hp⟩
  exact ⟨m, a, b1, b2, fun i z1 z2 z3 => c i z2 ⟨z1, z3⟩⟩
theorem Fst.uniq {P : Nat → Prop} {a b : Nat} (h : Fst P a) (h' : Fst P b) : a = b := by
  rcases Nat.lt_trichotomy a b with z | z | z
  · exact absurd h.ph (h'.ls a h.h1 z)
  · exact z
  · exact absurd h'.ph (h.ls b h'.h1 z)
theorem bhome_ok {h : Nat} (hx : isTurn x) (hy : isTurn y) (g : Gd w R C) (f : Fst (fun i => Hm (itr (stp x y R C) i w) w) h) (hh : h ≤ 18432) : f_back_home [.str [x, y], dW w] n k = .ok (.int (h : Nat), n, k) := by
  have h1 := f.h1
  refine runR (s := ⟨[.val (.str [x, y]), .val (dW w), .val (.int (h : Nat)), .val (dW (itr (stp x y R C) h w))], n, k, false⟩) ?_
  refine qExpr (eCall (sCons (eVar rfl) (sCons (eVar rfl) sNil)) (nboth_ok hx hy g.bd g.sz g.hr g.hc g.hl)) ?_
  refine vPar (s2 := ⟨[.val (.str [x, y]), .val (dW w), .val (.int ((1 : Nat) : Int)), .val (dW (itr (stp x y R C) 1 w))], n, k, false⟩) (rEx eInt) (rEx (eCall (sCons (eVar rfl) (sCons (eVar rfl) sNil)) (stepped_ok hx hy g))) rfl ?_
  refine qWhil (wh_from (fun j => ⟨[.val (.str [x, y]), .val (dW w), .val (.int (j : Nat)), .val (dW (itr (stp x y R C) j w))], n, k, false⟩) h ?_ (h - 1) 1 20000 (by omega) (by omega) fun i i1 i2 => ⟨?_, ?_⟩) (qRet (eVar rfl))
  · refine eCmp (eSl (eVar rfl) (oSome eInt) oNone (sl_dW _)) (eSl (eVar rfl) (oSome eInt) oNone (sl_dW _)) ?_
    rw [ne_dH, decide_eq_false (fun z => z f.ph)]
  · refine eCmp (eSl (eVar rfl) (oSome eInt) oNone (sl_dW _)) (eSl (eVar rfl) (oSome eInt) oNone (sl_dW _)) ?_
    rw [ne_dH, decide_eq_true (f.ls i i1 i2)]
  · exact vPar (s2 := ⟨[.val (.str [x, y]), .val (dW w), .val (.int ((i + 1 : Nat) : Int)), .val (dW (itr (stp x y R C) (i + 1) w))], n, k, false⟩) (rEx (eBin (eVar rfl) eInt rfl)) (rEx (eCall (sCons (eVar rfl) (sCons (eVar rfl) sNil)) (stepped_ok hx hy (itr_gd g i)))) rfl qNil
theorem bagain_ok {h : Nat} (hx : isTurn x) (hy : isTurn y) (g : Gd w R C) (f : Fst (fun i => (itr (stp x y R C) i w).b = w.b) h) (hh : h ≤ 18432) : f_board_again [.str [x, y], dW w] n k = .ok (.int (h : Nat), n, k) := by
  have h1 := f.h1
  refine runR (s := ⟨[.val (.str [x, y]), .val (dW w), .val (.int (h : Nat)), .val (dW (itr (stp x y R C) h w))], n, k, false⟩) ?_
  refine qExpr (eCall (sCons (eVar rfl) (sCons (eVar rfl) sNil)) (nboth_ok hx hy g.bd g.sz g.hr g.hc g.hl)) ?_
  refine vPar (s2 := ⟨[.val (.str [x, y]), .val (dW w), .val (.int ((1 : Nat) : Int)), .val (dW (itr (stp x y R C) 1 w))], n, k, false⟩) (rEx eInt) (rEx (eCall (sCons (eVar rfl) (sCons (eVar rfl) sNil)) (stepped_ok hx hy g))) rfl ?_
  refine qWhil (wh_from (fun j => ⟨[.val (.str [x, y]), .val (dW w), .val (.int (j : Nat)), .val (dW (itr (stp x y R C) j w))], n, k, false⟩) h ?_ (h - 1) 1 20000 (by omega) (by omega) fun i i1 i2 => ⟨?_, ?_⟩) (qRet (eVar rfl))
  · refine eCmp (eIx (eVar rfl) eInt rfl) (eIx (eVar rfl) eInt rfl) ?_
    rw [ne_dB, decide_eq_false (fun z => z f.ph)]
  · refine eCmp (eIx (eVar rfl) eInt rfl) (eIx (eVar rfl) eInt rfl) ?_
    rw [ne_dB, decide_eq_true (f.ls i i1 i2)]
  · exact vPar (s2 := ⟨[.val (.str [x, y]), .val (dW w), .val (.int ((i + 1 : Nat) : Int)), .val (dW (itr (stp x y R C) (i + 1) w))], n, k, false⟩) (rEx (eBin (eVar rfl) eInt rfl)) (rEx (eCall (sCons (eVar rfl) (sCons (eVar rfl) sNil)) (stepped_ok hx hy (itr_gd g i)))) rfl qNil
/-! ### ticks_to -/
abbrev tB : Ss := .cons (.iff (.cmp .eq (.var 4) (.var 2)) (.cons (.ret (.var 3)) .nil) .nil) .nil
def tI (x y R C : Nat) (w v : Ws) (n k : Int) : Nat → S
  | 0 => ⟨[.val (.str [x, y]), .val (dW w), .val (dW v), .un, .un], n, k, false⟩
  | j + 1 => ⟨[.val (.str [x, y]), .val (dW w), .val (dW v), .val (.int (j : Nat)), .val (dW (itr (stp x y R C) j w))], n, k, false⟩
theorem tI_bind {v : Ws} (j : Nat) : bindT (.tup (.cons (.nm 3) (.cons (.nm 4) .nil))) (.tup [.int (j : Nat), dW (itr (stp x y R C) j w)]) (tI x y R C w v n k j) = some (tI x y R C w v n k (j + 1)) := by
  cases j <;> rfl
theorem range_at {m i : Nat} {f : Nat → D} {d : D} (h : ((List.range m).map f)[i]? = some d) : i < m ∧ d = f i := by
  rw [List.getElem?_map] at h
  rcases Nat.lt_or_ge i m with q | q
  · rw [List.getElem?_range q] at h
    exact ⟨q, by injection h with h; exact h.symm⟩
  · rw [List.getElem?_eq_none (by simpa using q)] at h
    cases h
theorem tI_n {v : Ws} (j : Nat) : (tI x y R C w v n k j).dn = n ∧ (tI x y R C w v n k j).dk = k := by cases j <;> exact ⟨rfl, rfl⟩
theorem tticks_ok {p i R' C' : Nat} {v : Ws} (hx : isTurn x) (hy : isTurn y) (g : Gd w R C) (gv : Gd v R' C') (h : Rl x y R C w p) (hi : i < p) (e : v = itr (stp x y R C) i w) : f_ticks_to [.str [x, y], dW w, dW v] n k = .ok (.int (i : Nat), n, k) := by
  refine runR (s := tI x y R C w v n k (i + 1)) ?_
  refine qExpr (eCall (sCons (eVar rfl) (sCons (eVar rfl) sNil)) (nboth_ok hx hy g.bd g.sz g.hr g.hc g.hl)) ?_
  refine qExpr (eCall (sCons (eVar rfl) sNil) (nstate_ok gv.bd gv.sz gv.hr gv.hc gv.hl)) ?_
  refine vForR (s1 := tI x y R C w v n k 0) (iEnum (eCall (sCons (eVar rfl) (sCons (eVar rfl) sNil)) (roundfrom_ok hx hy g h)) (enum_its p)) ?_
  refine for_ret (fun j => tI x y R C w v n k j) _ 0 i (fun j d hj hd => ?_) (fun d hd => ?_) (by simpa using hi)
  · obtain ⟨q1, q2⟩ := range_at hd
    rw [Nat.zero_add, q2]
    refine stepF_ok (tI_bind j) (qIfF (t := false) (eCmp (eVar rfl) (eVar rfl) ?_) rfl qNil qNil)
    rw [eq_dW, decide_eq_false]
    intro z
    rw [e] at z
    have := h.inj g q1 hi z
    omega
  · obtain ⟨q1, q2⟩ := range_at hd
    rw [Nat.zero_add, q2]
    refine stepF_ok (tI_bind i) (qIfTR (t := true) (eCmp (eVar rfl) (eVar rfl) ?_) rfl (qRet (eVar rfl)))
    rw [eq_dW, decide_eq_true e.symm]
theorem tticks_non {p R' C' : Nat} {v : Ws} (hx : isTurn x) (hy : isTurn y) (g : Gd w R C) (gv : Gd v R' C') (h : Rl x y R C w p) (e : ∀ i, i < p → v ≠ itr (stp x y R C) i w) : f_ticks_to [.str [x, y], dW w, dW v] n k = .ok (.non, n, k) := by
  have ek := tI_n (x := x) (y := y) (R := R) (C := C) (w := w) (n := n) (k := k) (v := v) (0 + p)
  suffices key : f_ticks_to [.str [x, y], dW w, dW v] n k = .ok (.non, (tI x y R C w v n k (0 + p)).dn, (tI x y R C w v n k (0 + p)).dk) by
    rw [ek.1, ek.2] at key
    exact key
  refine runR (s := tI x y R C w v n k (0 + p)) ?_
  refine qExpr (eCall (sCons (eVar rfl) (sCons (eVar rfl) sNil)) (nboth_ok hx hy g.bd g.sz g.hr g.hc g.hl)) ?_
  refine qExpr (eCall (sCons (eVar rfl) sNil) (nstate_ok gv.bd gv.sz gv.hr gv.hc gv.hl)) ?_
  refine vFor (s1 := tI x y R C w v n k 0) (iEnum (eCall (sCons (eVar rfl) (sCons (eVar rfl) sNil)) (roundfrom_ok hx hy g h)) (enum_its p)) ?_ (qRet eNon)
  have := for_at (f := stepF (.tup (.cons (.nm 3) (.cons (.nm 4) .nil))) tB) (fun j => tI x y R C w v n k j) ((List.range p).map fun i => .tup [.int (i : Nat), dW (itr (stp x y R C) i w)]) 0 (fun j d hd => by
    obtain ⟨q1, q2⟩ := range_at hd
    rw [Nat.zero_add, q2]
    refine stepF_ok (tI_bind j) (qIfF (t := false) (eCmp (eVar rfl) (eVar rfl) ?_) rfl qNil qNil)
    rw [eq_dW, decide_eq_false (fun z => e j q1 z.symm)])
  rw [List.length_map, List.length_range] at this
  exact this
theorem fits_ints (l : List Nat) (m : Nat) : D.fits m (l.map fun i => .int (i : Nat)) = true := by
  induction l with
  | nil => rfl
  | cons a l ih =>
    show (D.fit m (.int (a : Nat)) && D.fits m (l.map fun i => .int (i : Nat))) = true
    rw [ih, Bool.and_true]
    cases m <;> rfl
theorem ne_nil (a : Nat) (r : List Nat) : cmpD .ne (.lst ((a :: r).map fun i => .int (i : Nat))) (.lst []) = .ok (.bl true) := by
  show (if D.fits 59 ((a :: r).map fun i => .int (i : Nat)) && true then Res.ok (D.bl (!false)) else .stuck) = _
  rw [fits_ints]
  rfl
theorem eq_nil (a : Nat) (r : List Nat) : cmpD .eq (.lst ((a :: r).map fun i => .int (i : Nat))) (.lst []) = .ok (.bl false) := by
  show (if D.fits 59 ((a :: r).map fun i => .int (i : Nat)) && true then Res.ok (D.bl false) else .stuck) = _
  rw [fits_ints]
  rfl
theorem ix0_ints (s : S) (a : Nat) (r : List Nat) : ixS s (.lst ((a :: r).map fun i => .int (i : Nat))) (.int 0) = .ok (.int a) := rfl
theorem len_its (m : Nat) : b1D .len (.lst ((its x y R C w m).map dW)) = .ok (.int (m : Nat)) := by
  show Res.ok (D.int (((its x y R C w m).map dW).length : Int)) = _
  rw [List.length_map, its_len]
def tailSs : Nat → Ss → Ss
  | 0, s => s
  | n + 1, .cons _ r => tailSs n r
  | _ + 1, .nil => .nil
theorem vAndF_gt {s s1 : S} {a b e' : E} {t : Es} (h : ev (.cmp .gt a b) s = .ok (.bl false, s1)) : evAnd (.cons (.cmp .gt a b) (.cons e' t)) s = .ok (.bl false, s1) := aF h rfl
theorem gt_ints {i j : Int} (h : ¬ j < i) : cmpD .gt (.int i) (.int j) = .ok (.bl false) := by
  show Res.ok (D.bl (decide (j < i))) = _
  rw [decide_eq_false h]
theorem gt_intsT {i j : Int} (h : j < i) : cmpD .gt (.int i) (.int j) = .ok (.bl true) := by
  show Res.ok (D.bl (decide (j < i))) = _
  rw [decide_eq_true h]
theorem tticks_noR {d e f : D} (h : NotR d) : f_ticks_to [d, e, f] n k = .exc 1 n k := runX (qExprX (eCallX (sCons (eVar rfl) (sCons (eVar rfl) sNil)) (nboth_noR h)))
theorem tticks_noS {f : D} (hx : isTurn x) (hy : isTurn y) (g : Gd w R C) (h : NotS f) : f_ticks_to [.str [x, y], dW w, f] n k = .exc 2 n k := runX (qExpr (eCall (sCons (eVar rfl) (sCons (eVar rfl) sNil)) (nboth_ok hx hy g.bd g.sz g.hr g.hc g.hl)) (qExprX (eCallX (sCons (eVar rfl) sNil) (h _ _))))
/-! a state of another size is never met -/
theorem gd_size {R' C' : Nat} (g : Gd w R C) (g' : Gd w R' C') : R = R' ∧ C = C' := by
  have h1 := g.bd.rows
  have h2 := g'.bd.rows
  have h3 := g.bd.row0 g.sz.r1
  have h4 := g'.bd.row0 g'.sz.r1
  exact ⟨by omega, by omega⟩
end
end Fw

set_option linter.all false
set_option autoImplicit false
set_option maxRecDepth 100000
set_option maxHeartbeats 4000000
/-! FwMath8: boards by their cells; changes that keep the walk. -/
namespace Fw
/-! ### boards by their cells -/
def mkB (R C : Nat) (f : Nat → Nat → Nat) : List Tx := (List.range R).map fun i => (List.range C).map fun j => f i j
section
variable {x y x' y' R C : Nat} {w : Ws} {n k : Int} {a b : List Tx}
theorem at_mk {f : Nat → Nat → Nat} {i j : Nat} (hi : i < R) (hj : j < C) : at_ (mkB R C f) i j = f i j := by
  unfold at_ mkB
  simp [List.getD, hi, hj]
theorem mk_bd {f : Nat → Nat → Nat} (h : ∀ i j, i < R → j < C → f i j = 46 ∨ f i j = 35) : Bd (mkB R C f) R C := by
  unfold mkB
  refine ⟨by simp, fun z hz => ?_, fun z hz v hv => ?_⟩
  · obtain ⟨i, hi, e⟩ := List.mem_map.mp hz
    rw [← e]
    simp
  · obtain ⟨i, hi, e⟩ := List.mem_map.mp hz
    rw [← e] at hv
    obtain ⟨j, hj, e2⟩ := List.mem_map.mp hv
    rw [← e2]
    exact h i j (List.mem_range.mp hi) (List.mem_range.mp hj)
theorem bd_ext (ha : Bd a R C) (hb : Bd b R C) (h : ∀ i j, i < R → j < C → at_ a i j = at_ b i j) : a = b := by
  refine List.ext_getElem (by rw [ha.rows, hb.rows]) fun i h1 h2 => ?_
  have l1 := ha.cols _ (List.getElem_mem h1)
  have l2 := hb.cols _ (List.getElem_mem h2)
  refine List.ext_getElem (by rw [l1, l2]) fun j h3 h4 => ?_
  have := h i j (by rw [← ha.rows]; exact h1) (by rw [← l1]; exact h3)
  unfold at_ at this
  simpa [List.getD, h1, h2, h3, h4] using this
theorem bd_mk (hb : Bd b R C) : mkB R C (at_ b) = b := bd_ext (mk_bd fun i j hi hj => at_sgn hb hi hj) hb fun i j hi hj => at_mk hi hj
theorem at_flipG {r c i j : Nat} (hb : Bd b R C) (hr : r < R) (hc : c < C) : at_ (flipB b r c) i j = if i = r ∧ j = c then fl (at_ b r c) else at_ b i j := by
  by_cases q : i = r
  · subst q
    by_cases q2 : j = c
    · subst q2
      rw [if_pos ⟨rfl, rfl⟩]
      exact at_flip hb hr hc
    · rw [if_neg (fun z => q2 z.2)]
      show ((flipB b i c).getD i []).getD j 0 = _
      rw [row_flip (by rw [hb.rows]; exact hr), List.getD, List.getElem?_set_ne (fun z => q2 z.symm)]
      rfl
  · rw [if_neg (fun z => q z.1)]
    have e : (flipB b r c).getD i [] = b.getD i [] := by
      unfold flipB
      rw [List.getD, List.getElem?_set_ne (fun z => q z.symm)]
      rfl
    show ((flipB b r c).getD i []).getD j 0 = _
    rw [e]
    rfl
/-! ### changes of states -/
structure Sym (x y x' y' R C : Nat) (f : Ws → Ws) : Prop where
  gd : ∀ {w}, Gd w R C → Gd (f w) R C
  st : ∀ {w}, Gd w R C → f (stp x y R C w) = stp x' y' R C (f w)
  inj : ∀ {a b}, Gd a R C → Gd b R C → f a = f b → a = b
variable {f : Ws → Ws}
theorem Sym.itr (S : Sym x y x' y' R C f) (g : Gd w R C) : ∀ m, f (itr (stp x y R C) m w) = itr (stp x' y' R C) m (f w)
  | 0 => rfl
  | m + 1 => by
    show f (stp x y R C (Fw.itr (stp x y R C) m w)) = stp x' y' R C (Fw.itr (stp x' y' R C) m (f w))
    rw [S.st (itr_gd g m), S.itr g m]
theorem Sym.rl (S : Sym x y x' y' R C f) (g : Gd w R C) {p : Nat} (h : Rl x y R C w p) : Rl x' y' R C (f w) p := by
  refine ⟨h.p1, h.pm, h.p9, ?_, fun q q1 q2 e => ?_⟩
  · rw [← S.itr g, h.cl]
  · rw [← S.itr g] at e
    exact h.ls q q1 q2 (S.inj (itr_gd g q) g e)
theorem Sym.fst (S : Sym x y x' y' R C f) (g : Gd w R C) {h : Nat} (P Q : Ws → Prop) (hq : ∀ {w}, Gd w R C → (Q (f w) ↔ P w)) (F : Fst (fun i => P (Fw.itr (stp x y R C) i w)) h) : Fst (fun i => Q (Fw.itr (stp x' y' R C) i (f w))) h := by
  refine ⟨F.h1, ?_, fun i h1 h2 z => F.ls i h1 h2 ?_⟩
  · show Q (Fw.itr (stp x' y' R C) h (f w))
    rw [← S.itr g, hq (itr_gd g h)]
    exact F.ph
  · have z : Q (Fw.itr (stp x' y' R C) i (f w)) := z
    rw [← S.itr g, hq (itr_gd g i)] at z
    exact z
theorem Sym.tnsM (S : Sym x y x' y' R C f) (g : Gd w R C) (t : Nat → Nat) (ht : ∀ {w}, Gd w R C → trn x' y' (f w).b (f w).r (f w).c = t (trn x y w.b w.r w.c)) (m : Nat) : tnsM x' y' R C (f w) m = (tnsM x y R C w m).map t := by
  unfold Fw.tnsM its
  rw [List.map_map, List.map_map, List.map_map]
  refine List.map_congr_left fun i hi => ?_
  show trn x' y' (Fw.itr (stp x' y' R C) i (f w)).b (Fw.itr (stp x' y' R C) i (f w)).r (Fw.itr (stp x' y' R C) i (f w)).c = t (trn x y (Fw.itr (stp x y R C) i w).b (Fw.itr (stp x y R C) i w).r (Fw.itr (stp x y R C) i w).c)
  rw [← S.itr g, ht (itr_gd g i)]
/-! ### moved -/
theorem mv_add {r : Nat} {d e : Int} (h : 1 ≤ R) : mv R (mv R r d) e = mv R r (d + e) := by
  have e1 := mv_int (R := R) (r := mv R r d) (d := e) h
  have e2 := mv_int (R := R) (r := r) (d := d) h
  have e3 := mv_int (R := R) (r := r) (d := d + e) h
  rw [e2, Int.emod_add_emod] at e1
  have : (r : Int) + d + e = r + (d + e) := by omega
  rw [this, ← e3] at e1
  exact Int.ofNat.inj e1
theorem mv_0 {r : Nat} (h : r < R) : mv R r 0 = r := by
  have e := mv_int (R := R) (r := r) (d := 0) (by omega)
  rw [Int.add_zero, Int.emod_eq_of_lt (by omega) (by omega)] at e
  exact Int.ofNat.inj e
theorem mv_un {r : Nat} {d : Int} (h : r < R) : mv R (mv R r d) (-d) = r := by
  rw [mv_add (by omega)]
  have : d + -d = 0 := by omega
  rw [this, mv_0 h]
theorem mv_iff {i r : Nat} {d : Int} (hi : i < R) (hr : r < R) : mv R i (-d) = r ↔ i = mv R r d := by
  constructor
  · intro h
    rw [← h, mv_add (by omega)]
    have : -d + d = 0 := by omega
    rw [this, mv_0 hi]
  · intro h
    rw [h, mv_un hr]
def movB (R C : Nat) (d e : Int) (b : List Tx) : List Tx := mkB R C fun i j => at_ b (mv R i (-d)) (mv C j (-e))
def mov (R C : Nat) (d e : Int) (w : Ws) : Ws := ⟨movB R C d e w.b, mv R w.r d, mv C w.c e, w.l⟩
theorem movB_bd {d e : Int} (hb : Bd b R C) (z : Sz R C) : Bd (movB R C d e b) R C := mk_bd fun i j hi hj => at_sgn hb (mv_lt z.r1) (mv_lt z.c1)
theorem mov_gd {d e : Int} (g : Gd w R C) : Gd (mov R C d e w) R C := ⟨movB_bd g.bd g.sz, g.sz, mv_lt g.sz.r1, mv_lt g.sz.c1, g.hl⟩
theorem at_mov {d e : Int} {i j : Nat} (hi : i < R) (hj : j < C) : at_ (movB R C d e b) (mv R i d) (mv C j e) = at_ b i j := by
  unfold movB
  rw [at_mk (mv_lt (by omega)) (mv_lt (by omega)), mv_un hi, mv_un hj]
theorem flip_mov {d e : Int} {r c : Nat} (hb : Bd b R C) (z : Sz R C) (hr : r < R) (hc : c < C) : movB R C d e (flipB b r c) = flipB (movB R C d e b) (mv R r d) (mv C c e) := by
  refine bd_ext (movB_bd (flipB_bd hb hr hc) z) (flipB_bd (movB_bd hb z) (mv_lt z.r1) (mv_lt z.c1)) fun i j hi hj => ?_
  rw [at_flipG (movB_bd hb z) (mv_lt z.r1) (mv_lt z.c1), at_mov hr hc]
  unfold movB
  rw [at_mk hi hj, at_flipG hb hr hc, at_mk hi hj]
  have q1 := mv_iff (d := d) hi hr
  have q2 := mv_iff (d := e) hj hc
  by_cases q : i = mv R r d ∧ j = mv C c e
  · rw [if_pos q, if_pos ⟨q1.mpr q.1, q2.mpr q.2⟩]
  · rw [if_neg q, if_neg (fun z => q ⟨q1.mp z.1, q2.mp z.2⟩)]
theorem mov_un {d e : Int} (g : Gd w R C) : mov R C (-d) (-e) (mov R C d e w) = w := by
  have hb : movB R C (-d) (-e) (movB R C d e w.b) = w.b := by
    refine bd_ext (movB_bd (movB_bd g.bd g.sz) g.sz) g.bd fun i j hi hj => ?_
    have h1 := mv_lt (R := R) (r := i) (d := d) g.sz.r1
    have h2 := mv_lt (R := C) (r := j) (d := e) g.sz.c1
    unfold movB
    rw [at_mk hi hj, Int.neg_neg, Int.neg_neg, at_mk h1 h2, mv_un hi, mv_un hj]
  unfold mov
  dsimp only
  rw [hb, mv_un g.hr, mv_un g.hc]
theorem mov_sym (d e : Int) : Sym x y x y R C (mov R C d e) := by
  refine ⟨fun g => mov_gd g, fun {w} g => ?_, fun {a b} ga gb h => ?_⟩
  · have t : trn x y (movB R C d e w.b) (mv R w.r d) (mv C w.c e) = trn x y w.b w.r w.c := by
      unfold trn
      rw [at_mov g.hr g.hc]
    unfold mov stp
    dsimp only
    rw [t, flip_mov g.bd g.sz g.hr g.hc, mv_add g.sz.r1, mv_add g.sz.r1, mv_add g.sz.c1, mv_add g.sz.c1, Int.add_comm d, Int.add_comm e]
  · have e1 := mov_un (d := d) (e := e) ga
    rw [h, mov_un gb] at e1
    exact e1.symm
theorem mov_trn {d e : Int} (g : Gd w R C) : trn x y (mov R C d e w).b (mov R C d e w).r (mov R C d e w).c = trn x y w.b w.r w.c := by
  unfold trn mov
  rw [at_mov g.hr g.hc]
/-! the def -/
theorem row_of {b : List Tx} {r : Nat} (hb : Bd b R C) (hr : r < R) : ∀ j, at_ b r j = (b.getD r []).getD j 0 := fun _ => rfl
theorem mod_mv {r : Nat} {d : Int} (h : 1 ≤ R) : binD .mod (.int ((0 + (r : Int)) - d)) (.int (R : Nat)) = .ok (.int (mv R r (-d) : Nat)) := by
  rw [modS (by omega), mv_int h]
  congr 3
  omega
theorem mod_mv' {r : Nat} {d : Int} (h : 1 ≤ R) : binD .mod (.int ((r : Int) + d)) (.int (R : Nat)) = .ok (.int (mv R r d : Nat)) := by
  rw [modS (by omega), mv_int h]
theorem mod_mv0 {r : Nat} {d : Int} (h : 1 ≤ R) : binD .mod (.int ((0 + (r : Int)) + d)) (.int (R : Nat)) = .ok (.int (mv R r d : Nat)) := by
  rw [modS (by omega), mv_int h]
  congr 3
  omega
def movR (R C : Nat) (d e : Int) (b : List Tx) (i : Nat) : Tx := (List.range C).map fun j => at_ b (mv R i (-d)) (mv C j (-e))
theorem movB_rows {d e : Int} (m : Nat) : (List.range m).map (fun i => D.str (movR R C d e b i)) ++ [.str (movR R C d e b m)] = (List.range (m + 1)).map fun i => D.str (movR R C d e b i) := by
  rw [List.range_succ, List.map_append]
  rfl
theorem dB_mov {d e : Int} : dB (movB R C d e b) = .tup ((List.range R).map fun i => D.str (movR R C d e b i)) := by
  unfold dB movB mkB
  rw [List.map_map]
  rfl
abbrev sM (w : Ws) (R C : Nat) (d e : Int) (ma on si : Sl) (n k : Int) : S := ⟨[.val (dW w), .val (.int d), .val (.int e), ma, on, .val (dB w.b), .val (.int w.l), .val (.int R), .val (.int C), si, .val (.int w.r), .val (.int w.c), .un], n, k, false⟩
def siS (b : List Tx) (R : Nat) (d : Int) : Nat → Sl
  | 0 => .un
  | i + 1 => .val (.str (b.getD (mv R i (-d)) []))
theorem moved_ok {d e : Int} (g : Gd w R C) (d1 : -4 ≤ d) (d2 : d ≤ 4) (e1 : -4 ≤ e) (e2 : e ≤ 4) : f_moved [dW w, .int d, .int e] n k = .ok (dW (mov R C d e w), n, k) := by
  have r1 := g.sz.r1
  have c1 := g.sz.c1
  have r3 := g.sz.r3
  have c4 := g.sz.c4
  unfold mov dW dS
  dsimp only
  rw [dB_mov]
  refine runR (s := sM w R C d e (.val (.lst ((List.range R).map fun i => D.str (movR R C d e w.b i)))) (tuS .un R) (siS w.b R d R) n k) ?_
  refine qExpr (eCall (sCons (eVar rfl) sNil) (nstate_ok g.bd g.sz g.hr g.hc g.hl)) ?_
  refine vIfF (eOr (vOrF (eNot (eCall (sCons (eVar rfl) (sCons (eNeg eInt) (sCons eInt sNil))) (whole_in d1 d2)) rfl) (oEnd (eNot (eCall (sCons (eVar rfl) (sCons (eNeg eInt) (sCons eInt sNil))) (whole_in e1 e2)) rfl)))) ?_
  refine vAsg (eVar rfl) rfl rfl ?_
  refine vAsg (eTup (sCons (eB1 (eVar rfl) (lenB g.bd)) (sCons (eB1 (eIx (eVar rfl) eInt (ixB0 g.bd r1)) (lenT (g.bd.row0 r1))) sNil)) (Nat.le_of_ble_eq_true rfl)) rfl rfl ?_
  refine vOwn (s2 := sM w R C d e (.ol ((List.range 0).map fun i => D.str (movR R C d e w.b i))) (tuS .un 0) (siS w.b R d 0) n k) sNil (Nat.zero_le _) rfl ?_
  refine vFor (iRng (eVar rfl) (rng_ok (by omega))) (for_range (fun i => sM w R C d e (.ol ((List.range i).map fun i => D.str (movR R C d e w.b i))) (tuS .un i) (siS w.b R d i) n k) R fun i hi => ?_) ?_
  · refine stepF_ok (s1 := sM w R C d e (.ol ((List.range i).map fun i => D.str (movR R C d e w.b i))) (tuS .un (i + 1)) (siS w.b R d i) n k) rfl ?_
    refine vSet (s2 := sM w R C d e (.ol ((List.range i).map fun i => D.str (movR R C d e w.b i))) (tuS .un (i + 1)) (siS w.b R d (i + 1)) n k) (eIx (eVar rfl) (eBin (eBin (eVar rfl) (eVar rfl) rfl) (eVar rfl) (mod_mv r1)) (ixB g.bd (mv_lt r1))) rfl ?_
    have row := g.bd.get (mv_lt (R := R) (r := i) (d := -d) r1)
    obtain ⟨z, z1, z2, z3, z4⟩ := row
    refine vApp (x := .str (movR R C d e w.b i)) (s2 := sM w R C d e (.ol ((List.range (i + 1)).map fun i => D.str (movR R C d e w.b i))) (tuS .un (i + 1)) (siS w.b R d (i + 1)) n k) rfl (eM1 eStr (eLc' (iRng (eVar rfl) (rng_ok (by omega))) (lc_map0 (fun c : Nat => .int (0 + (c : Nat))) (fun j => .str [at_ w.b (mv R i (-d)) (mv C j (-e))]) (fun c => ⟨[.val (dW w), .val (.int d), .val (.int e), .ol ((List.range i).map fun i => D.str (movR R C d e w.b i)), tuS .un (i + 1), .val (dB w.b), .val (.int w.l), .val (.int R), .val (.int C), siS w.b R d (i + 1), .val (.int w.r), .val (.int w.c), .val (.int (0 + (c : Nat)))], n, k, true⟩) (List.range C) fun j hj => ⟨rfl, _, eIx (eVar rfl) (eBin (eBin (eVar rfl) (eVar rfl) rfl) (eVar rfl) (mod_mv c1)) (ixT (by rw [z2, z3]; exact mv_lt c1)), rfl, rfl⟩) rfl) ?_) rfl ?_ ?_ qNil
    · have em : (List.range C).map (fun j => D.str [at_ w.b (mv R i (-d)) (mv C j (-e))]) = (movR R C d e w.b i).map fun c => .str [c] := by
        unfold movR
        rw [List.map_map]
        rfl
      rw [em]
      exact join_ok (by simp [movR]; omega)
    · rw [List.length_map, List.length_range]
      exact lt_SL (by omega)
    · rw [movB_rows]
      rfl
  · exact qRet (eTup (sCons (eB1 (eOwn' rfl rfl rfl) rfl) (sCons (eTup (sCons (eBin (eBin (eVar rfl) (eVar rfl) rfl) (eVar rfl) (mod_mv' r1)) (sCons (eBin (eBin (eVar rfl) (eVar rfl) rfl) (eVar rfl) (mod_mv' c1)) sNil)) (Nat.le_of_ble_eq_true rfl)) (sCons (eVar rfl) sNil))) (Nat.le_of_ble_eq_true rfl))
theorem moved_no1 {d : D} {e : Int} (g : Gd w R C) (h : NotW d (-4) 4) : f_moved [dW w, d, .int e] n k = .exc 7 n k :=
  runX (qExpr (eCall (sCons (eVar rfl) sNil) (nstate_ok g.bd g.sz g.hr g.hc g.hl)) (qIfTX (eOr (oT (eNot (eCall (sCons (eVar rfl) (sCons (eNeg eInt) (sCons eInt sNil))) (h _ _)) rfl) rfl)) rfl qRais))
theorem moved_no2 {d : Int} {e : D} (g : Gd w R C) (d1 : -4 ≤ d) (d2 : d ≤ 4) (h : NotW e (-4) 4) : f_moved [dW w, .int d, e] n k = .exc 7 n k :=
  runX (qExpr (eCall (sCons (eVar rfl) sNil) (nstate_ok g.bd g.sz g.hr g.hc g.hl)) (qIfTX (eOr (oF (eNot (eCall (sCons (eVar rfl) (sCons (eNeg eInt) (sCons eInt sNil))) (whole_in d1 d2)) rfl) rfl (oEnd (eNot (eCall (sCons (eVar rfl) (sCons (eNeg eInt) (sCons eInt sNil))) (h _ _)) rfl)))) rfl qRais))
end
end Fw

set_option linter.all false
set_option autoImplicit false
set_option maxRecDepth 100000
set_option maxHeartbeats 4000000
/-! FwMath9: dicts; visits; colours exchanged. -/
namespace Fw
section
variable {s s1 s2 s3 : S} {a b c : E} {x y z d : D} {r : RS} {p : Ss} {n k : Int} {i : Nat} {kvs kvs' : List ((Int × Int) × D)} {kk : Int × Int}
theorem eDget (h0 : dcur s i = some kvs) (h : ev a s = .ok (y, s1)) (h1 : ev b s1 = .ok (z, s2)) (h2 : dcur s2 i = some kvs') (hk : keyD y = some kk) (hv : (dfind kvs' kk).getD z = d) : ev (.dget i a b) s = .ok (d, s2) := by
  show (match dcur s i with
    | some _ => (ev a s).bind fun (y, s) => (ev b s).bind fun (z, s) => (match dcur s i, keyD y with | some kvs, some kk => Res.ok ((dfind kvs kk).getD z, s) | _, _ => .stuck)
    | none => .stuck) = _
  rw [h0]
  show (ev a s).bind _ = _
  rw [h]
  show (ev b s1).bind _ = _
  rw [h1]
  show (match dcur s2 i, keyD y with | some kvs, some kk => Res.ok ((dfind kvs kk).getD z, s2) | _, _ => .stuck) = _
  rw [h2, hk, ← hv]
theorem eDin {t : Bool} (h : ev a s = .ok (y, s1)) (h2 : dcur s1 i = some kvs) (hk : keyD y = some kk) (hv : (dfind kvs kk).isSome = t) : ev (.din i a) s = .ok (.bl t, s1) := by
  show (ev a s).bind _ = _
  rw [h]
  show (match dcur s1 i, keyD y with | some kvs, some kk => Res.ok (D.bl (dfind kvs kk).isSome, s1) | _, _ => .stuck) = _
  rw [h2, hk, ← hv]
theorem eDnin {t : Bool} (h : ev a s = .ok (y, s1)) (h2 : dcur s1 i = some kvs) (hk : keyD y = some kk) (hv : (!(dfind kvs kk).isSome) = t) : ev (.dnin i a) s = .ok (.bl t, s1) := by
  show (ev a s).bind _ = _
  rw [h]
  show (match dcur s1 i, keyD y with | some kvs, some kk => Res.ok (D.bl (!(dfind kvs kk).isSome), s1) | _, _ => .stuck) = _
  rw [h2, hk, ← hv]
theorem eDix (h0 : dcur s i = some kvs) (h : ev a s = .ok (y, s1)) (h2 : dcur s1 i = some kvs') (hk : keyD y = some kk) (hv : dfind kvs' kk = some d) : ev (.dix i a) s = .ok (d, s1) := by
  show (match dcur s i with
    | some _ => (ev a s).bind fun (y, s) => (match dcur s i, keyD y with | some kvs, some kk => (match dfind kvs kk with | some v => Res.ok (v, s) | none => .stuck) | _, _ => .stuck)
    | none => .stuck) = _
  rw [h0]
  show (ev a s).bind _ = _
  rw [h]
  show (match dcur s1 i, keyD y with | some kvs, some kk => (match dfind kvs kk with | some v => Res.ok (v, s1) | none => .stuck) | _, _ => .stuck) = _
  rw [h2, hk]
  show (match dfind kvs' kk with | some v => Res.ok (v, s1) | none => .stuck) = _
  rw [hv]
theorem vDnew (hp : Nrm (s.put i (.od [])) s1) (h2 : evSs p s1 = r) : evSs (.cons (.dnew i) p) s = r := qCons (s1 := s1) (by rw [← hp]; rfl) h2
theorem vDput (h : ev b s = .ok (x, s1)) (h0 : s1.get i = .od kvs) (h1 : ev a s1 = .ok (y, s2)) (h3 : s2.get i = .od kvs') (hk : keyD y = some kk) (hl : kvs'.length < SL) (hp : Nrm (s2.put i (.od (dput kvs' kk x))) s3) (h2 : evSs p s3 = r) : evSs (.cons (.dput i a b) p) s = r := by
  refine qCons (s1 := s3) ?_ h2
  show (ev b s).then _ = _
  rw [h]
  show (match s1.get i with
    | .od _ => (ev a s1).then fun (y, s) => (match s.get i, keyD y with
      | .od kvs, some kk => if kvs.length < SL then RS.nx (s.put i (.od (dput kvs kk x))) else .stuck
      | _, _ => .stuck)
    | _ => .stuck) = _
  rw [h0]
  show (ev a s1).then _ = _
  rw [h1]
  show (match s2.get i, keyD y with
      | .od kvs, some kk => if kvs.length < SL then RS.nx (s2.put i (.od (dput kvs kk x))) else .stuck
      | _, _ => .stuck) = _
  rw [h3, hk]
  show (if kvs'.length < SL then RS.nx (s2.put i (.od (dput kvs' kk x))) else .stuck) = _
  rw [if_pos hl, hp]
theorem rNd : evRi .nd s = .ok (.od [], s) := rfl
theorem eOwnD (h : s.get i = .od kvs) (hk : s.lk = false) (hp : Nrm (s.put i (.val (.dic (kvs.map (·.1)) (kvs.map (·.2))))) s1) : ev (.var i) s = .ok (.dic (kvs.map (·.1)) (kvs.map (·.2)), s1) := by
  rw [← hp]
  show evVar i s = _
  unfold evVar
  rw [h, hk]
  rfl
end
/-! ### what a store leaves -/
theorem dput_len (kvs : List ((Int × Int) × D)) (k : Int × Int) (v : D) : (dput kvs k v).length ≤ kvs.length + 1 := by
  unfold dput
  split
  · rw [List.length_map]; omega
  · rw [List.length_append]; exact Nat.le_refl _
theorem dfind_nil (k : Int × Int) : dfind [] k = none := rfl
theorem dfind_cons (a : (Int × Int) × D) (l : List ((Int × Int) × D)) (k : Int × Int) : dfind (a :: l) k = if a.1 = k then some a.2 else dfind l k := by
  unfold dfind
  rw [List.find?_cons]
  by_cases q : a.1 = k <;> simp [q]
theorem dfind_any (k : Int × Int) : ∀ kvs : List ((Int × Int) × D), (kvs.any fun kv => decide (kv.1 = k)) = (dfind kvs k).isSome
  | [] => rfl
  | a :: l => by
    rw [List.any_cons, dfind_any k l, dfind_cons]
    by_cases q : a.1 = k <;> simp [q]
theorem dfind_map (k j : Int × Int) (v : D) : ∀ kvs : List ((Int × Int) × D), dfind (kvs.map fun kv => if kv.1 = k then (kv.1, v) else kv) j = (dfind kvs j).map fun x => if j = k then v else x
  | [] => rfl
  | a :: l => by
    rw [List.map_cons, dfind_cons, dfind_cons, dfind_map k j v l]
    by_cases q : a.1 = k
    · rw [if_pos q]
      by_cases q2 : a.1 = j
      · have : j = k := by rw [← q2, q]
        simp [q2, this]
      · simp [q2]
    · rw [if_neg q]
      by_cases q2 : a.1 = j
      · have : ¬ j = k := by rw [← q2]; exact q
        simp [q2, this]
      · simp [q2]
theorem dfind_snoc (k j : Int × Int) (v : D) : ∀ kvs : List ((Int × Int) × D), dfind kvs k = none → dfind (kvs ++ [(k, v)]) j = if j = k then some v else dfind kvs j
  | [], _ => by
    rw [List.nil_append, dfind_cons, dfind_nil]
    by_cases q : k = j
    · rw [if_pos q, if_pos q.symm]
    · rw [if_neg q, if_neg (fun z => q z.symm)]
  | a :: l, h => by
    rw [dfind_cons] at h
    by_cases q : a.1 = k
    · rw [if_pos q] at h
      cases h
    · rw [if_neg q] at h
      rw [List.cons_append, dfind_cons, dfind_snoc k j v l h, dfind_cons]
      by_cases q2 : a.1 = j
      · have : ¬ j = k := by rw [← q2]; exact q
        simp [q2, this]
      · simp [q2]
theorem dfind_put (kvs : List ((Int × Int) × D)) (k j : Int × Int) (v : D) : dfind (dput kvs k v) j = if j = k then some v else dfind kvs j := by
  unfold dput
  rw [dfind_any]
  cases e : dfind kvs k with
  | none =>
    rw [if_neg (by simp)]
    exact dfind_snoc k j v kvs e
  | some d =>
    rw [if_pos (by simp), dfind_map]
    by_cases q : j = k
    · rw [q, e]
      simp
    · cases dfind kvs j <;> simp [q]
/-! ### counts -/
def cntN (cl : Nat → Int × Int) (m : Nat) (c : Int × Int) : Nat := ((List.range m).filter fun j => decide (cl j = c)).length
theorem cntN_0 (cl : Nat → Int × Int) (c : Int × Int) : cntN cl 0 c = 0 := rfl
theorem cntN_succ (cl : Nat → Int × Int) (m : Nat) (c : Int × Int) : cntN cl (m + 1) c = cntN cl m c + (if cl m = c then 1 else 0) := by
  unfold cntN
  rw [List.range_succ, List.filter_append, List.length_append]
  by_cases q : cl m = c <;> simp [q]
def kvN (cl : Nat → Int × Int) : Nat → List ((Int × Int) × D)
  | 0 => []
  | m + 1 => dput (kvN cl m) (cl m) (.int (((cntN cl m (cl m) : Nat) : Int) + 1))
theorem kvN_len (cl : Nat → Int × Int) : ∀ m, (kvN cl m).length ≤ m
  | 0 => Nat.le_refl _
  | m + 1 => Nat.le_trans (dput_len _ _ _) (Nat.succ_le_succ (kvN_len cl m))
theorem kvN_find (cl : Nat → Int × Int) (c : Int × Int) : ∀ m, dfind (kvN cl m) c = if cntN cl m c = 0 then none else some (.int (cntN cl m c : Nat))
  | 0 => rfl
  | m + 1 => by
    show dfind (dput (kvN cl m) (cl m) _) c = _
    rw [dfind_put, cntN_succ, kvN_find cl c m]
    by_cases q : c = cl m
    · rw [if_pos q, if_pos q.symm, if_neg (by omega), ← q]
      rfl
    · have e : (if cl m = c then 1 else 0) = 0 := if_neg (fun z => q z.symm)
      rw [if_neg q, e, Nat.add_zero]
theorem kvN_get (cl : Nat → Int × Int) (c : Int × Int) (m : Nat) : (dfind (kvN cl m) c).getD (.int 0) = .int (cntN cl m c : Nat) := by
  rw [kvN_find]
  by_cases q : cntN cl m c = 0
  · rw [if_pos q, q]
    rfl
  · rw [if_neg q]
    rfl
section
variable {x y x' y' R C : Nat} {w : Ws} {n k : Int} {b : List Tx}
/-- the walker's cell at a time -/
def cl (x y R C : Nat) (w : Ws) (i : Nat) : Int × Int := ((((itr (stp x y R C) i w).r : Nat) : Int), (((itr (stp x y R C) i w).c : Nat) : Int))
def vsN (x y R C : Nat) (w : Ws) (m : Nat) (q : Nat × Nat) : Nat := cntN (cl x y R C w) m ((q.1 : Int), (q.2 : Int))
def visL (x y R C : Nat) (w : Ws) (m : Nat) : List D := (prs C R).map fun q => .int (vsN x y R C w m q : Nat)
/-- the state of visits' loop -/
def vI (x y R C : Nat) (w : Ws) (n k : Int) : Nat → S
  | 0 => ⟨[.val (.str [x, y]), .val (dW w), .od [], .un, .un, .un], n, k, false⟩
  | i + 1 => ⟨[.val (.str [x, y]), .val (dW w), .od (kvN (cl x y R C w) (i + 1)), .val (dB (itr (stp x y R C) i w).b), .val (dP (itr (stp x y R C) i w)), .val (.int (itr (stp x y R C) i w).l)], n, k, false⟩
theorem vI_env (i : Nat) : ∃ a b c, vI x y R C w n k i = ⟨[.val (.str [x, y]), .val (dW w), .od (kvN (cl x y R C w) i), a, b, c], n, k, false⟩ := by
  cases i with
  | zero => exact ⟨_, _, _, rfl⟩
  | succ i => exact ⟨_, _, _, rfl⟩
theorem visits_ok {p : Nat} (hx : isTurn x) (hy : isTurn y) (g : Gd w R C) (h : Rl x y R C w p) : f_visits [.str [x, y], dW w] n k = .ok (.tup (visL x y R C w p), n, k) := by
  have p9 := h.p9
  have r1 := g.sz.r1
  obtain ⟨u1, u2, u3, ep⟩ := vI_env (x := x) (y := y) (R := R) (C := C) (w := w) (n := n) (k := k) p
  refine runR (s := ⟨[.val (.str [x, y]), .val (dW w), .od (kvN (cl x y R C w) p), u1, u2, u3], n, k, false⟩) ?_
  refine qExpr (eCall (sCons (eVar rfl) (sCons (eVar rfl) sNil)) (nboth_ok hx hy g.bd g.sz g.hr g.hc g.hl)) ?_
  refine vDnew (s1 := vI x y R C w n k 0) rfl ?_
  have lp := for_at (f := stepF (.tup (.cons (.nm 3) (.cons (.nm 4) (.cons (.nm 5) .nil)))) (.cons (.dput 2 (.var 4) (.bin .add (.dget 2 (.var 4) (.int 0)) (.int 1))) .nil)) (fun j => vI x y R C w n k j) ((its x y R C w p).map dW) 0 (fun i d hd => by
    rw [its_range] at hd
    obtain ⟨q1, q2⟩ := range_at hd
    rw [Nat.zero_add, q2]
    obtain ⟨v1, v2, v3, ei⟩ := vI_env (x := x) (y := y) (R := R) (C := C) (w := w) (n := n) (k := k) i
    show stepF _ _ _ (vI x y R C w n k i) = .nx (vI x y R C w n k (i + 1))
    rw [ei]
    refine stepF_ok (s1 := ⟨[.val (.str [x, y]), .val (dW w), .od (kvN (cl x y R C w) i), .val (dB (itr (stp x y R C) i w).b), .val (dP (itr (stp x y R C) i w)), .val (.int (itr (stp x y R C) i w).l)], n, k, false⟩) rfl ?_
    refine vDput (x := .int (((cntN (cl x y R C w) i (cl x y R C w i) : Nat) : Int) + 1)) (eBin (eDget rfl (eVar rfl) eInt rfl rfl (kvN_get (cl x y R C w) (cl x y R C w i) i)) eInt rfl) rfl (eVar rfl) rfl rfl (Nat.lt_of_le_of_lt (kvN_len _ _) (lt_SL (by omega))) rfl qNil)
  rw [List.length_map, its_len, Nat.zero_add] at lp
  have lp : forL _ _ (vI x y R C w n k 0) = .nx (vI x y R C w n k p) := lp
  rw [ep] at lp
  refine vFor (iSeqE (eCall (sCons (eVar rfl) (sCons (eVar rfl) sNil)) (roundfrom_ok hx hy g h)) rfl) lp ?_
  refine qRet (eB1 (eLc' (iSeqE (eCall (sCons (eB1 (eIx (eVar rfl) eInt rfl) (lenB g.bd)) (sCons (eB1 (eIx (eIx (eVar rfl) eInt rfl) eInt (ixB0 g.bd r1)) (lenT (g.bd.row0 r1))) sNil)) (cellsof_ok g.sz.r3 g.sz.c4)) (by rw [celL_prs]; rfl)) (lc_map0 (fun q : Nat × Nat => dC q.1 q.2) (fun q => .int (vsN x y R C w p q : Nat)) (fun q => ⟨[.val (.str [x, y]), .val (dW w), .od (kvN (cl x y R C w) p), u1, .val (dC q.1 q.2), u3], n, k, true⟩) (prs C R) fun q hq => ⟨rfl, _, eDget rfl (eVar rfl) eInt rfl rfl (kvN_get (cl x y R C w) ((q.1 : Int), (q.2 : Int)) p), rfl, rfl⟩) rfl) rfl)
theorem vis_noS {d : D} (hx : isTurn x) (hy : isTurn y) (h : NotS d) : f_visits [.str [x, y], d] n k = .exc 2 n k := runX (qExprX (eCallX (sCons (eVar rfl) (sCons (eVar rfl) sNil)) (nboth_noS hx hy h)))
theorem fits_ints' {α : Type} (f : α → Int) (l : List α) (m : Nat) : D.fits m (l.map fun i => .int (f i)) = true := by
  induction l with
  | nil => rfl
  | cons a l ih =>
    show (D.fit m (.int (f a)) && D.fits m (l.map fun i => .int (f i))) = true
    rw [ih, Bool.and_true]
    cases m <;> rfl
theorem fit_visL (m : Nat) : (D.tup (visL x y R C w m)).fit 60 = true := fits_ints' _ _ _
theorem fit_trail {l : List Ws} : (D.tup (l.map dP)).fit 60 = true := by
  show D.fits 59 (l.map dP) = true
  induction l with
  | nil => rfl
  | cons a l ih =>
    show (D.fit 59 (dP a) && D.fits 59 (l.map dP)) = true
    rw [ih]
    rfl
/-! ### exchanged -/
def exBd (b : List Tx) : List Tx := b.map fun r => r.map fl
def ex (w : Ws) : Ws := ⟨exBd w.b, w.r, w.c, w.l⟩
theorem at_ex {i j : Nat} (hb : Bd b R C) (hi : i < R) (hj : j < C) : at_ (exBd b) i j = fl (at_ b i j) := by
  obtain ⟨z, h1, h2, h3, h4⟩ := hb.get hi
  unfold at_ exBd
  rw [h2]
  have e : (b.map fun r => r.map fl).getD i [] = z.map fl := by
    rw [List.getD, List.getElem?_map, h1]
    rfl
  rw [e]
  have hj2 : j < z.length := by omega
  simp [List.getD, hj2]
theorem exBd_bd (hb : Bd b R C) : Bd (exBd b) R C := by
  unfold exBd
  refine ⟨by rw [List.length_map, hb.rows], fun z hz => ?_, fun z hz v hv => ?_⟩
  · obtain ⟨r, hr, e⟩ := List.mem_map.mp hz
    rw [← e, List.length_map]
    exact hb.cols r hr
  · obtain ⟨r, hr, e⟩ := List.mem_map.mp hz
    rw [← e] at hv
    obtain ⟨c, hc, e2⟩ := List.mem_map.mp hv
    rw [← e2]
    exact fl_sgn (hb.sgn r hr c hc)
theorem ex_gd (g : Gd w R C) : Gd (ex w) R C := ⟨exBd_bd g.bd, g.sz, g.hr, g.hc, g.hl⟩
theorem exBd_ex (hb : Bd b R C) : exBd (exBd b) = b := bd_ext (exBd_bd (exBd_bd hb)) hb fun i j hi hj => by
  rw [at_ex (exBd_bd hb) hi hj, at_ex hb hi hj, fl_fl (at_sgn hb hi hj)]
theorem ex_ex (g : Gd w R C) : ex (ex w) = w := by
  unfold ex
  dsimp only
  rw [exBd_ex g.bd]
theorem flip_ex {r c : Nat} (hb : Bd b R C) (hr : r < R) (hc : c < C) : exBd (flipB b r c) = flipB (exBd b) r c := by
  refine bd_ext (exBd_bd (flipB_bd hb hr hc)) (flipB_bd (exBd_bd hb) hr hc) fun i j hi hj => ?_
  rw [at_ex (flipB_bd hb hr hc) hi hj, at_flipG hb hr hc, at_flipG (exBd_bd hb) hr hc, at_ex hb hr hc, at_ex hb hi hj]
  split <;> rfl
theorem ex_trn (g : Gd w R C) : trn y x (ex w).b (ex w).r (ex w).c = trn x y w.b w.r w.c := by
  unfold trn ex
  dsimp only
  rw [at_ex g.bd g.hr g.hc]
  rcases at_sgn g.bd g.hr g.hc with q | q <;> rw [q] <;> rfl
theorem ex_sym : Sym x y y x R C ex := by
  refine ⟨fun g => ex_gd g, fun {w} g => ?_, fun {a b} ga gb h => ?_⟩
  · have t := ex_trn (x := x) (y := y) g
    unfold ex at t
    unfold ex stp
    dsimp only at t ⊢
    rw [t, flip_ex g.bd g.hr g.hc]
  · have e1 := ex_ex ga
    rw [h, ex_ex gb] at e1
    exact e1.symm
theorem cnt_ex {R C : Nat} : ∀ (b : List Tx), (∀ r ∈ b, r.length = C) → (∀ r ∈ b, ∀ v ∈ r, v = 46 ∨ v = 35) → cnt (exBd b) + cnt b = ((b.length * C : Nat) : Int)
  | [], _, _ => by simp [cnt, exBd]
  | r :: b, h1, h2 => by
    have ih := cnt_ex (R := R) b (fun z hz => h1 z (by simp [hz])) (fun z hz => h2 z (by simp [hz]))
    have hr : ((r.map fl).count 35 : Nat) + r.count 35 = r.length := by
      have := h2 r (by simp)
      clear ih h1 h2
      induction r with
      | nil => rfl
      | cons a r ih =>
        have ih := ih (fun v hv => this v (by simp [hv]))
        rcases this a (by simp) with q | q <;> subst q <;> simp [List.count_cons, fl] at ih ⊢ <;> omega
    have hl := h1 r (by simp)
    unfold cnt exBd at ih ⊢
    rw [List.map_cons, List.map_cons, List.map_cons, List.sum_cons, List.sum_cons, List.length_cons, Nat.succ_mul]
    push_cast at ih ⊢
    omega
theorem exchanged_ok (g : Gd w R C) : f_exchanged [dW w] n k = .ok (dW (ex w), n, k) := by
  have r3 := g.sz.r3
  have c4 := g.sz.c4
  have row : ∀ (s0 : S) (r : Tx), r ∈ w.b → s0.get 5 = .val (.str r) → s0.dn = n → s0.dk = k → s0.env.length = 7 → ev (.m1 .join (.str []) (.lc (.nm 6) (.seq (.var 5)) (.ife (.cmp .eq (.var 6) (.str [35])) (.str [46]) (.str [35])))) s0 = .ok (.str (r.map fl), s0) := fun s0 r hr g5 gn gk gl => by
    have hz := g.bd.sgn r hr
    have hc := g.bd.cols r hr
    have q := lc_map0 (tg := .nm 6) (f := ev (.ife (.cmp .eq (.var 6) (.str [35])) (.str [46]) (.str [35]))) (b := s0) (n := n) (k := k) (fun c => .str [c]) (fun c => .str [fl c]) (fun c => ⟨(wipeL s0.env [6]).set 6 (.val (.str [c])), n, k, true⟩) r (fun c hc => by
      refine ⟨rfl, ⟨(wipeL s0.env [6]).set 6 (.val (.str [c])), n, k, true⟩, ?_, rfl, rfl⟩
      have g6 : S.get ⟨(wipeL s0.env [6]).set 6 (.val (.str [c])), n, k, true⟩ 6 = .val (.str [c]) := by
        unfold S.get wipeL
        simp [List.getD, gl, wipeL]
      rcases hz c hc with z | z
      · subst z
        exact eIfF (eCmp (eVar g6) eStr sgn_eq) (by decide) eStr
      · subst z
        exact eIfT (eCmp (eVar g6) eStr sgn_eq) (by decide) eStr)
    have e : (r.map fun c => D.str [fl c]) = (r.map fl).map fun c => .str [c] := by rw [List.map_map]; rfl
    rw [e] at q
    have st : (S.mk s0.env n k s0.lk) = s0 := by
      obtain ⟨e1, e2, e3, e4⟩ := s0
      cases gn
      cases gk
      rfl
    rw [← gn, ← gk] at q
    exact eM1 eStr (eLc' (iSeqE (eVar g5) rfl) q (by rw [gn, gk]; exact st)) (join_ok (by rw [List.length_map]; omega))
  refine runR (s := ⟨[.val (dW w), .val (dB (exBd w.b)), .val (dB w.b), .val (dC w.r w.c), .val (.int w.l), .un, .un], n, k, false⟩) ?_
  refine qExpr (eCall (sCons (eVar rfl) sNil) (nstate_ok g.bd g.sz g.hr g.hc g.hl)) ?_
  refine vAsg (eVar rfl) rfl rfl ?_
  refine vSet (x := dB (exBd w.b)) (eB1 (eLc' (iSeqE (eVar rfl) rfl) (lc_map0 D.str (fun r => .str (r.map fl)) (fun r => ⟨[.val (dW w), .un, .val (dB w.b), .val (dC w.r w.c), .val (.int w.l), .val (.str r), .un], n, k, true⟩) w.b fun r hr => ⟨rfl, _, row _ r hr rfl rfl rfl rfl, rfl, rfl⟩) rfl) ?_) rfl ?_
  · show Res.ok (D.tup _) = _
    unfold dB exBd
    rw [List.map_map]
    rfl
  · exact qRet (eTup (sCons (eVar rfl) (sCons (eVar rfl) (sCons (eVar rfl) sNil))) (Nat.le_of_ble_eq_true rfl))
theorem exrule_ok (hx : isTurn x) (hy : isTurn y) : f_exchanged_rule [.str [x, y]] n k = .ok (.str [y, x], n, k) :=
  runR (s := ⟨[.val (.str [x, y])], n, k, false⟩) (qExpr (eCall (sCons (eVar rfl) sNil) (nrule_ok hx hy)) (qRet (eBin (eIx (eVar rfl) eInt rfl) (eIx (eVar rfl) eInt rfl) rfl)))
theorem ex_noS {d : D} (h : NotS d) : f_exchanged [d] n k = .exc 2 n k := runX (qExprX (eCallX (sCons (eVar rfl) sNil) (h _ _)))
theorem exrule_no {d : D} (h : NotR d) : f_exchanged_rule [d] n k = .exc 1 n k := runX (qExprX (eCallX (sCons (eVar rfl) sNil) (h _ _)))
/-! cells kept -/
theorem Sym.vsN {f : Ws → Ws} (S : Sym x y x' y' R C f) (g : Gd w R C) (hc : ∀ u, (f u).r = u.r ∧ (f u).c = u.c) (m : Nat) : visL x' y' R C (f w) m = visL x y R C w m := by
  have e : cl x' y' R C (f w) = cl x y R C w := by
    funext i
    unfold cl
    rw [← S.itr g, (hc _).1, (hc _).2]
  unfold visL Fw.vsN
  rw [e]
theorem Sym.trail {f : Ws → Ws} (S : Sym x y x' y' R C f) (g : Gd w R C) (hc : ∀ u, (f u).r = u.r ∧ (f u).c = u.c) (m : Nat) : (its x' y' R C (f w) m).map dP = (its x y R C w m).map dP := by
  unfold its
  rw [List.map_map, List.map_map]
  refine List.map_congr_left fun i hi => ?_
  show dP (Fw.itr (stp x' y' R C) i (f w)) = dP (Fw.itr (stp x y R C) i w)
  rw [← S.itr g]
  unfold dP
  rw [(hc _).1, (hc _).2]
end
end Fw

set_option linter.all false
set_option autoImplicit false
set_option maxRecDepth 100000
set_option maxHeartbeats 4000000
/-! FwMath10: how often cells are stood on. -/
namespace Fw
section
variable {x y R C : Nat} {w : Ws} {n k : Int}
theorem range_one {C c : Nat} (h : c < C) : ((List.range C).filter fun j => decide (j = c)).length = 1 := by
  induction C with
  | zero => omega
  | succ C ih =>
    rw [List.range_succ, List.filter_append, List.length_append]
    rcases Nat.lt_or_ge c C with q | q
    · have : ¬ C = c := by omega
      rw [ih q]
      simp [this]
    · have e : C = c := by omega
      subst e
      have : ((List.range C).filter fun j => decide (j = C)) = [] := by
        rw [List.filter_eq_nil_iff]
        intro a ha
        have := List.mem_range.mp ha
        simp
        omega
      rw [this]
      simp
theorem prs_one {C c : Nat} (hc : c < C) : ∀ {R r : Nat}, r < R → ((prs C R).filter fun q => decide (q = (r, c))).length = 1
  | 0, r, h => by omega
  | R + 1, r, h => by
    rw [prs, List.filter_append, List.length_append, List.filter_map, List.length_map]
    rcases Nat.lt_or_ge r R with q | q
    · have e : ((List.range C).filter ((fun q => decide (q = (r, c))) ∘ fun c => (R, c))) = [] := by
        rw [List.filter_eq_nil_iff]
        intro a ha
        simp
        omega
      rw [prs_one hc q, e]
      rfl
    · have e : r = R := by omega
      subst e
      have e1 : ((prs C r).filter fun q => decide (q = (r, c))) = [] := by
        rw [List.filter_eq_nil_iff]
        intro a ha
        have := prs_mem ha
        simp
        intro z
        rw [z] at this
        dsimp only at this
        omega
      have e2 : ((fun q : Nat × Nat => decide (q = (r, c))) ∘ fun c => (r, c)) = fun j => decide (j = c) := by
        funext j
        simp
      rw [e1, e2, range_one hc]
      rfl
theorem sum_ind {α : Type} (P : α → Bool) : ∀ l : List α, (l.map fun q => if P q = true then (1 : Int) else 0).sum = ((l.filter P).length : Int)
  | [] => rfl
  | a :: l => by
    rw [List.map_cons, List.sum_cons, sum_ind P l, List.filter_cons]
    split <;> simp <;> omega
theorem sum_addM {α : Type} (f h : α → Int) : ∀ l : List α, (l.map fun q => f q + h q).sum = (l.map f).sum + (l.map h).sum
  | [] => rfl
  | a :: l => by
    rw [List.map_cons, List.map_cons, List.map_cons, List.sum_cons, List.sum_cons, List.sum_cons, sum_addM f h l]
    omega
/-- all cells together -/
theorem vis_sum (g : Gd w R C) : ∀ m, ((prs C R).map fun q => ((vsN x y R C w m q : Nat) : Int)).sum = (m : Int)
  | 0 => by
    have : ((prs C R).map fun q => ((vsN x y R C w 0 q : Nat) : Int)) = (prs C R).map fun _ => (0 : Int) := rfl
    rw [this]
    induction prs C R with
    | nil => rfl
    | cons a l ih =>
      rw [List.map_cons, List.sum_cons, ih]
      rfl
  | m + 1 => by
    have gm := itr_gd (x := x) (y := y) g m
    have e : (fun q => ((vsN x y R C w (m + 1) q : Nat) : Int)) = fun q => ((vsN x y R C w m q : Nat) : Int) + (if decide (q = ((itr (stp x y R C) m w).r, (itr (stp x y R C) m w).c)) = true then (1 : Int) else 0) := by
      funext q
      unfold vsN
      rw [cntN_succ]
      have h : cl x y R C w m = ((q.1 : Int), (q.2 : Int)) ↔ q = ((itr (stp x y R C) m w).r, (itr (stp x y R C) m w).c) := by
        unfold cl
        constructor
        · intro z
          injection z with z1 z2
          exact Prod.ext (Int.ofNat.inj z1).symm (Int.ofNat.inj z2).symm
        · intro z
          rw [z]
      by_cases z : q = ((itr (stp x y R C) m w).r, (itr (stp x y R C) m w).c)
      · rw [if_pos (h.mpr z), if_pos (decide_eq_true z)]
        rfl
      · rw [if_neg (fun u => z (h.mp u)), if_neg (fun u => z (of_decide_eq_true u))]
        rfl
    rw [e, sum_addM, vis_sum g m, sum_ind, prs_one gm.hc gm.hr]
    rfl
/-- the colour of a cell by how often it was stood on -/
theorem at_itr (g : Gd w R C) {r c : Nat} (hr : r < R) (hc : c < C) : ∀ m, at_ (itr (stp x y R C) m w).b r c = if vsN x y R C w m (r, c) % 2 = 0 then at_ w.b r c else fl (at_ w.b r c)
  | 0 => rfl
  | m + 1 => by
    have gm := itr_gd (x := x) (y := y) g m
    have ih := at_itr g hr hc m
    show at_ (flipB (itr (stp x y R C) m w).b (itr (stp x y R C) m w).r (itr (stp x y R C) m w).c) r c = _
    rw [at_flipG gm.bd gm.hr gm.hc]
    have e : vsN x y R C w (m + 1) (r, c) = vsN x y R C w m (r, c) + (if cl x y R C w m = ((r : Int), (c : Int)) then 1 else 0) := cntN_succ _ _ _
    rw [e]
    by_cases q : r = (itr (stp x y R C) m w).r ∧ c = (itr (stp x y R C) m w).c
    · have h : cl x y R C w m = ((r : Int), (c : Int)) := by
        unfold cl
        rw [q.1, q.2]
      rw [if_pos q, if_pos h, ← q.1, ← q.2, ih]
      by_cases z : vsN x y R C w m (r, c) % 2 = 0
      · rw [if_pos z, if_neg (by omega)]
      · rw [if_neg z, if_pos (by omega), fl_fl (at_sgn g.bd hr hc)]
    · have h : ¬ cl x y R C w m = ((r : Int), (c : Int)) := fun z => by
        unfold cl at z
        injection z with z1 z2
        exact q ⟨(Int.ofNat.inj z1).symm, (Int.ofNat.inj z2).symm⟩
      rw [if_neg q, if_neg h, Nat.add_zero, ih]
theorem fl_ne {v : Nat} (h : v = 46 ∨ v = 35) : fl v ≠ v := by
  rcases h with h | h <;> (subst h; decide)
theorem vis_even {p : Nat} (g : Gd w R C) (h : Rl x y R C w p) {q : Nat × Nat} (hq : q ∈ prs C R) : vsN x y R C w p q % 2 = 0 := by
  obtain ⟨h1, h2⟩ := prs_mem hq
  have e := at_itr (x := x) (y := y) g h1 h2 p
  rw [h.cl] at e
  by_cases z : vsN x y R C w p q % 2 = 0
  · exact z
  · rw [if_neg z] at e
    exact absurd e.symm (fl_ne (at_sgn g.bd h1 h2))
/-- from any state of the round -/
theorem cntN_shift (f : Nat → Int × Int) (c : Int × Int) : ∀ m, cntN f (m + 1) c = (if f 0 = c then 1 else 0) + cntN (fun i => f (i + 1)) m c
  | 0 => by rw [cntN_succ, cntN_0, cntN_0]; omega
  | m + 1 => by
    rw [cntN_succ f (m + 1), cntN_shift f c m, cntN_succ (fun i => f (i + 1)) m]
    omega
theorem vis_on {p : Nat} (g : Gd w R C) (h : Rl x y R C w p) : ∀ j, visL x y R C (itr (stp x y R C) j w) p = visL x y R C w p
  | 0 => rfl
  | j + 1 => by
    rw [← vis_on g h j]
    have hj := h.on g j
    have ec : cl x y R C (itr (stp x y R C) (j + 1) w) = fun i => cl x y R C (itr (stp x y R C) j w) (i + 1) := by
      funext i
      unfold cl
      have e : itr (stp x y R C) i (itr (stp x y R C) (j + 1) w) = itr (stp x y R C) (i + 1) (itr (stp x y R C) j w) := by
        rw [itr_succ' (stp x y R C) (itr (stp x y R C) j w) i]
        rfl
      rw [e]
    unfold visL vsN
    refine List.map_congr_left fun q hq => ?_
    rw [ec]
    congr 2
    have s1 := cntN_succ (cl x y R C (itr (stp x y R C) j w)) p ((q.1 : Int), (q.2 : Int))
    have s2 := cntN_shift (cl x y R C (itr (stp x y R C) j w)) ((q.1 : Int), (q.2 : Int)) p
    have ep : cl x y R C (itr (stp x y R C) j w) p = cl x y R C (itr (stp x y R C) j w) 0 := by
      unfold cl
      rw [hj.cl]
      rfl
    rw [ep] at s1
    rw [s1] at s2
    omega
theorem sum_visL {p : Nat} (g : Gd w R C) : b1D .sum (.tup (visL x y R C w p)) = .ok (.int (p : Nat)) := by
  show (match intsD (visL x y R C w p) with | some ns => Res.ok (D.int ns.sum) | none => .stuck) = _
  unfold visL
  rw [ints_map (fun q => ((vsN x y R C w p q : Nat) : Int))]
  show Res.ok (D.int _) = _
  rw [vis_sum g p]
end
end Fw

set_option linter.all false
set_option autoImplicit false
set_option maxRecDepth 100000
/-! FwMath12: the colours that turns tell, and the boards that agree with them. -/
namespace Fw
abbrev KV := List ((Int × Int) × D)
abbrev ky (r c : Nat) : Int × Int := ((r : Int), (c : Int))
theorem ky_inj {r c i j : Nat} : ky r c = ky i j ↔ r = i ∧ c = j := by
  unfold ky
  constructor
  · intro h
    have h1 := congrArg Prod.fst h
    have h2 := congrArg Prod.snd h
    simp at h1 h2
    omega
  · rintro ⟨rfl, rfl⟩
    rfl
def isBl : D → Bool → Bool
  | .bl z, b => z == b
  | _, _ => false
theorem isBl_iff {v : D} {b : Bool} : isBl v b = true ↔ v = .bl b := by
  cases v <;> simp [isBl]
def nl (l t : Nat) : Nat := (l + qt t) % 4
/-- what told_colours makes of turns: the first colours, or the place that is barred -/
def told (x y R C : Nat) : List Nat → Nat → Nat → Nat → Nat → KV → KV → KV ⊕ Nat
  | [], _, _, _, _, f, _ => .inl f
  | t :: ts, i, r, c, l, f, w =>
    if t ≠ x ∧ t ≠ y then .inr i
    else if x = y then told x y R C ts (i + 1) (mv R r (dnI (nl l t))) (mv C c (rtI (nl l t))) (nl l t) f w
    else match dfind w (ky r c) with
      | none => told x y R C ts (i + 1) (mv R r (dnI (nl l t))) (mv C c (rtI (nl l t))) (nl l t) (dput f (ky r c) (.bl (decide (y = t)))) (dput w (ky r c) (.bl (!decide (y = t))))
      | some v => if isBl v (decide (y = t)) then told x y R C ts (i + 1) (mv R r (dnI (nl l t))) (mv C c (rtI (nl l t))) (nl l t) f (dput w (ky r c) (.bl (!decide (y = t)))) else .inr i
section
variable {x y R C : Nat}
theorem tnsM_cons (u : Ws) (m : Nat) : tnsM x y R C u (m + 1) = trn x y u.b u.r u.c :: tnsM x y R C (stp x y R C u) m := by
  unfold tnsM its
  rw [List.range_succ_eq_map]
  simp only [List.map_cons, List.map_map]
  congr 1
  refine List.map_congr_left fun i _ => ?_
  simp only [Function.comp]
  rw [itr_succ']
/-- the same keys -/
def Keys (f w : KV) : Prop := ∀ q, (dfind f q).isSome = (dfind w q).isSome
theorem Keys.put2 {f w : KV} (h : Keys f w) (k : Int × Int) (v u : D) : Keys (dput f k v) (dput w k u) := fun q => by
  rw [dfind_put, dfind_put]
  by_cases e : q = k
  · rw [if_pos e, if_pos e]; rfl
  · rw [if_neg e, if_neg e]; exact h q
theorem Keys.put {f w : KV} (h : Keys f w) (k : Int × Int) (u v : D) (hk : dfind w k = some v) : Keys f (dput w k u) := fun q => by
  rw [dfind_put]
  by_cases e : q = k
  · rw [if_pos e, e, h k, hk]; rfl
  · rw [if_neg e]; exact h q
theorem told_keep : ∀ (ts : List Nat) (i r c l : Nat) (f w f' : KV), Keys f w → told x y R C ts i r c l f w = .inl f' → ∀ q v, dfind f q = some v → dfind f' q = some v
  | [], i, r, c, l, f, w, f', _, h, q, v, hq => by cases h; exact hq
  | t :: ts, i, r, c, l, f, w, f', K, h, q, v, hq => by
    unfold told at h
    split at h
    · cases h
    · split at h
      · exact told_keep ts _ _ _ _ _ _ _ K h q v hq
      · split at h
        · rename_i hn
          refine told_keep ts _ _ _ _ _ _ _ (K.put2 _ _ _) h q v ?_
          rw [dfind_put]
          by_cases e : q = ky r c
          · have := K q
            rw [hq, e, hn] at this
            cases this
          · rw [if_neg e]; exact hq
        · rename_i v' hv
          split at h
          · exact told_keep ts _ _ _ _ _ _ _ (K.put _ _ _ hv) h q v hq
          · cases h
/-- the board agrees with the colours told -/
def Agr (R C : Nat) (b : List Tx) (f : KV) : Prop := ∀ r c v, r < R → c < C → dfind f (ky r c) = some v → v = .bl (decide (at_ b r c = 35))
structure TI (R C : Nat) (b cur : List Tx) (f w : KV) : Prop where
  ks : Keys f w
  nw : Agr R C cur w
  un : ∀ r c, r < R → c < C → dfind w (ky r c) = none → at_ cur r c = at_ b r c
theorem told_iff (hxy : x ≠ y) {b : List Tx} (hb : Bd b R C) : ∀ (ts : List Nat) (i : Nat) (u : Ws) (f w : KV), Gd u R C → TI R C b u.b f w → Agr R C b f →
    (tnsM x y R C u ts.length = ts ↔ ∃ f', told x y R C ts i u.r u.c u.l f w = .inl f' ∧ Agr R C b f')
  | [], i, u, f, w, g, I, A => ⟨fun _ => ⟨f, rfl, A⟩, fun _ => rfl⟩
  | t :: ts, i, u, f, w, g, I, A => by
    have hs := at_sgn g.bd g.hr g.hc
    have hsb := at_sgn hb g.hr g.hc
    rw [List.length_cons, tnsM_cons, List.cons.injEq]
    have tw : trn x y u.b u.r u.c = t ↔ (t = x ∨ t = y) ∧ decide (at_ u.b u.r u.c = 35) = decide (y = t) := by
      unfold trn
      by_cases e : at_ u.b u.r u.c = 35
      · rw [if_pos e]
        simp only [e, decide_true]
        constructor
        · intro z; exact ⟨.inr z.symm, by simp [z]⟩
        · intro z
          have := z.2
          simpa using this.symm
      · rw [if_neg e]
        simp only [e, decide_false]
        constructor
        · intro z; subst z; exact ⟨.inl rfl, by simp; exact fun q => hxy q.symm⟩
        · rintro ⟨z | z, z'⟩
          · exact z.symm
          · subst z; simp at z'
    unfold told
    by_cases hin : t = x ∨ t = y
    · rw [if_neg (by rintro ⟨z1, z2⟩; rcases hin with z | z; exact z1 z; exact z2 z), if_neg hxy]
      have go : trn x y u.b u.r u.c = t → ∀ f2, (∀ v, dfind w (ky u.r u.c) = some v → f2 = f) → TI R C b (stp x y R C u).b f2 (dput w (ky u.r u.c) (.bl (!decide (y = t)))) → Agr R C b f2 →
          (tnsM x y R C (stp x y R C u) ts.length = ts ↔ ∃ f', told x y R C ts (i + 1) (mv R u.r (dnI (nl u.l t))) (mv C u.c (rtI (nl u.l t))) (nl u.l t) f2 (dput w (ky u.r u.c) (.bl (!decide (y = t)))) = .inl f' ∧ Agr R C b f') := by
        intro e f2 _ I2 A2
        have z := told_iff hxy hb ts (i + 1) (stp x y R C u) f2 _ (stp_gd g) I2 A2
        have e1 : (stp x y R C u).l = nl u.l t := by unfold stp nl; rw [e]
        have e2 : (stp x y R C u).r = mv R u.r (dnI (nl u.l t)) := by unfold stp nl; rw [e]
        have e3 : (stp x y R C u).c = mv C u.c (rtI (nl u.l t)) := by unfold stp nl; rw [e]
        rw [e1, e2, e3] at z
        exact z
      have flp : ∀ r c, r < R → c < C → at_ (stp x y R C u).b r c = if r = u.r ∧ c = u.c then fl (at_ u.b u.r u.c) else at_ u.b r c := fun r c _ _ => at_flipG g.bd g.hr g.hc
      have nw2 : trn x y u.b u.r u.c = t → Agr R C (stp x y R C u).b (dput w (ky u.r u.c) (.bl (!decide (y = t)))) := fun e r c v hr hc hv => by
        rw [dfind_put] at hv
        rw [flp r c hr hc]
        by_cases q : ky r c = ky u.r u.c
        · rw [if_pos q] at hv
          rw [if_pos (ky_inj.mp q)]
          cases hv
          congr 1
          rw [← (tw.mp e).2]
          rcases hs with z | z <;> rw [z] <;> rfl
        · rw [if_neg q] at hv
          rw [if_neg fun z => q (ky_inj.mpr z)]
          exact I.nw r c v hr hc hv
      have un2 : ∀ r c, r < R → c < C → dfind (dput w (ky u.r u.c) (.bl (!decide (y = t)))) (ky r c) = none → at_ (stp x y R C u).b r c = at_ b r c := fun r c hr hc hv => by
        rw [dfind_put] at hv
        by_cases q : ky r c = ky u.r u.c
        · rw [if_pos q] at hv; cases hv
        · rw [if_neg q] at hv
          rw [flp r c hr hc, if_neg fun z => q (ky_inj.mpr z)]
          exact I.un r c hr hc hv
      split
      · rename_i hn
        have eb := I.un u.r u.c g.hr g.hc hn
        by_cases ec : decide (at_ u.b u.r u.c = 35) = decide (y = t)
        · have e := tw.mpr ⟨hin, ec⟩
          have A2 : Agr R C b (dput f (ky u.r u.c) (.bl (decide (y = t)))) := fun r c v hr hc hv => by
            rw [dfind_put] at hv
            by_cases q : ky r c = ky u.r u.c
            · rw [if_pos q] at hv
              cases hv
              obtain ⟨q1, q2⟩ := ky_inj.mp q
              rw [q1, q2, ← eb, ec]
            · rw [if_neg q] at hv
              exact A r c v hr hc hv
          have z := go e _ (fun v hv => by rw [hn] at hv; cases hv) ⟨I.ks.put2 _ _ _, nw2 e, un2⟩ A2
          exact ⟨fun q => z.mp q.2, fun q => ⟨e, z.mpr q⟩⟩
        · constructor
          · intro q; exact absurd (tw.mp q.1).2 ec
          · rintro ⟨f', q1, q2⟩
            have q3 := told_keep ts _ _ _ _ _ _ _ (I.ks.put2 _ _ _) q1 (ky u.r u.c) (.bl (decide (y = t))) (by rw [dfind_put, if_pos rfl])
            have q4 := q2 u.r u.c _ g.hr g.hc q3
            rw [← eb] at q4
            injection q4 with q5
            exact absurd q5.symm ec
      · rename_i v hv
        have ev := I.nw u.r u.c v g.hr g.hc hv
        by_cases ec : v = .bl (decide (y = t))
        · rw [if_pos (isBl_iff.mpr ec)]
          have ec' : decide (at_ u.b u.r u.c = 35) = decide (y = t) := by
            rw [ev] at ec
            injection ec
          have e := tw.mpr ⟨hin, ec'⟩
          have z := go e f (fun _ _ => rfl) ⟨I.ks.put _ _ _ hv, nw2 e, un2⟩ A
          exact ⟨fun q => z.mp q.2, fun q => ⟨e, z.mpr q⟩⟩
        · rw [if_neg fun z => ec (isBl_iff.mp z)]
          constructor
          · intro q
            have := (tw.mp q.1).2
            exact absurd (by rw [ev, this]) ec
          · rintro ⟨f', q1, _⟩
            cases q1
    · rw [if_pos ⟨fun z => hin (.inl z), fun z => hin (.inr z)⟩]
      constructor
      · intro q; exact absurd (tw.mp q.1).1 hin
      · rintro ⟨f', q1, _⟩
        cases q1
/-- a rule of one sign -/
theorem told_same : ∀ (ts : List Nat) (i : Nat) (u : Ws) (f w : KV),
    (tnsM x x R C u ts.length = ts ↔ told x x R C ts i u.r u.c u.l f w = .inl f)
  | [], i, u, f, w => ⟨fun _ => rfl, fun _ => rfl⟩
  | t :: ts, i, u, f, w => by
    rw [List.length_cons, tnsM_cons, List.cons.injEq]
    have e : trn x x u.b u.r u.c = x := by unfold trn; split <;> rfl
    unfold told
    rw [e]
    by_cases h : t = x
    · rw [if_neg (by simp [h]), if_pos rfl, h]
      have z := told_same ts (i + 1) (stp x x R C u) f w
      have e1 : (stp x x R C u).l = nl u.l x := by unfold stp nl; rw [e]
      have e2 : (stp x x R C u).r = mv R u.r (dnI (nl u.l x)) := by unfold stp nl; rw [e]
      have e3 : (stp x x R C u).c = mv C u.c (rtI (nl u.l x)) := by unfold stp nl; rw [e]
      rw [e1, e2, e3] at z
      exact ⟨fun q => z.mp q.2, fun q => ⟨rfl, z.mpr q⟩⟩
    · rw [if_pos ⟨h, h⟩]
      exact ⟨fun q => absurd q.1.symm h, fun q => by cases q⟩
end
end Fw

set_option linter.all false
set_option autoImplicit false
set_option maxRecDepth 100000
/-! FwMath13: all boards, how many agree with colours, the least. -/
namespace Fw
section
variable {x y R C : Nat}
theorem told_same_f : ∀ (ts : List Nat) (i r c l : Nat) (f w f' : KV), told x x R C ts i r c l f w = .inl f' → f' = f
  | [], i, r, c, l, f, w, f', h => by cases h; rfl
  | t :: ts, i, r, c, l, f, w, f', h => by
    unfold told at h
    split at h
    · cases h
    · rw [if_pos rfl] at h
      exact told_same_f ts _ _ _ _ _ _ _ h
theorem agr_nil (b : List Tx) : Agr R C b [] := fun r c v _ _ h => by cases h
theorem told_all {u : Ws} (g : Gd u R C) (ts : List Nat) : tnsM x y R C u ts.length = ts ↔ ∃ f, told x y R C ts 0 u.r u.c u.l [] [] = .inl f ∧ Agr R C u.b f := by
  by_cases e : x = y
  · subst e
    rw [told_same ts 0 u [] []]
    constructor
    · intro h; exact ⟨[], h, agr_nil _⟩
    · rintro ⟨f, h, _⟩
      rw [told_same_f _ _ _ _ _ _ _ _ h] at h
      exact h
  · exact told_iff e g.bd ts 0 u [] [] g ⟨fun _ => rfl, agr_nil _, fun _ _ _ _ _ => rfl⟩ (agr_nil _)
end
/-! ### all boards -/
def texts : Nat → List Tx
  | 0 => [[]]
  | c + 1 => (texts c).map (· ++ [35]) ++ (texts c).map (· ++ [46])
def boards (C : Nat) : Nat → List (List Tx)
  | 0 => [[]]
  | r + 1 => (boards C r).flatMap fun b => (texts C).map fun t => b ++ [t]
def okc : Option D → Nat → Bool
  | none, _ => true
  | some v, u => isBl v (decide (u = 35))
def okTx (g : Nat → Option D) (t : Tx) : Bool := (List.range t.length).all fun j => okc (g j) (t.getD j 0)
def okB (G : Nat → Nat → Option D) (b : List Tx) : Bool := (List.range b.length).all fun i => okTx (G i) (b.getD i [])
def pw (g : Nat → Option D) : Nat → Nat
  | 0 => 1
  | c + 1 => pw g c * (if (g c).isSome then 1 else 2)
def pwB (C : Nat) (G : Nat → Nat → Option D) : Nat → Nat
  | 0 => 1
  | r + 1 => pwB C G r * pw (G r) C
theorem getD_app {α : Type} {l : List α} {a d : α} {j : Nat} (h : j < l.length) : (l ++ [a]).getD j d = l.getD j d := by
  simp [List.getD, List.getElem?_append_left h]
theorem getD_end {α : Type} {l : List α} {a d : α} : (l ++ [a]).getD l.length d = a := by
  simp [List.getD]
theorem okTx_snoc (g : Nat → Option D) (t : Tx) (v : Nat) : okTx g (t ++ [v]) = (okTx g t && okc (g t.length) v) := by
  unfold okTx
  rw [List.length_append, List.length_singleton, List.range_succ, List.all_append]
  congr 1
  · rw [Bool.eq_iff_iff, List.all_eq_true, List.all_eq_true]
    exact ⟨fun h j hj => by have := h j hj; rwa [getD_app (List.mem_range.mp hj)] at this, fun h j hj => by rw [getD_app (List.mem_range.mp hj)]; exact h j hj⟩
  · simp only [List.all_cons, List.all_nil, Bool.and_true]
    rw [getD_end]
theorem okB_snoc (G : Nat → Nat → Option D) (b : List Tx) (t : Tx) : okB G (b ++ [t]) = (okB G b && okTx (G b.length) t) := by
  unfold okB
  rw [List.length_append, List.length_singleton, List.range_succ, List.all_append]
  congr 1
  · rw [Bool.eq_iff_iff, List.all_eq_true, List.all_eq_true]
    exact ⟨fun h j hj => by have := h j hj; rwa [getD_app (List.mem_range.mp hj)] at this, fun h j hj => by rw [getD_app (List.mem_range.mp hj)]; exact h j hj⟩
  · simp only [List.all_cons, List.all_nil, Bool.and_true]
    rw [getD_end]
theorem texts_mem : ∀ {c : Nat} {t : Tx}, t ∈ texts c ↔ t.length = c ∧ ∀ v ∈ t, v = 46 ∨ v = 35
  | 0, t => by
    simp only [texts, List.mem_singleton]
    constructor
    · rintro rfl; simp
    · intro h; exact List.eq_nil_of_length_eq_zero h.1
  | c + 1, t => by
    simp only [texts, List.mem_append, List.mem_map]
    constructor
    · rintro (⟨s, hs, rfl⟩ | ⟨s, hs, rfl⟩)
      · obtain ⟨h1, h2⟩ := texts_mem.mp hs
        refine ⟨by simp [h1], fun v hv => ?_⟩
        rcases List.mem_append.mp hv with z | z
        · exact h2 v z
        · exact .inr (List.mem_singleton.mp z)
      · obtain ⟨h1, h2⟩ := texts_mem.mp hs
        refine ⟨by simp [h1], fun v hv => ?_⟩
        rcases List.mem_append.mp hv with z | z
        · exact h2 v z
        · exact .inl (List.mem_singleton.mp z)
    · rintro ⟨h1, h2⟩
      obtain ⟨s, v, rfl⟩ : ∃ s v, t = s ++ [v] := by
        refine ⟨t.dropLast, t.getLast (fun z => by rw [z] at h1; cases h1), (List.dropLast_concat_getLast _).symm⟩
      have hs : s ∈ texts c := texts_mem.mpr ⟨by simpa using h1, fun u hu => h2 u (List.mem_append_left _ hu)⟩
      rcases h2 v (List.mem_append_right _ (List.mem_singleton.mpr rfl)) with z | z
      · exact .inr ⟨s, hs, by rw [z]⟩
      · exact .inl ⟨s, hs, by rw [z]⟩
theorem boards_mem {C : Nat} : ∀ {r : Nat} {b : List Tx}, b ∈ boards C r ↔ b.length = r ∧ ∀ t ∈ b, t ∈ texts C
  | 0, b => by
    simp only [boards, List.mem_singleton]
    constructor
    · rintro rfl; simp
    · intro h; exact List.eq_nil_of_length_eq_zero h.1
  | r + 1, b => by
    simp only [boards, List.mem_flatMap, List.mem_map]
    constructor
    · rintro ⟨s, hs, t, ht, rfl⟩
      obtain ⟨h1, h2⟩ := boards_mem.mp hs
      refine ⟨by simp [h1], fun v hv => ?_⟩
      rcases List.mem_append.mp hv with z | z
      · exact h2 v z
      · rw [List.mem_singleton.mp z]; exact ht
    · rintro ⟨h1, h2⟩
      obtain ⟨s, v, rfl⟩ : ∃ s v, b = s ++ [v] := by
        refine ⟨b.dropLast, b.getLast (fun z => by rw [z] at h1; cases h1), (List.dropLast_concat_getLast _).symm⟩
      exact ⟨s, boards_mem.mpr ⟨by simpa using h1, fun u hu => h2 u (List.mem_append_left _ hu)⟩, v, h2 v (List.mem_append_right _ (List.mem_singleton.mpr rfl)), rfl⟩
theorem boards_bd {R C : Nat} {b : List Tx} : b ∈ boards C R ↔ Bd b R C := by
  rw [boards_mem]
  constructor
  · rintro ⟨h1, h2⟩
    exact ⟨h1, fun t ht => (texts_mem.mp (h2 t ht)).1, fun t ht => (texts_mem.mp (h2 t ht)).2⟩
  · rintro ⟨h1, h2, h3⟩
    exact ⟨h1, fun t ht => texts_mem.mpr ⟨h2 t ht, h3 t ht⟩⟩
theorem countP_fm {α β : Type} (p : β → Bool) (q : α → Bool) (n : Nat) (f : α → List β) : ∀ l : List α, (∀ a ∈ l, (f a).countP p = if q a = true then n else 0) → (l.flatMap f).countP p = l.countP q * n
  | [], _ => by simp
  | a :: l, h => by
    rw [List.flatMap_cons, List.countP_append, h a List.mem_cons_self, countP_fm p q n f l fun b hb => h b (List.mem_cons_of_mem _ hb), List.countP_cons]
    by_cases e : q a = true
    · rw [if_pos e, if_pos e, Nat.add_mul, Nat.one_mul, Nat.add_comm]
    · rw [if_neg e, if_neg e]; simp
theorem count_texts (g : Nat → Option D) (hg : ∀ c v, g c = some v → ∃ z, v = .bl z) : ∀ c, (texts c).countP (okTx g) = pw g c
  | 0 => by simp [texts, pw, okTx]
  | c + 1 => by
    have key : ∀ v : Nat, ((texts c).map (· ++ [v])).countP (okTx g) = if okc (g c) v = true then pw g c else 0 := fun v => by
      rw [List.countP_map]
      by_cases e : okc (g c) v = true
      · rw [if_pos e, ← count_texts g hg c]
        refine List.countP_congr fun t ht => ?_
        simp only [Function.comp]
        rw [okTx_snoc, (texts_mem.mp ht).1, e, Bool.and_true]
      · rw [if_neg e, List.countP_eq_zero]
        intro t ht
        simp only [Function.comp]
        rw [okTx_snoc, (texts_mem.mp ht).1]
        simp [e]
    rw [texts, List.countP_append, key, key, pw]
    cases q : g c with
    | none => simp [okc]; omega
    | some v =>
      obtain ⟨z, rfl⟩ := hg c v q
      cases z <;> simp [okc, isBl]
theorem count_boards (G : Nat → Nat → Option D) (hG : ∀ r c v, G r c = some v → ∃ z, v = .bl z) (C : Nat) : ∀ r, (boards C r).countP (okB G) = pwB C G r
  | 0 => by simp [boards, pwB, okB]
  | r + 1 => by
    rw [boards, pwB, ← count_boards G hG C r]
    refine countP_fm _ _ _ _ _ fun b hb => ?_
    rw [List.countP_map]
    have hl := (boards_mem.mp hb).1
    by_cases e : okB G b = true
    · rw [if_pos e, ← count_texts (G r) (hG r) C]
      refine List.countP_congr fun t ht => ?_
      simp only [Function.comp]
      rw [okB_snoc, e, hl, Bool.true_and]
    · rw [if_neg e, List.countP_eq_zero]
      intro t ht
      simp only [Function.comp]
      rw [okB_snoc]
      simp [e]
end Fw

set_option linter.all false
set_option autoImplicit false
set_option maxRecDepth 100000
/-! FwMath14: the order of boards, the least of those that agree. -/
namespace Fw
theorem ltT_irr : ∀ a, ltT a a = false
  | [] => rfl
  | x :: a => by unfold ltT; rw [if_pos rfl]; exact ltT_irr a
theorem ltT_tot : ∀ {a b}, ltT a b = false → ltT b a = false → a = b
  | [], [], _, _ => rfl
  | [], _ :: _, h, _ => by cases h
  | _ :: _, [], _, h => by cases h
  | x :: a, y :: b, h1, h2 => by
    unfold ltT at h1 h2
    by_cases e : x = y
    · rw [if_pos e] at h1
      rw [if_pos e.symm] at h2
      rw [e, ltT_tot h1 h2]
    · rw [if_neg e] at h1
      rw [if_neg (Ne.symm e)] at h2
      simp at h1 h2
      omega
theorem ltT_neg : ∀ {c a : Tx} (b : Tx), ltT c a = true → ltT c b = true ∨ ltT b a = true
  | [], [], _, h => by cases h
  | _ :: _, [], _, h => by cases h
  | [], _ :: _, [], _ => .inr rfl
  | [], _ :: _, _ :: _, _ => .inl rfl
  | _ :: _, _ :: _, [], _ => .inr rfl
  | z :: c, x :: a, v :: b, h => by
    unfold ltT at h ⊢
    by_cases e : z = x
    · rw [if_pos e] at h
      by_cases e2 : z = v
      · rw [if_pos e2, if_pos (by omega)]
        exact ltT_neg b h
      · rw [if_neg e2, if_neg (by omega)]
        simp
        omega
    · rw [if_neg e] at h
      simp at h
      by_cases e2 : z = v
      · right
        rw [if_neg (by omega)]
        simp
        omega
      · rw [if_neg e2]
        by_cases e3 : z < v
        · left; simp [e3]
        · right
          rw [if_neg (by omega)]
          simp
          omega
theorem ltB_tot : ∀ {a b}, ltB a b = false → ltB b a = false → a = b
  | [], [], _, _ => rfl
  | [], _ :: _, h, _ => by cases h
  | _ :: _, [], _, h => by cases h
  | x :: a, y :: b, h1, h2 => by
    unfold ltB at h1 h2
    by_cases e : x = y
    · rw [if_pos e] at h1
      rw [if_pos e.symm] at h2
      rw [e, ltB_tot h1 h2]
    · rw [if_neg e] at h1
      rw [if_neg (Ne.symm e)] at h2
      exact absurd (ltT_tot h1 h2) e
theorem ltB_irr : ∀ a, ltB a a = false
  | [] => rfl
  | x :: a => by unfold ltB; rw [if_pos rfl]; exact ltB_irr a
theorem ltB_neg : ∀ {c a : List Tx} (b : List Tx), ltB c a = true → ltB c b = true ∨ ltB b a = true
  | [], [], _, h => by cases h
  | _ :: _, [], _, h => by cases h
  | [], _ :: _, [], _ => .inr rfl
  | [], _ :: _, _ :: _, _ => .inl rfl
  | _ :: _, _ :: _, [], _ => .inr rfl
  | z :: c, x :: a, v :: b, h => by
    unfold ltB at h ⊢
    by_cases e : z = x
    · rw [if_pos e] at h
      by_cases e2 : z = v
      · rw [if_pos e2, if_pos (by rw [← e2, e])]
        exact ltB_neg b h
      · rw [if_neg e2, if_neg (fun q => e2 (by rw [q, e]))]
        cases q1 : ltT z v
        · cases q2 : ltT v z
          · exact absurd (ltT_tot q1 q2) e2
          · right; rw [← e]; exact q2
        · exact .inl rfl
    · rw [if_neg e] at h
      by_cases e2 : z = v
      · right
        rw [← e2, if_neg e]
        exact h
      · rw [if_neg e2]
        rcases ltT_neg v h with q | q
        · exact .inl q
        · right
          rw [if_neg (fun z => by rw [z, ltT_irr] at q; cases q)]
          exact q
theorem ltB_asym {a b : List Tx} (h : ltB a b = true) : ltB b a = false := by
  cases q : ltB b a
  · rfl
  · exfalso
    have := ltB_neg (c := a) (a := b) a h
    have key : ∀ {a b : List Tx}, ltB a b = true → ltB b a = true → False := by
      intro a
      induction a with
      | nil => intro b h1 h2; cases b <;> simp [ltB] at h1 h2
      | cons x a ih =>
        intro b h1 h2
        cases b with
        | nil => simp [ltB] at h1
        | cons y b =>
          unfold ltB at h1 h2
          by_cases e : x = y
          · rw [if_pos e] at h1; rw [if_pos e.symm] at h2; exact ih h1 h2
          · rw [if_neg e] at h1; rw [if_neg (Ne.symm e)] at h2
            clear ih
            have key2 : ∀ {a b : Tx}, ltT a b = true → ltT b a = true → False := by
              intro a
              induction a with
              | nil => intro b h1 h2; cases b <;> simp [ltT] at h1 h2
              | cons x a ih =>
                intro b h1 h2
                cases b with
                | nil => simp [ltT] at h1
                | cons y b =>
                  unfold ltT at h1 h2
                  by_cases e : x = y
                  · rw [if_pos e] at h1; rw [if_pos e.symm] at h2; exact ih h1 h2
                  · rw [if_neg e] at h1; rw [if_neg (Ne.symm e)] at h2
                    simp at h1 h2
                    omega
            exact key2 h1 h2
    exact key h q
theorem leB_trans (a b c : List Tx) (h1 : leB a b = true) (h2 : leB b c = true) : leB a c = true := by
  unfold leB at *
  simp at *
  cases q : ltB c a
  · rfl
  · rcases ltB_neg b q with z | z
    · rw [z] at h2; cases h2
    · rw [z] at h1; cases h1
theorem leB_total (a b : List Tx) : (leB a b || leB b a) = true := by
  unfold leB
  cases q : ltB b a
  · rfl
  · rw [ltB_asym q]; rfl
theorem sortB_sd (l : List (List Tx)) : (sortB l).Pairwise fun a b => leB a b = true := List.pairwise_mergeSort leB_trans leB_total l
theorem sortB_pm (l : List (List Tx)) : (sortB l).Perm l := List.mergeSort_perm l _
theorem leB_anti {a b : List Tx} (h1 : leB a b = true) (h2 : leB b a = true) : a = b := by
  unfold leB at *
  simp at *
  exact ltB_tot h2 h1
/-- signs that are nowhere above make a text that is not above -/
theorem ltT_pt : ∀ {t s : Tx}, t.length = s.length → (∀ j, j < t.length → s.getD j 0 ≤ t.getD j 0) → ltT t s = false
  | [], [], _, _ => rfl
  | [], _ :: _, h, _ => by cases h
  | _ :: _, [], h, _ => by cases h
  | x :: t, y :: s, h, p => by
    unfold ltT
    by_cases e : x = y
    · rw [if_pos e]
      exact ltT_pt (by simpa using h) fun j hj => by have := p (j + 1) (by simpa using hj); simpa using this
    · rw [if_neg e]
      have := p 0 (by simp)
      simp at this ⊢
      omega
theorem ltB_pt : ∀ {t s : List Tx}, t.length = s.length → (∀ j, j < t.length → ltT (t.getD j []) (s.getD j []) = false) → ltB t s = false
  | [], [], _, _ => rfl
  | [], _ :: _, h, _ => by cases h
  | _ :: _, [], h, _ => by cases h
  | x :: t, y :: s, h, p => by
    unfold ltB
    by_cases e : x = y
    · rw [if_pos e]
      exact ltB_pt (by simpa using h) fun j hj => by have := p (j + 1) (by simpa using hj); simpa using this
    · rw [if_neg e]
      have := p 0 (by simp)
      simpa using this
end Fw

set_option linter.all false
set_option autoImplicit false
set_option maxRecDepth 100000
/-! FwMath15: the boards that walk as told. -/
namespace Fw
section
variable {x y R C : Nat} {b : List Tx}
def gf (f : KV) : Nat → Nat → Option D := fun r c => dfind f (ky r c)
def fcol : Option D → Nat
  | none => 35
  | some v => if isBl v true then 35 else 46
def firstB (R C : Nat) (G : Nat → Nat → Option D) : List Tx := mkB R C fun i j => fcol (G i j)
theorem fcol_sgn (v : Option D) : fcol v = 46 ∨ fcol v = 35 := by
  unfold fcol
  split
  · exact .inr rfl
  · split
    · exact .inr rfl
    · exact .inl rfl
theorem first_bd (G : Nat → Nat → Option D) : Bd (firstB R C G) R C := mk_bd fun _ _ _ _ => fcol_sgn _
theorem okB_iff {G : Nat → Nat → Option D} (hb : Bd b R C) : okB G b = true ↔ ∀ i j, i < R → j < C → okc (G i j) (at_ b i j) = true := by
  unfold okB okTx
  rw [List.all_eq_true]
  constructor
  · intro h i j hi hj
    obtain ⟨z, z1, z2, z3, z4⟩ := hb.get hi
    have := h i (List.mem_range.mpr (by rw [hb.rows]; exact hi))
    rw [List.all_eq_true] at this
    exact this j (List.mem_range.mpr (by rw [z2, z3]; exact hj))
  · intro h i hi
    have hi : i < R := by rw [← hb.rows]; exact List.mem_range.mp hi
    obtain ⟨z, z1, z2, z3, z4⟩ := hb.get hi
    rw [List.all_eq_true]
    intro j hj
    exact h i j hi (by rw [← z3, ← z2]; exact List.mem_range.mp hj)
theorem okB_agr {f : KV} (hb : Bd b R C) : okB (gf f) b = true ↔ Agr R C b f := by
  rw [okB_iff hb]
  constructor
  · intro h r c v hr hc hv
    have := h r c hr hc
    unfold gf at this
    rw [hv] at this
    exact isBl_iff.mp this
  · intro h r c hr hc
    unfold gf
    cases q : dfind f (ky r c) with
    | none => rfl
    | some v => exact isBl_iff.mpr (h r c v hr hc q)
def Bls (f : KV) : Prop := ∀ q v, dfind f q = some v → ∃ z, v = .bl z
theorem Bls.put {f : KV} (h : Bls f) (k : Int × Int) (z : Bool) : Bls (dput f k (.bl z)) := fun q v hv => by
  rw [dfind_put] at hv
  split at hv
  · cases hv; exact ⟨z, rfl⟩
  · exact h q v hv
theorem told_bls : ∀ (ts : List Nat) (i r c l : Nat) (f w f' : KV), Bls f → told x y R C ts i r c l f w = .inl f' → Bls f'
  | [], i, r, c, l, f, w, f', B, h => by cases h; exact B
  | t :: ts, i, r, c, l, f, w, f', B, h => by
    unfold told at h
    split at h
    · cases h
    · split at h
      · exact told_bls ts _ _ _ _ _ _ _ B h
      · split at h
        · exact told_bls ts _ _ _ _ _ _ _ (B.put _ _) h
        · split at h
          · exact told_bls ts _ _ _ _ _ _ _ B h
          · cases h
theorem bls_nil : Bls [] := fun _ _ h => by cases h
theorem first_okB {f : KV} (B : Bls f) : okB (gf f) (firstB R C (gf f)) = true := by
  rw [okB_iff (first_bd _)]
  intro i j hi hj
  unfold firstB
  rw [at_mk hi hj]
  cases q : gf f i j with
  | none => rfl
  | some v =>
    obtain ⟨z, rfl⟩ := B _ _ q
    cases z <;> rfl
theorem first_min {G : Nat → Nat → Option D} (hb : Bd b R C) (h : okB G b = true) : leB (firstB R C G) b = true := by
  unfold leB
  rw [Bool.not_eq_true']
  have hf := first_bd (R := R) (C := C) G
  refine ltB_pt (by rw [hb.rows, hf.rows]) fun i hi => ?_
  rw [hb.rows] at hi
  obtain ⟨z, z1, z2, z3, z4⟩ := hb.get hi
  obtain ⟨z', z1', z2', z3', z4'⟩ := hf.get hi
  refine ltT_pt (by rw [z2, z2', z3, z3']) fun j hj => ?_
  rw [z2, z3] at hj
  show at_ (firstB R C G) i j ≤ at_ b i j
  have k := (okB_iff hb).mp h i j hi hj
  unfold firstB
  rw [at_mk hi hj]
  have s := at_sgn hb hi hj
  cases q : G i j with
  | none => unfold fcol; dsimp only; omega
  | some v =>
    rw [q] at k
    have e := isBl_iff.mp (show isBl v (decide (at_ b i j = 35)) = true from k)
    subst e
    rcases s with s | s <;> rw [s] <;> simp [fcol, isBl]
/-- the boards that turn so -/
def ones (x y R C r c l : Nat) (ts : List Nat) : List (List Tx) := (sortB (boards C R)).filter fun b => decide (tnsM x y R C ⟨b, r, c, l⟩ ts.length = ts)
theorem ones_eq {r c l : Nat} {ts : List Nat} {f : KV} (z : Sz R C) (hr : r < R) (hc : c < C) (hl : l < 4) (h : told x y R C ts 0 r c l [] [] = .inl f) : ones x y R C r c l ts = (sortB (boards C R)).filter (okB (gf f)) := by
  unfold ones
  refine List.filter_congr fun b hb => ?_
  have hb' : Bd b R C := boards_bd.mp ((sortB_pm _).mem_iff.mp hb)
  have k := told_all (x := x) (y := y) (u := ⟨b, r, c, l⟩) ⟨hb', z, hr, hc, hl⟩ ts
  rw [Bool.eq_iff_iff, decide_eq_true_eq, okB_agr hb', k]
  constructor
  · rintro ⟨f', h1, h2⟩
    rw [h] at h1
    cases h1
    exact h2
  · intro a
    exact ⟨f, h, a⟩
theorem ones_none {r c l i : Nat} {ts : List Nat} (z : Sz R C) (hr : r < R) (hc : c < C) (hl : l < 4) (h : told x y R C ts 0 r c l [] [] = .inr i) : ones x y R C r c l ts = [] := by
  unfold ones
  rw [List.filter_eq_nil_iff]
  intro b hb
  have hb' : Bd b R C := boards_bd.mp ((sortB_pm _).mem_iff.mp hb)
  have k := told_all (x := x) (y := y) (u := ⟨b, r, c, l⟩) ⟨hb', z, hr, hc, hl⟩ ts
  rw [decide_eq_true_eq, k]
  rintro ⟨f', h1, h2⟩
  rw [h] at h1
  cases h1
theorem ones_len {r c l : Nat} {ts : List Nat} {f : KV} (z : Sz R C) (hr : r < R) (hc : c < C) (hl : l < 4) (h : told x y R C ts 0 r c l [] [] = .inl f) : (ones x y R C r c l ts).length = pwB C (gf f) R := by
  rw [ones_eq z hr hc hl h, ← List.countP_eq_length_filter, (sortB_pm _).countP_eq]
  exact count_boards (gf f) (fun r c v hv => told_bls ts _ _ _ _ _ _ _ bls_nil h _ v hv) C R
theorem ones_head {r c l : Nat} {ts : List Nat} {f : KV} (z : Sz R C) (hr : r < R) (hc : c < C) (hl : l < 4) (h : told x y R C ts 0 r c l [] [] = .inl f) : ∃ q, ones x y R C r c l ts = firstB R C (gf f) :: q := by
  rw [ones_eq z hr hc hl h]
  have B := told_bls ts _ _ _ _ _ _ _ bls_nil h
  have mf : firstB R C (gf f) ∈ (sortB (boards C R)).filter (okB (gf f)) := List.mem_filter.mpr ⟨(sortB_pm _).mem_iff.mpr (boards_bd.mpr (first_bd _)), first_okB B⟩
  have sd : ((sortB (boards C R)).filter (okB (gf f))).Pairwise fun a b => leB a b = true := (sortB_sd _).filter _
  have mb : ∀ b ∈ (sortB (boards C R)).filter (okB (gf f)), leB (firstB R C (gf f)) b = true := fun b hb => by
    obtain ⟨h1, h2⟩ := List.mem_filter.mp hb
    exact first_min (boards_bd.mp ((sortB_pm _).mem_iff.mp h1)) h2
  cases q : (sortB (boards C R)).filter (okB (gf f)) with
  | nil => rw [q] at mf; cases mf
  | cons a m =>
    rw [q] at mf sd mb
    have e : a = firstB R C (gf f) := by
      rcases List.mem_cons.mp mf with e | e
      · exact e.symm
      · exact leB_anti ((List.pairwise_cons.mp sd).1 _ e) (mb a List.mem_cons_self)
    exact ⟨m, by rw [e]⟩
end
end Fw

set_option linter.all false
set_option autoImplicit false
set_option maxRecDepth 100000
/-! FwMath16: what the defs about told turns compute. -/
namespace Fw
section
variable {x y R C r c l : Nat} {b : List Tx} {n k : Int} {T : Tx} {f w : KV} {p t q : Sl}
abbrev sT (x y : Nat) (b : List Tx) (T : Tx) (r c l : Nat) (f w : KV) (p t q : Sl) (n k : Int) : S :=
  ⟨[.val (.str [x, y]), .val (dB b), .val (dC r c), .val (.int l), .val (.str T), .od f, .od w, p, t, q], n, k, false⟩
abbrev tRet : Ss := .cons (.ret (.tup (.cons .non (.cons (.var 7) .nil)))) .nil
abbrev tIn : Ss := .cons (.set 9 (.cmp .eq (.ix (.var 0) (.int 1)) (.var 8)))
    (.cons (.iff (.dnin 6 (.var 2)) (.cons (.dput 5 (.var 2) (.var 9)) .nil) (.cons (.iff (.cmp .ne (.dix 6 (.var 2)) (.var 9)) tRet .nil) .nil))
    (.cons (.dput 6 (.var 2) (.not (.var 9))) .nil))
abbrev tEnd : Ss := .cons (.set 3 (.bin .mod (.bin .add (.var 3) (.ixg 0 t_QUARTERS (.var 8))) (.int 4)))
    (.cons (.set 2 (.call 15 f_next_cell (.cons (.var 1) (.cons (.var 2) (.cons (.var 3) .nil))))) .nil)
abbrev tBod : Ss := .cons (.iff (.cmp .nin (.var 8) (.var 0)) tRet .nil)
    (.cons (.iff (.cmp .ne (.ix (.var 0) (.int 0)) (.ix (.var 0) (.int 1))) tIn .nil) tEnd)
abbrev tTg : Tg := .tup (.cons (.nm 7) (.cons (.nm 8) .nil))
theorem nin2 {v : Nat} : cmpD .nin (.str [v]) (.str [x, y]) = .ok (.bl (!decide (v ∈ [x, y]))) := rfl
theorem sgn_ne {v u : Nat} : cmpD .ne (.str [v]) (.str [u]) = .ok (.bl (decide (¬ v = u))) := ne_pl rfl rfl rfl rfl _ (by simp)
theorem bl_ne {v u : Bool} : cmpD .ne (.bl v) (.bl u) = .ok (.bl (decide (¬ v = u))) := by cases v <;> cases u <;> rfl
theorem qElsR {a : E} {p' q' u : Ss} {s s1 s2 : S} {d : D} {t' : Bool} (h : ev a s = .ok (.bl t', s1)) (ht : t' = false) (h2 : evSs u s1 = .rt d s2) : evSs (.cons (.iff a q' u) p') s = .rt d s2 := by
  show ((ev a s).then _).then _ = _
  rw [h, ht]
  show (evSs u s1).then _ = _
  rw [h2]
  rfl
theorem tEnd_ok (hb : Bd b R C) (z : Sz R C) {v : Nat} (hv : isTurn v) (hl : l < 4) : evSs tEnd (sT x y b T r c l f w p (.val (.str [v])) q n k) = .nx (sT x y b T (mv R r (dnI (nl l v))) (mv C c (rtI (nl l v))) (nl l v) f w p (.val (.str [v])) q n k) := by
  refine vSet (s2 := sT x y b T r c (nl l v) f w p (.val (.str [v])) q n k) (eBin (eBin (eVar rfl) (eIxg (eVar rfl) (qt_ok hv)) rfl) eInt (modS (by decide))) ?_ ?_
  · unfold nl; rfl
  · exact vSet (eCall (sCons (eVar rfl) (sCons (eVar rfl) (sCons (eVar rfl) sNil))) (next_ok hb z (Nat.mod_lt _ (by decide)))) rfl qNil
theorem tRet_ok {i : Nat} {t : Sl} : evSs tRet (sT x y b T r c l f w (.val (.int (i : Nat))) t q n k) = .rt (.tup [.non, .int (i : Nat)]) (sT x y b T r c l f w (.val (.int (i : Nat))) t q n k) :=
  qRet (eTup (sCons eNon (sCons (eVar rfl) sNil)) (show 2 ≤ SL by decide))
theorem told_loop (hx : isTurn x) (hy : isTurn y) (hb : Bd b R C) (z : Sz R C) : ∀ (ts : List Nat) (i r c l : Nat) (f w : KV) (p t q : Sl), r < R → c < C → l < 4 → f.length + ts.length ≤ 100 → w.length + ts.length ≤ 100 → Bls w →
    match told x y R C ts i r c l f w with
    | .inl f' => ∃ r' c' l' w' p' t' q', f'.length ≤ 100 ∧ forL (stepF tTg tBod) (enumL i (ts.map fun c => .str [c])) (sT x y b T r c l f w p t q n k) = .nx (sT x y b T r' c' l' f' w' p' t' q' n k)
    | .inr j => ∃ r' c' l' f' w' p' t' q', forL (stepF tTg tBod) (enumL i (ts.map fun c => .str [c])) (sT x y b T r c l f w p t q n k) = .rt (.tup [.non, .int (j : Nat)]) (sT x y b T r' c' l' f' w' p' t' q' n k)
  | [], i, r, c, l, f, w, p, t, q, hr, hc, hl, h1, h2, B => ⟨r, c, l, w, p, t, q, by simpa using h1, rfl⟩
  | v :: ts, i, r, c, l, f, w, p, t, q, hr, hc, hl, h1, h2, B => by
    have bnd : bindT tTg (.tup [.int (i : Nat), .str [v]]) (sT x y b T r c l f w p t q n k) = some (sT x y b T r c l f w (.val (.int (i : Nat))) (.val (.str [v])) q n k) := rfl
    have r1 := z.r1
    have c1 := z.c1
    simp only [List.length_cons] at h1 h2
    have go : ∀ {s2 : S} {rr : RS}, evSs tBod (sT x y b T r c l f w (.val (.int (i : Nat))) (.val (.str [v])) q n k) = .nx s2 → forL (stepF tTg tBod) (enumL (i + 1) (ts.map fun c => .str [c])) s2 = rr →
        forL (stepF tTg tBod) (enumL i ((v :: ts).map fun c => .str [c])) (sT x y b T r c l f w p t q n k) = rr := fun e1 e2 => fCons bnd rfl e1 e2
    have stop : ∀ {d : D} {s2 : S}, evSs tBod (sT x y b T r c l f w (.val (.int (i : Nat))) (.val (.str [v])) q n k) = .rt d s2 →
        forL (stepF tTg tBod) (enumL i ((v :: ts).map fun c => .str [c])) (sT x y b T r c l f w p t q n k) = .rt d s2 := fun {d s2} e => by
      show (stepF tTg tBod (.tup [.int (i : Nat), .str [v]]) (sT x y b T r c l f w p t q n k)).then _ = _
      rw [stepF_ok bnd e]
      rfl
    unfold told
    by_cases hin : v ≠ x ∧ v ≠ y
    · rw [if_pos hin]
      refine ⟨r, c, l, f, w, _, _, q, stop (qIfTR (eCmp (eVar rfl) (eVar rfl) nin2) ?_ tRet_ok)⟩
      simp [hin.1, hin.2]
    · rw [if_neg hin]
      have hv : isTurn v := by
        by_cases e : v = x
        · rw [e]; exact hx
        · by_cases e' : v = y
          · rw [e']; exact hy
          · exact absurd ⟨e, e'⟩ hin
      have h0 : (!decide (v ∈ [x, y])) = false := by
        simp
        omega
      have hl' : nl l v < 4 := Nat.mod_lt _ (by decide)
      have hd : ∀ {rest : Ss} {s : S} {rr : RS}, s = sT x y b T r c l f w (.val (.int (i : Nat))) (.val (.str [v])) q n k → evSs rest s = rr → evSs (.cons (.iff (.cmp .nin (.var 8) (.var 0)) tRet .nil) rest) s = rr := fun hs e => by
        subst hs
        exact qIfF (eCmp (eVar rfl) (eVar rfl) nin2) h0 qNil e
      by_cases exy : x = y
      · rw [if_pos exy]
        have e1 : evSs tBod (sT x y b T r c l f w (.val (.int (i : Nat))) (.val (.str [v])) q n k) = .nx _ := hd rfl (qIfF (eCmp (eIx (eVar rfl) eInt rfl) (eIx (eVar rfl) eInt rfl) sgn_ne) (by simp [exy]) qNil (tEnd_ok hb z hv hl))
        have ih := told_loop hx hy hb z ts (i + 1) (mv R r (dnI (nl l v))) (mv C c (rtI (nl l v))) (nl l v) f w (.val (.int (i : Nat))) (.val (.str [v])) q (mv_lt r1) (mv_lt c1) hl' (by omega) (by omega) B
        revert ih
        cases told x y R C ts (i + 1) (mv R r (dnI (nl l v))) (mv C c (rtI (nl l v))) (nl l v) f w with
        | inl f' => exact fun ⟨a1, a2, a3, a4, a5, a6, a7, a8, a9⟩ => ⟨a1, a2, a3, a4, a5, a6, a7, a8, go e1 a9⟩
        | inr j => exact fun ⟨a1, a2, a3, a4, a5, a6, a7, a8, a9⟩ => ⟨a1, a2, a3, a4, a5, a6, a7, a8, go e1 a9⟩
      · rw [if_neg exy]
        have hne : decide (¬ x = y) = true := by simp [exy]
        have cnd : ev (.cmp .ne (.ix (.var 0) (.int 0)) (.ix (.var 0) (.int 1))) (sT x y b T r c l f w (.val (.int (i : Nat))) (.val (.str [v])) q n k) = .ok (.bl (decide (¬ x = y)), sT x y b T r c l f w (.val (.int (i : Nat))) (.val (.str [v])) q n k) := eCmp (eIx (eVar rfl) eInt rfl) (eIx (eVar rfl) eInt rfl) sgn_ne
        have lf : f.length < SL := Nat.lt_of_le_of_lt (show f.length ≤ 100 by omega) (by decide)
        have lw : w.length < SL := Nat.lt_of_le_of_lt (show w.length ≤ 100 by omega) (by decide)
        have lf2 := dput_len f (ky r c) (.bl (decide (y = v)))
        have lw2 := dput_len w (ky r c) (.bl (!decide (y = v)))
        have B2 := B.put (ky r c) (!decide (y = v))
        cases hn : dfind w (ky r c) with
        | none =>
          have e1 : evSs tBod (sT x y b T r c l f w (.val (.int (i : Nat))) (.val (.str [v])) q n k) = .nx _ := hd rfl (qIfT (s2 := sT x y b T r c l (dput f (ky r c) (.bl (decide (y = v)))) (dput w (ky r c) (.bl (!decide (y = v)))) (.val (.int (i : Nat))) (.val (.str [v])) (.val (.bl (decide (y = v)))) n k) cnd hne
            (vSet (s2 := sT x y b T r c l f w (.val (.int (i : Nat))) (.val (.str [v])) (.val (.bl (decide (y = v)))) n k) (eCmp (eIx (eVar rfl) eInt rfl) (eVar rfl) sgn_eq) rfl
              (qIfT (t := !(dfind w (ky r c)).isSome) (eDnin (eVar rfl) rfl rfl rfl) (by rw [hn]; rfl) (vDput (eVar rfl) rfl (eVar rfl) rfl rfl lf rfl qNil)
                (vDput (eNot (eVar rfl) rfl) rfl (eVar rfl) rfl rfl lw rfl qNil))) (tEnd_ok hb z hv hl))
          have ih := told_loop hx hy hb z ts (i + 1) (mv R r (dnI (nl l v))) (mv C c (rtI (nl l v))) (nl l v) (dput f (ky r c) (.bl (decide (y = v)))) (dput w (ky r c) (.bl (!decide (y = v)))) (.val (.int (i : Nat))) (.val (.str [v])) (.val (.bl (decide (y = v)))) (mv_lt r1) (mv_lt c1) hl' (by omega) (by omega) B2
          dsimp only
          revert ih
          cases told x y R C ts (i + 1) (mv R r (dnI (nl l v))) (mv C c (rtI (nl l v))) (nl l v) (dput f (ky r c) (.bl (decide (y = v)))) (dput w (ky r c) (.bl (!decide (y = v)))) with
          | inl f' => exact fun ⟨a1, a2, a3, a4, a5, a6, a7, a8, a9⟩ => ⟨a1, a2, a3, a4, a5, a6, a7, a8, go e1 a9⟩
          | inr j => exact fun ⟨a1, a2, a3, a4, a5, a6, a7, a8, a9⟩ => ⟨a1, a2, a3, a4, a5, a6, a7, a8, go e1 a9⟩
        | some u =>
          obtain ⟨u, rfl⟩ := B _ _ hn
          dsimp only
          by_cases eu : u = decide (y = v)
          · rw [if_pos (isBl_iff.mpr (by rw [eu]))]
            have e1 : evSs tBod (sT x y b T r c l f w (.val (.int (i : Nat))) (.val (.str [v])) q n k) = .nx _ := hd rfl (qIfT (s2 := sT x y b T r c l f (dput w (ky r c) (.bl (!decide (y = v)))) (.val (.int (i : Nat))) (.val (.str [v])) (.val (.bl (decide (y = v)))) n k) cnd hne
              (vSet (s2 := sT x y b T r c l f w (.val (.int (i : Nat))) (.val (.str [v])) (.val (.bl (decide (y = v)))) n k) (eCmp (eIx (eVar rfl) eInt rfl) (eVar rfl) sgn_eq) rfl
                (qIfF (t := !(dfind w (ky r c)).isSome) (eDnin (eVar rfl) rfl rfl rfl) (by rw [hn]; rfl) (qIfF (eCmp (eDix rfl (eVar rfl) rfl rfl hn) (eVar rfl) bl_ne) (by simp [eu]) qNil qNil)
                  (vDput (eNot (eVar rfl) rfl) rfl (eVar rfl) rfl rfl lw rfl qNil))) (tEnd_ok hb z hv hl))
            have ih := told_loop hx hy hb z ts (i + 1) (mv R r (dnI (nl l v))) (mv C c (rtI (nl l v))) (nl l v) f (dput w (ky r c) (.bl (!decide (y = v)))) (.val (.int (i : Nat))) (.val (.str [v])) (.val (.bl (decide (y = v)))) (mv_lt r1) (mv_lt c1) hl' (by omega) (by omega) B2
            revert ih
            cases told x y R C ts (i + 1) (mv R r (dnI (nl l v))) (mv C c (rtI (nl l v))) (nl l v) f (dput w (ky r c) (.bl (!decide (y = v)))) with
            | inl f' => exact fun ⟨a1, a2, a3, a4, a5, a6, a7, a8, a9⟩ => ⟨a1, a2, a3, a4, a5, a6, a7, a8, go e1 a9⟩
            | inr j => exact fun ⟨a1, a2, a3, a4, a5, a6, a7, a8, a9⟩ => ⟨a1, a2, a3, a4, a5, a6, a7, a8, go e1 a9⟩
          · rw [if_neg fun z => eu (by have := isBl_iff.mp z; injection this)]
            refine ⟨r, c, l, f, w, _, _, .val (.bl (decide (y = v))), stop (hd rfl (qIfTR cnd hne (vSet (s2 := sT x y b T r c l f w (.val (.int (i : Nat))) (.val (.str [v])) (.val (.bl (decide (y = v)))) n k) (eCmp (eIx (eVar rfl) eInt rfl) (eVar rfl) sgn_eq) rfl
              (qElsR (t' := !(dfind w (ky r c)).isSome) (eDnin (eVar rfl) rfl rfl rfl) (by rw [hn]; rfl) (qIfTR (eCmp (eDix rfl (eVar rfl) rfl rfl hn) (eVar rfl) bl_ne) (by simp [eu]) tRet_ok)))))⟩
def dF (f : KV) : D := .dic (f.map (·.1)) (f.map (·.2))
def toldD (m : Nat) : KV ⊕ Nat → D
  | .inl f => .tup [dF f, .int (m : Nat)]
  | .inr i => .tup [.non, .int (i : Nat)]
theorem tcol_ok (hx : isTurn x) (hy : isTurn y) (hb : Bd b R C) (z : Sz R C) (hr : r < R) (hc : c < C) (hl : l < 4) {ts : Tx} (ht : ts.length ≤ 40) :
    f_told_colours [.str [x, y], dB b, dC r c, .int l, .str ts] n k = .ok (toldD ts.length (told x y R C ts 0 r c l [] []), n, k) := by
  have lp := told_loop (n := n) (k := k) (T := ts) hx hy hb z ts 0 r c l [] [] .un .un .un hr hc hl (by simp; omega) (by simp; omega) bls_nil
  revert lp
  cases told x y R C ts 0 r c l [] [] with
  | inl f =>
    rintro ⟨r', c', l', w', p', t', q', h1, h2⟩
    refine runR (s := ⟨[.val (.str [x, y]), .val (dB b), .val (dC r' c'), .val (.int l'), .val (.str ts), .val (dF f), .od w', p', t', q'], n, k, false⟩) ?_
    refine vPar (s2 := sT x y b ts r c l [] [] .un .un .un n k) rNd rNd rfl ?_
    refine vFor (iEnum (eVar rfl) rfl) h2 ?_
    exact qRet (eTup (sCons (eOwnD rfl rfl rfl) (sCons (eB1 (eVar rfl) rfl) sNil)) (show 2 ≤ SL by decide))
  | inr j =>
    rintro ⟨r', c', l', f', w', p', t', q', h2⟩
    refine runR (s := sT x y b ts r' c' l' f' w' p' t' q' n k) ?_
    refine vPar (s2 := sT x y b ts r c l [] [] .un .un .un n k) rNd rNd rfl ?_
    exact vForR (iEnum (eVar rfl) rfl) h2
theorem nall_ok (hx : isTurn x) (hy : isTurn y) (hb : Bd b R C) (z : Sz R C) (hr : r < R) (hc : c < C) (hl : l < 4) {ts : Tx} (h1 : 1 ≤ ts.length) (ht : ts.length ≤ 40) (ha : ∀ v ∈ ts, isTurn v) :
    f_need_all [.str [x, y], dB b, dC r c, .int l, .str ts] n k = .ok (.non, n, k) := by
  have e1 : cmpD .le (.int 1) (.int (ts.length : Nat)) = .ok (.bl true) := by
    show Res.ok (D.bl (decide _)) = _
    rw [decide_eq_true (by omega)]
  have e2 : cmpD .le (.int (ts.length : Nat)) (.int 40) = .ok (.bl true) := by
    show Res.ok (D.bl (decide _)) = _
    rw [decide_eq_true (by omega)]
  have e3 : b1D .all (.lst ([] ++ ts.map fun y => .bl (decide (y ∈ [82, 76, 70, 66])))) = .ok (.bl true) := by
    show (match bools ([] ++ ts.map _) with | some bs => Res.ok (D.bl (bs.all id)) | none => .stuck) = _
    rw [List.nil_append, bools_map]
    show Res.ok (D.bl _) = _
    congr 2
    rw [List.all_eq_true]
    intro q hq
    obtain ⟨v, hv, rfl⟩ := List.mem_map.mp hq
    exact isTurn_mem (ha v hv)
  refine runN (s := ⟨[.val (.str [x, y]), .val (dB b), .val (dC r c), .val (.int l), .val (.str ts), .un], n, k, false⟩) ?_
  refine qExpr (eCall (sCons (eVar rfl) sNil) (nrule_ok hx hy)) (qExpr (eCall (sCons (eVar rfl) sNil) (nboard_ok hb z)) (qExpr (eCall (sCons (eVar rfl) (sCons (eVar rfl) (sCons (eVar rfl) sNil))) (spot_ok hb z hr hc hl)) ?_))
  exact qIfF (t := false) (eOr (oF (eNot (eIsi (eVar rfl) rfl) rfl) rfl (oF (eNot (eChain eInt (eB1 (eVar rfl) rfl) e1 eInt e2) rfl) rfl (oEnd (eNot (eB1 (eLc (iSeqE (eVar rfl) rfl)
      (lc_map (fun c => .str [c]) (fun y => .bl (decide (y ∈ [82, 76, 70, 66]))) (fun v => ⟨[.val (.str [x, y]), .val (dB b), .val (dC r c), .val (.int l), .val (.str ts), .val (.str [v])], n, k, true⟩) ts [] fun z hz => ⟨rfl, _, eCmp (eVar rfl) eStr rfl, rfl, rfl⟩)) e3) rfl))))) rfl qNil qNil
/-! ### count_boards -/
def fnd (f : KV) (a : Int) (q : Nat × Nat) : Int := if (dfind f (ky q.1 q.2)).isSome then a else 2 * a
theorem fold_row (f : KV) (i : Nat) : ∀ (m : Nat) (a : Int), ((List.range m).map fun j => (i, j)).foldl (fnd f) a = a * (pw (gf f i) m : Nat)
  | 0, a => by simp [pw]
  | m + 1, a => by
    rw [List.range_succ, List.map_append, List.foldl_append, fold_row f i m a, pw]
    show (if (gf f i m).isSome = true then a * (pw (gf f i) m : Nat) else 2 * (a * (pw (gf f i) m : Nat))) = _
    by_cases h : (gf f i m).isSome = true
    · rw [if_pos h, if_pos h, Nat.mul_one]
    · rw [if_neg h, if_neg h, Int.natCast_mul, Int.mul_comm 2, Int.mul_assoc]
      rfl
theorem fold_prs (f : KV) (C : Nat) : ∀ (m : Nat), (prs C m).foldl (fnd f) 1 = (pwB C (gf f) m : Nat)
  | 0 => rfl
  | m + 1 => by
    rw [show prs C (m + 1) = prs C m ++ (List.range C).map fun j => (m, j) from rfl, List.foldl_append, fold_prs f C m, fold_row, pwB, Int.natCast_mul]
theorem zip_kv : ∀ f : KV, (f.map (·.1)).zip (f.map (·.2)) = f
  | [] => rfl
  | a :: f => by simp [zip_kv f]
theorem cb_loop {v0 v1 v2 v3 v4 : Sl} {f : KV} {pl : Sl} : ∀ (qs : List (Nat × Nat)) (a : Int) (o : Sl), (∀ i : Int, binD .mul (.int 2) (.int i) = .ok (.int (2 * i))) → ∃ o',
    forL (stepF (.nm 6) (.cons (.set 5 (.ife (.din 7 (.var 6)) (.var 5) (.bin .mul (.int 2) (.var 5)))) .nil)) (qs.map fun q => dC q.1 q.2) ⟨[v0, v1, v2, v3, v4, .val (.int a), o, .val (dF f), pl], n, k, false⟩
      = .nx ⟨[v0, v1, v2, v3, v4, .val (.int (qs.foldl (fnd f) a)), o', .val (dF f), pl], n, k, false⟩
  | [], a, o, _ => ⟨o, rfl⟩
  | q :: qs, a, o, hm => by
    obtain ⟨o', e⟩ := cb_loop (v0 := v0) (v1 := v1) (v2 := v2) (v3 := v3) (v4 := v4) (f := f) (pl := pl) qs (fnd f a q) (.val (dC q.1 q.2)) hm
    refine ⟨o', fCons rfl rfl (s2 := ⟨[v0, v1, v2, v3, v4, .val (.int (fnd f a q)), .val (dC q.1 q.2), .val (dF f), pl], n, k, false⟩) ?_ e⟩
    have dc : ∀ s : S, s.get 7 = .val (dF f) → dcur s 7 = some f := fun s hs => by
      unfold dcur
      rw [hs]
      show some ((f.map (·.1)).zip (f.map (·.2))) = some f
      rw [zip_kv]
    have hc : ev (.din 7 (.var 6)) ⟨[v0, v1, v2, v3, v4, .val (.int a), .val (dC q.1 q.2), .val (dF f), pl], n, k, false⟩ = .ok (.bl (dfind f (ky q.1 q.2)).isSome, ⟨[v0, v1, v2, v3, v4, .val (.int a), .val (dC q.1 q.2), .val (dF f), pl], n, k, false⟩) := eDin (eVar rfl) (dc _ rfl) rfl rfl
    cases h : (dfind f (ky q.1 q.2)).isSome with
    | true =>
      rw [h] at hc
      exact vSet (vIfeT hc (eVar rfl)) (by unfold fnd; rw [if_pos h]; rfl) qNil
    | false =>
      rw [h] at hc
      exact vSet (vIfeF hc (eBin eInt (eVar rfl) (hm _))) (by unfold fnd; rw [if_neg (by rw [h]; exact Bool.false_ne_true)]; rfl) qNil
def cntT (R C : Nat) : KV ⊕ Nat → Nat
  | .inl f => pwB C (gf f) R
  | .inr _ => 0
theorem cboards_ok (hx : isTurn x) (hy : isTurn y) (hb : Bd b R C) (z : Sz R C) (hr : r < R) (hc : c < C) (hl : l < 4) {ts : Tx} (h1 : 1 ≤ ts.length) (ht : ts.length ≤ 40) (ha : ∀ v ∈ ts, isTurn v) :
    f_count_boards [.str [x, y], dB b, dC r c, .int l, .str ts] n k = .ok (.int (cntT R C (told x y R C ts 0 r c l [] []) : Nat), n, k) := by
  have na := nall_ok (n := n) (k := k) hx hy hb z hr hc hl h1 ht ha
  have tk := tcol_ok (n := n) (k := k) hx hy hb z hr hc hl ht
  have r1 := z.r1
  revert tk
  cases told x y R C ts 0 r c l [] [] with
  | inr i =>
    intro tk
    refine runR (s := ⟨[.val (.str [x, y]), .val (dB b), .val (dC r c), .val (.int l), .val (.str ts), .un, .un, .val .non, .val (.int (i : Nat))], n, k, false⟩) ?_
    exact qExpr (eCall (sCons (eVar rfl) (sCons (eVar rfl) (sCons (eVar rfl) (sCons (eVar rfl) (sCons (eVar rfl) sNil))))) na) (qAsg (eCall (sCons (eVar rfl) (sCons (eVar rfl) (sCons (eVar rfl) (sCons (eVar rfl) (sCons (eVar rfl) sNil))))) tk) rfl
      (qIfTR (eCmp (eVar rfl) eNon rfl) rfl (qRet eInt)))
  | inl f =>
    intro tk
    obtain ⟨o', lp⟩ := cb_loop (n := n) (k := k) (v0 := .val (.str [x, y])) (v1 := .val (dB b)) (v2 := .val (dC r c)) (v3 := .val (.int l)) (v4 := .val (.str ts)) (f := f) (pl := .val (.int (ts.length : Nat))) (prs C R) 1 .un (fun i => mulS (by decide) (by decide))
    rw [fold_prs] at lp
    refine runR (s := ⟨[.val (.str [x, y]), .val (dB b), .val (dC r c), .val (.int l), .val (.str ts), .val (.int (pwB C (gf f) R : Nat)), o', .val (dF f), .val (.int (ts.length : Nat))], n, k, false⟩) ?_
    refine qExpr (eCall (sCons (eVar rfl) (sCons (eVar rfl) (sCons (eVar rfl) (sCons (eVar rfl) (sCons (eVar rfl) sNil))))) na) (qAsg (eCall (sCons (eVar rfl) (sCons (eVar rfl) (sCons (eVar rfl) (sCons (eVar rfl) (sCons (eVar rfl) sNil))))) tk) rfl
      (qIfF (eCmp (eVar rfl) eNon rfl) rfl qNil ?_))
    refine vSet (s2 := ⟨[.val (.str [x, y]), .val (dB b), .val (dC r c), .val (.int l), .val (.str ts), .val (.int 1), .un, .val (dF f), .val (.int (ts.length : Nat))], n, k, false⟩) eInt rfl ?_
    refine vFor (iSeqE (eCall (sCons (eB1 (eVar rfl) (lenB hb)) (sCons (eB1 (eIx (eVar rfl) eInt (ixB0 hb r1)) (lenT (hb.row0 r1))) sNil)) (cellsof_ok z.r3 z.c4)) (by rw [celL_prs]; rfl)) lp ?_
    exact qRet (eVar rfl)
end
end Fw

set_option linter.all false
set_option autoImplicit false
set_option maxRecDepth 100000
/-! FwMath17: the first board, the first barred place, all boards. -/
namespace Fw
section
variable {x y R C r c l : Nat} {b : List Tx} {n k : Int} {f : KV}
def firR (C : Nat) (f : KV) (i : Nat) : Tx := (List.range C).map fun j => fcol (gf f i j)
theorem fir_rows (m : Nat) : (List.range m).map (fun i => D.str (firR C f i)) ++ [.str (firR C f m)] = (List.range (m + 1)).map fun i => D.str (firR C f i) := by
  rw [List.range_succ, List.map_append]
  rfl
theorem dB_fir : dB (firstB R C (gf f)) = .tup ((List.range R).map fun i => D.str (firR C f i)) := by
  unfold dB firstB mkB
  rw [List.map_map]
  rfl
abbrev sF (x y : Nat) (b : List Tx) (ts : Tx) (r c l : Nat) (f : KV) (ma ro si : Sl) (n k : Int) : S :=
  ⟨[.val (.str [x, y]), .val (dB b), .val (dC r c), .val (.int l), .val (.str ts), ma, ro, .val (dF f), .val (.int (ts.length : Nat)), si, .un], n, k, false⟩
def siF (C : Nat) (f : KV) : Nat → Sl
  | 0 => .un
  | i + 1 => .val (.lst ((firR C f i).map fun c => .str [c]))
theorem dcF {s : S} {i : Nat} (hs : s.get i = .val (dF f)) : dcur s i = some f := by
  unfold dcur
  rw [hs]
  show some ((f.map (·.1)).zip (f.map (·.2))) = some f
  rw [zip_kv]
def fbT (R C : Nat) : KV ⊕ Nat → D
  | .inl f => dB (firstB R C (gf f))
  | .inr _ => .non
theorem fboard_ok (hx : isTurn x) (hy : isTurn y) (hb : Bd b R C) (z : Sz R C) (hr : r < R) (hc : c < C) (hl : l < 4) {ts : Tx} (h1 : 1 ≤ ts.length) (ht : ts.length ≤ 40) (ha : ∀ v ∈ ts, isTurn v) :
    f_first_board [.str [x, y], dB b, dC r c, .int l, .str ts] n k = .ok (fbT R C (told x y R C ts 0 r c l [] []), n, k) := by
  have na := nall_ok (n := n) (k := k) hx hy hb z hr hc hl h1 ht ha
  have tk := tcol_ok (n := n) (k := k) hx hy hb z hr hc hl ht
  have bl := told_bls (x := x) (y := y) (R := R) (C := C) ts 0 r c l [] []
  have r1 := z.r1
  have r3 := z.r3
  have c4 := z.c4
  revert tk bl
  cases told x y R C ts 0 r c l [] [] with
  | inr i =>
    intro tk _
    refine runR (s := ⟨[.val (.str [x, y]), .val (dB b), .val (dC r c), .val (.int l), .val (.str ts), .un, .un, .val .non, .val (.int (i : Nat)), .un, .un], n, k, false⟩) ?_
    exact qExpr (eCall (sCons (eVar rfl) (sCons (eVar rfl) (sCons (eVar rfl) (sCons (eVar rfl) (sCons (eVar rfl) sNil))))) na) (qAsg (eCall (sCons (eVar rfl) (sCons (eVar rfl) (sCons (eVar rfl) (sCons (eVar rfl) (sCons (eVar rfl) sNil))))) tk) rfl
      (qIfTR (eCmp (eVar rfl) eNon rfl) rfl (qRet eNon)))
  | inl f =>
    intro tk bl
    have B : Bls f := bl f bls_nil rfl
    show _ = Res.ok (dB (firstB R C (gf f)), n, k)
    rw [dB_fir]
    refine runR (s := sF x y b ts r c l f (.val (.lst ((List.range R).map fun i => D.str (firR C f i)))) (tuS .un R) (siF C f R) n k) ?_
    refine qExpr (eCall (sCons (eVar rfl) (sCons (eVar rfl) (sCons (eVar rfl) (sCons (eVar rfl) (sCons (eVar rfl) sNil))))) na) (qAsg (eCall (sCons (eVar rfl) (sCons (eVar rfl) (sCons (eVar rfl) (sCons (eVar rfl) (sCons (eVar rfl) sNil))))) tk) rfl
      (qIfF (eCmp (eVar rfl) eNon rfl) rfl qNil ?_))
    refine vOwn (s2 := sF x y b ts r c l f (.ol ((List.range 0).map fun i => D.str (firR C f i))) (tuS .un 0) (siF C f 0) n k) sNil (Nat.zero_le _) rfl ?_
    refine vFor (iRng (eB1 (eVar rfl) (lenB hb)) (rng_ok (by omega))) (for_range (fun i => sF x y b ts r c l f (.ol ((List.range i).map fun i => D.str (firR C f i))) (tuS .un i) (siF C f i) n k) R fun i hi => ?_) ?_
    · refine stepF_ok (s1 := sF x y b ts r c l f (.ol ((List.range i).map fun i => D.str (firR C f i))) (tuS .un (i + 1)) (siF C f i) n k) rfl ?_
      refine vSetLc (x := .lst ((firR C f i).map fun c => .str [c])) (s2 := sF x y b ts r c l f (.ol ((List.range i).map fun i => D.str (firR C f i))) (tuS .un (i + 1)) (siF C f (i + 1)) n k) (eLc' (iRng (eB1 (eIx (eVar rfl) eInt (ixB0 hb r1)) (lenT (hb.row0 r1))) (rng_ok (by omega))) ?_ rfl) rfl ?_
      · have em : (firR C f i).map (fun c => D.str [c]) = (List.range C).map fun j => .str [fcol (gf f i j)] := by
          unfold firR
          rw [List.map_map]
          rfl
        rw [em]
        refine lc_map0 (fun c : Nat => .int (0 + (c : Nat))) (fun j => .str [fcol (gf f i j)]) (fun j => ⟨[.val (.str [x, y]), .val (dB b), .val (dC r c), .val (.int l), .val (.str ts), .ol ((List.range i).map fun i => D.str (firR C f i)), tuS .un (i + 1), .val (dF f), .val (.int (ts.length : Nat)), siF C f i, .val (.int (0 + (j : Nat)))], n, k, true⟩) (List.range C) fun j hj => ⟨rfl, ?_⟩
        have kk : keyD (.tup [.int (0 + (i : Nat)), .int (0 + (j : Nat))]) = some (ky i j) := by
          show some ((0 : Int) + (i : Nat), (0 : Int) + (j : Nat)) = some (ky i j)
          rw [Int.zero_add, Int.zero_add]
        have gk : ∀ zb : Bool, (dfind f (ky i j)).getD (.bl true) = .bl zb → ev (.dget 7 (.tup (.cons (.var 6) (.cons (.var 10) .nil))) (.bl true)) ⟨[.val (.str [x, y]), .val (dB b), .val (dC r c), .val (.int l), .val (.str ts), .ol ((List.range i).map fun i => D.str (firR C f i)), tuS .un (i + 1), .val (dF f), .val (.int (ts.length : Nat)), siF C f i, .val (.int (0 + (j : Nat)))], n, k, true⟩ = .ok (.bl zb, ⟨[.val (.str [x, y]), .val (dB b), .val (dC r c), .val (.int l), .val (.str ts), .ol ((List.range i).map fun i => D.str (firR C f i)), tuS .un (i + 1), .val (dF f), .val (.int (ts.length : Nat)), siF C f i, .val (.int (0 + (j : Nat)))], n, k, true⟩) := fun zb e => eDget (dcF rfl) (eTup (sCons (eVar rfl) (sCons (eVar rfl) sNil)) (show 2 ≤ SL by decide)) eBl (dcF rfl) kk e
        cases q : dfind f (ky i j) with
        | none =>
          have e : fcol (gf f i j) = 35 := by unfold gf; rw [q]; rfl
          rw [e]
          exact ⟨_, vIfeT (gk true (by rw [q]; rfl)) eStr, rfl, rfl⟩
        | some v =>
          obtain ⟨zb, rfl⟩ := B _ _ q
          cases zb with
          | true =>
            have e : fcol (gf f i j) = 35 := by unfold gf; rw [q]; rfl
            rw [e]
            exact ⟨_, vIfeT (gk true (by rw [q]; rfl)) eStr, rfl, rfl⟩
          | false =>
            have e : fcol (gf f i j) = 46 := by unfold gf; rw [q]; rfl
            rw [e]
            exact ⟨_, vIfeF (gk false (by rw [q]; rfl)) eStr, rfl, rfl⟩
      · refine vApp (x := .str (firR C f i)) (s2 := sF x y b ts r c l f (.ol ((List.range (i + 1)).map fun i => D.str (firR C f i))) (tuS .un (i + 1)) (siF C f (i + 1)) n k) rfl (eM1 eStr (eVar rfl) (join_ok (by simp [firR]; omega))) rfl ?_ ?_ qNil
        · rw [List.length_map, List.length_range]
          exact lt_SL (by omega)
        · rw [fir_rows]
          rfl
    · exact qRet (eB1 (eOwn' rfl rfl rfl) rfl)
def brT : KV ⊕ Nat → D
  | .inl _ => .non
  | .inr i => .int ((i : Nat) + 1)
theorem fbarred_ok (hx : isTurn x) (hy : isTurn y) (hb : Bd b R C) (z : Sz R C) (hr : r < R) (hc : c < C) (hl : l < 4) {ts : Tx} (h1 : 1 ≤ ts.length) (ht : ts.length ≤ 40) (ha : ∀ v ∈ ts, isTurn v) :
    f_first_barred [.str [x, y], dB b, dC r c, .int l, .str ts] n k = .ok (brT (told x y R C ts 0 r c l [] []), n, k) := by
  have na := nall_ok (n := n) (k := k) hx hy hb z hr hc hl h1 ht ha
  have tk := tcol_ok (n := n) (k := k) hx hy hb z hr hc hl ht
  revert tk
  cases told x y R C ts 0 r c l [] [] with
  | inr i =>
    intro tk
    refine runR (s := ⟨[.val (.str [x, y]), .val (dB b), .val (dC r c), .val (.int l), .val (.str ts), .val .non, .val (.int (i : Nat))], n, k, false⟩) ?_
    exact qExpr (eCall (sCons (eVar rfl) (sCons (eVar rfl) (sCons (eVar rfl) (sCons (eVar rfl) (sCons (eVar rfl) sNil))))) na) (qAsg (eCall (sCons (eVar rfl) (sCons (eVar rfl) (sCons (eVar rfl) (sCons (eVar rfl) (sCons (eVar rfl) sNil))))) tk) rfl
      (qRet (vIfeT (eCmp (eVar rfl) eNon rfl) (eBin (eVar rfl) eInt rfl))))
  | inl f =>
    intro tk
    refine runR (s := ⟨[.val (.str [x, y]), .val (dB b), .val (dC r c), .val (.int l), .val (.str ts), .val (dF f), .val (.int (ts.length : Nat))], n, k, false⟩) ?_
    exact qExpr (eCall (sCons (eVar rfl) (sCons (eVar rfl) (sCons (eVar rfl) (sCons (eVar rfl) (sCons (eVar rfl) sNil))))) na) (qAsg (eCall (sCons (eVar rfl) (sCons (eVar rfl) (sCons (eVar rfl) (sCons (eVar rfl) (sCons (eVar rfl) sNil))))) tk) rfl
      (qRet (vIfeF (eCmp (eVar rfl) eNon rfl) eNon)))
end
end Fw

set_option linter.all false
set_option autoImplicit false
set_option maxRecDepth 100000
/-! FwMath18: all boards as the law makes them. -/
namespace Fw
section
variable {R C : Nat} {n k : Int}
theorem texts_len : ∀ c, (texts c).length = 2 ^ c
  | 0 => rfl
  | c + 1 => by rw [texts, List.length_append, List.length_map, List.length_map, texts_len c, Nat.pow_succ]; omega
theorem boards_len (C : Nat) : ∀ r, (boards C r).length = 2 ^ (r * C)
  | 0 => by simp [boards]
  | r + 1 => by
    rw [boards]
    have : ∀ l : List (List Tx), (l.flatMap fun b => (texts C).map fun t => b ++ [t]).length = l.length * 2 ^ C := fun l => by
      induction l with
      | nil => simp
      | cons a l ih => rw [List.flatMap_cons, List.length_append, ih, List.length_map, texts_len, List.length_cons, Nat.add_mul, Nat.one_mul, Nat.add_comm]
    rw [this, boards_len C r, ← Nat.pow_add, Nat.add_mul, Nat.one_mul]
theorem txs_map : ∀ b : List Tx, txsD (b.map .str) = some b
  | [] => rfl
  | x :: b => by
    show (txsD (b.map .str)).map (x :: ·) = _
    rw [txs_map b]
    rfl
theorem brds_map : ∀ l : List (List Tx), (∀ b ∈ l, b ≠ []) → brdsD (l.map brdD) = some l
  | [], _ => rfl
  | [] :: l, h => absurd rfl (h [] List.mem_cons_self)
  | (x :: b) :: l, h => by
    show (match txsD (.str x :: b.map .str), brdsD (l.map brdD) with | some b, some bs => some (b :: bs) | _, _ => none) = _
    rw [show txsD (.str x :: b.map .str) = some (x :: b) from txs_map (x :: b), brds_map l fun b hb => h b (List.mem_cons_of_mem _ hb)]
theorem sorted_brds {l : List (List Tx)} (h : ∀ b ∈ l, b ≠ []) (hl : l ≠ []) : b1D .sorted (.lst (l.map brdD)) = .ok (.lst ((sortB l).map brdD)) := by
  show (match intsD (l.map brdD) with | some ns => Res.ok (D.lst ((sortI ns).map .int)) | none => (match brdsD (l.map brdD) with | some bs => .ok (.lst ((sortB bs).map brdD)) | none => .stuck)) = _
  rw [brds_map l h]
  cases l with
  | nil => exact absurd rfl hl
  | cons a l => rfl
theorem addLL {a b : List D} (h : a.length + b.length ≤ 100000) : binD .add (.lst a) (.lst b) = .ok (.lst (a ++ b)) := by
  show (if a.length + b.length ≤ SL then Res.ok (D.lst (a ++ b)) else .stuck) = _
  rw [if_pos (Nat.le_trans h (by decide))]
abbrev sA (R C : Nat) (tx : List D) (u4 u5 u6 : Sl) (u3 : Sl) (n k : Int) : S := ⟨[.val (.int R), .val (.int C), .val (.lst tx), u3, u4, u5, u6, .un], n, k, false⟩
theorem ab_texts (hC : C ≤ 4) : ∃ u, forL (stepF (.nm 3) (.cons (.set 2 (.bin .add (.lc (.nm 7) (.seq (.var 2)) (.bin .add (.var 7) (.str [35]))) (.lc (.nm 7) (.seq (.var 2)) (.bin .add (.var 7) (.str [46]))))) .nil)) (rngL 0 C) (sA R C [.str []] .un .un .un .un n k) = .nx (sA R C ((texts C).map .str) .un .un .un u n k) := by
  refine ⟨tuS .un C, for_range (fun i => sA R C ((texts i).map .str) .un .un .un (tuS .un i) n k) C fun i hi => ?_⟩
  have one : ∀ v : Nat, ev (.lc (.nm 7) (.seq (.var 2)) (.bin .add (.var 7) (.str [v]))) (sA R C ((texts i).map .str) .un .un .un (tuS .un (i + 1)) n k) = .ok (.lst (((texts i).map (· ++ [v])).map .str), sA R C ((texts i).map .str) .un .un .un (tuS .un (i + 1)) n k) := fun v => by
    refine eLc' (iSeqE (eVar rfl) rfl) ?_ rfl
    rw [List.map_map]
    exact lc_map0 (fun t : Tx => .str t) (fun t => .str (t ++ [v])) (fun t => ⟨[.val (.int R), .val (.int C), .val (.lst ((texts i).map .str)), tuS .un (i + 1), .un, .un, .un, .val (.str t)], n, k, true⟩) (texts i) fun t ht => ⟨rfl, _, eBin (eVar rfl) eStr (addT (by have := (texts_mem.mp ht).1; simp; omega)), rfl, rfl⟩
  refine stepF_ok (s1 := sA R C ((texts i).map .str) .un .un .un (tuS .un (i + 1)) n k) rfl (vSet (s2 := sA R C ((texts (i + 1)).map .str) .un .un .un (tuS .un (i + 1)) n k) (eBin (one 35) (one 46) (addLL ?_)) ?_ qNil)
  · have : 2 ^ i ≤ 2 ^ 4 := Nat.pow_le_pow_right (by decide) (by omega)
    simp [texts_len]
    omega
  · rw [texts, List.map_append]
    rfl
abbrev tL (C : Nat) : List D := (texts C).map .str
theorem ab_in {u3 : Sl} {bs : List D} (hC : C ≤ 4) {m : Nat} (hm : m ≤ 10) : ∀ (L : List (List Tx)) (acc : List (List Tx)) (u6 : Sl), (∀ b ∈ L, b.length = m) → acc.length + L.length * 16 ≤ 100000 → ∃ u6',
    forL (stepF (.nm 6) (.cons (.set 5 (.bin .add (.var 5) (.lc (.nm 7) (.seq (.var 2)) (.bin .add (.var 6) (.tup (.cons (.var 7) .nil)))))) .nil)) (L.map brdD) (sA R C (tL C) (.val (.lst bs)) (.val (.lst (acc.map brdD))) u6 u3 n k)
      = .nx (sA R C (tL C) (.val (.lst bs)) (.val (.lst ((acc ++ L.flatMap fun b => (texts C).map fun t => b ++ [t]).map brdD))) u6' u3 n k)
  | [], acc, u6, _, _ => ⟨u6, by rw [List.flatMap_nil, List.append_nil]; rfl⟩
  | b :: L, acc, u6, h, hl => by
    have tl : ((texts C).map fun t => b ++ [t]).length ≤ 16 := by
      have : 2 ^ C ≤ 2 ^ 4 := Nat.pow_le_pow_right (by decide) hC
      rw [List.length_map, texts_len]
      omega
    rw [List.length_cons] at hl
    obtain ⟨u6', e⟩ := ab_in (u3 := u3) (bs := bs) hC hm L (acc ++ (texts C).map fun t => b ++ [t]) (.val (brdD b)) (fun a ha => h a (List.mem_cons_of_mem _ ha)) (by rw [List.length_append]; omega)
    refine ⟨u6', ?_⟩
    rw [List.flatMap_cons, ← List.append_assoc]
    refine fCons (s2 := sA R C (tL C) (.val (.lst bs)) (.val (.lst ((acc ++ (texts C).map fun t => b ++ [t]).map brdD))) (.val (brdD b)) u3 n k) rfl rfl ?_ e
    have one : ev (.lc (.nm 7) (.seq (.var 2)) (.bin .add (.var 6) (.tup (.cons (.var 7) .nil)))) (sA R C (tL C) (.val (.lst bs)) (.val (.lst (acc.map brdD))) (.val (brdD b)) u3 n k) = .ok (.lst (((texts C).map fun t => b ++ [t]).map brdD), sA R C (tL C) (.val (.lst bs)) (.val (.lst (acc.map brdD))) (.val (brdD b)) u3 n k) := by
      refine eLc' (iSeqE (eVar rfl) rfl) ?_ rfl
      rw [List.map_map]
      refine lc_map0 (fun t : Tx => .str t) (fun t => brdD (b ++ [t])) (fun t => ⟨[.val (.int R), .val (.int C), .val (.lst (tL C)), u3, .val (.lst bs), .val (.lst (acc.map brdD)), .val (brdD b), .val (.str t)], n, k, true⟩) (texts C) fun t ht => ⟨rfl, _, eBin (eVar rfl) (eTup (sCons (eVar rfl) sNil) (show 1 ≤ SL by decide)) ?_, rfl, rfl⟩
      have hb := h b List.mem_cons_self
      show binD .add (.tup (b.map .str)) (.tup [.str t]) = .ok (.tup ((b ++ [t]).map .str))
      rw [addU (by simp; omega), List.map_append]
      rfl
    refine vSet (eBin (eVar rfl) one (addLL ?_)) ?_ qNil
    · rw [List.length_map, List.length_map]
      omega
    · rw [← List.map_append]
      rfl
theorem ab_bnd {R C i : Nat} (hz : R * C ≤ 9) (hi : i < R) : (boards C i).length ≤ 512 := by
  rw [boards_len]
  have h1 : i * C ≤ R * C := Nat.mul_le_mul_right _ (Nat.le_of_lt hi)
  exact Nat.le_trans (Nat.pow_le_pow_right (by decide) (Nat.le_trans h1 hz)) (by decide)
theorem aboards_ok (z : Sz R C) (hz : R * C ≤ 9) : f_law_all_boards [.int R, .int C] n k = .ok (.lst ((sortB (boards C R)).map brdD), n, k) := by
  have r1 := z.r1
  have r3 := z.r3
  have c4 := z.c4
  obtain ⟨u, l1⟩ := ab_texts (R := R) (n := n) (k := k) c4
  have l2 : ∀ (m : Nat), m ≤ R → ∀ (u3 u5 u6 : Sl), ∃ u3' u5' u6', forL (stepF (.nm 3) (.cons (.set 5 (.lst .nil)) (.cons (.for_ (.nm 6) (.seq (.var 4)) (.cons (.set 5 (.bin .add (.var 5) (.lc (.nm 7) (.seq (.var 2)) (.bin .add (.var 6) (.tup (.cons (.var 7) .nil)))))) .nil)) (.cons (.set 4 (.var 5)) .nil)))) ((List.range' (R - m) m).map fun i => .int (0 + (i : Nat))) (sA R C (tL C) (.val (.lst ((boards C (R - m)).map brdD))) u5 u6 u3 n k)
      = .nx (sA R C (tL C) (.val (.lst ((boards C R).map brdD))) u5' u6' u3' n k) := fun m => by
    induction m with
    | zero => exact fun _ u3 u5 u6 => ⟨u3, u5, u6, rfl⟩
    | succ m ih =>
      intro hm u3 u5 u6
      have e : R - (m + 1) + 1 = R - m := by omega
      obtain ⟨v6, h6⟩ := ab_in (R := R) (C := C) (n := n) (k := k) (u3 := .val (.int (0 + ((R - (m + 1) : Nat) : Int)))) (bs := (boards C (R - (m + 1))).map brdD) c4 (m := R - (m + 1)) (by omega) (boards C (R - (m + 1))) [] u6 (fun b hb => (boards_mem.mp hb).1) (by have := ab_bnd (i := R - (m + 1)) hz (by omega); simp only [List.length_nil]; omega)
      rw [List.nil_append, show ((boards C (R - (m + 1))).flatMap fun b => (texts C).map fun t => b ++ [t]) = boards C (R - (m + 1) + 1) from rfl, e] at h6
      obtain ⟨w3, w5, w6, h3⟩ := ih (by omega) (.val (.int (0 + ((R - (m + 1) : Nat) : Int)))) (.val (.lst ((boards C (R - m)).map brdD))) v6
      refine ⟨w3, w5, w6, ?_⟩
      rw [List.range'_succ, List.map_cons, e]
      refine fCons (s2 := sA R C (tL C) (.val (.lst ((boards C (R - m)).map brdD))) (.val (.lst ((boards C (R - m)).map brdD))) v6 (.val (.int (0 + ((R - (m + 1) : Nat) : Int)))) n k) rfl rfl ?_ h3
      refine vSet (s2 := sA R C (tL C) (.val (.lst ((boards C (R - (m + 1))).map brdD))) (.val (.lst [])) u6 (.val (.int (0 + ((R - (m + 1) : Nat) : Int)))) n k) (eLst sNil (Nat.zero_le _)) rfl ?_
      refine vFor (iSeqE (eVar rfl) rfl) h6 ?_
      exact vSet (eVar rfl) rfl qNil
  obtain ⟨w3, w5, w6, h3⟩ := l2 R (Nat.le_refl _) u .un .un
  rw [Nat.sub_self] at h3
  refine runR (s := sA R C (tL C) (.val (.lst ((boards C R).map brdD))) w5 w6 w3 n k) ?_
  refine vSet (s2 := sA R C [.str []] .un .un .un .un n k) (eLst (sCons eStr sNil) (show 1 ≤ SL by decide)) rfl ?_
  refine vFor (iRng (eVar rfl) (rng_ok (by omega))) l1 ?_
  refine vSet (s2 := sA R C (tL C) (.val (.lst ((boards C 0).map brdD))) .un .un u n k) (eLst (sCons (eTup sNil (Nat.zero_le _)) sNil) (show 1 ≤ SL by decide)) rfl ?_
  refine vFor (iRng (eVar rfl) (rng_ok (by omega))) (by unfold rngL; rw [List.range_eq_range']; exact h3) ?_
  refine qRet (eB1 (eVar rfl) (sorted_brds (fun b hb e => ?_) fun e => ?_))
  · have := (boards_mem.mp hb).1
    rw [e] at this
    simp at this
    omega
  · have := boards_len C R
    rw [e] at this
    have p : 0 < 2 ^ (R * C) := Nat.pow_pos (by decide)
    simp at this
    omega
end
end Fw

set_option linter.all false
set_option autoImplicit false
set_option maxRecDepth 100000
/-! FwMath24: rounds met one after the other. -/
namespace Fw
instance : DecidableEq Ws := fun a b => decidable_of_iff _ (Ws.ext_iff' a b)
section
variable {x y R C : Nat} {w : Ws}
open Classical in
/-- the length of a round -/
noncomputable def rlN (x y R C : Nat) (w : Ws) : Nat := if h : ∃ p, Rl x y R C w p then Classical.choose h else 0
theorem rlN_ok (g : Gd w R C) : Rl x y R C w (rlN x y R C w) := by
  have h := rl_ex (x := x) (y := y) g
  unfold rlN
  rw [dif_pos h]
  exact Classical.choose_spec h
theorem rlN_on (g : Gd w R C) (i : Nat) : rlN x y R C (itr (stp x y R C) i w) = rlN x y R C w := (rlN_ok (itr_gd g i)).uniq ((rlN_ok g).on g i)
/-- counts by numbers -/
abbrev Cn := List (Int × Int)
def cget (K : Cn) (p : Int) : Int := ((K.find? fun kv => decide (kv.1 = p)).map (·.2)).getD 0
def cinc (K : Cn) (p : Int) : Cn := if (K.any fun kv => decide (kv.1 = p)) = true then K.map (fun kv => if kv.1 = p then (kv.1, cget K p + 1) else kv) else K ++ [(p, cget K p + 1)]
def ctot (K : Cn) : Int := (K.map fun kv => kv.1 * kv.2).sum
theorem cinc_keys (K : Cn) (p q : Int) : q ∈ (cinc K p).map (·.1) ↔ q = p ∨ q ∈ K.map (·.1) := by
  unfold cinc
  split
  · rename_i h
    have e : (K.map fun kv => if kv.1 = p then (kv.1, cget K p + 1) else kv).map (·.1) = K.map (·.1) := by
      rw [List.map_map]
      refine List.map_congr_left fun kv _ => ?_
      show (if kv.1 = p then (kv.1, cget K p + 1) else kv).1 = kv.1
      split <;> rfl
    rw [e]
    constructor
    · exact .inr
    · rintro (z | z)
      · obtain ⟨kv, h1, h2⟩ := List.any_eq_true.mp h
        rw [z]
        exact List.mem_map.mpr ⟨kv, h1, of_decide_eq_true h2⟩
      · exact z
  · rw [List.map_append, List.mem_append]
    simp
    exact Or.comm
theorem cinc_nodup {K : Cn} {p : Int} (h : (K.map (·.1)).Nodup) : ((cinc K p).map (·.1)).Nodup := by
  unfold cinc
  split
  · have e : (K.map fun kv => if kv.1 = p then (kv.1, cget K p + 1) else kv).map (·.1) = K.map (·.1) := by
      rw [List.map_map]
      refine List.map_congr_left fun kv _ => ?_
      show (if kv.1 = p then (kv.1, cget K p + 1) else kv).1 = kv.1
      split <;> rfl
    rw [e]
    exact h
  · rename_i h'
    rw [List.map_append]
    refine List.nodup_append.mpr ⟨h, by simp, fun a ha b hb e => ?_⟩
    have hb : b = p := by simpa using hb
    obtain ⟨kv, h1, h2⟩ := List.mem_map.mp ha
    exact h' (List.any_eq_true.mpr ⟨kv, h1, decide_eq_true (by rw [h2, e, hb])⟩)
theorem cget_cons (a : Int × Int) (K : Cn) (p : Int) : cget (a :: K) p = if a.1 = p then a.2 else cget K p := by
  unfold cget
  rw [List.find?_cons]
  by_cases h : a.1 = p
  · simp [h]
  · simp [h]
theorem cget_none : ∀ {K : Cn} {p : Int}, p ∉ K.map (·.1) → cget K p = 0
  | [], _, _ => rfl
  | a :: K, p, h => by
    rw [cget_cons, if_neg (fun z => h (by rw [← z]; exact List.mem_cons_self)), cget_none (fun z => h (List.mem_cons_of_mem _ z))]
theorem cinc_get {K : Cn} {p : Int} (h : (K.map (·.1)).Nodup) (q : Int) : cget (cinc K p) q = cget K q + (if q = p then 1 else 0) := by
  have upd : ∀ (v : Int) (K : Cn), cget (K.map fun kv => if kv.1 = p then (kv.1, v) else kv) q = if q = p ∧ p ∈ K.map (·.1) then v else cget K q := by
    intro v K
    induction K with
    | nil => simp [cget]
    | cons a K ih =>
      rw [List.map_cons, cget_cons, cget_cons, ih]
      by_cases h1 : a.1 = p
      · rw [if_pos h1]
        by_cases h2 : q = p
        · rw [if_pos (by rw [h2]; exact h1), if_pos ⟨h2, by rw [List.map_cons, ← h1]; exact List.mem_cons_self⟩]
        · rw [if_neg (by show ¬ a.1 = q; rw [h1]; exact Ne.symm h2), if_neg (fun z => h2 z.1), if_neg (fun z => h2 z.1), if_neg (by rw [h1]; exact Ne.symm h2)]
      · rw [if_neg h1]
        by_cases h2 : a.1 = q
        · rw [if_pos h2, if_neg (fun z => h1 (h2.trans z.1)), if_pos h2]
        · rw [if_neg h2, if_neg h2]
          by_cases h3 : q = p ∧ p ∈ K.map (·.1)
          · rw [if_pos h3, if_pos ⟨h3.1, by rw [List.map_cons]; exact List.mem_cons_of_mem _ h3.2⟩]
          · rw [if_neg h3, if_neg (fun z => h3 ⟨z.1, by
              have := z.2
              rw [List.map_cons] at this
              rcases List.mem_cons.mp this with e | e
              · exact absurd e.symm h1
              · exact e⟩)]
  have app : ∀ (v : Int) (K : Cn), p ∉ K.map (·.1) → cget (K ++ [(p, v)]) q = if q = p then v else cget K q := by
    intro v K
    induction K with
    | nil =>
      intro _
      show cget [(p, v)] q = _
      rw [cget_cons]
      by_cases h2 : q = p
      · rw [if_pos h2.symm, if_pos h2]
      · rw [if_neg (Ne.symm h2), if_neg h2]
    | cons a K ih =>
      intro hn
      rw [List.cons_append, cget_cons, cget_cons, ih (fun z => hn (List.mem_cons_of_mem _ z))]
      by_cases h2 : a.1 = q
      · rw [if_pos h2, if_pos h2, if_neg (fun z => hn (by rw [← z, ← h2]; exact List.mem_cons_self))]
      · rw [if_neg h2, if_neg h2]
  unfold cinc
  split
  · rename_i hh
    have hm : p ∈ K.map (·.1) := by
      obtain ⟨kv, h1, h2⟩ := List.any_eq_true.mp hh
      exact List.mem_map.mpr ⟨kv, h1, of_decide_eq_true h2⟩
    rw [upd]
    by_cases h2 : q = p
    · rw [if_pos ⟨h2, hm⟩, if_pos h2, h2]
    · rw [if_neg (fun z => h2 z.1), if_neg h2, Int.add_zero]
  · rename_i hh
    have hm : p ∉ K.map (·.1) := fun z => by
      obtain ⟨kv, h1, h2⟩ := List.mem_map.mp z
      exact hh (List.any_eq_true.mpr ⟨kv, h1, decide_eq_true h2⟩)
    rw [app _ _ hm]
    by_cases h2 : q = p
    · rw [if_pos h2, if_pos h2, h2]
    · rw [if_neg h2, if_neg h2, Int.add_zero]
theorem cinc_tot {K : Cn} {p : Int} (h : (K.map (·.1)).Nodup) : ctot (cinc K p) = ctot K + p := by
  unfold cinc
  split
  · rename_i hh
    have key : ∀ (K : Cn) (c : Int), (K.map (·.1)).Nodup → p ∈ K.map (·.1) → cget K p = c → ctot (K.map fun kv => if kv.1 = p then (kv.1, c + 1) else kv) = ctot K + p := by
      intro K
      induction K with
      | nil => intro c _ z _; cases z
      | cons a K ih =>
        intro c hn hm hc
        rw [List.map_cons, List.nodup_cons] at hn
        show ((if a.1 = p then (a.1, c + 1) else a).1 * (if a.1 = p then (a.1, c + 1) else a).2) + ctot (K.map fun kv => if kv.1 = p then (kv.1, c + 1) else kv) = (a.1 * a.2 + ctot K) + p
        by_cases h1 : a.1 = p
        · have e : (K.map fun kv => if kv.1 = p then (kv.1, c + 1) else kv) = K := by
            refine (List.map_congr_left fun kv hkv => ?_).trans (List.map_id K)
            rw [if_neg (fun z => hn.1 (List.mem_map.mpr ⟨kv, hkv, by rw [z, h1]⟩))]
            rfl
          rw [e]
          rw [cget_cons, if_pos h1] at hc
          rw [if_pos h1]
          show a.1 * (c + 1) + ctot K = _
          rw [hc, Int.mul_add, Int.mul_one, h1]
          omega
        · rw [if_neg h1, ih c hn.2 (by
            rw [List.map_cons] at hm
            rcases List.mem_cons.mp hm with e | e
            · exact absurd e.symm h1
            · exact e) (by rw [cget_cons, if_neg h1] at hc; exact hc)]
          omega
    refine key K _ h ?_ rfl
    obtain ⟨kv, h1, h2⟩ := List.any_eq_true.mp hh
    exact List.mem_map.mpr ⟨kv, h1, of_decide_eq_true h2⟩
  · rename_i hh
    have hm : p ∉ K.map (·.1) := fun z => by
      obtain ⟨kv, h1, h2⟩ := List.mem_map.mp z
      exact hh (List.any_eq_true.mpr ⟨kv, h1, decide_eq_true h2⟩)
    unfold ctot
    rw [List.map_append, List.sum_append, cget_none hm]
    simp
/-! ### the fold -/
noncomputable def rstep (x y R C : Nat) (s : List Ws × Cn) (w : Ws) : List Ws × Cn := if w ∈ s.1 then s else (s.1 ++ its x y R C w (rlN x y R C w), cinc s.2 (rlN x y R C w : Nat))
structure RI (x y R C : Nat) (s : List Ws × Cn) : Prop where
  gd : ∀ u ∈ s.1, Gd u R C
  nd : s.1.Nodup
  cl : ∀ u ∈ s.1, stp x y R C u ∈ s.1
  kn : (s.2.map (·.1)).Nodup
  tot : ctot s.2 = (s.1.length : Int)
  ks : ∀ u ∈ s.1, ((rlN x y R C u : Nat) : Int) ∈ s.2.map (·.1)
  kp : ∀ p ∈ s.2.map (·.1), ∃ u ∈ s.1, p = ((rlN x y R C u : Nat) : Int)
  ct : ∀ p : Nat, (p : Int) * cget s.2 p = ((s.1.filter fun u => decide (rlN x y R C u = p)).length : Int)
theorem RI.itr {s : List Ws × Cn} (h : RI x y R C s) : ∀ (i : Nat) (u : Ws), u ∈ s.1 → itr (stp x y R C) i u ∈ s.1
  | 0, u, hu => hu
  | i + 1, u, hu => h.cl _ (RI.itr h i u hu)
theorem RI.out {s : List Ws × Cn} (h : RI x y R C s) (g : Gd w R C) (hw : w ∉ s.1) {i : Nat} (hi : i < rlN x y R C w) : Fw.itr (stp x y R C) i w ∉ s.1 := fun z => by
  have q := h.itr (rlN x y R C w - i) _ z
  rw [← itr_add, show rlN x y R C w - i + i = rlN x y R C w by omega, (rlN_ok g).cl] at q
  exact hw q
theorem its_nodup (g : Gd w R C) : (its x y R C w (rlN x y R C w)).Nodup := by
  unfold its
  rw [List.nodup_iff_pairwise_ne, List.pairwise_map]
  refine List.Pairwise.imp_of_mem (R := (· < ·)) ?_ List.pairwise_lt_range
  intro a b ha hb hab e
  have := (rlN_ok (x := x) (y := y) g).inj g (List.mem_range.mp ha) (List.mem_range.mp hb) e
  omega
theorem RI.step {s : List Ws × Cn} (h : RI x y R C s) (g : Gd w R C) : RI x y R C (rstep x y R C s w) := by
  unfold rstep
  split
  · exact h
  · rename_i hw
    have hp := rlN_ok (x := x) (y := y) g
    have p1 := hp.p1
    have ml : (its x y R C w (rlN x y R C w)).length = rlN x y R C w := its_len _
    have on : ∀ u ∈ its x y R C w (rlN x y R C w), ∃ i, i < rlN x y R C w ∧ u = Fw.itr (stp x y R C) i w := fun u hu => mem_its hu
    have w_in : ∀ i, i < rlN x y R C w → Fw.itr (stp x y R C) i w ∈ its x y R C w (rlN x y R C w) := fun i hi => List.mem_of_getElem? (its_at hi)
    refine ⟨fun u hu => ?_, ?_, fun u hu => ?_, cinc_nodup h.kn, ?_, fun u hu => ?_, fun p hp' => ?_, fun p => ?_⟩
    · rcases List.mem_append.mp hu with z | z
      · exact h.gd u z
      · obtain ⟨i, _, rfl⟩ := on u z
        exact itr_gd g i
    · refine List.nodup_append.mpr ⟨h.nd, its_nodup g, fun a ha b hb e => ?_⟩
      obtain ⟨i, hi, rfl⟩ := on b hb
      exact h.out g hw hi (by rw [← e]; exact ha)
    · rcases List.mem_append.mp hu with z | z
      · exact List.mem_append_left _ (h.cl u z)
      · obtain ⟨i, hi, rfl⟩ := on u z
        refine List.mem_append_right _ ?_
        show Fw.itr (stp x y R C) (i + 1) w ∈ _
        rcases Nat.lt_or_ge (i + 1) (rlN x y R C w) with q | q
        · exact w_in _ q
        · have e : i + 1 = rlN x y R C w := by omega
          rw [e, hp.cl]
          exact w_in 0 (by omega)
    · rw [cinc_tot h.kn, h.tot, List.length_append, ml]
      omega
    · rw [cinc_keys]
      rcases List.mem_append.mp hu with z | z
      · exact .inr (h.ks u z)
      · obtain ⟨i, _, rfl⟩ := on u z
        exact .inl (by rw [rlN_on g])
    · rcases (cinc_keys _ _ _).mp hp' with z | z
      · exact ⟨w, List.mem_append_right _ (w_in 0 (by omega)), z⟩
      · obtain ⟨u, h1, h2⟩ := h.kp p z
        exact ⟨u, List.mem_append_left _ h1, h2⟩
    · rw [cinc_get h.kn, Int.mul_add, h.ct p, List.filter_append, List.length_append]
      by_cases e : p = rlN x y R C w
      · have z : (its x y R C w (rlN x y R C w)).filter (fun u => decide (rlN x y R C u = p)) = its x y R C w (rlN x y R C w) := List.filter_eq_self.mpr (fun u hu => by
          obtain ⟨i, _, rfl⟩ := on u hu
          rw [rlN_on g, e]
          simp)
        rw [if_pos (by rw [e]), z, ml]
        omega
      · have z : (its x y R C w (rlN x y R C w)).filter (fun u => decide (rlN x y R C u = p)) = [] := List.filter_eq_nil_iff.mpr (fun u hu => by
          obtain ⟨i, _, rfl⟩ := on u hu
          rw [rlN_on g]
          simpa using Ne.symm e)
        rw [if_neg (by omega), z]
        simp
theorem RI.nil : RI x y R C ([], []) := ⟨(fun _ z => by cases z), .nil, (fun _ z => by cases z), .nil, rfl, (fun _ z => by cases z), (fun _ z => by cases z), (fun p => by simp [cget])⟩
noncomputable def rfold (x y R C : Nat) (l : List Ws) (s : List Ws × Cn) : List Ws × Cn := l.foldl (rstep x y R C) s
theorem rstep_mono {s : List Ws × Cn} {u : Ws} (h : u ∈ s.1) : u ∈ (rstep x y R C s w).1 := by
  unfold rstep
  split
  · exact h
  · exact List.mem_append_left _ h
theorem rfold_mono : ∀ (l : List Ws) {s : List Ws × Cn} {u : Ws}, u ∈ s.1 → u ∈ (rfold x y R C l s).1
  | [], s, u, h => h
  | a :: l, s, u, h => rfold_mono l (s := rstep x y R C s a) (rstep_mono h)
theorem rfold_in : ∀ (l : List Ws) {s : List Ws × Cn}, (∀ u ∈ l, Gd u R C) → ∀ u ∈ l, u ∈ (rfold x y R C l s).1
  | a :: l, s, hg, u, h => by
    rcases List.mem_cons.mp h with z | z
    · subst z
      refine rfold_mono l (s := rstep x y R C s u) ?_
      unfold rstep
      split
      · assumption
      · exact List.mem_append_right _ (List.mem_of_getElem? (its_at (rlN_ok (hg u List.mem_cons_self)).p1))
    · exact rfold_in l (s := rstep x y R C s a) (fun c hc => hg c (List.mem_cons_of_mem _ hc)) u z
theorem rfold_ok : ∀ (l : List Ws) {s : List Ws × Cn}, (∀ u ∈ l, Gd u R C) → RI x y R C s → RI x y R C (rfold x y R C l s)
  | [], s, _, h => h
  | a :: l, s, hg, h => rfold_ok l (fun c hc => hg c (List.mem_cons_of_mem _ hc)) (h.step (hg a List.mem_cons_self))
/-- lists without repetition and with the same members -/
theorem count_one {α : Type} [DecidableEq α] {l : List α} {a : α} (h : l.Nodup) (ha : a ∈ l) : l.count a = 1 := Nat.le_antisymm (List.nodup_iff_count.mp h a) (List.count_pos_iff.mpr ha)
theorem perm_of {α : Type} [DecidableEq α] {l m : List α} (h1 : l.Nodup) (h2 : m.Nodup) (h : ∀ a, a ∈ l ↔ a ∈ m) : l.Perm m := by
  refine List.perm_iff_count.mpr fun a => ?_
  by_cases ha : a ∈ l
  · rw [count_one h1 ha, count_one h2 ((h a).mp ha)]
  · rw [List.count_eq_zero_of_not_mem ha, List.count_eq_zero_of_not_mem (fun z => ha ((h a).mpr z))]
end
end Fw

set_option linter.all false
set_option autoImplicit false
set_option maxRecDepth 100000
/-! FwMath25: all states of a size. -/
namespace Fw
section
variable {R C : Nat} {n k : Int}
theorem nodup_le {α : Type} [DecidableEq α] : ∀ {l m : List α}, l.Nodup → (∀ a ∈ l, a ∈ m) → l.length ≤ m.length
  | [], m, _, _ => Nat.zero_le _
  | a :: l, m, h, hs => by
    rw [List.nodup_cons] at h
    have ha := hs a List.mem_cons_self
    have := nodup_le (l := l) (m := m.erase a) h.2 (fun b hb => (List.mem_erase_of_ne (fun e => h.1 (by rw [← e]; exact hb))).mpr (hs b (List.mem_cons_of_mem _ hb)))
    rw [List.length_erase_of_mem ha] at this
    have p : 0 < m.length := List.length_pos_of_mem ha
    rw [List.length_cons]
    omega
theorem nodup_map {α β : Type} {f : α → β} {l : List α} (hf : ∀ a ∈ l, ∀ b ∈ l, f a = f b → a = b) (h : l.Nodup) : (l.map f).Nodup := by
  rw [List.nodup_iff_pairwise_ne, List.pairwise_map]
  exact List.Pairwise.imp_of_mem (fun ha hb hab e => hab (hf _ ha _ hb e)) h
theorem nodup_flat {α β : Type} {f : α → List β} : ∀ {l : List α}, l.Nodup → (∀ a ∈ l, (f a).Nodup) → (∀ a ∈ l, ∀ b ∈ l, ∀ z, z ∈ f a → z ∈ f b → a = b) → (l.flatMap f).Nodup
  | [], _, _, _ => .nil
  | a :: l, h, h1, h2 => by
    rw [List.nodup_cons] at h
    rw [List.flatMap_cons]
    refine List.nodup_append.mpr ⟨h1 a List.mem_cons_self, nodup_flat h.2 (fun b hb => h1 b (List.mem_cons_of_mem _ hb)) (fun b hb c hc => h2 b (List.mem_cons_of_mem _ hb) c (List.mem_cons_of_mem _ hc)), fun u hu v hv e => ?_⟩
    obtain ⟨b, hb, hv⟩ := List.mem_flatMap.mp hv
    have := h2 a List.mem_cons_self b (List.mem_cons_of_mem _ hb) u hu (by rw [e]; exact hv)
    exact h.1 (by rw [this]; exact hb)
theorem texts_nd : ∀ c, (texts c).Nodup
  | 0 => by simp [texts]
  | c + 1 => by
    rw [texts]
    refine List.nodup_append.mpr ⟨nodup_map (fun a _ b _ e => List.append_cancel_right e) (texts_nd c), nodup_map (fun a _ b _ e => List.append_cancel_right e) (texts_nd c), fun u hu v hv e => ?_⟩
    obtain ⟨a, _, rfl⟩ := List.mem_map.mp hu
    obtain ⟨b, _, rfl⟩ := List.mem_map.mp hv
    have := congrArg List.getLast? e
    simp at this
theorem boards_nd (C : Nat) : ∀ r, (boards C r).Nodup
  | 0 => by simp [boards]
  | r + 1 => by
    rw [boards]
    refine nodup_flat (boards_nd C r) (fun b _ => nodup_map (fun s _ t _ e => ?_) (texts_nd C)) (fun a _ b _ z ha hb => ?_)
    · have := List.append_cancel_left e
      simpa using this
    · obtain ⟨s, _, rfl⟩ := List.mem_map.mp ha
      obtain ⟨t, _, e⟩ := List.mem_map.mp hb
      exact (List.append_inj_left' e rfl).symm
theorem prs_nd (C : Nat) : ∀ r, (prs C r).Nodup
  | 0 => .nil
  | r + 1 => by
    rw [prs]
    refine List.nodup_append.mpr ⟨prs_nd C r, nodup_map (fun a _ b _ e => (Prod.mk.inj e).2) List.nodup_range, fun u hu v hv e => ?_⟩
    obtain ⟨j, _, rfl⟩ := List.mem_map.mp hv
    have := (prs_mem hu).1
    rw [e] at this
    exact Nat.lt_irrefl _ this
theorem prs_len (C : Nat) : ∀ r, (prs C r).length = r * C
  | 0 => by simp [prs]
  | r + 1 => by rw [prs, List.length_append, prs_len C r, List.length_map, List.length_range, Nat.add_mul, Nat.one_mul]
/-- cells and looks -/
def spts (R C : Nat) : List ((Nat × Nat) × Nat) := (prs C R).flatMap fun q => (List.range 4).map fun l => (q, l)
abbrev wS (b : List Tx) (s : (Nat × Nat) × Nat) : Ws := ⟨b, s.1.1, s.1.2, s.2⟩
def stsB (R C : Nat) (b : List Tx) : List Ws := (spts R C).map (wS b)
/-- all states with these boards -/
def stsL (R C : Nat) (L : List (List Tx)) : List Ws := L.flatMap (stsB R C)
theorem spts_mem {s : (Nat × Nat) × Nat} : s ∈ spts R C ↔ s.1.1 < R ∧ s.1.2 < C ∧ s.2 < 4 := by
  unfold spts
  rw [List.mem_flatMap]
  constructor
  · rintro ⟨q, hq, h⟩
    obtain ⟨l, hl, rfl⟩ := List.mem_map.mp h
    exact ⟨(prs_mem hq).1, (prs_mem hq).2, List.mem_range.mp hl⟩
  · rintro ⟨h1, h2, h3⟩
    exact ⟨s.1, mem_prs h1 h2, List.mem_map.mpr ⟨s.2, List.mem_range.mpr h3, rfl⟩⟩
theorem spts_nd : (spts R C).Nodup := nodup_flat (prs_nd C R) (fun q _ => nodup_map (fun a _ b _ e => (Prod.mk.inj e).2) List.nodup_range) (fun a _ b _ z ha hb => by
  obtain ⟨s, _, rfl⟩ := List.mem_map.mp ha
  obtain ⟨t, _, e⟩ := List.mem_map.mp hb
  exact (Prod.mk.inj e).1.symm)
theorem spts_len : (spts R C).length = R * C * 4 := by
  unfold spts
  have : ∀ l : List (Nat × Nat), (l.flatMap fun q => (List.range 4).map fun l => (q, l)).length = l.length * 4 := fun l => by
    induction l with
    | nil => rfl
    | cons a l ih => rw [List.flatMap_cons, List.length_append, ih, List.length_map, List.length_range, List.length_cons]; omega
  rw [this, prs_len]
theorem stsL_mem {L : List (List Tx)} {w : Ws} : w ∈ stsL R C L ↔ w.b ∈ L ∧ w.r < R ∧ w.c < C ∧ w.l < 4 := by
  unfold stsL stsB
  rw [List.mem_flatMap]
  constructor
  · rintro ⟨b, hb, h⟩
    obtain ⟨s, hs, rfl⟩ := List.mem_map.mp h
    exact ⟨hb, spts_mem.mp hs⟩
  · rintro ⟨h, h1⟩
    exact ⟨w.b, h, List.mem_map.mpr ⟨((w.r, w.c), w.l), spts_mem.mpr h1, rfl⟩⟩
theorem wS_inj {a b : List Tx} {s t : (Nat × Nat) × Nat} (e : wS a s = wS b t) : a = b ∧ s = t := by
  obtain ⟨⟨_, _⟩, _⟩ := s
  obtain ⟨⟨_, _⟩, _⟩ := t
  injection e with e1 e2 e3 e4
  exact ⟨e1, Prod.ext (Prod.ext e2 e3) e4⟩
theorem stsL_nd {L : List (List Tx)} (h : L.Nodup) : (stsL R C L).Nodup := nodup_flat h (fun b _ => nodup_map (fun s _ t _ e => (wS_inj e).2) spts_nd) (fun a _ b _ z ha hb => by
  obtain ⟨s, _, rfl⟩ := List.mem_map.mp ha
  obtain ⟨t, _, e⟩ := List.mem_map.mp hb
  exact (wS_inj e).1.symm)
theorem stsL_len {L : List (List Tx)} : (stsL R C L).length = L.length * (R * C * 4) := by
  unfold stsL
  induction L with
  | nil => simp
  | cons a l ih => rw [List.flatMap_cons, List.length_append, ih, List.length_cons, Nat.add_mul, Nat.one_mul, stsB, List.length_map, spts_len, Nat.add_comm]
abbrev sts (R C : Nat) : List Ws := stsL R C (boards C R)
theorem sts_gd {w : Ws} (z : Sz R C) : w ∈ sts R C ↔ Gd w R C := by
  rw [stsL_mem, boards_bd]
  exact ⟨fun h => ⟨h.1, z, h.2.1, h.2.2.1, h.2.2.2⟩, fun g => ⟨g.bd, g.hr, g.hc, g.hl⟩⟩
theorem gd_le {M : List Ws} (h : M.Nodup) (hg : ∀ u ∈ M, Gd u R C) : M.length ≤ 2 ^ (R * C) * (R * C * 4) := by
  cases M with
  | nil => exact Nat.zero_le _
  | cons a M =>
    have z := (hg a List.mem_cons_self).sz
    have := nodup_le h (m := sts R C) (fun u hu => (sts_gd z).mpr (hg u hu))
    rw [stsL_len, boards_len] at this
    exact this
end
end Fw

set_option linter.all false
set_option autoImplicit false
set_option maxRecDepth 100000
/-! FwMath26: all_boards and all_states. -/
namespace Fw
section
variable {x y R C : Nat} {n k : Int}
theorem allB_ok (z : Sz R C) (hz : R * C ≤ 9) : f_all_boards [.int R, .int C] n k = .ok (.lst ((boards C R).map brdD), n, k) := by
  have r1 := z.r1
  have r3 := z.r3
  have c4 := z.c4
  obtain ⟨u, l1⟩ := ab_texts (R := R) (n := n) (k := k) c4
  have l2 : ∀ (m : Nat), m ≤ R → ∀ (u3 u5 u6 : Sl), ∃ u3' u5' u6', forL (stepF (.nm 3) (.cons (.set 5 (.lst .nil)) (.cons (.for_ (.nm 6) (.seq (.var 4)) (.cons (.set 5 (.bin .add (.var 5) (.lc (.nm 7) (.seq (.var 2)) (.bin .add (.var 6) (.tup (.cons (.var 7) .nil)))))) .nil)) (.cons (.set 4 (.var 5)) .nil)))) ((List.range' (R - m) m).map fun i => .int (0 + (i : Nat))) (sA R C (tL C) (.val (.lst ((boards C (R - m)).map brdD))) u5 u6 u3 n k)
      = .nx (sA R C (tL C) (.val (.lst ((boards C R).map brdD))) u5' u6' u3' n k) := fun m => by
    induction m with
    | zero => exact fun _ u3 u5 u6 => ⟨u3, u5, u6, rfl⟩
    | succ m ih =>
      intro hm u3 u5 u6
      have e : R - (m + 1) + 1 = R - m := by omega
      obtain ⟨v6, h6⟩ := ab_in (R := R) (C := C) (n := n) (k := k) (u3 := .val (.int (0 + ((R - (m + 1) : Nat) : Int)))) (bs := (boards C (R - (m + 1))).map brdD) c4 (m := R - (m + 1)) (by omega) (boards C (R - (m + 1))) [] u6 (fun b hb => (boards_mem.mp hb).1) (by have := ab_bnd (i := R - (m + 1)) hz (by omega); simp only [List.length_nil]; omega)
      rw [List.nil_append, show ((boards C (R - (m + 1))).flatMap fun b => (texts C).map fun t => b ++ [t]) = boards C (R - (m + 1) + 1) from rfl, e] at h6
      obtain ⟨w3, w5, w6, h3⟩ := ih (by omega) (.val (.int (0 + ((R - (m + 1) : Nat) : Int)))) (.val (.lst ((boards C (R - m)).map brdD))) v6
      refine ⟨w3, w5, w6, ?_⟩
      rw [List.range'_succ, List.map_cons, e]
      refine fCons (s2 := sA R C (tL C) (.val (.lst ((boards C (R - m)).map brdD))) (.val (.lst ((boards C (R - m)).map brdD))) v6 (.val (.int (0 + ((R - (m + 1) : Nat) : Int)))) n k) rfl rfl ?_ h3
      refine vSet (s2 := sA R C (tL C) (.val (.lst ((boards C (R - (m + 1))).map brdD))) (.val (.lst [])) u6 (.val (.int (0 + ((R - (m + 1) : Nat) : Int)))) n k) (eLst sNil (Nat.zero_le _)) rfl ?_
      refine vFor (iSeqE (eVar rfl) rfl) h6 ?_
      exact vSet (eVar rfl) rfl qNil
  obtain ⟨w3, w5, w6, h3⟩ := l2 R (Nat.le_refl _) u .un .un
  rw [Nat.sub_self] at h3
  refine runR (s := sA R C (tL C) (.val (.lst ((boards C R).map brdD))) w5 w6 w3 n k) ?_
  refine vSet (s2 := sA R C [.str []] .un .un .un .un n k) (eLst (sCons eStr sNil) (show 1 ≤ SL by decide)) rfl ?_
  refine vFor (iRng (eVar rfl) (rng_ok (by omega))) l1 ?_
  refine vSet (s2 := sA R C (tL C) (.val (.lst ((boards C 0).map brdD))) .un .un u n k) (eLst (sCons (eTup sNil (Nat.zero_le _)) sNil) (show 1 ≤ SL by decide)) rfl ?_
  refine vFor (iRng (eVar rfl) (rng_ok (by omega))) (by unfold rngL; rw [List.range_eq_range']; exact h3) ?_
  exact qRet (eVar rfl)
abbrev spD (s : (Nat × Nat) × Nat) : D := .tup [dC s.1.1 s.1.2, .int s.2]
abbrev sTs (R C : Nat) (u2 u3 u4 : Sl) (sp : List D) (n k : Int) : S := ⟨[.val (.int R), .val (.int C), u2, u3, u4, .val (.lst sp), .un], n, k, false⟩
theorem as_spots : ∀ (l : List (Nat × Nat)) (acc : List ((Nat × Nat) × Nat)) (u2 : Sl), acc.length + l.length * 4 ≤ 100000 → ∃ u2',
    forL (stepF (.nm 2) (.cons (.set 5 (.bin .add (.var 5) (.lc (.nm 6) (.rng (.int 4)) (.tup (.cons (.var 2) (.cons (.var 6) .nil)))))) .nil)) (l.map fun q => dC q.1 q.2) (sTs R C u2 .un (.ol []) (acc.map spD) n k)
      = .nx (sTs R C u2' .un (.ol []) ((acc ++ l.flatMap fun q => (List.range 4).map fun l => (q, l)).map spD) n k)
  | [], acc, u2, _ => ⟨u2, by rw [List.flatMap_nil, List.append_nil]; rfl⟩
  | q :: l, acc, u2, hl => by
    rw [List.length_cons] at hl
    obtain ⟨v, e⟩ := as_spots l (acc ++ (List.range 4).map fun l => (q, l)) (.val (dC q.1 q.2)) (by rw [List.length_append, List.length_map, List.length_range]; omega)
    refine ⟨v, ?_⟩
    rw [List.flatMap_cons, ← List.append_assoc]
    refine fCons (s2 := sTs R C (.val (dC q.1 q.2)) .un (.ol []) ((acc ++ (List.range 4).map fun l => (q, l)).map spD) n k) rfl rfl ?_ e
    refine vSet (eBin (eVar rfl) (eLc' (s2 := sTs R C (.val (dC q.1 q.2)) .un (.ol []) (acc.map spD) n k) (l := ((List.range 4).map fun l => (q, l)).map spD) (iRng eInt (rng_ok (R := 4) (by decide))) ?_ rfl) (addLL ?_)) ?_ qNil
    · unfold rngL
      rw [List.map_map]
      rw [show (spD ∘ fun l => (q, l)) = fun i : Nat => D.tup [dC q.1 q.2, .int (0 + (i : Int))] from funext fun i => by
        show D.tup [dC q.1 q.2, .int (i : Int)] = _
        rw [Int.zero_add]]
      exact lc_map0 (fun i : Nat => D.int (0 + (i : Nat))) (fun i => D.tup [dC q.1 q.2, .int (0 + (i : Int))]) (fun i => ⟨[.val (.int R), .val (.int C), .val (dC q.1 q.2), .un, .ol [], .val (.lst (acc.map spD)), .val (.int (0 + (i : Nat)))], n, k, true⟩) (List.range 4) fun i _ => ⟨rfl, _, eTup (sCons (eVar rfl) (sCons (eVar rfl) sNil)) (show 2 ≤ SL by decide), rfl, rfl⟩
    · rw [List.length_map, List.length_map, List.length_map, List.length_range]
      omega
    · rw [← List.map_append]
      rfl
theorem as_found {sp : List ((Nat × Nat) × Nat)} : ∀ (L : List (List Tx)) (acc : List D) (u2 u3 : Sl), acc.length + L.length ≤ 100000 → ∃ u2' u3',
    forL (stepF (.nm 3) (.cons (.app 4 (.lc (.tup (.cons (.nm 2) (.cons (.nm 6) .nil))) (.seq (.var 5)) (.tup (.cons (.var 3) (.cons (.var 2) (.cons (.var 6) .nil)))))) .nil)) (L.map brdD) (sTs R C u2 u3 (.ol acc) (sp.map spD) n k)
      = .nx (sTs R C u2' u3' (.ol (acc ++ L.map fun b => .lst ((sp.map (wS b)).map dW))) (sp.map spD) n k)
  | [], acc, u2, u3, _ => ⟨u2, u3, by rw [show (([] : List (List Tx)).map fun b => D.lst ((sp.map (wS b)).map dW)) = [] from rfl, List.append_nil]; rfl⟩
  | b :: L, acc, u2, u3, hl => by
    rw [List.length_cons] at hl
    obtain ⟨v, v', e⟩ := as_found (sp := sp) L (acc ++ [.lst ((sp.map (wS b)).map dW)]) u2 (.val (brdD b)) (by rw [List.length_append, List.length_singleton]; omega)
    refine ⟨v, v', ?_⟩
    rw [show (acc ++ (b :: L).map fun b => D.lst ((sp.map (wS b)).map dW)) = (acc ++ [.lst ((sp.map (wS b)).map dW)]) ++ L.map fun b => D.lst ((sp.map (wS b)).map dW) by simp]
    refine fCons (s2 := sTs R C u2 (.val (brdD b)) (.ol (acc ++ [.lst ((sp.map (wS b)).map dW)])) (sp.map spD) n k) rfl rfl ?_ e
    refine vApp (s1 := sTs R C u2 (.val (brdD b)) (.ol acc) (sp.map spD) n k) rfl (eLc' (iSeqE (eVar rfl) rfl) ?_ rfl) rfl (Nat.lt_of_le_of_lt (by omega) (show 100000 < SL by decide)) rfl qNil
    rw [List.map_map]
    exact lc_map0 spD (fun s => dW (wS b s)) (fun s => ⟨[.val (.int R), .val (.int C), .val (dC s.1.1 s.1.2), .val (brdD b), .ol acc, .val (.lst (sp.map spD)), .val (.int s.2)], n, k, true⟩) sp fun s _ => ⟨rfl, _, (eTup (sCons (eVar rfl) (sCons (eVar rfl) (sCons (eVar rfl) sNil))) (show 3 ≤ SL by decide)), rfl, rfl⟩
theorem allS_ok (z : Sz R C) (hz : R * C ≤ 9) : f_all_states [.int R, .int C] n k = .ok (.lst ((boards C R).map fun b => .lst ((stsB R C b).map dW)), n, k) := by
  obtain ⟨u2, h1⟩ := as_spots (R := R) (C := C) (n := n) (k := k) (prs C R) [] .un (by rw [prs_len, List.length_nil]; omega)
  obtain ⟨v2, v3, h2⟩ := as_found (R := R) (C := C) (n := n) (k := k) (sp := spts R C) (boards C R) [] u2 .un (by
    rw [boards_len, List.length_nil]
    have : 2 ^ (R * C) ≤ 2 ^ 9 := Nat.pow_le_pow_right (by decide) hz
    omega)
  refine runR (s := sTs R C v2 v3 (.val (.lst ((boards C R).map fun b => .lst ((stsB R C b).map dW)))) ((spts R C).map spD) n k) ?_
  refine vPar (s2 := sTs R C .un .un (.ol []) [] n k) (rNl sNil (Nat.zero_le _)) (rEx (eLst sNil (Nat.zero_le _))) rfl ?_
  refine vFor (iSeqE (eCall (sCons (eVar rfl) (sCons (eVar rfl) sNil)) (cellsof_ok z.r3 z.c4)) (by rw [celL_prs]; rfl)) h1 ?_
  refine vFor (iSeqE (eCall (sCons (eVar rfl) (sCons (eVar rfl) sNil)) (allB_ok z hz)) rfl) h2 ?_
  exact qRet (eOwn' rfl rfl rfl)
theorem nsize_ok (z : Sz R C) (hz : R * C ≤ 6) : f_need_size [.int R, .int C] n k = .ok (.non, n, k) := by
  have r1 := z.r1
  have r3 := z.r3
  have c1 := z.c1
  have c4 := z.c4
  refine runN (s := ⟨[.val (.int R), .val (.int C)], n, k, false⟩) ?_
  refine vIfF (eOr (vOrF (vNot (t := true) (eCall (sCons (eVar rfl) (sCons eInt (sCons eInt sNil))) (whole_in (by omega) (by omega)))) (vOrF (vNot (t := true) (eCall (sCons (eVar rfl) (sCons eInt (sCons eInt sNil))) (whole_in (by omega) (by omega)))) (oEnd (eCmp (eBin (eVar rfl) (eVar rfl) (mulS (by omega) (by omega))) eInt (gt_ints ?_)))))) qNil
  rw [← Int.natCast_mul]
  omega
/-- a size that is none -/
theorem nsize_x1 {d e : D} (h : NotW d 1 3) : f_need_size [d, e] n k = .exc 6 n k := by
  refine runX (n' := n) (k' := k) ?_
  exact qIfTX (eOr (oT (vNot (eCall (sCons (eVar rfl) (sCons eInt (sCons eInt sNil))) (h n k))) rfl)) rfl qRais
theorem nsize_x2 {r : Int} {e : D} (h1 : 1 ≤ r) (h3 : r ≤ 3) (h : NotW e 1 4) : f_need_size [.int r, e] n k = .exc 6 n k := by
  refine runX (n' := n) (k' := k) ?_
  exact qIfTX (eOr (vOrF (vNot (t := true) (eCall (sCons (eVar rfl) (sCons eInt (sCons eInt sNil))) (whole_in h1 h3))) (oT (vNot (eCall (sCons (eVar rfl) (sCons eInt (sCons eInt sNil))) (h n k))) rfl))) rfl qRais
theorem nsize_x3 {r c : Int} (h1 : 1 ≤ r) (h3 : r ≤ 3) (h4 : 1 ≤ c) (h5 : c ≤ 4) (h : 6 < r * c) : f_need_size [.int r, .int c] n k = .exc 6 n k := by
  refine runX (n' := n) (k' := k) ?_
  exact qIfTX (eOr (vOrF (vNot (t := true) (eCall (sCons (eVar rfl) (sCons eInt (sCons eInt sNil))) (whole_in h1 h3))) (vOrF (vNot (t := true) (eCall (sCons (eVar rfl) (sCons eInt (sCons eInt sNil))) (whole_in h4 h5))) (oEnd (eCmp (eBin (eVar rfl) (eVar rfl) (mulS (by omega) (by omega))) eInt (gt_intsT h)))))) rfl qRais
end
end Fw

set_option linter.all false
set_option autoImplicit false
set_option maxRecDepth 100000
/-! FwMath27: all_rounds. -/
namespace Fw
section
variable {s s1 s2 : S} {a b d : E} {p : Ss} {r : RS} {x y z : D} {i j : Nat}
theorem eSnin {kvs : List (D × D)} (h : ev a s = .ok (x, s1)) (h1 : s1.get i = .os kvs) (hk : skey x = true) : ev (.snin i a) s = .ok (.bl (!(sfind kvs x).isSome), s1) := by
  show (ev a s).bind _ = _
  rw [h]
  show (match s1.get i with | .os kvs => if skey x = true then Res.ok (D.bl (!(sfind kvs x).isSome), s1) else .stuck | _ => .stuck) = _
  rw [h1]
  exact if_pos hk
theorem eSix {kvs kvs' : List (D × D)} (h0 : s.get i = .os kvs') (h : ev a s = .ok (x, s1)) (h1 : s1.get i = .os kvs) (hk : skey x = true) (hf : sfind kvs x = some z) : ev (.six i a) s = .ok (z, s1) := by
  show (match s.get i with | .os _ => (ev a s).bind _ | _ => .stuck) = _
  rw [h0]
  show (ev a s).bind _ = _
  rw [h]
  show (match s1.get i with | .os kvs => if skey x = true then (match sfind kvs x with | some v => Res.ok (v, s1) | none => .stuck) else .stuck | _ => .stuck) = _
  rw [h1]
  show (if skey x = true then (match sfind kvs x with | some v => Res.ok (v, s1) | none => .stuck) else .stuck) = _
  rw [if_pos hk, hf]
theorem eSlen {kvs : List (D × D)} (h : s.get i = .os kvs) : ev (.slen i) s = .ok (.int kvs.length, s) := by
  show (match s.get i with | .os kvs => Res.ok (D.int kvs.length, s) | _ => .stuck) = _
  rw [h]
theorem eSlist {kvs : List (D × D)} (h : s.get i = .os kvs) : ev (.slist i) s = .ok (.lst (kvs.map (·.1)), s) := by
  show (match s.get i with | .os kvs => Res.ok (D.lst (kvs.map fun kv : D × D => kv.1), s) | _ => .stuck) = _
  rw [h]
theorem eIget {kvs kvs' : List (Int × D)} {q : Int} (h0 : s.get i = .oi kvs') (h : ev a s = .ok (.int q, s1)) (h2 : ev b s1 = .ok (z, s2)) (h1 : s2.get i = .oi kvs) : ev (.iget i a b) s = .ok ((ifind kvs q).getD z, s2) := by
  have e0 : icur s i = some kvs' := by unfold icur; rw [h0]
  have e1 : icur s2 i = some kvs := by unfold icur; rw [h1]
  show (match icur s i with | some _ => (ev a s).bind _ | none => .stuck) = _
  rw [e0]
  show (ev a s).bind _ = _
  rw [h]
  show (ev b s1).bind _ = _
  rw [h2]
  show (match icur s2 i, D.int q with | some kvs, .int j => Res.ok ((ifind kvs j).getD z, s2) | _, _ => .stuck) = _
  rw [e1]
theorem eIix {kvs kvs' : List (Int × D)} {q : Int} (h0 : icur s i = some kvs') (h : ev a s = .ok (.int q, s1)) (h1 : icur s1 i = some kvs) (hf : ifind kvs q = some z) : ev (.iix i a) s = .ok (z, s1) := by
  show (match icur s i with | some _ => (ev a s).bind _ | none => .stuck) = _
  rw [h0]
  show (ev a s).bind _ = _
  rw [h]
  show (match icur s1 i, D.int q with | some kvs, .int j => (match ifind kvs j with | some v => Res.ok (v, s1) | none => .stuck) | _, _ => .stuck) = _
  rw [h1]
  show (match ifind kvs q with | some v => Res.ok (v, s1) | none => .stuck) = _
  rw [hf]
theorem iKeys {kvs : List (Int × D)} (h : s.get i = .oi kvs) (hl : s.lk = false) (hp : Nrm (s.put i (.val (.dii (kvs.map (·.1)) (kvs.map (·.2))))) s1) : evi (.ikeys i) s = .ok (kvs.map (fun kv => .int kv.1), s1) := by
  show (match s.get i with | .oi kvs => if s.lk then Res.stuck else .ok (kvs.map (fun kv : Int × D => D.int kv.1), s.put i (.val (.dii (kvs.map fun kv : Int × D => kv.1) (kvs.map fun kv : Int × D => kv.2)))) | _ => .stuck) = _
  rw [h, ← hp]
  show (if s.lk = true then Res.stuck else _) = _
  rw [hl]
  rfl
theorem vNsi (hp : Nrm ((s.put i (.os [])).put j (.oi [])) s2) (h : evSs p s2 = r) : evSs (.cons (.nsi i j) p) s = r := by
  show (RS.nx ((s.put i (.os [])).put j (.oi []))).then _ = _
  rw [hp]
  exact h
theorem vSput {kvs kvs' : List (D × D)} {s3 : S} (h : ev b s = .ok (z, s1)) (h0 : s1.get i = .os kvs') (h1 : ev a s1 = .ok (x, s2)) (h2 : s2.get i = .os kvs) (hl : kvs.length < SL) (hk : skey x = true) (hp : Nrm (s2.put i (.os (sputL kvs x z))) s3) (hr : evSs p s3 = r) : evSs (.cons (.sput i a b) p) s = r := by
  show ((ev b s).then _).then _ = _
  rw [h]
  show (match s1.get i with | .os _ => (ev a s1).then _ | _ => RS.stuck).then _ = _
  rw [h0]
  show ((ev a s1).then _).then _ = _
  rw [h1]
  show (match s2.get i with | .os kvs => if kvs.length < SL ∧ skey x = true then RS.nx (s2.put i (.os (sputL kvs x z))) else .stuck | _ => .stuck).then _ = _
  rw [h2]
  show (if kvs.length < SL ∧ skey x = true then RS.nx (s2.put i (.os (sputL kvs x z))) else .stuck).then _ = _
  rw [if_pos ⟨hl, hk⟩, hp]
  exact hr
theorem vIput {kvs kvs' : List (Int × D)} {q : Int} {s3 : S} (h : ev b s = .ok (z, s1)) (h0 : s1.get i = .oi kvs') (h1 : ev a s1 = .ok (.int q, s2)) (h2 : s2.get i = .oi kvs) (hl : kvs.length < SL) (hp : Nrm (s2.put i (.oi (iputL kvs q z))) s3) (hr : evSs p s3 = r) : evSs (.cons (.iput i a b) p) s = r := by
  show ((ev b s).then _).then _ = _
  rw [h]
  show (match s1.get i with | .oi _ => (ev a s1).then _ | _ => RS.stuck).then _ = _
  rw [h0]
  show ((ev a s1).then _).then _ = _
  rw [h1]
  show (match s2.get i, D.int q with | .oi kvs, .int j => if kvs.length < SL then RS.nx (s2.put i (.oi (iputL kvs j z))) else .stuck | _, _ => .stuck).then _ = _
  rw [h2]
  show (if kvs.length < SL then RS.nx (s2.put i (.oi (iputL kvs q z))) else .stuck).then _ = _
  rw [if_pos hl, hp]
  exact hr
theorem vSputp {kvs kvs' : List (D × D)} {w : D} {s3 s4 : S} {e f : E} (h : ev e s = .ok (z, s1)) (h' : ev f s1 = .ok (y, s2)) (h0 : s2.get i = .os kvs') (h1 : ev a s2 = .ok (x, s3)) (h2 : s3.get i = .os kvs) (hl : kvs.length < SL) (hk : skey x = true) (hp : Nrm ((s3.put i (.os (sputL kvs x z))).put j (.val y)) s4) (hr : evSs p s4 = r) : evSs (.cons (.sputp i a j e f) p) s = r := by
  show ((ev e s).then _).then _ = _
  rw [h]
  show ((ev f s1).then _).then _ = _
  rw [h']
  show (match s2.get i with | .os _ => (ev a s2).then _ | _ => RS.stuck).then _ = _
  rw [h0]
  show ((ev a s2).then _).then _ = _
  rw [h1]
  show (match s3.get i with | .os kvs => if kvs.length < SL ∧ skey x = true then RS.nx ((s3.put i (.os (sputL kvs x z))).put j (.val y)) else .stuck | _ => .stuck).then _ = _
  rw [h2]
  show (if kvs.length < SL ∧ skey x = true then RS.nx ((s3.put i (.os (sputL kvs x z))).put j (.val y)) else .stuck).then _ = _
  rw [if_pos ⟨hl, hk⟩, hp]
  exact hr
end
/-! ### data -/
theorem kfs_strs : ∀ (b : List Tx) (m : Nat), D.kfs m (b.map .str) = true
  | [], _ => by simp [D.kfs]
  | t :: b, m => by simp [D.kfs, D.kf, kfs_strs b m]
theorem skey_dW (w : Ws) : skey (dW w) = true := by
  show D.kfs 7 [.tup (w.b.map .str), dC w.r w.c, .int w.l] = true
  simp [D.kfs, D.kf, kfs_strs]
section
variable {α : Type}
/-- a dict with states as keys -/
abbrev sD (L : List (Ws × D)) : List (D × D) := L.map fun e => (dW e.1, e.2)
theorem sfind_sD {w : Ws} : ∀ {L : List (Ws × D)}, sfind (sD L) (dW w) = (L.find? fun e => decide (e.1 = w)).map (·.2)
  | [] => rfl
  | e :: L => by
    unfold sfind
    rw [sD, List.map_cons, List.find?_cons, List.find?_cons]
    show (match D.eqv (dW e.1) (dW w) with | true => some (dW e.1, e.2) | false => _).map _ = _
    rw [eqv_dW]
    cases decide (e.1 = w) with
    | true => rfl
    | false => exact sfind_sD (L := L)
theorem sfind_no {w : Ws} {L : List (Ws × D)} (h : w ∉ L.map (·.1)) : sfind (sD L) (dW w) = none := by
  rw [sfind_sD, List.find?_eq_none.mpr (fun e he => by
    simp only [decide_eq_true_eq]
    exact fun z => h (List.mem_map.mpr ⟨e, he, z⟩))]
  rfl
theorem sfind_yes {w : Ws} {L : List (Ws × D)} (h : w ∈ L.map (·.1)) : (sfind (sD L) (dW w)).isSome = true := by
  rw [sfind_sD, Option.isSome_map]
  obtain ⟨e, he, z⟩ := List.mem_map.mp h
  exact List.find?_isSome.mpr ⟨e, he, decide_eq_true z⟩
theorem sput_new {w : Ws} {v : D} {L : List (Ws × D)} (h : w ∉ L.map (·.1)) : sputL (sD L) (dW w) v = sD (L ++ [(w, v)]) := by
  unfold sputL
  rw [sfind_no h]
  show sD L ++ [(dW w, v)] = _
  simp [sD]
end
abbrev mD (M : List Ws) : List (D × D) := sD (M.map fun u => (u, .bl true))
abbrev cD (K : Cn) : List (Int × D) := K.map fun kv => (kv.1, .int kv.2)
theorem mD_keys (M : List Ws) : (M.map fun u => (u, D.bl true)).map (·.1) = M := by
  rw [List.map_map]
  exact List.map_id M
theorem cD_find {K : Cn} {p : Int} : ifind (cD K) p = ((K.find? fun kv => decide (kv.1 = p)).map (·.2)).map .int := by
  unfold ifind
  rw [cD, List.find?_map, Option.map_map, Option.map_map]
  rfl
theorem cD_get {K : Cn} {p : Int} : (ifind (cD K) p).getD (.int 0) = .int (cget K p) := by
  rw [cD_find]
  unfold cget
  cases (K.find? fun kv => decide (kv.1 = p)) <;> rfl
theorem cD_put {K : Cn} {p : Int} : iputL (cD K) p (.int (cget K p + 1)) = cD (cinc K p) := by
  unfold iputL cinc
  rw [cD, List.any_map]
  show (if (K.any fun kv => decide (kv.1 = p)) = true then _ else _) = _
  split
  · rw [cD, List.map_map, List.map_map]
    refine List.map_congr_left fun kv _ => ?_
    show (if kv.1 = p then (kv.1, D.int (cget K p + 1)) else (kv.1, .int kv.2)) = (fun kv : Int × Int => (kv.1, D.int kv.2)) (if kv.1 = p then (kv.1, cget K p + 1) else kv)
    split <;> rfl
  · simp [cD]
theorem prs_map : ∀ K : Cn, prsD (K.map prD) = some K
  | [] => rfl
  | a :: K => by
    show (prsD (K.map prD)).map (a :: ·) = _
    rw [prs_map K]
    rfl
theorem find_self {K : Cn} (h : (K.map (·.1)).Nodup) {kv : Int × Int} (hk : kv ∈ K) : (K.find? fun e => decide (e.1 = kv.1)) = some kv := by
  induction K with
  | nil => cases hk
  | cons a K ih =>
    rw [List.map_cons, List.nodup_cons] at h
    rw [List.find?_cons]
    rcases List.mem_cons.mp hk with e | e
    · subst e
      simp
    · have : a.1 ≠ kv.1 := fun z => h.1 (by rw [z]; exact List.mem_map.mpr ⟨kv, e, rfl⟩)
      simp [this]
      exact ih h.2 e
end Fw

set_option linter.all false
set_option autoImplicit false
set_option maxRecDepth 100000
/-! FwMath28: the loops of all_rounds. -/
namespace Fw
section
variable {x y R C : Nat} {w : Ws} {n k : Int} {u3 u6 u7 u8 : Sl} {M : List Ws} {K : Cn}
abbrev sR (x y R C : Nat) (u3 : Sl) (M : List Ws) (K : Cn) (u6 u7 u8 : Sl) (n k : Int) : S := ⟨[.val (.str [x, y]), .val (.int R), .val (.int C), u3, .os (mD M), .oi (cD K), u6, u7, u8, .un], n, k, false⟩
theorem mD_app (M : List Ws) (u : Ws) : sD ((M.map fun u => (u, D.bl true)) ++ [(u, .bl true)]) = mD (M ++ [u]) := by simp [mD]
theorem mD_len (M : List Ws) : (mD M).length = M.length := by simp [mD]
theorem ar_mark : ∀ (L M : List Ws) (u8 : Sl), (∀ u ∈ L, u ∉ M) → L.Nodup → M.length + L.length ≤ 100000 → ∃ u8', forL (stepF (.nm 8) (.cons (.sput 4 (.var 8) (.bl true)) .nil)) (L.map dW) (sR x y R C u3 M K u6 u7 u8 n k) = .nx (sR x y R C u3 (M ++ L) K u6 u7 u8' n k)
  | [], M, u8, _, _, _ => ⟨u8, by rw [List.append_nil]; rfl⟩
  | u :: L, M, u8, h, hn, hl => by
    rw [List.nodup_cons] at hn
    rw [List.length_cons] at hl
    have hu := h u List.mem_cons_self
    obtain ⟨v, e⟩ := ar_mark L (M ++ [u]) (.val (dW u)) (fun a ha z => by
      rcases List.mem_append.mp z with z | z
      · exact h a (List.mem_cons_of_mem _ ha) z
      · rw [List.mem_singleton.mp z] at ha
        exact hn.1 ha) hn.2 (by rw [List.length_append, List.length_singleton]; omega)
    refine ⟨v, ?_⟩
    rw [show M ++ u :: L = M ++ [u] ++ L by simp]
    refine fCons (s2 := sR x y R C u3 (M ++ [u]) K u6 u7 (.val (dW u)) n k) rfl rfl ?_ e
    refine vSput (s1 := sR x y R C u3 M K u6 u7 (.val (dW u)) n k) (kvs' := mD M) eBl rfl (eVar rfl) rfl (Nat.lt_of_le_of_lt (by rw [mD_len]; omega) (show 100000 < SL by decide)) (skey_dW u) ?_ qNil
    rw [sput_new (by rw [mD_keys]; exact hu), mD_app]
    rfl
abbrev arB : Ss := (.cons (.iff (.snin 4 (.var 6)) (.cons (.set 7 (.call 23 f_round_from (.cons (.var 0) (.cons (.var 6) .nil))))
    (.cons (.for_ (.nm 8) (.seq (.var 7)) (.cons (.sput 4 (.var 8) (.bl true))
    .nil))
    (.cons (.iput 5 (.b1 .len (.var 7)) (.bin .add (.iget 5 (.b1 .len (.var 7)) (.int 0)) (.int 1)))
    .nil))) .nil)
    .nil)
theorem RI.le {s : List Ws × Cn} (h : RI x y R C s) (hz : R * C ≤ 9) : s.1.length ≤ 18432 := by
  have h1 := gd_le h.nd h.gd
  have : 2 ^ (R * C) ≤ 2 ^ 9 := Nat.pow_le_pow_right (by decide) hz
  exact Nat.le_trans h1 (Nat.le_trans (Nat.mul_le_mul this (show R * C * 4 ≤ 36 by omega)) (by decide))
theorem RI.kle {s : List Ws × Cn} (h : RI x y R C s) : s.2.length ≤ s.1.length := by
  have := nodup_le h.kn (m := s.1.map fun u => ((rlN x y R C u : Nat) : Int)) (fun p hp => by
    obtain ⟨u, h1, h2⟩ := h.kp p hp
    exact List.mem_map.mpr ⟨u, h1, h2.symm⟩)
  rw [List.length_map, List.length_map] at this
  exact this
theorem ar_one (hx : isTurn x) (hy : isTurn y) (g : Gd w R C) (h : RI x y R C (M, K)) : ∃ u7' u8', evSs arB (sR x y R C u3 M K (.val (dW w)) u7 u8 n k) = .nx (sR x y R C u3 (rstep x y R C (M, K) w).1 (rstep x y R C (M, K) w).2 (.val (dW w)) u7' u8' n k) := by
  have ml := h.le g.sz.m9
  have kl := h.kle
  have hp := rlN_ok (x := x) (y := y) g
  have p9 := hp.p9
  simp only at ml kl
  by_cases hw : w ∈ M
  · refine ⟨u7, u8, ?_⟩
    rw [show rstep x y R C (M, K) w = (M, K) from if_pos hw]
    have e := eSnin (s := sR x y R C u3 M K (.val (dW w)) u7 u8 n k) (i := 4) (a := .var 6) (kvs := mD M) (eVar rfl) rfl (skey_dW w)
    rw [sfind_yes (by rw [mD_keys]; exact hw)] at e
    exact vIfF e qNil
  · obtain ⟨v8, hm⟩ := ar_mark (x := x) (y := y) (R := R) (C := C) (n := n) (k := k) (u3 := u3) (u6 := .val (dW w)) (u7 := .val (.lst ((its x y R C w (rlN x y R C w)).map dW))) (K := K) (its x y R C w (rlN x y R C w)) M u8 (fun u hu => by
      obtain ⟨i, hi, rfl⟩ := mem_its hu
      exact h.out g hw hi) (its_nodup g) (by rw [its_len]; omega)
    refine ⟨.val (.lst ((its x y R C w (rlN x y R C w)).map dW)), v8, ?_⟩
    rw [show rstep x y R C (M, K) w = (M ++ its x y R C w (rlN x y R C w), cinc K (rlN x y R C w : Nat)) from if_neg hw]
    have e := eSnin (s := sR x y R C u3 M K (.val (dW w)) u7 u8 n k) (i := 4) (a := .var 6) (kvs := mD M) (eVar rfl) rfl (skey_dW w)
    rw [sfind_no (by rw [mD_keys]; exact hw)] at e
    refine vIfT e ?_ qNil
    refine vSet (s2 := sR x y R C u3 M K (.val (dW w)) (.val (.lst ((its x y R C w (rlN x y R C w)).map dW))) u8 n k) (eCall (sCons (eVar rfl) (sCons (eVar rfl) sNil)) (roundfrom_ok hx hy g hp)) rfl ?_
    refine vFor (iSeqE (eVar rfl) rfl) hm ?_
    refine vIput (q := (rlN x y R C w : Nat)) (kvs' := cD K) (eBin (eIget (kvs' := cD K) rfl (eB1 (eVar rfl) (len_its _)) eInt rfl) eInt (by rw [cD_get]; rfl)) rfl (eB1 (eVar rfl) (len_its _)) rfl (Nat.lt_of_le_of_lt (by rw [cD, List.length_map]; omega) (show 100000 < SL by decide)) ?_ qNil
    rw [cD_put]
    rfl
theorem ar_here (hx : isTurn x) (hy : isTurn y) : ∀ (L : List Ws) (M : List Ws) (K : Cn) (u6 u7 u8 : Sl), (∀ u ∈ L, Gd u R C) → RI x y R C (M, K) → ∃ u6' u7' u8', forL (stepF (.nm 6) arB) (L.map dW) (sR x y R C u3 M K u6 u7 u8 n k) = .nx (sR x y R C u3 (rfold x y R C L (M, K)).1 (rfold x y R C L (M, K)).2 u6' u7' u8' n k)
  | [], M, K, u6, u7, u8, _, _ => ⟨u6, u7, u8, rfl⟩
  | a :: L, M, K, u6, u7, u8, hg, h => by
    obtain ⟨v7, v8, e⟩ := ar_one (n := n) (k := k) (u3 := u3) (u7 := u7) (u8 := u8) hx hy (hg a List.mem_cons_self) h
    obtain ⟨w6, w7, w8, e'⟩ := ar_here hx hy L (rstep x y R C (M, K) a).1 (rstep x y R C (M, K) a).2 (.val (dW a)) v7 v8 (fun u hu => hg u (List.mem_cons_of_mem _ hu)) (h.step (hg a List.mem_cons_self))
    exact ⟨w6, w7, w8, fCons (s1 := sR x y R C u3 M K (.val (dW a)) u7 u8 n k) rfl rfl e e'⟩
theorem ar_all (hx : isTurn x) (hy : isTurn y) : ∀ (L : List (List Ws)) (M : List Ws) (K : Cn) (u3 u6 u7 u8 : Sl), (∀ l ∈ L, ∀ u ∈ l, Gd u R C) → RI x y R C (M, K) → ∃ u3' u6' u7' u8', forL (stepF (.nm 3) (.cons (.for_ (.nm 6) (.seq (.var 3)) arB) .nil)) (L.map fun l => .lst (l.map dW)) (sR x y R C u3 M K u6 u7 u8 n k) = .nx (sR x y R C u3' (rfold x y R C L.flatten (M, K)).1 (rfold x y R C L.flatten (M, K)).2 u6' u7' u8' n k)
  | [], M, K, u3, u6, u7, u8, _, _ => ⟨u3, u6, u7, u8, rfl⟩
  | l :: L, M, K, u3, u6, u7, u8, hg, h => by
    have g1 := hg l List.mem_cons_self
    obtain ⟨v6, v7, v8, e⟩ := ar_here (n := n) (k := k) (u3 := .val (.lst (l.map dW))) hx hy l M K u6 u7 u8 g1 h
    obtain ⟨w3, w6, w7, w8, e'⟩ := ar_all hx hy L (rfold x y R C l (M, K)).1 (rfold x y R C l (M, K)).2 (.val (.lst (l.map dW))) v6 v7 v8 (fun c hc => hg c (List.mem_cons_of_mem _ hc)) (rfold_ok l g1 h)
    refine ⟨w3, w6, w7, w8, ?_⟩
    rw [List.flatten_cons, show rfold x y R C (l ++ L.flatten) (M, K) = rfold x y R C L.flatten (rfold x y R C l (M, K)) from List.foldl_append]
    exact fCons (s1 := sR x y R C (.val (.lst (l.map dW))) M K u6 u7 u8 n k) rfl rfl (vFor (iSeqE (eVar rfl) rfl) e qNil) e'
/-- the rounds of a size -/
noncomputable def arF (x y R C : Nat) : List Ws × Cn := rfold x y R C (sts R C) ([], [])
theorem arF_ok (z : Sz R C) : RI x y R C (arF x y R C) := rfold_ok _ (fun u hu => (sts_gd z).mp hu) RI.nil
theorem arF_in (z : Sz R C) {u : Ws} : u ∈ (arF x y R C).1 ↔ Gd u R C := ⟨(arF_ok z).gd u, fun g => rfold_in (sts R C) (fun u hu => (sts_gd z).mp hu) u ((sts_gd z).mpr g)⟩
theorem arF_pm (z : Sz R C) : (arF x y R C).1.Perm (sts R C) := perm_of (arF_ok z).nd (stsL_nd (boards_nd C R)) (fun u => (arF_in z).trans (sts_gd z).symm)
theorem allR_ok (hx : isTurn x) (hy : isTurn y) (z : Sz R C) (hz : R * C ≤ 6) : f_all_rounds [.str [x, y], .int R, .int C] n k = .ok (.tup ((sortP (arF x y R C).2).map prD), n, k) := by
  obtain ⟨w3, w6, w7, w8, e⟩ := ar_all (n := n) (k := k) hx hy ((boards C R).map (stsB R C)) [] [] .un .un .un .un (fun l hl u hu => by
    obtain ⟨b, hb, rfl⟩ := List.mem_map.mp hl
    exact (sts_gd z).mp (List.mem_flatMap.mpr ⟨b, hb, hu⟩)) RI.nil
  rw [← List.flatMap_def, show (boards C R).flatMap (stsB R C) = sts R C from rfl, show rfold x y R C (sts R C) ([], []) = arF x y R C from rfl, List.map_map] at e
  have kn := (arF_ok (x := x) (y := y) z).kn
  generalize hM : (arF x y R C).1 = M at e
  generalize hK : (arF x y R C).2 = K at e kn ⊢
  refine runR (s := ⟨[.val (.str [x, y]), .val (.int R), .val (.int C), w3, .os (mD M), .val (.dii ((cD K).map (·.1)) ((cD K).map (·.2))), w6, w7, w8, .un], n, k, false⟩) ?_
  refine qExpr (eCall (sCons (eVar rfl) sNil) (nrule_ok hx hy)) ?_
  refine qExpr (eCall (sCons (eVar rfl) (sCons (eVar rfl) sNil)) (nsize_ok z hz)) ?_
  refine vNsi (s2 := sR x y R C .un [] [] .un .un .un n k) rfl ?_
  refine vFor (iSeqE (eCall (sCons (eVar rfl) (sCons (eVar rfl) sNil)) (allS_ok z (by omega))) rfl) e ?_
  refine qRet (eB1 (x := .lst ((sortP K).map prD)) (eB1 (x := .lst (K.map prD)) (eLc' (iKeys rfl rfl rfl) ?_ rfl) ?_) rfl)
  · rw [show (cD K).map (fun kv => D.int kv.1) = K.map (fun kv : Int × Int => D.int kv.1) from by rw [cD, List.map_map]; rfl]
    have zz : ((cD K).map (·.1)).zip ((cD K).map (·.2)) = cD K := by
      rw [List.zip_map', List.map_id'']
      exact fun _ => rfl
    refine lc_map0 (fun kv : Int × Int => D.int kv.1) prD (fun kv => ⟨[.val (.str [x, y]), .val (.int R), .val (.int C), w3, .os (mD M), .val (.dii ((cD K).map (·.1)) ((cD K).map (·.2))), w6, w7, w8, .val (.int kv.1)], n, k, true⟩) K fun kv hkv => ?_
    have ff : ifind (((cD K).map (·.1)).zip ((cD K).map (·.2))) kv.1 = some (.int kv.2) := by
      rw [zz, cD_find, find_self kn hkv]
      rfl
    refine ⟨rfl, ⟨[.val (.str [x, y]), .val (.int R), .val (.int C), w3, .os (mD M), .val (.dii ((cD K).map (·.1)) ((cD K).map (·.2))), w6, w7, w8, .val (.int kv.1)], n, k, true⟩, ?_, rfl, rfl⟩
    refine eTup (sCons (eVar rfl) (sCons ?_ sNil)) (show 2 ≤ SL by decide)
    exact eIix (i := 5) (a := .var 9) rfl (eVar rfl) rfl ff
  · show (match prsD (K.map prD) with | some ps => Res.ok (D.lst ((sortP ps).map prD)) | none => .stuck) = _
    rw [prs_map]
end
end Fw

set_option linter.all false
set_option autoImplicit false
set_option maxRecDepth 100000
set_option maxHeartbeats 4000000
/-! FwMath11: left and right exchanged. -/
namespace Fw
/-! ### sorted numbers -/
theorem insI_pm (x : Int) : ∀ l, (insI x l).Perm (x :: l)
  | [] => .refl _
  | y :: r => by
    unfold insI
    split
    · exact .refl _
    · exact ((insI_pm x r).cons y).trans (.swap x y r)
theorem sortI_pm : ∀ l, (sortI l).Perm l
  | [] => .refl _
  | x :: r => (insI_pm x (sortI r)).trans ((sortI_pm r).cons x)
theorem insI_sd (x : Int) : ∀ l, l.Pairwise (· ≤ ·) → (insI x l).Pairwise (· ≤ ·)
  | [], _ => by simp [insI]
  | y :: r, h => by
    unfold insI
    have h' := List.pairwise_cons.mp h
    split
    · rename_i q
      refine List.pairwise_cons.mpr ⟨fun z hz => ?_, h⟩
      rcases List.mem_cons.mp hz with e | e
      · rw [e]; exact q
      · exact Int.le_trans q (h'.1 z e)
    · rename_i q
      refine List.pairwise_cons.mpr ⟨fun z hz => ?_, insI_sd x r h'.2⟩
      rcases List.mem_cons.mp ((insI_pm x r).mem_iff.mp hz) with e | e
      · rw [e]; omega
      · exact h'.1 z e
theorem sortI_sd : ∀ l, (sortI l).Pairwise (· ≤ ·)
  | [] => .nil
  | x :: r => insI_sd x _ (sortI_sd r)
theorem sd_uniq : ∀ {l m : List Int}, l.Perm m → l.Pairwise (· ≤ ·) → m.Pairwise (· ≤ ·) → l = m
  | [], m, p, _, _ => by
    have := p.length_eq
    cases m with
    | nil => rfl
    | cons => simp at this
  | a :: l, [], p, _, _ => by
    have := p.length_eq
    simp at this
  | a :: l, b :: m, p, h1, h2 => by
    have h1' := List.pairwise_cons.mp h1
    have h2' := List.pairwise_cons.mp h2
    have ab : a = b := by
      have ha : a ∈ b :: m := p.mem_iff.mp (by simp)
      have hb : b ∈ a :: l := p.mem_iff.mpr (by simp)
      rcases List.mem_cons.mp ha with e | e
      · exact e
      · rcases List.mem_cons.mp hb with e2 | e2
        · exact e2.symm
        · exact Int.le_antisymm (h1'.1 b e2) (h2'.1 a e)
    subst ab
    rw [sd_uniq (List.Perm.cons_inv p) h1'.2 h2'.2]
theorem sortI_eq {l m : List Int} (p : l.Perm m) : sortI l = sortI m := sd_uniq ((sortI_pm l).trans (p.trans (sortI_pm m).symm)) (sortI_sd l) (sortI_sd m)
section
variable {x y R C : Nat} {w : Ws} {n k : Int} {b : List Tx}
def miB (b : List Tx) : List Tx := b.map List.reverse
def mi (C : Nat) (w : Ws) : Ws := ⟨miB w.b, w.r, C - 1 - w.c, (4 - w.l) % 4⟩
theorem at_mi {i j : Nat} (hb : Bd b R C) (hi : i < R) (hj : j < C) : at_ (miB b) i j = at_ b i (C - 1 - j) := by
  obtain ⟨z, h1, h2, h3, h4⟩ := hb.get hi
  unfold at_ miB
  rw [h2]
  have e : (b.map List.reverse).getD i [] = z.reverse := by
    rw [List.getD, List.getElem?_map, h1]
    rfl
  rw [e]
  have hj2 : j < z.reverse.length := by rw [List.length_reverse]; omega
  have hj3 : C - 1 - j < z.length := by omega
  rw [List.getD, List.getD, List.getElem?_eq_getElem hj2, List.getElem?_eq_getElem hj3, List.getElem_reverse]
  show z[z.length - 1 - j] = z[C - 1 - j]
  congr 1
  omega
theorem miB_bd (hb : Bd b R C) : Bd (miB b) R C := by
  unfold miB
  refine ⟨by rw [List.length_map, hb.rows], fun z hz => ?_, fun z hz v hv => ?_⟩
  · obtain ⟨r, hr, e⟩ := List.mem_map.mp hz
    rw [← e, List.length_reverse]
    exact hb.cols r hr
  · obtain ⟨r, hr, e⟩ := List.mem_map.mp hz
    rw [← e] at hv
    exact hb.sgn r hr v (List.mem_reverse.mp hv)
theorem mi_gd (g : Gd w R C) : Gd (mi C w) R C := ⟨miB_bd g.bd, g.sz, g.hr, by have := g.hc; show C - 1 - w.c < C; omega, Nat.mod_lt _ (by decide)⟩
theorem miB_mi (b : List Tx) : miB (miB b) = b := by
  unfold miB
  rw [List.map_map]
  have : (List.reverse ∘ List.reverse : Tx → Tx) = id := by
    funext z
    simp
  rw [this, List.map_id]
theorem mi_mi (g : Gd w R C) : mi C (mi C w) = w := by
  have hc := g.hc
  have hl := g.hl
  obtain ⟨b1, r1, c1, l1⟩ := w
  unfold mi
  dsimp only at hc hl ⊢
  rw [miB_mi]
  have e1 : C - 1 - (C - 1 - c1) = c1 := by omega
  have e2 : (4 - (4 - l1) % 4) % 4 = l1 := by omega
  rw [e1, e2]
theorem flip_mi {r c : Nat} (hb : Bd b R C) (hr : r < R) (hc : c < C) : miB (flipB b r c) = flipB (miB b) r (C - 1 - c) := by
  have hc' : C - 1 - c < C := by omega
  refine bd_ext (miB_bd (flipB_bd hb hr hc)) (flipB_bd (miB_bd hb) hr hc') fun i j hi hj => ?_
  rw [at_mi (flipB_bd hb hr hc) hi hj, at_flipG hb hr hc, at_flipG (miB_bd hb) hr hc', at_mi hb hr hc', at_mi hb hi hj]
  have e : C - 1 - (C - 1 - c) = c := by omega
  rw [e]
  by_cases q : i = r ∧ C - 1 - j = c
  · rw [if_pos q, if_pos ⟨q.1, by omega⟩]
  · rw [if_neg q, if_neg (fun z => q ⟨z.1, by omega⟩)]
theorem mv_mir {c : Nat} {d : Int} (hc : c < C) : C - 1 - mv C c d = mv C (C - 1 - c) (-d) := by
  have h1 := mv_int (R := C) (r := c) (d := d) (by omega)
  have h2 := mv_int (R := C) (r := C - 1 - c) (d := -d) (by omega)
  have lt := mv_lt (R := C) (r := c) (d := d) (by omega)
  have e0 : (((C - 1 - c : Nat) : Int)) = (C : Int) - 1 - c := by omega
  rw [e0] at h2
  have e1 := Int.emod_add_mul_ediv ((c : Int) + d) (C : Int)
  have e2 : (C : Int) - 1 - c + -d = ((C : Int) - 1 - ((c : Int) + d) % (C : Int)) + (C : Int) * (-(((c : Int) + d) / (C : Int))) := by
    rw [Int.mul_neg]
    omega
  rw [e2, Int.add_mul_emod_self_left, ← h1, Int.emod_eq_of_lt (by omega) (by omega)] at h2
  omega
theorem mi_look {l : Nat} (h : l < 4) : dnI ((4 - l) % 4) = dnI l ∧ rtI ((4 - l) % 4) = -rtI l := by
  match l, h with
  | 0, _ => decide
  | 1, _ => decide
  | 2, _ => decide
  | 3, _ => decide
theorem mi_trn (g : Gd w R C) : trn (os x) (os y) (mi C w).b (mi C w).r (mi C w).c = os (trn x y w.b w.r w.c) := by
  have hc := g.hc
  unfold trn mi
  dsimp only
  rw [at_mi g.bd g.hr (by omega)]
  have e : C - 1 - (C - 1 - w.c) = w.c := by omega
  rw [e]
  split <;> rfl
theorem mi_sym (hx : isTurn x) (hy : isTurn y) : Sym x y (os x) (os y) R C (mi C) := by
  refine ⟨fun g => mi_gd g, fun {w} g => ?_, fun {a b} ga gb h => ?_⟩
  · have t := mi_trn (x := x) (y := y) g
    have hq := os_qt (trn_turn (b := w.b) (r := w.r) (c := w.c) hx hy)
    have q1 := qt_lt (trn x y w.b w.r w.c)
    have q2 := qt_lt (os (trn x y w.b w.r w.c))
    have hl := g.hl
    have hl' : (w.l + qt (trn x y w.b w.r w.c)) % 4 < 4 := Nat.mod_lt _ (by decide)
    obtain ⟨d1, d2⟩ := mi_look hl'
    have el : ((4 - w.l) % 4 + qt (os (trn x y w.b w.r w.c))) % 4 = (4 - (w.l + qt (trn x y w.b w.r w.c)) % 4) % 4 := by omega
    unfold mi at t
    unfold mi stp
    dsimp only at t ⊢
    rw [t, el, d1, d2, flip_mi g.bd g.hr g.hc, mv_mir g.hc]
  · have e1 := mi_mi ga
    rw [h, mi_mi gb] at e1
    exact e1.symm
theorem mi_bk (hx : isTurn x) (hy : isTurn y) (g : Gd w R C) : bk (os x) (os y) R C (mi C w) = mi C (bk x y R C w) := by
  have s := (mi_sym (R := R) (C := C) hx hy).st (bk_gd (x := x) (y := y) g)
  rw [stp_bk g] at s
  rw [s, bk_stp (mi_gd (bk_gd g))]
theorem os_os {t : Nat} (h : isTurn t) : os (os t) = t := by
  rcases h with h | h | h | h <;> (subst h; rfl)
/-! ### the def -/
theorem rev_row {s : S} {r : Tx} {i : Nat} (h : s.get i = .val (.str r)) : ev (.rev (.var i)) s = .ok (.str r.reverse, s) := eRev (eVar h) rfl
theorem dB_mi (b : List Tx) : b1D .tuple (.lst (b.map fun r => .str r.reverse)) = .ok (dB (miB b)) := by
  show Res.ok (D.tup _) = _
  unfold dB miB
  rw [List.map_map]
  rfl
theorem mirrored_ok (g : Gd w R C) : f_mirrored [dW w] n k = .ok (dW (mi C w), n, k) := by
  have hc := g.hc
  have r1 := g.sz.r1
  refine runR (s := ⟨[.val (dW w), .val (dB w.b), .val (.int w.l), .val (.int w.r), .val (.int w.c), .un], n, k, false⟩) ?_
  refine qExpr (eCall (sCons (eVar rfl) sNil) (nstate_ok g.bd g.sz g.hr g.hc g.hl)) (vAsg (eVar rfl) rfl rfl (qRet ?_))
  refine eTup (sCons (eB1 (eLc' (iSeqE (eVar rfl) rfl) (lc_map0 D.str (fun r => .str r.reverse) (fun r => ⟨[.val (dW w), .val (dB w.b), .val (.int w.l), .val (.int w.r), .val (.int w.c), .val (.str r)], n, k, true⟩) w.b fun r hr => ⟨rfl, _, rev_row rfl, rfl, rfl⟩) rfl) (dB_mi w.b)) (sCons (eTup (sCons (eVar rfl) (sCons (x := .int ((C - 1 - w.c : Nat) : Int)) (eBin (eBin (eB1 (eIx (eVar rfl) eInt (ixB0 g.bd r1)) (lenT (g.bd.row0 r1))) eInt rfl) (eVar rfl) ?_) sNil)) (Nat.le_of_ble_eq_true rfl)) (sCons (x := .int (((4 - w.l) % 4 : Nat) : Int)) (eBin (eNeg (eVar rfl)) eInt ?_) sNil))) (Nat.le_of_ble_eq_true rfl)
  · show Res.ok (D.int ((C : Int) - 1 - w.c)) = _
    congr 2
    omega
  · have hl := g.hl
    rw [modS (by decide)]
    congr 2
    omega
theorem mi_noS {d : D} (h : NotS d) : f_mirrored [d] n k = .exc 2 n k := runX (qExprX (eCallX (sCons (eVar rfl) sNil) (h _ _)))
theorem mirule_no {d : D} (h : NotR d) : f_mirrored_rule [d] n k = .exc 1 n k := runX (qExprX (eCallX (sCons (eVar rfl) sNil) (h _ _)))
/-! ### visits -/
theorem range_rev (C : Nat) : (List.range C).map (fun c => C - 1 - c) = (List.range C).reverse := by
  refine List.ext_getElem (by simp) fun i h1 h2 => ?_
  simp at h1
  simp [List.getElem_reverse]
theorem prs_mi (C : Nat) : ∀ R, ((prs C R).map fun q => (q.1, C - 1 - q.2)).Perm (prs C R)
  | 0 => .refl _
  | R + 1 => by
    rw [prs, List.map_append]
    refine (prs_mi C R).append ?_
    rw [List.map_map]
    have e : (List.range C).map ((fun q : Nat × Nat => (q.1, C - 1 - q.2)) ∘ fun c => (R, c)) = ((List.range C).map fun c => C - 1 - c).map fun c => (R, c) := by
      rw [List.map_map]
      rfl
    rw [e, range_rev]
    exact (List.reverse_perm _).map _
theorem vis_mi {p : Nat} (hx : isTurn x) (hy : isTurn y) (g : Gd w R C) {q : Nat × Nat} (hq : q ∈ prs C R) : vsN (os x) (os y) R C (mi C w) p q = vsN x y R C w p (q.1, C - 1 - q.2) := by
  have sy := mi_sym (R := R) (C := C) hx hy
  obtain ⟨q1, q2⟩ := prs_mem hq
  unfold vsN cntN
  congr 1
  congr 1
  funext j
  have gj := itr_gd (x := x) (y := y) g j
  have hcj := gj.hc
  unfold cl
  rw [← sy.itr g]
  show decide ((((itr (stp x y R C) j w).r : Int), ((C - 1 - (itr (stp x y R C) j w).c : Nat) : Int)) = ((q.1 : Int), (q.2 : Int))) = decide ((((itr (stp x y R C) j w).r : Int), ((itr (stp x y R C) j w).c : Int)) = ((q.1 : Int), ((C - 1 - q.2 : Nat) : Int)))
  congr 1
  rw [Prod.mk.injEq, Prod.mk.injEq]
  apply propext
  constructor
  · rintro ⟨a, b⟩
    exact ⟨a, by omega⟩
  · rintro ⟨a, b⟩
    exact ⟨a, by omega⟩
theorem sort_mi {p : Nat} (hx : isTurn x) (hy : isTurn y) (g : Gd w R C) : ∃ l : List Int, b1D .sorted (.tup (visL (os x) (os y) R C (mi C w) p)) = .ok (.lst (l.map .int)) ∧ b1D .sorted (.tup (visL x y R C w p)) = .ok (.lst (l.map .int)) := by
  have key : ∀ f : Nat × Nat → Int, b1D .sorted (.tup ((prs C R).map fun q => .int (f q))) = .ok (.lst ((sortI ((prs C R).map f)).map .int)) := fun f => by
    show (match intsD ((prs C R).map fun q => D.int (f q)) with | some ns => Res.ok (D.lst ((sortI ns).map .int)) | none => .stuck) = _
    rw [ints_map f]
  refine ⟨_, key (fun q => ((vsN (os x) (os y) R C (mi C w) p q : Nat) : Int)), ?_⟩
  refine (key (fun q => ((vsN x y R C w p q : Nat) : Int))).trans ?_
  congr 3
  refine (sortI_eq ?_).symm
  have e : (prs C R).map (fun q => ((vsN (os x) (os y) R C (mi C w) p q : Nat) : Int)) = ((prs C R).map fun q => (q.1, C - 1 - q.2)).map fun q => ((vsN x y R C w p q : Nat) : Int) := by
    rw [List.map_map]
    refine List.map_congr_left fun q hq => ?_
    rw [vis_mi hx hy g hq]
    rfl
  rw [e]
  exact (prs_mi C R).map _
end
end Fw

set_option linter.all false
set_option autoImplicit false
set_option maxRecDepth 100000
/-! FwMath29: the rounds' counts as one list. -/
namespace Fw
section
variable {x y x' y' R C : Nat} {n k : Int}
/-! ### pairs in order -/
theorem leP_iff {a b : Int × Int} : leP a b = true ↔ (a.1 < b.1 ∨ (a.1 = b.1 ∧ a.2 ≤ b.2)) := by
  unfold leP ltP
  split
  · rename_i h
    simp
    omega
  · rename_i h
    simp
    omega
theorem leP_trans (a b c : Int × Int) (h1 : leP a b = true) (h2 : leP b c = true) : leP a c = true := by
  rw [leP_iff] at *
  omega
theorem leP_total (a b : Int × Int) : (leP a b || leP b a) = true := by
  rw [Bool.or_eq_true, leP_iff, leP_iff]
  omega
theorem leP_anti {a b : Int × Int} (h1 : leP a b = true) (h2 : leP b a = true) : a = b := by
  rw [leP_iff] at *
  exact Prod.ext (by omega) (by omega)
theorem sortP_pm (K : Cn) : (sortP K).Perm K := List.mergeSort_perm K _
theorem sortP_sd (K : Cn) : (sortP K).Pairwise fun a b => leP a b = true := List.pairwise_mergeSort leP_trans leP_total K
theorem sortP_uniq {K L : Cn} (p : K.Perm L) (h : L.Pairwise fun a b => leP a b = true) : sortP K = L := List.Perm.eq_of_pairwise (fun _ _ _ _ h1 h2 => leP_anti h1 h2) (sortP_sd K) h ((sortP_pm K).trans p)
theorem sortP_eq {K L : Cn} (p : K.Perm L) : sortP K = sortP L := sortP_uniq (p.trans (sortP_pm L).symm) (sortP_sd L)
theorem sum_pm {l m : List Int} (h : l.Perm m) : l.sum = m.sum := by
  induction h with
  | nil => rfl
  | cons a _ ih => simp [ih]
  | swap a b l => simp; omega
  | trans _ _ h1 h2 => exact h1.trans h2
theorem k_sum {K : Cn} : b1D .sum (.lst ((sortP K).map fun kv => .int (kv.1 * kv.2))) = .ok (.int (ctot K)) := by
  show (match intsD ((sortP K).map fun kv => D.int (kv.1 * kv.2)) with | some ns => Res.ok (D.int ns.sum) | none => .stuck) = _
  rw [ints_map (fun kv : Int × Int => kv.1 * kv.2)]
  show Res.ok (D.int ((sortP K).map fun kv => kv.1 * kv.2).sum) = _
  rw [sum_pm ((sortP_pm K).map _)]
  rfl
theorem cget_mem {K : Cn} (h : (K.map (·.1)).Nodup) {kv : Int × Int} (hk : kv ∈ K) : cget K kv.1 = kv.2 := by
  unfold cget
  rw [find_self h hk]
  rfl
theorem mem_cget {K : Cn} (h : (K.map (·.1)).Nodup) {p : Int} (hp : p ∈ K.map (·.1)) : (p, cget K p) ∈ K := by
  obtain ⟨kv, h1, h2⟩ := List.mem_map.mp hp
  have := cget_mem h h1
  rw [h2] at this
  rw [this, ← h2]
  exact h1
theorem nodup_of_map {α β : Type} {f : α → β} {l : List α} (h : (l.map f).Nodup) : l.Nodup := by
  rw [List.nodup_iff_pairwise_ne, List.pairwise_map] at h
  exact List.Pairwise.imp (fun hab e => hab (by rw [e])) h
/-- counts alike -/
theorem cn_pm {K L : Cn} (hK : (K.map (·.1)).Nodup) (hL : (L.map (·.1)).Nodup) (hm : ∀ p, p ∈ K.map (·.1) ↔ p ∈ L.map (·.1)) (hc : ∀ p ∈ K.map (·.1), cget K p = cget L p) : K.Perm L := by
  refine perm_of (nodup_of_map hK) (nodup_of_map hL) fun kv => ⟨fun h => ?_, fun h => ?_⟩
  · have hp : kv.1 ∈ K.map (·.1) := List.mem_map.mpr ⟨kv, h, rfl⟩
    have := mem_cget hL ((hm _).mp hp)
    rw [← hc _ hp, cget_mem hK h] at this
    exact this
  · have hp : kv.1 ∈ L.map (·.1) := List.mem_map.mpr ⟨kv, h, rfl⟩
    have := mem_cget hK ((hm _).mpr hp)
    rw [hc _ ((hm _).mpr hp), cget_mem hL h] at this
    exact this
/-! ### how many states have rounds of p -/
noncomputable def nrl (x y R C p : Nat) : Nat := ((sts R C).filter fun u => decide (rlN x y R C u = p)).length
theorem arF_ct (z : Sz R C) (p : Nat) : (p : Int) * cget (arF x y R C).2 p = (nrl x y R C p : Nat) := by
  rw [(arF_ok z).ct p]
  unfold nrl
  rw [((arF_pm z).filter _).length_eq]
theorem arF_key (z : Sz R C) {q : Int} : q ∈ (arF x y R C).2.map (·.1) ↔ ∃ u, Gd u R C ∧ q = ((rlN x y R C u : Nat) : Int) := by
  constructor
  · intro h
    obtain ⟨u, h1, h2⟩ := (arF_ok z).kp q h
    exact ⟨u, (arF_in z).mp h1, h2⟩
  · rintro ⟨u, g, rfl⟩
    exact (arF_ok z).ks u ((arF_in z).mpr g)
theorem arF_cg (z : Sz R C) {p : Nat} (p1 : 1 ≤ p) : cget (arF x y R C).2 p = ((nrl x y R C p : Nat) : Int) / (p : Nat) := by
  rw [← arF_ct z p, Int.mul_ediv_cancel_left _ (by omega)]
/-! ### changes that keep the walk -/
theorem Sym.rlN {f : Ws → Ws} (S : Sym x y x' y' R C f) {u : Ws} (g : Gd u R C) : Fw.rlN x' y' R C (f u) = Fw.rlN x y R C u := (rlN_ok (S.gd g)).uniq (S.rl g (rlN_ok g))
theorem Sym.nrl_le {f : Ws → Ws} (S : Sym x y x' y' R C f) (z : Sz R C) (p : Nat) : nrl x y R C p ≤ nrl x' y' R C p := by
  unfold nrl
  have h : (((sts R C).filter fun u => decide (Fw.rlN x y R C u = p)).map f).Nodup := nodup_map (fun a ha b hb e => S.inj ((sts_gd z).mp (List.mem_filter.mp ha).1) ((sts_gd z).mp (List.mem_filter.mp hb).1) e) ((stsL_nd (boards_nd C R)).filter _)
  have := nodup_le h (m := (sts R C).filter fun u => decide (Fw.rlN x' y' R C u = p)) (fun u hu => by
    obtain ⟨v, hv, rfl⟩ := List.mem_map.mp hu
    obtain ⟨h1, h2⟩ := List.mem_filter.mp hv
    have g := (sts_gd z).mp h1
    refine List.mem_filter.mpr ⟨(sts_gd z).mpr (S.gd g), ?_⟩
    rw [S.rlN g]
    exact h2)
  rw [List.length_map] at this
  exact this
theorem sym_ar {f f' : Ws → Ws} (S : Sym x y x' y' R C f) (S' : Sym x' y' x y R C f') (z : Sz R C) : sortP (arF x' y' R C).2 = sortP (arF x y R C).2 := by
  refine sortP_eq (cn_pm (arF_ok z).kn (arF_ok z).kn (fun p => ?_) (fun p hp => ?_))
  · rw [arF_key z, arF_key z]
    constructor
    · rintro ⟨u, g, rfl⟩
      exact ⟨f' u, S'.gd g, by rw [S'.rlN g]⟩
    · rintro ⟨u, g, rfl⟩
      exact ⟨f u, S.gd g, by rw [S.rlN g]⟩
  · obtain ⟨u, g, rfl⟩ := (arF_key z).mp hp
    have p1 := (rlN_ok (x := x') (y := y') g).p1
    rw [arF_cg z p1, arF_cg z p1, Nat.le_antisymm (S'.nrl_le z _) (S.nrl_le z _)]
theorem ar_mi (hx : isTurn x) (hy : isTurn y) (z : Sz R C) : sortP (arF (os x) (os y) R C).2 = sortP (arF x y R C).2 := by
  have S := mi_sym (R := R) (C := C) hx hy
  have S' := mi_sym (R := R) (C := C) (x := os x) (y := os y) (os_turn hx) (os_turn hy)
  rw [os_os hx, os_os hy] at S'
  exact sym_ar S S' z
theorem ar_ex (z : Sz R C) : sortP (arF y x R C).2 = sortP (arF x y R C).2 := sym_ar ex_sym ex_sym z
/-! ### the counts by states -/
noncomputable def cfold (x y R C : Nat) (A : List Ws) : Cn := A.foldl (fun K u => cinc K (rlN x y R C u : Nat)) []
theorem cfold_snoc (A : List Ws) (u : Ws) : cfold x y R C (A ++ [u]) = cinc (cfold x y R C A) (rlN x y R C u : Nat) := by
  unfold cfold
  rw [List.foldl_append]
  rfl
theorem cfold_ok (B : List Ws) : ((cfold x y R C B).map (·.1)).Nodup ∧ (∀ q : Int, q ∈ (cfold x y R C B).map (·.1) ↔ ∃ u ∈ B, q = ((rlN x y R C u : Nat) : Int)) ∧ (∀ p : Nat, cget (cfold x y R C B) p = ((B.filter fun u => decide (rlN x y R C u = p)).length : Nat)) := by
  have key : ∀ (L A : List Ws), B = A ++ L → (((cfold x y R C A).map (·.1)).Nodup ∧ (∀ q : Int, q ∈ (cfold x y R C A).map (·.1) ↔ ∃ u ∈ A, q = ((rlN x y R C u : Nat) : Int)) ∧ (∀ p : Nat, cget (cfold x y R C A) p = ((A.filter fun u => decide (rlN x y R C u = p)).length : Nat))) → (((cfold x y R C B).map (·.1)).Nodup ∧ (∀ q : Int, q ∈ (cfold x y R C B).map (·.1) ↔ ∃ u ∈ B, q = ((rlN x y R C u : Nat) : Int)) ∧ (∀ p : Nat, cget (cfold x y R C B) p = ((B.filter fun u => decide (rlN x y R C u = p)).length : Nat))) := by
    intro L
    induction L with
    | nil => intro A e h; rw [e, List.append_nil]; exact h
    | cons a L ih =>
      intro A e h
      refine ih (A ++ [a]) (by rw [e]; simp) ?_
      rw [cfold_snoc]
      refine ⟨cinc_nodup h.1, fun q => ?_, fun p => ?_⟩
      · rw [cinc_keys, h.2.1]
        constructor
        · rintro (z | ⟨u, h1, h2⟩)
          · exact ⟨a, by simp, z⟩
          · exact ⟨u, List.mem_append_left _ h1, h2⟩
        · rintro ⟨u, h1, h2⟩
          rcases List.mem_append.mp h1 with z | z
          · exact .inr ⟨u, z, h2⟩
          · rw [List.mem_singleton.mp z] at h2
            exact .inl h2
      · rw [cinc_get h.1, h.2.2 p, List.filter_append, List.length_append]
        by_cases e : rlN x y R C a = p
        · rw [if_pos (by rw [e]), List.filter_cons_of_pos (by simpa using e)]
          simp
        · rw [if_neg (by omega), List.filter_cons_of_neg (by simpa using e)]
          simp
  exact key B [] rfl ⟨.nil, fun q => ⟨(fun z => by cases z), (fun ⟨u, h, _⟩ => by cases h)⟩, fun p => rfl⟩
/-- what the law expects -/
theorem due_ok (z : Sz R C) {B : List Ws} (hB : B.Perm (sts R C)) : (sortI ((cfold x y R C B).map (·.1))).map (fun p => (p, cget (cfold x y R C B) p / p)) = sortP (arF x y R C).2 := by
  obtain ⟨h1, h2, h3⟩ := cfold_ok (x := x) (y := y) (R := R) (C := C) B
  have hc : ∀ p : Nat, cget (cfold x y R C B) p = (nrl x y R C p : Nat) := fun p => by
    rw [h3 p]
    unfold nrl
    rw [(hB.filter _).length_eq]
  have hk : ∀ q : Int, q ∈ (cfold x y R C B).map (·.1) ↔ q ∈ (arF x y R C).2.map (·.1) := fun q => by
    rw [h2, arF_key z]
    constructor
    · rintro ⟨u, hu, e⟩
      exact ⟨u, (sts_gd z).mp (hB.mem_iff.mp hu), e⟩
    · rintro ⟨u, hu, e⟩
      exact ⟨u, hB.mem_iff.mpr ((sts_gd z).mpr hu), e⟩
  symm
  refine sortP_uniq ?_ ?_
  · refine .trans ?_ ((sortI_pm _).map _).symm
    refine cn_pm (arF_ok z).kn ?_ ?_ ?_
    · rw [List.map_map]
      exact (List.map_id _).symm ▸ h1
    · intro p
      rw [List.map_map, ← hk]
      show _ ↔ p ∈ ((cfold x y R C B).map (·.1)).map id
      rw [List.map_id]
    · intro p hp
      have hp' := (hk p).mpr hp
      have nd : ((((cfold x y R C B).map (·.1)).map fun p => (p, cget (cfold x y R C B) p / p)).map (·.1)).Nodup := by
        rw [List.map_map]
        exact (List.map_id _).symm ▸ h1
      have := cget_mem nd (List.mem_map.mpr ⟨p, hp', rfl⟩)
      rw [show cget (((cfold x y R C B).map (·.1)).map fun p => (p, cget (cfold x y R C B) p / p)) p = cget (cfold x y R C B) p / p from this]
      obtain ⟨u, g, rfl⟩ := (arF_key z).mp hp
      rw [arF_cg z (rlN_ok g).p1, hc]
  · rw [List.pairwise_map]
    refine List.Pairwise.imp (fun {a b} h => ?_) (sortI_sd _)
    rw [leP_iff]
    rcases Int.lt_or_eq_of_le h with q | q
    · exact .inl q
    · exact .inr ⟨q, by rw [q]; exact Int.le_refl _⟩
end
end Fw

set_option linter.all false
set_option autoImplicit false
set_option maxRecDepth 100000
set_option maxHeartbeats 4000000
namespace Fw
/-- the law's loop: script dice rule board due made bad rows columns counts total cell look size many -/
def b_law : Ss := (.cons (.set 2 (.call 56 f_law_any_rule (.cons (.var 1) .nil)))
    (.cons (.asg (.tup (.cons (.nm 7) (.cons (.nm 8) .nil))) (.ix (.lst (.cons (.tup (.cons (.int 1) (.cons (.int 1) .nil))) (.cons (.tup (.cons (.int 1) (.cons (.int 2) .nil))) (.cons (.tup (.cons (.int 2) (.cons (.int 1) .nil))) (.cons (.tup (.cons (.int 1) (.cons (.int 3) .nil))) (.cons (.tup (.cons (.int 3) (.cons (.int 1) .nil))) (.cons (.tup (.cons (.int 2) (.cons (.int 2) .nil))) (.cons (.tup (.cons (.int 1) (.cons (.int 4) .nil))) .nil)))))))) (.call 55 f_law_roll (.cons (.var 1) (.cons (.int 7) .nil)))))
    (.cons (.nix 9 10 0)
    (.cons (.for_ (.nm 3) (.seq (.call 62 f_law_all_boards (.cons (.var 7) (.cons (.var 8) .nil)))) (.cons (.for_ (.nm 11) (.seq (.call 13 f_cells (.cons (.var 3) .nil))) (.cons (.for_ (.nm 12) (.rng (.int 4)) (.cons (.set 13 (.b1 .len (.call 61 f_law_round (.cons (.var 2) (.cons (.tup (.cons (.var 3) (.cons (.var 11) (.cons (.var 12) .nil)))) .nil)))))
    (.cons (.iputp 9 (.var 13) 10 (.bin .add (.iget 9 (.var 13) (.int 0)) (.int 1)) (.bin .add (.var 10) (.int 1)))
    .nil)))
    .nil))
    .nil))
    (.cons (.set 4 (.b1 .tuple (.lc (.nm 13) (.seq (.b1 .sorted (.ilist 9))) (.tup (.cons (.var 13) (.cons (.bin .fdiv (.iix 9 (.var 13)) (.var 13)) .nil))))))
    (.cons (.set 5 (.call 38 f_all_rounds (.cons (.var 2) (.cons (.var 7) (.cons (.var 8) .nil)))))
    (.cons (.iff (.or (.cons (.cmp .ne (.var 5) (.var 4)) (.cons (.cmp .ne (.b1 .sum (.lc (.tup (.cons (.nm 13) (.cons (.nm 14) .nil))) (.seq (.var 5)) (.bin .mul (.var 13) (.var 14)))) (.var 10)) .nil))) (.cons (.ret (.bl false))
    .nil) .nil)
    (.cons (.iff (.or (.cons (.not (.b1 .all (.lc (.tup (.cons (.nm 13) (.cons (.nm 14) .nil))) (.seq (.var 5)) (.cmp .eq (.bin .mod (.var 13) (.int 2)) (.int 0))))) (.cons (.cmp .ne (.call 38 f_all_rounds (.cons (.str [82, 76]) (.cons (.int 1) (.cons (.int 1) .nil)))) (.tup (.cons (.tup (.cons (.int 2) (.cons (.int 4) .nil))) .nil))) .nil))) (.cons (.ret (.bl false))
    .nil) .nil)
    (.cons (.iff (.cmp .ne (.call 38 f_all_rounds (.cons (.call 42 f_mirrored_rule (.cons (.var 2) .nil)) (.cons (.var 7) (.cons (.var 8) .nil)))) (.var 5)) (.cons (.ret (.bl false))
    .nil) .nil)
    (.cons (.iff (.cmp .ne (.call 38 f_all_rounds (.cons (.call 43 f_exchanged_rule (.cons (.var 2) .nil)) (.cons (.var 7) (.cons (.var 8) .nil)))) (.var 5)) (.cons (.ret (.bl false))
    .nil) .nil)
    (.cons (.iff (.cmp .ne (.told (.call 38 f_all_rounds (.cons (.var 2) (.cons (.int 3) (.cons (.int 3) .nil))))) (.tup (.cons (.str [101, 114, 114, 111, 114]) (.cons (.str [73, 110, 118, 97, 108, 105, 100, 83, 105, 122, 101]) .nil)))) (.cons (.ret (.bl false))
    .nil) .nil)
    (.cons (.iff (.cmp .ne (.told (.call 38 f_all_rounds (.cons (.var 2) (.cons (.int 2) (.cons (.int 4) .nil))))) (.tup (.cons (.str [101, 114, 114, 111, 114]) (.cons (.str [73, 110, 118, 97, 108, 105, 100, 83, 105, 122, 101]) .nil)))) (.cons (.ret (.bl false))
    .nil) .nil)
    (.cons (.iff (.cmp .ne (.b1 .sum (.lc (.tup (.cons (.nm 13) (.cons (.nm 14) .nil))) (.seq (.call 38 f_all_rounds (.cons (.var 2) (.cons (.int 2) (.cons (.int 3) .nil))))) (.bin .mul (.var 13) (.var 14)))) (.int 1536)) (.cons (.ret (.bl false))
    .nil) .nil)
    (.cons (.for_ (.nm 6) (.seq (.lst (.cons (.int 0) (.cons (.int 4) (.cons (.bl true) (.cons .non .nil)))))) (.cons (.iff (.cmp .ne (.told (.call 38 f_all_rounds (.cons (.var 2) (.cons (.var 6) (.cons (.int 1) .nil))))) (.tup (.cons (.str [101, 114, 114, 111, 114]) (.cons (.str [73, 110, 118, 97, 108, 105, 100, 83, 105, 122, 101]) .nil)))) (.cons (.ret (.bl false))
    .nil) .nil)
    .nil))
    (.cons (.for_ (.nm 6) (.seq (.lst (.cons (.int 0) (.cons (.int 5) (.cons (.bl true) (.cons .non (.cons (.str [49]) .nil))))))) (.cons (.iff (.cmp .ne (.told (.call 38 f_all_rounds (.cons (.var 2) (.cons (.int 1) (.cons (.var 6) .nil))))) (.tup (.cons (.str [101, 114, 114, 111, 114]) (.cons (.str [73, 110, 118, 97, 108, 105, 100, 83, 105, 122, 101]) .nil)))) (.cons (.ret (.bl false))
    .nil) .nil)
    .nil))
    (.cons (.iff (.cmp .ne (.told (.call 38 f_all_rounds (.cons .non (.cons (.int 1) (.cons (.int 1) .nil))))) (.tup (.cons (.str [101, 114, 114, 111, 114]) (.cons (.str [73, 110, 118, 97, 108, 105, 100, 82, 117, 108, 101]) .nil)))) (.cons (.ret (.bl false))
    .nil) .nil)
    .nil))))))))))))))))
section
variable {s s1 s2 : S} {a b d : E} {p : Ss} {r : RS} {x y z : D} {i j : Nat}
theorem vNix {m : Int} (hp : Nrm ((s.put i (.oi [])).put j (.val (.int m))) s2) (h : evSs p s2 = r) : evSs (.cons (.nix i j m) p) s = r := by
  show (RS.nx ((s.put i (.oi [])).put j (.val (.int m)))).then _ = _
  rw [hp]
  exact h
theorem eIlist {kvs : List (Int × D)} (h : s.get i = .oi kvs) : ev (.ilist i) s = .ok (.lst (kvs.map fun kv => .int kv.1), s) := by
  show (match s.get i with | .oi kvs => Res.ok (D.lst (kvs.map fun kv : Int × D => D.int kv.1), s) | _ => .stuck) = _
  rw [h]
theorem vIputp {kvs kvs' : List (Int × D)} {q : Int} {s3 s4 : S} {e f : E} (h : ev e s = .ok (z, s1)) (h' : ev f s1 = .ok (y, s2)) (h0 : s2.get i = .oi kvs') (h1 : ev a s2 = .ok (.int q, s3)) (h2 : s3.get i = .oi kvs) (hl : kvs.length < SL) (hp : Nrm ((s3.put i (.oi (iputL kvs q z))).put j (.val y)) s4) (hr : evSs p s4 = r) : evSs (.cons (.iputp i a j e f) p) s = r := by
  show ((ev e s).then _).then _ = _
  rw [h]
  show ((ev f s1).then _).then _ = _
  rw [h']
  show (match s2.get i with | .oi _ => (ev a s2).then _ | _ => RS.stuck).then _ = _
  rw [h0]
  show ((ev a s2).then _).then _ = _
  rw [h1]
  show (match s3.get i, D.int q with | .oi kvs, .int m => if kvs.length < SL then RS.nx ((s3.put i (.oi (iputL kvs m z))).put j (.val y)) else .stuck | _, _ => .stuck).then _ = _
  rw [h2]
  show (if kvs.length < SL then RS.nx ((s3.put i (.oi (iputL kvs q z))).put j (.val y)) else .stuck).then _ = _
  rw [if_pos hl, hp]
  exact hr
end
section
variable {x y R C : Nat} {n k : Int}
abbrev sKK (x y R C : Nat) (K : Cn) (N : Int) (u3 u11 u12 u13 : Sl) (n k : Int) : S := ⟨[.un, .val .dice, .val (.str [x, y]), u3, .un, .un, .un, .val (.int R), .val (.int C), .oi (cD K), .val (.int N), u11, u12, u13, .un], n, k, false⟩
noncomputable abbrev sK (x y R C : Nat) (A : List Ws) (u3 u11 u12 u13 : Sl) (n k : Int) : S := sKK x y R C (cfold x y R C A) (A.length : Nat) u3 u11 u12 u13 n k
abbrev kB : Ss := (.cons (.set 13 (.b1 .len (.call 61 f_law_round (.cons (.var 2) (.cons (.tup (.cons (.var 3) (.cons (.var 11) (.cons (.var 12) .nil)))) .nil)))))
    (.cons (.iputp 9 (.var 13) 10 (.bin .add (.iget 9 (.var 13) (.int 0)) (.int 1)) (.bin .add (.var 10) (.int 1)))
    .nil))
theorem cfold_len (A : List Ws) : (cfold x y R C A).length ≤ A.length := by
  obtain ⟨h1, h2, _⟩ := cfold_ok (x := x) (y := y) (R := R) (C := C) A
  have := nodup_le h1 (m := A.map fun u => ((rlN x y R C u : Nat) : Int)) (fun p hp => by
    obtain ⟨u, h3, h4⟩ := (h2 p).mp hp
    exact List.mem_map.mpr ⟨u, h3, h4.symm⟩)
  rw [List.length_map, List.length_map] at this
  exact this
theorem k_one' (hx : isTurn x) (hy : isTurn y) {K : Cn} {N : Int} {p : Nat} {b : List Tx} {q : Nat × Nat} {l : Nat} {u13 : Sl} (kl : K.length ≤ 100000) (g : Gd (wS b (q, l)) R C) (hp : Rl x y R C (wS b (q, l)) p) :
    evSs kB (sKK x y R C K N (.val (brdD b)) (.val (dC q.1 q.2)) (.val (.int (l : Nat))) u13 n k) = .nx (sKK x y R C (cinc K p) (N + 1) (.val (brdD b)) (.val (dC q.1 q.2)) (.val (.int (l : Nat))) (.val (.int (p : Nat))) n k) := by
  have eD : D.tup [brdD b, dC q.1 q.2, .int (l : Nat)] = dW (wS b (q, l)) := rfl
  have lr : f_law_round [.str [x, y], .tup [brdD b, dC q.1 q.2, .int (l : Nat)]] n k = .ok (.lst ((its x y R C (wS b (q, l)) p).map dW), n, k) := by
    rw [eD]
    exact lround_ok hx hy g hp
  have e0 : evs (.cons (.var 2) (.cons (.tup (.cons (.var 3) (.cons (.var 11) (.cons (.var 12) .nil)))) .nil)) (sKK x y R C K N (.val (brdD b)) (.val (dC q.1 q.2)) (.val (.int (l : Nat))) u13 n k) = .ok ([.str [x, y], .tup [brdD b, dC q.1 q.2, .int (l : Nat)]], sKK x y R C K N (.val (brdD b)) (.val (dC q.1 q.2)) (.val (.int (l : Nat))) u13 n k) := sCons (eVar rfl) (sCons (eTup (sCons (eVar rfl) (sCons (eVar rfl) (sCons (eVar rfl) sNil))) (show 3 ≤ SL by decide)) sNil)
  have e1 : ev (.call 61 f_law_round (.cons (.var 2) (.cons (.tup (.cons (.var 3) (.cons (.var 11) (.cons (.var 12) .nil)))) .nil))) (sKK x y R C K N (.val (brdD b)) (.val (dC q.1 q.2)) (.val (.int (l : Nat))) u13 n k) = .ok (.lst ((its x y R C (wS b (q, l)) p).map dW), sKK x y R C K N (.val (brdD b)) (.val (dC q.1 q.2)) (.val (.int (l : Nat))) u13 n k) := eCall e0 lr
  refine vSet (s2 := sKK x y R C K N (.val (brdD b)) (.val (dC q.1 q.2)) (.val (.int (l : Nat))) (.val (.int (p : Nat))) n k) (eB1 e1 (len_its _)) rfl ?_
  refine vIputp (q := (p : Nat)) (kvs' := cD K) (eBin (eIget (kvs' := cD K) rfl (eVar rfl) eInt rfl) eInt (by rw [cD_get]; rfl)) (eBin (eVar rfl) eInt rfl) rfl (eVar rfl) rfl (Nat.lt_of_le_of_lt (by rw [cD, List.length_map]; omega) (show 100000 < SL by decide)) ?_ qNil
  rw [cD_put]
  rfl
theorem k_one (hx : isTurn x) (hy : isTurn y) {A : List Ws} {b : List Tx} {q : Nat × Nat} {l : Nat} {u13 : Sl} (hA : A.length ≤ 100000) (g : Gd (wS b (q, l)) R C) :
    ∃ u13', evSs kB (sK x y R C A (.val (brdD b)) (.val (dC q.1 q.2)) (.val (.int (0 + (l : Nat)))) u13 n k) = .nx (sK x y R C (A ++ [wS b (q, l)]) (.val (brdD b)) (.val (dC q.1 q.2)) (.val (.int (0 + (l : Nat)))) u13' n k) := by
  have kl := cfold_len (x := x) (y := y) (R := R) (C := C) A
  refine ⟨.val (.int (rlN x y R C (wS b (q, l)) : Nat)), ?_⟩
  have e := k_one' (n := n) (k := k) (K := cfold x y R C A) (N := (A.length : Nat)) (u13 := u13) hx hy (by omega) g (rlN_ok (x := x) (y := y) g)
  rw [Int.zero_add]
  unfold sK
  rw [cfold_snoc, show ((A ++ [wS b (q, l)]).length : Int) = ((A.length : Nat) : Int) + 1 by simp]
  exact e
theorem k_look (hx : isTurn x) (hy : isTurn y) {b : List Tx} {q : Nat × Nat} : ∀ (ls : List Nat) (A : List Ws) (u12 u13 : Sl), (∀ u ∈ ls.map fun l => wS b (q, l), Gd u R C) → (A ++ ls.map fun l => wS b (q, l)).length ≤ 100000 → ∃ u12' u13',
    forL (stepF (.nm 12) kB) (ls.map fun i => .int (0 + (i : Nat))) (sK x y R C A (.val (brdD b)) (.val (dC q.1 q.2)) u12 u13 n k) = .nx (sK x y R C (A ++ ls.map fun l => wS b (q, l)) (.val (brdD b)) (.val (dC q.1 q.2)) u12' u13' n k)
  | [], A, u12, u13, _, _ => ⟨u12, u13, by rw [show (([] : List Nat).map fun l => wS b (q, l)) = [] from rfl, List.append_nil]; rfl⟩
  | l :: ls, A, u12, u13, hg, hn => by
    have e1 : (A ++ (l :: ls).map fun l => wS b (q, l)) = (A ++ [wS b (q, l)]) ++ ls.map fun l => wS b (q, l) := by simp
    obtain ⟨v13, o⟩ := k_one (n := n) (k := k) (u13 := u13) hx hy (A := A) (b := b) (q := q) (l := l) (by rw [List.length_append] at hn; omega) (hg _ List.mem_cons_self)
    rw [e1] at hn ⊢
    obtain ⟨v, v', e⟩ := k_look hx hy ls (A ++ [wS b (q, l)]) (.val (.int (0 + (l : Nat)))) v13 (fun u hu => hg u (List.mem_cons_of_mem _ hu)) hn
    exact ⟨v, v', fCons (s1 := sK x y R C A (.val (brdD b)) (.val (dC q.1 q.2)) (.val (.int (0 + (l : Nat)))) u13 n k) rfl rfl o e⟩
abbrev qsL (b : List Tx) (qs : List (Nat × Nat)) : List Ws := (qs.flatMap fun q => (List.range 4).map fun l => (q, l)).map (wS b)
theorem qsL_cons (b : List Tx) (q : Nat × Nat) (qs : List (Nat × Nat)) (A : List Ws) : A ++ qsL b (q :: qs) = (A ++ (List.range 4).map fun l => wS b (q, l)) ++ qsL b qs := by
  rw [qsL, List.flatMap_cons, List.map_append, List.map_map, List.append_assoc]
  rfl
theorem len_left {α : Type} {A B : List α} {m : Nat} (h : (A ++ B).length ≤ m) : A.length ≤ m := by rw [List.length_append] at h; omega
theorem k_cell (hx : isTurn x) (hy : isTurn y) {b : List Tx} : ∀ (qs : List (Nat × Nat)) (A : List Ws) (u11 u12 u13 : Sl), (∀ u ∈ A ++ qsL b qs, Gd u R C) → (A ++ qsL b qs).length ≤ 100000 → ∃ u11' u12' u13',
    forL (stepF (.nm 11) (.cons (.for_ (.nm 12) (.rng (.int 4)) kB) .nil)) (qs.map fun q => dC q.1 q.2) (sK x y R C A (.val (brdD b)) u11 u12 u13 n k) = .nx (sK x y R C (A ++ qsL b qs) (.val (brdD b)) u11' u12' u13' n k)
  | [], A, u11, u12, u13, _, _ => ⟨u11, u12, u13, by rw [show qsL b [] = [] from rfl, List.append_nil]; rfl⟩
  | q :: qs, A, u11, u12, u13, hg, hn => by
    rw [qsL_cons] at hg hn ⊢
    obtain ⟨v12, v13, o⟩ := k_look (n := n) (k := k) hx hy (b := b) (q := q) (List.range 4) A u12 u13 (fun u hu => hg u (List.mem_append_left _ (List.mem_append_right _ hu))) (len_left hn)
    obtain ⟨w11, w12, w13, e⟩ := k_cell hx hy qs (A ++ (List.range 4).map fun l => wS b (q, l)) (.val (dC q.1 q.2)) v12 v13 hg hn
    exact ⟨w11, w12, w13, fCons (s1 := sK x y R C A (.val (brdD b)) (.val (dC q.1 q.2)) u12 u13 n k) rfl rfl (vFor (iRng eInt (rng_ok (R := 4) (by decide))) o qNil) e⟩
theorem k_board (hx : isTurn x) (hy : isTurn y) (z : Sz R C) : ∀ (bs : List (List Tx)) (A : List Ws) (u3 u11 u12 u13 : Sl), (∀ b ∈ bs, Bd b R C) → (∀ u ∈ A ++ stsL R C bs, Gd u R C) → (A ++ stsL R C bs).length ≤ 100000 → ∃ u3' u11' u12' u13',
    forL (stepF (.nm 3) (.cons (.for_ (.nm 11) (.seq (.call 13 f_cells (.cons (.var 3) .nil))) (.cons (.for_ (.nm 12) (.rng (.int 4)) kB) .nil)) .nil)) (bs.map brdD) (sK x y R C A u3 u11 u12 u13 n k) = .nx (sK x y R C (A ++ stsL R C bs) u3' u11' u12' u13' n k)
  | [], A, u3, u11, u12, u13, _, _, _ => ⟨u3, u11, u12, u13, by rw [show stsL R C [] = [] from rfl, List.append_nil]; rfl⟩
  | b :: bs, A, u3, u11, u12, u13, hb, hg, hn => by
    rw [show A ++ stsL R C (b :: bs) = (A ++ qsL b (prs C R)) ++ stsL R C bs by rw [stsL, List.flatMap_cons, List.append_assoc]; rfl] at hg hn ⊢
    obtain ⟨v11, v12, v13, o⟩ := k_cell (n := n) (k := k) hx hy (b := b) (prs C R) A u11 u12 u13 (fun u hu => hg u (List.mem_append_left _ hu)) (len_left hn)
    obtain ⟨w3, w11, w12, w13, e⟩ := k_board hx hy z bs (A ++ qsL b (prs C R)) (.val (brdD b)) v11 v12 v13 (fun c hc => hb c (List.mem_cons_of_mem _ hc)) hg hn
    exact ⟨w3, w11, w12, w13, fCons (s1 := sK x y R C A (.val (brdD b)) u11 u12 u13 n k) rfl rfl (vFor (iSeqE (eCall (sCons (eVar rfl) sNil) (cells_ok (hb b List.mem_cons_self) z)) (by rw [celL_prs]; rfl)) o qNil) e⟩
/-! ### the pieces of the tail -/
theorem fits_prs : ∀ (K : Cn) (m : Nat), D.fits (m + 2) (K.map prD) = true
  | [], _ => by simp [D.fits]
  | a :: K, m => by simp [D.fits, D.fit, prD, fits_prs K m]
theorem fit_prs (K : Cn) : (D.tup (K.map prD)).fit 60 = true := fits_prs K 57
theorem all_true {α : Type} : ∀ l : List α, b1D .all (.lst (l.map fun _ => .bl true)) = .ok (.bl true) := fun l => by
  have h : bools (l.map fun _ => D.bl true) = some (l.map fun _ => true) := by
    induction l with
    | nil => rfl
    | cons a l ih =>
      show (bools (l.map fun _ => D.bl true)).map _ = _
      rw [ih]
      rfl
  show (match bools (l.map fun _ => D.bl true) with | some bs => Res.ok (D.bl (bs.all id)) | none => .stuck) = _
  rw [h]
  show Res.ok (D.bl ((l.map fun _ => true).all id)) = _
  rw [List.all_eq_true.mpr (fun b hb => by
    obtain ⟨_, _, rfl⟩ := List.mem_map.mp hb
    rfl)]
theorem arX {d e : D} (hx : isTurn x) (hy : isTurn y) (h : ∀ n k : Int, f_need_size [d, e] n k = .exc 6 n k) : f_all_rounds [.str [x, y], d, e] n k = .exc 6 n k :=
  runX (qExpr (eCall (sCons (eVar rfl) sNil) (nrule_ok hx hy)) (qExprX (eCallX (sCons (eVar rfl) (sCons (eVar rfl) sNil)) (h _ _))))
theorem arN {d e : D} : f_all_rounds [.non, d, e] n k = .exc 1 n k := runX (qExprX (eCallX (sCons (eVar rfl) sNil) nrule_non))
theorem ar11 : f_all_rounds [.str [82, 76], .int 1, .int 1] n k = .ok (.tup [.tup [.int 2, .int 4]], n, k) := by kernel_rfl
theorem k_size (v : Nat) (hv : v < 7) : ∃ R C : Nat, Sz R C ∧ R * C ≤ 4 ∧ ∀ s : S, ixS s (.lst [.tup [.int 1, .int 1], .tup [.int 1, .int 2], .tup [.int 2, .int 1], .tup [.int 1, .int 3], .tup [.int 3, .int 1], .tup [.int 2, .int 2], .tup [.int 1, .int 4]]) (.int (v : Nat)) = .ok (.tup [.int (R : Nat), .int (C : Nat)]) := by
  match v, hv with
  | 0, _ => exact ⟨1, 1, ⟨by decide, by decide, by decide, by decide, by decide⟩, by decide, fun _ => rfl⟩
  | 1, _ => exact ⟨1, 2, ⟨by decide, by decide, by decide, by decide, by decide⟩, by decide, fun _ => rfl⟩
  | 2, _ => exact ⟨2, 1, ⟨by decide, by decide, by decide, by decide, by decide⟩, by decide, fun _ => rfl⟩
  | 3, _ => exact ⟨1, 3, ⟨by decide, by decide, by decide, by decide, by decide⟩, by decide, fun _ => rfl⟩
  | 4, _ => exact ⟨3, 1, ⟨by decide, by decide, by decide, by decide, by decide⟩, by decide, fun _ => rfl⟩
  | 5, _ => exact ⟨2, 2, ⟨by decide, by decide, by decide, by decide, by decide⟩, by decide, fun _ => rfl⟩
  | 6, _ => exact ⟨1, 4, ⟨by decide, by decide, by decide, by decide, by decide⟩, by decide, fun _ => rfl⟩
abbrev sN (x y R C : Nat) (u9 : Sl) (N : Int) (T : D) (u5 u3 u6 u11 u12 u13 : Sl) (n k : Int) : S := ⟨[.un, .val .dice, .val (.str [x, y]), u3, .val T, u5, u6, .val (.int R), .val (.int C), u9, .val (.int N), u11, u12, u13, .un], n, k, false⟩
theorem k_due {K : Cn} {N : Int} {P : Cn} {u3 u11 u12 u13 : Sl} (hP : (sortI (K.map (·.1))).map (fun p => (p, cget K p / p)) = P) (kn : (K.map (·.1)).Nodup) (hb : ∀ p ∈ K.map (·.1), 0 < p ∧ p ≤ 100000) :
    ev (.b1 .tuple (.lc (.nm 13) (.seq (.b1 .sorted (.ilist 9))) (.tup (.cons (.var 13) (.cons (.bin .fdiv (.iix 9 (.var 13)) (.var 13)) .nil))))) (sKK x y R C K N u3 u11 u12 u13 n k) = .ok (.tup (P.map prD), sKK x y R C K N u3 u11 u12 u13 n k) := by
  have il : (cD K).map (fun kv => D.int kv.1) = K.map (fun kv : Int × Int => D.int kv.1) := by rw [cD, List.map_map]; rfl
  have so : b1D .sorted (.lst ((cD K).map fun kv => D.int kv.1)) = .ok (.lst ((sortI (K.map (·.1))).map .int)) := by
    show (match intsD ((cD K).map fun kv => D.int kv.1) with | some ns => Res.ok (D.lst ((sortI ns).map .int)) | none => _) = _
    rw [il, ints_map (fun kv : Int × Int => kv.1)]
  have lc := lc_map0 (tg := .nm 13) (f := ev (.tup (.cons (.var 13) (.cons (.bin .fdiv (.iix 9 (.var 13)) (.var 13)) .nil)))) (b := sKK x y R C K N u3 u11 u12 u13 n k) (n := n) (k := k) D.int (fun p => prD (p, cget K p / p)) (fun p => ⟨[.un, .val .dice, .val (.str [x, y]), u3, .un, .un, .un, .val (.int R), .val (.int C), .oi (cD K), .val (.int N), u11, u12, .val (.int p), .un], n, k, true⟩) (sortI (K.map (·.1))) (fun p hp => by
    have hp' := (sortI_pm _).mem_iff.mp hp
    have h1 := hb p hp'
    have ff : ifind (cD K) p = some (.int (cget K p)) := by
      rw [cD_find, find_self kn (mem_cget kn hp')]
      rfl
    have fd : binD .fdiv (.int (cget K p)) (.int p) = .ok (.int (cget K p / p)) := by
      show (if 0 < p ∧ p.natAbs < 2 ^ 400 then Res.ok (D.int (cget K p / p)) else .stuck) = _
      rw [if_pos ⟨h1.1, Nat.lt_of_le_of_lt (show p.natAbs ≤ 100000 by omega) (by decide)⟩]
    refine ⟨rfl, ⟨[.un, .val .dice, .val (.str [x, y]), u3, .un, .un, .un, .val (.int R), .val (.int C), .oi (cD K), .val (.int N), u11, u12, .val (.int p), .un], n, k, true⟩, ?_, rfl, rfl⟩
    refine eTup (sCons (eVar rfl) (sCons (eBin ?_ (eVar rfl) fd) sNil)) (show 2 ≤ SL by decide)
    exact eIix (i := 9) (a := .var 13) rfl (eVar rfl) rfl ff)
  have e2 : (sortI (K.map (·.1))).map (fun p => prD (p, cget K p / p)) = P.map prD := by rw [← hP, List.map_map]; rfl
  rw [e2] at lc
  exact eB1 (eLc' (iSeqE (eB1 (eIlist rfl) so) rfl) lc rfl) rfl
abbrev iszD : E := .tup (.cons (.str [101, 114, 114, 111, 114]) (.cons (.str [73, 110, 118, 97, 108, 105, 100, 83, 105, 122, 101]) .nil))
theorem k_bad1 {u9 u3 u5 u11 u12 u13 : Sl} {N : Int} {T : D} (hx : isTurn x) (hy : isTurn y) : ∀ (ds : List D) (u6 : Sl), (∀ d ∈ ds, NotW d 1 3) → ∃ u6', forL (stepF (.nm 6) (.cons (.iff (.cmp .ne (.told (.call 38 f_all_rounds (.cons (.var 2) (.cons (.var 6) (.cons (.int 1) .nil))))) iszD) (.cons (.ret (.bl false)) .nil) .nil) .nil)) ds (sN x y R C u9 N T u5 u3 u6 u11 u12 u13 n k) = .nx (sN x y R C u9 N T u5 u3 u6' u11 u12 u13 n k)
  | [], u6, _ => ⟨u6, rfl⟩
  | d :: ds, u6, h => by
    obtain ⟨v, e⟩ := k_bad1 hx hy ds (.val d) (fun c hc => h c (List.mem_cons_of_mem _ hc))
    refine ⟨v, fCons (s1 := sN x y R C u9 N T u5 u3 (.val d) u11 u12 u13 n k) rfl rfl ?_ e⟩
    have ax := arX (n := n) (k := k) (d := d) (e := .int 1) hx hy (fun _ _ => nsize_x1 (h d List.mem_cons_self))
    exact vIfF (eCmp (eToldX' (c := 6) (s2 := sN x y R C u9 N T u5 u3 (.val d) u11 u12 u13 n k) (eCallX (sCons (eVar rfl) (sCons (eVar rfl) (sCons eInt sNil))) ax) rfl) (eTup (sCons eStr (sCons eStr sNil)) (show 2 ≤ SL by decide)) (ne_refl rfl)) qNil
theorem k_bad2 {u9 u3 u5 u11 u12 u13 : Sl} {N : Int} {T : D} (hx : isTurn x) (hy : isTurn y) : ∀ (ds : List D) (u6 : Sl), (∀ d ∈ ds, NotW d 1 4) → ∃ u6', forL (stepF (.nm 6) (.cons (.iff (.cmp .ne (.told (.call 38 f_all_rounds (.cons (.var 2) (.cons (.int 1) (.cons (.var 6) .nil))))) iszD) (.cons (.ret (.bl false)) .nil) .nil) .nil)) ds (sN x y R C u9 N T u5 u3 u6 u11 u12 u13 n k) = .nx (sN x y R C u9 N T u5 u3 u6' u11 u12 u13 n k)
  | [], u6, _ => ⟨u6, rfl⟩
  | d :: ds, u6, h => by
    obtain ⟨v, e⟩ := k_bad2 hx hy ds (.val d) (fun c hc => h c (List.mem_cons_of_mem _ hc))
    refine ⟨v, fCons (s1 := sN x y R C u9 N T u5 u3 (.val d) u11 u12 u13 n k) rfl rfl ?_ e⟩
    have ax := arX (n := n) (k := k) (d := .int 1) (e := d) hx hy (fun _ _ => nsize_x2 (by decide) (by decide) (h d List.mem_cons_self))
    exact vIfF (eCmp (eToldX' (c := 6) (s2 := sN x y R C u9 N T u5 u3 (.val d) u11 u12 u13 n k) (eCallX (sCons (eVar rfl) (sCons eInt (sCons (eVar rfl) sNil))) ax) rfl) (eTup (sCons eStr (sCons eStr sNil)) (show 2 ≤ SL by decide)) (ne_refl rfl)) qNil
theorem plain : ∀ n : Int, ∃ s', evSs b_law ⟨.un :: .val .dice :: List.replicate (15 - 2) .un, n, 0, false⟩ = .nx s' ∧ s'.env.length = 15 := by
  intro n
  obtain ⟨x, y, n1, k1, hx, hy, e1⟩ := anyrule_ok (n := n) (k := 0)
  obtain ⟨v, n2, k2, hv, e2⟩ := roll_l (n := n1) (k := k1) (m := 7) (i := 7) rfl (by decide) (by decide)
  obtain ⟨R, C, z, hz, ixz⟩ := k_size v hv
  have pA : (stsL R C (sortB (boards C R))).Perm (sts R C) := List.Perm.flatMap_right _ (sortB_pm _)
  have mA : ∀ u ∈ stsL R C (sortB (boards C R)), Gd u R C := fun u hu => (sts_gd z).mp (pA.mem_iff.mp hu)
  have lA : (stsL R C (sortB (boards C R))).length = 2 ^ (R * C) * (R * C * 4) := by rw [stsL_len, (sortB_pm _).length_eq, boards_len]
  have m4 : 2 ^ (R * C) ≤ 2 ^ 4 := Nat.pow_le_pow_right (by decide) hz
  have a2 : (stsL R C (sortB (boards C R))).length ≤ 100000 := by rw [lA]; exact Nat.le_trans (Nat.mul_le_mul m4 (show R * C * 4 ≤ 16 by omega)) (by decide)
  obtain ⟨u3, u11, u12, u13, lo⟩ := k_board (n := n2) (k := k2) hx hy z (sortB (boards C R)) [] .un .un .un .un (fun b hb => boards_bd.mp ((sortB_pm _).mem_iff.mp hb)) mA a2
  rw [List.nil_append] at lo
  have ri := arF_ok (x := x) (y := y) z
  have rM : (arF x y R C).1.length = 2 ^ (R * C) * (R * C * 4) := by rw [(arF_pm z).length_eq, stsL_len, boards_len]
  have tot := ri.tot
  rw [rM, ← lA] at tot
  have ab : ∀ n k : Int, f_law_all_boards [.int R, .int C] n k = .ok (.lst ((sortB (boards C R)).map brdD), n, k) := fun n k => aboards_ok z (by omega)
  have kb : ∀ kv ∈ (arF x y R C).2, (0 : Int) ≤ kv.1 ∧ kv.1 ≤ 18432 ∧ kv.1 % 2 = 0 := fun kv hkv => by
    obtain ⟨u', h1, h2⟩ := ri.kp _ (List.mem_map.mpr ⟨kv, hkv, rfl⟩)
    have gu := (arF_in z).mp h1
    have h3 := (rlN_ok (x := x) (y := y) gu).p9
    have h4 := (rlN_ok (x := x) (y := y) gu).even gu
    rw [h2]
    omega
  have ar : ∀ n k : Int, f_all_rounds [.str [x, y], .int R, .int C] n k = .ok (.tup ((sortP (arF x y R C).2).map prD), n, k) := fun n k => allR_ok hx hy z (by omega)
  have am : ∀ n k : Int, f_all_rounds [.str [os x, os y], .int R, .int C] n k = .ok (.tup ((sortP (arF x y R C).2).map prD), n, k) := fun n k => by
    rw [← ar_mi hx hy z]
    exact allR_ok (os_turn hx) (os_turn hy) z (by omega)
  have ae : ∀ n k : Int, f_all_rounds [.str [y, x], .int R, .int C] n k = .ok (.tup ((sortP (arF x y R C).2).map prD), n, k) := fun n k => by
    rw [← ar_ex z]
    exact allR_ok hy hx z (by omega)
  have du := due_ok (x := x) (y := y) z pA
  obtain ⟨fn, fk, _⟩ := cfold_ok (x := x) (y := y) (R := R) (C := C) (stsL R C (sortB (boards C R)))
  have fb : ∀ p ∈ (cfold x y R C (stsL R C (sortB (boards C R)))).map (·.1), (0 : Int) < p ∧ p ≤ 100000 := fun p hp => by
    obtain ⟨u, hu, e⟩ := (fk p).mp hp
    have h1 := (rlN_ok (x := x) (y := y) (mA u hu)).p1
    have h3 := (rlN_ok (x := x) (y := y) (mA u hu)).p9
    rw [e]
    omega
  unfold sK at lo
  have z23 : Sz 2 3 := ⟨by decide, by decide, by decide, by decide, by decide⟩
  have a23 : ∀ n k : Int, f_all_rounds [.str [x, y], .int 2, .int 3] n k = .ok (.tup ((sortP (arF x y 2 3).2).map prD), n, k) := fun n k => allR_ok hx hy z23 (by decide)
  have t23 : ctot (arF x y 2 3).2 = 1536 := by
    rw [(arF_ok z23).tot, (arF_pm z23).length_eq, stsL_len, boards_len]
    rfl
  have kb23 : ∀ kv ∈ (arF x y 2 3).2, (0 : Int) ≤ kv.1 ∧ kv.1 ≤ 18432 := fun kv hkv => by
    obtain ⟨u', h1, h2⟩ := (arF_ok z23).kp _ (List.mem_map.mpr ⟨kv, hkv, rfl⟩)
    have h3 := (rlN_ok (x := x) (y := y) ((arF_in z23).mp h1)).p9
    rw [h2]
    omega
  generalize (arF x y 2 3).2 = K3 at a23 t23 kb23
  generalize (arF x y R C).2 = K at tot kb ar am ae du
  generalize cfold x y R C (stsL R C (sortB (boards C R))) = K2 at du fn fb lo
  generalize ((stsL R C (sortB (boards C R))).length : Int) = N at tot lo
  have kd := k_due (x := x) (y := y) (R := R) (C := C) (n := n2) (k := k2) (N := N) (u3 := u3) (u11 := u11) (u12 := u12) (u13 := u13) du fn fb
  have fit := fit_prs (sortP K)
  have x33 := fun n k : Int => arX (n := n) (k := k) (d := .int 3) (e := .int 3) hx hy (fun _ _ => nsize_x3 (by decide) (by decide) (by decide) (by decide) (by decide))
  have x24 := fun n k : Int => arX (n := n) (k := k) (d := .int 2) (e := .int 4) hx hy (fun _ _ => nsize_x3 (by decide) (by decide) (by decide) (by decide) (by decide))
  obtain ⟨v6, b1⟩ := k_bad1 (x := x) (y := y) (R := R) (C := C) (n := n2) (k := k2) (u9 := .oi (cD K2)) (N := N) (T := .tup ((sortP K).map prD)) (u5 := .val (.tup ((sortP K).map prD))) (u3 := u3) (u11 := u11) (u12 := u12) (u13 := u13) hx hy [.int 0, .int 4, .bl true, .non] .un (fun d hd => by
    simp only [List.mem_cons, List.not_mem_nil, or_false] at hd
    rcases hd with h | h | h | h <;> subst h <;> intro n k
    · exact whole_out (.inl (by decide))
    · exact whole_out (.inr (by decide))
    · exact whole_bl _ _ _
    · exact whole_no _ _ rfl)
  obtain ⟨w6, b2⟩ := k_bad2 (x := x) (y := y) (R := R) (C := C) (n := n2) (k := k2) (u9 := .oi (cD K2)) (N := N) (T := .tup ((sortP K).map prD)) (u5 := .val (.tup ((sortP K).map prD))) (u3 := u3) (u11 := u11) (u12 := u12) (u13 := u13) hx hy [.int 0, .int 5, .bl true, .non, .str [49]] v6 (fun d hd => by
    simp only [List.mem_cons, List.not_mem_nil, or_false] at hd
    rcases hd with h | h | h | h | h <;> subst h <;> intro n k
    · exact whole_out (.inl (by decide))
    · exact whole_out (.inr (by decide))
    · exact whole_bl _ _ _
    · exact whole_no _ _ rfl
    · exact whole_no _ _ rfl)
  generalize hT : D.tup ((sortP K).map prD) = T at kd fit b1 b2 ar am ae
  have itT : itD T = .ok ((sortP K).map prD) := by rw [← hT]; rfl
  refine ⟨sN x y R C (.oi (cD K2)) N T (.val T) u3 w6 u11 u12 u13 n2 k2, (?_ : evSs b_law ⟨[.un, .val .dice, .un, .un, .un, .un, .un, .un, .un, .un, .un, .un, .un, .un, .un], n, 0, false⟩ = _), rfl⟩
  unfold b_law
  refine vSet (s2 := ⟨[.un, .val .dice, .val (.str [x, y]), .un, .un, .un, .un, .un, .un, .un, .un, .un, .un, .un, .un], n1, k1, false⟩) (eCall' (sCons (eVar rfl) sNil) e1 rfl) rfl ?_
  refine vAsg (s2 := ⟨[.un, .val .dice, .val (.str [x, y]), .un, .un, .un, .un, .val (.int R), .val (.int C), .un, .un, .un, .un, .un, .un], n2, k2, false⟩) (eIx (x := .lst [.tup [.int 1, .int 1], .tup [.int 1, .int 2], .tup [.int 2, .int 1], .tup [.int 1, .int 3], .tup [.int 3, .int 1], .tup [.int 2, .int 2], .tup [.int 1, .int 4]]) (s1 := ⟨[.un, .val .dice, .val (.str [x, y]), .un, .un, .un, .un, .un, .un, .un, .un, .un, .un, .un, .un], n1, k1, false⟩) rfl (eCall' (s2 := ⟨[.un, .val .dice, .val (.str [x, y]), .un, .un, .un, .un, .un, .un, .un, .un, .un, .un, .un, .un], n2, k2, false⟩) (sCons (eVar rfl) (sCons eInt sNil)) e2 rfl) (ixz _)) rfl rfl ?_
  refine vNix (s2 := sKK x y R C [] 0 .un .un .un .un n2 k2) rfl ?_
  refine vFor (iSeqE (eCall (sCons (eVar rfl) (sCons (eVar rfl) sNil)) (ab _ _)) rfl) lo ?_
  refine vSet (s2 := sN x y R C (.oi (cD K2)) N T .un u3 .un u11 u12 u13 n2 k2) kd rfl ?_
  refine vSet (s2 := sN x y R C (.oi (cD K2)) N T (.val T) u3 .un u11 u12 u13 n2 k2) (eCall (sCons (eVar rfl) (sCons (eVar rfl) (sCons (eVar rfl) sNil))) (ar _ _)) rfl ?_
  refine vIfF (eOr (vOrF (eCmp (eVar rfl) (eVar rfl) (ne_refl fit)) (oEnd (eCmp (eB1 (eLc' (s2 := sN x y R C (.oi (cD K2)) N T (.val T) u3 .un u11 u12 u13 n2 k2) (iSeqE (eVar rfl) itT) (lc_map0 prD (fun kv => .int (kv.1 * kv.2)) (fun kv => ⟨[.un, .val .dice, .val (.str [x, y]), u3, .val T, .val T, .un, .val (.int R), .val (.int C), .oi (cD K2), .val (.int N), u11, u12, .val (.int kv.1), .val (.int kv.2)], n2, k2, true⟩) (sortP K) fun kv hkv => ?_) rfl) k_sum) (eVar rfl) (ne_ints tot))))) ?_
  · have hb := kb kv ((sortP_pm K).mem_iff.mp hkv)
    exact ⟨rfl, _, eBin (eVar rfl) (eVar rfl) (mulS (by omega) (by omega)), rfl, rfl⟩
  refine vIfF (eOr (vOrF (vNot (t := true) (eB1 (eLc' (s2 := sN x y R C (.oi (cD K2)) N T (.val T) u3 .un u11 u12 u13 n2 k2) (iSeqE (eVar rfl) itT) (lc_map0 prD (fun kv => .bl true) (fun kv => ⟨[.un, .val .dice, .val (.str [x, y]), u3, .val T, .val T, .un, .val (.int R), .val (.int C), .oi (cD K2), .val (.int N), u11, u12, .val (.int kv.1), .val (.int kv.2)], n2, k2, true⟩) (sortP K) fun kv hkv => ?_) rfl) (all_true _))) (oEnd (eCmp (eCall (sCons eStr (sCons eInt (sCons eInt sNil))) ar11) (eTup (sCons (eTup (sCons eInt (sCons eInt sNil)) (show 2 ≤ SL by decide)) sNil) (show 1 ≤ SL by decide)) (ne_refl rfl))))) ?_
  · have hb := kb kv ((sortP_pm K).mem_iff.mp hkv)
    have md : binD .mod (.int kv.1) (.int 2) = .ok (.int 0) := by rw [modS (by decide), hb.2.2]
    exact ⟨rfl, _, eCmp (eBin (eVar rfl) eInt md) eInt (int_eq (i := 0) (j := 0)), rfl, rfl⟩
  refine vIfF (eCmp (eCall (sCons (eCall (sCons (eVar rfl) sNil) (mirule_ok hx hy)) (sCons (eVar rfl) (sCons (eVar rfl) sNil))) (am _ _)) (eVar rfl) (ne_refl fit)) ?_
  refine vIfF (eCmp (eCall (sCons (eCall (sCons (eVar rfl) sNil) (exrule_ok hx hy)) (sCons (eVar rfl) (sCons (eVar rfl) sNil))) (ae _ _)) (eVar rfl) (ne_refl fit)) ?_
  refine vIfF (eCmp (eToldX' (c := 6) (s2 := sN x y R C (.oi (cD K2)) N T (.val T) u3 .un u11 u12 u13 n2 k2) (eCallX (sCons (eVar rfl) (sCons eInt (sCons eInt sNil))) (x33 _ _)) rfl) (eTup (sCons eStr (sCons eStr sNil)) (show 2 ≤ SL by decide)) (ne_refl rfl)) ?_
  refine vIfF (eCmp (eToldX' (c := 6) (s2 := sN x y R C (.oi (cD K2)) N T (.val T) u3 .un u11 u12 u13 n2 k2) (eCallX (sCons (eVar rfl) (sCons eInt (sCons eInt sNil))) (x24 _ _)) rfl) (eTup (sCons eStr (sCons eStr sNil)) (show 2 ≤ SL by decide)) (ne_refl rfl)) ?_
  refine vIfF (eCmp (eB1 (eLc' (s2 := sN x y R C (.oi (cD K2)) N T (.val T) u3 .un u11 u12 u13 n2 k2) (iSeqE (eCall (sCons (eVar rfl) (sCons eInt (sCons eInt sNil))) (a23 _ _)) rfl) (lc_map0 prD (fun kv => .int (kv.1 * kv.2)) (fun kv => ⟨[.un, .val .dice, .val (.str [x, y]), u3, .val T, .val T, .un, .val (.int R), .val (.int C), .oi (cD K2), .val (.int N), u11, u12, .val (.int kv.1), .val (.int kv.2)], n2, k2, true⟩) (sortP K3) fun kv hkv => ?_) rfl) k_sum) eInt (ne_ints t23)) ?_
  · have hb := kb23 kv ((sortP_pm K3).mem_iff.mp hkv)
    exact ⟨rfl, _, eBin (eVar rfl) (eVar rfl) (mulS (by omega) (by omega)), rfl, rfl⟩
  refine vFor (iSeqE (eLst (sCons eInt (sCons eInt (sCons eBl (sCons eNon sNil)))) (show 4 ≤ SL by decide)) rfl) b1 ?_
  refine vFor (iSeqE (eLst (sCons eInt (sCons eInt (sCons eBl (sCons eNon (sCons eStr sNil))))) (show 5 ≤ SL by decide)) rfl) b2 ?_
  exact vIfF (eCmp (eToldX' (c := 1) (s2 := sN x y R C (.oi (cD K2)) N T (.val T) u3 w6 u11 u12 u13 n2 k2) (eCallX (sCons eNon (sCons eInt (sCons eInt sNil))) arN) rfl) (eTup (sCons eStr (sCons eStr sNil)) (show 2 ≤ SL by decide)) (ne_refl rfl)) qNil
end
end Fw

set_option maxRecDepth 100000
set_option linter.all false
set_option Elab.async false
set_option maxHeartbeats 0
namespace Fw
open PySem PySem.Spec PyProof.Rows L2
def top (i : Nat) : Stmt := PySem.Challenge.pw_flipwalks_k08_whole_all_rounds.main.body.getD i (.Pass ⟨0, 0, 0, 0⟩)
def dd (i : Nat) (x : Str) : He.DefD := ⟨(x, none), x, x, defArgs (top i), defBody (top i), defScope (top i), [], []⟩
def fn0 : List He.DefD := [dd 14 "is_whole", dd 15 "is_row", dd 16 "is_board", dd 17 "is_rule", dd 18 "need_board", dd 19 "need_rule", dd 20 "cells_of", dd 21 "cells", dd 22 "next_cell", dd 23 "flipped", dd 24 "is_black", dd 27 "turn_at", dd 28 "stepped", dd 29 "round_from", dd 31 "all_boards", dd 32 "all_states", dd 33 "need_size", dd 34 "all_rounds", dd 37 "mirrored_rule", dd 38 "exchanged_rule"]
def fn1 : List He.DefD := [dd 41 "_law_drawn", dd 42 "_law_roll", dd 46 "_law_any_rule", dd 47 "_law_step", dd 48 "_law_round", dd 49 "_law_all_boards", dd 40 "_law_cell", dd 43 "_law_rounds", dd 50 "law", dd 44 "_law_term", dd 45 "_law_told"]
def fnL : List He.DefD := fn0 ++ fn1
def gl0 : List Str := ["is_whole", "is_row", "is_board", "is_rule", "need_board", "need_rule", "cells_of", "cells", "next_cell", "flipped", "is_black", "turn_at", "stepped", "round_from", "all_boards", "all_states", "need_size", "all_rounds", "mirrored_rule", "exchanged_rule", "_law_drawn", "_law_roll", "_law_any_rule", "_law_step", "_law_round", "_law_all_boards", "_law_cell", "_law_rounds", "law", "_law_term"]
def gl1 : List Str := ["_law_told", "InvalidBoard", "InvalidRule", "InvalidState", "InvalidCell", "InvalidLook", "InvalidTicks", "InvalidSize", "InvalidNumber", "InvalidTurns", "InvalidText", "NothingToUndo", "WalkError", "QUARTERS", "OTHER_SIDE"]
def glL : List Str := gl0 ++ gl1
def exL : List Str := ["InvalidBoard", "InvalidRule", "InvalidState", "InvalidCell", "InvalidLook", "InvalidTicks", "InvalidSize", "InvalidNumber", "InvalidTurns", "InvalidText", "NothingToUndo"]
def faL : List He.Fa := faOf glL frN exL
def tsL : List He.Tab := [(fun K => He.ga K "QUARTERS", ["R", "L", "F", "B"]), (fun K => He.ga K "OTHER_SIDE", ["R", "L", "F", "B"])]
def tfL : List He.Defn := [("law", none)]
def exB (K : PySem.W.Frag) : Bool := toldEx K && tabB K "QUARTERS" t_QUARTERS && tabB K "OTHER_SIDE" t_OTHER_SIDE
abbrev Rw : PySem.W.OpenRow := PySem.W.OpenLaw.row PySem.Challenge.rw_flipwalks_k08_whole_all_rounds
abbrev hkL : PySem.W.Hook := He.hookX 4 faL fnL tsL tfL exB
def obL (s : PySem.W.SharedT) : He.AlX := He.obsX 4 faL fnL tsL tfL exB (HandSHeadRun.getT s)
theorem obL_eq (s : PySem.W.SharedT) : obL s = hkL.obs s.abs := He.obsX_eq (HandSHeadRun.getT_eq s)
def lo0 : List Str := ["__name__", "WalkError", "InvalidBoard", "InvalidRule", "InvalidState", "InvalidCell", "InvalidLook", "InvalidTicks", "InvalidSize", "InvalidNumber", "InvalidTurns", "InvalidText", "NothingToUndo", "__name__", "is_whole", "is_row", "is_board", "is_rule", "need_board", "need_rule", "cells_of", "cells", "next_cell", "flipped", "is_black", "__name__", "QUARTERS", "turn_at", "stepped", "round_from"]
def lo1 : List Str := ["__name__", "all_boards", "all_states", "need_size", "all_rounds", "__name__", "OTHER_SIDE", "mirrored_rule", "exchanged_rule", "__name__", "_law_cell", "_law_drawn", "_law_roll", "_law_rounds", "_law_term", "_law_told", "_law_any_rule", "_law_step", "_law_round", "_law_all_boards"]
def loL : List Str := lo0 ++ lo1
theorem runF (w : World) : HandSHeadRun.RunEq Rw (PySem.W.view Rw.prog [50]) hkL obL 6000 loL (w.withFollow "special-get-raises" false) := by
  intro os
  kernel_rfl
theorem runT (w : World) : HandSHeadRun.RunEq Rw (PySem.W.view Rw.prog [50]) hkL obL 6000 loL (w.withFollow "special-get-raises" true) := by
  intro os
  kernel_rfl
theorem runL (w : World) : HandSHeadRun.RunEq Rw (PySem.W.view Rw.prog [50]) hkL obL 6000 loL w := PySem.W.byRow2 "special-get-raises" runF runT w
end Fw

set_option maxRecDepth 100000
set_option linter.all false
set_option Elab.async false
set_option maxHeartbeats 0
namespace Fw
open PySem PySem.Spec PyProof.Rows L2
theorem c_is_whole : chkSs (defScope (top 14)) ["value", "low", "high"] b_is_whole (defBody (top 14)) = true := by decide +kernel
theorem s_is_whole : FnScope ["value", "low", "high"] ["value", "low", "high"] (defScope (top 14)) := C8.fnScope_by (by decide +kernel)
theorem c_is_row : chkSs (defScope (top 15)) ["value", "size", "sign"] b_is_row (defBody (top 15)) = true := by decide +kernel
theorem s_is_row : FnScope ["value", "size", "sign"] ["value", "size"] (defScope (top 15)) := C8.fnScope_by (by decide +kernel)
theorem c_is_board : chkSs (defScope (top 16)) ["value", "size", "one"] b_is_board (defBody (top 16)) = true := by decide +kernel
theorem s_is_board : FnScope ["value", "size", "one"] ["value"] (defScope (top 16)) := C8.fnScope_by (by decide +kernel)
theorem c_is_rule : chkSs (defScope (top 17)) ["value", "sign"] b_is_rule (defBody (top 17)) = true := by decide +kernel
theorem s_is_rule : FnScope ["value", "sign"] ["value"] (defScope (top 17)) := C8.fnScope_by (by decide +kernel)
theorem c_need_board : chkSs (defScope (top 18)) ["board"] b_need_board (defBody (top 18)) = true := by decide +kernel
theorem s_need_board : FnScope ["board"] ["board"] (defScope (top 18)) := C8.fnScope_by (by decide +kernel)
theorem c_need_rule : chkSs (defScope (top 19)) ["rule"] b_need_rule (defBody (top 19)) = true := by decide +kernel
theorem s_need_rule : FnScope ["rule"] ["rule"] (defScope (top 19)) := C8.fnScope_by (by decide +kernel)
theorem c_cells_of : chkSs (defScope (top 20)) ["rows", "columns", "found", "row", "column"] b_cells_of (defBody (top 20)) = true := by decide +kernel
theorem s_cells_of : FnScope ["rows", "columns", "found", "row", "column"] ["rows", "columns"] (defScope (top 20)) := C8.fnScope_by (by decide +kernel)
theorem c_cells : chkSs (defScope (top 21)) ["board"] b_cells (defBody (top 21)) = true := by decide +kernel
theorem s_cells : FnScope ["board"] ["board"] (defScope (top 21)) := C8.fnScope_by (by decide +kernel)
theorem c_next_cell : chkSs (defScope (top 22)) ["board", "cell", "look", "down", "right"] b_next_cell (defBody (top 22)) = true := by decide +kernel
theorem s_next_cell : FnScope ["board", "cell", "look", "down", "right"] ["board", "cell", "look"] (defScope (top 22)) := C8.fnScope_by (by decide +kernel)
theorem c_flipped : chkSs (defScope (top 23)) ["board", "cell", "signs", "sign", "row", "column"] b_flipped (defBody (top 23)) = true := by decide +kernel
theorem s_flipped : FnScope ["board", "cell", "signs", "sign", "row", "column"] ["board", "cell"] (defScope (top 23)) := C8.fnScope_by (by decide +kernel)
theorem c_is_black : chkSs (defScope (top 24)) ["board", "cell"] b_is_black (defBody (top 24)) = true := by decide +kernel
theorem s_is_black : FnScope ["board", "cell"] ["board", "cell"] (defScope (top 24)) := C8.fnScope_by (by decide +kernel)
theorem c_turn_at : chkSs (defScope (top 27)) ["rule", "state"] b_turn_at (defBody (top 27)) = true := by decide +kernel
theorem s_turn_at : FnScope ["rule", "state"] ["rule", "state"] (defScope (top 27)) := C8.fnScope_by (by decide +kernel)
theorem c_stepped : chkSs (defScope (top 28)) ["rule", "state", "look", "made", "board", "cell"] b_stepped (defBody (top 28)) = true := by decide +kernel
theorem s_stepped : FnScope ["rule", "state", "look", "made", "board", "cell"] ["rule", "state"] (defScope (top 28)) := C8.fnScope_by (by decide +kernel)
theorem c_round_from : chkSs (defScope (top 29)) ["rule", "state", "found", "now"] b_round_from (defBody (top 29)) = true := by decide +kernel
theorem s_round_from : FnScope ["rule", "state", "found", "now"] ["rule", "state"] (defScope (top 29)) := C8.fnScope_by (by decide +kernel)
theorem c_all_boards : chkSs (defScope (top 31)) ["rows", "columns", "lines", "turn", "found", "longer", "board", "line"] b_all_boards (defBody (top 31)) = true := by decide +kernel
theorem s_all_boards : FnScope ["rows", "columns", "lines", "turn", "found", "longer", "board", "line"] ["rows", "columns"] (defScope (top 31)) := C8.fnScope_by (by decide +kernel)
theorem c_all_states : chkSs (defScope (top 32)) ["rows", "columns", "cell", "board", "found", "spots", "look"] b_all_states (defBody (top 32)) = true := by decide +kernel
theorem s_all_states : FnScope ["rows", "columns", "cell", "board", "found", "spots", "look"] ["rows", "columns"] (defScope (top 32)) := C8.fnScope_by (by decide +kernel)
theorem c_need_size : chkSs (defScope (top 33)) ["rows", "columns"] b_need_size (defBody (top 33)) = true := by decide +kernel
theorem s_need_size : FnScope ["rows", "columns"] ["rows", "columns"] (defScope (top 33)) := C8.fnScope_by (by decide +kernel)
theorem c_all_rounds : chkSs (defScope (top 34)) ["rule", "rows", "columns", "here", "met", "counts", "state", "some", "one", "size"] b_all_rounds (defBody (top 34)) = true := by decide +kernel
theorem s_all_rounds : FnScope ["rule", "rows", "columns", "here", "met", "counts", "state", "some", "one", "size"] ["rule", "rows", "columns"] (defScope (top 34)) := C8.fnScope_by (by decide +kernel)
theorem c_mirrored_rule : chkSs (defScope (top 37)) ["rule"] b_mirrored_rule (defBody (top 37)) = true := by decide +kernel
theorem s_mirrored_rule : FnScope ["rule"] ["rule"] (defScope (top 37)) := C8.fnScope_by (by decide +kernel)
theorem c_exchanged_rule : chkSs (defScope (top 38)) ["rule"] b_exchanged_rule (defBody (top 38)) = true := by decide +kernel
theorem s_exchanged_rule : FnScope ["rule"] ["rule"] (defScope (top 38)) := C8.fnScope_by (by decide +kernel)
theorem c_law_drawn : chkSs (defScope (top 41)) ["cell", "k", "more"] b_law_drawn (defBody (top 41)) = true := by decide +kernel
theorem s_law_drawn : FnScope ["cell", "k", "more"] ["cell", "k"] (defScope (top 41)) := C8.fnScope_by (by decide +kernel)
theorem c_law_roll : chkSs (defScope (top 42)) ["dice", "many", "told"] b_law_roll (defBody (top 42)) = true := by decide +kernel
theorem s_law_roll : FnScope ["dice", "many", "told"] ["dice", "many"] (defScope (top 42)) := C8.fnScope_by (by decide +kernel)
theorem c_law_any_rule : chkSs (defScope (top 46)) ["dice"] b_law_any_rule (defBody (top 46)) = true := by decide +kernel
theorem s_law_any_rule : FnScope ["dice"] ["dice"] (defScope (top 46)) := C8.fnScope_by (by decide +kernel)
theorem c_law_step : chkSs (defScope (top 47)) ["rule", "state", "black", "turn", "look", "line", "made", "board", "down", "right", "row", "column"] b_law_step (defBody (top 47)) = true := by decide +kernel
theorem s_law_step : FnScope ["rule", "state", "black", "turn", "look", "line", "made", "board", "down", "right", "row", "column"] ["rule", "state"] (defScope (top 47)) := C8.fnScope_by (by decide +kernel)
theorem c_law_round : chkSs (defScope (top 48)) ["rule", "state", "found", "now"] b_law_round (defBody (top 48)) = true := by decide +kernel
theorem s_law_round : FnScope ["rule", "state", "found", "now"] ["rule", "state"] (defScope (top 48)) := C8.fnScope_by (by decide +kernel)
theorem c_law_all_boards : chkSs (defScope (top 49)) ["rows", "columns", "lines", "turn", "found", "longer", "board", "line"] b_law_all_boards (defBody (top 49)) = true := by decide +kernel
theorem s_law_all_boards : FnScope ["rows", "columns", "lines", "turn", "found", "longer", "board", "line"] ["rows", "columns"] (defScope (top 49)) := C8.fnScope_by (by decide +kernel)
theorem c_law_cell : chkSs (defScope (top 40)) ["script", "k"] b_law_cell (defBody (top 40)) = true := by decide +kernel
theorem s_law_cell : FnScope ["script", "k"] ["script", "k"] (defScope (top 40)) := C8.fnScope_by (by decide +kernel)
theorem c_law_rounds : chkSs (defScope (top 43)) ["script", "most", "k"] b_law_rounds (defBody (top 43)) = true := by decide +kernel
theorem s_law_rounds : FnScope ["script", "most", "k"] ["script", "most"] (defScope (top 43)) := C8.fnScope_by (by decide +kernel)
theorem c_law : chkSs (defScope (top 50)) ["script", "dice", "rule", "board", "due", "made", "bad", "rows", "columns", "counts", "total", "cell", "look", "size", "many"] (b_frame 2 b_law) (defBody (top 50)) = true := by decide +kernel
theorem s_law : FnScope ["script", "dice", "rule", "board", "due", "made", "bad", "rows", "columns", "counts", "total", "cell", "look", "size", "many"] ["script"] (defScope (top 50)) := C8.fnScope_by (by decide +kernel)
theorem s_law_term : FnScope ["e", "flags", "kinds", "flag"] ["e"] (defScope (top 44)) := C8.fnScope_by (by decide +kernel)
theorem s_law_told : FnScope ["deed", "e"] ["deed"] (defScope (top 45)) := C8.fnScope_by (by decide +kernel)
section
variable {g : Gm}
theorem n_is_whole : ndSs g false b_is_whole := by
      repeat' first
        | exact True.intro
        | assumption
        | apply And.intro
        | exact Nat.ne_of_beq_eq_false rfl
        | decide
theorem n_is_row : ndSs g false b_is_row := by
      repeat' first
        | exact True.intro
        | assumption
        | apply And.intro
        | exact Nat.ne_of_beq_eq_false rfl
        | decide
theorem n_is_board : ndSs g false b_is_board := by
      repeat' first
        | exact True.intro
        | assumption
        | apply And.intro
        | exact Nat.ne_of_beq_eq_false rfl
        | decide
theorem n_is_rule : ndSs g false b_is_rule := by
      repeat' first
        | exact True.intro
        | assumption
        | apply And.intro
        | exact Nat.ne_of_beq_eq_false rfl
        | decide
theorem n_need_board : ndSs g false b_need_board := by
      repeat' first
        | exact True.intro
        | assumption
        | apply And.intro
        | exact Nat.ne_of_beq_eq_false rfl
        | decide
theorem n_need_rule : ndSs g false b_need_rule := by
      repeat' first
        | exact True.intro
        | assumption
        | apply And.intro
        | exact Nat.ne_of_beq_eq_false rfl
        | decide
theorem n_cells_of : ndSs g false b_cells_of := by
      repeat' first
        | exact True.intro
        | assumption
        | apply And.intro
        | exact Nat.ne_of_beq_eq_false rfl
        | decide
theorem n_cells : ndSs g false b_cells := by
      repeat' first
        | exact True.intro
        | assumption
        | apply And.intro
        | exact Nat.ne_of_beq_eq_false rfl
        | decide
theorem n_next_cell : ndSs g false b_next_cell := by
      repeat' first
        | exact True.intro
        | assumption
        | apply And.intro
        | exact Nat.ne_of_beq_eq_false rfl
        | decide
theorem n_flipped : ndSs g false b_flipped := by
      repeat' first
        | exact True.intro
        | assumption
        | apply And.intro
        | exact Nat.ne_of_beq_eq_false rfl
        | decide
theorem n_is_black : ndSs g false b_is_black := by
      repeat' first
        | exact True.intro
        | assumption
        | apply And.intro
        | exact Nat.ne_of_beq_eq_false rfl
        | decide
theorem n_turn_at : ndSs g false b_turn_at := by
      repeat' first
        | exact True.intro
        | assumption
        | apply And.intro
        | exact Nat.ne_of_beq_eq_false rfl
        | decide
theorem n_stepped (t0 : TabOk g 0 t_QUARTERS) : ndSs g false b_stepped := by
      repeat' first
        | exact True.intro
        | assumption
        | apply And.intro
        | exact Nat.ne_of_beq_eq_false rfl
        | decide
theorem n_round_from : ndSs g false b_round_from := by
      repeat' first
        | exact True.intro
        | assumption
        | apply And.intro
        | exact Nat.ne_of_beq_eq_false rfl
        | decide
theorem n_all_boards : ndSs g false b_all_boards := by
      repeat' first
        | exact True.intro
        | assumption
        | apply And.intro
        | exact Nat.ne_of_beq_eq_false rfl
        | decide
theorem n_all_states : ndSs g false b_all_states := by
      repeat' first
        | exact True.intro
        | assumption
        | apply And.intro
        | exact Nat.ne_of_beq_eq_false rfl
        | decide
theorem n_need_size : ndSs g false b_need_size := by
      repeat' first
        | exact True.intro
        | assumption
        | apply And.intro
        | exact Nat.ne_of_beq_eq_false rfl
        | decide
theorem n_all_rounds : ndSs g false b_all_rounds := by
      repeat' first
        | exact True.intro
        | assumption
        | apply And.intro
        | exact Nat.ne_of_beq_eq_false rfl
        | decide
theorem n_mirrored_rule (t1 : TabOk g 1 t_OTHER_SIDE) : ndSs g false b_mirrored_rule := by
      repeat' first
        | exact True.intro
        | assumption
        | apply And.intro
        | exact Nat.ne_of_beq_eq_false rfl
        | decide
theorem n_exchanged_rule : ndSs g false b_exchanged_rule := by
      repeat' first
        | exact True.intro
        | assumption
        | apply And.intro
        | exact Nat.ne_of_beq_eq_false rfl
        | decide
theorem n_law_drawn : ndSs g false b_law_drawn := by
      repeat' first
        | exact True.intro
        | assumption
        | apply And.intro
        | exact Nat.ne_of_beq_eq_false rfl
        | decide
theorem n_law_roll : ndSs g false b_law_roll := by
      repeat' first
        | exact True.intro
        | assumption
        | apply And.intro
        | exact Nat.ne_of_beq_eq_false rfl
        | decide
theorem n_law_any_rule : ndSs g false b_law_any_rule := by
      repeat' first
        | exact True.intro
        | assumption
        | apply And.intro
        | exact Nat.ne_of_beq_eq_false rfl
        | decide
theorem n_law_step : ndSs g false b_law_step := by
      repeat' first
        | exact True.intro
        | assumption
        | apply And.intro
        | exact Nat.ne_of_beq_eq_false rfl
        | decide
theorem n_law_round : ndSs g false b_law_round := by
      repeat' first
        | exact True.intro
        | assumption
        | apply And.intro
        | exact Nat.ne_of_beq_eq_false rfl
        | decide
theorem n_law_all_boards : ndSs g false b_law_all_boards := by
      repeat' first
        | exact True.intro
        | assumption
        | apply And.intro
        | exact Nat.ne_of_beq_eq_false rfl
        | decide
theorem n_law : ndSs g true (b_frame 2 b_law) := by
      repeat' first
        | exact True.intro
        | assumption
        | apply And.intro
        | exact Nat.ne_of_beq_eq_false rfl
        | decide
theorem n_law_cell : ndSs g false b_law_cell := by
      repeat' first
        | exact True.intro
        | assumption
        | apply And.intro
        | exact Nat.ne_of_beq_eq_false rfl
        | decide
theorem n_law_rounds : ndSs g false b_law_rounds := by
      repeat' first
        | exact True.intro
        | assumption
        | apply And.intro
        | exact Nat.ne_of_beq_eq_false rfl
        | decide
end
section
variable {S : Sup}
theorem a_is_whole : ndASs S b_is_whole := by
      repeat' first
        | exact True.intro
        | assumption
        | apply And.intro
        | exact Nat.ne_of_beq_eq_false rfl
        | decide
theorem a_is_row : ndASs S b_is_row := by
      repeat' first
        | exact True.intro
        | assumption
        | apply And.intro
        | exact Nat.ne_of_beq_eq_false rfl
        | decide
theorem a_is_board (h1 : HasF S.wd S.g S.L 1 2 f_is_row) : ndASs S b_is_board := by
      repeat' first
        | exact True.intro
        | assumption
        | apply And.intro
        | exact Nat.ne_of_beq_eq_false rfl
        | decide
theorem a_is_rule : ndASs S b_is_rule := by
      repeat' first
        | exact True.intro
        | assumption
        | apply And.intro
        | exact Nat.ne_of_beq_eq_false rfl
        | decide
theorem a_need_board (h2 : HasF S.wd S.g S.L 2 1 f_is_board) (e0 : ExcOk S.wd S.g 0) : ndASs S b_need_board := by
      repeat' first
        | exact True.intro
        | assumption
        | apply And.intro
        | exact Nat.ne_of_beq_eq_false rfl
        | decide
theorem a_need_rule (h3 : HasF S.wd S.g S.L 3 1 f_is_rule) (e1 : ExcOk S.wd S.g 1) : ndASs S b_need_rule := by
      repeat' first
        | exact True.intro
        | assumption
        | apply And.intro
        | exact Nat.ne_of_beq_eq_false rfl
        | decide
theorem a_cells_of : ndASs S b_cells_of := by
      repeat' first
        | exact True.intro
        | assumption
        | apply And.intro
        | exact Nat.ne_of_beq_eq_false rfl
        | decide
theorem a_cells (h6 : HasF S.wd S.g S.L 6 1 f_need_board) (h12 : HasF S.wd S.g S.L 12 2 f_cells_of) : ndASs S b_cells := by
      repeat' first
        | exact True.intro
        | assumption
        | apply And.intro
        | exact Nat.ne_of_beq_eq_false rfl
        | decide
theorem a_next_cell : ndASs S b_next_cell := by
      repeat' first
        | exact True.intro
        | assumption
        | apply And.intro
        | exact Nat.ne_of_beq_eq_false rfl
        | decide
theorem a_flipped : ndASs S b_flipped := by
      repeat' first
        | exact True.intro
        | assumption
        | apply And.intro
        | exact Nat.ne_of_beq_eq_false rfl
        | decide
theorem a_is_black : ndASs S b_is_black := by
      repeat' first
        | exact True.intro
        | assumption
        | apply And.intro
        | exact Nat.ne_of_beq_eq_false rfl
        | decide
theorem a_turn_at (h18 : HasF S.wd S.g S.L 18 2 f_is_black) : ndASs S b_turn_at := by
      repeat' first
        | exact True.intro
        | assumption
        | apply And.intro
        | exact Nat.ne_of_beq_eq_false rfl
        | decide
theorem a_stepped (h15 : HasF S.wd S.g S.L 15 3 f_next_cell) (h17 : HasF S.wd S.g S.L 17 2 f_flipped) (h19 : HasF S.wd S.g S.L 19 2 f_turn_at) (d0 : S.tabs 0) : ndASs S b_stepped := by
      repeat' first
        | exact True.intro
        | assumption
        | apply And.intro
        | exact Nat.ne_of_beq_eq_false rfl
        | decide
theorem a_round_from (h20 : HasF S.wd S.g S.L 20 2 f_stepped) : ndASs S b_round_from := by
      repeat' first
        | exact True.intro
        | assumption
        | apply And.intro
        | exact Nat.ne_of_beq_eq_false rfl
        | decide
theorem a_all_boards : ndASs S b_all_boards := by
      repeat' first
        | exact True.intro
        | assumption
        | apply And.intro
        | exact Nat.ne_of_beq_eq_false rfl
        | decide
theorem a_all_states (h12 : HasF S.wd S.g S.L 12 2 f_cells_of) (h35 : HasF S.wd S.g S.L 35 2 f_all_boards) : ndASs S b_all_states := by
      repeat' first
        | exact True.intro
        | assumption
        | apply And.intro
        | exact Nat.ne_of_beq_eq_false rfl
        | decide
theorem a_need_size (h0 : HasF S.wd S.g S.L 0 3 f_is_whole) (e6 : ExcOk S.wd S.g 6) : ndASs S b_need_size := by
      repeat' first
        | exact True.intro
        | assumption
        | apply And.intro
        | exact Nat.ne_of_beq_eq_false rfl
        | decide
theorem a_all_rounds (h7 : HasF S.wd S.g S.L 7 1 f_need_rule) (h23 : HasF S.wd S.g S.L 23 2 f_round_from) (h36 : HasF S.wd S.g S.L 36 2 f_all_states) (h37 : HasF S.wd S.g S.L 37 2 f_need_size) : ndASs S b_all_rounds := by
      repeat' first
        | exact True.intro
        | assumption
        | apply And.intro
        | exact Nat.ne_of_beq_eq_false rfl
        | decide
theorem a_mirrored_rule (h7 : HasF S.wd S.g S.L 7 1 f_need_rule) (d1 : S.tabs 1) : ndASs S b_mirrored_rule := by
      repeat' first
        | exact True.intro
        | assumption
        | apply And.intro
        | exact Nat.ne_of_beq_eq_false rfl
        | decide
theorem a_exchanged_rule (h7 : HasF S.wd S.g S.L 7 1 f_need_rule) : ndASs S b_exchanged_rule := by
      repeat' first
        | exact True.intro
        | assumption
        | apply And.intro
        | exact Nat.ne_of_beq_eq_false rfl
        | decide
theorem a_law_drawn : ndASs S b_law_drawn := by
      repeat' first
        | exact True.intro
        | assumption
        | apply And.intro
        | exact Nat.ne_of_beq_eq_false rfl
        | decide
theorem a_law_roll (h54 : HasF S.wd S.g S.L 54 2 f_law_drawn) : ndASs S b_law_roll := by
      repeat' first
        | exact True.intro
        | assumption
        | apply And.intro
        | exact Nat.ne_of_beq_eq_false rfl
        | decide
theorem a_law_any_rule (h55 : HasF S.wd S.g S.L 55 2 f_law_roll) : ndASs S b_law_any_rule := by
      repeat' first
        | exact True.intro
        | assumption
        | apply And.intro
        | exact Nat.ne_of_beq_eq_false rfl
        | decide
theorem a_law_step : ndASs S b_law_step := by
      repeat' first
        | exact True.intro
        | assumption
        | apply And.intro
        | exact Nat.ne_of_beq_eq_false rfl
        | decide
theorem a_law_round (h59 : HasF S.wd S.g S.L 59 2 f_law_step) : ndASs S b_law_round := by
      repeat' first
        | exact True.intro
        | assumption
        | apply And.intro
        | exact Nat.ne_of_beq_eq_false rfl
        | decide
theorem a_law_all_boards : ndASs S b_law_all_boards := by
      repeat' first
        | exact True.intro
        | assumption
        | apply And.intro
        | exact Nat.ne_of_beq_eq_false rfl
        | decide
theorem a_law (h13 : HasF S.wd S.g S.L 13 1 f_cells) (h38 : HasF S.wd S.g S.L 38 3 f_all_rounds) (h42 : HasF S.wd S.g S.L 42 1 f_mirrored_rule) (h43 : HasF S.wd S.g S.L 43 1 f_exchanged_rule) (h55 : HasF S.wd S.g S.L 55 2 f_law_roll) (h56 : HasF S.wd S.g S.L 56 1 f_law_any_rule) (h61 : HasF S.wd S.g S.L 61 2 f_law_round) (h62 : HasF S.wd S.g S.L 62 2 f_law_all_boards) (h64 : HasS S.wd S.g S.L 64) : ndASs S (b_frame 2 b_law) := by
      repeat' first
        | exact True.intro
        | assumption
        | apply And.intro
        | exact Nat.ne_of_beq_eq_false rfl
        | decide
theorem a_law_cell : ndASs S b_law_cell := by
      repeat' first
        | exact True.intro
        | assumption
        | apply And.intro
        | exact Nat.ne_of_beq_eq_false rfl
        | decide
theorem a_law_rounds (h63 : HasS S.wd S.g S.L 63) : ndASs S b_law_rounds := by
      repeat' first
        | exact True.intro
        | assumption
        | apply And.intro
        | exact Nat.ne_of_beq_eq_false rfl
        | decide
end
theorem factsL {w : World} {K : PySem.W.Frag} {h : Heap} {mg : Str → Option Value} {fa : Addr} (KX : K.In h) (G : h.Ns mainGlobals mg) (c : He.SaysX faL fnL tsL tfL exB w h K) (hmg : mg ("law" : Str) = some (.ref fa)) :
    LamX.LawAtS PySem.Challenge.rw_flipwalks_k08_whole_all_rounds w K (L2N.CX (PySem.Challenge.rw_flipwalks_k08_whole_all_rounds).prog w) 8 63 "script" mg fa h := by
  have d0 : He.SaysD faL fnL K := c.t.d
  have d : He.SaysD (faOf glL frN exL) [] K := by
    refine Prod.ext ?_ rfl
    have z := (He.ba (show ((faL.all fun f => f.ok K) && fnL.all fun d => d.ok K) = true from congrArg (fun z : He.AlD => z.1) d0)).1
    show ((faOf glL frN exL).all (fun f => f.ok K) && true) = true
    rw [Bool.and_true, List.all_eq_true]
    intro f hf
    exact List.all_eq_true.mp z f (by unfold faL; first | exact hf | exact List.mem_append_left _ hf | exact List.mem_append_left _ (List.mem_append_left _ hf))
  obtain ⟨fd0, F0⟩ := d0.def_ 0 (d := dd 14 "is_whole") rfl
  obtain ⟨fd1, F1⟩ := d0.def_ 1 (d := dd 15 "is_row") rfl
  obtain ⟨fd2, F2⟩ := d0.def_ 2 (d := dd 16 "is_board") rfl
  obtain ⟨fd3, F3⟩ := d0.def_ 3 (d := dd 17 "is_rule") rfl
  obtain ⟨fd4, F4⟩ := d0.def_ 4 (d := dd 18 "need_board") rfl
  obtain ⟨fd5, F5⟩ := d0.def_ 5 (d := dd 19 "need_rule") rfl
  obtain ⟨fd6, F6⟩ := d0.def_ 6 (d := dd 20 "cells_of") rfl
  obtain ⟨fd7, F7⟩ := d0.def_ 7 (d := dd 21 "cells") rfl
  obtain ⟨fd8, F8⟩ := d0.def_ 8 (d := dd 22 "next_cell") rfl
  obtain ⟨fd9, F9⟩ := d0.def_ 9 (d := dd 23 "flipped") rfl
  obtain ⟨fd10, F10⟩ := d0.def_ 10 (d := dd 24 "is_black") rfl
  obtain ⟨fd11, F11⟩ := d0.def_ 11 (d := dd 27 "turn_at") rfl
  obtain ⟨fd12, F12⟩ := d0.def_ 12 (d := dd 28 "stepped") rfl
  obtain ⟨fd13, F13⟩ := d0.def_ 13 (d := dd 29 "round_from") rfl
  obtain ⟨fd14, F14⟩ := d0.def_ 14 (d := dd 31 "all_boards") rfl
  obtain ⟨fd15, F15⟩ := d0.def_ 15 (d := dd 32 "all_states") rfl
  obtain ⟨fd16, F16⟩ := d0.def_ 16 (d := dd 33 "need_size") rfl
  obtain ⟨fd17, F17⟩ := d0.def_ 17 (d := dd 34 "all_rounds") rfl
  obtain ⟨fd18, F18⟩ := d0.def_ 18 (d := dd 37 "mirrored_rule") rfl
  obtain ⟨fd19, F19⟩ := d0.def_ 19 (d := dd 38 "exchanged_rule") rfl
  obtain ⟨fd20, F20⟩ := d0.def_ 20 (d := dd 41 "_law_drawn") rfl
  obtain ⟨fd21, F21⟩ := d0.def_ 21 (d := dd 42 "_law_roll") rfl
  obtain ⟨fd22, F22⟩ := d0.def_ 22 (d := dd 46 "_law_any_rule") rfl
  obtain ⟨fd23, F23⟩ := d0.def_ 23 (d := dd 47 "_law_step") rfl
  obtain ⟨fd24, F24⟩ := d0.def_ 24 (d := dd 48 "_law_round") rfl
  obtain ⟨fd25, F25⟩ := d0.def_ 25 (d := dd 49 "_law_all_boards") rfl
  obtain ⟨fd26, F26⟩ := d0.def_ 26 (d := dd 40 "_law_cell") rfl
  obtain ⟨fd27, F27⟩ := d0.def_ 27 (d := dd 43 "_law_rounds") rfl
  obtain ⟨fd28, F28⟩ := d0.def_ 28 (d := dd 50 "law") rfl
  obtain ⟨fd29, F29⟩ := d0.def_ 29 (d := dd 44 "_law_term") rfl
  obtain ⟨fd30, F30⟩ := d0.def_ 30 (d := dd 45 "_law_told") rfl
  have gg : ∀ x : Str, x ∈ glL → mg x = some (.ref (He.ga K x)) := fun x hx => sGlo d KX G hx
  have eL : fa = He.ga K "law" := by
    have z := hmg.symm.trans (gg "law" (by decide +kernel))
    cases z
    rfl
  subst eL
  have hx : exB K = true := c.more
  unfold exB at hx
  simp only [Bool.and_eq_true] at hx
  have frx : ∀ x : Str, x ∈ frN → mg x = none := fun x hx => sFree d KX G hx
  have hb : ∀ x : Str, bltN.contains x = true → mg x = none := fun x hx => frx x (List.mem_append_left _ (List.contains_iff_mem.mp hx))
  refine ⟨fd28, [He.cT K ("law", none)], spLawF K [((He.cT K ("law", none)).2, (("law" : Str) ++ ".<locals>.") ++ "<lambda>")], ?_, ?_, ?_, ?_, ?_, ?_⟩
  · exact fun p hp => c.empty ("law", none) (List.mem_singleton_self _) |> fun z => by rw [List.mem_singleton] at hp; rw [hp]; exact z
  · exact fun p hp => c.out ("law", none) (List.mem_singleton_self _) |> fun z => by rw [List.mem_singleton] at hp; rw [hp]; exact z
  · exact fun p hp => PySem.W.codeHd_of_K KX (c.hd ("law", none) (List.mem_singleton_self _)) |> fun z => by rw [List.mem_singleton] at hp; rw [hp]; exact z
  · have b := FunD.bindsA (ps := ["script"]) F28 (fun _ _ _ _ _ _ us hl => match us, hl with | [_], _ => rfl)
    exact fun s v => b s [v] rfl
  · exact fun H a ns hl _ hT hS => ⟨a, ns, rfl, hS, hl, fun p hp => by rw [List.mem_singleton] at hp; rw [hp]; exact LamX.TabS.nil (hT _ (List.mem_singleton_self _)), fun _ => rfl⟩
  intro base KB GB TB
  let wd : Wd := { prog := (PySem.Challenge.rw_flipwalks_k08_whole_all_rounds).prog, w := w, K := K, mg := mg, base := base }
  let g : Gm := { K := K, cl := clK K, gd := fun i => He.ga K (gnm i), T := [((He.cT K ("law", none)).2, (("law" : Str) ++ ".<locals>.") ++ "<lambda>")], tt := ttN (clK K), sp := fun i => if i = 63 then spCellF K else spRounds K, w := w }
  have t0 : TabOk g 0 t_QUARTERS := tabB_ok (x := "QUARTERS") hx.1.2 rfl
  have d0 : ∀ L, Sup.tabs ⟨wd, g, L⟩ 0 := fun L => ⟨gg "QUARTERS" (by decide +kernel), c.t.tab 0 rfl⟩
  have t1 : TabOk g 1 t_OTHER_SIDE := tabB_ok (x := "OTHER_SIDE") hx.2 rfl
  have d1 : ∀ L, Sup.tabs ⟨wd, g, L⟩ 1 := fun L => ⟨gg "OTHER_SIDE" (by decide +kernel), c.t.tab 1 rfl⟩
  have e0 : ExcOk wd g 0 := by
    obtain ⟨q1, q2, q3, q4⟩ := He.exc_ok (sExc d (x := "InvalidBoard") (by decide +kernel))
    exact ⟨gg "InvalidBoard" (by decide +kernel), q1, q2, q3, q4⟩
  have e1 : ExcOk wd g 1 := by
    obtain ⟨q1, q2, q3, q4⟩ := He.exc_ok (sExc d (x := "InvalidRule") (by decide +kernel))
    exact ⟨gg "InvalidRule" (by decide +kernel), q1, q2, q3, q4⟩
  have e6 : ExcOk wd g 6 := by
    obtain ⟨q1, q2, q3, q4⟩ := He.exc_ok (sExc d (x := "InvalidSize") (by decide +kernel))
    exact ⟨gg "InvalidSize" (by decide +kernel), q1, q2, q3, q4⟩
  have h0 : HasF wd g 1 0 3 f_is_whole := has_ok (S := ⟨wd, g, 0⟩) (i := 0) F0 s_is_whole (gg "is_whole" (by decide +kernel)) (F0.bindsN fun _ _ _ _ _ _ us hl => match us, hl with | [_, _, _], _ => rfl) b_is_whole a_is_whole n_is_whole c_is_whole ⟨rfl, rfl⟩ hb
  have h1 : HasF wd g 1 1 2 f_is_row := has_ok (S := ⟨wd, g, 0⟩) (i := 1) F1 s_is_row (gg "is_row" (by decide +kernel)) (F1.bindsN fun _ _ _ _ _ _ us hl => match us, hl with | [_, _], _ => rfl) b_is_row a_is_row n_is_row c_is_row ⟨rfl, rfl⟩ hb
  have h3 : HasF wd g 1 3 1 f_is_rule := has_ok (S := ⟨wd, g, 0⟩) (i := 3) F3 s_is_rule (gg "is_rule" (by decide +kernel)) (F3.bindsN fun _ _ _ _ _ _ us hl => match us, hl with | [_], _ => rfl) b_is_rule a_is_rule n_is_rule c_is_rule ⟨rfl, rfl⟩ hb
  have h12 : HasF wd g 1 12 2 f_cells_of := has_ok (S := ⟨wd, g, 0⟩) (i := 12) F6 s_cells_of (gg "cells_of" (by decide +kernel)) (F6.bindsN fun _ _ _ _ _ _ us hl => match us, hl with | [_, _], _ => rfl) b_cells_of a_cells_of n_cells_of c_cells_of ⟨rfl, rfl⟩ hb
  have h15 : HasF wd g 1 15 3 f_next_cell := has_ok (S := ⟨wd, g, 0⟩) (i := 15) F8 s_next_cell (gg "next_cell" (by decide +kernel)) (F8.bindsN fun _ _ _ _ _ _ us hl => match us, hl with | [_, _, _], _ => rfl) b_next_cell a_next_cell n_next_cell c_next_cell ⟨rfl, rfl⟩ hb
  have h17 : HasF wd g 1 17 2 f_flipped := has_ok (S := ⟨wd, g, 0⟩) (i := 17) F9 s_flipped (gg "flipped" (by decide +kernel)) (F9.bindsN fun _ _ _ _ _ _ us hl => match us, hl with | [_, _], _ => rfl) b_flipped a_flipped n_flipped c_flipped ⟨rfl, rfl⟩ hb
  have h18 : HasF wd g 1 18 2 f_is_black := has_ok (S := ⟨wd, g, 0⟩) (i := 18) F10 s_is_black (gg "is_black" (by decide +kernel)) (F10.bindsN fun _ _ _ _ _ _ us hl => match us, hl with | [_, _], _ => rfl) b_is_black a_is_black n_is_black c_is_black ⟨rfl, rfl⟩ hb
  have h35 : HasF wd g 1 35 2 f_all_boards := has_ok (S := ⟨wd, g, 0⟩) (i := 35) F14 s_all_boards (gg "all_boards" (by decide +kernel)) (F14.bindsN fun _ _ _ _ _ _ us hl => match us, hl with | [_, _], _ => rfl) b_all_boards a_all_boards n_all_boards c_all_boards ⟨rfl, rfl⟩ hb
  have h54 : HasF wd g 1 54 2 f_law_drawn := has_ok (S := ⟨wd, g, 0⟩) (i := 54) F20 s_law_drawn (gg "_law_drawn" (by decide +kernel)) (F20.bindsN fun _ _ _ _ _ _ us hl => match us, hl with | [_, _], _ => rfl) b_law_drawn a_law_drawn n_law_drawn c_law_drawn ⟨rfl, rfl⟩ hb
  have h59 : HasF wd g 1 59 2 f_law_step := has_ok (S := ⟨wd, g, 0⟩) (i := 59) F23 s_law_step (gg "_law_step" (by decide +kernel)) (F23.bindsN fun _ _ _ _ _ _ us hl => match us, hl with | [_, _], _ => rfl) b_law_step a_law_step n_law_step c_law_step ⟨rfl, rfl⟩ hb
  have h62 : HasF wd g 1 62 2 f_law_all_boards := has_ok (S := ⟨wd, g, 0⟩) (i := 62) F25 s_law_all_boards (gg "_law_all_boards" (by decide +kernel)) (F25.bindsN fun _ _ _ _ _ _ us hl => match us, hl with | [_, _], _ => rfl) b_law_all_boards a_law_all_boards n_law_all_boards c_law_all_boards ⟨rfl, rfl⟩ hb
  have h2 : HasF wd g 2 2 1 f_is_board := has_ok (S := ⟨wd, g, 1⟩) (i := 2) F2 s_is_board (gg "is_board" (by decide +kernel)) (F2.bindsN fun _ _ _ _ _ _ us hl => match us, hl with | [_], _ => rfl) b_is_board (a_is_board (h1.mono (show 1 ≤ 1 by decide))) n_is_board c_is_board ⟨rfl, rfl⟩ hb
  have h7 : HasF wd g 2 7 1 f_need_rule := has_ok (S := ⟨wd, g, 1⟩) (i := 7) F5 s_need_rule (gg "need_rule" (by decide +kernel)) (F5.bindsN fun _ _ _ _ _ _ us hl => match us, hl with | [_], _ => rfl) b_need_rule (a_need_rule (h3.mono (show 1 ≤ 1 by decide)) e1) n_need_rule c_need_rule ⟨rfl, rfl⟩ hb
  have h19 : HasF wd g 2 19 2 f_turn_at := has_ok (S := ⟨wd, g, 1⟩) (i := 19) F11 s_turn_at (gg "turn_at" (by decide +kernel)) (F11.bindsN fun _ _ _ _ _ _ us hl => match us, hl with | [_, _], _ => rfl) b_turn_at (a_turn_at (h18.mono (show 1 ≤ 1 by decide))) n_turn_at c_turn_at ⟨rfl, rfl⟩ hb
  have h36 : HasF wd g 2 36 2 f_all_states := has_ok (S := ⟨wd, g, 1⟩) (i := 36) F15 s_all_states (gg "all_states" (by decide +kernel)) (F15.bindsN fun _ _ _ _ _ _ us hl => match us, hl with | [_, _], _ => rfl) b_all_states (a_all_states (h12.mono (show 1 ≤ 1 by decide)) (h35.mono (show 1 ≤ 1 by decide))) n_all_states c_all_states ⟨rfl, rfl⟩ hb
  have h37 : HasF wd g 2 37 2 f_need_size := has_ok (S := ⟨wd, g, 1⟩) (i := 37) F16 s_need_size (gg "need_size" (by decide +kernel)) (F16.bindsN fun _ _ _ _ _ _ us hl => match us, hl with | [_, _], _ => rfl) b_need_size (a_need_size (h0.mono (show 1 ≤ 1 by decide)) e6) n_need_size c_need_size ⟨rfl, rfl⟩ hb
  have h55 : HasF wd g 2 55 2 f_law_roll := has_ok (S := ⟨wd, g, 1⟩) (i := 55) F21 s_law_roll (gg "_law_roll" (by decide +kernel)) (F21.bindsN fun _ _ _ _ _ _ us hl => match us, hl with | [_, _], _ => rfl) b_law_roll (a_law_roll (h54.mono (show 1 ≤ 1 by decide))) n_law_roll c_law_roll ⟨rfl, rfl⟩ hb
  have h61 : HasF wd g 2 61 2 f_law_round := has_ok (S := ⟨wd, g, 1⟩) (i := 61) F24 s_law_round (gg "_law_round" (by decide +kernel)) (F24.bindsN fun _ _ _ _ _ _ us hl => match us, hl with | [_, _], _ => rfl) b_law_round (a_law_round (h59.mono (show 1 ≤ 1 by decide))) n_law_round c_law_round ⟨rfl, rfl⟩ hb
  have h6 : HasF wd g 3 6 1 f_need_board := has_ok (S := ⟨wd, g, 2⟩) (i := 6) F4 s_need_board (gg "need_board" (by decide +kernel)) (F4.bindsN fun _ _ _ _ _ _ us hl => match us, hl with | [_], _ => rfl) b_need_board (a_need_board (h2.mono (show 2 ≤ 2 by decide)) e0) n_need_board c_need_board ⟨rfl, rfl⟩ hb
  have h20 : HasF wd g 3 20 2 f_stepped := has_ok (S := ⟨wd, g, 2⟩) (i := 20) F12 s_stepped (gg "stepped" (by decide +kernel)) (F12.bindsN fun _ _ _ _ _ _ us hl => match us, hl with | [_, _], _ => rfl) b_stepped (a_stepped (h15.mono (show 1 ≤ 2 by decide)) (h17.mono (show 1 ≤ 2 by decide)) (h19.mono (show 2 ≤ 2 by decide)) (d0 _)) (n_stepped t0) c_stepped ⟨rfl, rfl⟩ hb
  have h42 : HasF wd g 3 42 1 f_mirrored_rule := has_ok (S := ⟨wd, g, 2⟩) (i := 42) F18 s_mirrored_rule (gg "mirrored_rule" (by decide +kernel)) (F18.bindsN fun _ _ _ _ _ _ us hl => match us, hl with | [_], _ => rfl) b_mirrored_rule (a_mirrored_rule (h7.mono (show 2 ≤ 2 by decide)) (d1 _)) (n_mirrored_rule t1) c_mirrored_rule ⟨rfl, rfl⟩ hb
  have h43 : HasF wd g 3 43 1 f_exchanged_rule := has_ok (S := ⟨wd, g, 2⟩) (i := 43) F19 s_exchanged_rule (gg "exchanged_rule" (by decide +kernel)) (F19.bindsN fun _ _ _ _ _ _ us hl => match us, hl with | [_], _ => rfl) b_exchanged_rule (a_exchanged_rule (h7.mono (show 2 ≤ 2 by decide))) n_exchanged_rule c_exchanged_rule ⟨rfl, rfl⟩ hb
  have h56 : HasF wd g 3 56 1 f_law_any_rule := has_ok (S := ⟨wd, g, 2⟩) (i := 56) F22 s_law_any_rule (gg "_law_any_rule" (by decide +kernel)) (F22.bindsN fun _ _ _ _ _ _ us hl => match us, hl with | [_], _ => rfl) b_law_any_rule (a_law_any_rule (h55.mono (show 2 ≤ 2 by decide))) n_law_any_rule c_law_any_rule ⟨rfl, rfl⟩ hb
  have h13 : HasF wd g 4 13 1 f_cells := has_ok (S := ⟨wd, g, 3⟩) (i := 13) F7 s_cells (gg "cells" (by decide +kernel)) (F7.bindsN fun _ _ _ _ _ _ us hl => match us, hl with | [_], _ => rfl) b_cells (a_cells (h6.mono (show 3 ≤ 3 by decide)) (h12.mono (show 1 ≤ 3 by decide))) n_cells c_cells ⟨rfl, rfl⟩ hb
  have h23 : HasF wd g 4 23 2 f_round_from := has_ok (S := ⟨wd, g, 3⟩) (i := 23) F13 s_round_from (gg "round_from" (by decide +kernel)) (F13.bindsN fun _ _ _ _ _ _ us hl => match us, hl with | [_, _], _ => rfl) b_round_from (a_round_from (h20.mono (show 3 ≤ 3 by decide))) n_round_from c_round_from ⟨rfl, rfl⟩ hb
  have h38 : HasF wd g 5 38 3 f_all_rounds := has_ok (S := ⟨wd, g, 4⟩) (i := 38) F17 s_all_rounds (gg "all_rounds" (by decide +kernel)) (F17.bindsN fun _ _ _ _ _ _ us hl => match us, hl with | [_, _, _], _ => rfl) b_all_rounds (a_all_rounds (h7.mono (show 2 ≤ 4 by decide)) (h23.mono (show 4 ≤ 4 by decide)) (h36.mono (show 2 ≤ 4 by decide)) (h37.mono (show 2 ≤ 4 by decide))) n_all_rounds c_all_rounds ⟨rfl, rfl⟩ hb
  have h63 : HasS wd g 1 63 := fnS_ok (S := ⟨wd, g, 0⟩) (i := 63) F26 s_law_cell (gg "_law_cell" (by decide +kernel)) (F26.bindsN fun _ _ _ _ _ _ us hl => match us, hl with | [_, _], _ => rfl) b_law_cell a_law_cell n_law_cell c_law_cell ⟨rfl, rfl⟩ hb (fun vs H Q E z => by obtain ⟨a, ns, k, rfl, _⟩ := (show spCellF K vs H Q E from z); rfl) fun vs H Q E z => cell_rd (show spCellF K vs H Q E from z)
  have h64 : HasS wd g 2 64 := fnS_ok (S := ⟨wd, g, 1⟩) (i := 64) F27 s_law_rounds (gg "_law_rounds" (by decide +kernel)) (F27.bindsN fun _ _ _ _ _ _ us hl => match us, hl with | [_, _], _ => rfl) b_law_rounds (a_law_rounds h63) n_law_rounds c_law_rounds ⟨rfl, rfl⟩ hb (fun vs H Q E z => by obtain ⟨a, ns, k, rfl, _⟩ := (show spRounds K vs H Q E from z); rfl) fun vs H Q E z => rounds_rd rfl (show spRounds K vs H Q E from z)
  have TF : ToldF wd g.cl 1 (He.ga K "_law_told") (He.ga K "_law_term") (He.ga K "WalkError") (defScope (top 45)) :=
    told_of (g := g) (wd := wd) (scM := defScope (top 44)) hx.1.1 rfl (fun i hi => gg _ (by revert i; decide +kernel)) frx (gg "_law_told" (by decide +kernel)) (gg "_law_term" (by decide +kernel)) (gg "WalkError" (by decide +kernel))
      ⟨_, _, F29, fun {X a D fl cA} cr hot hu hN fn m hk hkV hs m0 mS mV mi => term_walk cr hot hu hN fn (fun i hi => by show X.env.scope.names.lookup _ = _; rw [hs]; revert i; decide +kernel) m hk hkV (by rw [hs]; exact .inl (by decide +kernel)) (by rw [hs]; decide +kernel) (by rw [hs]; decide +kernel)
        (by show X.env.scope.names.lookup _ = _; rw [hs]; decide +kernel) m0 (by show X.env.scope.names.lookup _ = _; rw [hs]; decide +kernel) mS (by show X.env.scope.names.lookup _ = _; rw [hs]; decide +kernel) mV (by rw [hN, hs]; exact blkOk_by (by decide +kernel)) (by rw [hs]; decide +kernel) (by rw [hs]; decide +kernel) mi (by decide +kernel)⟩
      (F29.bindsN fun _ _ _ _ _ _ us hl => match us, hl with | [_], _ => rfl) s_law_term ⟨_, _, _, _, _, _, _, _, _, _, _, _, F30, F30.bindsN fun _ _ _ _ _ _ us hl => match us, hl with | [_], _ => rfl⟩ s_law_told (by decide +kernel) (by decide +kernel) (by decide +kernel)
  have h64m : ∀ {L L' : Nat}, HasS wd g L 64 → L ≤ L' → HasS wd g L' 64 := fun ⟨a1, a2, a3, a4, a5, a6, a7⟩ z => ⟨a1, a2, a3, a4, a5, Nat.le_trans a6 z, a7⟩
  exact law_fn (S := ⟨wd, g, 5⟩) (tl := true) F28 s_law (a_law (h13.mono (show 4 ≤ 5 by decide)) (h38.mono (show 5 ≤ 5 by decide)) (h42.mono (show 3 ≤ 5 by decide)) (h43.mono (show 3 ≤ 5 by decide)) (h55.mono (show 2 ≤ 5 by decide)) (h56.mono (show 3 ≤ 5 by decide)) (h61.mono (show 2 ≤ 5 by decide)) (h62.mono (show 1 ≤ 5 by decide)) (h64m h64 (show 2 ≤ 5 by decide))) n_law c_law ⟨rfl, rfl⟩ hb (by decide) (by decide) (by decide) rfl (fun _ => ttN_ok rfl)
    (fun cdv A outer s H E hc ⟨cc, ec⟩ hr _ C => tld_ok (k := 1) C hr (show 1 ≤ 5 by decide) TF rfl (TB _ (List.mem_singleton_self _)) (by
      rcases hc cc ec with z | z
      · show cdv = _
        rw [ec, ← z] <;> rfl
      · exact absurd rfl z) rfl) plain
end Fw
open PySem PySem.W PySem.Calls PyProof.Rows
theorem PySem.Challenge.cw_flipwalks_k08_whole_all_rounds_holds : PySem.Challenge.rw_flipwalks_k08_whole_all_rounds.Holds := by
  w_on; o_law
  refine HandSHeadRun.head_any (r := OpenLaw.row PySem.Challenge.rw_flipwalks_k08_whole_all_rounds) (q := view (OpenLaw.row PySem.Challenge.rw_flipwalks_k08_whole_all_rounds).prog [50]) (H := Fw.hkL) (ob := Fw.obL) (M := 6000) (loose := Fw.loL) (d := HandSHeadRun.topDef (OpenLaw.row PySem.Challenge.rw_flipwalks_k08_whole_all_rounds).prog 50) (kwd := []) Fw.obL_eq
    (by kernel_rfl) (fun s => by kernel_rfl) Fw.runL (by kernel_rfl) (by kernel_rfl) (by kernel_rfl) (by rfl) (by first | assumption | decide +kernel) (by decide +kernel) ⟨rfl, rfl, rfl, rfl, rfl, by decide +kernel⟩ ?hw ?hc
  case hw => w_witness2
  case hc =>
    refine LamX.walk_ofTsE (l := PySem.Challenge.rw_flipwalks_k08_whole_all_rounds) (n := 63) (k := 8) (x := "script") (CX := fun w => L2N.CX (PySem.Challenge.rw_flipwalks_k08_whole_all_rounds).prog w) rfl (by decide) (by kernel_rfl) ⟨rfl, by decide, by decide⟩ ?F (fun w H s e s' z => ?E)
    case F =>
      intro w mg fa h Y G hm
      obtain ⟨K, KX, c⟩ := Y
      have hmg : mg ("law" : PySem.Str) = some (.ref fa) := by
        have e : (HandSHeadRun.topDef (OpenLaw.row PySem.Challenge.rw_flipwalks_k08_whole_all_rounds).prog 50).name = ("law" : PySem.Str) := by kernel_rfl
        rw [← e]
        exact hm
      exact ⟨K, KX, Fw.factsL KX G c hmg⟩
    case E =>
      obtain ⟨_, _, _, _, _, _, _, _, _, _, _, _, z⟩ := z
      exact z

